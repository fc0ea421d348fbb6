/- The law ListsLeaves returns true for every input and leaves it as it was; no conditions. -/
import Derived.Test.YtadmdlpmikoghaaGreatKmM3
import Derived.ProofKit
import Derived.Carry
import Derived.Handed
import Derived.Test.YtadmdlpmikoghaaGreatRows
set_option maxRecDepth 4000
set_option linter.unusedSimpArgs false
set_option linter.unusedVariables false
namespace Go.HL
open Nat renaming reduceAdd→zA,reduceLeDiff→zB,reduceLT→zC,reduceSub→zD,reduceMul→zE,reduceEqDiff→zF,reduceBEq→zG
open Int renaming reduceAdd→zH,reduceToNat→zI
def Apart (u v:AV):Prop:=∀ b off n cap,v=.own b off n cap→q1b u b
theorem LstN.keep {S0 S S':q00} {t sz:Nat} {u u' v:AV} {rows:List (List AV)} (h:LstN S0 S t sz v rows) (ha:Apart u v) (hk:∀ c o,sget S c=some o→q1b u c→sget S' c=some o∧q1b u' c):LstN S0 S' t sz v rows∧Apart u' v:=by
 obtain ⟨hr,⟨rfl,rfl⟩ | ⟨b,cap,rfl,h1,h2,h3⟩⟩:=h
 ·exact ⟨.nil,fun b off n cap h=>by cases h⟩
 ·obtain ⟨k1,k2⟩:=hk b _ h2 (ha b 0 _ _ rfl)
  exact ⟨⟨hr,.inr ⟨b,cap,rfl,h1,k1,h3⟩⟩,fun b' off n cap h=>by cases h;exact k2⟩
theorem Apart.symm {u v:AV} (h:Apart u v):Apart v u:=fun b off n cap hu b' off' n' cap' hv=>Ne.symm (h b' off' n' cap' hv b off n cap hu)
theorem apart_nils {v:AV}:Apart .nils v:=fun b off n cap _=>q3d
structure PrI (S:q00) (bR b2 b3 b5:Nat) (T:List Tk) (v:AV) (p:List Ty×Rd) (S':q00):Prop where
 rd:sget S' bR=some (rdO T p.2)
 c2:sget S' b2=some (.cells 24 [.nils] 1)
 c3:sget S' b3=some (.cells 82 [.int .i64 0,.int .i64 0,.int .i64 0] 3)
 c5:sget S' b5=some (.cells 24 [v] 1)
 lst:LstN S S' 46 2 v (p.1.map tyC)
 asd:∀ c∈[bR,b2,b3,b5],q1b v c
 sub:Sub S S'
theorem PrI.mv {S S':q00} {bR b2 b3 b5:Nat} {T:List Tk} {v:AV} {l:List Ty} {r:Rd} (h:PrI S bR b2 b3 b5 T v (l,r) S') (hd:[bR,b2,b3,b5].Nodup) (hR:sget S bR=none) (r':Rd):PrI S bR b2 b3 b5 T v (l,r') (supd S' bR (rdO T r')):=by
 simp only [List.nodup_cons,List.mem_cons,not_or,List.not_mem_nil,or_false,not_false_eq_true,List.nodup_nil,and_true] at hd
 obtain ⟨⟨n2,n3,n5⟩,⟨m3,m5⟩,l5⟩:=hd
 exact ⟨by rw [q01,if_pos rfl],by rw [q01,if_neg n2];exact h.c2,by rw [q01,if_neg n3];exact h.c3,by rw [q01,if_neg n5];exact h.c5,h.lst.upd (h.asd bR (by simp)) _,h.asd,h.sub.supd hR⟩
structure PrJ (S:q00) (bR b2 b3 b5 b6:Nat) (T:List Tk) (v u:AV) (nm:ByteArray) (l:List Ty) (p:List Rl×Rd) (S':q00):Prop where
 out:PrI S bR b2 b3 b5 T v (l,p.2) S'
 c6:sget S' b6=some (.cells 46 [.str nm,u] 2)
 ins:LstN S S' 53 6 u (p.1.map rlC)
 asd:∀ c∈[bR,b2,b3,b5,b6],q1b u c
 asd6:q1b v b6
 apt:Apart u v
theorem PrJ.mv {S S':q00} {bR b2 b3 b5 b6:Nat} {T:List Tk} {v u:AV} {nm:ByteArray} {l:List Ty} {rs:List Rl} {r:Rd} (h:PrJ S bR b2 b3 b5 b6 T v u nm l (rs,r) S') (hd:[bR,b2,b3,b5].Nodup) (h6:bR≠b6) (hR:sget S bR=none) (r':Rd):PrJ S bR b2 b3 b5 b6 T v u nm l (rs,r') (supd S' bR (rdO T r')):=
 ⟨h.out.mv hd hR r',by rw [q01,if_neg h6];exact h.c6,h.ins.upd (h.asd bR (by simp)) _,h.asd,h.asd6,h.apt⟩
theorem PrJ.more {S S1:q00} {bR b2 b3 b5 b6:Nat} {T:List Tk} {v u:AV} {nm:ByteArray} {l:List Ty} {rs:List Rl} {r:Rd} (h:PrJ S bR b2 b3 b5 b6 T v u nm l (rs,r) S1) (hd6:∀ c∈[bR,b2,b3,b5],b6≠c) (k6:sget S b6=none) (x:Rl) (hlen:rs.length≤100000) {K:q00→Prop} (hK:∀ u' S3,PrJ S bR b2 b3 b5 b6 T v u' nm l (rs++[x],r) S3→K S3) :
  apW S1 53 6 104 u (.sl 6 [rlC x]) fun u' S2=>soW (q0i S2 b6) S2 1 b6 1 u' K:=by
 obtain ⟨⟨hrd,h2,h3,h5,hl,ha,hs⟩,hc6,hin,hau,ha6,hap⟩:=h
 dsimp only at hrd hl hin
 refine hin.app hs (xs:=[rlC x]) (fun r hr=>by rw [List.mem_singleton] at hr;subst hr;exact rlC_len x) (by rw [q0g];rfl) (by simp;omega) ?_
 intro u' S2 k1 k2 k3
 obtain ⟨q6,q6a⟩:=k3 b6 _ hc6 (hau b6 (by simp))
 have hone:=k2.one
 have hac:q08 u'=[u']:=by cases u'<;>first | rfl | cases hone
 obtain ⟨j1,j2⟩:=hl.keep hap k3
 rw [objAt_some.2 q6,q35,hac]
 refine ⟨rfl,by simp,by simp [ones,hone],hK u' _ ⟨⟨?_,?_,?_,?_,j1.upd ha6 _,ha,k1.supd k6⟩,by rw [q01,if_pos rfl];rfl,?_,fun c hc=>?_,ha6,j2⟩⟩
 ·rw [q01,if_neg (hd6 bR (by simp))];exact (k3 bR _ hrd (hau bR (by simp))).1
 ·rw [q01,if_neg (hd6 b2 (by simp))];exact (k3 b2 _ h2 (hau b2 (by simp))).1
 ·rw [q01,if_neg (hd6 b3 (by simp))];exact (k3 b3 _ h3 (hau b3 (by simp))).1
 ·rw [q01,if_neg (hd6 b5 (by simp))];exact (k3 b5 _ h5 (hau b5 (by simp))).1
 ·simpa using k2.upd q6a _
 ·simp only [List.mem_cons,List.not_mem_nil,or_false] at hc
  rcases hc with rfl | rfl | rfl | rfl | rfl
  ·exact (k3 _ _ hrd (hau _ (by simp))).2
  ·exact (k3 _ _ h2 (hau _ (by simp))).2
  ·exact (k3 _ _ h3 (hau _ (by simp))).2
  ·exact (k3 _ _ h5 (hau _ (by simp))).2
  ·exact q6a
theorem Frs.app {S0 S:q00}:∀ {a a' b b':List AV},Frs S0 S a a'→Frs S0 S b b'→Frs S0 S (a++b) (a'++b')
 | [],[],b,b',_,h=>h
 | [],x :: r,b,b',h,_=>by cases h.1
 | x :: r,[],b,b',h,_=>by cases h.1
 | x :: r,y :: r',b,b',h,k=>.cons (h.2 0 x y rfl rfl) (Frs.app ⟨by simpa using h.1,fun i u u' h1 h2=>h.2 (i+1) u u' (by simpa using h1) (by simpa using h2)⟩ k)
theorem PrJ.typ {S S1:q00} {bR b2 b3 b5 b6:Nat} {T:List Tk} {v u:AV} {nm:ByteArray} {l:List Ty} {rs:List Rl} {r:Rd} (h:PrJ S bR b2 b3 b5 b6 T v u nm l (rs,r) S1) (hd:[bR,b2,b3,b5].Nodup) (hd6:∀ c∈[bR,b2,b3,b5],b6≠c) (hn:∀ c∈[bR,b2,b3,b5],sget S c=none) (hlen:l.length≤100000) {q:LE→q00→Prop} {le:LE} (hK:∀ v' S3,PrI S bR b2 b3 b5 T v' (l++[⟨nm,rs⟩],r) S3→q le S3) :
  apW S1 46 2 40 v (.sl 2 [[.str nm,u]]) fun v' S2=>soW (q0i S2 b5) S2 1 b5 0 v' fun S3=>rcW q le S3:=by
 obtain ⟨⟨hrd,h2,h3,h5,hl,ha,hs⟩,hc6,hin,hau,ha6,hap⟩:=h
 dsimp only at hrd hl hin
 have honeu:=hin.one
 refine hl.app hs (xs:=[[.str nm,u]]) (fun r hr=>by rw [List.mem_singleton] at hr;subst hr;rfl) (by simp [ones,honeu];rfl) (by simp;omega) ?_
 intro v' S2 k1 k2 k3
 obtain ⟨q5,q5a⟩:=k3 b5 _ h5 (ha b5 (by simp))
 obtain ⟨qR,qRa⟩:=k3 bR _ hrd (ha bR (by simp))
 obtain ⟨q2,q2a⟩:=k3 b2 _ h2 (ha b2 (by simp))
 obtain ⟨q3,q3a⟩:=k3 b3 _ h3 (ha b3 (by simp))
 obtain ⟨j1,j2⟩:=hin.keep hap.symm k3
 have hone:=k2.one
 have hac:q08 v'=[v']:=by cases v'<;>first | rfl | cases hone
 rw [objAt_some.2 q5,q35,hac]
 refine ⟨rfl,by simp,by simp [ones,hone],?_⟩
 simp only [List.nodup_cons,List.mem_cons,not_or,List.not_mem_nil,or_false,not_false_eq_true,List.nodup_nil,and_true] at hd
 obtain ⟨⟨n2,n3,n5⟩,⟨m3,m5⟩,l5⟩:=hd
 obtain ⟨hr,⟨rfl,h0⟩ | ⟨bv,cap,rfl,e1,e2,e3,e4,e5⟩⟩:=k2
 ·simp at h0
 have dR:=qRa bv 0 _ _ rfl
 have d2:=q2a bv 0 _ _ rfl
 have d3:=q3a bv 0 _ _ rfl
 have d5:=q5a bv 0 _ _ rfl
 let S0:q00:=supd (supd (supd (supd S bR (rdO T r)) b2 (.cells 24 [.nils] 1)) b3 (.cells 82 [.int .i64 0,.int .i64 0,.int .i64 0] 3)) b5 (.cells 24 [.own bv 0 ((l.map tyC)++[[.str nm,u]]).length cap] 1)
 have hS0:Sub S0 (supd S2 b5 (.cells 24 [.own bv 0 ((l.map tyC)++[[.str nm,u]]).length cap] 1)):=by
  intro x y hx
  rw [q01] at hx ⊢
  by_cases g5:b5=x
  ·rw [if_pos g5] at hx ⊢;exact hx
  rw [if_neg g5] at hx ⊢
  rw [q01] at hx
  by_cases g3:b3=x
  ·rw [if_pos g3] at hx;rw [← g3,q3];exact hx
  rw [if_neg g3,q01] at hx
  by_cases g2:b2=x
  ·rw [if_pos g2] at hx;rw [← g2,q2];exact hx
  rw [if_neg g2,q01] at hx
  by_cases gR:bR=x
  ·rw [if_pos gR] at hx;rw [← gR,qR];exact hx
  rw [if_neg gR] at hx
  exact k1 x y hx
 have hv0:sget S0 bv=none:=by
  show sget (supd _ _ _) bv=none
  rw [q01,if_neg d5,q01,if_neg d3,q01,if_neg d2,q01,if_neg dR]
  exact e1
 have hvc:sget (supd S2 b5 (.cells 24 [.own bv 0 ((l.map tyC)++[[.str nm,u]]).length cap] 1)) bv=some (.cells 46 ((l.map tyC)++[[.str nm,u]]).flatten (cap * 2)):=by
  rw [q01,if_neg d5];exact e2
 have hcs:((l.map tyC)++[[.str nm,u]]).flatten=(l.map tyC).flatten++[.str nm,u]:=by simp
 have hcs':((l++[(⟨nm,rs⟩:Ty)]).map tyC).flatten=(l.map tyC).flatten++[.str nm,.sl 6 (rs.map rlC)]:=by simp [tyC]
 have hlen':((l++[(⟨nm,rs⟩:Ty)]).map tyC).length=((l.map tyC)++[[.str nm,u]]).length:=by simp
 refine rcW_cells (cs':=((l++[(⟨nm,rs⟩:Ty)]).map tyC).flatten) hS0 hv0 hvc ?_ (hK (.own bv 0 ((l.map tyC)++[[.str nm,u]]).length cap) _ ⟨?_,?_,?_,?_,⟨fun r hr=>?_,.inr ⟨bv,cap,by rw [hlen'],e1,by rw [q01,if_pos rfl],by rw [hlen'];exact e3,e4,by rw [hlen'];exact e5⟩⟩,fun c hc=>?_,?_⟩)
 ·rw [hcs,hcs']
  refine Frs.app (Frs.same _) (.cons (.same _) (.cons (Fr.lst (t:=53) ?_) .nil))
  obtain ⟨g1,⟨rfl,g2⟩ | ⟨bu,capu,rfl,f1,f2,f3⟩⟩:=j1
  ·exact ⟨g1,.inl ⟨rfl,g2⟩⟩
  ·refine ⟨g1,.inr ⟨bu,capu,rfl,?_,?_,f3⟩⟩
   ·have w5:=hau b5 (by simp) bu 0 _ _ rfl
    have w3:=hau b3 (by simp) bu 0 _ _ rfl
    have w2:=hau b2 (by simp) bu 0 _ _ rfl
    have wR:=hau bR (by simp) bu 0 _ _ rfl
    have wv:=j2 bu 0 _ _ rfl bv 0 _ _ rfl
    rw [q01,if_neg (Ne.symm wv)]
    show sget (supd _ _ _) bu=none
    rw [q01,if_neg w5,q01,if_neg w3,q01,if_neg w2,q01,if_neg wR]
    exact f1
   ·have w5:=hau b5 (by simp) bu 0 _ _ rfl
    rw [q01,if_neg w5];exact f2
 ·rw [q01,if_neg (Ne.symm dR)]
  show sget (supd _ _ _) bR=_
  rw [q01,if_neg (Ne.symm n5),q01,if_neg (Ne.symm n3),q01,if_neg (Ne.symm n2),q01,if_pos rfl]
 ·rw [q01,if_neg (Ne.symm d2)]
  show sget (supd _ _ _) b2=_
  rw [q01,if_neg (Ne.symm m5),q01,if_neg (Ne.symm m3),q01,if_pos rfl]
 ·rw [q01,if_neg (Ne.symm d3)]
  show sget (supd _ _ _) b3=_
  rw [q01,if_neg (Ne.symm l5),q01,if_pos rfl]
 ·rw [q01,if_neg (Ne.symm d5)]
  show sget (supd _ _ _) b5=_
  rw [q01,if_pos rfl]
 ·obtain ⟨t,-,rfl⟩:=List.mem_map.1 hr
  rfl
 ·simp only [List.mem_cons,List.not_mem_nil,or_false] at hc
  rcases hc with rfl | rfl | rfl | rfl
  ·exact qRa
  ·exact q2a
  ·exact q3a
  ·exact q5a
 ·have s1:=(Sub.refl S).supd (o:=rdO T r) (hn bR (by simp))
  exact (((((Sub.refl S).supd (hn bR (by simp))).supd (hn b2 (by simp))).supd (hn b3 (by simp))).supd (hn b5 (by simp))).supd e1
theorem tokL_ne:∀ {f:Nat} {l:List UInt8} {a b:Nat},l.length<f→tokL f l a b≠[]
 | 0,l,a,b,h=>by omega
 | f+1,[],a,b,h=>by simp [tokL]
 | f+1,c :: r,a,b,h=>by
  unfold tokL
  simp only [List.length_cons] at h
  split
  ·exact tokL_ne (by omega)
  ·split
   ·split<;>simp
   ·simp
theorem tokT_pos (s:ByteArray):0<(tokT s).length:=List.length_pos_iff.2 (tokL_ne (by rw [q5e];omega))
def q4l (s:ByteArray):List Ty×AV:=if 4096<s.size then ([],.agg [.int .i64 1,.int .i64 1,.int .i64 2]) else q6h (tokT s)
theorem c_Parse (s:ByteArray):AFun PG nrx44 [.str s] (.tup [scA (q4l s).1,(q4l s).2]):=by
 intro S
 refine wx44 ?_
 unfold Bx44
 intro b2 hb2
 (try simp only [rwp,hwR,zA,zB,zC,zD,zE,zF,zG,zH,zI])
 intro b3 hb3
 have n23:b3≠b2:=q0e hb3 (x:=.cells 24 [.nils] 1) (by rw [q01,if_pos rfl])
 have k3:sget S b3=none:=by rw [q01,if_neg (Ne.symm n23)] at hb3;exact hb3
 (try simp only [rwp,hwR,zA,zB,zC,zD,zE,zF,zG,zH,zI,if_neg n23,if_neg (Ne.symm n23)])
 (refine q04 (fun hl=>?_) (fun hl=>?_)<;>(try simp only [hlc] at hl))
 ·have hpf:q4l s=([],.agg [.int .i64 1,.int .i64 1,.int .i64 2]):=by rw [q4l,if_pos (by omega)]
  rw [hpf]
  refine q4y S (.tup [scA [],.agg [.int .i64 1,.int .i64 1,.int .i64 2]]) (((((Sub.refl S).supd hb2).supd k3).supd hb2).supd k3) ?_ ⟨rfl,rfl⟩
  (try simp only [rwp,hwR,zA,zB,zC,zD,zE,zF,zG,zH,zI,if_neg n23,if_neg (Ne.symm n23)])
  exact .tu (.cons (.ag (.cons (.nils 2) .nil)) (.cons (.same _) .nil))
 have hs:s.size≤4096:=by omega
 have hT:=tokT_ok hs
 have hTl:=hT.len
 have hpf:q4l s=q6h (tokT s):=by rw [q4l,if_neg (by omega)]
 refine q05 (c_Tokens hs) ?_
 have hpos:=tokT_pos s
 rw [hpf]
 generalize tokT s=T at hT hpos hTl ⊢
 clear hpf hl hs
 (try simp only [rwp,hwR,zA,zB,zC,zD,zE,zF,zG,zH,zI])
 refine ⟨rfl,rfl,fun bR hbR=>?_⟩
 have nR2:bR≠b2:=q0e hbR (x:=.cells 24 [.nils] 1) (by rw [q01,if_neg n23,q01,if_pos rfl])
 have nR3:bR≠b3:=q0e hbR (x:=.cells 82 [.int .i64 0,.int .i64 0,.int .i64 0] 3) (by rw [q01,if_pos rfl])
 have kR:sget S bR=none:=by rw [q01,if_neg (Ne.symm nR3),q01,if_neg (Ne.symm nR2)] at hbR;exact hbR
 intro b5 hb5
 have n52:b5≠b2:=q0e hb5 (x:=.cells 24 [.nils] 1) (by rw [q01,if_neg nR2,q01,if_neg n23,q01,if_pos rfl])
 have n53:b5≠b3:=q0e hb5 (x:=.cells 82 [.int .i64 0,.int .i64 0,.int .i64 0] 3) (by rw [q01,if_neg nR3,q01,if_pos rfl])
 have n5R:b5≠bR:=by
  rintro rfl
  rw [q01,if_pos rfl] at hb5;cases hb5
 have k5:sget S b5=none:=by rw [q01,if_neg (Ne.symm n5R),q01,if_neg (Ne.symm n53),q01,if_neg (Ne.symm n52)] at hb5;exact hb5
 have hd:[bR,b2,b3,b5].Nodup:=by
  simp only [List.nodup_cons,List.mem_cons,not_or,List.not_mem_nil,or_false,not_false_eq_true,List.nodup_nil,and_true]
  exact ⟨⟨nR2,nR3,Ne.symm n5R⟩,⟨Ne.symm n23,Ne.symm n52⟩,Ne.symm n53⟩
 have hn:∀ c∈[bR,b2,b3,b5],sget S c=none:=by
  intro c hc
  simp only [List.mem_cons,List.not_mem_nil,or_false] at hc
  rcases hc with rfl | rfl | rfl | rfl<;>assumption
 (try simp only [rwp,hwR,zA,zB,zC,zD,zE,zF,zG,zH,zI])
 have hI0:PrI S bR b2 b3 b5 T .nils ([],rd0) (supd (supd (supd (supd S b2 (.cells 24 [.nils] 1)) b3 (.cells 82 [.int .i64 0,.int .i64 0,.int .i64 0] 3)) bR (rdO T rd0)) b5 (.cells 24 [.nils] 1)):=by
  refine ⟨?_,?_,?_,?_,.nil,fun c _=>q3d,((((Sub.refl S).supd hb2).supd k3).supd kR).supd k5⟩<;>simp [q01,n23,nR2,nR3,n52,n53,n5R,Ne.symm n23,Ne.symm nR2,Ne.symm nR3,Ne.symm n52,Ne.symm n53,Ne.symm n5R]
 have hfin:q1y T T.length ([],rd0)=q1y T T.length ([],rd0):=rfl
 have hts:=ts0 (T:=T) hpos
 refine LoopP.introS (fun _:List Ty×Rd=>[(2,.ptr b2 0),(3,.ptr b3 0),(4,.ptr bR 0),(5,.ptr b5 0)])
  (fun p S'=>(∃ v,PrI S bR b2 b3 b5 T v p S')∧TsSt T p∧q1y T T.length p=q1y T T.length ([],rd0)) (fun p=>T.length-p.2.at') ([],rd0) ⟨⟨.nils,hI0⟩,hts,rfl⟩ rfl ?_
 clear hI0 hts hfin
 rintro ⟨l,r⟩ S1 ⟨⟨v,hI⟩,hTs,hf⟩ q hq
 have hp:Pre T 12 r:=hTs.pre
 have hin:r.at'<T.length:=hp.inr
 have hrd:=hI.rd
 have hll:=hTs.len
 dsimp only at hrd hll
 (try simp only [rwp,hwR,zA,zB,zC,zD,zE,zF,zG,zH,zI,C44_1])
 refine (c_is hT hp.inr q1w).ca hrd ?_
 cases hi:isP T q1w r with
 | true=>
  obtain ⟨hp1,hp2,hR,hTs2,hmu⟩:=q7e hT hTs hi
  have hf2:q1y T T.length (l++[⟨q29 T (isR T q1w r),(q3p T T.length ([],q0j T (isR T q1w r))).1⟩],(q3p T T.length ([],q0j T (isR T q1w r))).2)=q1y T T.length ([],rd0):=by
   rw [← hf]
   obtain ⟨m,hm⟩:∃ m,T.length=m+1:=⟨T.length-1,by omega⟩
   conv=>rhs;rw [hm,q1y,if_pos hi]
   exact typesL_more hT hTs2 (by dsimp only;omega) (by dsimp only;omega)
  (try simp only [rwp,hwR,zA,zB,zC,zD,zE,zF,zG,zH,zI])
  refine (c_name hT hp1.inr).ca q16 ?_
  (try simp only [rwp,hwR,zA,zB,zC,zD,zE,zF,zG,zH,zI])
  have hI2:=(hI.mv hd kR (isR T q1w r)).mv hd kR (q0j T (isR T q1w r))
  rw [q0u] at hI2
  generalize q29 T (isR T q1w r)=nm at hf2 hTs2 ⊢
  have hI2':PrI S bR b2 b3 b5 T v (l,q0j T (isR T q1w r)) (supd S1 bR (rdO T (q0j T (isR T q1w r)))):=hI2
  clear hI2
  generalize supd S1 bR (rdO T (q0j T (isR T q1w r)))=S2 at hI2' ⊢
  generalize q0j T (isR T q1w r)=r2 at hI2' hp2 hR hf2 hTs2 hmu
  intro b6 hb6
  (try simp only [rwp,hwR,zA,zB,zC,zD,zE,zF,zG,zH,zI])
  have hd6:∀ c∈[bR,b2,b3,b5],b6≠c:=by
   intro c hc
   simp only [List.mem_cons,List.not_mem_nil,or_false] at hc
   rcases hc with rfl | rfl | rfl | rfl
   ·exact q0e hb6 hI2'.rd
   ·exact q0e hb6 hI2'.c2
   ·exact q0e hb6 hI2'.c3
   ·exact q0e hb6 hI2'.c5
  have k6:=Sub.none hI2'.sub hb6
  have hJ0:PrJ S bR b2 b3 b5 b6 T v .nils nm l ([],r2) (supd S2 b6 (.cells 46 [.str nm,.nils] 2)):=by
   have a6:=hI2'.lst.fresh hb6
   refine ⟨⟨?_,?_,?_,?_,hI2'.lst.upd a6 _,hI2'.asd,hI2'.sub.supd k6⟩,by rw [q01,if_pos rfl],.nil,fun c _=>q3d,a6,apart_nils⟩
   ·rw [q01,if_neg (hd6 bR (by simp))];exact hI2'.rd
   ·rw [q01,if_neg (hd6 b2 (by simp))];exact hI2'.c2
   ·rw [q01,if_neg (hd6 b3 (by simp))];exact hI2'.c3
   ·rw [q01,if_neg (hd6 b5 (by simp))];exact hI2'.c5
  have hRs0:RsSt T r2 ([],r2):=⟨StepR.refl hp2,Nat.zero_le _,fun x hx=>(by cases hx),fun _ x hx=>(by cases hx)⟩
  refine LoopP.introS (fun _:List Rl×Rd=>[(2,.ptr b2 0),(3,.ptr b3 0),(4,.ptr bR 0),(5,.ptr b5 0),(6,.ptr b6 0)])
   (fun p S'=>(∃ u,PrJ S bR b2 b3 b5 b6 T v u nm l p S')∧RsSt T r2 p∧q3p T T.length p=q3p T T.length ([],r2)) (fun p=>T.length-p.2.at') ([],r2) ⟨⟨.nils,hJ0⟩,hRs0,rfl⟩ rfl ?_
  clear hJ0 hRs0 hI2'
  rintro ⟨rs,r3⟩ S3 ⟨⟨u,hJ⟩,hRs,hfr⟩ q2 hq2
  have hp3:=hRs.st.pre hp2
  have hin3:r3.at'<T.length:=hp3.inr
  have hlr:=hRs.len
  dsimp only at hlr
  obtain ⟨k1,k2⟩:=rels_next hT hp2 hRs
  (try simp only [rwp,hwR,zA,zB,zC,zD,zE,zF,zG,zH,zI,C44_4])
  refine (c_rel hT hp3).ca hJ.out.rd ?_
  have hJ2:=hJ.mv hd (Ne.symm (hd6 bR (by simp))) kR (relP T r3).2
  have o6:=objAt_some.2 hJ2.c6
  have o5:=objAt_some.2 hJ2.out.c5
  cases hok:(relP T r3).1.2 with
  | true=>
   obtain ⟨k3',k4⟩:=k1 hok
   have hfr2:q3p T T.length (rs++[(relP T r3).1.1],(relP T r3).2)=q3p T T.length ([],r2):=by
    rw [← hfr]
    obtain ⟨m,hm⟩:∃ m,T.length=m+1:=⟨T.length-1,by omega⟩
    conv=>rhs;rw [hm,q3p,if_pos hok]
    exact relsL_more hT hp2 k3' (by dsimp only;omega) (by dsimp only;omega)
   have hmr:=hJ2.more hd6 k6 (relP T r3).1.1 (by omega) (K:=fun S4=>rcW q2 [(2,.ptr b2 0),(3,.ptr b3 0),(4,.ptr bR 0),(5,.ptr b5 0),(6,.ptr b6 0)] S4) fun u' S4 hJ4=>q09 rfl (hq2 (rs++[(relP T r3).1.1],(relP T r3).2) S4 ⟨⟨u',hJ4⟩,k3',hfr2⟩ (by dsimp only;omega))
   simp only [q0g] at hmr
   (try simp only [rwp,hwR,zA,zB,zC,zD,zE,zF,zG,zH,zI,q0g,q07 o6,q18])
   exact hmr
  | false=>
   have hstop:q3p T T.length (rs,r3)=(rs,(relP T r3).2):=by
    obtain ⟨m,hm⟩:∃ m,T.length=m+1:=⟨T.length-1,by omega⟩
    rw [hm,q3p,if_neg (by rw [hok];simp)]
   rw [hstop] at hfr
   rw [← hfr] at hf2 hTs2 hmu
   have hone:=hJ2.ins.one
   have htp:=hJ2.typ hd hd6 hn (by omega) (q:=q) (le:=[(2,.ptr b2 0),(3,.ptr b3 0),(4,.ptr bR 0),(5,.ptr b5 0)]) fun v' S4 hI4=>hq (l++[⟨nm,rs⟩],(relP T r3).2) S4 ⟨⟨v',hI4⟩,hTs2,hf2⟩ (by dsimp only at hmu ⊢;omega)
   dsimp only
   (try simp only [rwp,hwR,zA,zB,zC,zD,zE,zF,zG,zH,zI,q0g,q07 o6,q07 o5,q18])
   exact htp
 | false=>
  rw [q86 hi,q0n hrd]
  have hstop:q1y T T.length (l,r)=(l,r):=by
   cases T.length with
   | zero=>rfl
   | succ m=>rw [q1y,if_neg (by rw [hi];simp)]
  rw [hstop] at hf
  have ho:=q7h hrd
  (try simp only [rwp,hwR,zA,zB,zC,zD,zE,zF,zG,zH,zI,q07 ho])
  have fin:∀ S2,PrI S bR b2 b3 b5 T v (l,endR T r) S2→C44_3 (fun ae S'=>ae=.ret (.tup [scA (q6h T).1,(q6h T).2])∧S'=S) (.ptr b2 0) (.ptr b3 0) (.ptr bR 0) (.ptr b5 0) S2:=by
   intro S2 hI2
   have hr2:=q7h hI2.rd
   have o2:=objAt_some.2 hI2.c2
   have o3:=objAt_some.2 hI2.c3
   have o5:=objAt_some.2 hI2.c5
   have hone:=hI2.lst.one
   have hac:q08 v=[v]:=by cases v<;>first | rfl | cases hone
   unfold C44_3
   (try simp only [rwp,hwR,zA,zB,zC,zD,zE,zF,zG,zH,zI,q07 hr2])
   have hpt:q6h T=if (endR T r).de=0 then (l,.agg [.int .i64 0,.int .i64 0,.int .i64 0]) else ([],.agg [.int .i64 (endR T r).dl,.int .i64 (endR T r).dc,.int .i64 (endR T r).de]):=by
    rw [q6h,← hf]
   have nR2':b2≠bR:=Ne.symm nR2
   have n32:=Ne.symm n23
   (refine q04 (fun hde=>?_) (fun hde=>?_)<;>(try simp only [hlc] at hde))
   ·rw [if_neg hde] at hpt
    rw [hpt]
    (try simp only [rwp,hwR,zA,zB,zC,zD,zE,zF,zG,zH,zI,o2])
    refine kpW_one (by rw [q01,if_neg nR2']) ?_
    have o3':q0i (supd S2 b2 (.cells 24 [.nils] 1)) b3=some (82,[.int .i64 0,.int .i64 0,.int .i64 0],3):=by rw [q0l n32];exact o3
    (try simp only [rwp,hwR,zA,zB,zC,zD,zE,zF,zG,zH,zI,o3',if_neg n32,o3])
    refine q4y S (.tup [scA [],.agg [.int .i64 (endR T r).dl,.int .i64 (endR T r).dc,.int .i64 (endR T r).de]]) ((hI2.sub.supd hb2).supd k3) ?_ ⟨rfl,rfl⟩
    (try simp only [rwp,hwR,zA,zB,zC,zD,zE,zF,zG,zH,zI,if_neg n23,if_neg n32])
    exact .tu (.cons (.ag (.cons (.nils 2) .nil)) (.cons (.same _) .nil))
   ·rw [if_pos hde] at hpt
    rw [hpt]
    have o3':∀ x,q0i (supd S2 b2 (.cells 24 [x] 1)) b3=some (82,[.int .i64 0,.int .i64 0,.int .i64 0],3):=fun x=>by rw [q0l n32];exact o3
    (try simp only [rwp,hwR,zA,zB,zC,zD,zE,zF,zG,zH,zI,q07 o5,o2,hac,o3',ones,hone,Bool.and_true,if_neg n32,o3])
    refine q4y S (.tup [scA l,.agg [.int .i64 0,.int .i64 0,.int .i64 0]]) ((hI2.sub.supd hb2).supd k3) ?_ ⟨rfl,rfl⟩
    (try simp only [rwp,hwR,zA,zB,zC,zD,zE,zF,zG,zH,zI,if_neg n23,if_neg n32])
    have a2:=hI2.asd b2 (by simp)
    have a3:=hI2.asd b3 (by simp)
    exact .tu (.cons (.ag (.cons (Fr.lst ((hI2.lst.upd a2 _).upd a3 _)) .nil)) (.cons (.same _) .nil))
  cases a1:decide (r.de=0) with
  | false=>
   (try simp only [rwp,hwR,zA,zB,zC,zD,zE,zF,zG,zH,zI,C44_2])
   refine fin S1 ?_
   have:endR T r=r:=by rw [endR,if_neg (fun h=>by rw [decide_eq_true h.1] at a1;cases a1)]
   rw [this]
   exact hI
  | true=>
   have hde:=of_decide_eq_true a1
   (try simp only [rwp,hwR,zA,zB,zC,zD,zE,zF,zG,zH,zI])
   refine (q5d hT hp.inr).ca hrd ?_
   rw [q0n hrd]
   (try simp only [rwp,hwR,zA,zB,zC,zD,zE,zF,zG,zH,zI,tkC])
   cases a2:decide ((nxP T r).s=⟨#[]⟩) with
   | true=>
    (try simp only [rwp,hwR,zA,zB,zC,zD,zE,zF,zG,zH,zI,C44_2])
    refine fin S1 ?_
    have:endR T r=r:=by rw [endR,if_neg (fun h=>h.2 (of_decide_eq_true a2))]
    rw [this]
    exact hI
   | false=>
    (try simp only [rwp,hwR,zA,zB,zC,zD,zE,zF,zG,zH,zI,C44_2])
    refine (q5d hT hp.inr).ca hrd ?_
    rw [q0n hrd]
    (try simp only [rwp,hwR,zA,zB,zC,zD,zE,zF,zG,zH,zI,tkC])
    refine (c_fail (nxP T r) 8).ca hrd ?_
    have:endR T r=q4r (nxP T r) 8 r:=by rw [endR,if_pos ⟨hde,of_decide_eq_false a2⟩]
    rw [← this]
    exact fin _ (hI.mv hd kR _)
theorem parseF_ok {s:ByteArray}:OkS (q4l s).1∧(s.size≤900→OkN (q4l s).1):=by
 unfold q4l
 split
 ·exact ⟨⟨Nat.zero_le _,fun t ht=>(by cases ht)⟩,fun _ t ht=>(by cases ht)⟩
 ·rename_i h
  have hT:=tokT_ok (s:=s) (by omega)
  have hl:=q69 (f:=s.size+1) (l:=bl s) (a:=1) (b:=1)
  rw [q5e] at hl
  obtain ⟨h1,h2⟩:=parseT_ok hT (tokT_pos s)
  refine ⟨h1,fun h t ht r hr=>?_⟩
  have:=h2 t ht r hr
  unfold tokT at this
  omega
set_option maxRecDepth 4000
def cutL (c:Int):List UInt8→Option (List UInt8×List UInt8)
 | []=>none
 | b :: r=>if (b.toNat:Int)=c then some ([],r) else (cutL c r).map fun p=>(b :: p.1,p.2)
theorem cutL_cons {c:Int} {b:UInt8} {r:List UInt8}:cutL c (b :: r)=if (b.toNat:Int)=c then some ([],r) else (cutL c r).map fun p=>(b :: p.1,p.2):=rfl
def cutF (s:ByteArray) (c:Int):ByteArray×ByteArray×Bool:=match cutL c (bl s) with
 | none=>(s,⟨#[]⟩,false)
 | some (a,b)=>(mkB a,mkB b,true)
theorem cutL_len {c:Int}:∀ {l a b:List UInt8},cutL c l=some (a,b)→a.length≤l.length∧b.length≤l.length
 | [],_,_,h=>by cases h
 | x :: r,a,b,h=>by
  unfold cutL at h
  split at h
  ·cases h;exact ⟨Nat.zero_le _,by simp⟩
  ·cases hq:cutL c r with
   | none=>rw [hq] at h;cases h
   | some p=>
    rw [hq] at h
    cases h
    obtain ⟨h1,h2⟩:=cutL_len (a:=p.1) (b:=p.2) hq
    simp only [List.length_cons]
    omega
theorem mkB_len (l:List UInt8):(mkB l).size=l.length:=by simp [mkB,ByteArray.size]
theorem q3v {s:ByteArray} {c:Int}:(cutF s c).1.size≤s.size∧(cutF s c).2.1.size≤s.size:=by
 unfold cutF
 cases h:cutL c (bl s) with
 | none=>exact ⟨Nat.le_refl _,Nat.zero_le _⟩
 | some p=>
  have:=cutL_len (a:=p.1) (b:=p.2) h
  rw [q5e] at this
  exact ⟨by rw [mkB_len];exact this.1,by rw [mkB_len];exact this.2⟩
theorem c_cut {s:ByteArray} (hs:s.size≤1125899906842624) (c:Int):AFun PG nrx133 [.str s,.int .u8 c] (.tup [.str (cutF s c).1,.str (cutF s c).2.1,.bool (cutF s c).2.2]):=by
 intro S
 refine wx133 ?_
 unfold Bx133
 have hln:=q5e s
 refine LoopP.introS (fun i:Nat=>[(0,.str s),(1,.int .u8 c),(7,.int .i64 i)]) (fun i S'=>S'=S∧i≤s.size∧cutL c (bl s)=(cutL c ((bl s).drop i)).map fun p=>((bl s).take i++p.1,p.2)) (fun i=>s.size-i) 0 ⟨rfl,by omega,by cases h:cutL c (bl s)<;>simp [h]⟩ rfl ?_
 rintro i S' ⟨rfl,hi,hc⟩ r hr
 (try simp only [rwp,zA,zB,zC,zD,zE,zF,zG,zH,zI,rwb,reduceIte,C133_1])
 (refine q04 (fun hlt=>?_) (fun hlt=>?_)<;>(try simp only [hlc] at hlt))
 ·obtain ⟨b,hb⟩:=q4i hlt
  have hb':=hb
  rw [bl_get] at hb'
  rw [q0z hb'] at hc
  rw [cutL_cons] at hc
  (try simp only [rwp,zA,zB,zC,zD,zE,zF,zG,zH,zI,rwb,reduceIte,hb])
  (refine q04 (fun hq=>?_) (fun hq=>?_)<;>(try simp only [hlc] at hq))
  ·rw [if_pos hq] at hc
   (simp (disch:=omega) only [q03])
   (try simp only [rwp,zA,zB,zC,zD,zE,zF,zG,zH,zI,rwb,reduceIte,loI,hiI,cutI])
   refine ⟨by omega,by omega,by omega,by omega,by omega,rtW_three ⟨?_,rfl⟩⟩
   unfold cutF
   rw [hc,q5i,q5i]
   simp only [Option.map_some,List.append_nil,List.drop_zero]
   rw [show ((i:Int)+1).toNat=i+1 by omega,List.take_of_length_le (by omega:(bl s).length≤s.size)]
  ·rw [if_neg hq] at hc
   (simp (disch:=omega) only [q03])
   refine q09 rfl (hr (i+1) _ ⟨rfl,by omega,?_⟩ (by omega))
   rw [hc,q0w hb']
   cases cutL c ((bl s).drop (i+1))<;>simp
 ·have e:(bl s).drop i=[]:=List.drop_eq_nil_of_le (by omega)
  rw [e] at hc
  refine rtW_three ⟨?_,rfl⟩
  unfold cutF
  rw [hc]
  rfl
abbrev nob:ByteArray:=⟨#[]⟩
def objF (s:ByteArray):Ob×Bool:=if (cutF s 58).2.2&&(q0p (cutF s 58).1&&idB (cutF s 58).2.1) then (⟨(cutF s 58).1,(cutF s 58).2.1⟩,true) else (⟨nob,nob⟩,false)
def subF (s:ByteArray):Nd×Bool:=if (objF (cutF s 35).1).2&&(!(cutF s 35).2.2||q0p (cutF s 35).2.1) then (⟨(objF (cutF s 35).1).1,(cutF s 35).2.1⟩,true) else (⟨⟨nob,nob⟩,nob⟩,false)
def tupF (s:ByteArray):Tu×Bool:=
 let x:=cutF s 64
 let y:=cutF x.1 35
 let o:=objF y.1
 let w:=subF x.2.1
 if x.2.2&&(y.2.2&&(o.2&&(w.2&&q0p y.2.1))) then (⟨o.1,y.2.1,w.1⟩,true) else (⟨⟨nob,nob⟩,nob,⟨⟨nob,nob⟩,nob⟩⟩,false)
theorem objF_ok {s:ByteArray} (hs:s.size≤1125899906842624):OkO (objF s).1:=by
 have h:=@q3v s 58
 unfold objF
 split
 ·exact ⟨by dsimp only;omega,by dsimp only;omega⟩
 ·exact ⟨Nat.zero_le _,Nat.zero_le _⟩
theorem subF_ok {s:ByteArray} (hs:s.size≤1125899906842624):OkD (subF s).1:=by
 have h:=@q3v s 35
 unfold subF
 split
 ·exact ⟨objF_ok (by omega),by dsimp only;omega⟩
 ·exact ⟨⟨Nat.zero_le _,Nat.zero_le _⟩,Nat.zero_le _⟩
theorem tupF_ok {s:ByteArray} (hs:s.size≤1125899906842624):OkU (tupF s).1:=by
 have h:=@q3v s 64
 have h2:=@q3v (cutF s 64).1 35
 unfold tupF
 dsimp only
 split
 ·exact ⟨objF_ok (by omega),by dsimp only;omega,subF_ok (by omega)⟩
 ·exact ⟨⟨Nat.zero_le _,Nat.zero_le _⟩,Nat.zero_le _,⟨⟨Nat.zero_le _,Nat.zero_le _⟩,Nat.zero_le _⟩⟩
theorem c_Object {s:ByteArray} (hs:s.size≤1125899906842624):AFun PG nrx134 [.str s] (.tup [.agg (obC (objF s).1),.bool (objF s).2]):=by
 intro S
 refine wx134 ?_
 unfold Bx134
 intro b hb
 have hl:=@q3v s 58
 refine q05 (c_cut hs 58) ?_
 (try simp only [rwp,zA,zB,zC,zD,zE,zF,zG,zH,zI,rwb,reduceIte])
 refine q05 (q1t (by omega)) ?_
 refine q05 (c_ref10_ID (by omega)) ?_
 unfold objF
 cases h1:(cutF s 58).2.2<;>cases h2:q0p (cutF s 58).1<;>cases h3:idB (cutF s 58).2.1<;>(try simp only [rwp,zA,zB,zC,zD,zE,zF,zG,zH,zI,rwb,reduceIte,C134_1,C134_2])<;>refine q0y S (Sub.supd hb (Sub.refl _)) ?_<;>(try simp only [rwp,zA,zB,zC,zD,zE,zF,zG,zH,zI,rwb,reduceIte,obC])<;>simp
theorem c_Subject {s:ByteArray} (hs:s.size≤1125899906842624):AFun PG nrx135 [.str s] (.tup [.agg (ndC (subF s).1),.bool (subF s).2]):=by
 intro S
 refine wx135 ?_
 unfold Bx135
 intro b hb
 have hl:=@q3v s 35
 refine q05 (c_cut hs 35) ?_
 (try simp only [rwp,zA,zB,zC,zD,zE,zF,zG,zH,zI,rwb,reduceIte])
 have q:=c_Object (s:=(cutF s 35).1) (by omega)
 simp only [obC] at q
 refine q05 q ?_
 (try simp only [rwp,zA,zB,zC,zD,zE,zF,zG,zH,zI,rwb,reduceIte])
 refine q05 (q1t (by omega)) ?_
 unfold subF
 cases h1:(objF (cutF s 35).1).2<;>cases h2:(cutF s 35).2.2<;>cases h3:q0p (cutF s 35).2.1<;>(try simp only [rwp,zA,zB,zC,zD,zE,zF,zG,zH,zI,rwb,reduceIte,C135_1,C135_2,C135_3])<;>refine q0y S (Sub.supd hb (Sub.refl _)) ?_<;>(try simp only [rwp,zA,zB,zC,zD,zE,zF,zG,zH,zI,rwb,reduceIte,ndC])<;>simp
theorem c_Tuple {s:ByteArray} (hs:s.size≤1125899906842624):AFun PG nrx89 [.str s] (.tup [.agg (tuC (tupF s).1),.bool (tupF s).2]):=by
 intro S
 refine wx89 ?_
 unfold Bx89
 intro b hb
 have hl:=@q3v s 64
 have hl2:=@q3v (cutF s 64).1 35
 refine q05 (c_cut hs 64) ?_
 (try simp only [rwp,zA,zB,zC,zD,zE,zF,zG,zH,zI,rwb,reduceIte])
 refine q05 (c_cut (by omega) 35) ?_
 (try simp only [rwp,zA,zB,zC,zD,zE,zF,zG,zH,zI,rwb,reduceIte])
 have q:=c_Object (s:=(cutF (cutF s 64).1 35).1) (by omega)
 simp only [obC] at q
 refine q05 q ?_
 (try simp only [rwp,zA,zB,zC,zD,zE,zF,zG,zH,zI,rwb,reduceIte])
 have q2:=c_Subject (s:=(cutF s 64).2.1) (by omega)
 simp only [ndC] at q2
 refine q05 q2 ?_
 (try simp only [rwp,zA,zB,zC,zD,zE,zF,zG,zH,zI,rwb,reduceIte])
 refine q05 (q1t (by omega)) ?_
 unfold tupF
 dsimp only
 cases h1:(cutF s 64).2.2<;>cases h2:(cutF (cutF s 64).1 35).2.2<;>cases h3:(objF (cutF (cutF s 64).1 35).1).2<;>cases h4:(subF (cutF s 64).2.1).2<;>cases h5:q0p (cutF (cutF s 64).1 35).2.1<;>(try simp only [rwp,zA,zB,zC,zD,zE,zF,zG,zH,zI,rwb,reduceIte,C89_1,C89_2,C89_3,C89_4])<;>refine q0y S (Sub.supd hb (Sub.refl _)) ?_<;>(try simp only [rwp,zA,zB,zC,zD,zE,zF,zG,zH,zI,rwb,reduceIte,tuC])<;>simp
theorem c_Tuples {l:List ByteArray} (hl:l.length≤1000000) (hs:∀ s∈l,s.size≤1125899906842624):AFun PG nrx45 [.sl 1 (l.map fun s=>[.str s])] (.sl 6 ((l.map fun s=>(tupF s).1).map tuC)):=by
 intro S
 refine wx45 ?_
 unfold Bx45
 refine LoopP.intro (fun x:Nat×AV×q00=>[(0,.sl 1 (l.map fun s=>[.str s])),(3,x.2.1),(4,.int .i64 x.1)]) (fun x=>x.2.2) (fun x=>x.1≤l.length∧Sub S x.2.2∧LstN S x.2.2 tyTu 6 x.2.1 (((l.take x.1).map fun s=>(tupF s).1).map tuC)) (fun x=>l.length-x.1) (0,.nils,S) ⟨by omega,Sub.refl _,LstN.nil⟩ rfl (Sub.refl S) ?_
 rintro ⟨i,v,S'⟩ ⟨hi,hsu,hL⟩ r hr
 dsimp only at hi hsu hL ⊢
 (try simp only [rwp,zA,zB,zC,zD,zE,zF,zG,zH,zI,rwb,reduceIte,C45_1,List.length_map])
 (refine q04 (fun hlt=>?_) (fun hlt=>?_)<;>(try simp only [hlc] at hlt))
 ·obtain ⟨s,hg⟩:=q0s hlt
  (try simp only [rwp,zA,zB,zC,zD,zE,zF,zG,zH,zI,rwb,reduceIte,List.getElem?_map,hg])
  have q:=c_Tuple (hs s (List.mem_of_getElem? hg))
  simp only [tuC] at q
  refine q05 q ?_
  (try simp only [rwp,zA,zB,zC,zD,zE,zF,zG,zH,zI,rwb,reduceIte])
  have e:((l.take i).map fun s=>(tupF s).1).length≤1000000:=by rw [List.length_map,List.length_take];omega
  refine hL.tu (t:=(tupF s).1) hsu e fun v' S2 h1 h2=>?_
  (simp (disch:=omega) only [q03])
  refine q09 rfl (hr (i+1,v',S2) ⟨by dsimp only;omega,h1,?_⟩ (by dsimp only;omega))
  dsimp only
  rw [q0w hg,List.map_append]
  exact h2
 ·have e:l.take i=l:=List.take_of_length_le (by omega)
  rw [e] at hL
  exact q5s hsu hL ⟨rfl,rfl⟩
set_option maxRecDepth 20000
def bUser:ByteArray:=⟨#[117,115,101,114]⟩
def b1':ByteArray:=⟨#[49]⟩
def bA:ByteArray:=⟨#[97]⟩
def oA:Ob:=⟨bUser,bA⟩
set_option maxRecDepth 20000
def bDoc:ByteArray:=⟨#[100,111,99]⟩
def bOwner:ByteArray:=⟨#[111,119,110,101,114]⟩
def bCan:ByteArray:=⟨#[99,97,110]⟩
def tu1:ByteArray:=⟨#[100,111,99,58,49,35,111,119,110,101,114,64,117,115,101,114,58,97]⟩
def oDoc:Ob:=⟨bDoc,b1'⟩
def nCan:Nd:=⟨oDoc,bCan⟩
set_option maxRecDepth 4000
theorem small_ok4 {s:List Ty} {l:List Tu} (h:smallF s l=true) (hl:∀ t∈l,OkU t):OkN s∧OkL l∧l.length≤30:=by
 unfold smallF at h
 rw [Bool.and_eq_true,decide_eq_true_eq] at h
 exact ⟨few_N h.1 (by decide),⟨by omega,hl⟩,by omega⟩
set_option maxRecDepth 4000
set_option maxRecDepth 4000
theorem KO.put {S:q00} {b clk:Nat} {E:List (Ob×Nat)} (h:KO S b E clk) (o:Ob) {K:q00→Prop}
  (hK:∀ S' E' clk',KO S' b E' clk'→(∀ x,x∈E'.map (·.1)↔x∈E.map (·.1)∨x=o)→E'.length≤E.length+1→(∀ c,c≠b→sget S' c=sget S c)→K S'):muW S MO2 (.map (some b)) (.agg (obC o)) (.bool true) K:=by
 have hok:∀ x:Ob,q0m MO2 (.agg (obC x))=true:=fun x=>ke_ob.ok x
 rw [muW_map,mapObj_some.2 h.map,q6l]
 refine ⟨rfl,hok o,?_⟩
 have oth:∀ (y:AObj) c,c≠b→sget (supd S b y) c=sget S c:=fun y c hc=>by rw [q01,if_neg (Ne.symm hc)]
 unfold mset
 cases hf:q0q (enO E) (.agg (obC o)) with
 | none=>
  dsimp only
  have hno:o ∉ E.map (·.1):=by
   intro hm
   obtain ⟨p,hp,rfl⟩:=List.mem_map.1 hm
   have key:∀ {L:List (Ob×Nat)},p∈L→q0q (enO L) (.agg (obC p.1))≠none:=by
    intro L
    induction L with
    | nil=>intro h;cases h
    | cons q r ih=>
     intro hq
     unfold enO
     simp only [List.map_cons,q0q]
     rcases List.mem_cons.1 hq with e | hq
     ·rw [← e,if_pos (q39 (hok p.1))];simp
     ·split
      ·simp
      ·intro h
       rw [Option.map_eq_none_iff] at h
       exact ih hq h
   exact key hp hf
  refine hK _ (E++[(o,clk)]) (clk+1) ⟨by rw [q01,if_pos rfl];unfold enO;rw [List.map_append];rfl,fun p hp=>?_,?_,?_⟩ (fun x=>by rw [List.map_append,List.mem_append];simp) (by simp) (oth _)
  ·rcases List.mem_append.1 hp with hp | hp
   ·exact Nat.lt_succ_of_lt (h.lt p hp)
   ·rw [List.mem_singleton.1 hp];exact Nat.lt_succ_self _
  ·rw [List.map_append,List.nodup_append]
   refine ⟨h.nd,by simp,fun a ha c hc=>?_⟩
   obtain ⟨p,hp,rfl⟩:=List.mem_map.1 ha
   have:=h.lt p hp
   simp only [List.map_cons,List.map_nil,List.mem_singleton] at hc
   omega
  ·rw [List.map_append,List.nodup_append]
   refine ⟨h.ku,by simp,fun a ha c hc=>?_⟩
   simp only [List.map_cons,List.map_nil,List.mem_singleton] at hc
   rw [hc]
   rintro rfl
   exact hno ha
 | some q=>
  obtain ⟨i,v,bn⟩:=q
  dsimp only
  obtain ⟨kk,h1,h2⟩:=q45 hf
  have hi:∃ p,E[i]?=some p∧kk=.agg (obC p.1)∧v=.bool true∧bn=p.2:=by
   unfold enO at h1
   rw [List.getElem?_map] at h1
   cases hE:E[i]? with
   | none=>rw [hE] at h1;cases h1
   | some p=>rw [hE] at h1;simp at h1;exact ⟨p,rfl,h1.1.symm,h1.2.1.symm,h1.2.2.symm⟩
  obtain ⟨p,hp,rfl,rfl,rfl⟩:=hi
  have ho:o=p.1:=ke_ob.inj _ _ ((q3h (hok o) (hok p.1)).1 h2)
  subst ho
  have e:(enO E).set i (.agg (obC p.1),.bool true,p.2)=enO E:=by
   refine List.ext_getElem? fun j=>?_
   rw [List.getElem?_set]
   split
   ·rename_i hj
    subst hj
    rw [h1]
    have:=(List.getElem?_eq_some_iff.1 h1).1
    simp [this]
   ·rfl
  rw [e]
  refine hK _ E clk ⟨by rw [q01,if_pos rfl],h.lt,h.nd,h.ku⟩ (fun x=>⟨.inl,fun h=>h.elim id fun e=>?_⟩) (Nat.le_succ _) (oth _)
  rw [e]
  exact List.mem_map.2 ⟨p,List.mem_of_getElem? hp,rfl⟩
def obsT (typ:ByteArray) (t:Tu):List Ob:=(if t.o.ty=typ then [t.o] else [])++if t.s.o.ty=typ then [t.s.o] else []
def obsL (L:List Tu) (typ:ByteArray):List Ob:=L.flatMap (obsT typ)
def thiF (L:List Tu) (typ:ByteArray):List Ob:=srtO ltO (obsL L typ)
theorem obsL_take {L:List Tu} {typ:ByteArray} {i:Nat} {t:Tu} (h:L[i]?=some t):obsL (L.take (i+1)) typ=obsL (L.take i) typ++obsT typ t:=by
 unfold obsL
 rw [q0w h,List.flatMap_append]
 simp
theorem obsT_len {typ:ByteArray} {t:Tu}:(obsT typ t).length≤2:=by
 unfold obsT
 split<;>split<;>simp
theorem obsL_len {typ:ByteArray}:∀ {L:List Tu},(obsL L typ).length≤2 * L.length
 | []=>by simp [obsL]
 | t :: r=>by
  have h1:=@obsL_len typ r
  have h2:=@obsT_len typ t
  unfold obsL at h1 ⊢
  rw [List.flatMap_cons,List.length_append,List.length_cons]
  omega
theorem srt_same {M M':List Ob} (h:∀ x,x∈M↔x∈M'):srtO ltO M=srtO ltO M':=by
 obtain ⟨k1,k2,-⟩:=q7f stO M _ rfl
 obtain ⟨k3,k4,-⟩:=q7f stO M' _ rfl
 exact Asc.uniq stO k1 k3 fun x=>by rw [k2,k4,h]
theorem c_lThings {L:List Tu} (hL:L.length≤127) (typ:ByteArray):AFun PG nrx34 [.sl 6 (L.map tuC),.str typ] (.sl 2 ((thiF L typ).map obC)):=by
 intro S
 refine wx34 ?_
 unfold Bx34
 (try simp only [rwp,zA,zB,zC,zD,zE,zF,zG,zH,zI,rwb,reduceIte,List.length_map])
 intro b hb
 (try simp only [rwp,zA,zB,zC,zD,zE,zF,zG,zH,zI,rwb,reduceIte,List.length_map])
 refine LoopP.introS (fun i:Nat=>[(1,.str typ),(5,.map (some b)),(11,.sl 6 (L.map tuC)),(12,.int .i64 L.length),(13,.int .i64 i)])
  (fun i S'=>i≤L.length∧(∃ E clk,KO S' b E clk∧E.length≤2 * i∧∀ x,x∈E.map (·.1)↔x∈obsL (L.take i) typ)∧∀ c,c≠b→sget S' c=sget S c) (fun i=>L.length-i) 0
  ⟨by omega,⟨[],0,⟨by rw [q01,if_pos rfl];rfl,fun p hp=>(by cases hp),List.nodup_nil,List.nodup_nil⟩,Nat.zero_le _,fun x=>by simp [obsL]⟩,fun c hc=>by rw [q01,if_neg (Ne.symm hc)]⟩ rfl ?_
 rintro i S2 ⟨hi,⟨E,clk,h1,h2,h3⟩,h4⟩ kk hkk
 (try simp only [rwp,zA,zB,zC,zD,zE,zF,zG,zH,zI,rwb,reduceIte,C34_1])
 cases a1:decide ((i:Int)<L.length)
 ·have e:i=L.length:=by have:=of_decide_eq_false a1;omega
  subst e
  rw [List.take_length] at h3
  (try simp only [rwp,zA,zB,zC,zD,zE,zF,zG,zH,zI,rwb,reduceIte])
  refine q0c (c_sorted h1 (by omega)) ?_
  rintro ae S3 ⟨rfl,rfl⟩
  dsimp only
  refine rtW_sub (S':=S) (fun c o hc=>?_) ⟨?_,rfl⟩
  ·rw [h4 c (Ne.symm (q0e hb hc))];exact hc
  ·unfold thiF
   rw [srt_same h3]
 ·have hlt:=of_decide_eq_true a1
  obtain ⟨t,ht⟩:=q0s hlt
  (try simp only [rwp,zA,zB,zC,zD,zE,zF,zG,zH,zI,rwb,reduceIte,List.getElem?_map,ht,tuC])
  refine LoopP.introS (fun j:Nat=>[(1,.str typ),(5,.map (some b)),(11,.sl 6 (L.map tuC)),(12,.int .i64 L.length),(13,.int .i64 i),(22,.agg [.str t.o.ty,.str t.o.id,.str t.s.o.ty,.str t.s.o.id]),(23,.int .i64 j)])
   (fun j S'=>j≤2∧(∃ E clk,KO S' b E clk∧E.length≤2 * i+j∧∀ x,x∈E.map (·.1)↔x∈obsL (L.take i) typ∨(0<j∧t.o.ty=typ∧x=t.o)∨(1<j∧t.s.o.ty=typ∧x=t.s.o))∧∀ c,c≠b→sget S' c=sget S c) (fun j=>2-j) 0
   ⟨by omega,⟨E,clk,h1,h2,fun x=>by rw [h3];simp⟩,h4⟩ rfl ?_
  rintro j S3 ⟨hj,⟨E3,clk3,g1,g2,g3⟩,g4⟩ k2 hk2
  (try simp only [rwp,zA,zB,zC,zD,zE,zF,zG,zH,zI,rwb,reduceIte,C34_2])
  cases a2:decide ((j:Int)<2)
  ·have e:j=2:=by have:=of_decide_eq_false a2;omega
   subst e
   (try simp only [rwp,zA,zB,zC,zD,zE,zF,zG,zH,zI,rwb,reduceIte])
   (simp (disch:=omega) only [q03])
   refine q09 rfl (hkk (i+1) S3 ⟨by omega,⟨E3,clk3,g1,by omega,fun x=>?_⟩,g4⟩ (by omega))
   rw [g3,obsL_take ht,List.mem_append]
   unfold obsT
   rw [List.mem_append]
   simp only [Nat.zero_lt_succ,Nat.lt_add_one,true_and]
   have e1:x∈(if t.o.ty=typ then [t.o] else [])↔t.o.ty=typ∧x=t.o:=by
    split
    ·rename_i h;simp [h]
    ·rename_i h;simp [h]
   have e2:x∈(if t.s.o.ty=typ then [t.s.o] else [])↔t.s.o.ty=typ∧x=t.s.o:=by
    split
    ·rename_i h;simp [h]
    ·rename_i h;simp [h]
   rw [e1,e2]
  ·have hj2:=of_decide_eq_true a2
   have step:∀ (o:Ob),(j=0→o=t.o)→(j=1→o=t.s.o)→o.ty=typ→muW S3 MO2 (.map (some b)) (.agg (obC o)) (.bool true) fun S=>rcW k2 [(1,.str typ),(5,.map (some b)),(11,.sl 6 (L.map tuC)),(12,.int .i64 L.length),(13,.int .i64 i),(22,.agg [.str t.o.ty,.str t.o.id,.str t.s.o.ty,.str t.s.o.id]),(23,.int .i64 (IntKind.i64.wrap ((j:Int)+1)))] S:=by
    intro o u1 u2 u3
    refine g1.put o fun S' E' clk' v1 v2 v3 v4=>?_
    (simp (disch:=omega) only [q03])
    refine q09 rfl (hk2 (j+1) S' ⟨by omega,⟨E',clk',v1,by omega,fun x=>?_⟩,fun c hc=>(v4 c hc).trans (g4 c hc)⟩ (by omega))
    rw [v2,g3]
    have h01:j=0∨j=1:=by omega
    rcases h01 with e | e
    ·subst e
     have:=u1 rfl
     subst this
     simp [u3]
    ·subst e
     have:=u2 rfl
     subst this
     simp [u3,or_assoc]
   have skip:(j=0→¬ t.o.ty=typ)→(j=1→¬ t.s.o.ty=typ)→rcW k2 [(1,.str typ),(5,.map (some b)),(11,.sl 6 (L.map tuC)),(12,.int .i64 L.length),(13,.int .i64 i),(22,.agg [.str t.o.ty,.str t.o.id,.str t.s.o.ty,.str t.s.o.id]),(23,.int .i64 (IntKind.i64.wrap ((j:Int)+1)))] S3:=by
    intro u1 u2
    (simp (disch:=omega) only [q03])
    refine q09 rfl (hk2 (j+1) S3 ⟨by omega,⟨E3,clk3,g1,by omega,fun x=>?_⟩,g4⟩ (by omega))
    rw [g3]
    have h01:j=0∨j=1:=by omega
    rcases h01 with e | e
    ·subst e
     simp [u1 rfl]
    ·subst e
     simp [u2 rfl]
   have h01:j=0∨j=1:=by omega
   rcases h01 with e | e
   ·subst e
    (try simp only [rwp,zA,zB,zC,zD,zE,zF,zG,zH,zI,rwb,reduceIte])
    have e0:idxaA 2 2 true (.agg [.str t.o.ty,.str t.o.id,.str t.s.o.ty,.str t.s.o.id]) (.int .i64 ((0:Nat):Int))=some (.agg (obC t.o)):=by simp [idxaA,mkA,obC]
    unfold ixW
    rw [e0]
    refine (show ∀ {x:AV} {K:AV→Prop},K x→q0k (some x) K from fun h=>h) ?_
    (try simp only [rwp,zA,zB,zC,zD,zE,zF,zG,zH,zI,rwb,reduceIte,obC])
    cases a3:decide (t.o.ty=typ)
    ·(try simp only [rwp,zA,zB,zC,zD,zE,zF,zG,zH,zI,rwb,reduceIte])
     exact skip (fun _=>of_decide_eq_false a3) (fun h=>by cases h)
    ·(try simp only [rwp,zA,zB,zC,zD,zE,zF,zG,zH,zI,rwb,reduceIte])
     exact step t.o (fun _=>rfl) (fun h=>by cases h) (of_decide_eq_true a3)
   ·subst e
    (try simp only [rwp,zA,zB,zC,zD,zE,zF,zG,zH,zI,rwb,reduceIte])
    have e0:idxaA 2 2 true (.agg [.str t.o.ty,.str t.o.id,.str t.s.o.ty,.str t.s.o.id]) (.int .i64 ((1:Nat):Int))=some (.agg (obC t.s.o)):=by simp [idxaA,mkA,obC]
    unfold ixW
    rw [e0]
    refine (show ∀ {x:AV} {K:AV→Prop},K x→q0k (some x) K from fun h=>h) ?_
    (try simp only [rwp,zA,zB,zC,zD,zE,zF,zG,zH,zI,rwb,reduceIte,obC])
    cases a3:decide (t.s.o.ty=typ)
    ·(try simp only [rwp,zA,zB,zC,zD,zE,zF,zG,zH,zI,rwb,reduceIte])
     exact skip (fun h=>by cases h) (fun _=>of_decide_eq_false a3)
    ·(try simp only [rwp,zA,zB,zC,zD,zE,zF,zG,zH,zI,rwb,reduceIte])
     exact step t.s.o (fun h=>by cases h) (fun _=>rfl) (of_decide_eq_true a3)
set_option maxRecDepth 4000
set_option maxRecDepth 4000
def ck (E:q1v) (B:Int) (n:Nd):Bool×Int×Int:=
 if B<0∨100000<B∨errA (chkF E.s)≠0 then (false,0,1)
 else if q0o E.s n.o.ty n.rl=none then (false,0,6)
 else match askQ E B 50 [] n 0 with
  | none=>(false,0,12)
  | some (b,w)=>(b,w,0)
theorem chk15_ck {E:q1v} {B:Int} {n:Nd}:chk15 E B n=.tup [.bool (ck E B n).1,.int .i64 (ck E B n).2.1,.int .i64 (ck E B n).2.2]:=by
 unfold chk15 ck
 split
 ·rfl
 ·split
  ·rfl
  ·cases askQ E B 50 [] n 0 with
   | none=>rfl
   | some p=>rfl
theorem ck_work {E:q1v} {B:Int} {n:Nd} (h:(ck E B n).2.2=0):1≤(ck E B n).2.1∧(ck E B n).2.1≤B:=by
 unfold ck at h ⊢
 split at h
 ·cases h
 ·rename_i h1
  rw [if_neg h1]
  split at h
  ·cases h
  ·rename_i h2
   rw [if_neg h2]
   cases ha:askQ E B 50 [] n 0 with
   | none=>rw [ha] at h;cases h
   | some p=>
    obtain ⟨b,w⟩:=p
    have:=ask_work (by cases hq:q0o E.s n.o.ty n.rl with
     | none=>exact absurd hq h2
     | some _=>rfl) ha
    dsimp only
    omega
theorem counts_idem {s:List Ty} {l:List Tu}:q0d s (q0d s l)=q0d s l:=by
 unfold q0d
 rw [List.filter_filter]
 congr 1
 funext t
 simp
theorem env_counts16 {s:List Ty} {l:List Tu} {who:Ob}:envE s (q0d s l) who=envE s l who:=by
 unfold envE
 rw [counts_idem]
abbrev CkF:=Ob→Int→Bool×Int×Int
def evF (c:CkF) (B:Int):List Ob→List Ob→Int→List Ob×Int×Int
 | [],out,w=>(out,w,0)
 | o :: r,out,w=>if (c o (B-w)).2.2=0 then evF c B r (if (c o (B-w)).1=true then out++[o] else out) (w+(c o (B-w)).2.1) else ([],0,(c o (B-w)).2.2)
theorem evF_cons {c:CkF} {B:Int} {o:Ob} {r out:List Ob} {w:Int}:evF c B (o :: r) out w=if (c o (B-w)).2.2=0 then evF c B r (if (c o (B-w)).1=true then out++[o] else out) (w+(c o (B-w)).2.1) else ([],0,(c o (B-w)).2.2):=rfl
def eaA (x:List Ob×Int×Int):AV:=.tup [.sl 2 (x.1.map obC),.int .i64 x.2.1,.int .i64 x.2.2]
def CkOk (c:CkF):Prop:=∀ o b,(c o b).2.2=0→1≤(c o b).2.1∧(c o b).2.1≤b
theorem rt3 {S S1:q00} {v:AV} {M:List Ob} {w e:Int} {QF:AEnd→q00→Prop} (hs:Sub S S1) (h:LstN S S1 tyOb 2 v (M.map obC)) (hQ:QF (.ret (eaA (M,w,e))) S):rtW [.tmp v,.tmp (.int .i64 w),.tmp (.int .i64 e)] QF S1:=
 q4y S (eaA (M,w,e)) hs (Fr.tu (.cons (Fr.lst h) (.cons (.same _) (.cons (.same _) .nil)))) hQ
theorem c_each {M:List Ob} {g:Nat} {ca:List AV} {c:CkF} {B:Int} {S:q00} (hM:M.length≤100000) (hB:0≤B∧B≤100000) (hc:CkOk c)
  (hp:∀ S',Sub S S'→∀ o∈M,∀ b,AFunS PG g ([]++[.agg (obC o),.int .i64 b]++ca) S' (.tup [.bool (c o b).1,.int .i64 (c o b).2.1,.int .i64 (c o b).2.2])) :
  AFunS PG nrx71 [.sl 2 (M.map obC),.int .i64 B,.func (.func g) [] ca] S (eaA (evF c B M [] 0)):=by
 refine wx71 ?_
 unfold Bx71
 (try simp only [rwp,zA,zB,zC,zD,zE,zF,zG,zH,zI,rwb,reduceIte,List.length_map])
 refine LoopP.introS (fun x:Nat×AV×Int×List Ob=>[(1,.int .i64 B),(2,.func (.func g) [] ca),(9,x.2.1),(10,.int .i64 x.2.2.1),(16,.sl 2 (M.map obC)),(17,.int .i64 M.length),(18,.int .i64 x.1)])
  (fun x S'=>x.1≤M.length∧Sub S S'∧LstN S S' tyOb 2 x.2.1 (x.2.2.2.map obC)∧x.2.2.2.length≤x.1∧0≤x.2.2.1∧x.2.2.1≤B∧evF c B (M.drop x.1) x.2.2.2 x.2.2.1=evF c B M [] 0) (fun x=>M.length-x.1) (0,.nils,0,[])
  ⟨Nat.zero_le _,Sub.refl _,LstN.nil,Nat.le_refl _,Int.le_refl _,hB.1,rfl⟩ rfl ?_
 rintro ⟨i,v,w,out⟩ S1 ⟨hi,s1,o1,hl,hw0,hw1,he⟩ kk hkk
 dsimp only at hi o1 hl hw0 hw1 he ⊢
 (try simp only [rwp,zA,zB,zC,zD,zE,zF,zG,zH,zI,rwb,reduceIte,C71_1])
 cases a1:decide ((i:Int)<M.length)
 ·have e:i=M.length:=by have:=of_decide_eq_false a1;omega
  subst e
  rw [List.drop_length] at he
  (try simp only [rwp,zA,zB,zC,zD,zE,zF,zG,zH,zI,rwb,reduceIte])
  refine rt3 s1 o1 ⟨?_,rfl⟩
  rw [← he]
  rfl
 ·have hlt:=of_decide_eq_true a1
  obtain ⟨x,hx⟩:=q0s hlt
  rw [q0z hx,evF_cons] at he
  (try simp only [rwp,zA,zB,zC,zD,zE,zF,zG,zH,zI,rwb,reduceIte,List.getElem?_map,hx,obC])
  have q:=hp S1 s1 x (List.mem_of_getElem? hx) (B-w)
  simp only [obC] at q
  rw [show IntKind.i64.wrap (B-w)=B-w from by (try (simp (disch:=omega) only [q03]))]
  refine caW_atv q ?_
  (try simp only [rwp,zA,zB,zC,zD,zE,zF,zG,zH,zI,rwb,reduceIte])
  cases a2:decide ((c x (B-w)).2.2=0)
  ·rw [if_neg (of_decide_eq_false a2)] at he
   (try simp only [rwp,zA,zB,zC,zD,zE,zF,zG,zH,zI,rwb,reduceIte])
   refine rt3 (M:=[]) s1 LstN.nil ⟨?_,rfl⟩
   rw [← he]
  ·have h0:=of_decide_eq_true a2
   rw [if_pos h0] at he
   have hw:=hc x (B-w) h0
   cases a3:(c x (B-w)).1
   ·rw [a3,if_neg (by simp)] at he
    (try simp only [rwp,zA,zB,zC,zD,zE,zF,zG,zH,zI,rwb,reduceIte])
    (simp (disch:=omega) only [q03])
    exact q09 rfl (hkk (i+1,v,w+(c x (B-w)).2.1,out) S1 ⟨by dsimp only;omega,s1,o1,by dsimp only;omega,by dsimp only;omega,by dsimp only;omega,he⟩ (by dsimp only;omega))
   ·rw [a3,if_pos rfl] at he
    (try simp only [rwp,zA,zB,zC,zD,zE,zF,zG,zH,zI,rwb,reduceIte])
    refine LstN.app s1 o1 (xs:=[obC x]) (fun r hr=>by rw [List.mem_singleton.1 hr];rfl) (q2u fun r hr=>by rw [List.mem_singleton.1 hr];rfl) (by simp only [List.length_map,List.length_singleton];omega) fun v' S4 j1 j2 j3=>?_
    (simp (disch:=omega) only [q03])
    refine q09 rfl (hkk (i+1,v',w+(c x (B-w)).2.1,out++[x]) S4 ⟨by dsimp only;omega,j1,?_,by simp only [List.length_append,List.length_singleton];omega,by dsimp only;omega,by dsimp only;omega,he⟩ (by dsimp only;omega))
    dsimp only
    rw [List.map_append]
    exact j2
def lobF (s:List Ty) (l:List Tu) (typ rel:ByteArray) (who:Ob) (B:Int):List Ob×Int×Int:=
 if mayX s B=true then (match q0o s typ rel with
  | none=>([],0,6)
  | some _=>evF (fun o b=>ck (envE s l who) b ⟨o,rel⟩) B (thiF (q0d s l) typ) [] 0)
 else ([],0,1)
theorem thi_len {L:List Tu} {typ:ByteArray}:(thiF L typ).length≤2 * L.length:=by
 unfold thiF
 obtain ⟨-,-,h⟩:=q7f stO (obsL L typ) _ rfl
 exact Nat.le_trans h obsL_len
theorem cnt_cell {s:List Ty} (hs:OkS s) {l:List Tu} (hl:OkL l) {S:q00} {b7 t:Nat} {x:AV} (hb:sget S b7=none) {K:q00→Prop} {Qp:AV→q00→Prop}
  (hK:∀ a S9,q0i S9 b7=some (t,[a],1)→one a=true→FrS (supd S b7 (.cells t [.sl 6 ((q0d s l).map tuC)] 1)) S9→Fr (supd S b7 (.cells t [.sl 6 ((q0d s l).map tuC)] 1)) S9 a (.sl 6 ((q0d s l).map tuC))→(∀ (S2:q00) (K2:AV→Prop),lnW S2 1 a K2=K2 (.int .i64 (q0d s l).length))→K S9) :
  caW PG (supd S b7 (.cells t [x] 1)) (.func (.func nrx70) [] []) [scA s,.sl 6 (l.map tuC)] (fun v S=>stW S 1 (.ptr b7 0) v K) Qp:=by
 refine q0c (c_lcounts hs hl _) ?_
 rintro ae S8 ⟨a,rfl,h1,h2⟩
 dsimp only
 have g8:sget S8 b7=some (.cells t [x] 1):=h1 _ _ (by rw [q01,if_pos rfl])
 have hone:one a=true:=by
  obtain ⟨-,⟨rfl,-⟩ | ⟨b,cap,cs,rfl,-⟩⟩:=h2<;>rfl
 obtain ⟨ha,-⟩:=one_aC hone
 have hfa:Fr (supd S b7 (.cells t [.sl 6 ((q0d s l).map tuC)] 1)) (supd S8 b7 (.cells t [a] 1)) a (.sl 6 ((q0d s l).map tuC)):=by
  obtain ⟨hr,⟨rfl,e⟩ | ⟨b,cap,cs,rfl,k1,k2,k3,k4,k5,k6⟩⟩:=h2
  ·rw [e];exact .nils 6
  ·have hne:b7≠b:=by
    rintro rfl
    rw [q01,if_pos rfl] at k1
    cases k1
   rw [q01,if_neg hne] at k1
   exact .ownW tyTu 6 b _ cap _ cs hr (by rw [q01,if_neg hne];exact k1) (by rw [q01,if_neg hne];exact k2) k3 rfl k5
 unfold stW q4k
 dsimp only
 rw [objAt_some.2 g8]
 dsimp only
 rw [ha]
 refine ⟨rfl,by simp,by simp [ones,hone],?_⟩
 have e:q1j [x] 0 [a]=[a]:=rfl
 rw [e]
 refine hK a _ (by rw [objAt_supd,if_pos rfl]) hone (fun b o' hb'=>?_) hfa (fun S2 K2=>by rw [h2.ln,List.length_map])
 rw [q01] at hb' ⊢
 split at hb'
 ·rename_i e
  rw [if_pos e]
  cases hb'
  exact ⟨_,rfl,.cells _ _ _ _ (.cons hfa .nil)⟩
 ·rename_i e
  rw [if_neg e]
  exact ⟨o',h1 _ _ (by rw [q01,if_neg e];exact hb'),.same _⟩
theorem c_lObjects_1 {s:List Ty} (hs:OkS s) (hN:OkN s) {l:List Tu} (hl:OkL l) {S:q00} {b t:Nat} (hb:sget S b=some (.cells t [.sl 6 ((q0d s l).map tuC)] 1)) (rel:ByteArray) (who o:Ob) (B:Int) :
  AFunS PG nrx72 ([]++[.agg (obC o),.int .i64 B]++[.rop [.sl 2 (s.map tyC)],.ptr b 0,.rop [.str rel],.rop (obC who)]) S (.tup [.bool (ck (envE s l who) B ⟨o,rel⟩).1,.int .i64 (ck (envE s l who) B ⟨o,rel⟩).2.1,.int .i64 (ck (envE s l who) B ⟨o,rel⟩).2.2]):=by
 refine wx72 ?_
 unfold Bx72
 have hc:=q07 (objAt_some.2 hb)
 have q:=c_engine_Check hs hN (q3j hl (s:=s)) ⟨o,rel⟩ who B
 rw [env_counts16,chk15_ck] at q
 simp only [scA,obC] at q
 (try simp only [rwp,zA,zB,zC,zD,zE,zF,zG,zH,zI,rwb,reduceIte,obC,hc])
 refine q05 q ?_
 (try simp only [rwp,zA,zB,zC,zD,zE,zF,zG,zH,zI,rwb,reduceIte])
 exact q0y S (Sub.refl _) ⟨rfl,rfl⟩
theorem c_lObjects {s:List Ty} (hs:OkS s) (hN:OkN s) {l:List Tu} (hl:OkL l) (hlen:l.length≤127) (typ rel:ByteArray) (who:Ob) (B:Int) :
  AFun PG nrx32 [scA s,.sl 6 (l.map tuC),.str typ,.str rel,.agg (obC who),.int .i64 B] (eaA (lobF s l typ rel who B)):=by
 intro S
 refine wx32 ?_
 unfold Bx32
 have q1:=c_lmay hs hN B
 have q2:=q1g hs typ rel
 simp only [scA] at q1 q2
 (try simp only [rwp,zA,zB,zC,zD,zE,zF,zG,zH,zI,rwb,reduceIte,scA,obC])
 refine ⟨rfl,rfl,fun b7 hb7=>?_⟩
 refine q05 q1 ?_
 unfold lobF
 have hs7:∀ o,Sub S (supd S b7 o):=fun o=>Sub.fresh _ hb7
 cases hm:mayX s B
 ·rw [if_neg (by simp)]
  (try simp only [rwp,zA,zB,zC,zD,zE,zF,zG,zH,zI,rwb,reduceIte])
  exact rt3 (M:=[]) (hs7 _) LstN.nil ⟨rfl,rfl⟩
 ·rw [if_pos rfl]
  have hm':=hm
  unfold mayX at hm'
  simp only [Bool.and_eq_true,decide_eq_true_eq] at hm'
  (try simp only [rwp,zA,zB,zC,zD,zE,zF,zG,zH,zI,rwb,reduceIte])
  refine q0c (q2 _) ?_
  rintro ae S' ⟨rfl,rfl⟩
  cases hq:q0o s typ rel with
  | none=>
   dsimp only
   (try simp only [rwp,zA,zB,zC,zD,zE,zF,zG,zH,zI,rwb,reduceIte,zeroR])
   exact rt3 (M:=[]) (hs7 _) LstN.nil ⟨rfl,rfl⟩
  | some p=>
   obtain ⟨fi,fk,r⟩:=p
   dsimp only
   (try simp only [rwp,zA,zB,zC,zD,zE,zF,zG,zH,zI,rwb,reduceIte,q0g])
   have q:=@cnt_cell s hs l hl S b7 25 (.sl 6 (l.map tuC)) hb7
   simp only [scA,q3y] at q
   refine q fun a S9 u1 u2 u3 u4 _=>?_
   have u5:=q07 u1
   (try simp only [rwp,zA,zB,zC,zD,zE,zF,zG,zH,zI,rwb,reduceIte,u5,u2])
   have hlc:(q0d s l).length≤l.length:=List.length_filter_le _ _
   have hln:=hl.n
   have q3:=c_lThings (L:=q0d s l) (by omega) typ (supd S b7 (.cells 25 [.sl 6 ((q0d s l).map tuC)] 1))
   refine q0c (ACalls.frz u3 (.cons u4 (.cons (.same _) .nil)) q3) ?_
   rintro ae S10 ⟨rfl,rfl⟩
   dsimp only
   have hthi:=@thi_len (q0d s l) typ
   have q4:=c_each (g:=nrx72) (ca:=[.rop [.sl 2 (s.map tyC)],.ptr b7 0,.rop [.str rel],.rop (obC who)]) (c:=fun o b=>ck (envE s l who) b ⟨o,rel⟩) (B:=B) (M:=thiF (q0d s l) typ)
    (S:=supd S b7 (.cells 25 [.sl 6 ((q0d s l).map tuC)] 1)) (by omega) ⟨hm'.1,hm'.2.1⟩ (fun o b=>ck_work) fun S' hS' o _ b=>c_lObjects_1 hs hN hl (hS' _ _ (by rw [q01,if_pos rfl])) rel who o b
   simp only [obC] at q4
   refine q1l q4 ?_
   unfold eaA
   (try simp only [rwp,zA,zB,zC,zD,zE,zF,zG,zH,zI,rwb,reduceIte])
   exact q0y S (hs7 _) ⟨rfl,rfl⟩
def Bx {α β:Type} (b:Int) (f g:α→Nat→Option (β×Nat)):Prop:=∀ n w x w',f n w=some (x,w')→w≤w'∧((w:Int)≤b→((w':Int)≤b→g n w=some (x,w'))∧(b<(w':Int)→g n w=none))
abbrev un (f:q4u):Ob×Rl→Nat→Option (Nt×Nat):=fun p w=>f p.1 p.2 w
section
variable {b B:Int} {E:q1v} {f g:q4u}
theorem Bx.fold (h:Bx b (un f) (un g)) (s:List Ty) (ov:ByteArray):∀ (l:List Nd) (ks:List Nt) (w:Nat) (x:List Nt) (w':Nat),q2g s ov f l ks w=some (x,w')→w≤w'∧((w:Int)≤b→((w':Int)≤b→q2g s ov g l ks w=some (x,w'))∧(b<(w':Int)→q2g s ov g l ks w=none))
 | [],ks,w,x,w',e=>by
  simp only [q2g,Option.some.injEq,Prod.mk.injEq] at e
  obtain ⟨rfl,rfl⟩:=e
  exact ⟨Nat.le_refl _,fun hw=>⟨fun _=>rfl,fun h=>by omega⟩⟩
 | y :: r,ks,w,x,w',e=>by
  unfold q2g at e ⊢
  cases hq:q0o s y.o.ty ov with
  | none=>
   rw [hq] at e
   exact Bx.fold h s ov r ks w x w' e
  | some p=>
   obtain ⟨i,k,rl⟩:=p
   rw [hq] at e
   dsimp only at e ⊢
   by_cases h0:y.rl=⟨#[]⟩
   ·rw [if_pos h0] at e
    simp only [if_pos h0]
    cases hs:f y.o rl w with
    | none=>rw [hs] at e;cases e
    | some q=>
     obtain ⟨t,w1⟩:=q
     rw [hs] at e
     dsimp only at e
     obtain ⟨k1,k2⟩:=h (y.o,rl) w t w1 hs
     obtain ⟨m1,m2⟩:=Bx.fold h s ov r (ks++[t]) w1 x w' e
     refine ⟨by omega,fun hw=>?_⟩
     by_cases h4:(w1:Int)≤b
     ·have:=(k2 hw).1 h4
      dsimp only [un] at this
      rw [this]
      exact m2 h4
     ·have:=(k2 hw).2 (by omega)
      dsimp only [un] at this
      rw [this]
      exact ⟨fun h=>by omega,fun _=>rfl⟩
   ·rw [if_neg h0] at e
    simp only [if_neg h0]
    exact Bx.fold h s ov r ks w x w' e
theorem Bx.ex (h:Bx b (un f) (un g)) (o:Ob):∀ m,Bx b (xeQ E f o m) (xeQ E g o m)
 | 0=>fun e w y w' h=>by cases h
 | m+1=>by
  have ih:=Bx.ex h o m
  rintro ⟨k,n,ov,ks⟩ w y w' e
  unfold xeQ at e ⊢
  by_cases h0:k=0
  ·rw [if_pos h0] at e
   simp only [if_pos h0]
   cases hq:q0o E.s o.ty n with
   | none=>rw [hq] at e;cases e
   | some p=>
    obtain ⟨i,j,r⟩:=p
    rw [hq] at e
    exact h (o,r) w y w' e
  ·rw [if_neg h0] at e
   simp only [if_neg h0]
   by_cases h1:k=1
   ·rw [if_pos h1] at e
    simp only [if_pos h1]
    cases hs:q2g E.s ov f (E.of ⟨o,n⟩) [] w with
    | none=>rw [hs] at e;cases e
    | some q=>
     obtain ⟨l,w1⟩:=q
     rw [hs] at e
     simp only [Option.some.injEq,Prod.mk.injEq] at e
     obtain ⟨rfl,rfl⟩:=e
     obtain ⟨k1,k2⟩:=Bx.fold h E.s ov _ _ _ _ _ hs
     exact ⟨k1,fun hw=>⟨fun h=>by rw [(k2 hw).1 h],fun h=>by rw [(k2 hw).2 h]⟩⟩
   ·rw [if_neg h1] at e
    simp only [if_neg h1]
    match ks,e with
    | [a,c],e=>
     dsimp only at e ⊢
     cases hs:xeQ E f o m a w with
     | none=>rw [hs] at e;cases e
     | some q=>
      obtain ⟨x,w1⟩:=q
      rw [hs] at e
      dsimp only at e
      obtain ⟨k1,k2⟩:=ih a w x w1 hs
      cases hs2:xeQ E f o m c w1 with
      | none=>rw [hs2] at e;cases e
      | some q2=>
       obtain ⟨z,w2⟩:=q2
       rw [hs2] at e
       simp only [Option.some.injEq,Prod.mk.injEq] at e
       obtain ⟨rfl,rfl⟩:=e
       obtain ⟨m1,m2⟩:=ih c w1 z w2 hs2
       refine ⟨by omega,fun hw=>?_⟩
       by_cases h4:(w1:Int)≤b
       ·rw [(k2 hw).1 h4]
        dsimp only
        exact ⟨fun h=>by rw [(m2 h4).1 h],fun h=>by rw [(m2 h4).2 h]⟩
       ·rw [(k2 hw).2 (by omega)]
        exact ⟨fun h=>by omega,fun _=>rfl⟩
theorem xn_bu:∀ (fu:Nat) (P:List Nd),Bx b (un (xnQ E B fu P)) (un (xnQ E b fu P))
 | 0,P=>by
  rintro ⟨o,r⟩ w x w' e
  dsimp only [un] at e ⊢
  unfold xnQ xnS at e ⊢
  split at e
  ·cases e
  ·split at e
   ·rename_i h1 h2
    simp only [Option.some.injEq,Prod.mk.injEq] at e
    obtain ⟨rfl,rfl⟩:=e
    refine ⟨by omega,fun hw=>⟨fun h=>?_,fun h=>?_⟩⟩
    ·rw [if_neg (by omega),if_pos h2]
    ·rw [if_pos (by omega)]
   ·cases e
 | fu+1,P=>by
  have ih:=fun P=>xn_bu fu P
  rintro ⟨o,r⟩ w x w' e
  dsimp only [un] at e ⊢
  unfold xnQ xnS at e ⊢
  split at e
  ·cases e
  ·rename_i h1
   split at e
   ·rename_i h2
    simp only [Option.some.injEq,Prod.mk.injEq] at e
    obtain ⟨rfl,rfl⟩:=e
    refine ⟨by omega,fun hw=>⟨fun h=>?_,fun h=>?_⟩⟩
    ·rw [if_neg (by omega),if_pos h2]
    ·rw [if_pos (by omega)]
   ·rename_i h2
    rw [if_neg h2]
    unfold xnT at e ⊢
    by_cases h3:r.refs.length=0
    ·rw [if_pos h3] at e
     rw [if_pos h3]
     cases hs:xeQ E (xnQ E B fu (⟨o,r.name⟩ :: P)) o 12 r.ex (w+1) with
     | none=>rw [hs] at e;cases e
     | some q=>
      obtain ⟨k,w1⟩:=q
      rw [hs] at e
      simp only [Option.some.injEq,Prod.mk.injEq] at e
      obtain ⟨rfl,rfl⟩:=e
      obtain ⟨k1,k2⟩:=Bx.ex (ih (⟨o,r.name⟩ :: P)) o 12 r.ex (w+1) k w1 hs
      refine ⟨by omega,fun hw=>?_⟩
      by_cases h4:b<(w:Int)+1
      ·rw [if_pos h4]
       exact ⟨fun h=>by omega,fun _=>rfl⟩
      ·rw [if_neg h4]
       have k3:=k2 (by omega)
       exact ⟨fun h=>by rw [k3.1 h],fun h=>by rw [k3.2 h]⟩
    ·rw [if_neg h3] at e
     rw [if_neg h3]
     simp only [Option.some.injEq,Prod.mk.injEq] at e
     obtain ⟨rfl,rfl⟩:=e
     refine ⟨by omega,fun hw=>⟨fun h=>?_,fun h=>?_⟩⟩
     ·rw [if_neg (by omega)]
     ·rw [if_pos (by omega)]
theorem xn_pos {fu:Nat} {P:List Nd} {o:Ob} {r:Rl} {w:Nat} {t:Nt} {w':Nat} (h:xnQ E B fu P o r w=some (t,w')):w+1≤w':=by
 have hb:=(xn_bu (b:=w) fu P) (o,r) w t w' h
 refine Nat.lt_of_not_le fun hle=>?_
 have:=(hb.2 (Int.le_refl _)).1 (by omega)
 dsimp only [un] at this
 cases fu with
 | zero=>unfold xnQ xnS at this;rw [if_pos (by omega)] at this;cases this
 | succ f=>unfold xnQ xnS at this;rw [if_pos (by omega)] at this;cases this
end
inductive NtOk (pr:ByteArray→Prop):Nt→Prop
 | mk (l:ByteArray) (ns:List ByteArray) (ks:List Nt) (h1:ns.length≤100000) (h2:ks.length≤100000) (hp:∀ x∈ns,pr x) (h3:∀ x∈ks,NtOk pr x):NtOk pr (.mk l ns ks)
def NodeK (pr:ByteArray→Prop) (f:q4u):Prop:=∀ o r w t w',f o r w=some (t,w')→NtOk pr t
section
variable {pr:ByteArray→Prop} {E:q1v} {f:q4u}
theorem fold_ok (h:NodeK pr f) {s:List Ty} {ov:ByteArray}:∀ {l:List Nd} {ks:List Nt} {w:Nat} {x:List Nt} {w':Nat},q2g s ov f l ks w=some (x,w')→(∀ t∈ks,NtOk pr t)→(∀ t∈x,NtOk pr t)∧x.length≤ks.length+l.length
 | [],ks,w,x,w',e,hk=>by
  simp only [q2g,Option.some.injEq,Prod.mk.injEq] at e
  obtain ⟨rfl,rfl⟩:=e
  exact ⟨hk,by simp⟩
 | y :: r,ks,w,x,w',e,hk=>by
  have skip:q2g s ov f r ks w=some (x,w')→(∀ t∈x,NtOk pr t)∧x.length≤ks.length+(y :: r).length:=fun e=>by
   obtain ⟨a,b⟩:=fold_ok h e hk
   exact ⟨a,by simp only [List.length_cons];omega⟩
  unfold q2g at e
  cases hq:q0o s y.o.ty ov with
  | none=>rw [hq] at e;exact skip e
  | some p=>
   obtain ⟨i,k,rl⟩:=p
   rw [hq] at e
   dsimp only at e
   split at e
   ·cases hs:f y.o rl w with
    | none=>rw [hs] at e;cases e
    | some q=>
     obtain ⟨t,w1⟩:=q
     rw [hs] at e
     obtain ⟨a,b⟩:=fold_ok h e fun u hu=>by
      rcases List.mem_append.1 hu with hu | hu
      ·exact hk u hu
      ·rw [List.mem_singleton.1 hu];exact h _ _ _ _ _ hs
     exact ⟨a,by simp only [List.length_append,List.length_cons,List.length_nil] at b ⊢;omega⟩
   ·exact skip e
theorem ex_ok (h:NodeK pr f) (hlen:∀ n,(E.of n).length≤100000) (o:Ob):∀ (m:Nat) (e:Ex) (w:Nat) (t:Nt) (w':Nat),xeQ E f o m e w=some (t,w')→NtOk pr t
 | 0,e,w,t,w',h=>by cases h
 | m+1,.mk k n ov ks,w,t,w',e=>by
  have ih:=ex_ok h hlen o m
  unfold xeQ at e
  split at e
  ·cases hq:q0o E.s o.ty n with
   | none=>rw [hq] at e;cases e
   | some p=>rw [hq] at e;exact h _ _ _ _ _ e
  ·split at e
   ·cases hs:q2g E.s ov f (E.of ⟨o,n⟩) [] w with
    | none=>rw [hs] at e;cases e
    | some q=>
     obtain ⟨l,w1⟩:=q
     rw [hs] at e
     simp only [Option.some.injEq,Prod.mk.injEq] at e
     obtain ⟨rfl,rfl⟩:=e
     obtain ⟨a,b⟩:=fold_ok h hs fun t ht=>by cases ht
     have:=hlen ⟨o,n⟩
     exact .mk _ _ _ (Nat.zero_le _) (by simp only [List.length_nil] at b;omega) (fun x hx=>by cases hx) a
   ·match ks,e with
    | [a,c],e=>
     dsimp only at e
     cases hs:xeQ E f o m a w with
     | none=>rw [hs] at e;cases e
     | some q=>
      obtain ⟨x,w1⟩:=q
      rw [hs] at e
      dsimp only at e
      cases hs2:xeQ E f o m c w1 with
      | none=>rw [hs2] at e;cases e
      | some q2=>
       obtain ⟨z,w2⟩:=q2
       rw [hs2] at e
       simp only [Option.some.injEq,Prod.mk.injEq] at e
       obtain ⟨rfl,rfl⟩:=e
       refine .mk _ _ _ (Nat.zero_le _) (by simp) (fun x hx=>by cases hx) fun u hu=>?_
       simp only [List.mem_cons,List.not_mem_nil,or_false] at hu
       rcases hu with rfl | rfl
       ·exact ih _ _ _ _ hs
       ·exact ih _ _ _ _ hs2
theorem xn_ok {B:Int} (hlen:∀ n,(E.of n).length≤100000) (h0:pr ⟨#[46,46]⟩) (h1:∀ n,∀ x∈E.of n,pr (q36 x)):∀ (fu:Nat) (P:List Nd),NodeK pr (xnQ E B fu P):=by
 have dots:∀ l,NtOk pr (.mk l [⟨#[46,46]⟩] []):=fun l=>.mk _ _ _ (by simp) (Nat.zero_le _) (fun x hx=>by rw [List.mem_singleton.1 hx];exact h0) fun x hx=>by cases hx
 intro fu
 induction fu with
 | zero=>
  intro P o r w t w' e
  unfold xnQ xnS at e
  split at e
  ·cases e
  ·split at e
   ·simp only [Option.some.injEq,Prod.mk.injEq] at e
    obtain ⟨rfl,rfl⟩:=e
    exact dots _
   ·cases e
 | succ fu ih=>
  intro P o r w t w' e
  unfold xnQ xnS at e
  split at e
  ·cases e
  ·split at e
   ·simp only [Option.some.injEq,Prod.mk.injEq] at e
    obtain ⟨rfl,rfl⟩:=e
    exact dots _
   ·unfold xnT at e
    split at e
    ·cases hs:xeQ E (xnQ E B fu (⟨o,r.name⟩ :: P)) o 12 r.ex (w+1) with
     | none=>rw [hs] at e;cases e
     | some q=>
      obtain ⟨k,w1⟩:=q
      rw [hs] at e
      simp only [Option.some.injEq,Prod.mk.injEq] at e
      obtain ⟨rfl,rfl⟩:=e
      exact .mk _ _ _ (Nat.zero_le _) (by simp) (fun x hx=>by cases hx) fun u hu=>by rw [List.mem_singleton.1 hu];exact ex_ok (ih _) hlen o _ _ _ _ _ hs
    ·simp only [Option.some.injEq,Prod.mk.injEq] at e
     obtain ⟨rfl,rfl⟩:=e
     refine .mk _ _ _ (by rw [List.length_map];exact hlen _) (Nat.zero_le _) (fun x hx=>?_) fun x hx=>by cases hx
     obtain ⟨y,hy,rfl⟩:=List.mem_map.1 hx
     exact h1 _ y hy
end
set_option maxRecDepth 20000
def tx16:ByteArray:=⟨#[116,121,112,101,32,117,115,101,114,32,116,121,112,101,32,100,111,99,32,114,101,108,97,116,105,111,110,32,111,119,110,101,114,58,32,117,115,101,114,32,100,101,102,105,110,101,32,99,97,110,58,32,111,119,110,101,114]⟩
def sc16:List Ty:=(q4l tx16).1
def l16:List Tu:=[⟨oDoc,bOwner,⟨oA,⟨#[]⟩⟩⟩]
def lb1:ByteArray:=⟨#[100,111,99,58,49,35,99,97,110]⟩
def lb2:ByteArray:=⟨#[100,111,99,58,49,35,111,119,110,101,114]⟩
def lb3:ByteArray:=⟨#[117,115,101,114,58,97]⟩
theorem ps16:(q4l tx16).2=.agg [.int .i64 0,.int .i64 0,.int .i64 0]:=by kernel_rfl
theorem t16:([tu1].map fun s=>(tupF s).1)=l16:=by kernel_rfl
theorem ok16:OkS sc16∧OkN sc16:=by
 have h:=parseF_ok (s:=tx16)
 exact ⟨h.1,h.2 (by decide)⟩
theorem okl16:OkL l16:=by
 rw [← t16]
 refine ⟨by decide,fun t ht=>?_⟩
 obtain ⟨s,hs,rfl⟩:=List.mem_map.1 ht
 refine tupF_ok ?_
 simp only [List.mem_cons,List.not_mem_nil,or_false] at hs
 rcases hs with rfl
 decide
theorem x16:chkX sc16 l16 9 nCan=.tup [.agg [.str lb1,.sl 1 [],.sl 3 [[.str lb2,.sl 1 [[.str lb3]],.sl 3 []]]],.int .i64 2,.int .i64 0]:=by kernel_rfl
theorem o16:eaA (lobF sc16 l16 bDoc bCan oA 9)=.tup [.sl 2 [obC oDoc],.int .i64 2,.int .i64 0]:=by kernel_rfl
theorem okDoc:OkO oDoc:=⟨by decide,by decide⟩
theorem c_awake16:AFun PG nrx31 [] (.bool true):=by
 intro S
 refine wx31 ?_
 unfold Bx31
 have r1:=c_Parse tx16
 rw [ps16] at r1
 have r2:=c_Tuples (l:=[tu1]) (by decide) (fun s hs=>by
  simp only [List.mem_cons,List.not_mem_nil,or_false] at hs
  rcases hs with rfl
  decide)
 rw [t16] at r2
 have q1:=c_Expand ok16.1 ok16.2 okl16 (n:=nCan) okDoc 9
 have q2:=c_lObjects ok16.1 ok16.2 okl16 (by decide) bDoc bCan oA 9
 rw [x16] at q1
 rw [o16] at q2
 unfold sc16 at q1 q2
 generalize (q4l tx16).1=sc at r1 q1 q2
 simp only [scA] at r1 q1 q2
 refine q05 r1 ?_
 (try simp only [rwp,zA,zB,zC,zD,zE,zF,zG,zH,zI,rwb,reduceIte])
 intro b1 hb1 b2 hb2
 obtain ⟨d21,hb2'⟩:=frsh hb2
 (try simp only [rwp,zA,zB,zC,zD,zE,zF,zG,zH,zI,rwb,reduceIte,d21,Ne.symm d21])
 refine q05 r2 ?_
 (try simp only [rwp,zA,zB,zC,zD,zE,zF,zG,zH,zI,rwb,reduceIte])
 refine q05 q1 ?_
 generalize hS4:sdel _ b1=S4
 have s4:Sub S S4:=by
  rw [← hS4]
  intro a o ha
  have e3:=q0e hb1 ha
  have e4:=q0e hb2' ha
  simp only [q0a,q01,if_neg e3,if_neg e4]
  exact ha
 (try simp only [rwp,zA,zB,zC,zD,zE,zF,zG,zH,zI,rwb,reduceIte])
 rw [show obC oDoc=[.str ⟨#[100,111,99]⟩,.str ⟨#[49]⟩] from rfl] at q2
 refine q05 q2 ?_
 rw [decide_eq_true (show ((1:Nat):Int)=1 from rfl)]
 (try simp only [rwp,zA,zB,zC,zD,zE,zF,zG,zH,zI,rwb,reduceIte,List.length_cons,List.length_nil])
 rw [decide_eq_true (show ((1:Nat):Int)=1 from rfl)]
 (try simp only [rwp,zA,zB,zC,zD,zE,zF,zG,zH,zI,rwb,reduceIte,C31_1,C31_2,C31_3,C31_4,C31_5,C31_6,List.getElem?_cons_zero])
 exact rtW_sub s4 ⟨rfl,rfl⟩
set_option maxRecDepth 4000
set_option maxRecDepth 4000
def xpF (s:List Ty) (l:List Tu) (B:Int) (n:Nd):Nt×Int×Int:=
 if mayX s B=true then (match q0o s n.o.ty n.rl with
  | none=>(zNt,0,6)
  | some (_,_,r)=>match xnQ (envE s l whoZ) B 50 [] n.o r 0 with
   | none=>(zNt,0,12)
   | some (t,w)=>(t,w,0))
 else (zNt,0,1)
theorem chkX_xp {s:List Ty} {l:List Tu} {B:Int} {n:Nd}:chkX s l B n=xT (xpF s l B n).1 (xpF s l B n).2.1 (xpF s l B n).2.2:=by
 unfold chkX xpF
 split
 ·cases q0o s n.o.ty n.rl with
  | none=>rfl
  | some p=>
   obtain ⟨i,k,r⟩:=p
   dsimp only
   cases xnQ (envE s l whoZ) B 50 [] n.o r 0 with
   | none=>rfl
   | some q=>rfl
 ·rfl
theorem mayX_of {s:List Ty} {B b:Int} (h:mayX s B=true) (hb:0≤b∧b≤100000):mayX s b=true:=by
 unfold mayX at h ⊢
 simp only [Bool.and_eq_true,decide_eq_true_eq] at h ⊢
 exact ⟨hb.1,hb.2,h.2.2⟩
theorem zNt_ok {pr:ByteArray→Prop}:NtOk pr zNt:=.mk _ _ _ (Nat.zero_le _) (Nat.zero_le _) (fun x hx=>by cases hx) fun x hx=>by cases hx
theorem env_len {s:List Ty} {l:List Tu} (hl:OkL l) (who:Ob) (n:Nd):((envE s l who).of n).length≤100000:=by
 show ((ofF (q0d s l) n).map Tu.s).length≤100000
 rw [List.length_map]
 exact Nat.le_trans (List.length_filter_le _ _) (q3j hl).n
theorem xp_ok {pr:ByteArray→Prop} {s:List Ty} {l:List Tu} (hl:OkL l) {B:Int} {n:Nd} (h0:pr ⟨#[46,46]⟩) (h1:∀ n,∀ x∈(envE s l whoZ).of n,pr (q36 x)):NtOk pr (xpF s l B n).1:=by
 unfold xpF
 split
 ·cases q0o s n.o.ty n.rl with
  | none=>exact zNt_ok
  | some p=>
   obtain ⟨i,k,r⟩:=p
   dsimp only
   cases hq:xnQ (envE s l whoZ) B 50 [] n.o r 0 with
   | none=>exact zNt_ok
   | some q=>exact xn_ok (env_len hl whoZ) h0 h1 50 [] _ _ _ _ _ hq
 ·exact zNt_ok
theorem xp_bu {s:List Ty} {l:List Tu} {n:Nd} {B:Int} (hB:B≤100000) (h:(xpF s l B n).2.2=0):1≤(xpF s l B n).2.1∧(xpF s l B n).2.1≤B∧xpF s l (xpF s l B n).2.1 n=xpF s l B n∧(xpF s l ((xpF s l B n).2.1-1) n).2.2=12:=by
 unfold xpF at h
 split at h
 ·rename_i hm
  cases hf:q0o s n.o.ty n.rl with
  | none=>rw [hf] at h;cases h
  | some p=>
   obtain ⟨i,k,r⟩:=p
   rw [hf] at h
   dsimp only at h
   cases hq:xnQ (envE s l whoZ) B 50 [] n.o r 0 with
   | none=>rw [hq] at h;cases h
   | some q=>
    obtain ⟨t,w⟩:=q
    have hx:xpF s l B n=(t,(w:Int),0):=by
     unfold xpF
     rw [if_pos hm,hf]
     dsimp only
     rw [hq]
    rw [hx]
    dsimp only
    have hp:=xn_pos hq
    have hself:=(xn_bu (b:=B) (B:=B) 50 []) (n.o,r) 0 t w hq
    have hwB:(w:Int)≤B:=by
     refine Int.not_lt.1 fun hlt=>?_
     have hm2:=hm
     unfold mayX at hm2
     simp only [Bool.and_eq_true,decide_eq_true_eq] at hm2
     have:=(hself.2 (by omega)).2 hlt
     dsimp only [un] at this
     rw [hq] at this
     cases this
    have g:=fun b=>(xn_bu (b:=b) (B:=B) 50 []) (n.o,r) 0 t w hq
    dsimp only [un] at g
    have e1:=((g w).2 (by omega)).1 (Int.le_refl _)
    have e2:=((g ((w:Int)-1)).2 (by omega)).2 (by omega)
    refine ⟨by omega,hwB,?_,?_⟩
    ·unfold xpF
     rw [if_pos (mayX_of hm ⟨by omega,by omega⟩),hf]
     dsimp only
     rw [e1]
    ·unfold xpF
     rw [if_pos (mayX_of hm ⟨by omega,by omega⟩),hf]
     dsimp only
     rw [e2]
 ·cases h
set_option maxRecDepth 4000
mutual
def lvT:Nt→List ByteArray
 | .mk _ n k=>n++lvTs k
def lvTs:List Nt→List ByteArray
 | []=>[]
 | t :: r=>lvT t++lvTs r
end
theorem q8w:∀ (a b:List Nt),lvTs (a++b)=lvTs a++lvTs b
 | [],b=>rfl
 | t :: r,b=>by
  rw [List.cons_append,lvTs,lvTs,q8w r b,List.append_assoc]
theorem q8v (t:Nt):lvTs [t]=lvT t:=by rw [lvTs,lvTs,List.append_nil]
theorem lvTs_take {ks:List Nt} {i:Nat} {x:Nt} (h:ks[i]?=some x):lvTs (ks.take (i+1))=lvTs (ks.take i)++lvT x:=by
 rw [q0w h,q8w,q8v]
theorem lvTs_take_le {ks:List Nt} {i:Nat}:(lvTs (ks.take i)).length≤(lvTs ks).length:=by
 conv=>rhs;rw [← List.take_append_drop i ks,q8w,List.length_append]
 omega
theorem lvT_leaves {pr:ByteArray→Prop} {t:Nt} (h:NtOk pr t):∀ x∈lvT t,pr x:=by
 induction h with
 | mk l ns ks h1 h2 hp h3 ih=>
  have key:∀ (ks:List Nt),(∀ x∈ks,∀ y∈lvT x,pr y)→∀ y∈lvTs ks,pr y:=by
   intro ks
   induction ks with
   | nil=>intro _ y hy;rw [lvTs] at hy;cases hy
   | cons t r ihr=>
    intro h y hy
    rw [lvTs] at hy
    rcases List.mem_append.1 hy with hy | hy
    ·exact h t List.mem_cons_self y hy
    ·exact ihr (fun x hx=>h x (List.mem_cons_of_mem _ hx)) y hy
  intro x hx
  rw [lvT] at hx
  rcases List.mem_append.1 hx with hx | hx
  ·exact hp x hx
  ·exact key ks ih x hx
def LvW (f:q4u):Prop:=∀ o r w t w',f o r w=some (t,w')→w+1≤w'∧(lvT t).length≤(w'-w) * 100000
theorem lv_fold {f:q4u} (h:LvW f) {s:List Ty} {ov:ByteArray}:∀ {l:List Nd} {ks:List Nt} {w:Nat} {x:List Nt} {w':Nat},q2g s ov f l ks w=some (x,w')→w≤w'∧(lvTs x).length≤(lvTs ks).length+(w'-w) * 100000
 | [],ks,w,x,w',e=>by
  simp only [q2g,Option.some.injEq,Prod.mk.injEq] at e
  obtain ⟨rfl,rfl⟩:=e
  exact ⟨Nat.le_refl _,by omega⟩
 | y :: r,ks,w,x,w',e=>by
  unfold q2g at e
  cases hq:q0o s y.o.ty ov with
  | none=>rw [hq] at e;exact lv_fold h e
  | some p=>
   obtain ⟨i,k,rl⟩:=p
   rw [hq] at e
   dsimp only at e
   split at e
   ·cases hs:f y.o rl w with
    | none=>rw [hs] at e;cases e
    | some q=>
     obtain ⟨t,w1⟩:=q
     rw [hs] at e
     obtain ⟨a,b⟩:=lv_fold h e
     obtain ⟨c,d⟩:=h _ _ _ _ _ hs
     rw [q8w,q8v,List.length_append] at b
     exact ⟨by omega,by omega⟩
   ·exact lv_fold h e
theorem lv_ex {E:q1v} {f:q4u} (h:LvW f) (o:Ob):∀ (m:Nat) (e:Ex) (w:Nat) (t:Nt) (w':Nat),xeQ E f o m e w=some (t,w')→w≤w'∧(lvT t).length≤(w'-w) * 100000
 | 0,e,w,t,w',h=>by cases h
 | m+1,.mk k n ov ks,w,t,w',e=>by
  have ih:=lv_ex (E:=E) h o m
  unfold xeQ at e
  split at e
  ·cases hq:q0o E.s o.ty n with
   | none=>rw [hq] at e;cases e
   | some p=>
    rw [hq] at e
    obtain ⟨a,b⟩:=h _ _ _ _ _ e
    exact ⟨by omega,b⟩
  ·split at e
   ·cases hs:q2g E.s ov f (E.of ⟨o,n⟩) [] w with
    | none=>rw [hs] at e;cases e
    | some q=>
     obtain ⟨l,w1⟩:=q
     rw [hs] at e
     simp only [Option.some.injEq,Prod.mk.injEq] at e
     obtain ⟨rfl,rfl⟩:=e
     obtain ⟨a,b⟩:=lv_fold h hs
     rw [lvTs] at b
     rw [lvT]
     simp only [List.nil_append,List.length_nil] at b ⊢
     exact ⟨a,by omega⟩
   ·match ks,e with
    | [a,c],e=>
     dsimp only at e
     cases hs:xeQ E f o m a w with
     | none=>rw [hs] at e;cases e
     | some q=>
      obtain ⟨x,w1⟩:=q
      rw [hs] at e
      dsimp only at e
      cases hs2:xeQ E f o m c w1 with
      | none=>rw [hs2] at e;cases e
      | some q2=>
       obtain ⟨z,w2⟩:=q2
       rw [hs2] at e
       simp only [Option.some.injEq,Prod.mk.injEq] at e
       obtain ⟨rfl,rfl⟩:=e
       obtain ⟨p1,p2⟩:=ih _ _ _ _ hs
       obtain ⟨p3,p4⟩:=ih _ _ _ _ hs2
       rw [lvT,List.nil_append,lvTs,q8v,List.length_append]
       exact ⟨by omega,by omega⟩
theorem lv_xn {E:q1v} {B:Int} (hlen:∀ n,(E.of n).length≤100000):∀ (fu:Nat) (P:List Nd),LvW (xnQ E B fu P):=by
 have dots:∀ l,(lvT (.mk l [⟨#[46,46]⟩] [])).length=1:=fun l=>by rw [lvT,lvTs];rfl
 intro fu
 induction fu with
 | zero=>
  intro P o r w t w' e
  unfold xnQ xnS at e
  split at e
  ·cases e
  ·split at e
   ·simp only [Option.some.injEq,Prod.mk.injEq] at e
    obtain ⟨rfl,rfl⟩:=e
    exact ⟨Nat.le_refl _,by rw [dots];omega⟩
   ·cases e
 | succ fu ih=>
  intro P o r w t w' e
  unfold xnQ xnS at e
  split at e
  ·cases e
  ·split at e
   ·simp only [Option.some.injEq,Prod.mk.injEq] at e
    obtain ⟨rfl,rfl⟩:=e
    exact ⟨Nat.le_refl _,by rw [dots];omega⟩
   ·unfold xnT at e
    split at e
    ·cases hs:xeQ E (xnQ E B fu (⟨o,r.name⟩ :: P)) o 12 r.ex (w+1) with
     | none=>rw [hs] at e;cases e
     | some q=>
      obtain ⟨k,w1⟩:=q
      rw [hs] at e
      simp only [Option.some.injEq,Prod.mk.injEq] at e
      obtain ⟨rfl,rfl⟩:=e
      obtain ⟨a,b⟩:=lv_ex (ih _) o _ _ _ _ _ hs
      rw [lvT,List.nil_append,q8v]
      exact ⟨a,Nat.le_trans b (Nat.mul_le_mul_right _ (by omega))⟩
    ·simp only [Option.some.injEq,Prod.mk.injEq] at e
     obtain ⟨rfl,rfl⟩:=e
     have:=hlen ⟨o,r.name⟩
     rw [lvT,lvTs,List.append_nil,List.length_map]
     exact ⟨Nat.le_refl _,by omega⟩
theorem c_leaves {pr:ByteArray→Prop} {t:Nt} (ht:NtOk pr t):(lvT t).length≤1000000000000→AFun PG nrx38 [.agg (ntC t)] (.sl 1 ((lvT t).map fun s=>[AV.str s])):=by
 induction ht with
 | mk l ns ks hn hk _ _ ih=>
  intro hb S
  rw [lvT,List.length_append] at hb
  refine wx38 ?_
  unfold Bx38
  rw [q4m]
  (try simp only [rwp,zA,zB,zC,zD,zE,zF,zG,zH,zI,rwb,reduceIte])
  refine LstN.app (Sub.refl S) (LstN.nil (t:=tyStr)) (xs:=ns.map fun s=>[AV.str s]) (fun r hr=>by obtain ⟨x,-,rfl⟩:=List.mem_map.1 hr;rfl) (q2u fun r hr=>by obtain ⟨x,-,rfl⟩:=List.mem_map.1 hr;rfl) (by simp only [List.length_map,List.length_nil];omega) fun v' S4 j1 j2 j3=>?_
  refine LoopP.introS (fun x:Nat×AV=>[(1,.rop [.str l,.sl 1 (ns.map fun s=>[AV.str s]),.sl 3 (ks.map ntC)]),(3,x.2),(4,.int .i64 x.1)]) (fun x S'=>x.1≤ks.length∧Sub S S'∧LstN S S' tyStr 1 x.2 ((ns++lvTs (ks.take x.1)).map fun s=>[AV.str s])) (fun x=>ks.length-x.1) (0,v')
   ⟨Nat.zero_le _,j1,by dsimp only;rw [List.take_zero,lvTs,List.append_nil];exact j2⟩ rfl ?_
  rintro ⟨i,v⟩ S1 ⟨hi,s1,o1⟩ kk hkk
  dsimp only at hi o1 ⊢
  (try simp only [rwp,zA,zB,zC,zD,zE,zF,zG,zH,zI,rwb,reduceIte,C38_1,List.length_map])
  cases a1:decide ((i:Int)<ks.length)
  ·have e:i=ks.length:=by have:=of_decide_eq_false a1;omega
   subst e
   rw [List.take_length] at o1
   (try simp only [rwp,zA,zB,zC,zD,zE,zF,zG,zH,zI,rwb,reduceIte])
   refine q4y S _ s1 (Fr.lst o1) ⟨?_,rfl⟩
   rw [lvT]
  ·have hlt:=of_decide_eq_true a1
   obtain ⟨x,hx⟩:=q0s hlt
   have hta:=lvTs_take hx
   have hle:=@lvTs_take_le ks (i+1)
   rw [hta,List.length_append] at hle
   have q:=ih x (List.mem_of_getElem? hx) (by omega)
   obtain ⟨l2,n2,k2⟩:=x
   rw [q4m] at q
   (try simp only [rwp,zA,zB,zC,zD,zE,zF,zG,zH,zI,rwb,reduceIte,List.getElem?_map,hx,q4m])
   refine q05 q ?_
   refine LstN.app s1 o1 (xs:=(lvT (.mk l2 n2 k2)).map fun s=>[AV.str s]) (fun r hr=>by obtain ⟨x,-,rfl⟩:=List.mem_map.1 hr;rfl) (q2u fun r hr=>by obtain ⟨x,-,rfl⟩:=List.mem_map.1 hr;rfl) (by simp only [List.length_map,List.length_append];omega) fun v2 S5 m1 m2 m3=>?_
   (simp (disch:=omega) only [q03])
   refine q09 rfl (hkk (i+1,v2) _ ⟨by dsimp only;omega,m1,?_⟩ (by dsimp only;omega))
   dsimp only
   rw [hta,← List.append_assoc,List.map_append]
   exact m2
theorem findF_nm {s:List Ty} {t n:ByteArray} {i k:Nat} {r:Rl} (h:q0o s t n=some (i,k,r)):r.name=n:=by
 obtain ⟨-,ty,-,h1,h2⟩:=q23 h
 obtain ⟨⟨x,hx,h3⟩,-⟩:=firstI_some.1 h1
 rw [h2] at hx
 cases hx
 exact of_decide_eq_true h3
theorem xn_lab {E:q1v} {B:Int} {fu:Nat} {P:List Nd} {o:Ob} {r:Rl} {w:Nat} {t:Nt} {w':Nat} (h:xnQ E B fu P o r w=some (t,w')):∃ ns ks,t=.mk (labX o r) ns ks:=by
 cases fu with
 | zero=>
  unfold xnQ xnS at h
  split at h
  ·cases h
  ·split at h
   ·cases h;exact ⟨_,_,rfl⟩
   ·cases h
 | succ f=>
  unfold xnQ xnS at h
  split at h
  ·cases h
  ·split at h
   ·cases h;exact ⟨_,_,rfl⟩
   ·unfold xnT at h
    split at h
    ·split at h
     ·cases h
     ·cases h;exact ⟨_,_,rfl⟩
    ·cases h;exact ⟨_,_,rfl⟩
theorem xp_lab {s:List Ty} (hs:OkS s) {l:List Tu} (hl:OkL l) {B:Int} {n:Nd} (hB:B≤2000) (h:(xpF s l B n).2.2=0):(∃ ns ks,(xpF s l B n).1=.mk (q30 n.o++⟨#[35]⟩++n.rl) ns ks)∧n.rl.size≤1125899906842624∧(lvT (xpF s l B n).1).length≤200000000:=by
 have hw:=(xp_bu (s:=s) (l:=l) (n:=n) (B:=B) (by omega) h).2.1
 unfold xpF at h hw ⊢
 split at h
 ·rename_i hm
  rw [if_pos hm] at hw ⊢
  cases hf:q0o s n.o.ty n.rl with
  | none=>rw [hf] at h;cases h
  | some p=>
   obtain ⟨i,k,r⟩:=p
   have hnm:=findF_nm hf
   obtain ⟨-,ty,hty,-,hk⟩:=q23 hf
   have hsz:r.name.size≤1125899906842624:=((hs.at hty).at hk).name
   rw [hf] at h hw
   dsimp only at h hw ⊢
   cases hq:xnQ (envE s l whoZ) B 50 [] n.o r 0 with
   | none=>rw [hq] at h;cases h
   | some q=>
    obtain ⟨t,w⟩:=q
    rw [hq] at hw
    dsimp only at hw ⊢
    obtain ⟨ns,ks,e⟩:=xn_lab hq
    obtain ⟨-,h2⟩:=lv_xn (env_len hl whoZ) 50 [] _ _ _ _ _ hq
    refine ⟨⟨ns,ks,?_⟩,by rw [← hnm];exact hsz,?_⟩
    ·rw [e];unfold labX;rw [hnm]
    ·have:w≤2000:=by omega
     have:(w-0) * 100000≤2000 * 100000:=Nat.mul_le_mul_right _ (by omega)
     omega
 ·cases h
theorem c_ListsLeaves {s:List Ty} (hs:OkS s) {l:List Tu} (hl:∀ t∈l,OkU t) {o:Ob} (ho:OkO o) (rel:ByteArray) :
  AFun PG nrx13 [scA s,.sl 6 (l.map tuC),.agg (obC o),.str rel] (.bool true):=by
 intro S
 refine wx13 ?_
 unfold Bx13
 (try simp only [rwp,zA,zB,zC,zD,zE,zF,zG,zH,zI,rwb,reduceIte,scA,obC])
 refine q05 c_awake16 ?_
 (try simp only [rwp,zA,zB,zC,zD,zE,zF,zG,zH,zI,rwb,reduceIte])
 have q:=c_law14_Small hs l
 simp only [scA] at q
 refine q05 q ?_
 cases hsm:smallF s l
 ·(try simp only [rwp,zA,zB,zC,zD,zE,zF,zG,zH,zI,rwb,reduceIte,C13_1])
  exact q02 ⟨rfl,rfl⟩
 ·obtain ⟨hN,hL,hn⟩:=small_ok4 hsm hl
  have qx:=c_Expand hs hN hL (n:=⟨o,rel⟩) ho 2000
  have hlab:=@xp_lab s hs l hL 2000 ⟨o,rel⟩ (by omega)
  have hok:=xp_ok (pr:=fun x=>x=⟨#[46,46]⟩∨∃ t∈q0d s l,q36 t.s=x) hL (s:=s) (B:=2000) (n:=⟨o,rel⟩) (.inl rfl) (fun m x hx=>.inr (by
   obtain ⟨t,ht,rfl⟩:=List.mem_map.1 (show x∈(ofF (q0d s l) m).map Tu.s from hx)
   exact ⟨t,(List.mem_filter.1 ht).1,rfl⟩))
  have qc:=c_ref14_Counts hs hL
  have hlc:(q0d s l).length≤l.length:=List.length_filter_le _ _
  have hcd:∀ t∈q0d s l,OkD t.s:=fun t ht=>((q3j hL).ok t ht).s
  generalize q0d s l=L at hok qc hlc hcd
  rw [chkX_xp] at qx
  rcases hx:xpF s l 2000 ⟨o,rel⟩ with ⟨⟨lb,ns,ks⟩,w,e⟩
  rw [hx] at qx hlab hok
  dsimp only at qx hlab hok
  have hlv:=lvT_leaves hok
  have ql:=c_leaves hok
  unfold xT at qx
  rw [q4m] at qx ql
  simp only [scA,obC] at qx qc
  (try simp only [rwp,zA,zB,zC,zD,zE,zF,zG,zH,zI,rwb,reduceIte,C13_1])
  refine q05 qx ?_
  (try simp only [rwp,zA,zB,zC,zD,zE,zF,zG,zH,zI,rwb,reduceIte])
  cases a1:decide (e=0)
  ·(try simp only [rwp,zA,zB,zC,zD,zE,zF,zG,zH,zI,rwb,reduceIte])
   exact q02 ⟨rfl,rfl⟩
  ·obtain ⟨⟨ns2,ks2,h1⟩,hrb,hbd⟩:=hlab (of_decide_eq_true a1)
   cases h1
   (try simp only [rwp,zA,zB,zC,zD,zE,zF,zG,zH,zI,rwb,reduceIte])
   refine q05 qc ?_
   refine q05 (ql (by omega)) ?_
   generalize lvT (.mk (q30 o++⟨#[35]⟩++rel) ns ks)=M at hlv hbd
   refine LoopP.introS (fun i:Nat=>[(3,.str rel),(6,.rop [.str o.ty,.str o.id]),(11,.rop [.str (q30 o++⟨#[35]⟩++rel),.sl 1 (ns.map fun s=>[AV.str s]),.sl 3 (ks.map ntC)]),(14,.sl 6 (L.map tuC)),(15,.sl 1 (M.map fun s=>[AV.str s])),(16,.int .i64 i)]) (fun i S'=>S'=S∧i≤M.length) (fun i=>M.length-i) 0 ⟨rfl,Nat.zero_le _⟩ rfl ?_
   rintro i S' ⟨rfl,hi⟩ kk hkk
   (try simp only [rwp,zA,zB,zC,zD,zE,zF,zG,zH,zI,rwb,reduceIte,C13_2,List.length_map])
   cases a2:decide ((i:Int)<M.length)
   ·(try simp only [rwp,zA,zB,zC,zD,zE,zF,zG,zH,zI,rwb,reduceIte])
    have qs:=q2j ho
    simp only [obC] at qs
    refine q05 qs ?_
    have hol:=q4d ho
    have hd:(ByteArray.mk #[35]).size=1:=rfl
    (try simp only [rwp,zA,zB,zC,zD,zE,zF,zG,zH,zI,rwb,reduceIte,ByteArray.size_append,decide_true])
    exact ⟨by omega,by omega,q02 ⟨rfl,rfl⟩⟩
   ·have hlt:=of_decide_eq_true a2
    obtain ⟨x,hx⟩:=q0s hlt
    have hpx:=hlv x (List.mem_of_getElem? hx)
    (try simp only [rwp,zA,zB,zC,zD,zE,zF,zG,zH,zI,rwb,reduceIte,List.getElem?_map,hx])
    generalize hp:(fun t:Tu=>decide (q36 t.s=x))=p
    refine LoopP.introS (fun k:Nat=>[(3,.str rel),(6,.rop [.str o.ty,.str o.id]),(11,.rop [.str (q30 o++⟨#[35]⟩++rel),.sl 1 (ns.map fun s=>[AV.str s]),.sl 3 (ks.map ntC)]),(14,.sl 6 (L.map tuC)),(15,.sl 1 (M.map fun s=>[AV.str s])),(16,.int .i64 i),(17,.bool (decide (x=⟨#[46,46]⟩)||(L.take k).any p)),(18,.int .i64 k)]) (fun k S2=>S2=S'∧k≤L.length) (fun k=>L.length-k) 0 ⟨rfl,Nat.zero_le _⟩ (by simp) ?_
    rintro k S2 ⟨rfl,hk⟩ k2 hk2
    (try simp only [rwp,zA,zB,zC,zD,zE,zF,zG,zH,zI,rwb,reduceIte,C13_3,List.length_map])
    cases a3:decide ((k:Int)<L.length)
    ·have e:k=L.length:=by have:=of_decide_eq_false a3;omega
     subst e
     rw [List.take_length]
     have hany:(decide (x=⟨#[46,46]⟩)||L.any p)=true:=by
      rcases hpx with h | ⟨t,ht,h⟩
      ·rw [decide_eq_true h];rfl
      ·rw [Bool.or_eq_true]
       exact .inr (List.any_eq_true.2 ⟨t,ht,by rw [← hp];exact decide_eq_true h⟩)
     rw [hany]
     (try simp only [rwp,zA,zB,zC,zD,zE,zF,zG,zH,zI,rwb,reduceIte])
     (try (simp (disch:=omega) only [q03]))
     rw [show (i:Int)+1=((i+1:Nat):Int) by omega]
     exact q09 rfl (hkk (i+1) _ ⟨rfl,by omega⟩ (by omega))
    ·have hltk:=of_decide_eq_true a3
     obtain ⟨u,hu⟩:=q0s hltk
     have hnx:(L.take (k+1)).any p=((L.take k).any p||p u):=by rw [q0w hu,List.any_append];simp
     have hpu:p u=decide (q36 u.s=x):=by rw [← hp]
     have next:∀ b:Bool,b=(decide (x=⟨#[46,46]⟩)||(L.take (k+1)).any p)→rcW k2 [(3,.str rel),(6,.rop [.str o.ty,.str o.id]),(11,.rop [.str (q30 o++⟨#[35]⟩++rel),.sl 1 (ns.map fun s=>[AV.str s]),.sl 3 (ks.map ntC)]),(14,.sl 6 (L.map tuC)),(15,.sl 1 (M.map fun s=>[AV.str s])),(16,.int .i64 i),(17,.bool b),(18,.int .i64 ((k:Int)+1))] S2:=by
      rintro b rfl
      rw [show (k:Int)+1=((k+1:Nat):Int) by omega]
      exact q09 rfl (hk2 (k+1) _ ⟨rfl,by omega⟩ (by omega))
     rw [hnx,← Bool.or_assoc,hpu] at next
     cases a4:(decide (x=⟨#[46,46]⟩)||(L.take k).any p)
     ·rw [a4] at next
      have qs:=q3l (hcd u (List.mem_of_getElem? hu))
      simp only [ndC] at qs
      (try simp only [rwp,zA,zB,zC,zD,zE,zF,zG,zH,zI,rwb,reduceIte,List.getElem?_map,hu,tuC,hx])
      refine q05 qs ?_
      (try simp only [rwp,zA,zB,zC,zD,zE,zF,zG,zH,zI,rwb,reduceIte])
      (try (simp (disch:=omega) only [q03]))
      exact next _ (by simp)
     ·rw [a4] at next
      (try simp only [rwp,zA,zB,zC,zD,zE,zF,zG,zH,zI,rwb,reduceIte])
      (try (simp (disch:=omega) only [q03]))
      exact next _ (by simp)
def Old (w:World):Nat→Prop:=fun b=>b<w.heap.size
theorem cell_old {w:World} {a:Addr} {v:Value} (h:w.cell? a=some v):Old w a.block:=by
 unfold Old
 unfold World.cell? at h
 rcases Nat.lt_or_ge a.block w.heap.size with h1 | h1
 ·exact h1
 ·rw [Array.getElem?_eq_none h1] at h;simp at h
section
variable {H:Type} {enc:TypeId×Value→H} {P:Program} {w:World} {sp:Nat→Bool} {held:Bool} {n:Nat} {t e:TypeId} {cs:List Value} {x:DataW H×List MemPlace}
def Wt {H:Type} (P:Program) (t:TypeId) (d:DataW H):Prop:=∀ k∈d.weights P t,k≤reachBytes
theorem q2t (ht:P.underlying t=some .string) (hw:Wt P t x.1) (h:DataW.trod enc P w 0 sp held n t cs=some x):∃ s:ByteArray,s.size≤1125899906842624∧cs=[.string s]:=by
 cases n with
 | zero=>simp [DataW.trod] at h
 | succ n=>
  unfold DataW.trod at h
  rw [ht] at h
  split at h<;>simp_all
  obtain ⟨h1,rfl⟩:=h
  refine Nat.le_trans (Nat.le_of_eq ?_) (Nat.le_trans (hw _ (by simp only [DataW.weights];exact List.mem_singleton.2 rfl)) (by decide))
  rw [Array.length_toList]
  rfl
theorem open_int' {k:IntKind} (ht:P.underlying t=some (.int k)) (h:DataW.trod enc P w 0 sp held n t cs=some x):∃ z:Int,cs=[.int k z]:=by
 cases n with
 | zero=>simp [DataW.trod] at h
 | succ n=>
  unfold DataW.trod at h
  rw [ht] at h
  split at h<;>simp_all
theorem cells_get {w:World} {a:Addr} {m:Nat} {vs:List Value} (h:w.cells? 0 a m=some vs):vs.length=m∧∀ j,j<m→w.cell? (a.add j)=some (vs.getD j undef):=by
 unfold World.cells? at h
 rw [if_pos (Nat.zero_le _)] at h
 have h1:=mapM_some_length h
 refine ⟨by simpa using h1,fun j hj=>?_⟩
 have h2:=mapM_some_get h j j (by simp [hj])
 rw [h2,List.getD_eq_getElem?_getD]
 simp at h1
 rw [List.getElem?_eq_getElem (by omega)]
 rfl
theorem q6i {α:Type} {enc':α→List AV} {good:α→Prop} {sz:Nat} (ht:P.underlying t=some (.slice e)) (hc:P.cellsOf e=sz) (hsz:0<sz) (hlen:∀ a,(enc' a).length=sz)
  (hb:1≤P.bytesOf e) (hw:Wt P t x.1) (hE:∀ m,m<n→∀ cs x,Wt P e x.1→DataW.trod enc P w 0 sp held m e cs=some x→∃ a,good a∧RVs (Old w) w (enc' a) cs) (h:DataW.trod enc P w 0 sp held n t cs=some x) :
  ∃ (l:List α) (v:Value),(∀ a∈l,good a)∧l.length≤1125899906842624∧cs=[v]∧RV (Old w) w (.sl sz (l.map enc')) v:=by
 rcases DataW.trod_slice ht h with ⟨rfl,-⟩ | ⟨a,len,cap,elems,rest,m,rfl,rfl,rfl,-,hl,hm,hlen2,hel,-,-⟩
 ·exact ⟨[],_,fun a ha=>(by cases ha),Nat.zero_le _,rfl,.sl0 _ _ _⟩
 ·have hx:DataW.weights P t (.slice (elems.map (·.1)) (rest.map (·.1)))=((elems.map (·.1)).length+(rest.map (·.1)).length) * P.bytesOf e :: (DataW.weightsAll P e (elems.map (·.1))++DataW.weightsAll P e (rest.map (·.1))):=by
   simp only [DataW.weights]
   rw [ht]
  have hw:∀ k∈DataW.weights P t (.slice (elems.map (·.1)) (rest.map (·.1))),k≤reachBytes:=hw
  rw [hx] at hw
  have key:∀ i,i<len→∃ (y:α) (vs:List Value),good y∧RVs (Old w) w (enc' y) vs∧w.cells? 0 (a.add (i * sz)) sz=some vs:=fun i hi=>by
   have h1:=hel i hi
   rw [hc,List.getElem?_eq_getElem (by omega)] at h1
   obtain ⟨vs,h2,h3⟩:=Option.bind_eq_some_iff.1 h1
   have hwi:Wt P e (elems[i]'(by omega)).1:=fun k hk=>by
    refine hw k ?_
    refine List.mem_cons_of_mem _ (List.mem_append_left _ ?_)
    have:∀ l:List (DataW H×List MemPlace),∀ y∈l,∀ k∈y.1.weights P e,k∈DataW.weightsAll P e (l.map (·.1)):=by
     intro l
     induction l with
     | nil=>intro y hy;cases hy
     | cons z l ih=>
      intro y hy k hk
      simp only [List.map_cons,DataW.weightsAll,List.mem_append]
      rcases List.mem_cons.1 hy with rfl | hy
      ·exact .inl hk
      ·exact .inr (ih y hy k hk)
    exact this elems _ (List.getElem_mem _) k hk
   obtain ⟨y,k1,k2⟩:=hE m (Nat.lt_succ_self m) vs _ hwi h3
   exact ⟨y,vs,k1,k2,h2⟩
  by_cases h0:len=0
  ·subst h0
   exact ⟨[],_,fun a ha=>(by cases ha),Nat.zero_le _,rfl,.sl0 _ _ _⟩
  have ex:∃ l:List α,l.length=len∧∀ i y,l[i]?=some y→∃ vs:List Value,good y∧RVs (Old w) w (enc' y) vs∧w.cells? 0 (a.add (i * sz)) sz=some vs:=by
   have:∀ k,k≤len→∃ l:List α,l.length=k∧∀ (i:Nat) (y:α),l[i]?=some y→∃ vs:List Value,good y∧RVs (Old w) w (enc' y) vs∧w.cells? 0 (a.add (i * sz)) sz=some vs:=by
    intro k
    induction k with
    | zero=>exact fun _=>⟨[],rfl,fun i y h=>by simp at h⟩
    | succ k ih=>
     intro hk
     obtain ⟨l,k1,k2⟩:=ih (by omega)
     obtain ⟨y,vs,j1⟩:=key k (by omega)
     refine ⟨l++[y],by simp [k1],fun i z hz=>?_⟩
     by_cases hi:i<l.length
     ·rw [List.getElem?_append_left hi] at hz
      exact k2 i z hz
     ·rw [List.getElem?_append_right (by omega)] at hz
      obtain ⟨q,hq⟩:∃ q,i-l.length=q:=⟨_,rfl⟩
      rw [hq] at hz
      cases q with
      | succ q=>simp at hz
      | zero=>
       simp at hz
       subst hz
       have:i=k:=by omega
       subst this
       exact ⟨vs,j1⟩
   exact this len (Nat.le_refl _)
  obtain ⟨l,k1,k2⟩:=ex
  have k3:∀ i,i<len→∃ y vs,l[i]?=some y∧good y∧RVs (Old w) w (enc' y) vs∧w.cells? 0 (a.add (i * sz)) sz=some vs:=fun i hi=>by
   have hy:l[i]?=some l[i]:=List.getElem?_eq_getElem (by omega)
   obtain ⟨vs,h1⟩:=k2 i _ hy
   exact ⟨_,vs,hy,h1⟩
  have hadd:∀ i j,(a.add (i * sz)).add j=a.add (i * sz+j):=fun i j=>add_add _ _ _
  have hll:l.length≤1125899906842624:=by
   have h5:=hw _ List.mem_cons_self
   simp only [List.length_map] at h5
   have h6:elems.length≤(elems.length+rest.length) * P.bytesOf e:=Nat.le_trans (Nat.le_add_right _ _) (Nat.le_mul_of_pos_right _ hb)
   unfold reachBytes at h5
   omega
  refine ⟨l,_,fun y hy=>?_,hll,rfl,.sl sz (l.map enc') a len cap (fun i j=>((w.cells? 0 (a.add (i * sz)) sz).getD []).getD j undef) (by simp [k1]) hl ?_ (fun i r hr=>?_) (fun i j hi hj=>?_) (fun i j r u hr hu=>?_)⟩
  ·obtain ⟨i,hi⟩:=List.getElem?_of_mem hy
   obtain ⟨vs,h1,-⟩:=k2 i y hi
   exact h1
  ·obtain ⟨y,vs,-,-,-,h4⟩:=k3 0 (by omega)
   have h5:=(cells_get h4).2 0 hsz
   have:=cell_old h5
   rw [add_add] at this
   simpa [Addr.add] using this
  ·rw [List.getElem?_map] at hr
   cases hl2:l[i]? with
   | none=>rw [hl2] at hr;cases hr
   | some y=>rw [hl2] at hr;cases hr;exact hlen y
  ·obtain ⟨y,vs,-,-,-,h4⟩:=k3 i hi
   rw [h4,← hadd]
   exact (cells_get h4).2 j hj
  ·rw [List.getElem?_map] at hr
   cases hl2:l[i]? with
   | none=>rw [hl2] at hr;cases hr
   | some y=>
    rw [hl2] at hr
    cases hr
    obtain ⟨vs,-,h3,h4⟩:=k2 i y hl2
    rw [h4]
    exact h3.2 j u hu
theorem q3t {fs:Array Field} (ht:P.underlying t=some (.struct fs)) (hw:Wt P t x.1) (h:DataW.trod enc P w 0 sp held n t cs=some x):cs.length=P.cellsOf t∧∃ m,n=m+1 ∧
  ∀ (i:Nat) (f:Field),fs[i]?=some f→∃ y,Wt P f.type y.1∧DataW.trod enc P w 0 sp held m f.type ((cs.drop f.offset).take (P.cellsOf f.type))=some y:=by
 obtain ⟨xs,m,rfl,rfl,hl,hlen,hf⟩:=DataW.trod_struct ht h
 refine ⟨hl,m,rfl,fun i f hi=>?_⟩
 have hil:i<fs.size:=(Array.getElem?_eq_some_iff.1 hi).1
 have h1:=hf i f hi
 have hxi:xs[i]?=some (xs[i]'(by omega)):=List.getElem?_eq_getElem _
 rw [hxi] at h1
 refine ⟨_,fun k hk=>?_,h1⟩
 have hx:DataW.weights P t (.agg (xs.map (·.1)))=DataW.weightsEach P (fs.toList.map (·.type)) (xs.map (·.1)):=by
  simp only [DataW.weights]
  rw [ht]
 have hw:∀ k∈DataW.weights P t (.agg (xs.map (·.1))),k≤reachBytes:=hw
 rw [hx] at hw
 refine hw k ?_
 have key:∀ (ts:List TypeId) (ds:List (DataW H)) (j:Nat) (t:TypeId) (d:DataW H),ts[j]?=some t→ds[j]?=some d→∀ k∈d.weights P t,k∈DataW.weightsEach P ts ds:=by
  intro ts
  induction ts with
  | nil=>intro ds j t d h;simp at h
  | cons a ts ih=>
   intro ds j t d h1 h2 k hk
   cases ds with
   | nil=>simp at h2
   | cons b ds=>
    simp only [DataW.weightsEach,List.mem_append]
    cases j with
    | zero=>simp at h1 h2;subst h1;subst h2;exact .inl hk
    | succ j=>simp at h1 h2;exact .inr (ih ds j t d h1 h2 k hk)
 exact key _ _ i _ _ (by rw [List.getElem?_map,Array.getElem?_toList,hi];rfl) (by rw [List.getElem?_map,hxi];rfl) k hk
end
structure ScT (P:Program) (tS tTs tT tRs tR tFs tF tE tEs tI tN:TypeId):Prop where
 int:P.underlying tI=some (.int .i64)
 str:P.underlying tN=some .string
 ex:∃ f0 f1 f2 f3,P.underlying tE=some (.struct #[f0,f1,f2,f3])∧f0.type=tI∧f0.offset=0∧f1.type=tN∧f1.offset=1∧f2.type=tN∧f2.offset=2∧f3.type=tEs∧f3.offset=3
 exs:P.underlying tEs=some (.slice tE)
 rf:∃ f0 f1,P.underlying tF=some (.struct #[f0,f1])∧f0.type=tN∧f0.offset=0∧f1.type=tN∧f1.offset=1
 rfs:P.underlying tFs=some (.slice tF)
 rl:∃ f0 f1 f2,P.underlying tR=some (.struct #[f0,f1,f2])∧f0.type=tN∧f0.offset=0∧f1.type=tFs∧f1.offset=1∧f2.type=tE∧f2.offset=2
 rls:P.underlying tRs=some (.slice tR)
 ty:∃ f0 f1,P.underlying tT=some (.struct #[f0,f1])∧f0.type=tN∧f0.offset=0∧f1.type=tRs∧f1.offset=1
 tys:P.underlying tTs=some (.slice tT)
 sc:∃ f0,P.underlying tS=some (.struct #[f0])∧f0.type=tTs∧f0.offset=0
 cI:P.cellsOf tI=1
 cN:P.cellsOf tN=1
 cE:P.cellsOf tE=4
 cEs:P.cellsOf tEs=1
 cF:P.cellsOf tF=2
 cFs:P.cellsOf tFs=1
 cR:P.cellsOf tR=6
 cRs:P.cellsOf tRs=1
 cT:P.cellsOf tT=2
 cTs:P.cellsOf tTs=1
 cS:P.cellsOf tS=1
 bE:1≤P.bytesOf tE
 bF:1≤P.bytesOf tF
 bR:1≤P.bytesOf tR
 bT:1≤P.bytesOf tT
section
variable {H:Type} {enc:TypeId×Value→H} {P:Program} {w:World} {sp:Nat→Bool} {held:Bool} {tS tTs tT tRs tR tFs tF tE tEs tI tN:TypeId} (K:ScT P tS tTs tT tRs tR tFs tF tE tEs tI tN)
include K
theorem open_ex:∀ (n:Nat) (cs:List Value) (x:DataW H×List MemPlace),Wt P tE x.1→DataW.trod enc P w 0 sp held n tE cs=some x→∃ e:Ex,OkE e∧RVs (Old w) w (exC e) cs:=by
 intro n
 induction n using Nat.strongRecOn with
 | _ n ih=>
  intro cs x hw h
  obtain ⟨f0,f1,f2,f3,hu,a0,b0,a1,b1,a2,b2,a3,b3⟩:=K.ex
  obtain ⟨hl,m,rfl,hf⟩:=q3t hu hw h
  rw [K.cE] at hl
  obtain ⟨c0,c1,c2,c3,rfl⟩:∃ c0 c1 c2 c3,cs=[c0,c1,c2,c3]:=by
   match cs,hl with
   | [c0,c1,c2,c3],_=>exact ⟨_,_,_,_,rfl⟩
  obtain ⟨y0,w0,h0⟩:=hf 0 f0 rfl
  obtain ⟨y1,w1,h1⟩:=hf 1 f1 rfl
  obtain ⟨y2,w2,h2⟩:=hf 2 f2 rfl
  obtain ⟨y3,w3,h3⟩:=hf 3 f3 rfl
  rw [a0,b0,K.cI] at h0
  rw [a1,b1,K.cN] at h1
  rw [a2,b2,K.cN] at h2
  rw [a3,b3,K.cEs] at h3
  rw [a1] at w1
  rw [a2] at w2
  rw [a3] at w3
  obtain ⟨z,e0⟩:=open_int' K.int h0
  obtain ⟨s1,g1,e1⟩:=q2t K.str w1 h1
  obtain ⟨s2,g2,e2⟩:=q2t K.str w2 h2
  obtain ⟨l,v,g3,g4,e3,g5⟩:=q6i (enc':=exC) (good:=OkE) K.exs K.cE (by decide) exC_len K.bE w3 (fun k hk cs x hw h=>ih k (by omega) cs x hw h) h3
  simp at e0 e1 e2 e3
  subst e0;subst e1;subst e2;subst e3
  refine ⟨.mk z s1 s2 l,.mk z s1 s2 l g4 g1 g2 g3,?_⟩
  rw [q0f]
  exact .cons (.int _ _) (.cons (.str _) (.cons (.str _) (.cons g5 .nil)))
theorem open_rf {n:Nat} {cs:List Value} {x:DataW H×List MemPlace} (hw:Wt P tF x.1) (h:DataW.trod enc P w 0 sp held n tF cs=some x):∃ f:Rf,OkF f∧RVs (Old w) w (rfC f) cs:=by
 obtain ⟨f0,f1,hu,a0,b0,a1,b1⟩:=K.rf
 obtain ⟨hl,m,rfl,hf⟩:=q3t hu hw h
 rw [K.cF] at hl
 obtain ⟨c0,c1,rfl⟩:∃ c0 c1,cs=[c0,c1]:=by
  match cs,hl with
  | [c0,c1],_=>exact ⟨_,_,rfl⟩
 obtain ⟨y0,w0,h0⟩:=hf 0 f0 rfl
 obtain ⟨y1,w1,h1⟩:=hf 1 f1 rfl
 rw [a0,b0,K.cN] at h0
 rw [a1,b1,K.cN] at h1
 rw [a0] at w0
 rw [a1] at w1
 obtain ⟨s1,g1,e1⟩:=q2t K.str w0 h0
 obtain ⟨s2,g2,e2⟩:=q2t K.str w1 h1
 simp at e1 e2
 subst e1;subst e2
 exact ⟨⟨s1,s2⟩,⟨g1,g2⟩,.cons (.str _) (.cons (.str _) .nil)⟩
theorem open_rl {n:Nat} {cs:List Value} {x:DataW H×List MemPlace} (hw:Wt P tR x.1) (h:DataW.trod enc P w 0 sp held n tR cs=some x):∃ r:Rl,OkR r∧RVs (Old w) w (rlC r) cs:=by
 obtain ⟨f0,f1,f2,hu,a0,b0,a1,b1,a2,b2⟩:=K.rl
 obtain ⟨hl,m,rfl,hf⟩:=q3t hu hw h
 rw [K.cR] at hl
 obtain ⟨c0,c1,c2,c3,c4,c5,rfl⟩:∃ c0 c1 c2 c3 c4 c5,cs=[c0,c1,c2,c3,c4,c5]:=by
  match cs,hl with
  | [c0,c1,c2,c3,c4,c5],_=>exact ⟨_,_,_,_,_,_,rfl⟩
 obtain ⟨y0,w0,h0⟩:=hf 0 f0 rfl
 obtain ⟨y1,w1,h1⟩:=hf 1 f1 rfl
 obtain ⟨y2,w2,h2⟩:=hf 2 f2 rfl
 rw [a0,b0,K.cN] at h0
 rw [a1,b1,K.cFs] at h1
 rw [a2,b2,K.cE] at h2
 rw [a0] at w0
 rw [a1] at w1
 rw [a2] at w2
 obtain ⟨s1,g1,e1⟩:=q2t K.str w0 h0
 obtain ⟨l,v,g3,g4,e3,g5⟩:=q6i (enc':=rfC) (good:=OkF) K.rfs K.cF (by decide) (fun _=>rfl) K.bF w1 (fun k _ cs x hw h=>open_rf K hw h) h1
 obtain ⟨e,g6,g7⟩:=open_ex K _ _ _ w2 h2
 simp at e1 e3
 subst e1;subst e3
 exact ⟨⟨s1,l,e⟩,⟨g1,g4,g3,g6⟩,.cons (.str _) (.cons g5 g7)⟩
theorem open_ty {n:Nat} {cs:List Value} {x:DataW H×List MemPlace} (hw:Wt P tT x.1) (h:DataW.trod enc P w 0 sp held n tT cs=some x):∃ t:Ty,OkT t∧RVs (Old w) w (tyC t) cs:=by
 obtain ⟨f0,f1,hu,a0,b0,a1,b1⟩:=K.ty
 obtain ⟨hl,m,rfl,hf⟩:=q3t hu hw h
 rw [K.cT] at hl
 obtain ⟨c0,c1,rfl⟩:∃ c0 c1,cs=[c0,c1]:=by
  match cs,hl with
  | [c0,c1],_=>exact ⟨_,_,rfl⟩
 obtain ⟨y0,w0,h0⟩:=hf 0 f0 rfl
 obtain ⟨y1,w1,h1⟩:=hf 1 f1 rfl
 rw [a0,b0,K.cN] at h0
 rw [a1,b1,K.cRs] at h1
 rw [a0] at w0
 rw [a1] at w1
 obtain ⟨s1,g1,e1⟩:=q2t K.str w0 h0
 obtain ⟨l,v,g3,g4,e3,g5⟩:=q6i (enc':=rlC) (good:=OkR) K.rls K.cR (by decide) rlC_len K.bR w1 (fun k _ cs x hw h=>open_rl K hw h) h1
 simp at e1 e3
 subst e1;subst e3
 exact ⟨⟨s1,l⟩,⟨g1,g4,g3⟩,.cons (.str _) (.cons g5 .nil)⟩
theorem open_sc {v:Value} {d:DataW H} {ps:List MemPlace} (hw:Wt P tS d) (h:DataW.Trod enc P w 0 sp held tS v d ps) (hv:∃ vs,v=.agg vs):∃ s:List Ty,OkS s∧RV (Old w) w (scA s) v:=by
 obtain ⟨n,h⟩:=h
 obtain ⟨vs,rfl⟩:=hv
 obtain ⟨f0,hu,a0,b0⟩:=K.sc
 obtain ⟨hl,m,rfl,hf⟩:=q3t (x:=(d,ps)) hu hw h
 rw [K.cS] at hl
 obtain ⟨y0,w0,h0⟩:=hf 0 f0 rfl
 rw [a0,b0,K.cTs] at h0
 rw [a0] at w0
 obtain ⟨l,v,g3,g4,e3,g5⟩:=q6i (enc':=tyC) (good:=OkT) K.tys K.cT (by decide) (fun _=>rfl) K.bT w0 (fun k _ cs x hw h=>open_ty K hw h) h0
 refine ⟨l,⟨g4,g3⟩,?_⟩
 have hc:(Value.agg vs).cells.toList=vs.toList:=by simp [Value.cells]
 rw [hc] at hl e3
 have hvs:vs.toList=[v]:=by
  match hq:vs.toList,hl with
  | [c],_=>rw [hq] at e3;simpa using e3
 refine .agg _ vs (by rw [← Array.length_toList,hvs];rfl) fun i u hi=>?_
 match i,hi with
 | 0,hi=>
  simp at hi
  subst hi
  have:vs.getD 0 undef=v:=by
   have h9:vs=#[v]:=by
    apply Array.toList_inj.1
    rw [hvs]
   rw [h9];rfl
  rw [this]
  exact g5
end
open Go.ChangeShapes Go.WideShapes Go.RowKit
theorem below_of {R R':Nat→Prop} {S':q00} {w w':World} (h:Step R emp w R' S' w'):Below w.heap.size w w':=⟨h.os,h.tape,h.output,h.size,fun k hk=>(h.keep k hk rfl).1⟩
theorem sim_old (w:World):Sim (Old w) emp w:=⟨fun b o h=>(by cases h),fun b h=>⟨rfl,h⟩⟩
theorem call_true {f:Nat} {args:List AV} {vs:Array Value} {w:World} (hok:q6y PG f=true) (h:AFun PG f args (.bool true)) (hv:RVs (Old w) w args vs.toList):Calls PG f vs w fun en w'=>en=.returned (.bool true)∧Below w.heap.size w w':=by
 refine ((h emp (Old w) w vs (sim_old w) hv).calls hok).mono fun en w' ⟨R',S',ae,h1,h2,h3,h4⟩=>?_
 obtain ⟨rfl,rfl⟩:=h2
 cases en with
 | returned v=>
  have h1:RV R' w' (.bool true) v:=h1
  cases h1
  exact ⟨rfl,below_of h4⟩
 | _=>exact h1.elim
section
variable {H:Type} {enc:TypeId×Value→H} {P:Program}
theorem q4c {W W':World} (hl:laidOutB P=true) (hb:Below W.heap.size W W') {sp':Nat→Bool}:∀ {ts:List TypeId} {vs:List Value} {ds:List (DataW H)} {ps:List MemPlace},(∀ t∈ts,P.readableRec t=true∧t<P.types.size)→DataW.TrodAll enc P W 0 (fun _=>true) true ts vs ds ps →
  (∀ p∈ps,p.block<W.heap.size)→(∀ p∈ps,sp' p.block=true)→DataW.TrodAll enc P W' 0 sp' true ts vs ds ps
 | [],vs,ds,ps,_,h,_,_=>by
  obtain ⟨rfl,rfl,rfl⟩:=trodAll_nil h
  exact trodAll_mk0
 | t :: ts,vs,ds,ps,ht,h,h1,h2=>by
  obtain ⟨v,vs1,d,ds1,a,b,rfl,rfl,rfl,k1,k2⟩:=trodAll_cons h
  have ht0:=ht t (by simp)
  exact ⟨a,b,WideElems.Trod_stays hl ht0.1 ht0.2 k1 (fun p hp=>hb.same (h1 p (List.mem_append_left _ hp))) (fun p hp=>h2 p (List.mem_append_left _ hp)),
   q4c hl hb (fun t h=>ht t (List.mem_cons_of_mem _ h)) k2 (fun p hp=>h1 p (List.mem_append_right _ hp)) (fun p hp=>h2 p (List.mem_append_right _ hp)),rfl⟩
theorem post_kept {f:Func} {s:ChangeSpec} {apart fresh handsOn again:Bool} {W W':World} {args:Array Value} {ds gs:List (DataW H)} {before:List MemPlace} {tb:TypeId}
  (hl:laidOutB P=true) (hts:∀ t∈f.params.toList,P.readableRec t=true∧t<P.types.size) (hvars:s.vars=[])
  (hW:DataW.Whole enc P f.params.toList s.vars apart W args.toList ds gs before) (hfn:(s.fn H (ds++gs)).results=[.lit (.bool true)]∧(s.fn H (ds++gs)).args=ds∧(s.fn H (ds++gs)).vars=[])
  (hr:f.resultTypes=#[tb]) (hb:P.underlying tb=some .bool) (hB:Below W.heap.size W W'):s.post enc P f apart fresh handsOn again W args (.bool true) W':=by
 have hlt:=hW.lt
 have hW0:=hW
 obtain ⟨p,q,hA,hV,rfl,hz,hn⟩:=hW
 rw [hvars] at hV
 obtain ⟨rfl,rfl⟩:=trodVars_none hV
 rw [List.append_nil] at *
 obtain ⟨e1,e2,e3⟩:=hfn
 have hold:∀ x∈p,(fun b=>decide (b<W.heap.size)) x.block=true:=fun x hx=>by simpa using hlt x hx
 have hres:∀ (b:Nat) (sp:Nat→Bool) (hd:Bool),DataW.TrodAll enc P W' b sp hd f.resultTypes.toList ((Value.bool true).resultList f.resultTypes.size) [.lit (.bool true)] []:=fun b sp hd=>by
  rw [hr]
  exact trodAll_mk1 (shut_bool hb true)
 refine ⟨ds,[],p,[],p,[],hW0,by rw [List.append_nil,e1];exact hres _ _ _,by rw [List.append_nil,e2];exact q4c hl hB hts hA hlt hold,by rw [List.append_nil,hvars,e3];exact rfl,hB.frame _,fun _=>?_⟩
 refine ⟨ok_one hr rfl (okWide_bool_mk hb true),_,[],([]++p)++[],⟨[]++p,[],trodAll_append (q4c hl hB hts hA hlt (fun _ _=>rfl)) (hres _ _ _),by rw [hvars];exact rfl,rfl,?_,?_⟩,?_⟩
 ·intro b off hp
  have hp:MemPlace.cell b off∈p:=by simpa using hp
  rw [hB.frozen (p:=⟨b,off,none⟩) (hlt _ hp)]
  exact hz b off hp
 ·intro ha
  simpa using hn ha
 ·intro x hx _
  simpa using hx
end
structure TuT (P:Program) (tL tU tD tO tN:TypeId):Prop where
 str:P.underlying tN=some .string
 ob:∃ f0 f1,P.underlying tO=some (.struct #[f0,f1])∧f0.type=tN∧f0.offset=0∧f1.type=tN∧f1.offset=1
 nd:∃ f0 f1,P.underlying tD=some (.struct #[f0,f1])∧f0.type=tO∧f0.offset=0∧f1.type=tN∧f1.offset=2
 tu:∃ f0 f1 f2,P.underlying tU=some (.struct #[f0,f1,f2])∧f0.type=tO∧f0.offset=0∧f1.type=tN∧f1.offset=2∧f2.type=tD∧f2.offset=3
 tus:P.underlying tL=some (.slice tU)
 cN:P.cellsOf tN=1
 cO:P.cellsOf tO=2
 cD:P.cellsOf tD=3
 cU:P.cellsOf tU=6
 bU:1≤P.bytesOf tU
section
variable {H:Type} {enc:TypeId×Value→H} {P:Program} {w:World} {sp:Nat→Bool} {held:Bool} {tL tU tD tO tN:TypeId} (K:TuT P tL tU tD tO tN)
include K
theorem open_ob {n:Nat} {cs:List Value} {x:DataW H×List MemPlace} (hw:Wt P tO x.1) (h:DataW.trod enc P w 0 sp held n tO cs=some x):∃ o:Ob,OkO o∧cs=[.string o.ty,.string o.id]:=by
 obtain ⟨f0,f1,hu,a0,b0,a1,b1⟩:=K.ob
 obtain ⟨hl,m,rfl,hf⟩:=q3t hu hw h
 rw [K.cO] at hl
 obtain ⟨c0,c1,rfl⟩:∃ c0 c1,cs=[c0,c1]:=by
  match cs,hl with
  | [c0,c1],_=>exact ⟨_,_,rfl⟩
 obtain ⟨y0,w0,h0⟩:=hf 0 f0 rfl
 obtain ⟨y1,w1,h1⟩:=hf 1 f1 rfl
 rw [a0,b0,K.cN] at h0
 rw [a1,b1,K.cN] at h1
 rw [a0] at w0
 rw [a1] at w1
 obtain ⟨s1,g1,e1⟩:=q2t K.str w0 h0
 obtain ⟨s2,g2,e2⟩:=q2t K.str w1 h1
 simp at e1 e2
 subst e1;subst e2
 exact ⟨⟨s1,s2⟩,⟨g1,g2⟩,rfl⟩
theorem open_nd {n:Nat} {cs:List Value} {x:DataW H×List MemPlace} (hw:Wt P tD x.1) (h:DataW.trod enc P w 0 sp held n tD cs=some x):∃ o:Nd,OkD o∧cs=[.string o.o.ty,.string o.o.id,.string o.rl]:=by
 obtain ⟨f0,f1,hu,a0,b0,a1,b1⟩:=K.nd
 obtain ⟨hl,m,rfl,hf⟩:=q3t hu hw h
 rw [K.cD] at hl
 obtain ⟨c0,c1,c2,rfl⟩:∃ c0 c1 c2,cs=[c0,c1,c2]:=by
  match cs,hl with
  | [c0,c1,c2],_=>exact ⟨_,_,_,rfl⟩
 obtain ⟨y0,w0,h0⟩:=hf 0 f0 rfl
 obtain ⟨y1,w1,h1⟩:=hf 1 f1 rfl
 rw [a0,b0,K.cO] at h0
 rw [a1,b1,K.cN] at h1
 rw [a0] at w0
 rw [a1] at w1
 obtain ⟨o,g1,e1⟩:=open_ob K w0 h0
 obtain ⟨s2,g2,e2⟩:=q2t K.str w1 h1
 simp at e1 e2
 obtain ⟨rfl,rfl⟩:=e1
 subst e2
 exact ⟨⟨o,s2⟩,⟨g1,g2⟩,rfl⟩
theorem open_tu {n:Nat} {cs:List Value} {x:DataW H×List MemPlace} (hw:Wt P tU x.1) (h:DataW.trod enc P w 0 sp held n tU cs=some x):∃ t:Tu,OkU t∧RVs (Old w) w (tuC t) cs:=by
 obtain ⟨f0,f1,f2,hu,a0,b0,a1,b1,a2,b2⟩:=K.tu
 obtain ⟨hl,m,rfl,hf⟩:=q3t hu hw h
 rw [K.cU] at hl
 obtain ⟨c0,c1,c2,c3,c4,c5,rfl⟩:∃ c0 c1 c2 c3 c4 c5,cs=[c0,c1,c2,c3,c4,c5]:=by
  match cs,hl with
  | [c0,c1,c2,c3,c4,c5],_=>exact ⟨_,_,_,_,_,_,rfl⟩
 obtain ⟨y0,w0,h0⟩:=hf 0 f0 rfl
 obtain ⟨y1,w1,h1⟩:=hf 1 f1 rfl
 obtain ⟨y2,w2,h2⟩:=hf 2 f2 rfl
 rw [a0,b0,K.cO] at h0
 rw [a1,b1,K.cN] at h1
 rw [a2,b2,K.cD] at h2
 rw [a0] at w0
 rw [a1] at w1
 rw [a2] at w2
 obtain ⟨o,g1,e1⟩:=open_ob K w0 h0
 obtain ⟨r,g2,e2⟩:=q2t K.str w1 h1
 obtain ⟨s,g3,e3⟩:=open_nd K w2 h2
 simp at e1 e2 e3
 obtain ⟨rfl,rfl⟩:=e1
 subst e2
 obtain ⟨rfl,rfl,rfl⟩:=e3
 exact ⟨⟨o,r,s⟩,⟨g1,g2,g3⟩,.cons (.str _) (.cons (.str _) (.cons (.str _) (.cons (.str _) (.cons (.str _) (.cons (.str _) .nil)))))⟩
theorem open_obj {v:Value} {d:DataW H} {ps:List MemPlace} (hw:Wt P tO d) (h:DataW.Trod enc P w 0 sp held tO v d ps) (hv:∃ vs,v=.agg vs):∃ o:Ob,OkO o∧RV (Old w) w (.agg (obC o)) v:=by
 obtain ⟨n,h⟩:=h
 obtain ⟨vs,rfl⟩:=hv
 obtain ⟨o,g,e⟩:=open_ob K (x:=(d,ps)) hw h
 have hc:(Value.agg vs).cells.toList=vs.toList:=by simp [Value.cells]
 rw [hc] at e
 have h9:vs=#[.string o.ty,.string o.id]:=Array.toList_inj.1 (by rw [e])
 subst h9
 refine ⟨o,g,.agg _ _ rfl fun i u hi=>?_⟩
 match i,hi with
 | 0,hi=>simp [obC] at hi;subst hi;exact .str _
 | 1,hi=>simp [obC] at hi;subst hi;exact .str _
theorem open_tus {v:Value} {d:DataW H} {ps:List MemPlace} (hw:Wt P tL d) (h:DataW.Trod enc P w 0 sp held tL v d ps) (hv:∃ a b c,v=.slice a b c):∃ l:List Tu,(∀ t∈l,OkU t)∧RV (Old w) w (.sl 6 (l.map tuC)) v:=by
 obtain ⟨n,h⟩:=h
 obtain ⟨a,b,c,rfl⟩:=hv
 obtain ⟨l,v,g1,g2,e,g3⟩:=q6i (enc':=tuC) (good:=OkU) (x:=(d,ps)) K.tus K.cU (by decide) (fun _=>rfl) K.bU hw (fun k _ cs x hw h=>open_tu K hw h) h
 have:v=.slice a b c:=by
  have:=congrArg List.head? e
  simpa [Value.cells] using this.symm
 subst this
 exact ⟨l,g1,g3⟩
end
end Go.HL
namespace Go.Proofs.YtadmdlpmikoghaaGreat
open Go.ChangeShapes Go.WideShapes Go.ChangeAt Go.RowKit Go.HL
theorem own:ownKnob Tryz.prog.godebug=none:=by kernel_rfl
theorem laidOut:laidOutB Tryz.prog=true:=by kernel_rfl
theorem scT:ScT Tryz.prog 24 22 46 44 53 48 171 51 49 3 9 where
 int:=Tryz.underlying3
 str:=Tryz.underlying9
 ex:=⟨_,_,_,_,Tryz.underlying51,rfl,rfl,rfl,rfl,rfl,rfl,rfl,rfl⟩
 exs:=Tryz.underlying49
 rf:=⟨_,_,Tryz.underlying171,rfl,rfl,rfl,rfl⟩
 rfs:=Tryz.underlying48
 rl:=⟨_,_,_,Tryz.underlying53,rfl,rfl,rfl,rfl,rfl,rfl⟩
 rls:=Tryz.underlying44
 ty:=⟨_,_,Tryz.underlying46,rfl,rfl,rfl,rfl⟩
 tys:=Tryz.underlying22
 sc:=⟨_,Tryz.underlying24,rfl,rfl⟩
 cI:=by kernel_rfl
 cN:=by kernel_rfl
 cE:=by kernel_rfl
 cEs:=by kernel_rfl
 cF:=by kernel_rfl
 cFs:=by kernel_rfl
 cR:=by kernel_rfl
 cRs:=by kernel_rfl
 cT:=by kernel_rfl
 cTs:=by kernel_rfl
 cS:=by kernel_rfl
 bE:=of_decide_eq_true (by kernel_rfl)
 bF:=of_decide_eq_true (by kernel_rfl)
 bR:=of_decide_eq_true (by kernel_rfl)
 bT:=of_decide_eq_true (by kernel_rfl)
theorem tuT:TuT Tryz.prog 25 41 39 27 9 where
 str:=Tryz.underlying9
 ob:=⟨_,_,Tryz.underlying27,rfl,rfl,rfl,rfl⟩
 nd:=⟨_,_,Tryz.underlying39,rfl,rfl,rfl,rfl⟩
 tu:=⟨_,_,_,Tryz.underlying41,rfl,rfl,rfl,rfl,rfl,rfl⟩
 tus:=Tryz.underlying25
 cN:=by kernel_rfl
 cO:=by kernel_rfl
 cD:=by kernel_rfl
 cU:=by kernel_rfl
 bU:=of_decide_eq_true (by kernel_rfl)
theorem weights_one {H:Type} {P:Program} {t:TypeId} {d:DataW H} {ts:List TypeId} {ds:List (DataW H)} (h:(DataW.weightsEach P (t :: ts) (d :: ds)).all (·≤reachBytes)=true):Wt P t d∧(DataW.weightsEach P ts ds).all (·≤reachBytes)=true:=by
 simp only [DataW.weightsEach,List.all_append,Bool.and_eq_true,List.all_eq_true,decide_eq_true_eq] at h
 refine ⟨h.1,?_⟩
 rw [List.all_eq_true]
 exact fun x hx=>decide_eq_true (h.2 x hx)
theorem trodAll_four {H:Type} {enc:TypeId×Value→H} {P:Program} {w:World} {base:Nat} {spare:Nat→Bool} {held:Bool} {t0 t1 t2 t3:TypeId} {args:Array Value} {ds:List (DataW H)} {ps:List MemPlace} (h:DataW.TrodAll enc P w base spare held [t0,t1,t2,t3] args.toList ds ps) :
  ∃ v0 v1 v2 v3 d0 d1 d2 d3 p0 p1 p2 p3,args=#[v0,v1,v2,v3]∧ds=[d0,d1,d2,d3]∧ps=p0++(p1++(p2++(p3)))∧DataW.Trod enc P w base spare held t0 v0 d0 p0∧DataW.Trod enc P w base spare held t1 v1 d1 p1∧DataW.Trod enc P w base spare held t2 v2 d2 p2∧DataW.Trod enc P w base spare held t3 v3 d3 p3:=by
 obtain ⟨v0,vs0,d0,ds0,p0,q0,hargs,rfl,rfl,h0,g0⟩:=trodAll_cons h
 obtain ⟨v1,vs1,d1,ds1,p1,q1,rfl,rfl,rfl,h1,g1⟩:=trodAll_cons g0
 obtain ⟨v2,vs2,d2,ds2,p2,q2,rfl,rfl,rfl,h2,g2⟩:=trodAll_cons g1
 obtain ⟨v3,vs3,d3,ds3,p3,q3,rfl,rfl,rfl,h3,g3⟩:=trodAll_cons g2
 obtain ⟨rfl,rfl,rfl⟩:=trodAll_nil g3
 exact ⟨v0,v1,v2,v3,d0,d1,d2,d3,p0,p1,p2,p3,by cases args;simp_all,rfl,by simp,h0,h1,h2,h3⟩
end Go.Proofs.YtadmdlpmikoghaaGreat
namespace Go.Proofs.YtadmdlpmikoghaaGreat
open Go.ChangeShapes Go.WideShapes Go.ChangeAt Go.RowKit Go.HL
set_option maxRecDepth 100000 in
theorem listsLeaves_lifted (os:Os) (started:os.Started) (H:Type) (enc:TypeId×Value→H) :
  ReturnsInHanded {} Tryz.checked os 13 .any (fun w args=>(Rows.listsLeavesSpec.pre enc Tryz.prog Tryz.f13 Rows.listsLeavesRow.domain false w args∧True)∧sizedMet enc Tryz.prog Tryz.f13 (OpenSpec.ofChange Rows.listsLeavesSpec) false w args)
   (Rows.listsLeavesSpec.post enc Tryz.prog Tryz.f13 false true false false):=by
 refine returnsInHanded_of_change_and (C:=Tryz.checked) (X:=fun _ _=>True) (fun _ _ _ _ h=>h) own started (by kernel_rfl) Tryz.func13
  (by
   obtain ⟨w,t,i,h1,h2,h3,h4,h5,h6⟩:=ChangeSpec.witness6 (enc:=enc) (C:=Tryz.checked) (os:=os) (f:=13) (fn:=Tryz.f13) (s:=Rows.listsLeavesSpec) (conds:=Rows.listsLeavesRow.domain) (apart:=false) false ⟨#[],#[.agg #[.slice none 0 0],.slice none 0 0,.agg #[.string ⟨#[]⟩,.string ⟨#[]⟩],.string ⟨#[]⟩],[]⟩ 8 (by kernel_rfl) (by kernel_rfl) (by kernel_rfl) (by kernel_rfl)
   exact ⟨w,t,i,h1,h2,h3,h4,⟨⟨h5.1,trivial⟩,h5.2⟩,h6⟩) ?_
 intro W base args ds gs before hval0 hW hcnd hsz0 _ _
 have hval:∀ (j:Nat) t v,Tryz.f13.params[j]?=some t→args[j]?=some v→Value.okWide Tryz.prog W .any base t v:=hval0
 have hsz:(DataW.weightsEach Tryz.prog (Tryz.f13.params.toList++[]) (ds++gs)).all (·≤reachBytes)=true:=hsz0
 have hW':=hW
 obtain ⟨p,q,hA0,hV,rfl,hfz,hnd⟩:=hW
 have hA:DataW.TrodAll enc Tryz.prog W 0 (fun _=>true) true Tryz.f13.params.toList args.toList ds p:=hA0
 rw [Tryz.params13] at hA hval hsz
 obtain ⟨v0,v1,v2,v3,d0,d1,d2,d3,p0,p1,p2,p3,rfl,rfl,rfl,h0,h1,h2,h3⟩:=trodAll_four hA
 obtain ⟨rfl,rfl⟩:=trodVars_none hV
 obtain ⟨w0,hsz⟩:=weights_one hsz
 obtain ⟨w1,hsz⟩:=weights_one hsz
 obtain ⟨w2,hsz⟩:=weights_one hsz
 obtain ⟨-,hsz⟩:=weights_one hsz
 obtain ⟨vs0,hvs0,-⟩:=okWide_struct Tryz.underlying24 (hval 0 24 v0 rfl rfl)
 obtain ⟨a0,hs0,hv0⟩:=open_sc scT w0 h0 ⟨vs0,hvs0⟩
 obtain ⟨a1,hs1,hv1⟩:=open_tus tuT w1 h1 (okWide_slice Tryz.underlying25 (hval 1 25 v1 rfl rfl))
 obtain ⟨vs2,hvs2,-⟩:=okWide_struct Tryz.underlying27 (hval 2 27 v2 rfl rfl)
 obtain ⟨a2,hs2,hv2⟩:=open_obj tuT w2 h2 ⟨vs2,hvs2⟩
 obtain ⟨a3,rfl,-,-,-⟩:=Go.ChangeMaps.open_string Tryz.underlying9 (hval 3 9 v3 rfl rfl) h3
 clear hA0 hval0 hsz0
 refine (call_true (by kernel_rfl) (c_ListsLeaves hs0 hs1 hs2 a3) (vs:=#[v0,v1,v2,.string a3]) (.cons hv0 (.cons hv1 (.cons hv2 (.cons (.str _) .nil))))).mono fun e W' ⟨he,hB⟩=>?_
 subst he
 have hts:(Tryz.f13.params.toList.all fun t=>Tryz.prog.readableRec t&&decide (t<Tryz.prog.types.size))=true:=by kernel_rfl
 exact ⟨_,rfl,post_kept laidOut (fun t ht=>by have h:=List.all_eq_true.1 hts t ht;rw [Bool.and_eq_true] at h;exact ⟨h.1,of_decide_eq_true h.2⟩) rfl hW' ⟨rfl,rfl,rfl⟩ (tb:=4) (by kernel_rfl) Tryz.underlying4 hB⟩
set_option maxRecDepth 100000 in
theorem listsLeaves_p0:(Rows.listsLeavesRow.inPlace==Tryz.pinned.checked.prog.inPlace 13)=true:=by kernel_rfl
set_option maxRecDepth 100000 in
theorem listsLeaves_p1:(Rows.listsLeavesRow.unfollowed==Tryz.pinned.checked.prog.unfollowed 13)=true:=by kernel_rfl
set_option maxRecDepth 100000 in
theorem listsLeaves_p2:(Rows.listsLeavesRow.recurses==Tryz.pinned.checked.prog.recurses 13)=true:=by kernel_rfl
set_option maxRecDepth 100000 in
theorem listsLeaves_p3:(Rows.listsLeavesRow.named==Tryz.pinned.checked.prog.varsNamed 13)=true:=by kernel_rfl
set_option maxRecDepth 100000 in
theorem listsLeaves_p4:laidOutB Tryz.pinned.checked.prog=true:=by kernel_rfl
set_option maxRecDepth 100000 in
theorem listsLeaves_p5:mapsRowed Tryz.pinned.checked.prog=true:=by kernel_rfl
set_option maxRecDepth 100000 in
theorem listsLeaves_p6:Tryz.pinned.checked.prog.stopsHeard=true:=by kernel_rfl
set_option maxRecDepth 100000 in
theorem listsLeaves_p7:Tryz.pinned.checked.prog.mayEnter=true:=by kernel_rfl
set_option maxRecDepth 100000 in
theorem listsLeaves_closed:joinedFacts Tryz.pinned.checked.prog 13 Tryz.f13 Rows.listsLeavesSpec Rows.listsLeavesRow=true:=by
 unfold joinedFacts
 rw [listsLeaves_p0,listsLeaves_p1,listsLeaves_p2,listsLeaves_p3,listsLeaves_p4,listsLeaves_p5,listsLeaves_p6,listsLeaves_p7]
 kernel_rfl
theorem listsLeaves_holds:Rows.ListsLeavesSaid:=
 OpenClaim.holds_of_wide 13 Tryz.f13 rfl rfl rfl rfl rfl rfl rfl ⟨rfl,rfl,rfl,rfl,rfl⟩ rfl rfl rfl rfl rfl (by kernel_rfl) Tryz.func13 listsLeaves_closed
  (of_decide_eq_true (by kernel_rfl)) (by unfold Func.isWrapper;first | (rw [if_pos (by decide +kernel)];kernel_rfl) | (rw [if_neg (by decide +kernel)];exact ⟨rfl,rfl⟩))
  (fun os started H enc _=>by
   have h:=listsLeaves_lifted os started H enc
   simp only [and_true] at h
   exact h)
end Go.Proofs.YtadmdlpmikoghaaGreat
