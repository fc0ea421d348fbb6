/- The law GraphOrder returns true for every input and leaves it as it was; no conditions. -/
import Derived.Test.YtadmdlpmikoghaaGreatKfM3
import Derived.Test.YtadmdlpmikoghaaGreatKfHlS3
import Derived.Test.YtadmdlpmikoghaaGreatKfM2
import Derived.Test.YtadmdlpmikoghaaGreatKfHlS6
import Derived.Test.YtadmdlpmikoghaaGreatKfHlS9
import Derived.Test.YtadmdlpmikoghaaGreatKfHlS1
import Derived.Test.YtadmdlpmikoghaaGreatKfHlS0
import Derived.Test.YtadmdlpmikoghaaGreatKfHlS4
import Derived.Test.YtadmdlpmikoghaaGreatKfM1
import Derived.Test.YtadmdlpmikoghaaGreatKfHlL
import Derived.ProofKit
import Derived.Carry
import Derived.Handed
import Derived.Test.YtadmdlpmikoghaaGreatRows
set_option maxRecDepth 4000
set_option linter.unusedSimpArgs false
set_option linter.unusedVariables false
namespace Go.HL
open Nat renaming reduceAdd→zA,reduceLeDiff→zB,reduceLT→zC,reduceSub→zD,reduceMul→zE,reduceEqDiff→zF,reduceBEq→zG
open Int renaming reduceAdd→zH,reduceToNat→zI
def Apart (u v:AV):Prop:=∀ b off n cap,v=.own b off n cap→q0n u b
theorem LstN.keep {S0 S S':q00} {t sz:Nat} {u u' v:AV} {rows:List (List AV)} (h:LstN S0 S t sz v rows) (ha:Apart u v) (hk:∀ c o,sget S c=some o→q0n u c→sget S' c=some o∧q0n u' c):LstN S0 S' t sz v rows∧Apart u' v:=by
 obtain ⟨hr,⟨rfl,rfl⟩ | ⟨b,cap,rfl,h1,h2,h3⟩⟩:=h
 ·exact ⟨.nil,fun b off n cap h=>by cases h⟩
 ·obtain ⟨k1,k2⟩:=hk b _ h2 (ha b 0 _ _ rfl)
  exact ⟨⟨hr,.inr ⟨b,cap,rfl,h1,k1,h3⟩⟩,fun b' off n cap h=>by cases h;exact k2⟩
theorem Apart.symm {u v:AV} (h:Apart u v):Apart v u:=fun b off n cap hu b' off' n' cap' hv=>Ne.symm (h b' off' n' cap' hv b off n cap hu)
theorem apart_nils {v:AV}:Apart .nils v:=fun b off n cap _=>q2z
structure PrI (S:q00) (bR b2 b3 b5:Nat) (T:List Tk) (v:AV) (p:List Ty×Rd) (S':q00):Prop where
 rd:sget S' bR=some (rdO T p.2)
 c2:sget S' b2=some (.cells 24 [.nils] 1)
 c3:sget S' b3=some (.cells 82 [.int .i64 0,.int .i64 0,.int .i64 0] 3)
 c5:sget S' b5=some (.cells 24 [v] 1)
 lst:LstN S S' 46 2 v (p.1.map tyC)
 asd:∀ c∈[bR,b2,b3,b5],q0n v c
 sub:Sub S S'
theorem PrI.mv {S S':q00} {bR b2 b3 b5:Nat} {T:List Tk} {v:AV} {l:List Ty} {r:Rd} (h:PrI S bR b2 b3 b5 T v (l,r) S') (hd:[bR,b2,b3,b5].Nodup) (hR:sget S bR=none) (r':Rd):PrI S bR b2 b3 b5 T v (l,r') (supd S' bR (rdO T r')):=by
 simp only [List.nodup_cons,List.mem_cons,not_or,List.not_mem_nil,or_false,not_false_eq_true,List.nodup_nil,and_true] at hd
 obtain ⟨⟨n2,n3,n5⟩,⟨m3,m5⟩,l5⟩:=hd
 exact ⟨by rw [q01,if_pos rfl],by rw [q01,if_neg n2];exact h.c2,by rw [q01,if_neg n3];exact h.c3,by rw [q01,if_neg n5];exact h.c5,h.lst.upd (h.asd bR (by simp)) _,h.asd,h.sub.supd hR⟩
structure PrJ (S:q00) (bR b2 b3 b5 b6:Nat) (T:List Tk) (v u:AV) (nm:ByteArray) (l:List Ty) (p:List Rl×Rd) (S':q00):Prop where
 out:PrI S bR b2 b3 b5 T v (l,p.2) S'
 c6:sget S' b6=some (.cells 46 [.str nm,u] 2)
 ins:LstN S S' 53 6 u (p.1.map rlC)
 asd:∀ c∈[bR,b2,b3,b5,b6],q0n u c
 asd6:q0n v b6
 apt:Apart u v
theorem PrJ.mv {S S':q00} {bR b2 b3 b5 b6:Nat} {T:List Tk} {v u:AV} {nm:ByteArray} {l:List Ty} {rs:List Rl} {r:Rd} (h:PrJ S bR b2 b3 b5 b6 T v u nm l (rs,r) S') (hd:[bR,b2,b3,b5].Nodup) (h6:bR≠b6) (hR:sget S bR=none) (r':Rd):PrJ S bR b2 b3 b5 b6 T v u nm l (rs,r') (supd S' bR (rdO T r')):=
 ⟨h.out.mv hd hR r',by rw [q01,if_neg h6];exact h.c6,h.ins.upd (h.asd bR (by simp)) _,h.asd,h.asd6,h.apt⟩
theorem PrJ.more {S S1:q00} {bR b2 b3 b5 b6:Nat} {T:List Tk} {v u:AV} {nm:ByteArray} {l:List Ty} {rs:List Rl} {r:Rd} (h:PrJ S bR b2 b3 b5 b6 T v u nm l (rs,r) S1) (hd6:∀ c∈[bR,b2,b3,b5],b6≠c) (k6:sget S b6=none) (x:Rl) (hlen:rs.length≤100000) {K:q00→Prop} (hK:∀ u' S3,PrJ S bR b2 b3 b5 b6 T v u' nm l (rs++[x],r) S3→K S3) :
  apW S1 53 6 104 u (.sl 6 [rlC x]) fun u' S2=>soW (q0h S2 b6) S2 1 b6 1 u' K:=by
 obtain ⟨⟨hrd,h2,h3,h5,hl,ha,hs⟩,hc6,hin,hau,ha6,hap⟩:=h
 dsimp only at hrd hl hin
 refine hin.app hs (xs:=[rlC x]) (fun r hr=>by rw [List.mem_singleton] at hr;subst hr;exact rlC_len x) (by rw [q0y];rfl) (by simp;omega) ?_
 intro u' S2 k1 k2 k3
 obtain ⟨q6,q6a⟩:=k3 b6 _ hc6 (hau b6 (by simp))
 have hone:=k2.one
 have hac:q09 u'=[u']:=by cases u'<;>first | rfl | cases hone
 obtain ⟨j1,j2⟩:=hl.keep hap k3
 rw [objAt_some.2 q6,q2t,hac]
 refine ⟨rfl,by simp,by simp [ones,hone],hK u' _ ⟨⟨?_,?_,?_,?_,j1.upd ha6 _,ha,k1.supd k6⟩,by rw [q01,if_pos rfl];rfl,?_,fun c hc=>?_,ha6,j2⟩⟩
 ·rw [q01,if_neg (hd6 bR (by simp))];exact (k3 bR _ hrd (hau bR (by simp))).1
 ·rw [q01,if_neg (hd6 b2 (by simp))];exact (k3 b2 _ h2 (hau b2 (by simp))).1
 ·rw [q01,if_neg (hd6 b3 (by simp))];exact (k3 b3 _ h3 (hau b3 (by simp))).1
 ·rw [q01,if_neg (hd6 b5 (by simp))];exact (k3 b5 _ h5 (hau b5 (by simp))).1
 ·simpa using k2.upd q6a _
 ·simp only [List.mem_cons,List.not_mem_nil,or_false] at hc
  rcases hc with rfl | rfl | rfl | rfl | rfl
  ·exact (k3 _ _ hrd (hau _ (by simp))).2
  ·exact (k3 _ _ h2 (hau _ (by simp))).2
  ·exact (k3 _ _ h3 (hau _ (by simp))).2
  ·exact (k3 _ _ h5 (hau _ (by simp))).2
  ·exact q6a
theorem Frs.app {S0 S:q00}:∀ {a a' b b':List AV},Frs S0 S a a'→Frs S0 S b b'→Frs S0 S (a++b) (a'++b')
 | [],[],b,b',_,h=>h
 | [],x :: r,b,b',h,_=>by cases h.1
 | x :: r,[],b,b',h,_=>by cases h.1
 | x :: r,y :: r',b,b',h,k=>.cons (h.2 0 x y rfl rfl) (Frs.app ⟨by simpa using h.1,fun i u u' h1 h2=>h.2 (i+1) u u' (by simpa using h1) (by simpa using h2)⟩ k)
theorem PrJ.typ {S S1:q00} {bR b2 b3 b5 b6:Nat} {T:List Tk} {v u:AV} {nm:ByteArray} {l:List Ty} {rs:List Rl} {r:Rd} (h:PrJ S bR b2 b3 b5 b6 T v u nm l (rs,r) S1) (hd:[bR,b2,b3,b5].Nodup) (hd6:∀ c∈[bR,b2,b3,b5],b6≠c) (hn:∀ c∈[bR,b2,b3,b5],sget S c=none) (hlen:l.length≤100000) {q:LE→q00→Prop} {le:LE} (hK:∀ v' S3,PrI S bR b2 b3 b5 T v' (l++[⟨nm,rs⟩],r) S3→q le S3) :
  apW S1 46 2 40 v (.sl 2 [[.str nm,u]]) fun v' S2=>soW (q0h S2 b5) S2 1 b5 0 v' fun S3=>rcW q le S3:=by
 obtain ⟨⟨hrd,h2,h3,h5,hl,ha,hs⟩,hc6,hin,hau,ha6,hap⟩:=h
 dsimp only at hrd hl hin
 have honeu:=hin.one
 refine hl.app hs (xs:=[[.str nm,u]]) (fun r hr=>by rw [List.mem_singleton] at hr;subst hr;rfl) (by simp [ones,honeu];rfl) (by simp;omega) ?_
 intro v' S2 k1 k2 k3
 obtain ⟨q5,q5a⟩:=k3 b5 _ h5 (ha b5 (by simp))
 obtain ⟨qR,qRa⟩:=k3 bR _ hrd (ha bR (by simp))
 obtain ⟨q2,q2a⟩:=k3 b2 _ h2 (ha b2 (by simp))
 obtain ⟨q3,q3a⟩:=k3 b3 _ h3 (ha b3 (by simp))
 obtain ⟨j1,j2⟩:=hin.keep hap.symm k3
 have hone:=k2.one
 have hac:q09 v'=[v']:=by cases v'<;>first | rfl | cases hone
 rw [objAt_some.2 q5,q2t,hac]
 refine ⟨rfl,by simp,by simp [ones,hone],?_⟩
 simp only [List.nodup_cons,List.mem_cons,not_or,List.not_mem_nil,or_false,not_false_eq_true,List.nodup_nil,and_true] at hd
 obtain ⟨⟨n2,n3,n5⟩,⟨m3,m5⟩,l5⟩:=hd
 obtain ⟨hr,⟨rfl,h0⟩ | ⟨bv,cap,rfl,e1,e2,e3,e4,e5⟩⟩:=k2
 ·simp at h0
 have dR:=qRa bv 0 _ _ rfl
 have d2:=q2a bv 0 _ _ rfl
 have d3:=q3a bv 0 _ _ rfl
 have d5:=q5a bv 0 _ _ rfl
 let S0:q00:=supd (supd (supd (supd S bR (rdO T r)) b2 (.cells 24 [.nils] 1)) b3 (.cells 82 [.int .i64 0,.int .i64 0,.int .i64 0] 3)) b5 (.cells 24 [.own bv 0 ((l.map tyC)++[[.str nm,u]]).length cap] 1)
 have hS0:Sub S0 (supd S2 b5 (.cells 24 [.own bv 0 ((l.map tyC)++[[.str nm,u]]).length cap] 1)):=by
  intro x y hx
  rw [q01] at hx ⊢
  by_cases g5:b5=x
  ·rw [if_pos g5] at hx ⊢;exact hx
  rw [if_neg g5] at hx ⊢
  rw [q01] at hx
  by_cases g3:b3=x
  ·rw [if_pos g3] at hx;rw [← g3,q3];exact hx
  rw [if_neg g3,q01] at hx
  by_cases g2:b2=x
  ·rw [if_pos g2] at hx;rw [← g2,q2];exact hx
  rw [if_neg g2,q01] at hx
  by_cases gR:bR=x
  ·rw [if_pos gR] at hx;rw [← gR,qR];exact hx
  rw [if_neg gR] at hx
  exact k1 x y hx
 have hv0:sget S0 bv=none:=by
  show sget (supd _ _ _) bv=none
  rw [q01,if_neg d5,q01,if_neg d3,q01,if_neg d2,q01,if_neg dR]
  exact e1
 have hvc:sget (supd S2 b5 (.cells 24 [.own bv 0 ((l.map tyC)++[[.str nm,u]]).length cap] 1)) bv=some (.cells 46 ((l.map tyC)++[[.str nm,u]]).flatten (cap * 2)):=by
  rw [q01,if_neg d5];exact e2
 have hcs:((l.map tyC)++[[.str nm,u]]).flatten=(l.map tyC).flatten++[.str nm,u]:=by simp
 have hcs':((l++[(⟨nm,rs⟩:Ty)]).map tyC).flatten=(l.map tyC).flatten++[.str nm,.sl 6 (rs.map rlC)]:=by simp [tyC]
 have hlen':((l++[(⟨nm,rs⟩:Ty)]).map tyC).length=((l.map tyC)++[[.str nm,u]]).length:=by simp
 refine rcW_cells (cs':=((l++[(⟨nm,rs⟩:Ty)]).map tyC).flatten) hS0 hv0 hvc ?_ (hK (.own bv 0 ((l.map tyC)++[[.str nm,u]]).length cap) _ ⟨?_,?_,?_,?_,⟨fun r hr=>?_,.inr ⟨bv,cap,by rw [hlen'],e1,by rw [q01,if_pos rfl],by rw [hlen'];exact e3,e4,by rw [hlen'];exact e5⟩⟩,fun c hc=>?_,?_⟩)
 ·rw [hcs,hcs']
  refine Frs.app (Frs.same _) (.cons (.same _) (.cons (Fr.lst (t:=53) ?_) .nil))
  obtain ⟨g1,⟨rfl,g2⟩ | ⟨bu,capu,rfl,f1,f2,f3⟩⟩:=j1
  ·exact ⟨g1,.inl ⟨rfl,g2⟩⟩
  ·refine ⟨g1,.inr ⟨bu,capu,rfl,?_,?_,f3⟩⟩
   ·have w5:=hau b5 (by simp) bu 0 _ _ rfl
    have w3:=hau b3 (by simp) bu 0 _ _ rfl
    have w2:=hau b2 (by simp) bu 0 _ _ rfl
    have wR:=hau bR (by simp) bu 0 _ _ rfl
    have wv:=j2 bu 0 _ _ rfl bv 0 _ _ rfl
    rw [q01,if_neg (Ne.symm wv)]
    show sget (supd _ _ _) bu=none
    rw [q01,if_neg w5,q01,if_neg w3,q01,if_neg w2,q01,if_neg wR]
    exact f1
   ·have w5:=hau b5 (by simp) bu 0 _ _ rfl
    rw [q01,if_neg w5];exact f2
 ·rw [q01,if_neg (Ne.symm dR)]
  show sget (supd _ _ _) bR=_
  rw [q01,if_neg (Ne.symm n5),q01,if_neg (Ne.symm n3),q01,if_neg (Ne.symm n2),q01,if_pos rfl]
 ·rw [q01,if_neg (Ne.symm d2)]
  show sget (supd _ _ _) b2=_
  rw [q01,if_neg (Ne.symm m5),q01,if_neg (Ne.symm m3),q01,if_pos rfl]
 ·rw [q01,if_neg (Ne.symm d3)]
  show sget (supd _ _ _) b3=_
  rw [q01,if_neg (Ne.symm l5),q01,if_pos rfl]
 ·rw [q01,if_neg (Ne.symm d5)]
  show sget (supd _ _ _) b5=_
  rw [q01,if_pos rfl]
 ·obtain ⟨t,-,rfl⟩:=List.mem_map.1 hr
  rfl
 ·simp only [List.mem_cons,List.not_mem_nil,or_false] at hc
  rcases hc with rfl | rfl | rfl | rfl
  ·exact qRa
  ·exact q2a
  ·exact q3a
  ·exact q5a
 ·have s1:=(Sub.refl S).supd (o:=rdO T r) (hn bR (by simp))
  exact (((((Sub.refl S).supd (hn bR (by simp))).supd (hn b2 (by simp))).supd (hn b3 (by simp))).supd (hn b5 (by simp))).supd e1
theorem tokL_ne:∀ {f:Nat} {l:List UInt8} {a b:Nat},l.length<f→tokL f l a b≠[]
 | 0,l,a,b,h=>by omega
 | f+1,[],a,b,h=>by simp [tokL]
 | f+1,c :: r,a,b,h=>by
  unfold tokL
  simp only [List.length_cons] at h
  split
  ·exact tokL_ne (by omega)
  ·split
   ·split<;>simp
   ·simp
theorem tokT_pos (s:ByteArray):0<(tokT s).length:=List.length_pos_iff.2 (tokL_ne (by rw [q4o];omega))
def q3y (s:ByteArray):List Ty×AV:=if 4096<s.size then ([],.agg [.int .i64 1,.int .i64 1,.int .i64 2]) else q61 (tokT s)
theorem c_Parse (s:ByteArray):AFun PG nrx44 [.str s] (.tup [scA (q3y s).1,(q3y s).2]):=by
 intro S
 refine wx44 ?_
 unfold Bx44
 intro b2 hb2
 (try simp only [rwp,hwR,zA,zB,zC,zD,zE,zF,zG,zH,zI])
 intro b3 hb3
 have n23:b3≠b2:=q0i hb3 (x:=.cells 24 [.nils] 1) (by rw [q01,if_pos rfl])
 have k3:sget S b3=none:=by rw [q01,if_neg (Ne.symm n23)] at hb3;exact hb3
 (try simp only [rwp,hwR,zA,zB,zC,zD,zE,zF,zG,zH,zI,if_neg n23,if_neg (Ne.symm n23)])
 (refine q05 (fun hl=>?_) (fun hl=>?_)<;>(try simp only [hlc] at hl))
 ·have hpf:q3y s=([],.agg [.int .i64 1,.int .i64 1,.int .i64 2]):=by rw [q3y,if_pos (by omega)]
  rw [hpf]
  refine rtW_fr S (.tup [scA [],.agg [.int .i64 1,.int .i64 1,.int .i64 2]]) (((((Sub.refl S).supd hb2).supd k3).supd hb2).supd k3) ?_ ⟨rfl,rfl⟩
  (try simp only [rwp,hwR,zA,zB,zC,zD,zE,zF,zG,zH,zI,if_neg n23,if_neg (Ne.symm n23)])
  exact .tu (.cons (.ag (.cons (.nils 2) .nil)) (.cons (.same _) .nil))
 have hs:s.size≤4096:=by omega
 have hT:=tokT_ok hs
 have hTl:=hT.len
 have hpf:q3y s=q61 (tokT s):=by rw [q3y,if_neg (by omega)]
 refine q06 (c_Tokens hs) ?_
 have hpos:=tokT_pos s
 rw [hpf]
 generalize tokT s=T at hT hpos hTl ⊢
 clear hpf hl hs
 (try simp only [rwp,hwR,zA,zB,zC,zD,zE,zF,zG,zH,zI])
 refine ⟨rfl,rfl,fun bR hbR=>?_⟩
 have nR2:bR≠b2:=q0i hbR (x:=.cells 24 [.nils] 1) (by rw [q01,if_neg n23,q01,if_pos rfl])
 have nR3:bR≠b3:=q0i hbR (x:=.cells 82 [.int .i64 0,.int .i64 0,.int .i64 0] 3) (by rw [q01,if_pos rfl])
 have kR:sget S bR=none:=by rw [q01,if_neg (Ne.symm nR3),q01,if_neg (Ne.symm nR2)] at hbR;exact hbR
 intro b5 hb5
 have n52:b5≠b2:=q0i hb5 (x:=.cells 24 [.nils] 1) (by rw [q01,if_neg nR2,q01,if_neg n23,q01,if_pos rfl])
 have n53:b5≠b3:=q0i hb5 (x:=.cells 82 [.int .i64 0,.int .i64 0,.int .i64 0] 3) (by rw [q01,if_neg nR3,q01,if_pos rfl])
 have n5R:b5≠bR:=by
  rintro rfl
  rw [q01,if_pos rfl] at hb5;cases hb5
 have k5:sget S b5=none:=by rw [q01,if_neg (Ne.symm n5R),q01,if_neg (Ne.symm n53),q01,if_neg (Ne.symm n52)] at hb5;exact hb5
 have hd:[bR,b2,b3,b5].Nodup:=by
  simp only [List.nodup_cons,List.mem_cons,not_or,List.not_mem_nil,or_false,not_false_eq_true,List.nodup_nil,and_true]
  exact ⟨⟨nR2,nR3,Ne.symm n5R⟩,⟨Ne.symm n23,Ne.symm n52⟩,Ne.symm n53⟩
 have hn:∀ c∈[bR,b2,b3,b5],sget S c=none:=by
  intro c hc
  simp only [List.mem_cons,List.not_mem_nil,or_false] at hc
  rcases hc with rfl | rfl | rfl | rfl<;>assumption
 (try simp only [rwp,hwR,zA,zB,zC,zD,zE,zF,zG,zH,zI])
 have hI0:PrI S bR b2 b3 b5 T .nils ([],rd0) (supd (supd (supd (supd S b2 (.cells 24 [.nils] 1)) b3 (.cells 82 [.int .i64 0,.int .i64 0,.int .i64 0] 3)) bR (rdO T rd0)) b5 (.cells 24 [.nils] 1)):=by
  refine ⟨?_,?_,?_,?_,.nil,fun c _=>q2z,((((Sub.refl S).supd hb2).supd k3).supd kR).supd k5⟩<;>simp [q01,n23,nR2,nR3,n52,n53,n5R,Ne.symm n23,Ne.symm nR2,Ne.symm nR3,Ne.symm n52,Ne.symm n53,Ne.symm n5R]
 have hfin:q20 T T.length ([],rd0)=q20 T T.length ([],rd0):=rfl
 have hts:=ts0 (T:=T) hpos
 refine LoopP.introS (fun _:List Ty×Rd=>[(2,.ptr b2 0),(3,.ptr b3 0),(4,.ptr bR 0),(5,.ptr b5 0)])
  (fun p S'=>(∃ v,PrI S bR b2 b3 b5 T v p S')∧TsSt T p∧q20 T T.length p=q20 T T.length ([],rd0)) (fun p=>T.length-p.2.at') ([],rd0) ⟨⟨.nils,hI0⟩,hts,rfl⟩ rfl ?_
 clear hI0 hts hfin
 rintro ⟨l,r⟩ S1 ⟨⟨v,hI⟩,hTs,hf⟩ q hq
 have hp:Pre T 12 r:=hTs.pre
 have hin:r.at'<T.length:=hp.inr
 have hrd:=hI.rd
 have hll:=hTs.len
 dsimp only at hrd hll
 (try simp only [rwp,hwR,zA,zB,zC,zD,zE,zF,zG,zH,zI,C44_1])
 refine (c_is hT hp.inr q1x).ca hrd ?_
 cases hi:isP T q1x r with
 | true=>
  obtain ⟨hp1,hp2,hR,hTs2,hmu⟩:=q6v hT hTs hi
  have hf2:q20 T T.length (l++[⟨q2b T (isR T q1x r),(q3b T T.length ([],q0k T (isR T q1x r))).1⟩],(q3b T T.length ([],q0k T (isR T q1x r))).2)=q20 T T.length ([],rd0):=by
   rw [← hf]
   obtain ⟨m,hm⟩:∃ m,T.length=m+1:=⟨T.length-1,by omega⟩
   conv=>rhs;rw [hm,q20,if_pos hi]
   exact typesL_more hT hTs2 (by dsimp only;omega) (by dsimp only;omega)
  (try simp only [rwp,hwR,zA,zB,zC,zD,zE,zF,zG,zH,zI])
  refine (c_name hT hp1.inr).ca q14 ?_
  (try simp only [rwp,hwR,zA,zB,zC,zD,zE,zF,zG,zH,zI])
  have hI2:=(hI.mv hd kR (isR T q1x r)).mv hd kR (q0k T (isR T q1x r))
  rw [q0j] at hI2
  generalize q2b T (isR T q1x r)=nm at hf2 hTs2 ⊢
  have hI2':PrI S bR b2 b3 b5 T v (l,q0k T (isR T q1x r)) (supd S1 bR (rdO T (q0k T (isR T q1x r)))):=hI2
  clear hI2
  generalize supd S1 bR (rdO T (q0k T (isR T q1x r)))=S2 at hI2' ⊢
  generalize q0k T (isR T q1x r)=r2 at hI2' hp2 hR hf2 hTs2 hmu
  intro b6 hb6
  (try simp only [rwp,hwR,zA,zB,zC,zD,zE,zF,zG,zH,zI])
  have hd6:∀ c∈[bR,b2,b3,b5],b6≠c:=by
   intro c hc
   simp only [List.mem_cons,List.not_mem_nil,or_false] at hc
   rcases hc with rfl | rfl | rfl | rfl
   ·exact q0i hb6 hI2'.rd
   ·exact q0i hb6 hI2'.c2
   ·exact q0i hb6 hI2'.c3
   ·exact q0i hb6 hI2'.c5
  have k6:=Sub.none hI2'.sub hb6
  have hJ0:PrJ S bR b2 b3 b5 b6 T v .nils nm l ([],r2) (supd S2 b6 (.cells 46 [.str nm,.nils] 2)):=by
   have a6:=hI2'.lst.fresh hb6
   refine ⟨⟨?_,?_,?_,?_,hI2'.lst.upd a6 _,hI2'.asd,hI2'.sub.supd k6⟩,by rw [q01,if_pos rfl],.nil,fun c _=>q2z,a6,apart_nils⟩
   ·rw [q01,if_neg (hd6 bR (by simp))];exact hI2'.rd
   ·rw [q01,if_neg (hd6 b2 (by simp))];exact hI2'.c2
   ·rw [q01,if_neg (hd6 b3 (by simp))];exact hI2'.c3
   ·rw [q01,if_neg (hd6 b5 (by simp))];exact hI2'.c5
  have hRs0:RsSt T r2 ([],r2):=⟨StepR.refl hp2,Nat.zero_le _,fun x hx=>(by cases hx),fun _ x hx=>(by cases hx)⟩
  refine LoopP.introS (fun _:List Rl×Rd=>[(2,.ptr b2 0),(3,.ptr b3 0),(4,.ptr bR 0),(5,.ptr b5 0),(6,.ptr b6 0)])
   (fun p S'=>(∃ u,PrJ S bR b2 b3 b5 b6 T v u nm l p S')∧RsSt T r2 p∧q3b T T.length p=q3b T T.length ([],r2)) (fun p=>T.length-p.2.at') ([],r2) ⟨⟨.nils,hJ0⟩,hRs0,rfl⟩ rfl ?_
  clear hJ0 hRs0 hI2'
  rintro ⟨rs,r3⟩ S3 ⟨⟨u,hJ⟩,hRs,hfr⟩ q2 hq2
  have hp3:=hRs.st.pre hp2
  have hin3:r3.at'<T.length:=hp3.inr
  have hlr:=hRs.len
  dsimp only at hlr
  obtain ⟨k1,k2⟩:=rels_next hT hp2 hRs
  (try simp only [rwp,hwR,zA,zB,zC,zD,zE,zF,zG,zH,zI,C44_4])
  refine (c_rel hT hp3).ca hJ.out.rd ?_
  have hJ2:=hJ.mv hd (Ne.symm (hd6 bR (by simp))) kR (relP T r3).2
  have o6:=objAt_some.2 hJ2.c6
  have o5:=objAt_some.2 hJ2.out.c5
  cases hok:(relP T r3).1.2 with
  | true=>
   obtain ⟨k3',k4⟩:=k1 hok
   have hfr2:q3b T T.length (rs++[(relP T r3).1.1],(relP T r3).2)=q3b T T.length ([],r2):=by
    rw [← hfr]
    obtain ⟨m,hm⟩:∃ m,T.length=m+1:=⟨T.length-1,by omega⟩
    conv=>rhs;rw [hm,q3b,if_pos hok]
    exact relsL_more hT hp2 k3' (by dsimp only;omega) (by dsimp only;omega)
   have hmr:=hJ2.more hd6 k6 (relP T r3).1.1 (by omega) (K:=fun S4=>rcW q2 [(2,.ptr b2 0),(3,.ptr b3 0),(4,.ptr bR 0),(5,.ptr b5 0),(6,.ptr b6 0)] S4) fun u' S4 hJ4=>q0a rfl (hq2 (rs++[(relP T r3).1.1],(relP T r3).2) S4 ⟨⟨u',hJ4⟩,k3',hfr2⟩ (by dsimp only;omega))
   simp only [q0y] at hmr
   (try simp only [rwp,hwR,zA,zB,zC,zD,zE,zF,zG,zH,zI,q0y,q08 o6,q15])
   exact hmr
  | false=>
   have hstop:q3b T T.length (rs,r3)=(rs,(relP T r3).2):=by
    obtain ⟨m,hm⟩:∃ m,T.length=m+1:=⟨T.length-1,by omega⟩
    rw [hm,q3b,if_neg (by rw [hok];simp)]
   rw [hstop] at hfr
   rw [← hfr] at hf2 hTs2 hmu
   have hone:=hJ2.ins.one
   have htp:=hJ2.typ hd hd6 hn (by omega) (q:=q) (le:=[(2,.ptr b2 0),(3,.ptr b3 0),(4,.ptr bR 0),(5,.ptr b5 0)]) fun v' S4 hI4=>hq (l++[⟨nm,rs⟩],(relP T r3).2) S4 ⟨⟨v',hI4⟩,hTs2,hf2⟩ (by dsimp only at hmu ⊢;omega)
   dsimp only
   (try simp only [rwp,hwR,zA,zB,zC,zD,zE,zF,zG,zH,zI,q0y,q08 o6,q08 o5,q15])
   exact htp
 | false=>
  rw [q7x hi,q0p hrd]
  have hstop:q20 T T.length (l,r)=(l,r):=by
   cases T.length with
   | zero=>rfl
   | succ m=>rw [q20,if_neg (by rw [hi];simp)]
  rw [hstop] at hf
  have ho:=q71 hrd
  (try simp only [rwp,hwR,zA,zB,zC,zD,zE,zF,zG,zH,zI,q08 ho])
  have fin:∀ S2,PrI S bR b2 b3 b5 T v (l,endR T r) S2→C44_3 (fun ae S'=>ae=.ret (.tup [scA (q61 T).1,(q61 T).2])∧S'=S) (.ptr b2 0) (.ptr b3 0) (.ptr bR 0) (.ptr b5 0) S2:=by
   intro S2 hI2
   have hr2:=q71 hI2.rd
   have o2:=objAt_some.2 hI2.c2
   have o3:=objAt_some.2 hI2.c3
   have o5:=objAt_some.2 hI2.c5
   have hone:=hI2.lst.one
   have hac:q09 v=[v]:=by cases v<;>first | rfl | cases hone
   unfold C44_3
   (try simp only [rwp,hwR,zA,zB,zC,zD,zE,zF,zG,zH,zI,q08 hr2])
   have hpt:q61 T=if (endR T r).de=0 then (l,.agg [.int .i64 0,.int .i64 0,.int .i64 0]) else ([],.agg [.int .i64 (endR T r).dl,.int .i64 (endR T r).dc,.int .i64 (endR T r).de]):=by
    rw [q61,← hf]
   have nR2':b2≠bR:=Ne.symm nR2
   have n32:=Ne.symm n23
   (refine q05 (fun hde=>?_) (fun hde=>?_)<;>(try simp only [hlc] at hde))
   ·rw [if_neg hde] at hpt
    rw [hpt]
    (try simp only [rwp,hwR,zA,zB,zC,zD,zE,zF,zG,zH,zI,o2])
    refine kpW_one (by rw [q01,if_neg nR2']) ?_
    have o3':q0h (supd S2 b2 (.cells 24 [.nils] 1)) b3=some (82,[.int .i64 0,.int .i64 0,.int .i64 0],3):=by rw [q0e n32];exact o3
    (try simp only [rwp,hwR,zA,zB,zC,zD,zE,zF,zG,zH,zI,o3',if_neg n32,o3])
    refine rtW_fr S (.tup [scA [],.agg [.int .i64 (endR T r).dl,.int .i64 (endR T r).dc,.int .i64 (endR T r).de]]) ((hI2.sub.supd hb2).supd k3) ?_ ⟨rfl,rfl⟩
    (try simp only [rwp,hwR,zA,zB,zC,zD,zE,zF,zG,zH,zI,if_neg n23,if_neg n32])
    exact .tu (.cons (.ag (.cons (.nils 2) .nil)) (.cons (.same _) .nil))
   ·rw [if_pos hde] at hpt
    rw [hpt]
    have o3':∀ x,q0h (supd S2 b2 (.cells 24 [x] 1)) b3=some (82,[.int .i64 0,.int .i64 0,.int .i64 0],3):=fun x=>by rw [q0e n32];exact o3
    (try simp only [rwp,hwR,zA,zB,zC,zD,zE,zF,zG,zH,zI,q08 o5,o2,hac,o3',ones,hone,Bool.and_true,if_neg n32,o3])
    refine rtW_fr S (.tup [scA l,.agg [.int .i64 0,.int .i64 0,.int .i64 0]]) ((hI2.sub.supd hb2).supd k3) ?_ ⟨rfl,rfl⟩
    (try simp only [rwp,hwR,zA,zB,zC,zD,zE,zF,zG,zH,zI,if_neg n23,if_neg n32])
    have a2:=hI2.asd b2 (by simp)
    have a3:=hI2.asd b3 (by simp)
    exact .tu (.cons (.ag (.cons (Fr.lst ((hI2.lst.upd a2 _).upd a3 _)) .nil)) (.cons (.same _) .nil))
  cases a1:decide (r.de=0) with
  | false=>
   (try simp only [rwp,hwR,zA,zB,zC,zD,zE,zF,zG,zH,zI,C44_2])
   refine fin S1 ?_
   have:endR T r=r:=by rw [endR,if_neg (fun h=>by rw [decide_eq_true h.1] at a1;cases a1)]
   rw [this]
   exact hI
  | true=>
   have hde:=of_decide_eq_true a1
   (try simp only [rwp,hwR,zA,zB,zC,zD,zE,zF,zG,zH,zI])
   refine (q4m hT hp.inr).ca hrd ?_
   rw [q0p hrd]
   (try simp only [rwp,hwR,zA,zB,zC,zD,zE,zF,zG,zH,zI,tkC])
   cases a2:decide ((nxP T r).s=⟨#[]⟩) with
   | true=>
    (try simp only [rwp,hwR,zA,zB,zC,zD,zE,zF,zG,zH,zI,C44_2])
    refine fin S1 ?_
    have:endR T r=r:=by rw [endR,if_neg (fun h=>h.2 (of_decide_eq_true a2))]
    rw [this]
    exact hI
   | false=>
    (try simp only [rwp,hwR,zA,zB,zC,zD,zE,zF,zG,zH,zI,C44_2])
    refine (q4m hT hp.inr).ca hrd ?_
    rw [q0p hrd]
    (try simp only [rwp,hwR,zA,zB,zC,zD,zE,zF,zG,zH,zI,tkC])
    refine (c_fail (nxP T r) 8).ca hrd ?_
    have:endR T r=q45 (nxP T r) 8 r:=by rw [endR,if_pos ⟨hde,of_decide_eq_false a2⟩]
    rw [← this]
    exact fin _ (hI.mv hd kR _)
theorem parseF_ok {s:ByteArray}:OkS (q3y s).1∧(s.size≤900→OkN (q3y s).1):=by
 unfold q3y
 split
 ·exact ⟨⟨Nat.zero_le _,fun t ht=>(by cases ht)⟩,fun _ t ht=>(by cases ht)⟩
 ·rename_i h
  have hT:=tokT_ok (s:=s) (by omega)
  have hl:=q5t (f:=s.size+1) (l:=bl s) (a:=1) (b:=1)
  rw [q4o] at hl
  obtain ⟨h1,h2⟩:=parseT_ok hT (tokT_pos s)
  refine ⟨h1,fun h t ht r hr=>?_⟩
  have:=h2 t ht r hr
  unfold tokT at this
  omega
set_option maxRecDepth 4000
def cutL (c:Int):List UInt8→Option (List UInt8×List UInt8)
 | []=>none
 | b :: r=>if (b.toNat:Int)=c then some ([],r) else (cutL c r).map fun p=>(b :: p.1,p.2)
theorem cutL_cons {c:Int} {b:UInt8} {r:List UInt8}:cutL c (b :: r)=if (b.toNat:Int)=c then some ([],r) else (cutL c r).map fun p=>(b :: p.1,p.2):=rfl
def cutF (s:ByteArray) (c:Int):ByteArray×ByteArray×Bool:=match cutL c (bl s) with
 | none=>(s,⟨#[]⟩,false)
 | some (a,b)=>(mkB a,mkB b,true)
theorem cutL_len {c:Int}:∀ {l a b:List UInt8},cutL c l=some (a,b)→a.length≤l.length∧b.length≤l.length
 | [],_,_,h=>by cases h
 | x :: r,a,b,h=>by
  unfold cutL at h
  split at h
  ·cases h;exact ⟨Nat.zero_le _,by simp⟩
  ·cases hq:cutL c r with
   | none=>rw [hq] at h;cases h
   | some p=>
    rw [hq] at h
    cases h
    obtain ⟨h1,h2⟩:=cutL_len (a:=p.1) (b:=p.2) hq
    simp only [List.length_cons]
    omega
theorem mkB_len (l:List UInt8):(mkB l).size=l.length:=by simp [mkB,ByteArray.size]
theorem q3g {s:ByteArray} {c:Int}:(cutF s c).1.size≤s.size∧(cutF s c).2.1.size≤s.size:=by
 unfold cutF
 cases h:cutL c (bl s) with
 | none=>exact ⟨Nat.le_refl _,Nat.zero_le _⟩
 | some p=>
  have:=cutL_len (a:=p.1) (b:=p.2) h
  rw [q4o] at this
  exact ⟨by rw [mkB_len];exact this.1,by rw [mkB_len];exact this.2⟩
theorem c_cut {s:ByteArray} (hs:s.size≤1125899906842624) (c:Int):AFun PG nrx133 [.str s,.int .u8 c] (.tup [.str (cutF s c).1,.str (cutF s c).2.1,.bool (cutF s c).2.2]):=by
 intro S
 refine wx133 ?_
 unfold Bx133
 have hln:=q4o s
 refine LoopP.introS (fun i:Nat=>[(0,.str s),(1,.int .u8 c),(7,.int .i64 i)]) (fun i S'=>S'=S∧i≤s.size∧cutL c (bl s)=(cutL c ((bl s).drop i)).map fun p=>((bl s).take i++p.1,p.2)) (fun i=>s.size-i) 0 ⟨rfl,by omega,by cases h:cutL c (bl s)<;>simp [h]⟩ rfl ?_
 rintro i S' ⟨rfl,hi,hc⟩ r hr
 (try simp only [rwp,zA,zB,zC,zD,zE,zF,zG,zH,zI,rwb,reduceIte,C133_1])
 (refine q05 (fun hlt=>?_) (fun hlt=>?_)<;>(try simp only [hlc] at hlt))
 ·obtain ⟨b,hb⟩:=q3x hlt
  have hb':=hb
  rw [bl_get] at hb'
  rw [q11 hb'] at hc
  rw [cutL_cons] at hc
  (try simp only [rwp,zA,zB,zC,zD,zE,zF,zG,zH,zI,rwb,reduceIte,hb])
  (refine q05 (fun hq=>?_) (fun hq=>?_)<;>(try simp only [hlc] at hq))
  ·rw [if_pos hq] at hc
   (simp (disch:=omega) only [q04])
   (try simp only [rwp,zA,zB,zC,zD,zE,zF,zG,zH,zI,rwb,reduceIte,loI,hiI,cutI])
   refine ⟨by omega,by omega,by omega,by omega,by omega,rtW_three ⟨?_,rfl⟩⟩
   unfold cutF
   rw [hc,q4z,q4z]
   simp only [Option.map_some,List.append_nil,List.drop_zero]
   rw [show ((i:Int)+1).toNat=i+1 by omega,List.take_of_length_le (by omega:(bl s).length≤s.size)]
  ·rw [if_neg hq] at hc
   (simp (disch:=omega) only [q04])
   refine q0a rfl (hr (i+1) _ ⟨rfl,by omega,?_⟩ (by omega))
   rw [hc,q18 hb']
   cases cutL c ((bl s).drop (i+1))<;>simp
 ·have e:(bl s).drop i=[]:=List.drop_eq_nil_of_le (by omega)
  rw [e] at hc
  refine rtW_three ⟨?_,rfl⟩
  unfold cutF
  rw [hc]
  rfl
abbrev nob:ByteArray:=⟨#[]⟩
def objF (s:ByteArray):Ob×Bool:=if (cutF s 58).2.2&&(q0v (cutF s 58).1&&idB (cutF s 58).2.1) then (⟨(cutF s 58).1,(cutF s 58).2.1⟩,true) else (⟨nob,nob⟩,false)
def subF (s:ByteArray):Nd×Bool:=if (objF (cutF s 35).1).2&&(!(cutF s 35).2.2||q0v (cutF s 35).2.1) then (⟨(objF (cutF s 35).1).1,(cutF s 35).2.1⟩,true) else (⟨⟨nob,nob⟩,nob⟩,false)
def tupF (s:ByteArray):Tu×Bool:=
 let x:=cutF s 64
 let y:=cutF x.1 35
 let o:=objF y.1
 let w:=subF x.2.1
 if x.2.2&&(y.2.2&&(o.2&&(w.2&&q0v y.2.1))) then (⟨o.1,y.2.1,w.1⟩,true) else (⟨⟨nob,nob⟩,nob,⟨⟨nob,nob⟩,nob⟩⟩,false)
theorem objF_ok {s:ByteArray} (hs:s.size≤1125899906842624):OkO (objF s).1:=by
 have h:=@q3g s 58
 unfold objF
 split
 ·exact ⟨by dsimp only;omega,by dsimp only;omega⟩
 ·exact ⟨Nat.zero_le _,Nat.zero_le _⟩
theorem subF_ok {s:ByteArray} (hs:s.size≤1125899906842624):OkD (subF s).1:=by
 have h:=@q3g s 35
 unfold subF
 split
 ·exact ⟨objF_ok (by omega),by dsimp only;omega⟩
 ·exact ⟨⟨Nat.zero_le _,Nat.zero_le _⟩,Nat.zero_le _⟩
theorem tupF_ok {s:ByteArray} (hs:s.size≤1125899906842624):OkU (tupF s).1:=by
 have h:=@q3g s 64
 have h2:=@q3g (cutF s 64).1 35
 unfold tupF
 dsimp only
 split
 ·exact ⟨objF_ok (by omega),by dsimp only;omega,subF_ok (by omega)⟩
 ·exact ⟨⟨Nat.zero_le _,Nat.zero_le _⟩,Nat.zero_le _,⟨⟨Nat.zero_le _,Nat.zero_le _⟩,Nat.zero_le _⟩⟩
theorem c_Object {s:ByteArray} (hs:s.size≤1125899906842624):AFun PG nrx134 [.str s] (.tup [.agg (obC (objF s).1),.bool (objF s).2]):=by
 intro S
 refine wx134 ?_
 unfold Bx134
 intro b hb
 have hl:=@q3g s 58
 refine q06 (c_cut hs 58) ?_
 (try simp only [rwp,zA,zB,zC,zD,zE,zF,zG,zH,zI,rwb,reduceIte])
 refine q06 (q3h (by omega)) ?_
 refine q06 (c_ref10_ID (by omega)) ?_
 unfold objF
 cases h1:(cutF s 58).2.2<;>cases h2:q0v (cutF s 58).1<;>cases h3:idB (cutF s 58).2.1<;>(try simp only [rwp,zA,zB,zC,zD,zE,zF,zG,zH,zI,rwb,reduceIte,C134_1,C134_2])<;>refine q1d S (Sub.supd hb (Sub.refl _)) ?_<;>(try simp only [rwp,zA,zB,zC,zD,zE,zF,zG,zH,zI,rwb,reduceIte,obC])<;>simp
theorem c_Subject {s:ByteArray} (hs:s.size≤1125899906842624):AFun PG nrx135 [.str s] (.tup [.agg (ndC (subF s).1),.bool (subF s).2]):=by
 intro S
 refine wx135 ?_
 unfold Bx135
 intro b hb
 have hl:=@q3g s 35
 refine q06 (c_cut hs 35) ?_
 (try simp only [rwp,zA,zB,zC,zD,zE,zF,zG,zH,zI,rwb,reduceIte])
 have q:=c_Object (s:=(cutF s 35).1) (by omega)
 simp only [obC] at q
 refine q06 q ?_
 (try simp only [rwp,zA,zB,zC,zD,zE,zF,zG,zH,zI,rwb,reduceIte])
 refine q06 (q3h (by omega)) ?_
 unfold subF
 cases h1:(objF (cutF s 35).1).2<;>cases h2:(cutF s 35).2.2<;>cases h3:q0v (cutF s 35).2.1<;>(try simp only [rwp,zA,zB,zC,zD,zE,zF,zG,zH,zI,rwb,reduceIte,C135_1,C135_2,C135_3])<;>refine q1d S (Sub.supd hb (Sub.refl _)) ?_<;>(try simp only [rwp,zA,zB,zC,zD,zE,zF,zG,zH,zI,rwb,reduceIte,ndC])<;>simp
theorem c_Tuple {s:ByteArray} (hs:s.size≤1125899906842624):AFun PG nrx89 [.str s] (.tup [.agg (tuC (tupF s).1),.bool (tupF s).2]):=by
 intro S
 refine wx89 ?_
 unfold Bx89
 intro b hb
 have hl:=@q3g s 64
 have hl2:=@q3g (cutF s 64).1 35
 refine q06 (c_cut hs 64) ?_
 (try simp only [rwp,zA,zB,zC,zD,zE,zF,zG,zH,zI,rwb,reduceIte])
 refine q06 (c_cut (by omega) 35) ?_
 (try simp only [rwp,zA,zB,zC,zD,zE,zF,zG,zH,zI,rwb,reduceIte])
 have q:=c_Object (s:=(cutF (cutF s 64).1 35).1) (by omega)
 simp only [obC] at q
 refine q06 q ?_
 (try simp only [rwp,zA,zB,zC,zD,zE,zF,zG,zH,zI,rwb,reduceIte])
 have q2:=c_Subject (s:=(cutF s 64).2.1) (by omega)
 simp only [ndC] at q2
 refine q06 q2 ?_
 (try simp only [rwp,zA,zB,zC,zD,zE,zF,zG,zH,zI,rwb,reduceIte])
 refine q06 (q3h (by omega)) ?_
 unfold tupF
 dsimp only
 cases h1:(cutF s 64).2.2<;>cases h2:(cutF (cutF s 64).1 35).2.2<;>cases h3:(objF (cutF (cutF s 64).1 35).1).2<;>cases h4:(subF (cutF s 64).2.1).2<;>cases h5:q0v (cutF (cutF s 64).1 35).2.1<;>(try simp only [rwp,zA,zB,zC,zD,zE,zF,zG,zH,zI,rwb,reduceIte,C89_1,C89_2,C89_3,C89_4])<;>refine q1d S (Sub.supd hb (Sub.refl _)) ?_<;>(try simp only [rwp,zA,zB,zC,zD,zE,zF,zG,zH,zI,rwb,reduceIte,tuC])<;>simp
theorem c_Tuples {l:List ByteArray} (hl:l.length≤1000000) (hs:∀ s∈l,s.size≤1125899906842624):AFun PG nrx45 [.sl 1 (l.map fun s=>[.str s])] (.sl 6 ((l.map fun s=>(tupF s).1).map tuC)):=by
 intro S
 refine wx45 ?_
 unfold Bx45
 refine LoopP.intro (fun x:Nat×AV×q00=>[(0,.sl 1 (l.map fun s=>[.str s])),(3,x.2.1),(4,.int .i64 x.1)]) (fun x=>x.2.2) (fun x=>x.1≤l.length∧Sub S x.2.2∧LstN S x.2.2 tyTu 6 x.2.1 (((l.take x.1).map fun s=>(tupF s).1).map tuC)) (fun x=>l.length-x.1) (0,.nils,S) ⟨by omega,Sub.refl _,LstN.nil⟩ rfl (Sub.refl S) ?_
 rintro ⟨i,v,S'⟩ ⟨hi,hsu,hL⟩ r hr
 dsimp only at hi hsu hL ⊢
 (try simp only [rwp,zA,zB,zC,zD,zE,zF,zG,zH,zI,rwb,reduceIte,C45_1,List.length_map])
 (refine q05 (fun hlt=>?_) (fun hlt=>?_)<;>(try simp only [hlc] at hlt))
 ·obtain ⟨s,hg⟩:=q0z hlt
  (try simp only [rwp,zA,zB,zC,zD,zE,zF,zG,zH,zI,rwb,reduceIte,List.getElem?_map,hg])
  have q:=c_Tuple (hs s (List.mem_of_getElem? hg))
  simp only [tuC] at q
  refine q06 q ?_
  (try simp only [rwp,zA,zB,zC,zD,zE,zF,zG,zH,zI,rwb,reduceIte])
  have e:((l.take i).map fun s=>(tupF s).1).length≤1000000:=by rw [List.length_map,List.length_take];omega
  refine hL.tu (t:=(tupF s).1) hsu e fun v' S2 h1 h2=>?_
  (simp (disch:=omega) only [q04])
  refine q0a rfl (hr (i+1,v',S2) ⟨by dsimp only;omega,h1,?_⟩ (by dsimp only;omega))
  dsimp only
  rw [q18 hg,List.map_append]
  exact h2
 ·have e:l.take i=l:=List.take_of_length_le (by omega)
  rw [e] at hL
  exact q6z hsu hL ⟨rfl,rfl⟩
set_option maxRecDepth 20000
def bUser:ByteArray:=⟨#[117,115,101,114]⟩
def b1':ByteArray:=⟨#[49]⟩
def bA:ByteArray:=⟨#[97]⟩
def oA:Ob:=⟨bUser,bA⟩
set_option maxRecDepth 20000
def tx14:ByteArray:=⟨#[116,121,112,101,32,117,115,101,114,32,116,121,112,101,32,100,111,99,32,114,101,108,97,116,105,111,110,32,111,119,110,101,114,58,32,117,115,101,114,32,114,101,108,97,116,105,111,110,32,110,111,58,32,117,115,101,114,32,100,101,102,105,110,101,32,99,97,110,58,32,111,119,110,101,114,32,45,32,110,111]⟩
def bDoc:ByteArray:=⟨#[100,111,99]⟩
def q4p:ByteArray:=⟨#[111,119,110,101,114]⟩
def bNo:ByteArray:=⟨#[110,111]⟩
def bCan:ByteArray:=⟨#[99,97,110]⟩
def bB:ByteArray:=⟨#[98]⟩
def bNothing:ByteArray:=⟨#[110,111,116,104,105,110,103]⟩
def sc14:List Ty:=(q3y tx14).1
def tu1:ByteArray:=⟨#[100,111,99,58,49,35,111,119,110,101,114,64,117,115,101,114,58,97]⟩
def tu2:ByteArray:=⟨#[100,111,99,58,49,35,111,119,110,101,114,64,117,115,101,114,58,98]⟩
def tu3:ByteArray:=⟨#[100,111,99,58,49,35,110,111,64,117,115,101,114,58,98]⟩
def oDoc:Ob:=⟨bDoc,b1'⟩
def oB:Ob:=⟨bUser,bB⟩
def nCan:Nd:=⟨oDoc,bCan⟩
def l14:List Tu:=[⟨oDoc,q4p,⟨oA,⟨#[]⟩⟩⟩,⟨oDoc,q4p,⟨oB,⟨#[]⟩⟩⟩,⟨oDoc,bNo,⟨oB,⟨#[]⟩⟩⟩]
theorem ps14:(q3y tx14).2=.agg [.int .i64 0,.int .i64 0,.int .i64 0]:=by kernel_rfl
theorem t14:([tu1,tu2,tu3].map fun s=>(tupF s).1)=l14:=by kernel_rfl
theorem ok14:OkS sc14∧OkN sc14:=by
 have h:=parseF_ok (s:=tx14)
 exact ⟨h.1,h.2 (by decide)⟩
theorem okl14:OkL l14:=by
 rw [← t14]
 refine ⟨by decide,fun t ht=>?_⟩
 obtain ⟨s,hs,rfl⟩:=List.mem_map.1 ht
 refine tupF_ok ?_
 simp only [List.mem_cons,List.not_mem_nil,or_false] at hs
 rcases hs with rfl | rfl | rfl<;>decide
theorem e14:errA (chkF sc14)=0:=by kernel_rfl
theorem c14:q0s sc14 l14=l14:=by kernel_rfl
theorem fn14:q0q sc14 bDoc bNothing=none:=by kernel_rfl
theorem inB_body {s:List Ty} {l:List Tu} {who:Ob} (hc:errA (chkF s)=0) {n:Nd} {i k:Nat} {r:Rl} (hf:q0q s n.o.ty n.rl=some (i,k,r)):inB (envE s l who) n=q1w (envE s l who) (inB (envE s l who)) n r:=by
 have hE:=q7z s l who
 obtain ⟨K,hK⟩:=mod_ex hE hc (T:=(q0s s l).map fun t=>t.o) fun n x hx=>by
  obtain ⟨t,ht,rfl⟩:=List.mem_map.1 hx
  unfold ofF at ht
  simp only [List.mem_filter,Bool.and_eq_true,decide_eq_true_eq] at ht
  exact List.mem_map.2 ⟨t,ht.1,ht.2.1⟩
 have e:(fun c=>decide (c∈K))=inB (envE s l who):=by
  funext c
  exact inB_eq hE hc hK c
 have:=in_body hE hc hK (n:=n) hf
 rw [e] at this
 rw [← inB_eq hE hc hK,this]
theorem inB_none {s:List Ty} {l:List Tu} {who:Ob} (hc:errA (chkF s)=0) {n:Nd} (h:q0q s n.o.ty n.rl=none):inB (envE s l who) n=false:=by
 unfold inB
 refine (@decide_eq_false_iff_not _ (Classical.propDecidable _)).2 ?_
 rintro ⟨K,hK,hn⟩
 exact hK.none h hn
def rfU:Rf:=⟨bUser,⟨#[]⟩⟩
def zr:ByteArray:=⟨#[]⟩
theorem fo14:q0q sc14 bDoc q4p=some (1,0,⟨q4p,[rfU],q85⟩):=by kernel_rfl
theorem fi14:q0q sc14 bDoc bNo=some (1,1,⟨bNo,[rfU],q85⟩):=by kernel_rfl
theorem fc14:q0q sc14 bDoc bCan=some (1,2,⟨bCan,[],.mk 4 zr zr [.mk 0 q4p zr [],.mk 0 bNo zr []]⟩):=by kernel_rfl
theorem own14 (who:Ob):inB (envE sc14 l14 who) ⟨oDoc,q4p⟩=(decide (oA=who)||(decide (oB=who)||false)):=(inB_body e14 fo14).trans (by kernel_rfl)
theorem no14 (who:Ob):inB (envE sc14 l14 who) ⟨oDoc,bNo⟩=(decide (oB=who)||false):=(inB_body e14 fi14).trans (by kernel_rfl)
theorem can14 (who:Ob):inB (envE sc14 l14 who) nCan=(inB (envE sc14 l14 who) ⟨oDoc,q4p⟩&&!inB (envE sc14 l14 who) ⟨oDoc,bNo⟩):=(inB_body e14 fc14).trans (by kernel_rfl)
theorem ia14:inB (envE sc14 l14 oA) nCan=true:=by rw [can14,own14,no14];kernel_rfl
theorem ib14:inB (envE sc14 l14 oB) nCan=false:=by rw [can14,own14,no14];kernel_rfl
theorem o14:outF sc14 l14 (q0s sc14 l14) nCan=[oA]:=by
 rw [c14]
 unfold outF
 rw [show l14=[⟨oDoc,q4p,⟨oA,⟨#[]⟩⟩⟩,⟨oDoc,q4p,⟨oB,⟨#[]⟩⟩⟩,⟨oDoc,bNo,⟨oB,⟨#[]⟩⟩⟩] from rfl]
 have ia:=ia14
 have ib:=ib14
 rw [show l14=[⟨oDoc,q4p,⟨oA,⟨#[]⟩⟩⟩,⟨oDoc,q4p,⟨oB,⟨#[]⟩⟩⟩,⟨oDoc,bNo,⟨oB,⟨#[]⟩⟩⟩] from rfl] at ia ib
 simp [ia,ib]
theorem m14:memF sc14 l14 nCan=[oA]:=by
 unfold memF
 rw [if_pos e14,o14]
 rfl
theorem c_awake14:AFun PG nrx21 [] (.bool true):=by
 intro S
 refine wx21 ?_
 unfold Bx21
 have r1:=c_Parse tx14
 rw [ps14,show (q3y tx14).1=sc14 from rfl] at r1
 have r2:=c_Tuples (l:=[tu1,tu2,tu3]) (by decide) (fun s hs=>by
  simp only [List.mem_cons,List.not_mem_nil,or_false] at hs
  rcases hs with rfl | rfl | rfl<;>decide)
 rw [t14] at r2
 have q1:=q7i sort12 ok14.1 ok14.2 okl14 (by decide) nCan (fun _=>by rw [o14];decide)
 rw [m14] at q1
 have q2:=c_gHolds ok14.1 ok14.2 okl14 (by decide) nCan oA
 rw [ia14,decide_eq_true e14] at q2
 have q3:=c_gHolds ok14.1 ok14.2 okl14 (by decide) ⟨oDoc,bNothing⟩ oA
 rw [inB_none e14 fn14] at q3
 simp only [scA] at r1 q1 q2 q3
 refine q06 r1 ?_
 (try simp only [rwp,zA,zB,zC,zD,zE,zF,zG,zH,zI,rwb,reduceIte])
 intro b3 hb3 b4 hb4
 obtain ⟨d43,hb4'⟩:=frsh hb4
 (try simp only [rwp,zA,zB,zC,zD,zE,zF,zG,zH,zI,rwb,reduceIte,d43,Ne.symm d43])
 refine q06 r2 ?_
 (try simp only [rwp,zA,zB,zC,zD,zE,zF,zG,zH,zI,rwb,reduceIte])
 refine q06 q1 ?_
 generalize hS4:sdel _ b3=S4
 have s4:Sub S S4:=by
  rw [← hS4]
  intro a o ha
  have e3:=q0i hb3 ha
  have e4:=q0i hb4' ha
  simp only [q0b,q01,if_neg e3,if_neg e4]
  exact ha
 rw [show AV.sl 2 (List.map obC [oA])=.sl 2 [[.str ⟨#[117,115,101,114]⟩,.str ⟨#[97]⟩]] from rfl]
 (try simp only [rwp,zA,zB,zC,zD,zE,zF,zG,zH,zI,rwb,reduceIte,List.length_cons,List.length_nil,List.getElem?_cons_zero,q19,q24,eqs,q0o,ekOk,q12,decide_eq_true_eq])
 rw [decide_eq_true (show ((1:Nat):Int)=1 from rfl)]
 (try simp only [rwp,zA,zB,zC,zD,zE,zF,zG,zH,zI,rwb,reduceIte,C21_1,List.getElem?_cons_zero])
 refine q06 q2 ?_
 rw [show (true&&true)=true from rfl]
 (try simp only [rwp,zA,zB,zC,zD,zE,zF,zG,zH,zI,rwb,reduceIte,C21_2,List.getElem?_cons_zero])
 refine q06 q3 ?_
 rw [Bool.and_false]
 (try simp only [rwp,zA,zB,zC,zD,zE,zF,zG,zH,zI,rwb,reduceIte])
 exact rtW_sub s4 ⟨rfl,rfl⟩
set_option maxRecDepth 4000
theorem small_ok4 {s:List Ty} {l:List Tu} (h:smallF s l=true) (hl:∀ t∈l,OkU t):OkN s∧OkL l∧l.length≤30:=by
 unfold smallF at h
 rw [Bool.and_eq_true,decide_eq_true_eq] at h
 exact ⟨few_N h.1 (by decide),⟨by omega,hl⟩,by omega⟩
set_option maxRecDepth 4000
theorem c_ObjectsSame {M:List Ob} (hM:M.length≤100000):AFun PG nrx24 [.sl 2 (M.map obC),.sl 2 (M.map obC)] (.bool true):=by
 intro S
 refine wx24 ?_
 unfold Bx24
 (try simp only [rwp,zA,zB,zC,zD,zE,zF,zG,zH,zI,rwb,reduceIte,List.length_map])
 refine LoopP.introS (fun i:Nat=>[(0,.sl 2 (M.map obC)),(1,.sl 2 (M.map obC)),(5,.int .i64 i)]) (fun i S'=>S'=S∧i≤M.length) (fun i=>M.length-i) 0 ⟨rfl,by omega⟩ rfl ?_
 rintro i S' ⟨rfl,hi⟩ kk hkk
 (try simp only [rwp,zA,zB,zC,zD,zE,zF,zG,zH,zI,rwb,reduceIte,C24_1,List.length_map])
 cases a1:decide ((i:Int)<M.length)
 ·(try simp only [rwp,zA,zB,zC,zD,zE,zF,zG,zH,zI,rwb,reduceIte])
  exact q03 ⟨rfl,rfl⟩
 ·have hlt:=of_decide_eq_true a1
  obtain ⟨x,hx⟩:=q0z hlt
  (try simp only [rwp,zA,zB,zC,zD,zE,zF,zG,zH,zI,rwb,reduceIte,List.getElem?_map,hx,obC,decide_true])
  (try (simp (disch:=omega) only [q04]))
  rw [show (i:Int)+1=((i+1:Nat):Int) by omega]
  exact q0a rfl (hkk (i+1) _ ⟨rfl,by omega⟩ (by omega))
theorem memF_len {s:List Ty} {l:List Tu} {n:Nd}:(memF s l n).length≤l.length:=by
 unfold memF
 split
 ·obtain ⟨-,-,h⟩:=srtO_ok stO (outF s l (q0s s l) n) _ rfl
  exact Nat.le_trans h (Nat.le_trans q62 (List.length_filter_le _ _))
 ·exact Nat.zero_le _
set_option maxRecDepth 4000
theorem mod_env {s:List Ty} (hc:errA (chkF s)=0) (l:List Tu) (who:Ob):∃ K,Mod (envE s l who) K:=
 mod_ex (q7z s l who) hc (T:=(q0s s l).map fun t=>t.o) fun n x hx=>by
  obtain ⟨t,ht,rfl⟩:=List.mem_map.1 hx
  unfold ofF at ht
  simp only [List.mem_filter,Bool.and_eq_true,decide_eq_true_eq] at ht
  exact List.mem_map.2 ⟨t,ht.1,ht.2.1⟩
theorem inB_same {s:List Ty} (hc:errA (chkF s)=0) {l l':List Tu} (h:∀ t,t∈q0s s l↔t∈q0s s l') (who:Ob) (n:Nd):inB (envE s l who) n=inB (envE s l' who) n:=by
 obtain ⟨K,hK⟩:=mod_env hc l who
 have h2:Mod (envE s l' who) K:=hK.of rfl rfl fun n x=>by
  show x∈(ofF (q0s s l) n).map Tu.s↔x∈(ofF (q0s s l') n).map Tu.s
  unfold ofF
  simp only [List.mem_map,List.mem_filter,h]
 rw [← inB_eq (q7z s l who) hc hK,← inB_eq (q7z s l' who) hc h2]
theorem memF_same {s:List Ty} {l l':List Tu} (h:∀ t,t∈l↔t∈l') (n:Nd):memF s l n=memF s l' n:=by
 unfold memF
 by_cases hk:errA (chkF s)=0
 ·rw [if_pos hk,if_pos hk]
  have hcm:∀ t,t∈q0s s l↔t∈q0s s l':=fun t=>by
   unfold q0s
   simp only [List.mem_filter,h]
  obtain ⟨k1,k2,-⟩:=srtO_ok stO (outF s l (q0s s l) n) _ rfl
  obtain ⟨k3,k4,-⟩:=srtO_ok stO (outF s l' (q0s s l') n) _ rfl
  refine Asc.uniq stO k1 k3 fun x=>?_
  rw [k2,k4]
  unfold outF
  simp only [List.mem_map,List.mem_filter,hcm,inB_same hk hcm]
 ·rw [if_neg hk,if_neg hk]
theorem len_tu {L:List Tu}:∀ r∈L.map tuC,r.length=6:=fun r hr=>by
 obtain ⟨o,-,rfl⟩:=List.mem_map.1 hr
 rfl
theorem ones_tu {L:List Tu}:ones (L.map tuC).flatten=true:=q3r fun r hr=>by
 obtain ⟨o,-,rfl⟩:=List.mem_map.1 hr
 rfl
theorem c_GraphOrder {s:List Ty} (hs:OkS s) {l:List Tu} (hl:∀ t∈l,OkU t) (o:Ob) (rl:ByteArray) (k:Int) :
  AFun PG nrx7 [scA s,.sl 6 (l.map tuC),.agg (obC o),.str rl,.int .i64 k] (.bool true):=by
 intro S
 refine wx7 ?_
 unfold Bx7
 (try simp only [rwp,zA,zB,zC,zD,zE,zF,zG,zH,zI,rwb,reduceIte,scA,obC])
 refine q06 c_awake14 ?_
 (try simp only [rwp,zA,zB,zC,zD,zE,zF,zG,zH,zI,rwb,reduceIte])
 have q:=c_law14_Small hs l
 simp only [scA] at q
 refine q06 q ?_
 cases hsm:smallF s l
 ·(try simp only [rwp,zA,zB,zC,zD,zE,zF,zG,zH,zI,rwb,reduceIte,C7_1,C7_2,C7_3])
  exact q03 ⟨rfl,rfl⟩
 ·obtain ⟨hN,hL,hn⟩:=small_ok4 hsm hl
  (try simp only [rwp,zA,zB,zC,zD,zE,zF,zG,zH,zI,rwb,reduceIte,C7_1])
  cases a1:decide (k<0)
  ·have hk0:0≤k:=by have:=of_decide_eq_false a1;omega
   obtain ⟨i,rfl⟩:=Int.eq_ofNat_of_zero_le hk0
   (try simp only [rwp,zA,zB,zC,zD,zE,zF,zG,zH,zI,rwb,reduceIte,C7_2,List.length_map])
   cases a2:decide ((l.length:Int)≤i)
   ·have hil:i<l.length:=by have:=of_decide_eq_false a2;omega
    (try simp only [rwp,zA,zB,zC,zD,zE,zF,zG,zH,zI,rwb,reduceIte,C7_3,List.length_map])
    refine ⟨by omega,by omega,?_⟩
    generalize hd:l.drop i=d
    have ed:((l.map tuC).take ((l.length:Int)).toNat).drop ((i:Int)).toNat=d.map tuC:=by
     rw [Int.toNat_natCast,Int.toNat_natCast,List.take_of_length_le (by rw [List.length_map];exact Nat.le_refl _),← List.map_drop,hd]
    have hdl:d.length≤30:=by rw [← hd,List.length_drop];omega
    have hdm:∀ t∈d,t∈l:=fun t ht=>by rw [← hd] at ht;exact List.mem_of_mem_drop ht
    simp only [Int.toNat_natCast] at ed ⊢
    rw [ed]
    refine LstW.appL (Sub.refl S) (LstW.nil (S0:=S)) (xs:=d.map tuC) appX_sl len_tu ones_tu (by simp only [List.length_map,List.length_nil];omega) fun v1 S1 s1 o1 _=>?_
    rw [List.nil_append] at o1
    refine LstW.appL s1 o1 (xs:=l.map tuC) appX_sl len_tu ones_tu (by simp only [List.length_map];omega) fun v2 S2 s2 o2 _=>?_
    rw [← List.map_append] at o2
    have hL2:OkL (d++l):=⟨by rw [List.length_append];omega,fun t ht=>(List.mem_append.1 ht).elim (fun h=>hl t (hdm t h)) (hl t)⟩
    have em:memF s (d++l) ⟨o,rl⟩=memF s l ⟨o,rl⟩:=memF_same (fun t=>by
     rw [List.mem_append]
     exact ⟨fun h=>h.elim (hdm t) id,.inr⟩) _
    have hlm:=@memF_len s l ⟨o,rl⟩
    have q1:=q7i sort255 hs hN hL (by omega:l.length≤500) ⟨o,rl⟩ (fun _=>Nat.le_trans q62 (Nat.le_trans (List.length_filter_le _ _) (by omega)))
    have q2:=q7i sort255 hs hN hL2 (by rw [List.length_append];omega) ⟨o,rl⟩ (fun _=>Nat.le_trans q62 (Nat.le_trans (List.length_filter_le _ _) (by rw [List.length_append];omega)))
    rw [em] at q2
    simp only [scA,obC] at q1 q2
    (try simp only [rwp,zA,zB,zC,zD,zE,zF,zG,zH,zI,rwb,reduceIte])
    refine q06 q1 ?_
    (try simp only [rwp,zA,zB,zC,zD,zE,zF,zG,zH,zI,rwb,reduceIte])
    refine q0g (ACalls.frz (FrS.sub s2) (.cons (.same _) (.cons (Fr.lst14 o2) (.cons (.same _) (.cons (.same _) .nil)))) (q2 S)) ?_
    rintro ae S3 ⟨rfl,rfl⟩
    dsimp only
    refine q06 (c_ObjectsSame (by omega)) ?_
    exact q03 ⟨rfl,rfl⟩
   ·(try simp only [rwp,zA,zB,zC,zD,zE,zF,zG,zH,zI,rwb,reduceIte,C7_3])
    exact q03 ⟨rfl,rfl⟩
  ·(try simp only [rwp,zA,zB,zC,zD,zE,zF,zG,zH,zI,rwb,reduceIte,C7_2,C7_3])
   exact q03 ⟨rfl,rfl⟩
def Old (w:World):Nat→Prop:=fun b=>b<w.heap.size
theorem cell_old {w:World} {a:Addr} {v:Value} (h:w.cell? a=some v):Old w a.block:=by
 unfold Old
 unfold World.cell? at h
 rcases Nat.lt_or_ge a.block w.heap.size with h1 | h1
 ·exact h1
 ·rw [Array.getElem?_eq_none h1] at h;simp at h
section
variable {H:Type} {enc:TypeId×Value→H} {P:Program} {w:World} {sp:Nat→Bool} {held:Bool} {n:Nat} {t e:TypeId} {cs:List Value} {x:DataW H×List MemPlace}
def Wt {H:Type} (P:Program) (t:TypeId) (d:DataW H):Prop:=∀ k∈d.weights P t,k≤reachBytes
theorem q2m (ht:P.underlying t=some .string) (hw:Wt P t x.1) (h:DataW.trod enc P w 0 sp held n t cs=some x):∃ s:ByteArray,s.size≤1125899906842624∧cs=[.string s]:=by
 cases n with
 | zero=>simp [DataW.trod] at h
 | succ n=>
  unfold DataW.trod at h
  rw [ht] at h
  split at h<;>simp_all
  obtain ⟨h1,rfl⟩:=h
  refine Nat.le_trans (Nat.le_of_eq ?_) (Nat.le_trans (hw _ (by simp only [DataW.weights];exact List.mem_singleton.2 rfl)) (by decide))
  rw [Array.length_toList]
  rfl
theorem open_int' {k:IntKind} (ht:P.underlying t=some (.int k)) (h:DataW.trod enc P w 0 sp held n t cs=some x):∃ z:Int,cs=[.int k z]:=by
 cases n with
 | zero=>simp [DataW.trod] at h
 | succ n=>
  unfold DataW.trod at h
  rw [ht] at h
  split at h<;>simp_all
theorem cells_get {w:World} {a:Addr} {m:Nat} {vs:List Value} (h:w.cells? 0 a m=some vs):vs.length=m∧∀ j,j<m→w.cell? (a.add j)=some (vs.getD j undef):=by
 unfold World.cells? at h
 rw [if_pos (Nat.zero_le _)] at h
 have h1:=mapM_some_length h
 refine ⟨by simpa using h1,fun j hj=>?_⟩
 have h2:=mapM_some_get h j j (by simp [hj])
 rw [h2,List.getD_eq_getElem?_getD]
 simp at h1
 rw [List.getElem?_eq_getElem (by omega)]
 rfl
theorem q63 {α:Type} {enc':α→List AV} {good:α→Prop} {sz:Nat} (ht:P.underlying t=some (.slice e)) (hc:P.cellsOf e=sz) (hsz:0<sz) (hlen:∀ a,(enc' a).length=sz)
  (hb:1≤P.bytesOf e) (hw:Wt P t x.1) (hE:∀ m,m<n→∀ cs x,Wt P e x.1→DataW.trod enc P w 0 sp held m e cs=some x→∃ a,good a∧RVs (Old w) w (enc' a) cs) (h:DataW.trod enc P w 0 sp held n t cs=some x) :
  ∃ (l:List α) (v:Value),(∀ a∈l,good a)∧l.length≤1125899906842624∧cs=[v]∧RV (Old w) w (.sl sz (l.map enc')) v:=by
 rcases DataW.trod_slice ht h with ⟨rfl,-⟩ | ⟨a,len,cap,elems,rest,m,rfl,rfl,rfl,-,hl,hm,hlen2,hel,-,-⟩
 ·exact ⟨[],_,fun a ha=>(by cases ha),Nat.zero_le _,rfl,.sl0 _ _ _⟩
 ·have hx:DataW.weights P t (.slice (elems.map (·.1)) (rest.map (·.1)))=((elems.map (·.1)).length+(rest.map (·.1)).length) * P.bytesOf e :: (DataW.weightsAll P e (elems.map (·.1))++DataW.weightsAll P e (rest.map (·.1))):=by
   simp only [DataW.weights]
   rw [ht]
  have hw:∀ k∈DataW.weights P t (.slice (elems.map (·.1)) (rest.map (·.1))),k≤reachBytes:=hw
  rw [hx] at hw
  have key:∀ i,i<len→∃ (y:α) (vs:List Value),good y∧RVs (Old w) w (enc' y) vs∧w.cells? 0 (a.add (i * sz)) sz=some vs:=fun i hi=>by
   have h1:=hel i hi
   rw [hc,List.getElem?_eq_getElem (by omega)] at h1
   obtain ⟨vs,h2,h3⟩:=Option.bind_eq_some_iff.1 h1
   have hwi:Wt P e (elems[i]'(by omega)).1:=fun k hk=>by
    refine hw k ?_
    refine List.mem_cons_of_mem _ (List.mem_append_left _ ?_)
    have:∀ l:List (DataW H×List MemPlace),∀ y∈l,∀ k∈y.1.weights P e,k∈DataW.weightsAll P e (l.map (·.1)):=by
     intro l
     induction l with
     | nil=>intro y hy;cases hy
     | cons z l ih=>
      intro y hy k hk
      simp only [List.map_cons,DataW.weightsAll,List.mem_append]
      rcases List.mem_cons.1 hy with rfl | hy
      ·exact .inl hk
      ·exact .inr (ih y hy k hk)
    exact this elems _ (List.getElem_mem _) k hk
   obtain ⟨y,k1,k2⟩:=hE m (Nat.lt_succ_self m) vs _ hwi h3
   exact ⟨y,vs,k1,k2,h2⟩
  by_cases h0:len=0
  ·subst h0
   exact ⟨[],_,fun a ha=>(by cases ha),Nat.zero_le _,rfl,.sl0 _ _ _⟩
  have ex:∃ l:List α,l.length=len∧∀ i y,l[i]?=some y→∃ vs:List Value,good y∧RVs (Old w) w (enc' y) vs∧w.cells? 0 (a.add (i * sz)) sz=some vs:=by
   have:∀ k,k≤len→∃ l:List α,l.length=k∧∀ (i:Nat) (y:α),l[i]?=some y→∃ vs:List Value,good y∧RVs (Old w) w (enc' y) vs∧w.cells? 0 (a.add (i * sz)) sz=some vs:=by
    intro k
    induction k with
    | zero=>exact fun _=>⟨[],rfl,fun i y h=>by simp at h⟩
    | succ k ih=>
     intro hk
     obtain ⟨l,k1,k2⟩:=ih (by omega)
     obtain ⟨y,vs,j1⟩:=key k (by omega)
     refine ⟨l++[y],by simp [k1],fun i z hz=>?_⟩
     by_cases hi:i<l.length
     ·rw [List.getElem?_append_left hi] at hz
      exact k2 i z hz
     ·rw [List.getElem?_append_right (by omega)] at hz
      obtain ⟨q,hq⟩:∃ q,i-l.length=q:=⟨_,rfl⟩
      rw [hq] at hz
      cases q with
      | succ q=>simp at hz
      | zero=>
       simp at hz
       subst hz
       have:i=k:=by omega
       subst this
       exact ⟨vs,j1⟩
   exact this len (Nat.le_refl _)
  obtain ⟨l,k1,k2⟩:=ex
  have k3:∀ i,i<len→∃ y vs,l[i]?=some y∧good y∧RVs (Old w) w (enc' y) vs∧w.cells? 0 (a.add (i * sz)) sz=some vs:=fun i hi=>by
   have hy:l[i]?=some l[i]:=List.getElem?_eq_getElem (by omega)
   obtain ⟨vs,h1⟩:=k2 i _ hy
   exact ⟨_,vs,hy,h1⟩
  have hadd:∀ i j,(a.add (i * sz)).add j=a.add (i * sz+j):=fun i j=>add_add _ _ _
  have hll:l.length≤1125899906842624:=by
   have h5:=hw _ List.mem_cons_self
   simp only [List.length_map] at h5
   have h6:elems.length≤(elems.length+rest.length) * P.bytesOf e:=Nat.le_trans (Nat.le_add_right _ _) (Nat.le_mul_of_pos_right _ hb)
   unfold reachBytes at h5
   omega
  refine ⟨l,_,fun y hy=>?_,hll,rfl,.sl sz (l.map enc') a len cap (fun i j=>((w.cells? 0 (a.add (i * sz)) sz).getD []).getD j undef) (by simp [k1]) hl ?_ (fun i r hr=>?_) (fun i j hi hj=>?_) (fun i j r u hr hu=>?_)⟩
  ·obtain ⟨i,hi⟩:=List.getElem?_of_mem hy
   obtain ⟨vs,h1,-⟩:=k2 i y hi
   exact h1
  ·obtain ⟨y,vs,-,-,-,h4⟩:=k3 0 (by omega)
   have h5:=(cells_get h4).2 0 hsz
   have:=cell_old h5
   rw [add_add] at this
   simpa [Addr.add] using this
  ·rw [List.getElem?_map] at hr
   cases hl2:l[i]? with
   | none=>rw [hl2] at hr;cases hr
   | some y=>rw [hl2] at hr;cases hr;exact hlen y
  ·obtain ⟨y,vs,-,-,-,h4⟩:=k3 i hi
   rw [h4,← hadd]
   exact (cells_get h4).2 j hj
  ·rw [List.getElem?_map] at hr
   cases hl2:l[i]? with
   | none=>rw [hl2] at hr;cases hr
   | some y=>
    rw [hl2] at hr
    cases hr
    obtain ⟨vs,-,h3,h4⟩:=k2 i y hl2
    rw [h4]
    exact h3.2 j u hu
theorem q3f {fs:Array Field} (ht:P.underlying t=some (.struct fs)) (hw:Wt P t x.1) (h:DataW.trod enc P w 0 sp held n t cs=some x):cs.length=P.cellsOf t∧∃ m,n=m+1 ∧
  ∀ (i:Nat) (f:Field),fs[i]?=some f→∃ y,Wt P f.type y.1∧DataW.trod enc P w 0 sp held m f.type ((cs.drop f.offset).take (P.cellsOf f.type))=some y:=by
 obtain ⟨xs,m,rfl,rfl,hl,hlen,hf⟩:=DataW.trod_struct ht h
 refine ⟨hl,m,rfl,fun i f hi=>?_⟩
 have hil:i<fs.size:=(Array.getElem?_eq_some_iff.1 hi).1
 have h1:=hf i f hi
 have hxi:xs[i]?=some (xs[i]'(by omega)):=List.getElem?_eq_getElem _
 rw [hxi] at h1
 refine ⟨_,fun k hk=>?_,h1⟩
 have hx:DataW.weights P t (.agg (xs.map (·.1)))=DataW.weightsEach P (fs.toList.map (·.type)) (xs.map (·.1)):=by
  simp only [DataW.weights]
  rw [ht]
 have hw:∀ k∈DataW.weights P t (.agg (xs.map (·.1))),k≤reachBytes:=hw
 rw [hx] at hw
 refine hw k ?_
 have key:∀ (ts:List TypeId) (ds:List (DataW H)) (j:Nat) (t:TypeId) (d:DataW H),ts[j]?=some t→ds[j]?=some d→∀ k∈d.weights P t,k∈DataW.weightsEach P ts ds:=by
  intro ts
  induction ts with
  | nil=>intro ds j t d h;simp at h
  | cons a ts ih=>
   intro ds j t d h1 h2 k hk
   cases ds with
   | nil=>simp at h2
   | cons b ds=>
    simp only [DataW.weightsEach,List.mem_append]
    cases j with
    | zero=>simp at h1 h2;subst h1;subst h2;exact .inl hk
    | succ j=>simp at h1 h2;exact .inr (ih ds j t d h1 h2 k hk)
 exact key _ _ i _ _ (by rw [List.getElem?_map,Array.getElem?_toList,hi];rfl) (by rw [List.getElem?_map,hxi];rfl) k hk
end
structure ScT (P:Program) (tS tTs tT tRs tR tFs tF tE tEs tI tN:TypeId):Prop where
 int:P.underlying tI=some (.int .i64)
 str:P.underlying tN=some .string
 ex:∃ f0 f1 f2 f3,P.underlying tE=some (.struct #[f0,f1,f2,f3])∧f0.type=tI∧f0.offset=0∧f1.type=tN∧f1.offset=1∧f2.type=tN∧f2.offset=2∧f3.type=tEs∧f3.offset=3
 exs:P.underlying tEs=some (.slice tE)
 rf:∃ f0 f1,P.underlying tF=some (.struct #[f0,f1])∧f0.type=tN∧f0.offset=0∧f1.type=tN∧f1.offset=1
 rfs:P.underlying tFs=some (.slice tF)
 rl:∃ f0 f1 f2,P.underlying tR=some (.struct #[f0,f1,f2])∧f0.type=tN∧f0.offset=0∧f1.type=tFs∧f1.offset=1∧f2.type=tE∧f2.offset=2
 rls:P.underlying tRs=some (.slice tR)
 ty:∃ f0 f1,P.underlying tT=some (.struct #[f0,f1])∧f0.type=tN∧f0.offset=0∧f1.type=tRs∧f1.offset=1
 tys:P.underlying tTs=some (.slice tT)
 sc:∃ f0,P.underlying tS=some (.struct #[f0])∧f0.type=tTs∧f0.offset=0
 cI:P.cellsOf tI=1
 cN:P.cellsOf tN=1
 cE:P.cellsOf tE=4
 cEs:P.cellsOf tEs=1
 cF:P.cellsOf tF=2
 cFs:P.cellsOf tFs=1
 cR:P.cellsOf tR=6
 cRs:P.cellsOf tRs=1
 cT:P.cellsOf tT=2
 cTs:P.cellsOf tTs=1
 cS:P.cellsOf tS=1
 bE:1≤P.bytesOf tE
 bF:1≤P.bytesOf tF
 bR:1≤P.bytesOf tR
 bT:1≤P.bytesOf tT
section
variable {H:Type} {enc:TypeId×Value→H} {P:Program} {w:World} {sp:Nat→Bool} {held:Bool} {tS tTs tT tRs tR tFs tF tE tEs tI tN:TypeId} (K:ScT P tS tTs tT tRs tR tFs tF tE tEs tI tN)
include K
theorem open_ex:∀ (n:Nat) (cs:List Value) (x:DataW H×List MemPlace),Wt P tE x.1→DataW.trod enc P w 0 sp held n tE cs=some x→∃ e:Ex,OkE e∧RVs (Old w) w (exC e) cs:=by
 intro n
 induction n using Nat.strongRecOn with
 | _ n ih=>
  intro cs x hw h
  obtain ⟨f0,f1,f2,f3,hu,a0,b0,a1,b1,a2,b2,a3,b3⟩:=K.ex
  obtain ⟨hl,m,rfl,hf⟩:=q3f hu hw h
  rw [K.cE] at hl
  obtain ⟨c0,c1,c2,c3,rfl⟩:∃ c0 c1 c2 c3,cs=[c0,c1,c2,c3]:=by
   match cs,hl with
   | [c0,c1,c2,c3],_=>exact ⟨_,_,_,_,rfl⟩
  obtain ⟨y0,w0,h0⟩:=hf 0 f0 rfl
  obtain ⟨y1,w1,h1⟩:=hf 1 f1 rfl
  obtain ⟨y2,w2,h2⟩:=hf 2 f2 rfl
  obtain ⟨y3,w3,h3⟩:=hf 3 f3 rfl
  rw [a0,b0,K.cI] at h0
  rw [a1,b1,K.cN] at h1
  rw [a2,b2,K.cN] at h2
  rw [a3,b3,K.cEs] at h3
  rw [a1] at w1
  rw [a2] at w2
  rw [a3] at w3
  obtain ⟨z,e0⟩:=open_int' K.int h0
  obtain ⟨s1,g1,e1⟩:=q2m K.str w1 h1
  obtain ⟨s2,g2,e2⟩:=q2m K.str w2 h2
  obtain ⟨l,v,g3,g4,e3,g5⟩:=q63 (enc':=exC) (good:=OkE) K.exs K.cE (by decide) exC_len K.bE w3 (fun k hk cs x hw h=>ih k (by omega) cs x hw h) h3
  simp at e0 e1 e2 e3
  subst e0;subst e1;subst e2;subst e3
  refine ⟨.mk z s1 s2 l,.mk z s1 s2 l g4 g1 g2 g3,?_⟩
  rw [q0d]
  exact .cons (.int _ _) (.cons (.str _) (.cons (.str _) (.cons g5 .nil)))
theorem open_rf {n:Nat} {cs:List Value} {x:DataW H×List MemPlace} (hw:Wt P tF x.1) (h:DataW.trod enc P w 0 sp held n tF cs=some x):∃ f:Rf,OkF f∧RVs (Old w) w (rfC f) cs:=by
 obtain ⟨f0,f1,hu,a0,b0,a1,b1⟩:=K.rf
 obtain ⟨hl,m,rfl,hf⟩:=q3f hu hw h
 rw [K.cF] at hl
 obtain ⟨c0,c1,rfl⟩:∃ c0 c1,cs=[c0,c1]:=by
  match cs,hl with
  | [c0,c1],_=>exact ⟨_,_,rfl⟩
 obtain ⟨y0,w0,h0⟩:=hf 0 f0 rfl
 obtain ⟨y1,w1,h1⟩:=hf 1 f1 rfl
 rw [a0,b0,K.cN] at h0
 rw [a1,b1,K.cN] at h1
 rw [a0] at w0
 rw [a1] at w1
 obtain ⟨s1,g1,e1⟩:=q2m K.str w0 h0
 obtain ⟨s2,g2,e2⟩:=q2m K.str w1 h1
 simp at e1 e2
 subst e1;subst e2
 exact ⟨⟨s1,s2⟩,⟨g1,g2⟩,.cons (.str _) (.cons (.str _) .nil)⟩
theorem open_rl {n:Nat} {cs:List Value} {x:DataW H×List MemPlace} (hw:Wt P tR x.1) (h:DataW.trod enc P w 0 sp held n tR cs=some x):∃ r:Rl,OkR r∧RVs (Old w) w (rlC r) cs:=by
 obtain ⟨f0,f1,f2,hu,a0,b0,a1,b1,a2,b2⟩:=K.rl
 obtain ⟨hl,m,rfl,hf⟩:=q3f hu hw h
 rw [K.cR] at hl
 obtain ⟨c0,c1,c2,c3,c4,c5,rfl⟩:∃ c0 c1 c2 c3 c4 c5,cs=[c0,c1,c2,c3,c4,c5]:=by
  match cs,hl with
  | [c0,c1,c2,c3,c4,c5],_=>exact ⟨_,_,_,_,_,_,rfl⟩
 obtain ⟨y0,w0,h0⟩:=hf 0 f0 rfl
 obtain ⟨y1,w1,h1⟩:=hf 1 f1 rfl
 obtain ⟨y2,w2,h2⟩:=hf 2 f2 rfl
 rw [a0,b0,K.cN] at h0
 rw [a1,b1,K.cFs] at h1
 rw [a2,b2,K.cE] at h2
 rw [a0] at w0
 rw [a1] at w1
 rw [a2] at w2
 obtain ⟨s1,g1,e1⟩:=q2m K.str w0 h0
 obtain ⟨l,v,g3,g4,e3,g5⟩:=q63 (enc':=rfC) (good:=OkF) K.rfs K.cF (by decide) (fun _=>rfl) K.bF w1 (fun k _ cs x hw h=>open_rf K hw h) h1
 obtain ⟨e,g6,g7⟩:=open_ex K _ _ _ w2 h2
 simp at e1 e3
 subst e1;subst e3
 exact ⟨⟨s1,l,e⟩,⟨g1,g4,g3,g6⟩,.cons (.str _) (.cons g5 g7)⟩
theorem open_ty {n:Nat} {cs:List Value} {x:DataW H×List MemPlace} (hw:Wt P tT x.1) (h:DataW.trod enc P w 0 sp held n tT cs=some x):∃ t:Ty,OkT t∧RVs (Old w) w (tyC t) cs:=by
 obtain ⟨f0,f1,hu,a0,b0,a1,b1⟩:=K.ty
 obtain ⟨hl,m,rfl,hf⟩:=q3f hu hw h
 rw [K.cT] at hl
 obtain ⟨c0,c1,rfl⟩:∃ c0 c1,cs=[c0,c1]:=by
  match cs,hl with
  | [c0,c1],_=>exact ⟨_,_,rfl⟩
 obtain ⟨y0,w0,h0⟩:=hf 0 f0 rfl
 obtain ⟨y1,w1,h1⟩:=hf 1 f1 rfl
 rw [a0,b0,K.cN] at h0
 rw [a1,b1,K.cRs] at h1
 rw [a0] at w0
 rw [a1] at w1
 obtain ⟨s1,g1,e1⟩:=q2m K.str w0 h0
 obtain ⟨l,v,g3,g4,e3,g5⟩:=q63 (enc':=rlC) (good:=OkR) K.rls K.cR (by decide) rlC_len K.bR w1 (fun k _ cs x hw h=>open_rl K hw h) h1
 simp at e1 e3
 subst e1;subst e3
 exact ⟨⟨s1,l⟩,⟨g1,g4,g3⟩,.cons (.str _) (.cons g5 .nil)⟩
theorem open_sc {v:Value} {d:DataW H} {ps:List MemPlace} (hw:Wt P tS d) (h:DataW.Trod enc P w 0 sp held tS v d ps) (hv:∃ vs,v=.agg vs):∃ s:List Ty,OkS s∧RV (Old w) w (scA s) v:=by
 obtain ⟨n,h⟩:=h
 obtain ⟨vs,rfl⟩:=hv
 obtain ⟨f0,hu,a0,b0⟩:=K.sc
 obtain ⟨hl,m,rfl,hf⟩:=q3f (x:=(d,ps)) hu hw h
 rw [K.cS] at hl
 obtain ⟨y0,w0,h0⟩:=hf 0 f0 rfl
 rw [a0,b0,K.cTs] at h0
 rw [a0] at w0
 obtain ⟨l,v,g3,g4,e3,g5⟩:=q63 (enc':=tyC) (good:=OkT) K.tys K.cT (by decide) (fun _=>rfl) K.bT w0 (fun k _ cs x hw h=>open_ty K hw h) h0
 refine ⟨l,⟨g4,g3⟩,?_⟩
 have hc:(Value.agg vs).cells.toList=vs.toList:=by simp [Value.cells]
 rw [hc] at hl e3
 have hvs:vs.toList=[v]:=by
  match hq:vs.toList,hl with
  | [c],_=>rw [hq] at e3;simpa using e3
 refine .agg _ vs (by rw [← Array.length_toList,hvs];rfl) fun i u hi=>?_
 match i,hi with
 | 0,hi=>
  simp at hi
  subst hi
  have:vs.getD 0 undef=v:=by
   have h9:vs=#[v]:=by
    apply Array.toList_inj.1
    rw [hvs]
   rw [h9];rfl
  rw [this]
  exact g5
end
open Go.ChangeShapes Go.WideShapes Go.RowKit
theorem below_of {R R':Nat→Prop} {S':q00} {w w':World} (h:Step R emp w R' S' w'):Below w.heap.size w w':=⟨h.os,h.tape,h.output,h.size,fun k hk=>(h.keep k hk rfl).1⟩
theorem sim_old (w:World):Sim (Old w) emp w:=⟨fun b o h=>(by cases h),fun b h=>⟨rfl,h⟩⟩
theorem call_true {f:Nat} {args:List AV} {vs:Array Value} {w:World} (hok:callOk PG f=true) (h:AFun PG f args (.bool true)) (hv:RVs (Old w) w args vs.toList):Calls PG f vs w fun en w'=>en=.returned (.bool true)∧Below w.heap.size w w':=by
 refine ((h emp (Old w) w vs (sim_old w) hv).calls hok).mono fun en w' ⟨R',S',ae,h1,h2,h3,h4⟩=>?_
 obtain ⟨rfl,rfl⟩:=h2
 cases en with
 | returned v=>
  have h1:RV R' w' (.bool true) v:=h1
  cases h1
  exact ⟨rfl,below_of h4⟩
 | _=>exact h1.elim
section
variable {H:Type} {enc:TypeId×Value→H} {P:Program}
theorem q3q {W W':World} (hl:laidOutB P=true) (hb:Below W.heap.size W W') {sp':Nat→Bool}:∀ {ts:List TypeId} {vs:List Value} {ds:List (DataW H)} {ps:List MemPlace},(∀ t∈ts,P.readableRec t=true∧t<P.types.size)→DataW.TrodAll enc P W 0 (fun _=>true) true ts vs ds ps →
  (∀ p∈ps,p.block<W.heap.size)→(∀ p∈ps,sp' p.block=true)→DataW.TrodAll enc P W' 0 sp' true ts vs ds ps
 | [],vs,ds,ps,_,h,_,_=>by
  obtain ⟨rfl,rfl,rfl⟩:=trodAll_nil h
  exact trodAll_mk0
 | t :: ts,vs,ds,ps,ht,h,h1,h2=>by
  obtain ⟨v,vs1,d,ds1,a,b,rfl,rfl,rfl,k1,k2⟩:=trodAll_cons h
  have ht0:=ht t (by simp)
  exact ⟨a,b,WideElems.Trod_stays hl ht0.1 ht0.2 k1 (fun p hp=>hb.same (h1 p (List.mem_append_left _ hp))) (fun p hp=>h2 p (List.mem_append_left _ hp)),
   q3q hl hb (fun t h=>ht t (List.mem_cons_of_mem _ h)) k2 (fun p hp=>h1 p (List.mem_append_right _ hp)) (fun p hp=>h2 p (List.mem_append_right _ hp)),rfl⟩
theorem post_kept {f:Func} {s:ChangeSpec} {apart fresh handsOn again:Bool} {W W':World} {args:Array Value} {ds gs:List (DataW H)} {before:List MemPlace} {tb:TypeId}
  (hl:laidOutB P=true) (hts:∀ t∈f.params.toList,P.readableRec t=true∧t<P.types.size) (hvars:s.vars=[])
  (hW:DataW.Whole enc P f.params.toList s.vars apart W args.toList ds gs before) (hfn:(s.fn H (ds++gs)).results=[.lit (.bool true)]∧(s.fn H (ds++gs)).args=ds∧(s.fn H (ds++gs)).vars=[])
  (hr:f.resultTypes=#[tb]) (hb:P.underlying tb=some .bool) (hB:Below W.heap.size W W'):s.post enc P f apart fresh handsOn again W args (.bool true) W':=by
 have hlt:=hW.lt
 have hW0:=hW
 obtain ⟨p,q,hA,hV,rfl,hz,hn⟩:=hW
 rw [hvars] at hV
 obtain ⟨rfl,rfl⟩:=trodVars_none hV
 rw [List.append_nil] at *
 obtain ⟨e1,e2,e3⟩:=hfn
 have hold:∀ x∈p,(fun b=>decide (b<W.heap.size)) x.block=true:=fun x hx=>by simpa using hlt x hx
 have hres:∀ (b:Nat) (sp:Nat→Bool) (hd:Bool),DataW.TrodAll enc P W' b sp hd f.resultTypes.toList ((Value.bool true).resultList f.resultTypes.size) [.lit (.bool true)] []:=fun b sp hd=>by
  rw [hr]
  exact trodAll_mk1 (shut_bool hb true)
 refine ⟨ds,[],p,[],p,[],hW0,by rw [List.append_nil,e1];exact hres _ _ _,by rw [List.append_nil,e2];exact q3q hl hB hts hA hlt hold,by rw [List.append_nil,hvars,e3];exact rfl,hB.frame _,fun _=>?_⟩
 refine ⟨ok_one hr rfl (okWide_bool_mk hb true),_,[],([]++p)++[],⟨[]++p,[],trodAll_append (q3q hl hB hts hA hlt (fun _ _=>rfl)) (hres _ _ _),by rw [hvars];exact rfl,rfl,?_,?_⟩,?_⟩
 ·intro b off hp
  have hp:MemPlace.cell b off∈p:=by simpa using hp
  rw [hB.frozen (p:=⟨b,off,none⟩) (hlt _ hp)]
  exact hz b off hp
 ·intro ha
  simpa using hn ha
 ·intro x hx _
  simpa using hx
end
structure TuT (P:Program) (tL tU tD tO tN:TypeId):Prop where
 str:P.underlying tN=some .string
 ob:∃ f0 f1,P.underlying tO=some (.struct #[f0,f1])∧f0.type=tN∧f0.offset=0∧f1.type=tN∧f1.offset=1
 nd:∃ f0 f1,P.underlying tD=some (.struct #[f0,f1])∧f0.type=tO∧f0.offset=0∧f1.type=tN∧f1.offset=2
 tu:∃ f0 f1 f2,P.underlying tU=some (.struct #[f0,f1,f2])∧f0.type=tO∧f0.offset=0∧f1.type=tN∧f1.offset=2∧f2.type=tD∧f2.offset=3
 tus:P.underlying tL=some (.slice tU)
 cN:P.cellsOf tN=1
 cO:P.cellsOf tO=2
 cD:P.cellsOf tD=3
 cU:P.cellsOf tU=6
 bU:1≤P.bytesOf tU
section
variable {H:Type} {enc:TypeId×Value→H} {P:Program} {w:World} {sp:Nat→Bool} {held:Bool} {tL tU tD tO tN:TypeId} (K:TuT P tL tU tD tO tN)
include K
theorem open_ob {n:Nat} {cs:List Value} {x:DataW H×List MemPlace} (hw:Wt P tO x.1) (h:DataW.trod enc P w 0 sp held n tO cs=some x):∃ o:Ob,OkO o∧cs=[.string o.ty,.string o.id]:=by
 obtain ⟨f0,f1,hu,a0,b0,a1,b1⟩:=K.ob
 obtain ⟨hl,m,rfl,hf⟩:=q3f hu hw h
 rw [K.cO] at hl
 obtain ⟨c0,c1,rfl⟩:∃ c0 c1,cs=[c0,c1]:=by
  match cs,hl with
  | [c0,c1],_=>exact ⟨_,_,rfl⟩
 obtain ⟨y0,w0,h0⟩:=hf 0 f0 rfl
 obtain ⟨y1,w1,h1⟩:=hf 1 f1 rfl
 rw [a0,b0,K.cN] at h0
 rw [a1,b1,K.cN] at h1
 rw [a0] at w0
 rw [a1] at w1
 obtain ⟨s1,g1,e1⟩:=q2m K.str w0 h0
 obtain ⟨s2,g2,e2⟩:=q2m K.str w1 h1
 simp at e1 e2
 subst e1;subst e2
 exact ⟨⟨s1,s2⟩,⟨g1,g2⟩,rfl⟩
theorem open_nd {n:Nat} {cs:List Value} {x:DataW H×List MemPlace} (hw:Wt P tD x.1) (h:DataW.trod enc P w 0 sp held n tD cs=some x):∃ o:Nd,OkD o∧cs=[.string o.o.ty,.string o.o.id,.string o.rl]:=by
 obtain ⟨f0,f1,hu,a0,b0,a1,b1⟩:=K.nd
 obtain ⟨hl,m,rfl,hf⟩:=q3f hu hw h
 rw [K.cD] at hl
 obtain ⟨c0,c1,c2,rfl⟩:∃ c0 c1 c2,cs=[c0,c1,c2]:=by
  match cs,hl with
  | [c0,c1,c2],_=>exact ⟨_,_,_,rfl⟩
 obtain ⟨y0,w0,h0⟩:=hf 0 f0 rfl
 obtain ⟨y1,w1,h1⟩:=hf 1 f1 rfl
 rw [a0,b0,K.cO] at h0
 rw [a1,b1,K.cN] at h1
 rw [a0] at w0
 rw [a1] at w1
 obtain ⟨o,g1,e1⟩:=open_ob K w0 h0
 obtain ⟨s2,g2,e2⟩:=q2m K.str w1 h1
 simp at e1 e2
 obtain ⟨rfl,rfl⟩:=e1
 subst e2
 exact ⟨⟨o,s2⟩,⟨g1,g2⟩,rfl⟩
theorem open_tu {n:Nat} {cs:List Value} {x:DataW H×List MemPlace} (hw:Wt P tU x.1) (h:DataW.trod enc P w 0 sp held n tU cs=some x):∃ t:Tu,OkU t∧RVs (Old w) w (tuC t) cs:=by
 obtain ⟨f0,f1,f2,hu,a0,b0,a1,b1,a2,b2⟩:=K.tu
 obtain ⟨hl,m,rfl,hf⟩:=q3f hu hw h
 rw [K.cU] at hl
 obtain ⟨c0,c1,c2,c3,c4,c5,rfl⟩:∃ c0 c1 c2 c3 c4 c5,cs=[c0,c1,c2,c3,c4,c5]:=by
  match cs,hl with
  | [c0,c1,c2,c3,c4,c5],_=>exact ⟨_,_,_,_,_,_,rfl⟩
 obtain ⟨y0,w0,h0⟩:=hf 0 f0 rfl
 obtain ⟨y1,w1,h1⟩:=hf 1 f1 rfl
 obtain ⟨y2,w2,h2⟩:=hf 2 f2 rfl
 rw [a0,b0,K.cO] at h0
 rw [a1,b1,K.cN] at h1
 rw [a2,b2,K.cD] at h2
 rw [a0] at w0
 rw [a1] at w1
 rw [a2] at w2
 obtain ⟨o,g1,e1⟩:=open_ob K w0 h0
 obtain ⟨r,g2,e2⟩:=q2m K.str w1 h1
 obtain ⟨s,g3,e3⟩:=open_nd K w2 h2
 simp at e1 e2 e3
 obtain ⟨rfl,rfl⟩:=e1
 subst e2
 obtain ⟨rfl,rfl,rfl⟩:=e3
 exact ⟨⟨o,r,s⟩,⟨g1,g2,g3⟩,.cons (.str _) (.cons (.str _) (.cons (.str _) (.cons (.str _) (.cons (.str _) (.cons (.str _) .nil)))))⟩
theorem open_obj {v:Value} {d:DataW H} {ps:List MemPlace} (hw:Wt P tO d) (h:DataW.Trod enc P w 0 sp held tO v d ps) (hv:∃ vs,v=.agg vs):∃ o:Ob,OkO o∧RV (Old w) w (.agg (obC o)) v:=by
 obtain ⟨n,h⟩:=h
 obtain ⟨vs,rfl⟩:=hv
 obtain ⟨o,g,e⟩:=open_ob K (x:=(d,ps)) hw h
 have hc:(Value.agg vs).cells.toList=vs.toList:=by simp [Value.cells]
 rw [hc] at e
 have h9:vs=#[.string o.ty,.string o.id]:=Array.toList_inj.1 (by rw [e])
 subst h9
 refine ⟨o,g,.agg _ _ rfl fun i u hi=>?_⟩
 match i,hi with
 | 0,hi=>simp [obC] at hi;subst hi;exact .str _
 | 1,hi=>simp [obC] at hi;subst hi;exact .str _
theorem open_tus {v:Value} {d:DataW H} {ps:List MemPlace} (hw:Wt P tL d) (h:DataW.Trod enc P w 0 sp held tL v d ps) (hv:∃ a b c,v=.slice a b c):∃ l:List Tu,(∀ t∈l,OkU t)∧RV (Old w) w (.sl 6 (l.map tuC)) v:=by
 obtain ⟨n,h⟩:=h
 obtain ⟨a,b,c,rfl⟩:=hv
 obtain ⟨l,v,g1,g2,e,g3⟩:=q63 (enc':=tuC) (good:=OkU) (x:=(d,ps)) K.tus K.cU (by decide) (fun _=>rfl) K.bU hw (fun k _ cs x hw h=>open_tu K hw h) h
 have:v=.slice a b c:=by
  have:=congrArg List.head? e
  simpa [Value.cells] using this.symm
 subst this
 exact ⟨l,g1,g3⟩
end
end Go.HL
namespace Go.Proofs.YtadmdlpmikoghaaGreat
open Go.ChangeShapes Go.WideShapes Go.ChangeAt Go.RowKit Go.HL
theorem own:ownKnob Tryz.prog.godebug=none:=by kernel_rfl
theorem laidOut:laidOutB Tryz.prog=true:=by kernel_rfl
theorem scT:ScT Tryz.prog 24 22 46 44 53 48 171 51 49 3 9 where
 int:=Tryz.underlying3
 str:=Tryz.underlying9
 ex:=⟨_,_,_,_,Tryz.underlying51,rfl,rfl,rfl,rfl,rfl,rfl,rfl,rfl⟩
 exs:=Tryz.underlying49
 rf:=⟨_,_,Tryz.underlying171,rfl,rfl,rfl,rfl⟩
 rfs:=Tryz.underlying48
 rl:=⟨_,_,_,Tryz.underlying53,rfl,rfl,rfl,rfl,rfl,rfl⟩
 rls:=Tryz.underlying44
 ty:=⟨_,_,Tryz.underlying46,rfl,rfl,rfl,rfl⟩
 tys:=Tryz.underlying22
 sc:=⟨_,Tryz.underlying24,rfl,rfl⟩
 cI:=by kernel_rfl
 cN:=by kernel_rfl
 cE:=by kernel_rfl
 cEs:=by kernel_rfl
 cF:=by kernel_rfl
 cFs:=by kernel_rfl
 cR:=by kernel_rfl
 cRs:=by kernel_rfl
 cT:=by kernel_rfl
 cTs:=by kernel_rfl
 cS:=by kernel_rfl
 bE:=of_decide_eq_true (by kernel_rfl)
 bF:=of_decide_eq_true (by kernel_rfl)
 bR:=of_decide_eq_true (by kernel_rfl)
 bT:=of_decide_eq_true (by kernel_rfl)
theorem tuT:TuT Tryz.prog 25 41 39 27 9 where
 str:=Tryz.underlying9
 ob:=⟨_,_,Tryz.underlying27,rfl,rfl,rfl,rfl⟩
 nd:=⟨_,_,Tryz.underlying39,rfl,rfl,rfl,rfl⟩
 tu:=⟨_,_,_,Tryz.underlying41,rfl,rfl,rfl,rfl,rfl,rfl⟩
 tus:=Tryz.underlying25
 cN:=by kernel_rfl
 cO:=by kernel_rfl
 cD:=by kernel_rfl
 cU:=by kernel_rfl
 bU:=of_decide_eq_true (by kernel_rfl)
theorem weights_one {H:Type} {P:Program} {t:TypeId} {d:DataW H} {ts:List TypeId} {ds:List (DataW H)} (h:(DataW.weightsEach P (t :: ts) (d :: ds)).all (·≤reachBytes)=true):Wt P t d∧(DataW.weightsEach P ts ds).all (·≤reachBytes)=true:=by
 simp only [DataW.weightsEach,List.all_append,Bool.and_eq_true,List.all_eq_true,decide_eq_true_eq] at h
 refine ⟨h.1,?_⟩
 rw [List.all_eq_true]
 exact fun x hx=>decide_eq_true (h.2 x hx)
theorem trodAll_five {H:Type} {enc:TypeId×Value→H} {P:Program} {w:World} {base:Nat} {spare:Nat→Bool} {held:Bool} {t0 t1 t2 t3 t4:TypeId} {args:Array Value} {ds:List (DataW H)} {ps:List MemPlace} (h:DataW.TrodAll enc P w base spare held [t0,t1,t2,t3,t4] args.toList ds ps) :
  ∃ v0 v1 v2 v3 v4 d0 d1 d2 d3 d4 p0 p1 p2 p3 p4,args=#[v0,v1,v2,v3,v4]∧ds=[d0,d1,d2,d3,d4]∧ps=p0++(p1++(p2++(p3++(p4))))∧DataW.Trod enc P w base spare held t0 v0 d0 p0∧DataW.Trod enc P w base spare held t1 v1 d1 p1∧DataW.Trod enc P w base spare held t2 v2 d2 p2∧DataW.Trod enc P w base spare held t3 v3 d3 p3∧DataW.Trod enc P w base spare held t4 v4 d4 p4:=by
 obtain ⟨v0,vs0,d0,ds0,p0,q0,hargs,rfl,rfl,h0,g0⟩:=trodAll_cons h
 obtain ⟨v1,vs1,d1,ds1,p1,q1,rfl,rfl,rfl,h1,g1⟩:=trodAll_cons g0
 obtain ⟨v2,vs2,d2,ds2,p2,q2,rfl,rfl,rfl,h2,g2⟩:=trodAll_cons g1
 obtain ⟨v3,vs3,d3,ds3,p3,q3,rfl,rfl,rfl,h3,g3⟩:=trodAll_cons g2
 obtain ⟨v4,vs4,d4,ds4,p4,q4,rfl,rfl,rfl,h4,g4⟩:=trodAll_cons g3
 obtain ⟨rfl,rfl,rfl⟩:=trodAll_nil g4
 exact ⟨v0,v1,v2,v3,v4,d0,d1,d2,d3,d4,p0,p1,p2,p3,p4,by cases args;simp_all,rfl,by simp,h0,h1,h2,h3,h4⟩
end Go.Proofs.YtadmdlpmikoghaaGreat
namespace Go.Proofs.YtadmdlpmikoghaaGreat
open Go.ChangeShapes Go.WideShapes Go.ChangeAt Go.RowKit Go.HL
set_option maxRecDepth 100000 in
theorem graphOrder_lifted (os:Os) (started:os.Started) (H:Type) (enc:TypeId×Value→H) :
  ReturnsInHanded {} Tryz.checked os 7 .any (fun w args=>(Rows.graphOrderSpec.pre enc Tryz.prog Tryz.f7 Rows.graphOrderRow.domain false w args∧True)∧sizedMet enc Tryz.prog Tryz.f7 (OpenSpec.ofChange Rows.graphOrderSpec) false w args)
   (Rows.graphOrderSpec.post enc Tryz.prog Tryz.f7 false true false false):=by
 refine returnsInHanded_of_change_and (C:=Tryz.checked) (X:=fun _ _=>True) (fun _ _ _ _ h=>h) own started (by kernel_rfl) Tryz.func7
  (by
   obtain ⟨w,t,i,h1,h2,h3,h4,h5,h6⟩:=ChangeSpec.witness6 (enc:=enc) (C:=Tryz.checked) (os:=os) (f:=7) (fn:=Tryz.f7) (s:=Rows.graphOrderSpec) (conds:=Rows.graphOrderRow.domain) (apart:=false) false ⟨#[],#[.agg #[.slice none 0 0],.slice none 0 0,.agg #[.string ⟨#[]⟩,.string ⟨#[]⟩],.string ⟨#[]⟩,.int .i64 0],[]⟩ 8 (by kernel_rfl) (by kernel_rfl) (by kernel_rfl) (by kernel_rfl)
   exact ⟨w,t,i,h1,h2,h3,h4,⟨⟨h5.1,trivial⟩,h5.2⟩,h6⟩) ?_
 intro W base args ds gs before hval0 hW hcnd hsz0 _ _
 have hval:∀ (j:Nat) t v,Tryz.f7.params[j]?=some t→args[j]?=some v→Value.okWide Tryz.prog W .any base t v:=hval0
 have hsz:(DataW.weightsEach Tryz.prog (Tryz.f7.params.toList++[]) (ds++gs)).all (·≤reachBytes)=true:=hsz0
 have hW':=hW
 obtain ⟨p,q,hA0,hV,rfl,hfz,hnd⟩:=hW
 have hA:DataW.TrodAll enc Tryz.prog W 0 (fun _=>true) true Tryz.f7.params.toList args.toList ds p:=hA0
 rw [Tryz.params7] at hA hval hsz
 obtain ⟨v0,v1,v2,v3,v4,d0,d1,d2,d3,d4,p0,p1,p2,p3,p4,rfl,rfl,rfl,h0,h1,h2,h3,h4⟩:=trodAll_five hA
 obtain ⟨rfl,rfl⟩:=trodVars_none hV
 obtain ⟨w0,hsz⟩:=weights_one hsz
 obtain ⟨w1,hsz⟩:=weights_one hsz
 obtain ⟨w2,hsz⟩:=weights_one hsz
 obtain ⟨-,hsz⟩:=weights_one hsz
 obtain ⟨-,hsz⟩:=weights_one hsz
 obtain ⟨vs0,hvs0,-⟩:=okWide_struct Tryz.underlying24 (hval 0 24 v0 rfl rfl)
 obtain ⟨a0,hs0,hv0⟩:=open_sc scT w0 h0 ⟨vs0,hvs0⟩
 obtain ⟨a1,hs1,hv1⟩:=open_tus tuT w1 h1 (okWide_slice Tryz.underlying25 (hval 1 25 v1 rfl rfl))
 obtain ⟨vs2,hvs2,-⟩:=okWide_struct Tryz.underlying27 (hval 2 27 v2 rfl rfl)
 obtain ⟨a2,hs2,hv2⟩:=open_obj tuT w2 h2 ⟨vs2,hvs2⟩
 obtain ⟨a3,rfl,-,-,-⟩:=Go.ChangeMaps.open_string Tryz.underlying9 (hval 3 9 v3 rfl rfl) h3
 obtain ⟨a4,rfl,rfl,rfl,-⟩:=Go.ChangeShapes.open_int Tryz.underlying3 (hval 4 3 v4 rfl rfl) h4
 clear hA0 hval0 hsz0
 refine (call_true (by kernel_rfl) (c_GraphOrder hs0 hs1 a2 a3 a4) (vs:=#[v0,v1,v2,.string a3,.int .i64 a4]) (.cons hv0 (.cons hv1 (.cons hv2 (.cons (.str _) (.cons (.int _ _) .nil)))))).mono fun e W' ⟨he,hB⟩=>?_
 subst he
 have hts:(Tryz.f7.params.toList.all fun t=>Tryz.prog.readableRec t&&decide (t<Tryz.prog.types.size))=true:=by kernel_rfl
 exact ⟨_,rfl,post_kept laidOut (fun t ht=>by have h:=List.all_eq_true.1 hts t ht;rw [Bool.and_eq_true] at h;exact ⟨h.1,of_decide_eq_true h.2⟩) rfl hW' ⟨rfl,rfl,rfl⟩ (tb:=4) (by kernel_rfl) Tryz.underlying4 hB⟩
set_option maxRecDepth 100000 in
theorem graphOrder_p0:(Rows.graphOrderRow.inPlace==Tryz.pinned.checked.prog.inPlace 7)=true:=by kernel_rfl
set_option maxRecDepth 100000 in
theorem graphOrder_p1:(Rows.graphOrderRow.unfollowed==Tryz.pinned.checked.prog.unfollowed 7)=true:=by kernel_rfl
set_option maxRecDepth 100000 in
theorem graphOrder_p2:(Rows.graphOrderRow.recurses==Tryz.pinned.checked.prog.recurses 7)=true:=by kernel_rfl
set_option maxRecDepth 100000 in
theorem graphOrder_p3:(Rows.graphOrderRow.named==Tryz.pinned.checked.prog.varsNamed 7)=true:=by kernel_rfl
set_option maxRecDepth 100000 in
theorem graphOrder_p4:laidOutB Tryz.pinned.checked.prog=true:=by kernel_rfl
set_option maxRecDepth 100000 in
theorem graphOrder_p5:mapsRowed Tryz.pinned.checked.prog=true:=by kernel_rfl
set_option maxRecDepth 100000 in
theorem graphOrder_p6:Tryz.pinned.checked.prog.stopsHeard=true:=by kernel_rfl
set_option maxRecDepth 100000 in
theorem graphOrder_p7:Tryz.pinned.checked.prog.mayEnter=true:=by kernel_rfl
set_option maxRecDepth 100000 in
theorem graphOrder_closed:joinedFacts Tryz.pinned.checked.prog 7 Tryz.f7 Rows.graphOrderSpec Rows.graphOrderRow=true:=by
 unfold joinedFacts
 rw [graphOrder_p0,graphOrder_p1,graphOrder_p2,graphOrder_p3,graphOrder_p4,graphOrder_p5,graphOrder_p6,graphOrder_p7]
 kernel_rfl
theorem graphOrder_holds:Rows.GraphOrderSaid:=
 OpenClaim.holds_of_wide 7 Tryz.f7 rfl rfl rfl rfl rfl rfl rfl ⟨rfl,rfl,rfl,rfl,rfl⟩ rfl rfl rfl rfl rfl (by kernel_rfl) Tryz.func7 graphOrder_closed
  (of_decide_eq_true (by kernel_rfl)) (by unfold Func.isWrapper;first | (rw [if_pos (by decide +kernel)];kernel_rfl) | (rw [if_neg (by decide +kernel)];exact ⟨rfl,rfl⟩))
  (fun os started H enc _=>by
   have h:=graphOrder_lifted os started H enc
   simp only [and_true] at h
   exact h)
end Go.Proofs.YtadmdlpmikoghaaGreat
