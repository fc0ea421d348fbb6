/- The law ListsHold returns true for every input and leaves it as it was; no conditions. -/
import Derived.Test.YtadmdlpmikoghaaGreatKoM4
import Derived.ProofKit
import Derived.Carry
import Derived.Handed
import Derived.Test.YtadmdlpmikoghaaGreatRows
set_option maxRecDepth 4000
set_option linter.unusedSimpArgs false
set_option linter.unusedVariables false
namespace Go.HL
open List renaming mem_of_getElem?→lA,length_map→lB,getElem?_map→lC,length_cons→lD,map_append→lE,getElem?_eq_getElem→lF,length_append→lG,take_of_length_le→lH,mem_cons_of_mem→lI,append_nil→lJ,length_filter_le→lK,length_nil→lL,length_singleton→lM,getElem?_of_mem→lO,map_cons→lP,mem_cons→lQ,nil_append→lR,mem_singleton→lS,mem_filter→lT,take_length→lU,getElem?_set→lV,append_assoc→lW,mem_append_left→lX
open Nat renaming reduceAdd→zA,reduceLeDiff→zB,reduceLT→zC,reduceSub→zD,reduceMul→zE,reduceEqDiff→zF,reduceBEq→zG
open Int renaming reduceAdd→zH,reduceToNat→zI
def Apart (u v:AV):Prop:=∀ b off n cap,v=.own b off n cap->q0v u b
theorem LstN.keep {S0 S S':q00} {t sz:Nat} {u u' v:AV} {rows:List (List AV)} (h:LstN S0 S t sz v rows) (ha:Apart u v) (hk:∀ c o,y01 S c=some o->q0v u c->y01 S' c=some o/\q0v u' c):LstN S0 S' t sz v rows/\Apart u' v:=by
 obtain ⟨hr,⟨rfl,rfl⟩ | ⟨b,cap,rfl,h1,h2,h3⟩⟩:=h
 ·exact ⟨.nil,fun b off n cap h=>by cases h⟩
 ·obtain ⟨k1,k2⟩:=hk b _ h2 (ha b 0 _ _ rfl);exact ⟨⟨hr,.inr ⟨b,cap,rfl,h1,k1,h3⟩⟩,fun b' off n cap h=>by cases h;exact k2⟩
theorem Apart.symm {u v:AV} (h:Apart u v):Apart v u:=fun b off n cap hu b' off' n' cap' hv=>Ne.symm (h b' off' n' cap' hv b off n cap hu)
theorem yii {v:AV}:Apart .nils v:=fun b off n cap _=>q3z
structure PrI (S:q00) (bR b2 b3 b5:Nat) (T:List Tk) (v:AV) (p:List Ty×Rd) (S':q00):Prop where
 rd:y01 S' bR=some (rdO T p.2)
 c2:y01 S' b2=some (.cells 24 [.nils] 1)
 c3:y01 S' b3=some (.cells 82 [.int .i64 0,.int .i64 0,.int .i64 0] 3)
 c5:y01 S' b5=some (.cells 24 [v] 1)
 lst:LstN S S' 46 2 v (p.1.map tyC)
 asd:∀ c∈[bR,b2,b3,b5],q0v v c
 sub:Sub S S'
theorem PrI.mv {S S':q00} {bR b2 b3 b5:Nat} {T:List Tk} {v:AV} {l:List Ty} {r:Rd} (h:PrI S bR b2 b3 b5 T v (l,r) S') (hd:[bR,b2,b3,b5].Nodup) (hR:y01 S bR=none) (r':Rd):PrI S bR b2 b3 b5 T v (l,r') (supd S' bR (rdO T r')):=by
 simp only [List.nodup_cons,lQ,not_or,List.not_mem_nil,or_false,not_false_eq_true,List.nodup_nil,and_true] at hd;obtain ⟨⟨n2,n3,n5⟩,⟨m3,m5⟩,l5⟩:=hd;exact ⟨by rw [q01,if_pos rfl],by rw [q01,if_neg n2];exact h.c2,by rw [q01,if_neg n3];exact h.c3,by rw [q01,if_neg n5];exact h.c5,h.lst.upd (h.asd bR (by simp)) _,h.asd,h.sub.supd hR⟩
structure PrJ (S:q00) (bR b2 b3 b5 b6:Nat) (T:List Tk) (v u:AV) (nm:ByteArray) (l:List Ty) (p:List Rl×Rd) (S':q00):Prop where
 out:PrI S bR b2 b3 b5 T v (l,p.2) S'
 c6:y01 S' b6=some (.cells 46 [.str nm,u] 2)
 ins:LstN S S' 53 6 u (p.1.map rlC)
 asd:∀ c∈[bR,b2,b3,b5,b6],q0v u c
 asd6:q0v v b6
 apt:Apart u v
theorem PrJ.mv {S S':q00} {bR b2 b3 b5 b6:Nat} {T:List Tk} {v u:AV} {nm:ByteArray} {l:List Ty} {rs:List Rl} {r:Rd} (h:PrJ S bR b2 b3 b5 b6 T v u nm l (rs,r) S') (hd:[bR,b2,b3,b5].Nodup) (h6:bR≠b6) (hR:y01 S bR=none) (r':Rd):PrJ S bR b2 b3 b5 b6 T v u nm l (rs,r') (supd S' bR (rdO T r')):=
 ⟨h.out.mv hd hR r',by rw [q01,if_neg h6];exact h.c6,h.ins.upd (h.asd bR (by simp)) _,h.asd,h.asd6,h.apt⟩
theorem PrJ.more {S S1:q00} {bR b2 b3 b5 b6:Nat} {T:List Tk} {v u:AV} {nm:ByteArray} {l:List Ty} {rs:List Rl} {r:Rd} (h:PrJ S bR b2 b3 b5 b6 T v u nm l (rs,r) S1) (hd6:∀ c∈[bR,b2,b3,b5],b6≠c) (k6:y01 S b6=none) (x:Rl) (hlen:rs.length<=100000) {K:q00->Prop} (hK:∀ u' S3,PrJ S bR b2 b3 b5 b6 T v u' nm l (rs++[x],r) S3->K S3) :
  apW S1 53 6 104 u (.sl 6 [rlC x]) fun u' S2=>soW (q0m S2 b6) S2 1 b6 1 u' K:=by
 obtain ⟨⟨hrd,h2,h3,h5,hl,ha,hs⟩,hc6,hin,hau,ha6,hap⟩:=h;dsimp only at hrd hl hin;refine hin.app hs (xs:=[rlC x]) (fun r hr=>by rw [lS] at hr;subst hr;exact y5p x) (by rw [q0k];rfl) (by simp;omega) ?_
 intro u' S2 k1 k2 k3;obtain ⟨q6,q6a⟩:=k3 b6 _ hc6 (hau b6 (by simp))
 have hone:=k2.one;have hac:q09 u'=[u']:=by cases u'<;>first | rfl | cases hone
 obtain ⟨j1,j2⟩:=hl.keep hap k3;rw [objAt_some.2 q6,q3h,hac];refine ⟨rfl,by simp,by simp [y09,hone],hK u' _ ⟨⟨?_,?_,?_,?_,j1.upd ha6 _,ha,k1.supd k6⟩,by rw [q01,if_pos rfl];rfl,?_,fun c hc=>?_,ha6,j2⟩⟩
 ·rw [q01,if_neg (hd6 bR (by simp))];exact (k3 bR _ hrd (hau bR (by simp))).1
 ·rw [q01,if_neg (hd6 b2 (by simp))];exact (k3 b2 _ h2 (hau b2 (by simp))).1
 ·rw [q01,if_neg (hd6 b3 (by simp))];exact (k3 b3 _ h3 (hau b3 (by simp))).1
 ·rw [q01,if_neg (hd6 b5 (by simp))];exact (k3 b5 _ h5 (hau b5 (by simp))).1
 ·simpa using k2.upd q6a _
 ·simp only [lQ,List.not_mem_nil,or_false] at hc;rcases hc with rfl | rfl | rfl | rfl | rfl
  ·exact (k3 _ _ hrd (hau _ (by simp))).2
  ·exact (k3 _ _ h2 (hau _ (by simp))).2
  ·exact (k3 _ _ h3 (hau _ (by simp))).2
  ·exact (k3 _ _ h5 (hau _ (by simp))).2
  ·exact q6a
theorem Frs.app {S0 S:q00}:∀ {a a' b b':List AV},Frs S0 S a a'->Frs S0 S b b'->Frs S0 S (a++b) (a'++b')
 | [],[],b,b',_,h=>h
 | [],x :: r,b,b',h,_=>by cases h.1
 | x :: r,[],b,b',h,_=>by cases h.1
 | x :: r,y :: r',b,b',h,k=>.cons (h.2 0 x y rfl rfl) (Frs.app ⟨by simpa using h.1,fun i u u' h1 h2=>h.2 (i+1) u u' (by simpa using h1) (by simpa using h2)⟩ k)
theorem PrJ.typ {S S1:q00} {bR b2 b3 b5 b6:Nat} {T:List Tk} {v u:AV} {nm:ByteArray} {l:List Ty} {rs:List Rl} {r:Rd} (h:PrJ S bR b2 b3 b5 b6 T v u nm l (rs,r) S1) (hd:[bR,b2,b3,b5].Nodup) (hd6:∀ c∈[bR,b2,b3,b5],b6≠c) (hn:∀ c∈[bR,b2,b3,b5],y01 S c=none) (hlen:l.length<=100000) {q:LE->q00->Prop} {le:LE} (hK:∀ v' S3,PrI S bR b2 b3 b5 T v' (l++[⟨nm,rs⟩],r) S3->q le S3) :
  apW S1 46 2 40 v (.sl 2 [[.str nm,u]]) fun v' S2=>soW (q0m S2 b5) S2 1 b5 0 v' fun S3=>rcW q le S3:=by
 obtain ⟨⟨hrd,h2,h3,h5,hl,ha,hs⟩,hc6,hin,hau,ha6,hap⟩:=h;dsimp only at hrd hl hin;have honeu:=hin.one;refine hl.app hs (xs:=[[.str nm,u]]) (fun r hr=>by rw [lS] at hr;subst hr;rfl) (by simp [y09,honeu];rfl) (by simp;omega) ?_
 intro v' S2 k1 k2 k3;obtain ⟨q5,q5a⟩:=k3 b5 _ h5 (ha b5 (by simp))
 obtain ⟨qR,qRa⟩:=k3 bR _ hrd (ha bR (by simp))
 obtain ⟨q2,q2a⟩:=k3 b2 _ h2 (ha b2 (by simp))
 obtain ⟨q3,q3a⟩:=k3 b3 _ h3 (ha b3 (by simp))
 obtain ⟨j1,j2⟩:=hin.keep hap.symm k3;have hone:=k2.one;have hac:q09 v'=[v']:=by cases v'<;>first | rfl | cases hone
 rw [objAt_some.2 q5,q3h,hac];refine ⟨rfl,by simp,by simp [y09,hone],?_⟩
 simp only [List.nodup_cons,lQ,not_or,List.not_mem_nil,or_false,not_false_eq_true,List.nodup_nil,and_true] at hd;obtain ⟨⟨n2,n3,n5⟩,⟨m3,m5⟩,l5⟩:=hd;obtain ⟨hr,⟨rfl,h0⟩ | ⟨bv,cap,rfl,e1,e2,e3,e4,e5⟩⟩:=k2
 ·simp at h0
 have dR:=qRa bv 0 _ _ rfl;have d2:=q2a bv 0 _ _ rfl;have d3:=q3a bv 0 _ _ rfl;have d5:=q5a bv 0 _ _ rfl
 let S0:q00:=supd (supd (supd (supd S bR (rdO T r)) b2 (.cells 24 [.nils] 1)) b3 (.cells 82 [.int .i64 0,.int .i64 0,.int .i64 0] 3)) b5 (.cells 24 [.own bv 0 ((l.map tyC)++[[.str nm,u]]).length cap] 1)
 have hS0:Sub S0 (supd S2 b5 (.cells 24 [.own bv 0 ((l.map tyC)++[[.str nm,u]]).length cap] 1)):=by
  intro x y hx;rw [q01] at hx ⊢;by_cases g5:b5=x
  ·rw [if_pos g5] at hx ⊢;exact hx
  rw [if_neg g5] at hx ⊢;rw [q01] at hx;by_cases g3:b3=x
  ·rw [if_pos g3] at hx;rw [<- g3,q3];exact hx
  rw [if_neg g3,q01] at hx;by_cases g2:b2=x
  ·rw [if_pos g2] at hx;rw [<- g2,q2];exact hx
  rw [if_neg g2,q01] at hx;by_cases gR:bR=x
  ·rw [if_pos gR] at hx;rw [<- gR,qR];exact hx
  rw [if_neg gR] at hx;exact k1 x y hx
 have hv0:y01 S0 bv=none:=by
  show y01 (supd _ _ _) bv=none;rw [q01,if_neg d5,q01,if_neg d3,q01,if_neg d2,q01,if_neg dR];exact e1
 have hvc:y01 (supd S2 b5 (.cells 24 [.own bv 0 ((l.map tyC)++[[.str nm,u]]).length cap] 1)) bv=some (.cells 46 ((l.map tyC)++[[.str nm,u]]).flatten (cap * 2)):=by
  rw [q01,if_neg d5];exact e2
 have hcs:((l.map tyC)++[[.str nm,u]]).flatten=(l.map tyC).flatten++[.str nm,u]:=by simp
 have hcs':((l++[(⟨nm,rs⟩:Ty)]).map tyC).flatten=(l.map tyC).flatten++[.str nm,.sl 6 (rs.map rlC)]:=by simp [tyC]
 have hlen':((l++[(⟨nm,rs⟩:Ty)]).map tyC).length=((l.map tyC)++[[.str nm,u]]).length:=by simp
 refine yjy (cs':=((l++[(⟨nm,rs⟩:Ty)]).map tyC).flatten) hS0 hv0 hvc ?_ (hK (.own bv 0 ((l.map tyC)++[[.str nm,u]]).length cap) _ ⟨?_,?_,?_,?_,⟨fun r hr=>?_,.inr ⟨bv,cap,by rw [hlen'],e1,by rw [q01,if_pos rfl],by rw [hlen'];exact e3,e4,by rw [hlen'];exact e5⟩⟩,fun c hc=>?_,?_⟩)
 ·rw [hcs,hcs'];refine Frs.app (Frs.same _) (.cons (.same _) (.cons (Fr.lst (t:=53) ?_) .nil));obtain ⟨g1,⟨rfl,g2⟩ | ⟨bu,capu,rfl,f1,f2,f3⟩⟩:=j1
  ·exact ⟨g1,.inl ⟨rfl,g2⟩⟩
  ·refine ⟨g1,.inr ⟨bu,capu,rfl,?_,?_,f3⟩⟩
   ·have w5:=hau b5 (by simp) bu 0 _ _ rfl
    have w3:=hau b3 (by simp) bu 0 _ _ rfl
    have w2:=hau b2 (by simp) bu 0 _ _ rfl
    have wR:=hau bR (by simp) bu 0 _ _ rfl
    have wv:=j2 bu 0 _ _ rfl bv 0 _ _ rfl;rw [q01,if_neg (Ne.symm wv)]
    show y01 (supd _ _ _) bu=none;rw [q01,if_neg w5,q01,if_neg w3,q01,if_neg w2,q01,if_neg wR];exact f1
   ·have w5:=hau b5 (by simp) bu 0 _ _ rfl
    rw [q01,if_neg w5];exact f2
 ·rw [q01,if_neg (Ne.symm dR)]
  show y01 (supd _ _ _) bR=_;rw [q01,if_neg (Ne.symm n5),q01,if_neg (Ne.symm n3),q01,if_neg (Ne.symm n2),q01,if_pos rfl]
 ·rw [q01,if_neg (Ne.symm d2)]
  show y01 (supd _ _ _) b2=_;rw [q01,if_neg (Ne.symm m5),q01,if_neg (Ne.symm m3),q01,if_pos rfl]
 ·rw [q01,if_neg (Ne.symm d3)]
  show y01 (supd _ _ _) b3=_;rw [q01,if_neg (Ne.symm l5),q01,if_pos rfl]
 ·rw [q01,if_neg (Ne.symm d5)]
  show y01 (supd _ _ _) b5=_;rw [q01,if_pos rfl]
 ·obtain ⟨t,-,rfl⟩:=List.mem_map.1 hr;rfl
 ·simp only [lQ,List.not_mem_nil,or_false] at hc;rcases hc with rfl | rfl | rfl | rfl
  ·exact qRa
  ·exact q2a
  ·exact q3a
  ·exact q5a
 ·have s1:=(Sub.refl S).supd (o:=rdO T r) (hn bR (by simp))
  exact (((((Sub.refl S).supd (hn bR (by simp))).supd (hn b2 (by simp))).supd (hn b3 (by simp))).supd (hn b5 (by simp))).supd e1
theorem yjg:∀ {f:Nat} {l:List UInt8} {a b:Nat},l.length<f->y0r f l a b≠[]
 | 0,l,a,b,h=>by omega
 | f+1,[],a,b,h=>by simp [y0r]
 | f+1,c :: r,a,b,h=>by
  unfold y0r;simp only [lD] at h;split
  ·exact yjg (by omega)
  ·split
   ·split<;>simp
   ·simp
theorem yd1 (s:ByteArray):0<(yd2 s).length:=List.length_pos_iff.2 (yjg (by rw [q63];omega))
def q5e (s:ByteArray):List Ty×AV:=if 4096<s.size then ([],.agg [.int .i64 1,.int .i64 1,.int .i64 2]) else q7i (yd2 s)
theorem x1k (s:ByteArray):y02 PG x61 [.str s] (.tup [scA (q5e s).1,(q5e s).2]):=by
 intro S;refine xjc ?_;unfold xho;intro b2 hb2;(try simp only [rwp,hwR,zA,zB,zC,zD,zE,zF,zG,zH,zI]);intro b3 hb3;have n23:b3≠b2:=q0h hb3 (x:=.cells 24 [.nils] 1) (by rw [q01,if_pos rfl])
 have k3:y01 S b3=none:=by rw [q01,if_neg (Ne.symm n23)] at hb3;exact hb3
 (try simp only [rwp,hwR,zA,zB,zC,zD,zE,zF,zG,zH,zI,if_neg n23,if_neg (Ne.symm n23)])
 (refine q03 (fun hl=>?_) (fun hl=>?_)<;>(try simp only [hlc] at hl))
 ·have hpf:q5e s=([],.agg [.int .i64 1,.int .i64 1,.int .i64 2]):=by rw [q5e,if_pos (by omega)]
  rw [hpf];refine q5d S (.tup [scA [],.agg [.int .i64 1,.int .i64 1,.int .i64 2]]) (((((Sub.refl S).supd hb2).supd k3).supd hb2).supd k3) ?_ ⟨rfl,rfl⟩;(try simp only [rwp,hwR,zA,zB,zC,zD,zE,zF,zG,zH,zI,if_neg n23,if_neg (Ne.symm n23)]);exact .tu (.cons (.ag (.cons (.nils 2) .nil)) (.cons (.same _) .nil))
 have hs:s.size<=4096:=by omega
 have hT:=yjf hs;have hTl:=hT.len;have hpf:q5e s=q7i (yd2 s):=by rw [q5e,if_neg (by omega)]
 refine q05 (yro hs) ?_;have hpos:=yd1 s;rw [hpf];generalize yd2 s=T at hT hpos hTl ⊢;clear hpf hl hs;(try simp only [rwp,hwR,zA,zB,zC,zD,zE,zF,zG,zH,zI]);refine ⟨rfl,rfl,fun bR hbR=>?_⟩
 have nR2:bR≠b2:=q0h hbR (x:=.cells 24 [.nils] 1) (by rw [q01,if_neg n23,q01,if_pos rfl])
 have nR3:bR≠b3:=q0h hbR (x:=.cells 82 [.int .i64 0,.int .i64 0,.int .i64 0] 3) (by rw [q01,if_pos rfl])
 have kR:y01 S bR=none:=by rw [q01,if_neg (Ne.symm nR3),q01,if_neg (Ne.symm nR2)] at hbR;exact hbR
 intro b5 hb5;have n52:b5≠b2:=q0h hb5 (x:=.cells 24 [.nils] 1) (by rw [q01,if_neg nR2,q01,if_neg n23,q01,if_pos rfl])
 have n53:b5≠b3:=q0h hb5 (x:=.cells 82 [.int .i64 0,.int .i64 0,.int .i64 0] 3) (by rw [q01,if_neg nR3,q01,if_pos rfl])
 have n5R:b5≠bR:=by
  rintro rfl;rw [q01,if_pos rfl] at hb5;cases hb5
 have k5:y01 S b5=none:=by rw [q01,if_neg (Ne.symm n5R),q01,if_neg (Ne.symm n53),q01,if_neg (Ne.symm n52)] at hb5;exact hb5
 have hd:[bR,b2,b3,b5].Nodup:=by
  simp only [List.nodup_cons,lQ,not_or,List.not_mem_nil,or_false,not_false_eq_true,List.nodup_nil,and_true];exact ⟨⟨nR2,nR3,Ne.symm n5R⟩,⟨Ne.symm n23,Ne.symm n52⟩,Ne.symm n53⟩
 have hn:∀ c∈[bR,b2,b3,b5],y01 S c=none:=by
  intro c hc;simp only [lQ,List.not_mem_nil,or_false] at hc;rcases hc with rfl | rfl | rfl | rfl<;>assumption
 (try simp only [rwp,hwR,zA,zB,zC,zD,zE,zF,zG,zH,zI]);have hI0:PrI S bR b2 b3 b5 T .nils ([],rd0) (supd (supd (supd (supd S b2 (.cells 24 [.nils] 1)) b3 (.cells 82 [.int .i64 0,.int .i64 0,.int .i64 0] 3)) bR (rdO T rd0)) b5 (.cells 24 [.nils] 1)):=by
  refine ⟨?_,?_,?_,?_,.nil,fun c _=>q3z,((((Sub.refl S).supd hb2).supd k3).supd kR).supd k5⟩<;>simp [q01,n23,nR2,nR3,n52,n53,n5R,Ne.symm n23,Ne.symm nR2,Ne.symm nR3,Ne.symm n52,Ne.symm n53,Ne.symm n5R]
 have hfin:q2e T T.length ([],rd0)=q2e T T.length ([],rd0):=rfl;have hts:=ts0 (T:=T) hpos;refine LoopP.introS (fun _:List Ty×Rd=>[(2,.ptr b2 0),(3,.ptr b3 0),(4,.ptr bR 0),(5,.ptr b5 0)])
  (fun p S'=>(∃ v,PrI S bR b2 b3 b5 T v p S')/\x2h T p/\q2e T T.length p=q2e T T.length ([],rd0)) (fun p=>T.length-p.2.at') ([],rd0) ⟨⟨.nils,hI0⟩,hts,rfl⟩ rfl ?_
 clear hI0 hts hfin;rintro ⟨l,r⟩ S1 ⟨⟨v,hI⟩,hTs,hf⟩ q hq;have hp:Pre T 12 r:=hTs.pre;have hin:r.at'<T.length:=hp.inr;have hrd:=hI.rd;have hll:=hTs.len;dsimp only at hrd hll;(try simp only [rwp,hwR,zA,zB,zC,zD,zE,zF,zG,zH,zI,x9i]);refine (yw7 hT hp.inr q29).ca hrd ?_;cases hi:isP T q29 r with
 | true=>
  obtain ⟨hp1,hp2,hR,hTs2,hmu⟩:=q8l hT hTs hi;have hf2:q2e T T.length (l++[⟨q2r T (isR T q29 r),(q4c T T.length ([],q0o T (isR T q29 r))).1⟩],(q4c T T.length ([],q0o T (isR T q29 r))).2)=q2e T T.length ([],rd0):=by
   rw [<- hf];obtain ⟨m,hm⟩:∃ m,T.length=m+1:=⟨T.length-1,by omega⟩
   conv=>rhs;rw [hm,q2e,if_pos hi]
   exact y10 hT hTs2 (by dsimp only;omega) (by dsimp only;omega)
  (try simp only [rwp,hwR,zA,zB,zC,zD,zE,zF,zG,zH,zI]);refine (y2c hT hp1.inr).ca q1h ?_;(try simp only [rwp,hwR,zA,zB,zC,zD,zE,zF,zG,zH,zI]);have hI2:=(hI.mv hd kR (isR T q29 r)).mv hd kR (q0o T (isR T q29 r));rw [q1b] at hI2;generalize q2r T (isR T q29 r)=nm at hf2 hTs2 ⊢;have hI2':PrI S bR b2 b3 b5 T v (l,q0o T (isR T q29 r)) (supd S1 bR (rdO T (q0o T (isR T q29 r)))):=hI2;clear hI2;generalize supd S1 bR (rdO T (q0o T (isR T q29 r)))=S2 at hI2' ⊢;generalize q0o T (isR T q29 r)=r2 at hI2' hp2 hR hf2 hTs2 hmu;intro b6 hb6;(try simp only [rwp,hwR,zA,zB,zC,zD,zE,zF,zG,zH,zI]);have hd6:∀ c∈[bR,b2,b3,b5],b6≠c:=by
   intro c hc;simp only [lQ,List.not_mem_nil,or_false] at hc;rcases hc with rfl | rfl | rfl | rfl
   ·exact q0h hb6 hI2'.rd
   ·exact q0h hb6 hI2'.c2
   ·exact q0h hb6 hI2'.c3
   ·exact q0h hb6 hI2'.c5
  have k6:=Sub.none hI2'.sub hb6;have hJ0:PrJ S bR b2 b3 b5 b6 T v .nils nm l ([],r2) (supd S2 b6 (.cells 46 [.str nm,.nils] 2)):=by
   have a6:=hI2'.lst.fresh hb6;refine ⟨⟨?_,?_,?_,?_,hI2'.lst.upd a6 _,hI2'.asd,hI2'.sub.supd k6⟩,by rw [q01,if_pos rfl],.nil,fun c _=>q3z,a6,yii⟩
   ·rw [q01,if_neg (hd6 bR (by simp))];exact hI2'.rd
   ·rw [q01,if_neg (hd6 b2 (by simp))];exact hI2'.c2
   ·rw [q01,if_neg (hd6 b3 (by simp))];exact hI2'.c3
   ·rw [q01,if_neg (hd6 b5 (by simp))];exact hI2'.c5
  have hRs0:ysv T r2 ([],r2):=⟨StepR.refl hp2,Nat.zero_le _,fun x hx=>(by cases hx),fun _ x hx=>(by cases hx)⟩
  refine LoopP.introS (fun _:List Rl×Rd=>[(2,.ptr b2 0),(3,.ptr b3 0),(4,.ptr bR 0),(5,.ptr b5 0),(6,.ptr b6 0)])
   (fun p S'=>(∃ u,PrJ S bR b2 b3 b5 b6 T v u nm l p S')/\ysv T r2 p/\q4c T T.length p=q4c T T.length ([],r2)) (fun p=>T.length-p.2.at') ([],r2) ⟨⟨.nils,hJ0⟩,hRs0,rfl⟩ rfl ?_
  clear hJ0 hRs0 hI2';rintro ⟨rs,r3⟩ S3 ⟨⟨u,hJ⟩,hRs,hfr⟩ q2 hq2;have hp3:=hRs.st.pre hp2;have hin3:r3.at'<T.length:=hp3.inr;have hlr:=hRs.len;dsimp only at hlr;obtain ⟨k1,k2⟩:=y1c hT hp2 hRs;(try simp only [rwp,hwR,zA,zB,zC,zD,zE,zF,zG,zH,zI,x9h]);refine (xfw hT hp3).ca hJ.out.rd ?_;have hJ2:=hJ.mv hd (Ne.symm (hd6 bR (by simp))) kR (y0j T r3).2
  have o6:=objAt_some.2 hJ2.c6;have o5:=objAt_some.2 hJ2.out.c5;cases hok:(y0j T r3).1.2 with
  | true=>
   obtain ⟨k3',k4⟩:=k1 hok;have hfr2:q4c T T.length (rs++[(y0j T r3).1.1],(y0j T r3).2)=q4c T T.length ([],r2):=by
    rw [<- hfr];obtain ⟨m,hm⟩:∃ m,T.length=m+1:=⟨T.length-1,by omega⟩
    conv=>rhs;rw [hm,q4c,if_pos hok]
    exact y3h hT hp2 k3' (by dsimp only;omega) (by dsimp only;omega)
   have hmr:=hJ2.more hd6 k6 (y0j T r3).1.1 (by omega) (K:=fun S4=>rcW q2 [(2,.ptr b2 0),(3,.ptr b3 0),(4,.ptr bR 0),(5,.ptr b5 0),(6,.ptr b6 0)] S4) fun u' S4 hJ4=>q08 rfl (hq2 (rs++[(y0j T r3).1.1],(y0j T r3).2) S4 ⟨⟨u',hJ4⟩,k3',hfr2⟩ (by dsimp only;omega))
   simp only [q0k] at hmr;(try simp only [rwp,hwR,zA,zB,zC,zD,zE,zF,zG,zH,zI,q0k,q07 o6,q1j]);exact hmr
  | false=>
   have hstop:q4c T T.length (rs,r3)=(rs,(y0j T r3).2):=by
    obtain ⟨m,hm⟩:∃ m,T.length=m+1:=⟨T.length-1,by omega⟩
    rw [hm,q4c,if_neg (by rw [hok];simp)]
   rw [hstop] at hfr;rw [<- hfr] at hf2 hTs2 hmu;have hone:=hJ2.ins.one;have htp:=hJ2.typ hd hd6 hn (by omega) (q:=q) (le:=[(2,.ptr b2 0),(3,.ptr b3 0),(4,.ptr bR 0),(5,.ptr b5 0)]) fun v' S4 hI4=>hq (l++[⟨nm,rs⟩],(y0j T r3).2) S4 ⟨⟨v',hI4⟩,hTs2,hf2⟩ (by dsimp only at hmu ⊢;omega)
   dsimp only;(try simp only [rwp,hwR,zA,zB,zC,zD,zE,zF,zG,zH,zI,q0k,q07 o6,q07 o5,q1j]);exact htp
 | false=>
  rw [q9k hi,q0x hrd];have hstop:q2e T T.length (l,r)=(l,r):=by
   cases T.length with
   | zero=>rfl
   | succ m=>rw [q2e,if_neg (by rw [hi];simp)]
  rw [hstop] at hf;have ho:=q8p hrd;(try simp only [rwp,hwR,zA,zB,zC,zD,zE,zF,zG,zH,zI,q07 ho]);have fin:∀ S2,PrI S bR b2 b3 b5 T v (l,y47 T r) S2->ysz (fun ae S'=>ae=.ret (.tup [scA (q7i T).1,(q7i T).2])/\S'=S) (.ptr b2 0) (.ptr b3 0) (.ptr bR 0) (.ptr b5 0) S2:=by
   intro S2 hI2;have hr2:=q8p hI2.rd;have o2:=objAt_some.2 hI2.c2;have o3:=objAt_some.2 hI2.c3;have o5:=objAt_some.2 hI2.c5;have hone:=hI2.lst.one;have hac:q09 v=[v]:=by cases v<;>first | rfl | cases hone
   unfold ysz;(try simp only [rwp,hwR,zA,zB,zC,zD,zE,zF,zG,zH,zI,q07 hr2]);have hpt:q7i T=if (y47 T r).de=0 then (l,.agg [.int .i64 0,.int .i64 0,.int .i64 0]) else ([],.agg [.int .i64 (y47 T r).dl,.int .i64 (y47 T r).dc,.int .i64 (y47 T r).de]):=by
    rw [q7i,<- hf]
   have nR2':b2≠bR:=Ne.symm nR2;have n32:=Ne.symm n23
   (refine q03 (fun hde=>?_) (fun hde=>?_)<;>(try simp only [hlc] at hde))
   ·rw [if_neg hde] at hpt;rw [hpt];(try simp only [rwp,hwR,zA,zB,zC,zD,zE,zF,zG,zH,zI,o2]);refine ybm (by rw [q01,if_neg nR2']) ?_
    have o3':q0m (supd S2 b2 (.cells 24 [.nils] 1)) b3=some (82,[.int .i64 0,.int .i64 0,.int .i64 0],3):=by rw [q0n n32];exact o3
    (try simp only [rwp,hwR,zA,zB,zC,zD,zE,zF,zG,zH,zI,o3',if_neg n32,o3]);refine q5d S (.tup [scA [],.agg [.int .i64 (y47 T r).dl,.int .i64 (y47 T r).dc,.int .i64 (y47 T r).de]]) ((hI2.sub.supd hb2).supd k3) ?_ ⟨rfl,rfl⟩;(try simp only [rwp,hwR,zA,zB,zC,zD,zE,zF,zG,zH,zI,if_neg n23,if_neg n32]);exact .tu (.cons (.ag (.cons (.nils 2) .nil)) (.cons (.same _) .nil))
   ·rw [if_pos hde] at hpt;rw [hpt];have o3':∀ x,q0m (supd S2 b2 (.cells 24 [x] 1)) b3=some (82,[.int .i64 0,.int .i64 0,.int .i64 0],3):=fun x=>by rw [q0n n32];exact o3
    (try simp only [rwp,hwR,zA,zB,zC,zD,zE,zF,zG,zH,zI,q07 o5,o2,hac,o3',y09,hone,Bool.and_true,if_neg n32,o3]);refine q5d S (.tup [scA l,.agg [.int .i64 0,.int .i64 0,.int .i64 0]]) ((hI2.sub.supd hb2).supd k3) ?_ ⟨rfl,rfl⟩;(try simp only [rwp,hwR,zA,zB,zC,zD,zE,zF,zG,zH,zI,if_neg n23,if_neg n32]);have a2:=hI2.asd b2 (by simp)
    have a3:=hI2.asd b3 (by simp)
    exact .tu (.cons (.ag (.cons (Fr.lst ((hI2.lst.upd a2 _).upd a3 _)) .nil)) (.cons (.same _) .nil))
  cases a1:decide (r.de=0) with
  | false=>
   (try simp only [rwp,hwR,zA,zB,zC,zD,zE,zF,zG,zH,zI,yo2]);refine fin S1 ?_;have:y47 T r=r:=by rw [y47,if_neg (fun h=>by rw [decide_eq_true h.1] at a1;cases a1)]
   rw [this];exact hI
  | true=>
   have hde:=of_decide_eq_true a1;(try simp only [rwp,hwR,zA,zB,zC,zD,zE,zF,zG,zH,zI]);refine (q61 hT hp.inr).ca hrd ?_;rw [q0x hrd];(try simp only [rwp,hwR,zA,zB,zC,zD,zE,zF,zG,zH,zI,tkC]);cases a2:decide ((nxP T r).s=⟨#[]⟩) with
   | true=>
    (try simp only [rwp,hwR,zA,zB,zC,zD,zE,zF,zG,zH,zI,yo2]);refine fin S1 ?_;have:y47 T r=r:=by rw [y47,if_neg (fun h=>h.2 (of_decide_eq_true a2))]
    rw [this];exact hI
   | false=>
    (try simp only [rwp,hwR,zA,zB,zC,zD,zE,zF,zG,zH,zI,yo2]);refine (q61 hT hp.inr).ca hrd ?_;rw [q0x hrd];(try simp only [rwp,hwR,zA,zB,zC,zD,zE,zF,zG,zH,zI,tkC]);refine (y4i (nxP T r) 8).ca hrd ?_;have:y47 T r=q5i (nxP T r) 8 r:=by rw [y47,if_pos ⟨hde,of_decide_eq_false a2⟩]
    rw [<- this];exact fin _ (hI.mv hd kR _)
theorem yk2 {s:ByteArray}:OkS (q5e s).1/\(s.size<=900->OkN (q5e s).1):=by
 unfold q5e;split
 ·exact ⟨⟨Nat.zero_le _,fun t ht=>(by cases ht)⟩,fun _ t ht=>(by cases ht)⟩
 ·rename_i h
  have hT:=yjf (s:=s) (by omega)
  have hl:=q7b (f:=s.size+1) (l:=bl s) (a:=1) (b:=1);rw [q63] at hl;obtain ⟨h1,h2⟩:=yk1 hT (yd1 s);refine ⟨h1,fun h t ht r hr=>?_⟩
  have:=h2 t ht r hr;unfold yd2 at this;omega
set_option maxRecDepth 4000
def yj7 (c:Int):List UInt8->Option (List UInt8×List UInt8)
 | []=>none
 | b :: r=>if (b.toNat:Int)=c then some ([],r) else (yj7 c r).map fun p=>(b :: p.1,p.2)
theorem ymj {c:Int} {b:UInt8} {r:List UInt8}:yj7 c (b :: r)=if (b.toNat:Int)=c then some ([],r) else (yj7 c r).map fun p=>(b :: p.1,p.2):=rfl
def y0h (s:ByteArray) (c:Int):ByteArray×ByteArray×Bool:=match yj7 c (bl s) with
 | none=>(s,⟨#[]⟩,false)
 | some (a,b)=>(mkB a,mkB b,true)
theorem yf7 {c:Int}:∀ {l a b:List UInt8},yj7 c l=some (a,b)->a.length<=l.length/\b.length<=l.length
 | [],_,_,h=>by cases h
 | x :: r,a,b,h=>by
  unfold yj7 at h;split at h
  ·cases h;exact ⟨Nat.zero_le _,by simp⟩
  ·cases hq:yj7 c r with
   | none=>rw [hq] at h;cases h
   | some p=>
    rw [hq] at h;cases h;obtain ⟨h1,h2⟩:=yf7 (a:=p.1) (b:=p.2) hq;simp only [lD];omega
theorem yl0 (l:List UInt8):(mkB l).size=l.length:=by simp [mkB,ByteArray.size]
theorem q4i {s:ByteArray} {c:Int}:(y0h s c).1.size<=s.size/\(y0h s c).2.1.size<=s.size:=by
 unfold y0h;cases h:yj7 c (bl s) with
 | none=>exact ⟨Nat.le_refl _,Nat.zero_le _⟩
 | some p=>
  have:=yf7 (a:=p.1) (b:=p.2) h;rw [q63] at this;exact ⟨by rw [yl0];exact this.1,by rw [yl0];exact this.2⟩
theorem yrm {s:ByteArray} (hs:s.size<=1125899906842624) (c:Int):y02 PG yv7 [.str s,.int .u8 c] (.tup [.str (y0h s c).1,.str (y0h s c).2.1,.bool (y0h s c).2.2]):=by
 intro S;refine xeo ?_;unfold xbo;have hln:=q63 s;refine LoopP.introS (fun i:Nat=>[(0,.str s),(1,.int .u8 c),(7,.int .i64 i)]) (fun i S'=>S'=S/\i<=s.size/\yj7 c (bl s)=(yj7 c ((bl s).drop i)).map fun p=>((bl s).take i++p.1,p.2)) (fun i=>s.size-i) 0 ⟨rfl,by omega,by cases h:yj7 c (bl s)<;>simp [h]⟩ rfl ?_
 rintro i S' ⟨rfl,hi,hc⟩ r hr;(try simp only [rwp,zA,zB,zC,zD,zE,zF,zG,zH,zI,rwb,reduceIte,yxo])
 (refine q03 (fun hlt=>?_) (fun hlt=>?_)<;>(try simp only [hlc] at hlt))
 ·obtain ⟨b,hb⟩:=q59 hlt;have hb':=hb;rw [y9o] at hb';rw [q0j hb'] at hc;rw [ymj] at hc;(try simp only [rwp,zA,zB,zC,zD,zE,zF,zG,zH,zI,rwb,reduceIte,hb])
  (refine q03 (fun hq=>?_) (fun hq=>?_)<;>(try simp only [hlc] at hq))
  ·rw [if_pos hq] at hc
   (simp (disch:=omega) only [q04])
   (try simp only [rwp,zA,zB,zC,zD,zE,zF,zG,zH,zI,rwb,reduceIte,loI,hiI,yi4]);refine ⟨by omega,by omega,by omega,by omega,by omega,y7z ⟨?_,rfl⟩⟩
   unfold y0h;rw [hc,q6f,q6f];simp only [Option.map_some,lJ,List.drop_zero];rw [show ((i:Int)+1).toNat=i+1 by omega,lH (by omega:(bl s).length<=s.size)]
  ·rw [if_neg hq] at hc
   (simp (disch:=omega) only [q04])
   refine q08 rfl (hr (i+1) _ ⟨rfl,by omega,?_⟩ (by omega))
   rw [hc,q0w hb'];cases yj7 c ((bl s).drop (i+1))<;>simp
 ·have e:(bl s).drop i=[]:=List.drop_eq_nil_of_le (by omega)
  rw [e] at hc;refine y7z ⟨?_,rfl⟩;unfold y0h;rw [hc];rfl
abbrev nob:ByteArray:=⟨#[]⟩
def ypa (s:ByteArray):Ob×Bool:=if (y0h s 58).2.2&&(q0r (y0h s 58).1&&idB (y0h s 58).2.1) then (⟨(y0h s 58).1,(y0h s 58).2.1⟩,true) else (⟨nob,nob⟩,false)
def yyk (s:ByteArray):Nd×Bool:=if (ypa (y0h s 35).1).2&&(!(y0h s 35).2.2||q0r (y0h s 35).2.1) then (⟨(ypa (y0h s 35).1).1,(y0h s 35).2.1⟩,true) else (⟨⟨nob,nob⟩,nob⟩,false)
def yp5 (s:ByteArray):Tu×Bool:=
 let x:=y0h s 64
 let y:=y0h x.1 35
 let o:=ypa y.1
 let w:=yyk x.2.1
 if x.2.2&&(y.2.2&&(o.2&&(w.2&&q0r y.2.1))) then (⟨o.1,y.2.1,w.1⟩,true) else (⟨⟨nob,nob⟩,nob,⟨⟨nob,nob⟩,nob⟩⟩,false)
theorem ykb {s:ByteArray} (hs:s.size<=1125899906842624):OkO (ypa s).1:=by
 have h:=@q4i s 58;unfold ypa;split
 ·exact ⟨by dsimp only;omega,by dsimp only;omega⟩
 ·exact ⟨Nat.zero_le _,Nat.zero_le _⟩
theorem yyj {s:ByteArray} (hs:s.size<=1125899906842624):OkD (yyk s).1:=by
 have h:=@q4i s 35;unfold yyk;split
 ·exact ⟨ykb (by omega),by dsimp only;omega⟩
 ·exact ⟨⟨Nat.zero_le _,Nat.zero_le _⟩,Nat.zero_le _⟩
theorem yyc {s:ByteArray} (hs:s.size<=1125899906842624):OkU (yp5 s).1:=by
 have h:=@q4i s 64;have h2:=@q4i (y0h s 64).1 35;unfold yp5;dsimp only;split
 ·exact ⟨ykb (by omega),by dsimp only;omega,yyj (by omega)⟩
 ·exact ⟨⟨Nat.zero_le _,Nat.zero_le _⟩,Nat.zero_le _,⟨⟨Nat.zero_le _,Nat.zero_le _⟩,Nat.zero_le _⟩⟩
theorem yfg {s:ByteArray} (hs:s.size<=1125899906842624):y02 PG yv6 [.str s] (.tup [.agg (obC (ypa s).1),.bool (ypa s).2]):=by
 intro S;refine xen ?_;unfold xbn;intro b hb;have hl:=@q4i s 58;refine q05 (yrm hs 58) ?_;(try simp only [rwp,zA,zB,zC,zD,zE,zF,zG,zH,zI,rwb,reduceIte]);refine q05 (q0y (by omega)) ?_
 refine q05 (y4g (by omega)) ?_
 unfold ypa;cases h1:(y0h s 58).2.2<;>cases h2:q0r (y0h s 58).1<;>cases h3:idB (y0h s 58).2.1<;>(try simp only [rwp,zA,zB,zC,zD,zE,zF,zG,zH,zI,rwb,reduceIte,yp0,yoz])<;>refine q18 S (Sub.supd hb (Sub.refl _)) ?_<;>(try simp only [rwp,zA,zB,zC,zD,zE,zF,zG,zH,zI,rwb,reduceIte,obC])<;>simp
theorem ymy {s:ByteArray} (hs:s.size<=1125899906842624):y02 PG yv5 [.str s] (.tup [.agg (ndC (yyk s).1),.bool (yyk s).2]):=by
 intro S;refine xem ?_;unfold xbm;intro b hb;have hl:=@q4i s 35;refine q05 (yrm hs 35) ?_;(try simp only [rwp,zA,zB,zC,zD,zE,zF,zG,zH,zI,rwb,reduceIte]);have q:=yfg (s:=(y0h s 35).1) (by omega)
 simp only [obC] at q;refine q05 q ?_;(try simp only [rwp,zA,zB,zC,zD,zE,zF,zG,zH,zI,rwb,reduceIte]);refine q05 (q0y (by omega)) ?_
 unfold yyk;cases h1:(ypa (y0h s 35).1).2<;>cases h2:(y0h s 35).2.2<;>cases h3:q0r (y0h s 35).2.1<;>(try simp only [rwp,zA,zB,zC,zD,zE,zF,zG,zH,zI,rwb,reduceIte,yoy,yox,yow])<;>refine q18 S (Sub.supd hb (Sub.refl _)) ?_<;>(try simp only [rwp,zA,zB,zC,zD,zE,zF,zG,zH,zI,rwb,reduceIte,ndC])<;>simp
theorem x1i {s:ByteArray} (hs:s.size<=1125899906842624):y02 PG x59 [.str s] (.tup [.agg (tuC (yp5 s).1),.bool (yp5 s).2]):=by
 intro S;refine xie ?_;unfold xgq;intro b hb;have hl:=@q4i s 64;have hl2:=@q4i (y0h s 64).1 35;refine q05 (yrm hs 64) ?_;(try simp only [rwp,zA,zB,zC,zD,zE,zF,zG,zH,zI,rwb,reduceIte]);refine q05 (yrm (by omega) 35) ?_
 (try simp only [rwp,zA,zB,zC,zD,zE,zF,zG,zH,zI,rwb,reduceIte]);have q:=yfg (s:=(y0h (y0h s 64).1 35).1) (by omega)
 simp only [obC] at q;refine q05 q ?_;(try simp only [rwp,zA,zB,zC,zD,zE,zF,zG,zH,zI,rwb,reduceIte]);have q2:=ymy (s:=(y0h s 64).2.1) (by omega)
 simp only [ndC] at q2;refine q05 q2 ?_;(try simp only [rwp,zA,zB,zC,zD,zE,zF,zG,zH,zI,rwb,reduceIte]);refine q05 (q0y (by omega)) ?_
 unfold yp5;dsimp only;cases h1:(y0h s 64).2.2<;>cases h2:(y0h (y0h s 64).1 35).2.2<;>cases h3:(ypa (y0h (y0h s 64).1 35).1).2<;>cases h4:(yyk (y0h s 64).2.1).2<;>cases h5:q0r (y0h (y0h s 64).1 35).2.1<;>(try simp only [rwp,zA,zB,zC,zD,zE,zF,zG,zH,zI,rwb,reduceIte,x2s,x2r,x2q,x2p])<;>refine q18 S (Sub.supd hb (Sub.refl _)) ?_<;>(try simp only [rwp,zA,zB,zC,zD,zE,zF,zG,zH,zI,rwb,reduceIte,tuC])<;>simp
theorem yrn {l:List ByteArray} (hl:l.length<=1000000) (hs:∀ s∈l,s.size<=1125899906842624):y02 PG x60 [.sl 1 (l.map fun s=>[.str s])] (.sl 6 ((l.map fun s=>(yp5 s).1).map tuC)):=by
 intro S;refine xjb ?_;unfold xhn;refine LoopP.intro (fun x:Nat×AV×q00=>[(0,.sl 1 (l.map fun s=>[.str s])),(3,x.2.1),(4,.int .i64 x.1)]) (fun x=>x.2.2) (fun x=>x.1<=l.length/\Sub S x.2.2/\LstN S x.2.2 y7b 6 x.2.1 (((l.take x.1).map fun s=>(yp5 s).1).map tuC)) (fun x=>l.length-x.1) (0,.nils,S) ⟨by omega,Sub.refl _,LstN.nil⟩ rfl (Sub.refl S) ?_
 rintro ⟨i,v,S'⟩ ⟨hi,hsu,hL⟩ r hr;dsimp only at hi hsu hL ⊢;(try simp only [rwp,zA,zB,zC,zD,zE,zF,zG,zH,zI,rwb,reduceIte,x9g,lB])
 (refine q03 (fun hlt=>?_) (fun hlt=>?_)<;>(try simp only [hlc] at hlt))
 ·obtain ⟨s,hg⟩:=q0e hlt;(try simp only [rwp,zA,zB,zC,zD,zE,zF,zG,zH,zI,rwb,reduceIte,lC,hg]);have q:=x1i (hs s (lA hg));simp only [tuC] at q;refine q05 q ?_;(try simp only [rwp,zA,zB,zC,zD,zE,zF,zG,zH,zI,rwb,reduceIte]);have e:((l.take i).map fun s=>(yp5 s).1).length<=1000000:=by rw [lB,List.length_take];omega
  refine hL.tu (t:=(yp5 s).1) hsu e fun v' S2 h1 h2=>?_
  (simp (disch:=omega) only [q04])
  refine q08 rfl (hr (i+1,v',S2) ⟨by dsimp only;omega,h1,?_⟩ (by dsimp only;omega))
  dsimp only;rw [q0w hg,lE];exact h2
 ·have e:l.take i=l:=lH (by omega)
  rw [e] at hL;exact q42 hsu hL ⟨rfl,rfl⟩
set_option maxRecDepth 20000
def xg1:ByteArray:=⟨#[117,115,101,114]⟩
def b1':ByteArray:=⟨#[49]⟩
def bA:ByteArray:=⟨#[97]⟩
def oA:Ob:=⟨xg1,bA⟩
set_option maxRecDepth 20000
def xg2:ByteArray:=⟨#[100,111,99]⟩
def x8f:ByteArray:=⟨#[111,119,110,101,114]⟩
def xg3:ByteArray:=⟨#[99,97,110]⟩
def tu1:ByteArray:=⟨#[100,111,99,58,49,35,111,119,110,101,114,64,117,115,101,114,58,97]⟩
def x4z:Ob:=⟨xg2,b1'⟩
def xgd:Nd:=⟨x4z,xg3⟩
set_option maxRecDepth 4000
theorem yjo {s:List Ty} {l:List Tu} (h:y7o s l=true) (hl:∀ t∈l,OkU t):OkN s/\OkL l/\l.length<=30:=by
 unfold y7o at h;rw [Bool.and_eq_true,decide_eq_true_eq] at h;exact ⟨xfr h.1 (by decide),⟨by omega,hl⟩,by omega⟩
set_option maxRecDepth 4000
def q35 (L:List Tu):List Ob:=(L.filter fun t=>decide (t.s.rl=⟨#[]⟩)).map fun t=>t.s.o
theorem y1f {L:List Tu} {i:Nat} {t:Tu} (h:L[i]?=some t):q35 (L.take (i+1))=q35 (L.take i)++if decide (t.s.rl=⟨#[]⟩)=true then [t.s.o] else []:=by
 unfold q35;rw [q1y h,lE]
 congr 1
 cases decide (t.s.rl=⟨#[]⟩)<;>rfl
theorem q67 {L:List Tu}:(q35 L).length<=L.length:=by
 unfold q35;rw [lB];exact lK _ _
theorem x1j {L:List Tu} (hL:L.length<=1000):y02 PG x5p [.sl 6 (L.map tuC)] (.sl 2 ((y0l ltO (q35 L)).map obC)):=by
 intro S;refine xj0 ?_;unfold xhc;refine LoopP.introS (fun x:Nat×AV=>[(0,.sl 6 (L.map tuC)),(3,x.2),(4,.int .i64 x.1)]) (fun x S'=>x.1<=L.length/\Sub S S'/\LstW S S' y0c 2 x.2 ((q35 (L.take x.1)).map obC)) (fun x=>L.length-x.1) (0,.nils)
  ⟨by dsimp only;omega,Sub.refl _,LstW.nil⟩ rfl ?_
 rintro ⟨i,ov⟩ S1 ⟨hi,s1,o1⟩ kk hkk;dsimp only at hi o1 ⊢;(try simp only [rwp,zA,zB,zC,zD,zE,zF,zG,zH,zI,rwb,reduceIte,x97,lB]);cases a1:decide ((i:Int)<L.length)
 ·have e:i=L.length:=by have:=of_decide_eq_false a1;omega
  subst e;rw [lU] at o1;(try simp only [rwp,zA,zB,zC,zD,zE,zF,zG,zH,zI,rwb,reduceIte]);have q:=yff (M:=q35 L) (Nat.le_trans q67 hL) S;refine q0c (ACalls.frz (FrS.sub s1) (.cons (Fr.lst14 o1) .nil) q) ?_;rintro ae S2 ⟨rfl,rfl⟩;dsimp only;exact q02 ⟨rfl,rfl⟩
 ·have hlt:=of_decide_eq_true a1;obtain ⟨t,ht⟩:=q0e hlt;have hot:=y1f ht;have:=@q67 (L.take i);have:=List.length_take_le i L;(try simp only [rwp,zA,zB,zC,zD,zE,zF,zG,zH,zI,rwb,reduceIte,lC,ht,tuC]);cases a2:decide (t.s.rl=⟨#[]⟩)
  ·rw [a2] at hot;(try simp only [rwp,zA,zB,zC,zD,zE,zF,zG,zH,zI,rwb,reduceIte]);(try (simp (disch:=omega) only [q04]));rw [show (i:Int)+1=((i+1:Nat):Int) by omega]
   exact q08 rfl (hkk (i+1,ov) _ ⟨by dsimp only;omega,s1,by dsimp only;rw [hot];simpa using o1⟩ (by dsimp only;omega))
  ·rw [a2] at hot;(try simp only [rwp,zA,zB,zC,zD,zE,zF,zG,zH,zI,rwb,reduceIte,lC,ht,tuC]);refine LstW.appL s1 o1 (xs:=[obC t.s.o]) y2j (fun r hr=>by rw [List.mem_singleton.1 hr];rfl) (q1u fun r hr=>by rw [List.mem_singleton.1 hr];rfl) (by simp only [lB,lM];omega) fun v' S4 s4 o4 j4=>?_
   (try (simp (disch:=omega) only [q04]));rw [show (i:Int)+1=((i+1:Nat):Int) by omega]
   exact q08 rfl (hkk (i+1,v') _ ⟨by dsimp only;omega,s4,by dsimp only;rw [hot];simpa using o4⟩ (by dsimp only;omega))
theorem y4j {s:List Ty} (hs:OkS s) (hN:OkN s) {l:List Tu} (hl:OkL l) (hn:l.length<=500) (n:Nd) (who:Ob) :
  y02 PG x01 [scA s,.sl 6 (l.map tuC),.agg (obC n.o),.str n.rl,.agg (obC who)] (.bool (decide (y0a (y06 s)=0)&&inB (y07 s l who) n)):=by
 intro S;refine (ymz hs hN hl hn n who S).mono ?_;rintro ae S' ⟨b,rfl,rfl,h0,hM⟩;refine ⟨?_,rfl⟩;by_cases hk:y0a (y06 s)=0
 ·obtain ⟨K,hK,hb⟩:=hM hk;rw [decide_eq_true hk,Bool.true_and,hb,yvy (y90 s l who) hk hK]
 ·rw [decide_eq_false hk,Bool.false_and,h0 hk]
theorem y20 {α:Type} {p:α->Bool} {l:List α} {i:Nat} {x:α} (h:l[i]?=some x):(l.take (i+1)).filter p=(l.take i).filter p++if p x=true then [x] else []:=q1y h
theorem yck {s:List Ty} (hs:OkS s) (hN:OkN s) {l:List Tu} (hl:OkL l) (hn:l.length<=500) (n:Nd) :
  y02 PG x6d [scA s,.sl 6 (l.map tuC),.agg (obC n.o),.str n.rl] (.sl 2 ((yqp s l n).map obC)):=by
 intro S;refine xjp ?_;unfold xi0;have q1:=q4p hs hl;have cn:(q0a s l).length<=500:=Nat.le_trans (lK _ _) hn;have q2:=x1j (L:=q0a s l) (by omega)
 obtain ⟨p1,p2,p3⟩:=q2b stO (q35 (q0a s l)) _ rfl;have hPl:(y0l ltO (q35 (q0a s l))).length<=500:=Nat.le_trans p3 (Nat.le_trans q67 cn);have hm:yqp s l n=(y0l ltO (q35 (q0a s l))).filter fun x=>decide (y0a (y06 s)=0)&&inB (y07 s l x) n:=by
  unfold yqp;by_cases hk:y0a (y06 s)=0
  ·rw [if_pos hk,decide_eq_true hk];obtain ⟨k1,k2,-⟩:=q2b stO (ytc s l (q0a s l) n) _ rfl;refine Asc.uniq stO k1 (List.Pairwise.filter _ p1) fun x=>?_
   rw [k2,lT,p2];unfold ytc q35;simp only [List.mem_map,lT,Bool.and_eq_true,Bool.true_and];constructor
   ·rintro ⟨t,⟨h1,h2,h3⟩,rfl⟩;exact ⟨⟨t,⟨h1,h2⟩,rfl⟩,h3⟩
   ·rintro ⟨⟨t,⟨h1,h2⟩,rfl⟩,h3⟩;exact ⟨t,⟨h1,h2,h3⟩,rfl⟩
  ·rw [if_neg hk,decide_eq_false hk];simp
 rw [hm];generalize y0l ltO (q35 (q0a s l))=P at q2 hPl;simp only [scA] at q1;(try simp only [rwp,zA,zB,zC,zD,zE,zF,zG,zH,zI,rwb,reduceIte,scA,obC]);refine q05 q1 ?_;refine q05 q2 ?_;generalize hp:(fun x=>decide (y0a (y06 s)=0)&&inB (y07 s l x) n)=p
 refine LoopP.introS (fun x:Nat×AV=>[(1,.sl 6 (l.map tuC)),(3,.str n.rl),(4,.rop [.sl 2 (s.map tyC)]),(6,.rop [.str n.o.ty,.str n.o.id]),(9,x.2),(10,.sl 2 (P.map obC)),(11,.int .i64 x.1)])
  (fun x S'=>x.1<=P.length/\Sub S S'/\LstW S S' y0c 2 x.2 (((P.take x.1).filter p).map obC)) (fun x=>P.length-x.1) (0,.nils) ⟨by dsimp only;omega,Sub.refl _,LstW.nil⟩ rfl ?_
 rintro ⟨i,ov⟩ S1 ⟨hi,s1,o1⟩ kk hkk;dsimp only at hi o1 ⊢;(try simp only [rwp,zA,zB,zC,zD,zE,zF,zG,zH,zI,rwb,reduceIte,x9p,lB]);cases a1:decide ((i:Int)<P.length)
 ·have e:i=P.length:=by have:=of_decide_eq_false a1;omega
  subst e;rw [lU] at o1;(try simp only [rwp,zA,zB,zC,zD,zE,zF,zG,zH,zI,rwb,reduceIte]);exact q5d S _ s1 (Fr.lst14 o1) ⟨rfl,rfl⟩
 ·have hlt:=of_decide_eq_true a1;obtain ⟨x,hx⟩:=q0e hlt;have hot:=y20 (p:=p) hx;have hfl:=lK p (P.take i);have:=List.length_take_le i P;have q3:=y4j hs hN hl hn n x;simp only [scA,obC] at q3;rw [show (decide (y0a (y06 s)=0)&&inB (y07 s l x) n)=p x by rw [<- hp]] at q3
  (try simp only [rwp,zA,zB,zC,zD,zE,zF,zG,zH,zI,rwb,reduceIte,lC,hx,obC]);refine q05 q3 ?_;cases a2:p x
  ·rw [a2] at hot;(try simp only [rwp,zA,zB,zC,zD,zE,zF,zG,zH,zI,rwb,reduceIte]);(try (simp (disch:=omega) only [q04]));rw [show (i:Int)+1=((i+1:Nat):Int) by omega]
   exact q08 rfl (hkk (i+1,ov) _ ⟨by dsimp only;omega,s1,by dsimp only;rw [hot];simpa using o1⟩ (by dsimp only;omega))
  ·rw [a2] at hot;(try simp only [rwp,zA,zB,zC,zD,zE,zF,zG,zH,zI,rwb,reduceIte,lC,hx,obC]);refine LstW.appL s1 o1 (xs:=[obC x]) y2j (fun r hr=>by rw [List.mem_singleton.1 hr];rfl) (q1u fun r hr=>by rw [List.mem_singleton.1 hr];rfl) (by simp only [lB,lM];omega) fun v' S4 s4 o4 j4=>?_
   (try (simp (disch:=omega) only [q04]));rw [show (i:Int)+1=((i+1:Nat):Int) by omega]
   exact q08 rfl (hkk (i+1,v') _ ⟨by dsimp only;omega,s4,by dsimp only;rw [hot];simpa using o4⟩ (by dsimp only;omega))
theorem yqo {s:List Ty} {l:List Tu} {n:Nd}:(yqp s l n).length<=l.length:=by
 unfold yqp;split
 ·obtain ⟨-,-,h⟩:=q2b stO (ytc s l (q0a s l) n) _ rfl;exact Nat.le_trans h (Nat.le_trans yq4 (lK _ _))
 ·exact Nat.zero_le _
set_option maxRecDepth 4000
theorem KO.put {S:q00} {b clk:Nat} {E:List (Ob×Nat)} (h:KO S b E clk) (o:Ob) {K:q00->Prop}
  (hK:∀ S' E' clk',KO S' b E' clk'->(∀ x,x∈E'.map (·.1)↔x∈E.map (·.1)\/x=o)->E'.length<=E.length+1->(∀ c,c≠b->y01 S' c=y01 S c)->K S'):muW S MO2 (.map (some b)) (.agg (obC o)) (.bool true) K:=by
 have hok:∀ x:Ob,q0u MO2 (.agg (obC x))=true:=fun x=>ke_ob.ok x
 rw [y1k,mapObj_some.2 h.map,q7n];refine ⟨rfl,hok o,?_⟩;have oth:∀ (y:AObj) c,c≠b->y01 (supd S b y) c=y01 S c:=fun y c hc=>by rw [q01,if_neg (Ne.symm hc)]
 unfold y0m;cases hf:q16 (enO E) (.agg (obC o)) with
 | none=>
  dsimp only;have hno:o ∉ E.map (·.1):=by
   intro hm;obtain ⟨p,hp,rfl⟩:=List.mem_map.1 hm;have key:∀ {L:List (Ob×Nat)},p∈L->q16 (enO L) (.agg (obC p.1))≠none:=by
    intro L
    induction L with
    | nil=>intro h;cases h
    | cons q r ih=>
     intro hq;unfold enO;simp only [lP,q16];rcases List.mem_cons.1 hq with e | hq
     ·rw [<- e,if_pos (q3w (hok p.1))];simp
     ·split
      ·simp
      ·intro h;rw [Option.map_eq_none_iff] at h;exact ih hq h
   exact key hp hf
  refine hK _ (E++[(o,clk)]) (clk+1) ⟨by rw [q01,if_pos rfl];unfold enO;rw [lE];rfl,fun p hp=>?_,?_,?_⟩ (fun x=>by rw [lE,List.mem_append];simp) (by simp) (oth _)
  ·rcases List.mem_append.1 hp with hp | hp
   ·exact Nat.lt_succ_of_lt (h.lt p hp)
   ·rw [List.mem_singleton.1 hp];exact Nat.lt_succ_self _
  ·rw [lE,List.nodup_append];refine ⟨h.nd,by simp,fun a ha c hc=>?_⟩
   obtain ⟨p,hp,rfl⟩:=List.mem_map.1 ha;have:=h.lt p hp;simp only [lP,List.map_nil,lS] at hc;omega
  ·rw [lE,List.nodup_append];refine ⟨h.ku,by simp,fun a ha c hc=>?_⟩
   simp only [lP,List.map_nil,lS] at hc;rw [hc];rintro rfl;exact hno ha
 | some q=>
  obtain ⟨i,v,bn⟩:=q;dsimp only;obtain ⟨kk,h1,h2⟩:=q4u hf;have hi:∃ p,E[i]?=some p/\kk=.agg (obC p.1)/\v=.bool true/\bn=p.2:=by
   unfold enO at h1;rw [lC] at h1;cases hE:E[i]? with
   | none=>rw [hE] at h1;cases h1
   | some p=>rw [hE] at h1;simp at h1;exact ⟨p,rfl,h1.1.symm,h1.2.1.symm,h1.2.2.symm⟩
  obtain ⟨p,hp,rfl,rfl,rfl⟩:=hi;have ho:o=p.1:=ke_ob.inj _ _ ((q44 (hok o) (hok p.1)).1 h2);subst ho;have e:(enO E).set i (.agg (obC p.1),.bool true,p.2)=enO E:=by
   refine List.ext_getElem? fun j=>?_
   rw [lV];split
   ·rename_i hj
    subst hj;rw [h1];have:=(List.getElem?_eq_some_iff.1 h1).1;simp [this]
   ·rfl
  rw [e];refine hK _ E clk ⟨by rw [q01,if_pos rfl],h.lt,h.nd,h.ku⟩ (fun x=>⟨.inl,fun h=>h.elim id fun e=>?_⟩) (Nat.le_succ _) (oth _)
  rw [e];exact List.mem_map.2 ⟨p,lA hp,rfl⟩
def yzt (typ:ByteArray) (t:Tu):List Ob:=(if t.o.ty=typ then [t.o] else [])++if t.s.o.ty=typ then [t.s.o] else []
def ybg (L:List Tu) (typ:ByteArray):List Ob:=L.flatMap (yzt typ)
def yjh (L:List Tu) (typ:ByteArray):List Ob:=y0l ltO (ybg L typ)
theorem y8e {L:List Tu} {typ:ByteArray} {i:Nat} {t:Tu} (h:L[i]?=some t):ybg (L.take (i+1)) typ=ybg (L.take i) typ++yzt typ t:=by
 unfold ybg;rw [q0w h,List.flatMap_append];simp
theorem yqf {typ:ByteArray} {t:Tu}:(yzt typ t).length<=2:=by
 unfold yzt;split<;>split<;>simp
theorem qa7 {typ:ByteArray}:∀ {L:List Tu},(ybg L typ).length<=2 * L.length
 | []=>by simp [ybg]
 | t :: r=>by
  have h1:=@qa7 typ r;have h2:=@yqf typ t;unfold ybg at h1 ⊢;rw [List.flatMap_cons,lG,lD];omega
theorem yd3 {M M':List Ob} (h:∀ x,x∈M↔x∈M'):y0l ltO M=y0l ltO M':=by
 obtain ⟨k1,k2,-⟩:=q2b stO M _ rfl;obtain ⟨k3,k4,-⟩:=q2b stO M' _ rfl;exact Asc.uniq stO k1 k3 fun x=>by rw [k2,k4,h]
theorem ymv {L:List Tu} (hL:L.length<=127) (typ:ByteArray):y02 PG x67 [.sl 6 (L.map tuC),.str typ] (.sl 2 ((yjh L typ).map obC)):=by
 intro S;refine xjj ?_;unfold xhu;(try simp only [rwp,zA,zB,zC,zD,zE,zF,zG,zH,zI,rwb,reduceIte,lB]);intro b hb;(try simp only [rwp,zA,zB,zC,zD,zE,zF,zG,zH,zI,rwb,reduceIte,lB]);refine LoopP.introS (fun i:Nat=>[(1,.str typ),(5,.map (some b)),(11,.sl 6 (L.map tuC)),(12,.int .i64 L.length),(13,.int .i64 i)])
  (fun i S'=>i<=L.length/\(∃ E clk,KO S' b E clk/\E.length<=2 * i/\∀ x,x∈E.map (·.1)↔x∈ybg (L.take i) typ)/\∀ c,c≠b->y01 S' c=y01 S c) (fun i=>L.length-i) 0
  ⟨by omega,⟨[],0,⟨by rw [q01,if_pos rfl];rfl,fun p hp=>(by cases hp),List.nodup_nil,List.nodup_nil⟩,Nat.zero_le _,fun x=>by simp [ybg]⟩,fun c hc=>by rw [q01,if_neg (Ne.symm hc)]⟩ rfl ?_
 rintro i S2 ⟨hi,⟨E,clk,h1,h2,h3⟩,h4⟩ kk hkk;(try simp only [rwp,zA,zB,zC,zD,zE,zF,zG,zH,zI,rwb,reduceIte,x9n]);cases a1:decide ((i:Int)<L.length)
 ·have e:i=L.length:=by have:=of_decide_eq_false a1;omega
  subst e;rw [lU] at h3;(try simp only [rwp,zA,zB,zC,zD,zE,zF,zG,zH,zI,rwb,reduceIte]);refine q0c (yfc h1 (by omega)) ?_
  rintro ae S3 ⟨rfl,rfl⟩;dsimp only;refine q8o (S':=S) (fun c o hc=>?_) ⟨?_,rfl⟩
  ·rw [h4 c (Ne.symm (q0h hb hc))];exact hc
  ·unfold yjh;rw [yd3 h3]
 ·have hlt:=of_decide_eq_true a1;obtain ⟨t,ht⟩:=q0e hlt;(try simp only [rwp,zA,zB,zC,zD,zE,zF,zG,zH,zI,rwb,reduceIte,lC,ht,tuC]);refine LoopP.introS (fun j:Nat=>[(1,.str typ),(5,.map (some b)),(11,.sl 6 (L.map tuC)),(12,.int .i64 L.length),(13,.int .i64 i),(22,.agg [.str t.o.ty,.str t.o.id,.str t.s.o.ty,.str t.s.o.id]),(23,.int .i64 j)])
   (fun j S'=>j<=2/\(∃ E clk,KO S' b E clk/\E.length<=2 * i+j/\∀ x,x∈E.map (·.1)↔x∈ybg (L.take i) typ\/(0<j/\t.o.ty=typ/\x=t.o)\/(1<j/\t.s.o.ty=typ/\x=t.s.o))/\∀ c,c≠b->y01 S' c=y01 S c) (fun j=>2-j) 0
   ⟨by omega,⟨E,clk,h1,h2,fun x=>by rw [h3];simp⟩,h4⟩ rfl ?_
  rintro j S3 ⟨hj,⟨E3,clk3,g1,g2,g3⟩,g4⟩ k2 hk2;(try simp only [rwp,zA,zB,zC,zD,zE,zF,zG,zH,zI,rwb,reduceIte,x9m]);cases a2:decide ((j:Int)<2)
  ·have e:j=2:=by have:=of_decide_eq_false a2;omega
   subst e;(try simp only [rwp,zA,zB,zC,zD,zE,zF,zG,zH,zI,rwb,reduceIte])
   (simp (disch:=omega) only [q04])
   refine q08 rfl (hkk (i+1) S3 ⟨by omega,⟨E3,clk3,g1,by omega,fun x=>?_⟩,g4⟩ (by omega))
   rw [g3,y8e ht,List.mem_append];unfold yzt;rw [List.mem_append];simp only [Nat.zero_lt_succ,Nat.lt_add_one,true_and];have e1:x∈(if t.o.ty=typ then [t.o] else [])↔t.o.ty=typ/\x=t.o:=by
    split
    ·rename_i h;simp [h]
    ·rename_i h;simp [h]
   have e2:x∈(if t.s.o.ty=typ then [t.s.o] else [])↔t.s.o.ty=typ/\x=t.s.o:=by
    split
    ·rename_i h;simp [h]
    ·rename_i h;simp [h]
   rw [e1,e2]
  ·have hj2:=of_decide_eq_true a2;have step:∀ (o:Ob),(j=0->o=t.o)->(j=1->o=t.s.o)->o.ty=typ->muW S3 MO2 (.map (some b)) (.agg (obC o)) (.bool true) fun S=>rcW k2 [(1,.str typ),(5,.map (some b)),(11,.sl 6 (L.map tuC)),(12,.int .i64 L.length),(13,.int .i64 i),(22,.agg [.str t.o.ty,.str t.o.id,.str t.s.o.ty,.str t.s.o.id]),(23,.int .i64 (IntKind.i64.wrap ((j:Int)+1)))] S:=by
    intro o u1 u2 u3;refine g1.put o fun S' E' clk' v1 v2 v3 v4=>?_
    (simp (disch:=omega) only [q04])
    refine q08 rfl (hk2 (j+1) S' ⟨by omega,⟨E',clk',v1,by omega,fun x=>?_⟩,fun c hc=>(v4 c hc).trans (g4 c hc)⟩ (by omega))
    rw [v2,g3];have h01:j=0\/j=1:=by omega
    rcases h01 with e | e
    ·subst e;have:=u1 rfl;subst this;simp [u3]
    ·subst e;have:=u2 rfl;subst this;simp [u3,or_assoc]
   have skip:(j=0->¬ t.o.ty=typ)->(j=1->¬ t.s.o.ty=typ)->rcW k2 [(1,.str typ),(5,.map (some b)),(11,.sl 6 (L.map tuC)),(12,.int .i64 L.length),(13,.int .i64 i),(22,.agg [.str t.o.ty,.str t.o.id,.str t.s.o.ty,.str t.s.o.id]),(23,.int .i64 (IntKind.i64.wrap ((j:Int)+1)))] S3:=by
    intro u1 u2
    (simp (disch:=omega) only [q04])
    refine q08 rfl (hk2 (j+1) S3 ⟨by omega,⟨E3,clk3,g1,by omega,fun x=>?_⟩,g4⟩ (by omega))
    rw [g3];have h01:j=0\/j=1:=by omega
    rcases h01 with e | e
    ·subst e;simp [u1 rfl]
    ·subst e;simp [u2 rfl]
   have h01:j=0\/j=1:=by omega
   rcases h01 with e | e
   ·subst e;(try simp only [rwp,zA,zB,zC,zD,zE,zF,zG,zH,zI,rwb,reduceIte]);have e0:yhp 2 2 true (.agg [.str t.o.ty,.str t.o.id,.str t.s.o.ty,.str t.s.o.id]) (.int .i64 ((0:Nat):Int))=some (.agg (obC t.o)):=by simp [yhp,mkA,obC]
    unfold ixW;rw [e0];refine (show ∀ {x:AV} {K:AV->Prop},K x->q0p (some x) K from fun h=>h) ?_
    (try simp only [rwp,zA,zB,zC,zD,zE,zF,zG,zH,zI,rwb,reduceIte,obC]);cases a3:decide (t.o.ty=typ)
    ·(try simp only [rwp,zA,zB,zC,zD,zE,zF,zG,zH,zI,rwb,reduceIte]);exact skip (fun _=>of_decide_eq_false a3) (fun h=>by cases h)
    ·(try simp only [rwp,zA,zB,zC,zD,zE,zF,zG,zH,zI,rwb,reduceIte]);exact step t.o (fun _=>rfl) (fun h=>by cases h) (of_decide_eq_true a3)
   ·subst e;(try simp only [rwp,zA,zB,zC,zD,zE,zF,zG,zH,zI,rwb,reduceIte]);have e0:yhp 2 2 true (.agg [.str t.o.ty,.str t.o.id,.str t.s.o.ty,.str t.s.o.id]) (.int .i64 ((1:Nat):Int))=some (.agg (obC t.s.o)):=by simp [yhp,mkA,obC]
    unfold ixW;rw [e0];refine (show ∀ {x:AV} {K:AV->Prop},K x->q0p (some x) K from fun h=>h) ?_
    (try simp only [rwp,zA,zB,zC,zD,zE,zF,zG,zH,zI,rwb,reduceIte,obC]);cases a3:decide (t.s.o.ty=typ)
    ·(try simp only [rwp,zA,zB,zC,zD,zE,zF,zG,zH,zI,rwb,reduceIte]);exact skip (fun h=>by cases h) (fun _=>of_decide_eq_false a3)
    ·(try simp only [rwp,zA,zB,zC,zD,zE,zF,zG,zH,zI,rwb,reduceIte]);exact step t.s.o (fun h=>by cases h) (fun _=>rfl) (of_decide_eq_true a3)
theorem ymr {L:List Tu} (hL:L.length<=127) (typ:ByteArray):y02 PG x66 [.sl 6 (L.map tuC),.str typ] (.sl 2 ((yjh L typ).map obC)):=by
 intro S;refine xji ?_;unfold xht;refine LoopP.introS (fun x:Nat×AV=>[(0,.sl 6 (L.map tuC)),(1,.str typ),(5,x.2),(6,.int .i64 x.1)]) (fun x S'=>x.1<=L.length/\Sub S S'/\LstW S S' y0c 2 x.2 ((ybg (L.take x.1) typ).map obC)) (fun x=>L.length-x.1) (0,.nils)
  ⟨by dsimp only;omega,Sub.refl _,LstW.nil⟩ rfl ?_
 rintro ⟨i,ov⟩ S1 ⟨hi,s1,o1⟩ kk hkk;dsimp only at hi o1 ⊢;(try simp only [rwp,zA,zB,zC,zD,zE,zF,zG,zH,zI,rwb,reduceIte,x9l,lB]);cases a1:decide ((i:Int)<L.length)
 ·have e:i=L.length:=by have:=of_decide_eq_false a1;omega
  subst e;rw [lU] at o1;(try simp only [rwp,zA,zB,zC,zD,zE,zF,zG,zH,zI,rwb,reduceIte]);have hln:=@qa7 typ L;have q:=yff (M:=ybg L typ) (by omega) S
  refine q0c (ACalls.frz (FrS.sub s1) (.cons (Fr.lst14 o1) .nil) q) ?_;rintro ae S2 ⟨rfl,rfl⟩;dsimp only;exact q02 ⟨rfl,rfl⟩
 ·have hlt:=of_decide_eq_true a1;obtain ⟨t,ht⟩:=q0e hlt;have hot:=y8e (typ:=typ) ht;have hln:=@qa7 typ (L.take i);have:=List.length_take_le i L;have second:∀ (M:List Ob) (v:AV) (S2:q00),Sub S S2->LstW S S2 y0c 2 v (M.map obC)->M.length<=2 * i+1->M=ybg (L.take i) typ++(if t.o.ty=typ then [t.o] else [])->yt0 (fun ae S'=>ae=AEnd.ret (.sl 2 ((yjh L typ).map obC))/\S'=S) kk (.sl 6 (L.map tuC)) (.str typ) v (.int .i64 i) S2:=by
   intro M v S2 s2 o2 hm hM;(try simp only [rwp,zA,zB,zC,zD,zE,zF,zG,zH,zI,rwb,reduceIte,yt0,lC,ht,tuC]);cases a3:decide (t.s.o.ty=typ)
   ·(try simp only [rwp,zA,zB,zC,zD,zE,zF,zG,zH,zI,rwb,reduceIte]);(try (simp (disch:=omega) only [q04]));rw [show (i:Int)+1=((i+1:Nat):Int) by omega]
    refine q08 rfl (hkk (i+1,v) _ ⟨by dsimp only;omega,s2,?_⟩ (by dsimp only;omega))
    dsimp only;rw [hot,yzt,if_neg (of_decide_eq_false a3),lJ,<- hM];exact o2
   ·(try simp only [rwp,zA,zB,zC,zD,zE,zF,zG,zH,zI,rwb,reduceIte,lC,ht,tuC]);refine LstW.appL s2 o2 (xs:=[obC t.s.o]) y2j (fun r hr=>by rw [List.mem_singleton.1 hr];rfl) (q1u fun r hr=>by rw [List.mem_singleton.1 hr];rfl) (by simp only [lB,lM];omega) fun v' S4 s4 o4 j4=>?_
    (try (simp (disch:=omega) only [q04]));rw [show (i:Int)+1=((i+1:Nat):Int) by omega]
    refine q08 rfl (hkk (i+1,v') _ ⟨by dsimp only;omega,s4,?_⟩ (by dsimp only;omega))
    dsimp only;rw [hot,yzt,if_pos (of_decide_eq_true a3),<- lW,<- hM,lE];exact o4
  (try simp only [rwp,zA,zB,zC,zD,zE,zF,zG,zH,zI,rwb,reduceIte,lC,ht,tuC]);cases a2:decide (t.o.ty=typ)
  ·(try simp only [rwp,zA,zB,zC,zD,zE,zF,zG,zH,zI,rwb,reduceIte]);exact second _ ov S1 s1 o1 (by omega) (by rw [if_neg (of_decide_eq_false a2),lJ])
  ·(try simp only [rwp,zA,zB,zC,zD,zE,zF,zG,zH,zI,rwb,reduceIte,lC,ht,tuC]);refine LstW.appL s1 o1 (xs:=[obC t.o]) y2j (fun r hr=>by rw [List.mem_singleton.1 hr];rfl) (q1u fun r hr=>by rw [List.mem_singleton.1 hr];rfl) (by simp only [lB,lM];omega) fun v' S4 s4 o4 j4=>?_
   refine second (ybg (L.take i) typ++[t.o]) v' S4 s4 ?_ (by simp only [lG,lM];omega) (by rw [if_pos (of_decide_eq_true a2)])
   rw [lE];exact o4
set_option maxRecDepth 4000
set_option maxRecDepth 4000
def ck (E:q1k) (B:Int) (n:Nd):Bool×Int×Int:=
 if B<0\/100000<B\/y0a (y06 E.s)≠0 then (false,0,1)
 else if q0d E.s n.o.ty n.rl=none then (false,0,6)
 else match y0q E B 50 [] n 0 with
  | none=>(false,0,12)
  | some (b,w)=>(b,w,0)
theorem yfa {E:q1k} {B:Int} {n:Nd}:ymn E B n=.tup [.bool (ck E B n).1,.int .i64 (ck E B n).2.1,.int .i64 (ck E B n).2.2]:=by
 unfold ymn ck;split
 ·rfl
 ·split
  ·rfl
  ·cases y0q E B 50 [] n 0 with
   | none=>rfl
   | some p=>rfl
theorem ymm {E:q1k} {B:Int} {n:Nd} (h:(ck E B n).2.2=0):1<=(ck E B n).2.1/\(ck E B n).2.1<=B:=by
 unfold ck at h ⊢;split at h
 ·cases h
 ·rename_i h1
  rw [if_neg h1];split at h
  ·cases h
  ·rename_i h2
   rw [if_neg h2];cases ha:y0q E B 50 [] n 0 with
   | none=>rw [ha] at h;cases h
   | some p=>
    obtain ⟨b,w⟩:=p;have:=ysj (by cases hq:q0d E.s n.o.ty n.rl with
     | none=>exact absurd hq h2
     | some _=>rfl) ha
    dsimp only;omega
theorem yc5 {s:List Ty} {l:List Tu}:q0a s (q0a s l)=q0a s l:=by
 unfold q0a;rw [List.filter_filter]
 congr 1
 funext t
 simp
theorem q9m {s:List Ty} {l:List Tu} {who:Ob}:y07 s (q0a s l) who=y07 s l who:=by
 unfold y07;rw [yc5]
abbrev CkF:=Ob->Int->Bool×Int×Int
def evF (c:CkF) (B:Int):List Ob->List Ob->Int->List Ob×Int×Int
 | [],out,w=>(out,w,0)
 | o :: r,out,w=>if (c o (B-w)).2.2=0 then evF c B r (if (c o (B-w)).1=true then out++[o] else out) (w+(c o (B-w)).2.1) else ([],0,(c o (B-w)).2.2)
theorem y6g {c:CkF} {B:Int} {o:Ob} {r out:List Ob} {w:Int}:evF c B (o :: r) out w=if (c o (B-w)).2.2=0 then evF c B r (if (c o (B-w)).1=true then out++[o] else out) (w+(c o (B-w)).2.1) else ([],0,(c o (B-w)).2.2):=rfl
def eaA (x:List Ob×Int×Int):AV:=.tup [.sl 2 (x.1.map obC),.int .i64 x.2.1,.int .i64 x.2.2]
def xk5 (c:CkF):Prop:=∀ o b,(c o b).2.2=0->1<=(c o b).2.1/\(c o b).2.1<=b
theorem rt3 {S S1:q00} {v:AV} {M:List Ob} {w e:Int} {QF:AEnd->q00->Prop} (hs:Sub S S1) (h:LstN S S1 y0c 2 v (M.map obC)) (hQ:QF (.ret (eaA (M,w,e))) S):rtW [.tmp v,.tmp (.int .i64 w),.tmp (.int .i64 e)] QF S1:=
 q5d S (eaA (M,w,e)) hs (Fr.tu (.cons (Fr.lst h) (.cons (.same _) (.cons (.same _) .nil)))) hQ
theorem yw9 {M:List Ob} {g:Nat} {ca:List AV} {c:CkF} {B:Int} {S:q00} (hM:M.length<=100000) (hB:0<=B/\B<=100000) (hc:xk5 c)
  (hp:∀ S',Sub S S'->∀ o∈M,∀ b,AFunS PG g ([]++[.agg (obC o),.int .i64 b]++ca) S' (.tup [.bool (c o b).1,.int .i64 (c o b).2.1,.int .i64 (c o b).2.2])) :
  AFunS PG yzy [.sl 2 (M.map obC),.int .i64 B,.func (.func g) [] ca] S (eaA (evF c B M [] 0)):=by
 refine xit ?_;unfold xh5;(try simp only [rwp,zA,zB,zC,zD,zE,zF,zG,zH,zI,rwb,reduceIte,lB]);refine LoopP.introS (fun x:Nat×AV×Int×List Ob=>[(1,.int .i64 B),(2,.func (.func g) [] ca),(9,x.2.1),(10,.int .i64 x.2.2.1),(16,.sl 2 (M.map obC)),(17,.int .i64 M.length),(18,.int .i64 x.1)])
  (fun x S'=>x.1<=M.length/\Sub S S'/\LstN S S' y0c 2 x.2.1 (x.2.2.2.map obC)/\x.2.2.2.length<=x.1/\0<=x.2.2.1/\x.2.2.1<=B/\evF c B (M.drop x.1) x.2.2.2 x.2.2.1=evF c B M [] 0) (fun x=>M.length-x.1) (0,.nils,0,[])
  ⟨Nat.zero_le _,Sub.refl _,LstN.nil,Nat.le_refl _,Int.le_refl _,hB.1,rfl⟩ rfl ?_
 rintro ⟨i,v,w,out⟩ S1 ⟨hi,s1,o1,hl,hw0,hw1,he⟩ kk hkk;dsimp only at hi o1 hl hw0 hw1 he ⊢;(try simp only [rwp,zA,zB,zC,zD,zE,zF,zG,zH,zI,rwb,reduceIte,x91]);cases a1:decide ((i:Int)<M.length)
 ·have e:i=M.length:=by have:=of_decide_eq_false a1;omega
  subst e;rw [List.drop_length] at he;(try simp only [rwp,zA,zB,zC,zD,zE,zF,zG,zH,zI,rwb,reduceIte]);refine rt3 s1 o1 ⟨?_,rfl⟩;rw [<- he];rfl
 ·have hlt:=of_decide_eq_true a1;obtain ⟨x,hx⟩:=q0e hlt;rw [q0j hx,y6g] at he;(try simp only [rwp,zA,zB,zC,zD,zE,zF,zG,zH,zI,rwb,reduceIte,lC,hx,obC]);have q:=hp S1 s1 x (lA hx) (B-w);simp only [obC] at q;rw [show IntKind.i64.wrap (B-w)=B-w from by (try (simp (disch:=omega) only [q04]))]
  refine y6o q ?_;(try simp only [rwp,zA,zB,zC,zD,zE,zF,zG,zH,zI,rwb,reduceIte]);cases a2:decide ((c x (B-w)).2.2=0)
  ·rw [if_neg (of_decide_eq_false a2)] at he;(try simp only [rwp,zA,zB,zC,zD,zE,zF,zG,zH,zI,rwb,reduceIte]);refine rt3 (M:=[]) s1 LstN.nil ⟨?_,rfl⟩;rw [<- he]
  ·have h0:=of_decide_eq_true a2;rw [if_pos h0] at he;have hw:=hc x (B-w) h0;cases a3:(c x (B-w)).1
   ·rw [a3,if_neg (by simp)] at he
    (try simp only [rwp,zA,zB,zC,zD,zE,zF,zG,zH,zI,rwb,reduceIte])
    (simp (disch:=omega) only [q04])
    exact q08 rfl (hkk (i+1,v,w+(c x (B-w)).2.1,out) S1 ⟨by dsimp only;omega,s1,o1,by dsimp only;omega,by dsimp only;omega,by dsimp only;omega,he⟩ (by dsimp only;omega))
   ·rw [a3,if_pos rfl] at he;(try simp only [rwp,zA,zB,zC,zD,zE,zF,zG,zH,zI,rwb,reduceIte]);refine LstN.app s1 o1 (xs:=[obC x]) (fun r hr=>by rw [List.mem_singleton.1 hr];rfl) (q1u fun r hr=>by rw [List.mem_singleton.1 hr];rfl) (by simp only [lB,lM];omega) fun v' S4 j1 j2 j3=>?_
    (simp (disch:=omega) only [q04])
    refine q08 rfl (hkk (i+1,v',w+(c x (B-w)).2.1,out++[x]) S4 ⟨by dsimp only;omega,j1,?_,by simp only [lG,lM];omega,by dsimp only;omega,by dsimp only;omega,he⟩ (by dsimp only;omega))
    dsimp only;rw [lE];exact j2
def yqt (s:List Ty) (l:List Tu) (typ rel:ByteArray) (who:Ob) (B:Int):List Ob×Int×Int:=
 if yhh s B=true then (match q0d s typ rel with
  | none=>([],0,6)
  | some _=>evF (fun o b=>ck (y07 s l who) b ⟨o,rel⟩) B (yjh (q0a s l) typ) [] 0)
 else ([],0,1)
theorem yb2 {L:List Tu} {typ:ByteArray}:(yjh L typ).length<=2 * L.length:=by
 unfold yjh;obtain ⟨-,-,h⟩:=q2b stO (ybg L typ) _ rfl;exact Nat.le_trans h qa7
theorem yf9 {s:List Ty} (hs:OkS s) {l:List Tu} (hl:OkL l) {S:q00} {b7 t:Nat} {x:AV} (hb:y01 S b7=none) {K:q00->Prop} {Qp:AV->q00->Prop}
  (hK:∀ a S9,q0m S9 b7=some (t,[a],1)->one a=true->FrS (supd S b7 (.cells t [.sl 6 ((q0a s l).map tuC)] 1)) S9->Fr (supd S b7 (.cells t [.sl 6 ((q0a s l).map tuC)] 1)) S9 a (.sl 6 ((q0a s l).map tuC))->(∀ (S2:q00) (K2:AV->Prop),lnW S2 1 a K2=K2 (.int .i64 (q0a s l).length))->K S9) :
  caW PG (supd S b7 (.cells t [x] 1)) (.func (.func yzz) [] []) [scA s,.sl 6 (l.map tuC)] (fun v S=>stW S 1 (.ptr b7 0) v K) Qp:=by
 refine q0c (y9f hs hl _) ?_;rintro ae S8 ⟨a,rfl,h1,h2⟩;dsimp only;have g8:y01 S8 b7=some (.cells t [x] 1):=h1 _ _ (by rw [q01,if_pos rfl])
 have hone:one a=true:=by
  obtain ⟨-,⟨rfl,-⟩ | ⟨b,cap,cs,rfl,-⟩⟩:=h2<;>rfl
 obtain ⟨ha,-⟩:=y3n hone;have hfa:Fr (supd S b7 (.cells t [.sl 6 ((q0a s l).map tuC)] 1)) (supd S8 b7 (.cells t [a] 1)) a (.sl 6 ((q0a s l).map tuC)):=by
  obtain ⟨hr,⟨rfl,e⟩ | ⟨b,cap,cs,rfl,k1,k2,k3,k4,k5,k6⟩⟩:=h2
  ·rw [e];exact .nils 6
  ·have hne:b7≠b:=by
    rintro rfl;rw [q01,if_pos rfl] at k1;cases k1
   rw [q01,if_neg hne] at k1;exact .ownW y7b 6 b _ cap _ cs hr (by rw [q01,if_neg hne];exact k1) (by rw [q01,if_neg hne];exact k2) k3 rfl k5
 unfold stW q5c;dsimp only;rw [objAt_some.2 g8];dsimp only;rw [ha];refine ⟨rfl,by simp,by simp [y09,hone],?_⟩
 have e:q1t [x] 0 [a]=[a]:=rfl;rw [e];refine hK a _ (by rw [objAt_supd,if_pos rfl]) hone (fun b o' hb'=>?_) hfa (fun S2 K2=>by rw [h2.ln,lB])
 rw [q01] at hb' ⊢;split at hb'
 ·rename_i e
  rw [if_pos e];cases hb';exact ⟨_,rfl,.cells _ _ _ _ (.cons hfa .nil)⟩
 ·rename_i e
  rw [if_neg e];exact ⟨o',h1 _ _ (by rw [q01,if_neg e];exact hb'),.same _⟩
theorem y9i {s:List Ty} (hs:OkS s) (hN:OkN s) {l:List Tu} (hl:OkL l) {S:q00} {b t:Nat} (hb:y01 S b=some (.cells t [.sl 6 ((q0a s l).map tuC)] 1)) (rel:ByteArray) (who o:Ob) (B:Int) :
  AFunS PG yzx ([]++[.agg (obC o),.int .i64 B]++[.rop [.sl 2 (s.map tyC)],.ptr b 0,.rop [.str rel],.rop (obC who)]) S (.tup [.bool (ck (y07 s l who) B ⟨o,rel⟩).1,.int .i64 (ck (y07 s l who) B ⟨o,rel⟩).2.1,.int .i64 (ck (y07 s l who) B ⟨o,rel⟩).2.2]):=by
 refine xis ?_;unfold xh4;have hc:=q07 (objAt_some.2 hb);have q:=q6p hs hN (q46 hl (s:=s)) ⟨o,rel⟩ who B;rw [q9m,yfa] at q;simp only [scA,obC] at q;(try simp only [rwp,zA,zB,zC,zD,zE,zF,zG,zH,zI,rwb,reduceIte,obC,hc]);refine q05 q ?_;(try simp only [rwp,zA,zB,zC,zD,zE,zF,zG,zH,zI,rwb,reduceIte]);exact q18 S (Sub.refl _) ⟨rfl,rfl⟩
theorem y4h {s:List Ty} (hs:OkS s) (hN:OkN s) {l:List Tu} (hl:OkL l) (hlen:l.length<=127) (typ rel:ByteArray) (who:Ob) (B:Int) :
  y02 PG x68 [scA s,.sl 6 (l.map tuC),.str typ,.str rel,.agg (obC who),.int .i64 B] (eaA (yqt s l typ rel who B)):=by
 intro S;refine xjk ?_;unfold xhv;have q1:=ymu hs hN B;have q2:=q1n hs typ rel;simp only [scA] at q1 q2;(try simp only [rwp,zA,zB,zC,zD,zE,zF,zG,zH,zI,rwb,reduceIte,scA,obC]);refine ⟨rfl,rfl,fun b7 hb7=>?_⟩
 refine q05 q1 ?_;unfold yqt;have hs7:∀ o,Sub S (supd S b7 o):=fun o=>Sub.fresh _ hb7
 cases hm:yhh s B
 ·rw [if_neg (by simp)]
  (try simp only [rwp,zA,zB,zC,zD,zE,zF,zG,zH,zI,rwb,reduceIte]);exact rt3 (M:=[]) (hs7 _) LstN.nil ⟨rfl,rfl⟩
 ·rw [if_pos rfl];have hm':=hm;unfold yhh at hm';simp only [Bool.and_eq_true,decide_eq_true_eq] at hm';(try simp only [rwp,zA,zB,zC,zD,zE,zF,zG,zH,zI,rwb,reduceIte]);refine q0c (q2 _) ?_;rintro ae S' ⟨rfl,rfl⟩;cases hq:q0d s typ rel with
  | none=>
   dsimp only;(try simp only [rwp,zA,zB,zC,zD,zE,zF,zG,zH,zI,rwb,reduceIte,y0v]);exact rt3 (M:=[]) (hs7 _) LstN.nil ⟨rfl,rfl⟩
  | some p=>
   obtain ⟨fi,fk,r⟩:=p;dsimp only;(try simp only [rwp,zA,zB,zC,zD,zE,zF,zG,zH,zI,rwb,reduceIte,q0k]);have q:=@yf9 s hs l hl S b7 25 (.sl 6 (l.map tuC)) hb7;simp only [scA,q3s] at q;refine q fun a S9 u1 u2 u3 u4 _=>?_
   have u5:=q07 u1;(try simp only [rwp,zA,zB,zC,zD,zE,zF,zG,zH,zI,rwb,reduceIte,u5,u2]);have hlc:(q0a s l).length<=l.length:=lK _ _;have hln:=hl.n;have q3:=ymv (L:=q0a s l) (by omega) typ (supd S b7 (.cells 25 [.sl 6 ((q0a s l).map tuC)] 1))
   refine q0c (ACalls.frz u3 (.cons u4 (.cons (.same _) .nil)) q3) ?_;rintro ae S10 ⟨rfl,rfl⟩;dsimp only;have hthi:=@yb2 (q0a s l) typ;have q4:=yw9 (g:=yzx) (ca:=[.rop [.sl 2 (s.map tyC)],.ptr b7 0,.rop [.str rel],.rop (obC who)]) (c:=fun o b=>ck (y07 s l who) b ⟨o,rel⟩) (B:=B) (M:=yjh (q0a s l) typ)
    (S:=supd S b7 (.cells 25 [.sl 6 ((q0a s l).map tuC)] 1)) (by omega) ⟨hm'.1,hm'.2.1⟩ (fun o b=>ymm) fun S' hS' o _ b=>y9i hs hN hl (hS' _ _ (by rw [q01,if_pos rfl])) rel who o b
   simp only [obC] at q4;refine q1a q4 ?_;unfold eaA;(try simp only [rwp,zA,zB,zC,zD,zE,zF,zG,zH,zI,rwb,reduceIte]);exact q18 S (hs7 _) ⟨rfl,rfl⟩
set_option maxRecDepth 4000
theorem Fr.mono {S0 S S0' S':q00} (h1:∀ b,y01 S b≠none->y01 S0 b=none->y01 S0' b=none) (h2:Sub S S') {v v':AV} (h:Fr S0 S v v'):Fr S0' S' v v':=by
 induction h with
 | same v=>exact .same v
 | nils sz=>exact .nils sz
 | own t sz b n cap rows hr h0 hb hn hc=>exact .own t sz b n cap rows hr (h1 b (by rw [hb];simp) h0) (h2 _ _ hb) hn hc
 | ownW t sz b n cap rows cs hr h0 hb ht hn hc=>exact .ownW t sz b n cap rows cs hr (h1 b (by rw [hb];simp) h0) (h2 _ _ hb) ht hn hc
 | agg cs cs' hl h ih=>exact .agg cs cs' hl ih
 | tup cs cs' hl h ih=>exact .tup cs cs' hl ih
 | sl sz xs xs' hl hc h ih=>exact .sl sz xs xs' hl hc ih
 | trans a b c h1 h2 ih1 ih2=>exact .trans a b c ih1 ih2
theorem FrS.add {S1 S:q00} (h:FrS S1 S) {b:Nat} (hb:y01 S b=Option.none) (o:AObj):FrS (supd S1 b o) (supd S b o):=by
 have h1:∀ c,y01 S c≠Option.none->y01 S1 c=Option.none->y01 (supd S1 b o) c=Option.none:=fun c hc h0=>by
  have:b≠c:=by rintro rfl;exact hc hb
  rw [q01,if_neg this];exact h0
 have h2:Sub S (supd S b o):=Sub.fresh _ hb;intro c o' hc;rw [q01] at hc;split at hc
 ·rename_i e
  subst e;cases hc;exact ⟨o,by rw [q01,if_pos rfl],.same _⟩
 ·rename_i e
  obtain ⟨x,hx,hf⟩:=h c o' hc;refine ⟨x,h2 _ _ hx,?_⟩;cases hf with
  | cells t tot cs cs' hf=>exact .cells t tot cs cs' ⟨hf.1,fun i u u' k1 k2=>Fr.mono h1 h2 (hf.2 i u u' k1 k2)⟩
  | map K es es' clk hl hf=>exact .map K es es' clk hl fun i e e' k1 k2=>let ⟨m1,m2,m3⟩:=hf i e e' k1 k2;⟨m1,Fr.mono h1 h2 m2,m3⟩
def yj3 (L:List Tu) (typ:ByteArray):List Ob:=(q35 L).filter fun o=>decide (o.ty=typ)
theorem yk0 {L:List Tu} {typ:ByteArray} {i:Nat} {t:Tu} (h:L[i]?=some t):yj3 (L.take (i+1)) typ=yj3 (L.take i) typ++if (decide (t.s.rl=⟨#[]⟩)&&decide (t.s.o.ty=typ))=true then [t.s.o] else []:=by
 unfold yj3;rw [y1f h,List.filter_append]
 congr 1
 cases decide (t.s.rl=⟨#[]⟩) with
 | false=>simp
 | true=>
  rw [if_pos rfl,Bool.true_and];cases h2:decide (t.s.o.ty=typ) with
  | false=>simp [List.filter,h2]
  | true=>simp [List.filter,h2]
theorem ydu {L:List Tu} {typ:ByteArray}:(yj3 L typ).length<=L.length:=Nat.le_trans (lK _ _) q67
theorem ygw {M:List Ob} {p:Ob->Bool}:y0l ltO (M.filter p)=(y0l ltO M).filter p:=by
 obtain ⟨k1,k2,-⟩:=q2b stO (M.filter p) _ rfl;obtain ⟨k3,k4,-⟩:=q2b stO M _ rfl;refine Asc.uniq stO k1 (List.Pairwise.filter p k3) fun x=>?_
 rw [k2,lT,lT,k4]
def xfq (s:List Ty) (typ:ByteArray):Bool:=s.any fun t=>decide (t.name=typ)
def yvv (s:List Ty) (l:List Tu) (n:Nd) (typ:ByteArray) (B:Int):List Ob×Int×Int:=
 if yhh s B=true then (if (q0d s n.o.ty n.rl).isSome=true/\xfq s typ=true then evF (fun w b=>ck (y07 s l w) b n) B (y0l ltO (yj3 (q0a s l) typ)) [] 0 else ([],0,6))
 else ([],0,1)
theorem y73 (t:Ty) (typ:ByteArray):y02 PG yzw ([]++[.agg (tyC t)]++[.rop [.str typ]]) (.bool (decide (t.name=typ))):=by
 intro S;refine xim ?_;unfold xgy;(try simp only [rwp,zA,zB,zC,zD,zE,zF,zG,zH,zI,rwb,reduceIte,tyC]);exact q02 ⟨rfl,rfl⟩
theorem y72 {s:List Ty} (hs:OkS s) (hN:OkN s) {l:List Tu} (hl:OkL l) {S:q00} {b t:Nat} (hb:y01 S b=some (.cells t [.sl 6 ((q0a s l).map tuC)] 1)) (n:Nd) (who:Ob) (B:Int) :
  AFunS PG yqh ([]++[.agg (obC who),.int .i64 B]++[.rop [.sl 2 (s.map tyC)],.ptr b 0,.rop (obC n.o),.rop [.str n.rl]]) S (.tup [.bool (ck (y07 s l who) B n).1,.int .i64 (ck (y07 s l who) B n).2.1,.int .i64 (ck (y07 s l who) B n).2.2]):=by
 refine xil ?_;unfold xgx;have hc:=q07 (objAt_some.2 hb);have q:=q6p hs hN (q46 hl (s:=s)) n who B;rw [q9m,yfa] at q;simp only [scA,obC] at q;(try simp only [rwp,zA,zB,zC,zD,zE,zF,zG,zH,zI,rwb,reduceIte,obC,hc]);refine q05 q ?_;(try simp only [rwp,zA,zB,zC,zD,zE,zF,zG,zH,zI,rwb,reduceIte]);exact q18 S (Sub.refl _) ⟨rfl,rfl⟩
theorem yci {s:List Ty} (hs:OkS s) (hN:OkN s) {l:List Tu} (hl:OkL l) (hlen:l.length<=127) (n:Nd) (typ:ByteArray) (B:Int) :
  y02 PG x63 [scA s,.sl 6 (l.map tuC),.agg (obC n.o),.str n.rl,.str typ,.int .i64 B] (eaA (yvv s l n typ B)):=by
 intro S;refine xje ?_;unfold xhq;have q1:=ymu hs hN B;have q2:=q1n hs n.o.ty n.rl;simp only [scA] at q1 q2;(try simp only [rwp,zA,zB,zC,zD,zE,zF,zG,zH,zI,rwb,reduceIte,scA,obC]);refine ⟨rfl,rfl,fun b7 hb7=>?_⟩
 refine q05 q1 ?_;unfold yvv;have hs7:∀ o,Sub S (supd S b7 o):=fun o=>Sub.fresh _ hb7
 cases hm:yhh s B
 ·rw [if_neg (by simp)]
  (try simp only [rwp,zA,zB,zC,zD,zE,zF,zG,zH,zI,rwb,reduceIte]);exact rt3 (M:=[]) (hs7 _) LstN.nil ⟨rfl,rfl⟩
 ·rw [if_pos rfl];have hm':=hm;unfold yhh at hm';simp only [Bool.and_eq_true,decide_eq_true_eq] at hm';(try simp only [rwp,zA,zB,zC,zD,zE,zF,zG,zH,zI,rwb,reduceIte]);refine q0c (q2 _) ?_;rintro ae S' ⟨rfl,rfl⟩;cases hq:q0d s n.o.ty n.rl with
  | none=>
   rw [if_neg (fun h=>by cases h.1)]
   dsimp only;(try simp only [rwp,zA,zB,zC,zD,zE,zF,zG,zH,zI,rwb,reduceIte,y0v,yo4]);exact rt3 (M:=[]) (hs7 _) LstN.nil ⟨rfl,rfl⟩
  | some p=>
   obtain ⟨fi,fk,r⟩:=p;dsimp only;(try simp only [rwp,zA,zB,zC,zD,zE,zF,zG,zH,zI,rwb,reduceIte,q0k]);have q3:=fun S=>q49 (S:=S) (g:=yzw) (fi:=[]) (ca:=[.rop [.str typ]]) (xs:=s) (enc:=tyC) (p:=fun t=>decide (t.name=typ)) (fun x _=>rfl) hs.types (fun x _=>y73 x typ S)
   refine q1a (q3 _) ?_;cases ht:s.any fun t=>decide (t.name=typ)
   ·rw [if_neg (fun h=>by unfold xfq at h;rw [ht] at h;cases h)]
    (try simp only [rwp,zA,zB,zC,zD,zE,zF,zG,zH,zI,rwb,reduceIte,yo4]);exact rt3 (M:=[]) (hs7 _) LstN.nil ⟨rfl,rfl⟩
   ·rw [if_pos (show xfq s typ=true from ht)]
    (try simp only [rwp,zA,zB,zC,zD,zE,zF,zG,zH,zI,rwb,reduceIte,yo4]);have q:=@yf9 s hs l hl S b7 25 (.sl 6 (l.map tuC)) hb7;simp only [scA,q3s] at q;refine q fun a S9 u1 u2 u3 u4 u6=>?_
    intro bm hbm;have d97:bm≠b7:=by rintro rfl;rw [objAt_some.1 u1] at hbm;cases hbm
    have u5:=q07 u1;(try simp only [rwp,zA,zB,zC,zD,zE,zF,zG,zH,zI,rwb,reduceIte,u5,u2,d97,Ne.symm d97]);have w3:FrS (supd (supd S b7 (.cells 25 [.sl 6 ((q0a s l).map tuC)] 1)) bm (.map MO2 [] 0)) (supd S9 bm (.map MO2 [] 0)):=u3.add hbm _;have w4:Fr (supd (supd S b7 (.cells 25 [.sl 6 ((q0a s l).map tuC)] 1)) bm (.map MO2 [] 0)) (supd S9 bm (.map MO2 [] 0)) a (.sl 6 ((q0a s l).map tuC)):=
     Fr.mono (fun c hc h0=>by
      have:bm≠c:=by rintro rfl;exact hc hbm
      rw [q01,if_neg this];exact h0) (Sub.fresh _ hbm) u4
    rw [u6];have hlc:(q0a s l).length<=l.length:=lK _ _;have hln:=hl.n;have hcall:∀ (S3:q00) (M:List Ob),y01 S3 b7=some (.cells 25 [.sl 6 ((q0a s l).map tuC)] 1)->M.length<=255->AFunS PG yzy [.sl 2 (M.map obC),.int .i64 B,.func (.func yqh) [] [.rop [.sl 2 (s.map tyC)],.ptr b7 0,.rop [.str n.o.ty,.str n.o.id],.rop [.str n.rl]]] S3 (eaA (evF (fun w b=>ck (y07 s l w) b n) B M [] 0)):=fun S3 M h3 hM=>
     yw9 (g:=yqh) (ca:=[.rop [.sl 2 (s.map tyC)],.ptr b7 0,.rop (obC n.o),.rop [.str n.rl]]) (c:=fun w b=>ck (y07 s l w) b n) (B:=B) (by omega) ⟨hm'.1,hm'.2.1⟩ (fun o b=>ymm) fun S' hS' o _ b=>y72 hs hN hl (hS' _ _ h3) n o b
    generalize q0a s l=L at w3 w4 hlc hcall ⊢;have hpl:=@ydu L typ;have hbm0:y01 S bm=none:=by
     cases hq2:y01 S bm with
     | none=>rfl
     | some x=>
      have hne:=q0h hb7 hq2;obtain ⟨y,hy,-⟩:=u3 bm x (by rw [q01,if_neg hne];exact hq2)
      rw [hbm] at hy;cases hy
    generalize hF:supd (supd S b7 (.cells 25 [.sl 6 (L.map tuC)] 1)) bm (.map MO2 [] 0)=SF at w3 w4;have hF7:y01 SF b7=some (.cells 25 [.sl 6 (L.map tuC)] 1):=by rw [<- hF,q01,if_neg d97,q01,if_pos rfl]
    have hFm:y01 SF bm=some (.map MO2 [] 0):=by rw [<- hF,q01,if_pos rfl]
    have hFS:Sub S SF:=by rw [<- hF];exact Sub.supd hbm0 (hs7 _)
    refine LoopP.frz (S1:=SF) (l':=[(5,.int .i64 B),(6,.rop [.sl 2 (s.map tyC)]),(7,.ptr b7 0),(8,.rop [.str n.o.ty,.str n.o.id]),(9,.rop [.str n.rl]),(10,.rop [.str typ]),(17,.map (some bm)),(45,.sl 6 (L.map tuC)),(46,.int .i64 L.length),(47,.int .i64 0)]) w3
     (.cons (.same _) (.cons (.same _) (.cons (.same _) (.cons (.same _) (.cons (.same _) (.cons (.same _) (.cons (.same _) (.cons w4 (.cons (.same _) (.cons (.same _) .nil)))))))))) ?_
    refine LoopP.introS (fun i:Nat=>[(5,.int .i64 B),(6,.rop [.sl 2 (s.map tyC)]),(7,.ptr b7 0),(8,.rop [.str n.o.ty,.str n.o.id]),(9,.rop [.str n.rl]),(10,.rop [.str typ]),(17,.map (some bm)),(45,.sl 6 (L.map tuC)),(46,.int .i64 L.length),(47,.int .i64 i)])
     (fun i S'=>i<=L.length/\(∃ E clk,KO S' bm E clk/\E.length<=i/\∀ x,x∈E.map (·.1)↔x∈yj3 (L.take i) typ)/\∀ c,c≠bm->y01 S' c=y01 SF c) (fun i=>L.length-i) 0
     ⟨Nat.zero_le _,⟨[],0,⟨hFm,fun p hp=>(by cases hp),List.nodup_nil,List.nodup_nil⟩,Nat.zero_le _,fun x=>by simp [yj3,q35]⟩,fun c _=>rfl⟩ rfl ?_
    rintro i S2 ⟨hi,⟨E,clk,h1,h2,h3⟩,h4⟩ kk hkk;(try simp only [rwp,zA,zB,zC,zD,zE,zF,zG,zH,zI,rwb,reduceIte,x9k]);cases a1:decide ((i:Int)<L.length)
    ·have e:i=L.length:=by have:=of_decide_eq_false a1;omega
     subst e;rw [lU] at h3;(try simp only [rwp,zA,zB,zC,zD,zE,zF,zG,zH,zI,rwb,reduceIte]);refine q0c (yfc h1 (by omega)) ?_
     rintro ae S3 ⟨rfl,rfl⟩;dsimp only;rw [yd3 h3];have h37:y01 S3 b7=some (.cells 25 [.sl 6 (L.map tuC)] 1):=by rw [h4 b7 (Ne.symm d97)];exact hF7
     have hsl:(y0l ltO (yj3 L typ)).length<=255:=by
      obtain ⟨-,-,h⟩:=q2b stO (yj3 L typ) _ rfl;omega
     refine q1a (hcall S3 _ h37 hsl) ?_;unfold eaA;(try simp only [rwp,zA,zB,zC,zD,zE,zF,zG,zH,zI,rwb,reduceIte]);refine q18 S (fun c o hc=>?_) ⟨rfl,rfl⟩
     rw [h4 c (Ne.symm (q0h hbm0 hc))];exact hFS _ _ hc
    ·have hlt:=of_decide_eq_true a1;obtain ⟨t,ht⟩:=q0e hlt;have hpt:=yk0 (typ:=typ) ht;(try simp only [rwp,zA,zB,zC,zD,zE,zF,zG,zH,zI,rwb,reduceIte,lC,ht,tuC]);have skip:(decide (t.s.rl=⟨#[]⟩)&&decide (t.s.o.ty=typ))=false->rcW kk [(5,.int .i64 B),(6,.rop [.sl 2 (s.map tyC)]),(7,.ptr b7 0),(8,.rop [.str n.o.ty,.str n.o.id]),(9,.rop [.str n.rl]),(10,.rop [.str typ]),(17,.map (some bm)),(45,.sl 6 (L.map tuC)),(46,.int .i64 L.length),(47,.int .i64 (IntKind.i64.wrap ((i:Int)+1)))] S2:=fun hb=>by
      (simp (disch:=omega) only [q04])
      refine q08 rfl (hkk (i+1) S2 ⟨by omega,⟨E,clk,h1,by omega,fun x=>?_⟩,h4⟩ (by omega))
      rw [h3,hpt,hb,if_neg (by simp),lJ]
     cases a2:decide (t.s.rl=⟨#[]⟩)
     ·rw [a2] at skip;(try simp only [rwp,zA,zB,zC,zD,zE,zF,zG,zH,zI,rwb,reduceIte,yo3]);exact skip rfl
     ·cases a3:decide (t.s.o.ty=typ)
      ·rw [a2,a3] at skip;(try simp only [rwp,zA,zB,zC,zD,zE,zF,zG,zH,zI,rwb,reduceIte,yo3]);exact skip rfl
      ·(try simp only [rwp,zA,zB,zC,zD,zE,zF,zG,zH,zI,rwb,reduceIte,yo3]);refine h1.put t.s.o fun S' E' clk' v1 v2 v3 v4=>?_
       (simp (disch:=omega) only [q04])
       refine q08 rfl (hkk (i+1) S' ⟨by omega,⟨E',clk',v1,by omega,fun x=>?_⟩,fun c hc=>(v4 c hc).trans (h4 c hc)⟩ (by omega))
       rw [v2,h3,hpt,a2,a3];simp
set_option maxRecDepth 20000
def x49:ByteArray:=⟨#[116,121,112,101,32,117,115,101,114,32,116,121,112,101,32,100,111,99,32,114,101,108,97,116,105,111,110,32,111,119,110,101,114,58,32,117,115,101,114,32,100,101,102,105,110,101,32,99,97,110,58,32,111,119,110,101,114]⟩
def x4n:List Ty:=(q5e x49).1
def l16:List Tu:=[⟨x4z,x8f,⟨oA,⟨#[]⟩⟩⟩]
def lb1:ByteArray:=⟨#[100,111,99,58,49,35,99,97,110]⟩
def lb2:ByteArray:=⟨#[100,111,99,58,49,35,111,119,110,101,114]⟩
def lb3:ByteArray:=⟨#[117,115,101,114,58,97]⟩
theorem xjw:(q5e x49).2=.agg [.int .i64 0,.int .i64 0,.int .i64 0]:=by kernel_rfl
theorem t16:([tu1].map fun s=>(yp5 s).1)=l16:=by kernel_rfl
theorem ok16:OkS x4n/\OkN x4n:=by
 have h:=yk2 (s:=x49);exact ⟨h.1,h.2 (by decide)⟩
theorem x4w:OkL l16:=by
 rw [<- t16];refine ⟨by decide,fun t ht=>?_⟩
 obtain ⟨s,hs,rfl⟩:=List.mem_map.1 ht;refine yyc ?_;simp only [lQ,List.not_mem_nil,or_false] at hs;rcases hs with rfl
 decide
theorem x16:xcq x4n l16 9 xgd=.tup [.agg [.str lb1,.sl 1 [],.sl 3 [[.str lb2,.sl 1 [[.str lb3]],.sl 3 []]]],.int .i64 2,.int .i64 0]:=by kernel_rfl
theorem o16:eaA (yqt x4n l16 xg2 xg3 oA 9)=.tup [.sl 2 [obC x4z],.int .i64 2,.int .i64 0]:=by kernel_rfl
theorem xfn:OkO x4z:=⟨by decide,by decide⟩
theorem ymx:y02 PG x69 [] (.bool true):=by
 intro S;refine xjl ?_;unfold xhw;have r1:=x1k x49;rw [xjw] at r1;have r2:=yrn (l:=[tu1]) (by decide) (fun s hs=>by
  simp only [lQ,List.not_mem_nil,or_false] at hs;rcases hs with rfl
  decide)
 rw [t16] at r2;have q1:=yrr ok16.1 ok16.2 x4w (n:=xgd) xfn 9;have q2:=y4h ok16.1 ok16.2 x4w (by decide) xg2 xg3 oA 9
 rw [x16] at q1;rw [o16] at q2;unfold x4n at q1 q2;generalize (q5e x49).1=sc at r1 q1 q2;simp only [scA] at r1 q1 q2;refine q05 r1 ?_;(try simp only [rwp,zA,zB,zC,zD,zE,zF,zG,zH,zI,rwb,reduceIte]);intro b1 hb1 b2 hb2;obtain ⟨d21,hb2'⟩:=yaw hb2;(try simp only [rwp,zA,zB,zC,zD,zE,zF,zG,zH,zI,rwb,reduceIte,d21,Ne.symm d21]);refine q05 r2 ?_;(try simp only [rwp,zA,zB,zC,zD,zE,zF,zG,zH,zI,rwb,reduceIte]);refine q05 q1 ?_;generalize hS4:y0f _ b1=S4;have s4:Sub S S4:=by
  rw [<- hS4];intro a o ha;have e3:=q0h hb1 ha;have e4:=q0h hb2' ha;simp only [q0b,q01,if_neg e3,if_neg e4];exact ha
 (try simp only [rwp,zA,zB,zC,zD,zE,zF,zG,zH,zI,rwb,reduceIte]);rw [show obC x4z=[.str ⟨#[100,111,99]⟩,.str ⟨#[49]⟩] from rfl] at q2
 refine q05 q2 ?_;rw [decide_eq_true (show ((1:Nat):Int)=1 from rfl)]
 (try simp only [rwp,zA,zB,zC,zD,zE,zF,zG,zH,zI,rwb,reduceIte,lD,lL]);rw [decide_eq_true (show ((1:Nat):Int)=1 from rfl)]
 (try simp only [rwp,zA,zB,zC,zD,zE,zF,zG,zH,zI,rwb,reduceIte,x3m,x3l,x3k,x3j,x3i,x3h,List.getElem?_cons_zero]);exact q8o s4 ⟨rfl,rfl⟩
set_option maxRecDepth 4000
theorem yc2 {c:CkF} {B:Int}:∀ {M out:List Ob} {w:Int},(evF c B M out w).1.length<=out.length+M.length
 | [],out,w=>by unfold evF;simp
 | o :: r,out,w=>by
  rw [y6g];split
  ·have h:=@yc2 c B r (if (c o (B-w)).1=true then out++[o] else out) (w+(c o (B-w)).2.1)
   refine Nat.le_trans h ?_;split
   ·simp only [lG,lD,lL];omega
   ·simp only [lD];omega
  ·simp
theorem yqs {s:List Ty} {l:List Tu} {typ rel:ByteArray} {who:Ob} {B:Int}:(yqt s l typ rel who B).1.length<=2 * l.length:=by
 unfold yqt;have hlc:(q0a s l).length<=l.length:=lK _ _;have hthi:=@yb2 (q0a s l) typ;split
 ·cases q0d s typ rel with
  | none=>simp
  | some _=>
   have:=@yc2 (fun o b=>ck (y07 s l who) b ⟨o,rel⟩) B (yjh (q0a s l) typ) [] 0
   simp only [lL] at this;dsimp only;omega
 ·simp
set_option maxRecDepth 4000
theorem yqq {s:List Ty} {l:List Tu} {n:Nd} {typ:ByteArray} {B:Int}:(yvv s l n typ B).1.length<=l.length:=by
 unfold yvv;have hlc:(q0a s l).length<=l.length:=lK _ _;have hpl:=@ydu (q0a s l) typ;obtain ⟨-,-,h⟩:=q2b stO (yj3 (q0a s l) typ) _ rfl;split
 ·split
  ·have:=@yc2 (fun w b=>ck (y07 s l w) b n) B (y0l ltO (yj3 (q0a s l) typ)) [] 0
   simp only [lL] at this;omega
  ·simp
 ·simp
set_option maxRecDepth 4000
theorem x09 {s:List Ty} (hc:y0a (y06 s)=0) (l:List Tu) (who:Ob):∃ K,Mod (y07 s l who) K:=
 x6m (y90 s l who) hc (T:=(q0a s l).map fun t=>t.o) fun n x hx=>by
  obtain ⟨t,ht,rfl⟩:=List.mem_map.1 hx;unfold ofF at ht;simp only [lT,Bool.and_eq_true,decide_eq_true_eq] at ht;exact List.mem_map.2 ⟨t,ht.1,ht.2.1⟩
theorem yw4 {s:List Ty} {l:List Tu} {who:Ob} {B:Int} {n:Nd} (h:(ck (y07 s l who) B n).2.2=0):y0a (y06 s)=0/\(ck (y07 s l who) B n).1=inB (y07 s l who) n:=by
 unfold ck at h ⊢;split at h
 ·cases h
 ·rename_i h1
  rw [if_neg h1];split at h
  ·cases h
  ·rename_i h2
   rw [if_neg h2];have h0:y0a (y06 s)=0:=Classical.byContradiction fun hq=>h1 (.inr (.inr hq))
   cases ha:y0q (y07 s l who) B 50 [] n 0 with
   | none=>rw [ha] at h;cases h
   | some p=>
    obtain ⟨b,w⟩:=p;obtain ⟨K,hK⟩:=x09 h0 l who;dsimp only;exact ⟨h0,(x2d (y90 s l who) h0 hK ha).trans (yvy (y90 s l who) h0 hK n)⟩
theorem ym7 {c:CkF} {p:Ob->Bool} {B:Int}:∀ {M out:List Ob} {w:Int},(∀ o∈M,∀ b,(c o b).2.2=0->(c o b).1=p o)->(evF c B M out w).2.2=0->(evF c B M out w).1=out++M.filter p
 | [],out,w,_,_=>by simp [evF]
 | o :: r,out,w,hp,h=>by
  rw [y6g] at h ⊢;split at h
  ·rename_i h0
   rw [if_pos h0,ym7 (fun x hx=>hp x (lI _ hx)) h,hp o List.mem_cons_self _ h0,List.filter_cons]
   cases p o<;>simp
  ·rename_i h0
   exact absurd h h0
theorem x0e {s:List Ty} {l:List Tu} {typ rel:ByteArray} {who:Ob} {B:Int} (h:(yqt s l typ rel who B).2.2=0):y0a (y06 s)=0/\(yqt s l typ rel who B).1=(yjh (q0a s l) typ).filter fun o=>inB (y07 s l who) ⟨o,rel⟩:=by
 unfold yqt at h ⊢;split at h
 ·rename_i hm
  rw [if_pos hm];have h0:y0a (y06 s)=0:=by unfold yhh at hm;simp only [Bool.and_eq_true,decide_eq_true_eq] at hm;exact hm.2.2
  cases hf:q0d s typ rel with
  | none=>rw [hf] at h;cases h
  | some p=>
   rw [hf] at h;dsimp only at h ⊢;exact ⟨h0,by rw [ym7 (p:=fun o=>inB (y07 s l who) ⟨o,rel⟩) (fun o _ b hb=>(yw4 hb).2) h,lR]⟩
 ·cases h
theorem x0b {s:List Ty} {l:List Tu} {n:Nd} (hk:y0a (y06 s)=0):yqp s l n=(y0l ltO (q35 (q0a s l))).filter fun x=>inB (y07 s l x) n:=by
 obtain ⟨p1,p2,p3⟩:=q2b stO (q35 (q0a s l)) _ rfl;unfold yqp;rw [if_pos hk];obtain ⟨k1,k2,-⟩:=q2b stO (ytc s l (q0a s l) n) _ rfl;refine Asc.uniq stO k1 (List.Pairwise.filter _ p1) fun x=>?_
 rw [k2,lT,p2];unfold ytc q35;simp only [List.mem_map,lT,Bool.and_eq_true];constructor
 ·rintro ⟨t,⟨h1,h2,h3⟩,rfl⟩;exact ⟨⟨t,⟨h1,h2⟩,rfl⟩,h3⟩
 ·rintro ⟨⟨t,⟨h1,h2⟩,rfl⟩,h3⟩;exact ⟨t,⟨h1,h2,h3⟩,rfl⟩
theorem x0d {s:List Ty} {l:List Tu} {n:Nd} {typ:ByteArray} {B:Int} (h:(yvv s l n typ B).2.2=0):(yvv s l n typ B).1=(yqp s l n).filter fun o=>decide (o.ty=typ):=by
 unfold yvv at h ⊢;split at h
 ·rename_i hm
  rw [if_pos hm];have h0:y0a (y06 s)=0:=by unfold yhh at hm;simp only [Bool.and_eq_true,decide_eq_true_eq] at hm;exact hm.2.2
  split at h
  ·rename_i hq
   rw [if_pos hq,ym7 (p:=fun x=>inB (y07 s l x) n) (fun o _ b hb=>(yw4 hb).2) h,lR,x0b h0]
   unfold yj3;rw [ygw,List.filter_filter,List.filter_filter]
   congr 1
   funext x
   exact Bool.and_comm _ _
  ·cases h
 ·cases h
set_option maxRecDepth 4000
theorem x83 {M:List Ob} (hM:M.length<=100000) (o:Ob):y02 PG x62 [.sl 2 (M.map obC),.agg (obC o)] (.bool (decide (o∈M))):=by
 intro S;refine xjd ?_;unfold xhp;(try simp only [rwp,zA,zB,zC,zD,zE,zF,zG,zH,zI,rwb,reduceIte,obC]);refine LoopP.introS (fun i:Nat=>[(0,.sl 2 (M.map obC)),(3,.rop [.str o.ty,.str o.id]),(5,.int .i64 i)]) (fun i S'=>S'=S/\i<=M.length/\o ∉ M.take i) (fun i=>M.length-i) 0 ⟨rfl,Nat.zero_le _,by simp⟩ rfl ?_
 rintro i S' ⟨rfl,hi,hno⟩ kk hkk;(try simp only [rwp,zA,zB,zC,zD,zE,zF,zG,zH,zI,rwb,reduceIte,x9j,lB]);cases a1:decide ((i:Int)<M.length)
 ·have e:i=M.length:=by have:=of_decide_eq_false a1;omega
  subst e;rw [lU] at hno;rw [decide_eq_false hno];(try simp only [rwp,zA,zB,zC,zD,zE,zF,zG,zH,zI,rwb,reduceIte]);exact q02 ⟨rfl,rfl⟩
 ·have hlt:=of_decide_eq_true a1;obtain ⟨x,hx⟩:=q0e hlt;have eo:=q7m (a:=x) (b:=o);(try simp only [rwp,zA,zB,zC,zD,zE,zF,zG,zH,zI,rwb,reduceIte,lC,hx,obC,q8z]);cases a2:decide (x=o)
  ·rw [<- eo,a2];(try simp only [rwp,zA,zB,zC,zD,zE,zF,zG,zH,zI,rwb,reduceIte])
   (simp (disch:=omega) only [q04])
   refine q08 rfl (hkk (i+1) _ ⟨rfl,by omega,?_⟩ (by omega))
   rw [q0w hx,List.mem_append];rintro (h | h)
   ·exact hno h
   ·rw [lS] at h;exact of_decide_eq_false a2 h.symm
  ·rw [<- eo,a2];have:=of_decide_eq_true a2;subst this;rw [decide_eq_true (lA hx)];(try simp only [rwp,zA,zB,zC,zD,zE,zF,zG,zH,zI,rwb,reduceIte]);exact q02 ⟨rfl,rfl⟩
theorem c_ListsHold {s:List Ty} (hs:OkS s) {l:List Tu} (hl:∀ t∈l,OkU t) (typ:ByteArray) (o:Ob) (rel:ByteArray) (who:Ob) (B:Int) :
  y02 PG x6f [scA s,.sl 6 (l.map tuC),.str typ,.agg (obC o),.str rel,.agg (obC who),.int .i64 B] (.bool true):=by
 intro S;refine xjt ?_;unfold xi3;(try simp only [rwp,zA,zB,zC,zD,zE,zF,zG,zH,zI,rwb,reduceIte,scA,obC]);refine q05 ymx ?_;(try simp only [rwp,zA,zB,zC,zD,zE,zF,zG,zH,zI,rwb,reduceIte]);have q:=y71 hs l;simp only [scA] at q;refine q05 q ?_;cases hsm:y7o s l
 ·(try simp only [rwp,zA,zB,zC,zD,zE,zF,zG,zH,zI,rwb,reduceIte,yt1,yoq]);exact q02 ⟨rfl,rfl⟩
 ·obtain ⟨hN,hL,hn⟩:=yjo hsm hl;(try simp only [rwp,zA,zB,zC,zD,zE,zF,zG,zH,zI,rwb,reduceIte,yt1]);cases a1:decide ((2000:Int)<B)
  ·have q1:=y4h hs hN hL (by omega) typ rel who B
   have q2:=q4p hs hL;have hcn:(q0a s l).length<=l.length:=lK _ _;have q3:=ymr (L:=q0a s l) (by omega) typ
   have qH:=fun x=>y4j hs hN hL (by omega) ⟨x,rel⟩ who
   have q4:=yci hs hN hL (by omega) ⟨o,rel⟩ who.ty B
   have q5:=yck hs hN hL (by omega) ⟨o,rel⟩
   have k1:=@x0e s l typ rel who B;have k2:=@yqs s l typ rel who B;have k3:=@yb2 (q0a s l) typ;have k4:=@x0d s l ⟨o,rel⟩ who.ty B;have k5:=@yqq s l ⟨o,rel⟩ who.ty B;have k6:=@yqo s l ⟨o,rel⟩;generalize yqt s l typ rel who B=x at q1 k1 k2;generalize yjh (q0a s l) typ=T at q3 k1 k3;generalize yvv s l ⟨o,rel⟩ who.ty B=y at q4 k4 k5;generalize yqp s l ⟨o,rel⟩=M at q5 k4 k6;obtain ⟨a,aw,e⟩:=x;obtain ⟨b,bw,f⟩:=y;unfold eaA at q1 q4;dsimp only at k1 k2 k4 k5;simp only [scA,obC] at q1 q2 q3 qH q4 q5;have rest:∀ (kk:LE->q00->Prop) (i:Int),yop (fun ae S'=>ae=AEnd.ret (.bool true)/\S'=S) kk (.sl 6 (l.map tuC)) (.str rel) (.int .i64 B) (.rop [.sl 2 (s.map tyC)]) (.rop [.str o.ty,.str o.id]) (.rop [.str who.ty,.str who.id]) (.sl 2 (a.map obC)) (.int .i64 e) (.sl 2 (T.map obC)) (.int .i64 i) (.bool false) S:=by
    intro kk i;(try simp only [rwp,zA,zB,zC,zD,zE,zF,zG,zH,zI,rwb,reduceIte,yop]);refine q05 q4 ?_;(try simp only [rwp,zA,zB,zC,zD,zE,zF,zG,zH,zI,rwb,reduceIte]);refine q05 q5 ?_;generalize hp:(fun x:Ob=>decide (x.ty=who.ty))=p at k4
    refine LoopP.introS (fun i:Nat=>[(12,.rop [.str who.ty,.str who.id]),(23,.sl 2 (b.map obC)),(25,.int .i64 f),(26,.sl 2 (M.map obC)),(27,.int .i64 ((M.take i).filter p).length),(28,.int .i64 i)]) (fun i S'=>S'=S/\i<=M.length) (fun i=>M.length-i) 0 ⟨rfl,Nat.zero_le _⟩ rfl ?_
    rintro i S' ⟨rfl,hi⟩ kk hkk;have hfl:=lK p (M.take i);have:=List.length_take_le i M;(try simp only [rwp,zA,zB,zC,zD,zE,zF,zG,zH,zI,rwb,reduceIte,x9q,lB]);cases a2:decide (f=0)
    ·have out:yj1 (fun ae S''=>ae=AEnd.ret (.bool true)/\S''=S') kk (.rop [.str who.ty,.str who.id]) (.sl 2 (b.map obC)) (.int .i64 f) (.sl 2 (M.map obC)) (.int .i64 ((M.take i).filter p).length) (.int .i64 i) (.bool false) S':=by
      (try simp only [rwp,zA,zB,zC,zD,zE,zF,zG,zH,zI,rwb,reduceIte,yj1,a2]);exact q02 ⟨rfl,rfl⟩
     cases a3:decide ((i:Int)<M.length)
     ·(try simp only [rwp,zA,zB,zC,zD,zE,zF,zG,zH,zI,rwb,reduceIte]);exact out
     ·(try simp only [rwp,zA,zB,zC,zD,zE,zF,zG,zH,zI,rwb,reduceIte,a2]);exact out
    ·have hf:=of_decide_eq_true a2;have hb:=k4 hf;cases a3:decide ((i:Int)<M.length)
     ·have e:i=M.length:=by have:=of_decide_eq_false a3;omega
      subst e;rw [lU,<- hb];(try simp only [rwp,zA,zB,zC,zD,zE,zF,zG,zH,zI,rwb,reduceIte,yj1,a2,lB]);exact q02 ⟨by simp,rfl⟩
     ·have hlt:=of_decide_eq_true a3;obtain ⟨x,hx⟩:=q0e hlt;have hot:=y20 (p:=p) hx;have hpx:p x=decide (x.ty=who.ty):=by rw [<- hp]
      (try simp only [rwp,zA,zB,zC,zD,zE,zF,zG,zH,zI,rwb,reduceIte,a2,yj1,lC,hx,obC]);cases a4:decide (x.ty=who.ty)
      ·rw [hpx,a4,if_neg (by simp),lJ] at hot
       (try simp only [rwp,zA,zB,zC,zD,zE,zF,zG,zH,zI,rwb,reduceIte])
       (simp (disch:=omega) only [q04])
       exact q08 (by rw [hot];rfl) (hkk (i+1) _ ⟨rfl,by omega⟩ (by omega))
      ·rw [hpx,a4,if_pos rfl] at hot;have qh:=x83 (M:=b) (by omega) x
       rw [decide_eq_true (show x∈b by rw [hb,lT];exact ⟨lA hx,hpx.trans a4⟩)] at qh
       simp only [obC] at qh;(try simp only [rwp,zA,zB,zC,zD,zE,zF,zG,zH,zI,rwb,reduceIte,lC,hx,obC]);refine q05 qh ?_;(try simp only [rwp,zA,zB,zC,zD,zE,zF,zG,zH,zI,rwb,reduceIte])
       (simp (disch:=omega) only [q04])
       exact q08 (by rw [hot,lG];rfl) (hkk (i+1) _ ⟨rfl,by omega⟩ (by omega))
   (try simp only [rwp,zA,zB,zC,zD,zE,zF,zG,zH,zI,rwb,reduceIte,yoq]);refine q05 q1 ?_;(try simp only [rwp,zA,zB,zC,zD,zE,zF,zG,zH,zI,rwb,reduceIte]);refine q05 q2 ?_;refine q05 q3 ?_;refine LoopP.introS (fun i:Nat=>[(1,.sl 6 (l.map tuC)),(4,.str rel),(6,.int .i64 B),(7,.rop [.sl 2 (s.map tyC)]),(10,.rop [.str o.ty,.str o.id]),(12,.rop [.str who.ty,.str who.id]),(17,.sl 2 (a.map obC)),(19,.int .i64 e),(20,.sl 2 (T.map obC)),(21,.int .i64 i)]) (fun i S'=>S'=S/\i<=T.length) (fun i=>T.length-i) 0 ⟨rfl,Nat.zero_le _⟩ rfl ?_
   rintro i S' ⟨rfl,hi⟩ kk hkk;(try simp only [rwp,zA,zB,zC,zD,zE,zF,zG,zH,zI,rwb,reduceIte,x9r,lB]);cases a2:decide ((i:Int)<T.length)
   ·(try simp only [rwp,zA,zB,zC,zD,zE,zF,zG,zH,zI,rwb,reduceIte]);exact rest _ _
   ·have hlt:=of_decide_eq_true a2;obtain ⟨x,hx⟩:=q0e hlt;cases a3:decide (e=0)
    ·(try simp only [rwp,zA,zB,zC,zD,zE,zF,zG,zH,zI,rwb,reduceIte,a3]);exact rest _ _
    ·obtain ⟨h0,ha⟩:=k1 (of_decide_eq_true a3);have qh:=x83 (M:=a) (by omega) x
     have hin:decide (x∈a)=(decide (y0a (y06 s)=0)&&inB (y07 s l who) ⟨x,rel⟩):=by
      rw [decide_eq_true h0,Bool.true_and,Bool.eq_iff_iff,decide_eq_true_eq,ha,lT];exact ⟨fun h=>h.2,fun h=>⟨lA hx,h⟩⟩
     have qH':=qH x;rw [<- hin] at qH';simp only [obC] at qh;generalize decide (x∈a)=z at qh qH';(try simp only [rwp,zA,zB,zC,zD,zE,zF,zG,zH,zI,rwb,reduceIte,a3,yop,lC,hx,obC]);refine q05 qh ?_;(try simp only [rwp,zA,zB,zC,zD,zE,zF,zG,zH,zI,rwb,reduceIte,lC,hx,obC]);refine q05 qH' ?_;(try simp only [rwp,zA,zB,zC,zD,zE,zF,zG,zH,zI,rwb,reduceIte,q8z]);cases z
     ·(try simp only [rwp,zA,zB,zC,zD,zE,zF,zG,zH,zI,rwb,reduceIte])
      (simp (disch:=omega) only [q04])
      exact q08 rfl (hkk (i+1) _ ⟨rfl,by omega⟩ (by omega))
     ·(try simp only [rwp,zA,zB,zC,zD,zE,zF,zG,zH,zI,rwb,reduceIte])
      (simp (disch:=omega) only [q04])
      exact q08 rfl (hkk (i+1) _ ⟨rfl,by omega⟩ (by omega))
  ·(try simp only [rwp,zA,zB,zC,zD,zE,zF,zG,zH,zI,rwb,reduceIte,yoq]);exact q02 ⟨rfl,rfl⟩
def Old (w:World):Nat->Prop:=fun b=>b<w.heap.size
theorem yri {w:World} {a:Addr} {v:Value} (h:w.cell? a=some v):Old w a.block:=by
 unfold Old;unfold World.cell? at h;rcases Nat.lt_or_ge a.block w.heap.size with h1 | h1
 ·exact h1
 ·rw [Array.getElem?_eq_none h1] at h;simp at h
section
variable {H:Type} {enc:TypeId×Value->H} {P:Program} {w:World} {sp:Nat->Bool} {held:Bool} {n:Nat} {t e:TypeId} {cs:List Value} {x:DataW H×List MemPlace}
def Wt {H:Type} (P:Program) (t:TypeId) (d:DataW H):Prop:=∀ k∈d.weights P t,k<=reachBytes
theorem q3j (ht:P.underlying t=some .string) (hw:Wt P t x.1) (h:DataW.trod enc P w 0 sp held n t cs=some x):∃ s:ByteArray,s.size<=1125899906842624/\cs=[.string s]:=by
 cases n with
 | zero=>simp [DataW.trod] at h
 | succ n=>
  unfold DataW.trod at h;rw [ht] at h;split at h<;>simp_all
  obtain ⟨h1,rfl⟩:=h;refine Nat.le_trans (Nat.le_of_eq ?_) (Nat.le_trans (hw _ (by simp only [DataW.weights];exact List.mem_singleton.2 rfl)) (by decide))
  rw [Array.length_toList];rfl
theorem yk5 {k:IntKind} (ht:P.underlying t=some (.int k)) (h:DataW.trod enc P w 0 sp held n t cs=some x):∃ z:Int,cs=[.int k z]:=by
 cases n with
 | zero=>simp [DataW.trod] at h
 | succ n=>
  unfold DataW.trod at h;rw [ht] at h;split at h<;>simp_all
theorem y95 {w:World} {a:Addr} {m:Nat} {vs:List Value} (h:w.cells? 0 a m=some vs):vs.length=m/\∀ j,j<m->w.cell? (a.add j)=some (vs.getD j undef):=by
 unfold World.cells? at h;rw [if_pos (Nat.zero_le _)] at h;have h1:=mapM_some_length h;refine ⟨by simpa using h1,fun j hj=>?_⟩
 have h2:=mapM_some_get h j j (by simp [hj])
 rw [h2,List.getD_eq_getElem?_getD];simp at h1;rw [lF (by omega)]
 rfl
theorem q7j {α:Type} {enc':α->List AV} {good:α->Prop} {sz:Nat} (ht:P.underlying t=some (.slice e)) (hc:P.cellsOf e=sz) (hsz:0<sz) (hlen:∀ a,(enc' a).length=sz)
  (hb:1<=P.bytesOf e) (hw:Wt P t x.1) (hE:∀ m,m<n->∀ cs x,Wt P e x.1->DataW.trod enc P w 0 sp held m e cs=some x->∃ a,good a/\RVs (Old w) w (enc' a) cs) (h:DataW.trod enc P w 0 sp held n t cs=some x) :
  ∃ (l:List α) (v:Value),(∀ a∈l,good a)/\l.length<=1125899906842624/\cs=[v]/\RV (Old w) w (.sl sz (l.map enc')) v:=by
 rcases DataW.trod_slice ht h with ⟨rfl,-⟩ | ⟨a,len,cap,elems,rest,m,rfl,rfl,rfl,-,hl,hm,hlen2,hel,-,-⟩
 ·exact ⟨[],_,fun a ha=>(by cases ha),Nat.zero_le _,rfl,.sl0 _ _ _⟩
 ·have hx:DataW.weights P t (.slice (elems.map (·.1)) (rest.map (·.1)))=((elems.map (·.1)).length+(rest.map (·.1)).length) * P.bytesOf e :: (DataW.weightsAll P e (elems.map (·.1))++DataW.weightsAll P e (rest.map (·.1))):=by
   simp only [DataW.weights];rw [ht]
  have hw:∀ k∈DataW.weights P t (.slice (elems.map (·.1)) (rest.map (·.1))),k<=reachBytes:=hw;rw [hx] at hw;have key:∀ i,i<len->∃ (y:α) (vs:List Value),good y/\RVs (Old w) w (enc' y) vs/\w.cells? 0 (a.add (i * sz)) sz=some vs:=fun i hi=>by
   have h1:=hel i hi;rw [hc,lF (by omega)] at h1
   obtain ⟨vs,h2,h3⟩:=Option.bind_eq_some_iff.1 h1;have hwi:Wt P e (elems[i]'(by omega)).1:=fun k hk=>by
    refine hw k ?_;refine lI _ (lX _ ?_);have:∀ l:List (DataW H×List MemPlace),∀ y∈l,∀ k∈y.1.weights P e,k∈DataW.weightsAll P e (l.map (·.1)):=by
     intro l
     induction l with
     | nil=>intro y hy;cases hy
     | cons z l ih=>
      intro y hy k hk;simp only [lP,DataW.weightsAll,List.mem_append];rcases List.mem_cons.1 hy with rfl | hy
      ·exact .inl hk
      ·exact .inr (ih y hy k hk)
    exact this elems _ (List.getElem_mem _) k hk
   obtain ⟨y,k1,k2⟩:=hE m (Nat.lt_succ_self m) vs _ hwi h3;exact ⟨y,vs,k1,k2,h2⟩
  by_cases h0:len=0
  ·subst h0;exact ⟨[],_,fun a ha=>(by cases ha),Nat.zero_le _,rfl,.sl0 _ _ _⟩
  have ex:∃ l:List α,l.length=len/\∀ i y,l[i]?=some y->∃ vs:List Value,good y/\RVs (Old w) w (enc' y) vs/\w.cells? 0 (a.add (i * sz)) sz=some vs:=by
   have:∀ k,k<=len->∃ l:List α,l.length=k/\∀ (i:Nat) (y:α),l[i]?=some y->∃ vs:List Value,good y/\RVs (Old w) w (enc' y) vs/\w.cells? 0 (a.add (i * sz)) sz=some vs:=by
    intro k
    induction k with
    | zero=>exact fun _=>⟨[],rfl,fun i y h=>by simp at h⟩
    | succ k ih=>
     intro hk;obtain ⟨l,k1,k2⟩:=ih (by omega)
     obtain ⟨y,vs,j1⟩:=key k (by omega)
     refine ⟨l++[y],by simp [k1],fun i z hz=>?_⟩
     by_cases hi:i<l.length
     ·rw [List.getElem?_append_left hi] at hz;exact k2 i z hz
     ·rw [List.getElem?_append_right (by omega)] at hz
      obtain ⟨q,hq⟩:∃ q,i-l.length=q:=⟨_,rfl⟩;rw [hq] at hz;cases q with
      | succ q=>simp at hz
      | zero=>
       simp at hz;subst hz;have:i=k:=by omega
       subst this;exact ⟨vs,j1⟩
   exact this len (Nat.le_refl _)
  obtain ⟨l,k1,k2⟩:=ex;have k3:∀ i,i<len->∃ y vs,l[i]?=some y/\good y/\RVs (Old w) w (enc' y) vs/\w.cells? 0 (a.add (i * sz)) sz=some vs:=fun i hi=>by
   have hy:l[i]?=some l[i]:=lF (by omega)
   obtain ⟨vs,h1⟩:=k2 i _ hy;exact ⟨_,vs,hy,h1⟩
  have hadd:∀ i j,(a.add (i * sz)).add j=a.add (i * sz+j):=fun i j=>y2m _ _ _
  have hll:l.length<=1125899906842624:=by
   have h5:=hw _ List.mem_cons_self;simp only [lB] at h5;have h6:elems.length<=(elems.length+rest.length) * P.bytesOf e:=Nat.le_trans (Nat.le_add_right _ _) (Nat.le_mul_of_pos_right _ hb);unfold reachBytes at h5;omega
  refine ⟨l,_,fun y hy=>?_,hll,rfl,.sl sz (l.map enc') a len cap (fun i j=>((w.cells? 0 (a.add (i * sz)) sz).getD []).getD j undef) (by simp [k1]) hl ?_ (fun i r hr=>?_) (fun i j hi hj=>?_) (fun i j r u hr hu=>?_)⟩
  ·obtain ⟨i,hi⟩:=lO hy;obtain ⟨vs,h1,-⟩:=k2 i y hi;exact h1
  ·obtain ⟨y,vs,-,-,-,h4⟩:=k3 0 (by omega)
   have h5:=(y95 h4).2 0 hsz;have:=yri h5;rw [y2m] at this;simpa [Addr.add] using this
  ·rw [lC] at hr;cases hl2:l[i]? with
   | none=>rw [hl2] at hr;cases hr
   | some y=>rw [hl2] at hr;cases hr;exact hlen y
  ·obtain ⟨y,vs,-,-,-,h4⟩:=k3 i hi;rw [h4,<- hadd];exact (y95 h4).2 j hj
  ·rw [lC] at hr;cases hl2:l[i]? with
   | none=>rw [hl2] at hr;cases hr
   | some y=>
    rw [hl2] at hr;cases hr;obtain ⟨vs,-,h3,h4⟩:=k2 i y hl2;rw [h4];exact h3.2 j u hu
theorem q4g {fs:Array Field} (ht:P.underlying t=some (.struct fs)) (hw:Wt P t x.1) (h:DataW.trod enc P w 0 sp held n t cs=some x):cs.length=P.cellsOf t/\∃ m,n=m+1 /\
  ∀ (i:Nat) (f:Field),fs[i]?=some f->∃ y,Wt P f.type y.1/\DataW.trod enc P w 0 sp held m f.type ((cs.drop f.offset).take (P.cellsOf f.type))=some y:=by
 obtain ⟨xs,m,rfl,rfl,hl,hlen,hf⟩:=DataW.trod_struct ht h;refine ⟨hl,m,rfl,fun i f hi=>?_⟩
 have hil:i<fs.size:=(Array.getElem?_eq_some_iff.1 hi).1;have h1:=hf i f hi;have hxi:xs[i]?=some (xs[i]'(by omega)):=lF _
 rw [hxi] at h1;refine ⟨_,fun k hk=>?_,h1⟩
 have hx:DataW.weights P t (.agg (xs.map (·.1)))=DataW.weightsEach P (fs.toList.map (·.type)) (xs.map (·.1)):=by
  simp only [DataW.weights];rw [ht]
 have hw:∀ k∈DataW.weights P t (.agg (xs.map (·.1))),k<=reachBytes:=hw;rw [hx] at hw;refine hw k ?_;have key:∀ (ts:List TypeId) (ds:List (DataW H)) (j:Nat) (t:TypeId) (d:DataW H),ts[j]?=some t->ds[j]?=some d->∀ k∈d.weights P t,k∈DataW.weightsEach P ts ds:=by
  intro ts
  induction ts with
  | nil=>intro ds j t d h;simp at h
  | cons a ts ih=>
   intro ds j t d h1 h2 k hk;cases ds with
   | nil=>simp at h2
   | cons b ds=>
    simp only [DataW.weightsEach,List.mem_append];cases j with
    | zero=>simp at h1 h2;subst h1;subst h2;exact .inl hk
    | succ j=>simp at h1 h2;exact .inr (ih ds j t d h1 h2 k hk)
 exact key _ _ i _ _ (by rw [lC,Array.getElem?_toList,hi];rfl) (by rw [lC,hxi];rfl) k hk
end
structure ScT (P:Program) (tS tTs tT tRs tR tFs tF tE tEs tI tN:TypeId):Prop where
 int:P.underlying tI=some (.int .i64)
 str:P.underlying tN=some .string
 ex:∃ f0 f1 f2 f3,P.underlying tE=some (.struct #[f0,f1,f2,f3])/\f0.type=tI/\f0.offset=0/\f1.type=tN/\f1.offset=1/\f2.type=tN/\f2.offset=2/\f3.type=tEs/\f3.offset=3
 exs:P.underlying tEs=some (.slice tE)
 rf:∃ f0 f1,P.underlying tF=some (.struct #[f0,f1])/\f0.type=tN/\f0.offset=0/\f1.type=tN/\f1.offset=1
 rfs:P.underlying tFs=some (.slice tF)
 rl:∃ f0 f1 f2,P.underlying tR=some (.struct #[f0,f1,f2])/\f0.type=tN/\f0.offset=0/\f1.type=tFs/\f1.offset=1/\f2.type=tE/\f2.offset=2
 rls:P.underlying tRs=some (.slice tR)
 ty:∃ f0 f1,P.underlying tT=some (.struct #[f0,f1])/\f0.type=tN/\f0.offset=0/\f1.type=tRs/\f1.offset=1
 tys:P.underlying tTs=some (.slice tT)
 sc:∃ f0,P.underlying tS=some (.struct #[f0])/\f0.type=tTs/\f0.offset=0
 cI:P.cellsOf tI=1
 cN:P.cellsOf tN=1
 cE:P.cellsOf tE=4
 cEs:P.cellsOf tEs=1
 cF:P.cellsOf tF=2
 cFs:P.cellsOf tFs=1
 cR:P.cellsOf tR=6
 cRs:P.cellsOf tRs=1
 cT:P.cellsOf tT=2
 cTs:P.cellsOf tTs=1
 cS:P.cellsOf tS=1
 bE:1<=P.bytesOf tE
 bF:1<=P.bytesOf tF
 bR:1<=P.bytesOf tR
 bT:1<=P.bytesOf tT
section
variable {H:Type} {enc:TypeId×Value->H} {P:Program} {w:World} {sp:Nat->Bool} {held:Bool} {tS tTs tT tRs tR tFs tF tE tEs tI tN:TypeId} (K:ScT P tS tTs tT tRs tR tFs tF tE tEs tI tN)
include K
theorem yzk:∀ (n:Nat) (cs:List Value) (x:DataW H×List MemPlace),Wt P tE x.1->DataW.trod enc P w 0 sp held n tE cs=some x->∃ e:Ex,OkE e/\RVs (Old w) w (exC e) cs:=by
 intro n
 induction n using Nat.strongRecOn with
 | _ n ih=>
  intro cs x hw h;obtain ⟨f0,f1,f2,f3,hu,a0,b0,a1,b1,a2,b2,a3,b3⟩:=K.ex;obtain ⟨hl,m,rfl,hf⟩:=q4g hu hw h;rw [K.cE] at hl;obtain ⟨c0,c1,c2,c3,rfl⟩:∃ c0 c1 c2 c3,cs=[c0,c1,c2,c3]:=by
   match cs,hl with
   | [c0,c1,c2,c3],_=>exact ⟨_,_,_,_,rfl⟩
  obtain ⟨y0,w0,h0⟩:=hf 0 f0 rfl;obtain ⟨y1,w1,h1⟩:=hf 1 f1 rfl;obtain ⟨y2,w2,h2⟩:=hf 2 f2 rfl;obtain ⟨y3,w3,h3⟩:=hf 3 f3 rfl;rw [a0,b0,K.cI] at h0;rw [a1,b1,K.cN] at h1;rw [a2,b2,K.cN] at h2;rw [a3,b3,K.cEs] at h3;rw [a1] at w1;rw [a2] at w2;rw [a3] at w3;obtain ⟨z,e0⟩:=yk5 K.int h0;obtain ⟨s1,g1,e1⟩:=q3j K.str w1 h1;obtain ⟨s2,g2,e2⟩:=q3j K.str w2 h2;obtain ⟨l,v,g3,g4,e3,g5⟩:=q7j (enc':=exC) (good:=OkE) K.exs K.cE (by decide) ym6 K.bE w3 (fun k hk cs x hw h=>ih k (by omega) cs x hw h) h3
  simp at e0 e1 e2 e3;subst e0;subst e1;subst e2;subst e3;refine ⟨.mk z s1 s2 l,.mk z s1 s2 l g4 g1 g2 g3,?_⟩;rw [q0f];exact .cons (.int _ _) (.cons (.str _) (.cons (.str _) (.cons g5 .nil)))
theorem yzi {n:Nat} {cs:List Value} {x:DataW H×List MemPlace} (hw:Wt P tF x.1) (h:DataW.trod enc P w 0 sp held n tF cs=some x):∃ f:Rf,OkF f/\RVs (Old w) w (rfC f) cs:=by
 obtain ⟨f0,f1,hu,a0,b0,a1,b1⟩:=K.rf;obtain ⟨hl,m,rfl,hf⟩:=q4g hu hw h;rw [K.cF] at hl;obtain ⟨c0,c1,rfl⟩:∃ c0 c1,cs=[c0,c1]:=by
  match cs,hl with
  | [c0,c1],_=>exact ⟨_,_,rfl⟩
 obtain ⟨y0,w0,h0⟩:=hf 0 f0 rfl;obtain ⟨y1,w1,h1⟩:=hf 1 f1 rfl;rw [a0,b0,K.cN] at h0;rw [a1,b1,K.cN] at h1;rw [a0] at w0;rw [a1] at w1;obtain ⟨s1,g1,e1⟩:=q3j K.str w0 h0;obtain ⟨s2,g2,e2⟩:=q3j K.str w1 h1;simp at e1 e2;subst e1;subst e2;exact ⟨⟨s1,s2⟩,⟨g1,g2⟩,.cons (.str _) (.cons (.str _) .nil)⟩
theorem yzh {n:Nat} {cs:List Value} {x:DataW H×List MemPlace} (hw:Wt P tR x.1) (h:DataW.trod enc P w 0 sp held n tR cs=some x):∃ r:Rl,OkR r/\RVs (Old w) w (rlC r) cs:=by
 obtain ⟨f0,f1,f2,hu,a0,b0,a1,b1,a2,b2⟩:=K.rl;obtain ⟨hl,m,rfl,hf⟩:=q4g hu hw h;rw [K.cR] at hl;obtain ⟨c0,c1,c2,c3,c4,c5,rfl⟩:∃ c0 c1 c2 c3 c4 c5,cs=[c0,c1,c2,c3,c4,c5]:=by
  match cs,hl with
  | [c0,c1,c2,c3,c4,c5],_=>exact ⟨_,_,_,_,_,_,rfl⟩
 obtain ⟨y0,w0,h0⟩:=hf 0 f0 rfl;obtain ⟨y1,w1,h1⟩:=hf 1 f1 rfl;obtain ⟨y2,w2,h2⟩:=hf 2 f2 rfl;rw [a0,b0,K.cN] at h0;rw [a1,b1,K.cFs] at h1;rw [a2,b2,K.cE] at h2;rw [a0] at w0;rw [a1] at w1;rw [a2] at w2;obtain ⟨s1,g1,e1⟩:=q3j K.str w0 h0;obtain ⟨l,v,g3,g4,e3,g5⟩:=q7j (enc':=rfC) (good:=OkF) K.rfs K.cF (by decide) (fun _=>rfl) K.bF w1 (fun k _ cs x hw h=>yzi K hw h) h1
 obtain ⟨e,g6,g7⟩:=yzk K _ _ _ w2 h2;simp at e1 e3;subst e1;subst e3;exact ⟨⟨s1,l,e⟩,⟨g1,g4,g3,g6⟩,.cons (.str _) (.cons g5 g7)⟩
theorem yzf {n:Nat} {cs:List Value} {x:DataW H×List MemPlace} (hw:Wt P tT x.1) (h:DataW.trod enc P w 0 sp held n tT cs=some x):∃ t:Ty,OkT t/\RVs (Old w) w (tyC t) cs:=by
 obtain ⟨f0,f1,hu,a0,b0,a1,b1⟩:=K.ty;obtain ⟨hl,m,rfl,hf⟩:=q4g hu hw h;rw [K.cT] at hl;obtain ⟨c0,c1,rfl⟩:∃ c0 c1,cs=[c0,c1]:=by
  match cs,hl with
  | [c0,c1],_=>exact ⟨_,_,rfl⟩
 obtain ⟨y0,w0,h0⟩:=hf 0 f0 rfl;obtain ⟨y1,w1,h1⟩:=hf 1 f1 rfl;rw [a0,b0,K.cN] at h0;rw [a1,b1,K.cRs] at h1;rw [a0] at w0;rw [a1] at w1;obtain ⟨s1,g1,e1⟩:=q3j K.str w0 h0;obtain ⟨l,v,g3,g4,e3,g5⟩:=q7j (enc':=rlC) (good:=OkR) K.rls K.cR (by decide) y5p K.bR w1 (fun k _ cs x hw h=>yzh K hw h) h1
 simp at e1 e3;subst e1;subst e3;exact ⟨⟨s1,l⟩,⟨g1,g4,g3⟩,.cons (.str _) (.cons g5 .nil)⟩
theorem open_sc {v:Value} {d:DataW H} {ps:List MemPlace} (hw:Wt P tS d) (h:DataW.Trod enc P w 0 sp held tS v d ps) (hv:∃ vs,v=.agg vs):∃ s:List Ty,OkS s/\RV (Old w) w (scA s) v:=by
 obtain ⟨n,h⟩:=h;obtain ⟨vs,rfl⟩:=hv;obtain ⟨f0,hu,a0,b0⟩:=K.sc;obtain ⟨hl,m,rfl,hf⟩:=q4g (x:=(d,ps)) hu hw h;rw [K.cS] at hl;obtain ⟨y0,w0,h0⟩:=hf 0 f0 rfl;rw [a0,b0,K.cTs] at h0;rw [a0] at w0;obtain ⟨l,v,g3,g4,e3,g5⟩:=q7j (enc':=tyC) (good:=OkT) K.tys K.cT (by decide) (fun _=>rfl) K.bT w0 (fun k _ cs x hw h=>yzf K hw h) h0
 refine ⟨l,⟨g4,g3⟩,?_⟩;have hc:(Value.agg vs).cells.toList=vs.toList:=by simp [Value.cells]
 rw [hc] at hl e3;have hvs:vs.toList=[v]:=by
  match hq:vs.toList,hl with
  | [c],_=>rw [hq] at e3;simpa using e3
 refine .agg _ vs (by rw [<- Array.length_toList,hvs];rfl) fun i u hi=>?_
 match i,hi with
 | 0,hi=>
  simp at hi;subst hi;have:vs.getD 0 undef=v:=by
   have h9:vs=#[v]:=by
    apply Array.toList_inj.1
    rw [hvs]
   rw [h9];rfl
  rw [this];exact g5
end
open Go.ChangeShapes Go.WideShapes Go.RowKit
theorem ysg {R R':Nat->Prop} {S':q00} {w w':World} (h:Step R emp w R' S' w'):Below w.heap.size w w':=⟨h.os,h.tape,h.output,h.size,fun k hk=>(h.keep k hk rfl).1⟩
theorem yyw (w:World):Sim (Old w) emp w:=⟨fun b o h=>(by cases h),fun b h=>⟨rfl,h⟩⟩
theorem call_true {f:Nat} {args:List AV} {vs:Array Value} {w:World} (hok:q84 PG f=true) (h:y02 PG f args (.bool true)) (hv:RVs (Old w) w args vs.toList):Calls PG f vs w fun en w'=>en=.returned (.bool true)/\Below w.heap.size w w':=by
 refine ((h emp (Old w) w vs (yyw w) hv).calls hok).mono fun en w' ⟨R',S',ae,h1,h2,h3,h4⟩=>?_
 obtain ⟨rfl,rfl⟩:=h2;cases en with
 | returned v=>
  have h1:RV R' w' (.bool true) v:=h1;cases h1;exact ⟨rfl,ysg h4⟩
 | _=>exact h1.elim
section
variable {H:Type} {enc:TypeId×Value->H} {P:Program}
theorem q53 {W W':World} (hl:laidOutB P=true) (hb:Below W.heap.size W W') {sp':Nat->Bool}:∀ {ts:List TypeId} {vs:List Value} {ds:List (DataW H)} {ps:List MemPlace},(∀ t∈ts,P.readableRec t=true/\t<P.types.size)->DataW.TrodAll enc P W 0 (fun _=>true) true ts vs ds ps ->
  (∀ p∈ps,p.block<W.heap.size)->(∀ p∈ps,sp' p.block=true)->DataW.TrodAll enc P W' 0 sp' true ts vs ds ps
 | [],vs,ds,ps,_,h,_,_=>by
  obtain ⟨rfl,rfl,rfl⟩:=trodAll_nil h;exact trodAll_mk0
 | t :: ts,vs,ds,ps,ht,h,h1,h2=>by
  obtain ⟨v,vs1,d,ds1,a,b,rfl,rfl,rfl,k1,k2⟩:=trodAll_cons h;have ht0:=ht t (by simp)
  exact ⟨a,b,WideElems.Trod_stays hl ht0.1 ht0.2 k1 (fun p hp=>hb.same (h1 p (lX _ hp))) (fun p hp=>h2 p (lX _ hp)),
   q53 hl hb (fun t h=>ht t (lI _ h)) k2 (fun p hp=>h1 p (List.mem_append_right _ hp)) (fun p hp=>h2 p (List.mem_append_right _ hp)),rfl⟩
theorem post_kept {f:Func} {s:ChangeSpec} {apart fresh handsOn again:Bool} {W W':World} {args:Array Value} {ds gs:List (DataW H)} {before:List MemPlace} {tb:TypeId}
  (hl:laidOutB P=true) (hts:∀ t∈f.params.toList,P.readableRec t=true/\t<P.types.size) (hvars:s.vars=[])
  (hW:DataW.Whole enc P f.params.toList s.vars apart W args.toList ds gs before) (hfn:(s.fn H (ds++gs)).results=[.lit (.bool true)]/\(s.fn H (ds++gs)).args=ds/\(s.fn H (ds++gs)).vars=[])
  (hr:f.resultTypes=#[tb]) (hb:P.underlying tb=some .bool) (hB:Below W.heap.size W W'):s.post enc P f apart fresh handsOn again W args (.bool true) W':=by
 have hlt:=hW.lt;have hW0:=hW;obtain ⟨p,q,hA,hV,rfl,hz,hn⟩:=hW;rw [hvars] at hV;obtain ⟨rfl,rfl⟩:=trodVars_none hV;rw [lJ] at *;obtain ⟨e1,e2,e3⟩:=hfn;have hold:∀ x∈p,(fun b=>decide (b<W.heap.size)) x.block=true:=fun x hx=>by simpa using hlt x hx
 have hres:∀ (b:Nat) (sp:Nat->Bool) (hd:Bool),DataW.TrodAll enc P W' b sp hd f.resultTypes.toList ((Value.bool true).resultList f.resultTypes.size) [.lit (.bool true)] []:=fun b sp hd=>by
  rw [hr];exact trodAll_mk1 (shut_bool hb true)
 refine ⟨ds,[],p,[],p,[],hW0,by rw [lJ,e1];exact hres _ _ _,by rw [lJ,e2];exact q53 hl hB hts hA hlt hold,by rw [lJ,hvars,e3];exact rfl,hB.frame _,fun _=>?_⟩
 refine ⟨ok_one hr rfl (okWide_bool_mk hb true),_,[],([]++p)++[],⟨[]++p,[],trodAll_append (q53 hl hB hts hA hlt (fun _ _=>rfl)) (hres _ _ _),by rw [hvars];exact rfl,rfl,?_,?_⟩,?_⟩
 ·intro b off hp;have hp:MemPlace.cell b off∈p:=by simpa using hp
  rw [hB.frozen (p:=⟨b,off,none⟩) (hlt _ hp)];exact hz b off hp
 ·intro ha;simpa using hn ha
 ·intro x hx _;simpa using hx
end
structure TuT (P:Program) (tL tU tD tO tN:TypeId):Prop where
 str:P.underlying tN=some .string
 ob:∃ f0 f1,P.underlying tO=some (.struct #[f0,f1])/\f0.type=tN/\f0.offset=0/\f1.type=tN/\f1.offset=1
 nd:∃ f0 f1,P.underlying tD=some (.struct #[f0,f1])/\f0.type=tO/\f0.offset=0/\f1.type=tN/\f1.offset=2
 tu:∃ f0 f1 f2,P.underlying tU=some (.struct #[f0,f1,f2])/\f0.type=tO/\f0.offset=0/\f1.type=tN/\f1.offset=2/\f2.type=tD/\f2.offset=3
 tus:P.underlying tL=some (.slice tU)
 cN:P.cellsOf tN=1
 cO:P.cellsOf tO=2
 cD:P.cellsOf tD=3
 cU:P.cellsOf tU=6
 bU:1<=P.bytesOf tU
section
variable {H:Type} {enc:TypeId×Value->H} {P:Program} {w:World} {sp:Nat->Bool} {held:Bool} {tL tU tD tO tN:TypeId} (K:TuT P tL tU tD tO tN)
include K
theorem ybf {n:Nat} {cs:List Value} {x:DataW H×List MemPlace} (hw:Wt P tO x.1) (h:DataW.trod enc P w 0 sp held n tO cs=some x):∃ o:Ob,OkO o/\cs=[.string o.ty,.string o.id]:=by
 obtain ⟨f0,f1,hu,a0,b0,a1,b1⟩:=K.ob;obtain ⟨hl,m,rfl,hf⟩:=q4g hu hw h;rw [K.cO] at hl;obtain ⟨c0,c1,rfl⟩:∃ c0 c1,cs=[c0,c1]:=by
  match cs,hl with
  | [c0,c1],_=>exact ⟨_,_,rfl⟩
 obtain ⟨y0,w0,h0⟩:=hf 0 f0 rfl;obtain ⟨y1,w1,h1⟩:=hf 1 f1 rfl;rw [a0,b0,K.cN] at h0;rw [a1,b1,K.cN] at h1;rw [a0] at w0;rw [a1] at w1;obtain ⟨s1,g1,e1⟩:=q3j K.str w0 h0;obtain ⟨s2,g2,e2⟩:=q3j K.str w1 h1;simp at e1 e2;subst e1;subst e2;exact ⟨⟨s1,s2⟩,⟨g1,g2⟩,rfl⟩
theorem yzj {n:Nat} {cs:List Value} {x:DataW H×List MemPlace} (hw:Wt P tD x.1) (h:DataW.trod enc P w 0 sp held n tD cs=some x):∃ o:Nd,OkD o/\cs=[.string o.o.ty,.string o.o.id,.string o.rl]:=by
 obtain ⟨f0,f1,hu,a0,b0,a1,b1⟩:=K.nd;obtain ⟨hl,m,rfl,hf⟩:=q4g hu hw h;rw [K.cD] at hl;obtain ⟨c0,c1,c2,rfl⟩:∃ c0 c1 c2,cs=[c0,c1,c2]:=by
  match cs,hl with
  | [c0,c1,c2],_=>exact ⟨_,_,_,rfl⟩
 obtain ⟨y0,w0,h0⟩:=hf 0 f0 rfl;obtain ⟨y1,w1,h1⟩:=hf 1 f1 rfl;rw [a0,b0,K.cO] at h0;rw [a1,b1,K.cN] at h1;rw [a0] at w0;rw [a1] at w1;obtain ⟨o,g1,e1⟩:=ybf K w0 h0;obtain ⟨s2,g2,e2⟩:=q3j K.str w1 h1;simp at e1 e2;obtain ⟨rfl,rfl⟩:=e1;subst e2;exact ⟨⟨o,s2⟩,⟨g1,g2⟩,rfl⟩
theorem yzg {n:Nat} {cs:List Value} {x:DataW H×List MemPlace} (hw:Wt P tU x.1) (h:DataW.trod enc P w 0 sp held n tU cs=some x):∃ t:Tu,OkU t/\RVs (Old w) w (tuC t) cs:=by
 obtain ⟨f0,f1,f2,hu,a0,b0,a1,b1,a2,b2⟩:=K.tu;obtain ⟨hl,m,rfl,hf⟩:=q4g hu hw h;rw [K.cU] at hl;obtain ⟨c0,c1,c2,c3,c4,c5,rfl⟩:∃ c0 c1 c2 c3 c4 c5,cs=[c0,c1,c2,c3,c4,c5]:=by
  match cs,hl with
  | [c0,c1,c2,c3,c4,c5],_=>exact ⟨_,_,_,_,_,_,rfl⟩
 obtain ⟨y0,w0,h0⟩:=hf 0 f0 rfl;obtain ⟨y1,w1,h1⟩:=hf 1 f1 rfl;obtain ⟨y2,w2,h2⟩:=hf 2 f2 rfl;rw [a0,b0,K.cO] at h0;rw [a1,b1,K.cN] at h1;rw [a2,b2,K.cD] at h2;rw [a0] at w0;rw [a1] at w1;rw [a2] at w2;obtain ⟨o,g1,e1⟩:=ybf K w0 h0;obtain ⟨r,g2,e2⟩:=q3j K.str w1 h1;obtain ⟨s,g3,e3⟩:=yzj K w2 h2;simp at e1 e2 e3;obtain ⟨rfl,rfl⟩:=e1;subst e2;obtain ⟨rfl,rfl,rfl⟩:=e3;exact ⟨⟨o,r,s⟩,⟨g1,g2,g3⟩,.cons (.str _) (.cons (.str _) (.cons (.str _) (.cons (.str _) (.cons (.str _) (.cons (.str _) .nil)))))⟩
theorem open_obj {v:Value} {d:DataW H} {ps:List MemPlace} (hw:Wt P tO d) (h:DataW.Trod enc P w 0 sp held tO v d ps) (hv:∃ vs,v=.agg vs):∃ o:Ob,OkO o/\RV (Old w) w (.agg (obC o)) v:=by
 obtain ⟨n,h⟩:=h;obtain ⟨vs,rfl⟩:=hv;obtain ⟨o,g,e⟩:=ybf K (x:=(d,ps)) hw h;have hc:(Value.agg vs).cells.toList=vs.toList:=by simp [Value.cells]
 rw [hc] at e;have h9:vs=#[.string o.ty,.string o.id]:=Array.toList_inj.1 (by rw [e])
 subst h9;refine ⟨o,g,.agg _ _ rfl fun i u hi=>?_⟩
 match i,hi with
 | 0,hi=>simp [obC] at hi;subst hi;exact .str _
 | 1,hi=>simp [obC] at hi;subst hi;exact .str _
theorem open_tus {v:Value} {d:DataW H} {ps:List MemPlace} (hw:Wt P tL d) (h:DataW.Trod enc P w 0 sp held tL v d ps) (hv:∃ a b c,v=.slice a b c):∃ l:List Tu,(∀ t∈l,OkU t)/\RV (Old w) w (.sl 6 (l.map tuC)) v:=by
 obtain ⟨n,h⟩:=h;obtain ⟨a,b,c,rfl⟩:=hv;obtain ⟨l,v,g1,g2,e,g3⟩:=q7j (enc':=tuC) (good:=OkU) (x:=(d,ps)) K.tus K.cU (by decide) (fun _=>rfl) K.bU hw (fun k _ cs x hw h=>yzg K hw h) h
 have:v=.slice a b c:=by
  have:=congrArg List.head? e;simpa [Value.cells] using this.symm
 subst this;exact ⟨l,g1,g3⟩
end
end Go.HL
namespace Go.Proofs.YtadmdlpmikoghaaGreat
open Go.ChangeShapes Go.WideShapes Go.ChangeAt Go.RowKit Go.HL
theorem own:ownKnob Tryz.prog.godebug=none:=by kernel_rfl
theorem laidOut:laidOutB Tryz.prog=true:=by kernel_rfl
theorem scT:ScT Tryz.prog 24 22 46 44 53 48 171 51 49 3 9 where
 int:=Tryz.underlying3
 str:=Tryz.underlying9
 ex:=⟨_,_,_,_,Tryz.underlying51,rfl,rfl,rfl,rfl,rfl,rfl,rfl,rfl⟩
 exs:=Tryz.underlying49
 rf:=⟨_,_,Tryz.underlying171,rfl,rfl,rfl,rfl⟩
 rfs:=Tryz.underlying48
 rl:=⟨_,_,_,Tryz.underlying53,rfl,rfl,rfl,rfl,rfl,rfl⟩
 rls:=Tryz.underlying44
 ty:=⟨_,_,Tryz.underlying46,rfl,rfl,rfl,rfl⟩
 tys:=Tryz.underlying22
 sc:=⟨_,Tryz.underlying24,rfl,rfl⟩
 cI:=by kernel_rfl
 cN:=by kernel_rfl
 cE:=by kernel_rfl
 cEs:=by kernel_rfl
 cF:=by kernel_rfl
 cFs:=by kernel_rfl
 cR:=by kernel_rfl
 cRs:=by kernel_rfl
 cT:=by kernel_rfl
 cTs:=by kernel_rfl
 cS:=by kernel_rfl
 bE:=of_decide_eq_true (by kernel_rfl)
 bF:=of_decide_eq_true (by kernel_rfl)
 bR:=of_decide_eq_true (by kernel_rfl)
 bT:=of_decide_eq_true (by kernel_rfl)
theorem tuT:TuT Tryz.prog 25 41 39 27 9 where
 str:=Tryz.underlying9
 ob:=⟨_,_,Tryz.underlying27,rfl,rfl,rfl,rfl⟩
 nd:=⟨_,_,Tryz.underlying39,rfl,rfl,rfl,rfl⟩
 tu:=⟨_,_,_,Tryz.underlying41,rfl,rfl,rfl,rfl,rfl,rfl⟩
 tus:=Tryz.underlying25
 cN:=by kernel_rfl
 cO:=by kernel_rfl
 cD:=by kernel_rfl
 cU:=by kernel_rfl
 bU:=of_decide_eq_true (by kernel_rfl)
theorem weights_one {H:Type} {P:Program} {t:TypeId} {d:DataW H} {ts:List TypeId} {ds:List (DataW H)} (h:(DataW.weightsEach P (t :: ts) (d :: ds)).all (·<=reachBytes)=true):Wt P t d/\(DataW.weightsEach P ts ds).all (·<=reachBytes)=true:=by
 simp only [DataW.weightsEach,List.all_append,Bool.and_eq_true,List.all_eq_true,decide_eq_true_eq] at h;refine ⟨h.1,?_⟩;rw [List.all_eq_true];exact fun x hx=>decide_eq_true (h.2 x hx)
theorem trodAll_seven {H:Type} {enc:TypeId×Value->H} {P:Program} {w:World} {base:Nat} {spare:Nat->Bool} {held:Bool} {t0 t1 t2 t3 t4 t5 t6:TypeId} {args:Array Value} {ds:List (DataW H)} {ps:List MemPlace} (h:DataW.TrodAll enc P w base spare held [t0,t1,t2,t3,t4,t5,t6] args.toList ds ps) :
  ∃ v0 v1 v2 v3 v4 v5 v6 d0 d1 d2 d3 d4 d5 d6 p0 p1 p2 p3 p4 p5 p6,args=#[v0,v1,v2,v3,v4,v5,v6]/\ds=[d0,d1,d2,d3,d4,d5,d6]/\ps=p0++(p1++(p2++(p3++(p4++(p5++(p6))))))/\DataW.Trod enc P w base spare held t0 v0 d0 p0/\DataW.Trod enc P w base spare held t1 v1 d1 p1/\DataW.Trod enc P w base spare held t2 v2 d2 p2/\DataW.Trod enc P w base spare held t3 v3 d3 p3/\DataW.Trod enc P w base spare held t4 v4 d4 p4/\DataW.Trod enc P w base spare held t5 v5 d5 p5/\DataW.Trod enc P w base spare held t6 v6 d6 p6:=by
 obtain ⟨v0,vs0,d0,ds0,p0,q0,hargs,rfl,rfl,h0,g0⟩:=trodAll_cons h;obtain ⟨v1,vs1,d1,ds1,p1,q1,rfl,rfl,rfl,h1,g1⟩:=trodAll_cons g0;obtain ⟨v2,vs2,d2,ds2,p2,q2,rfl,rfl,rfl,h2,g2⟩:=trodAll_cons g1;obtain ⟨v3,vs3,d3,ds3,p3,q3,rfl,rfl,rfl,h3,g3⟩:=trodAll_cons g2;obtain ⟨v4,vs4,d4,ds4,p4,q4,rfl,rfl,rfl,h4,g4⟩:=trodAll_cons g3;obtain ⟨v5,vs5,d5,ds5,p5,q5,rfl,rfl,rfl,h5,g5⟩:=trodAll_cons g4;obtain ⟨v6,vs6,d6,ds6,p6,q6,rfl,rfl,rfl,h6,g6⟩:=trodAll_cons g5;obtain ⟨rfl,rfl,rfl⟩:=trodAll_nil g6;exact ⟨v0,v1,v2,v3,v4,v5,v6,d0,d1,d2,d3,d4,d5,d6,p0,p1,p2,p3,p4,p5,p6,by cases args;simp_all,rfl,by simp,h0,h1,h2,h3,h4,h5,h6⟩
end Go.Proofs.YtadmdlpmikoghaaGreat
namespace Go.Proofs.YtadmdlpmikoghaaGreat
open Go.ChangeShapes Go.WideShapes Go.ChangeAt Go.RowKit Go.HL
set_option maxRecDepth 100000 in
theorem listsHold_lifted (os:Os) (started:os.Started) (H:Type) (enc:TypeId×Value->H) :
  ReturnsInHanded {} Tryz.checked os 15 .any (fun w args=>(Rows.listsHoldSpec.pre enc Tryz.prog Tryz.f15 Rows.listsHoldRow.domain false w args/\True)/\sizedMet enc Tryz.prog Tryz.f15 (OpenSpec.ofChange Rows.listsHoldSpec) false w args)
   (Rows.listsHoldSpec.post enc Tryz.prog Tryz.f15 false true false false):=by
 refine returnsInHanded_of_change_and (C:=Tryz.checked) (X:=fun _ _=>True) (fun _ _ _ _ h=>h) own started (by kernel_rfl) Tryz.func15
  (by
   obtain ⟨w,t,i,h1,h2,h3,h4,h5,h6⟩:=ChangeSpec.witness6 (enc:=enc) (C:=Tryz.checked) (os:=os) (f:=15) (fn:=Tryz.f15) (s:=Rows.listsHoldSpec) (conds:=Rows.listsHoldRow.domain) (apart:=false) false ⟨#[],#[.agg #[.slice none 0 0],.slice none 0 0,.string ⟨#[]⟩,.agg #[.string ⟨#[]⟩,.string ⟨#[]⟩],.string ⟨#[]⟩,.agg #[.string ⟨#[]⟩,.string ⟨#[]⟩],.int .i64 0],[]⟩ 8 (by kernel_rfl) (by kernel_rfl) (by kernel_rfl) (by kernel_rfl)
   exact ⟨w,t,i,h1,h2,h3,h4,⟨⟨h5.1,trivial⟩,h5.2⟩,h6⟩) ?_
 intro W base args ds gs before hval0 hW hcnd hsz0 _ _;have hval:∀ (j:Nat) t v,Tryz.f15.params[j]?=some t->args[j]?=some v->Value.okWide Tryz.prog W .any base t v:=hval0;have hsz:(DataW.weightsEach Tryz.prog (Tryz.f15.params.toList++[]) (ds++gs)).all (·<=reachBytes)=true:=hsz0;have hW':=hW;obtain ⟨p,q,hA0,hV,rfl,hfz,hnd⟩:=hW;have hA:DataW.TrodAll enc Tryz.prog W 0 (fun _=>true) true Tryz.f15.params.toList args.toList ds p:=hA0
 rw [Tryz.params15] at hA hval hsz;obtain ⟨v0,v1,v2,v3,v4,v5,v6,d0,d1,d2,d3,d4,d5,d6,p0,p1,p2,p3,p4,p5,p6,rfl,rfl,rfl,h0,h1,h2,h3,h4,h5,h6⟩:=trodAll_seven hA;obtain ⟨rfl,rfl⟩:=trodVars_none hV;obtain ⟨w0,hsz⟩:=weights_one hsz;obtain ⟨w1,hsz⟩:=weights_one hsz;obtain ⟨-,hsz⟩:=weights_one hsz;obtain ⟨w3,hsz⟩:=weights_one hsz;obtain ⟨-,hsz⟩:=weights_one hsz;obtain ⟨w5,hsz⟩:=weights_one hsz;obtain ⟨-,hsz⟩:=weights_one hsz;obtain ⟨vs0,hvs0,-⟩:=okWide_struct Tryz.underlying24 (hval 0 24 v0 rfl rfl);obtain ⟨a0,hs0,hv0⟩:=open_sc scT w0 h0 ⟨vs0,hvs0⟩;obtain ⟨a1,hs1,hv1⟩:=open_tus tuT w1 h1 (okWide_slice Tryz.underlying25 (hval 1 25 v1 rfl rfl));obtain ⟨a2,rfl,-,-,-⟩:=Go.ChangeMaps.open_string Tryz.underlying9 (hval 2 9 v2 rfl rfl) h2;obtain ⟨vs3,hvs3,-⟩:=okWide_struct Tryz.underlying27 (hval 3 27 v3 rfl rfl);obtain ⟨a3,hs3,hv3⟩:=open_obj tuT w3 h3 ⟨vs3,hvs3⟩;obtain ⟨a4,rfl,-,-,-⟩:=Go.ChangeMaps.open_string Tryz.underlying9 (hval 4 9 v4 rfl rfl) h4;obtain ⟨vs5,hvs5,-⟩:=okWide_struct Tryz.underlying27 (hval 5 27 v5 rfl rfl);obtain ⟨a5,hs5,hv5⟩:=open_obj tuT w5 h5 ⟨vs5,hvs5⟩;obtain ⟨a6,rfl,rfl,rfl,-⟩:=Go.ChangeShapes.open_int Tryz.underlying3 (hval 6 3 v6 rfl rfl) h6;clear hA0 hval0 hsz0;refine (call_true (by kernel_rfl) (c_ListsHold hs0 hs1 a2 a3 a4 a5 a6) (vs:=#[v0,v1,.string a2,v3,.string a4,v5,.int .i64 a6]) (.cons hv0 (.cons hv1 (.cons (.str _) (.cons hv3 (.cons (.str _) (.cons hv5 (.cons (.int _ _) .nil)))))))).mono fun e W' ⟨he,hB⟩=>?_
 subst he;have hts:(Tryz.f15.params.toList.all fun t=>Tryz.prog.readableRec t&&decide (t<Tryz.prog.types.size))=true:=by kernel_rfl
 exact ⟨_,rfl,post_kept laidOut (fun t ht=>by have h:=List.all_eq_true.1 hts t ht;rw [Bool.and_eq_true] at h;exact ⟨h.1,of_decide_eq_true h.2⟩) rfl hW' ⟨rfl,rfl,rfl⟩ (tb:=4) (by kernel_rfl) Tryz.underlying4 hB⟩
set_option maxRecDepth 100000 in
theorem listsHold_p0:(Rows.listsHoldRow.inPlace==Tryz.pinned.checked.prog.inPlace 15)=true:=by kernel_rfl
set_option maxRecDepth 100000 in
theorem listsHold_p1:(Rows.listsHoldRow.unfollowed==Tryz.pinned.checked.prog.unfollowed 15)=true:=by kernel_rfl
set_option maxRecDepth 100000 in
theorem listsHold_p2:(Rows.listsHoldRow.recurses==Tryz.pinned.checked.prog.recurses 15)=true:=by kernel_rfl
set_option maxRecDepth 100000 in
theorem listsHold_p3:(Rows.listsHoldRow.named==Tryz.pinned.checked.prog.varsNamed 15)=true:=by kernel_rfl
set_option maxRecDepth 100000 in
theorem listsHold_p4:laidOutB Tryz.pinned.checked.prog=true:=by kernel_rfl
set_option maxRecDepth 100000 in
theorem listsHold_p5:mapsRowed Tryz.pinned.checked.prog=true:=by kernel_rfl
set_option maxRecDepth 100000 in
theorem listsHold_p6:Tryz.pinned.checked.prog.stopsHeard=true:=by kernel_rfl
set_option maxRecDepth 100000 in
theorem listsHold_p7:Tryz.pinned.checked.prog.mayEnter=true:=by kernel_rfl
set_option maxRecDepth 100000 in
theorem listsHold_closed:joinedFacts Tryz.pinned.checked.prog 15 Tryz.f15 Rows.listsHoldSpec Rows.listsHoldRow=true:=by
 unfold joinedFacts;rw [listsHold_p0,listsHold_p1,listsHold_p2,listsHold_p3,listsHold_p4,listsHold_p5,listsHold_p6,listsHold_p7]
 kernel_rfl
theorem listsHold_holds:Rows.ListsHoldSaid:=
 OpenClaim.holds_of_wide 15 Tryz.f15 rfl rfl rfl rfl rfl rfl rfl ⟨rfl,rfl,rfl,rfl,rfl⟩ rfl rfl rfl rfl rfl (by kernel_rfl) Tryz.func15 listsHold_closed
  (of_decide_eq_true (by kernel_rfl)) (by unfold Func.isWrapper;first | (rw [if_pos (by decide +kernel)];kernel_rfl) | (rw [if_neg (by decide +kernel)];exact ⟨rfl,rfl⟩))
  (fun os started H enc _=>by
   have h:=listsHold_lifted os started H enc;simp only [and_true] at h;exact h)
end Go.Proofs.YtadmdlpmikoghaaGreat
