/- The law EngineHolds returns true for every input and leaves it as it was; no conditions. -/
import Derived.Test.YtadmdlpmikoghaaGreatKhM2
import Derived.Test.YtadmdlpmikoghaaGreatKhHlS3
import Derived.Test.YtadmdlpmikoghaaGreatKhHlS6
import Derived.Test.YtadmdlpmikoghaaGreatKhHlS9
import Derived.Test.YtadmdlpmikoghaaGreatKhHlS1
import Derived.Test.YtadmdlpmikoghaaGreatKhHlS10
import Derived.Test.YtadmdlpmikoghaaGreatKhHlS2
import Derived.Test.YtadmdlpmikoghaaGreatKhHlS5
import Derived.Test.YtadmdlpmikoghaaGreatKhHlS8
import Derived.Test.YtadmdlpmikoghaaGreatKhHlS4
import Derived.Test.YtadmdlpmikoghaaGreatKhHlS7
import Derived.Test.YtadmdlpmikoghaaGreatKhHlS13
import Derived.Test.YtadmdlpmikoghaaGreatKhHlS0
import Derived.Test.YtadmdlpmikoghaaGreatKhM1
import Derived.Test.YtadmdlpmikoghaaGreatKhHlL
import Derived.ProofKit
import Derived.Carry
import Derived.Handed
import Derived.Test.YtadmdlpmikoghaaGreatRows
set_option linter.unusedVariables false
set_option linter.unusedSimpArgs false
namespace Go.HL
open Nat renaming reduceAdd→zA,reduceLeDiff→zB,reduceLT→zC,reduceSub→zD,reduceMul→zE,reduceEqDiff→zF,reduceBEq→zG
open Int renaming reduceAdd→zH,reduceToNat→zI
structure RsSt (T:List Tk) (r:Rd) (p:List Rl×Rd):Prop where
  st:StepR T r p.2 0
  len:p.1.length≤p.2.at'
  ok:∀ x∈p.1,OkR x
  sz:p.2.de=0→∀ x∈p.1,rsz x≤p.2.at'
theorem rels_next {T:List Tk} (hT:OkTk T) {r0 r:Rd} (hp0:Pre T 12 r0) {l:List Rl} (h:RsSt T r0 (l,r)) :
    ((relP T r).1.2=true→RsSt T r0 (l++[(relP T r).1.1],(relP T r).2)∧r.at'+1≤(relP T r).2.at')∧RsSt T r0 (l,(relP T r).2):=by
  have hp:=h.st.pre hp0
  obtain ⟨h1,h2,h3⟩:=rel_ok hT hp
  have h5:=h.len
  have h6:=h1.mono
  dsimp only at h1 h5 h6 hp
  refine ⟨fun hf=>⟨⟨(h.st.trans h1).le (by omega),?_,fun x hx=>?_,fun h0 x hx=>?_⟩,h3 hf⟩,⟨(h.st.trans h1).le (by omega),by dsimp only;omega,h.ok,fun h0 x hx=>?_⟩⟩
  · have:=h3 hf
    dsimp only at this
    simp only [List.length_append,List.length_cons,List.length_nil]
    omega
  · rcases List.mem_append.1 hx with hx | hx
    · exact h.ok x hx
    · rw [List.mem_singleton.1 hx];exact h2
  · dsimp only at h0 ⊢
    rcases List.mem_append.1 hx with hx | hx
    · have:=h.sz (h1.fault h0) x hx
      dsimp only at this
      omega
    · rw [List.mem_singleton.1 hx]
      have:=h1.sz h0
      rw [if_pos hf] at this
      omega
  · dsimp only at h0 ⊢
    have:=h.sz (h1.fault h0) x hx
    dsimp only at this
    omega
theorem relsL_ok {T:List Tk} (hT:OkTk T) {r0:Rd} (hp0:Pre T 12 r0):∀ {f:Nat} {p:List Rl×Rd},RsSt T r0 p→RsSt T r0 (relsL T f p)
  | 0,p,h=>h
  | f+1,(l,r),h=>by
    obtain ⟨k1,k2⟩:=rels_next hT hp0 h
    unfold relsL
    split
    · rename_i hi
      exact relsL_ok hT hp0 (k1 hi).1
    · exact k2
theorem relsL_more {T:List Tk} (hT:OkTk T) {r0:Rd} (hp0:Pre T 12 r0):∀ {f g:Nat} {p:List Rl×Rd},RsSt T r0 p→T.length≤f+p.2.at'→T.length≤g+p.2.at'→relsL T f p=relsL T g p
  | 0,g,p,h,h1,h2=>by have h3:p.2.at'<T.length:=h.st.inr;omega
  | f+1,0,p,h,h1,h2=>by have h3:p.2.at'<T.length:=h.st.inr;omega
  | f+1,g+1,(l,r),h,h1,h2=>by
    dsimp only at h1 h2
    obtain ⟨k1,k2⟩:=rels_next hT hp0 h
    unfold relsL
    split
    · rename_i hi
      obtain ⟨k3,k4⟩:=k1 hi
      exact relsL_more hT hp0 k3 (by dsimp only;omega) (by dsimp only;omega)
    · rfl
structure TsSt (T:List Tk) (p:List Ty×Rd):Prop where
  pre:Pre T 12 p.2
  len:p.1.length≤p.2.at'
  ok:∀ t∈p.1,OkT t
  sz:p.2.de=0→∀ t∈p.1,∀ x∈t.rels,rsz x≤p.2.at'
theorem types_next {T:List Tk} (hT:OkTk T) {l:List Ty} {r:Rd} (h:TsSt T (l,r)) (hi:isP T wType r=true) :
    Pre T 12 (isR T wType r)∧Pre T 12 (nameR T (isR T wType r))∧RsSt T (nameR T (isR T wType r)) (relsL T T.length ([],nameR T (isR T wType r))) ∧
    TsSt T (l++[⟨nameP T (isR T wType r),(relsL T T.length ([],nameR T (isR T wType r))).1⟩],(relsL T T.length ([],nameR T (isR T wType r))).2)∧r.at'+1≤(relsL T T.length ([],nameR T (isR T wType r))).2.at':=by
  have hp:Pre T 12 r:=h.pre
  have h1:=is_step hT hp hi (by decide +kernel) (by decide +kernel)
  have hp1:=h1.pre hp
  have h2:=name_step hT hp1
  have hp2:=h2.pre hp1
  have e1:(isR T wType r).at'=r.at'+1:=by rw [isR,if_pos hi]
  have hR:=relsL_ok hT hp2 (f:=T.length) (p:=([],nameR T (isR T wType r))) ⟨StepR.refl hp2,Nat.zero_le _,fun x hx=>(by cases hx),fun _ x hx=>(by cases hx)⟩
  have hn:=name_size hT hp1.inr
  generalize relsL T T.length ([],nameR T (isR T wType r))=p at hR
  obtain ⟨rs,r3⟩:=p
  have m1:=h2.mono
  have m2:=hR.st.mono
  have m3:=hR.len
  have m4:=h.len
  have hin:r3.at'<T.length:=hR.st.inr
  have hTl:=hT.len
  dsimp only at m2 m3 m4 ⊢
  refine ⟨hp1,hp2,hR,⟨hR.st.pre hp2,?_,fun t ht=>?_,fun h0 t ht x hx=>?_⟩,by omega⟩
  · simp only [List.length_append,List.length_cons,List.length_nil];omega
  · rcases List.mem_append.1 ht with ht | ht
    · exact h.ok t ht
    · rw [List.mem_singleton.1 ht]
      exact ⟨hn,by dsimp only;omega,hR.ok⟩
  · dsimp only at h0 ⊢
    rcases List.mem_append.1 ht with ht | ht
    · have:=h.sz (h1.fault (h2.fault (hR.st.fault h0))) t ht x hx
      dsimp only at this
      omega
    · rw [List.mem_singleton.1 ht] at hx
      exact hR.sz h0 x hx
theorem typesL_ok {T:List Tk} (hT:OkTk T):∀ {f:Nat} {p:List Ty×Rd},TsSt T p→TsSt T (typesL T f p)
  | 0,p,h=>h
  | f+1,(l,r),h=>by
    unfold typesL
    split
    · rename_i hi
      exact typesL_ok hT (types_next hT h hi).2.2.2.1
    · exact h
theorem typesL_more {T:List Tk} (hT:OkTk T):∀ {f g:Nat} {p:List Ty×Rd},TsSt T p→T.length≤f+p.2.at'→T.length≤g+p.2.at'→typesL T f p=typesL T g p
  | 0,g,p,h,h1,h2=>by have h3:p.2.at'<T.length:=h.pre.inr;omega
  | f+1,0,p,h,h1,h2=>by have h3:p.2.at'<T.length:=h.pre.inr;omega
  | f+1,g+1,(l,r),h,h1,h2=>by
    dsimp only at h1 h2
    unfold typesL
    split
    · rename_i hi
      obtain ⟨-,-,-,k3,k4⟩:=types_next hT h hi
      exact typesL_more hT k3 (by dsimp only;omega) (by dsimp only;omega)
    · rfl
theorem pre0 {T:List Tk} (h:0<T.length):Pre T 12 rd0:=⟨h,by decide,by decide,fun _=>by decide⟩
theorem ts0 {T:List Tk} (h:0<T.length):TsSt T ([],rd0):=⟨pre0 h,Nat.zero_le _,fun t ht=>(by cases ht),fun _ t ht=>(by cases ht)⟩
theorem end_step {T:List Tk} {r:Rd} (hp:Pre T 12 r):StepR T r (endR T r) 0:=by
  unfold endR
  split
  · exact fail_step _ (by decide) 0 (StepR.refl hp)
  · exact StepR.refl hp
theorem parseT_ok {T:List Tk} (hT:OkTk T) (h:0<T.length):OkS (parseT T).1∧∀ t∈(parseT T).1,∀ x∈t.rels,rsz x≤T.length:=by
  have hR:=typesL_ok hT (f:=T.length) (ts0 h)
  have hin:(typesL T T.length ([],rd0)).2.at'<T.length:=hR.pre.inr
  have hl:=hR.len
  have hTl:=hT.len
  unfold parseT
  split
  · rename_i h0
    refine ⟨⟨by dsimp only;omega,hR.ok⟩,fun t ht x hx=>?_⟩
    have:=hR.sz ((end_step hR.pre).fault h0) t ht x hx
    omega
  · exact ⟨⟨Nat.zero_le _,fun t ht=>(by cases ht)⟩,fun t ht=>(by cases ht)⟩
end Go.HL
set_option linter.unusedVariables false
set_option linter.unusedSimpArgs false
set_option maxRecDepth 4000
namespace Go.HL
open Nat renaming reduceAdd→zA,reduceLeDiff→zB,reduceLT→zC,reduceSub→zD,reduceMul→zE,reduceEqDiff→zF,reduceBEq→zG
open Int renaming reduceAdd→zH,reduceToNat→zI
def Apart (u v:AV):Prop:=∀ b off n cap,v=.own b off n cap→Aside u b
theorem LstN.keep {S0 S S':Store} {t sz:Nat} {u u' v:AV} {rows:List (List AV)} (h:LstN S0 S t sz v rows) (ha:Apart u v) (hk:∀ c o,sget S c=some o→Aside u c→sget S' c=some o∧Aside u' c):LstN S0 S' t sz v rows∧Apart u' v:=by
  obtain ⟨hr,⟨rfl,rfl⟩ | ⟨b,cap,rfl,h1,h2,h3⟩⟩:=h
  · exact ⟨.nil,fun b off n cap h=>by cases h⟩
  · obtain ⟨k1,k2⟩:=hk b _ h2 (ha b 0 _ _ rfl)
    exact ⟨⟨hr,.inr ⟨b,cap,rfl,h1,k1,h3⟩⟩,fun b' off n cap h=>by cases h;exact k2⟩
theorem Apart.symm {u v:AV} (h:Apart u v):Apart v u:=fun b off n cap hu b' off' n' cap' hv=>Ne.symm (h b' off' n' cap' hv b off n cap hu)
theorem apart_nils {v:AV}:Apart .nils v:=fun b off n cap _=>aside_nils
structure PrI (S:Store) (bR b2 b3 b5:Nat) (T:List Tk) (v:AV) (p:List Ty×Rd) (S':Store):Prop where
  rd:sget S' bR=some (rdO T p.2)
  c2:sget S' b2=some (.cells 24 [.nils] 1)
  c3:sget S' b3=some (.cells 82 [.int .i64 0,.int .i64 0,.int .i64 0] 3)
  c5:sget S' b5=some (.cells 24 [v] 1)
  lst:LstN S S' 46 2 v (p.1.map tyC)
  asd:∀ c∈[bR,b2,b3,b5],Aside v c
  sub:Sub S S'
theorem PrI.mv {S S':Store} {bR b2 b3 b5:Nat} {T:List Tk} {v:AV} {l:List Ty} {r:Rd} (h:PrI S bR b2 b3 b5 T v (l,r) S') (hd:[bR,b2,b3,b5].Nodup) (hR:sget S bR=none) (r':Rd):PrI S bR b2 b3 b5 T v (l,r') (supd S' bR (rdO T r')):=by
  simp only [List.nodup_cons,List.mem_cons,not_or,List.not_mem_nil,or_false,not_false_eq_true,List.nodup_nil,and_true] at hd
  obtain ⟨⟨n2,n3,n5⟩,⟨m3,m5⟩,l5⟩:=hd
  exact ⟨by rw [sget_supd,if_pos rfl],by rw [sget_supd,if_neg n2];exact h.c2,by rw [sget_supd,if_neg n3];exact h.c3,by rw [sget_supd,if_neg n5];exact h.c5,h.lst.upd (h.asd bR (by simp)) _,h.asd,h.sub.supd hR⟩
structure PrJ (S:Store) (bR b2 b3 b5 b6:Nat) (T:List Tk) (v u:AV) (nm:ByteArray) (l:List Ty) (p:List Rl×Rd) (S':Store):Prop where
  out:PrI S bR b2 b3 b5 T v (l,p.2) S'
  c6:sget S' b6=some (.cells 46 [.str nm,u] 2)
  ins:LstN S S' 53 6 u (p.1.map rlC)
  asd:∀ c∈[bR,b2,b3,b5,b6],Aside u c
  asd6:Aside v b6
  apt:Apart u v
theorem PrJ.mv {S S':Store} {bR b2 b3 b5 b6:Nat} {T:List Tk} {v u:AV} {nm:ByteArray} {l:List Ty} {rs:List Rl} {r:Rd} (h:PrJ S bR b2 b3 b5 b6 T v u nm l (rs,r) S') (hd:[bR,b2,b3,b5].Nodup) (h6:bR≠b6) (hR:sget S bR=none) (r':Rd):PrJ S bR b2 b3 b5 b6 T v u nm l (rs,r') (supd S' bR (rdO T r')):=
  ⟨h.out.mv hd hR r',by rw [sget_supd,if_neg h6];exact h.c6,h.ins.upd (h.asd bR (by simp)) _,h.asd,h.asd6,h.apt⟩
theorem PrJ.more {S S1:Store} {bR b2 b3 b5 b6:Nat} {T:List Tk} {v u:AV} {nm:ByteArray} {l:List Ty} {rs:List Rl} {r:Rd} (h:PrJ S bR b2 b3 b5 b6 T v u nm l (rs,r) S1) (hd6:∀ c∈[bR,b2,b3,b5],b6≠c) (k6:sget S b6=none) (x:Rl) (hlen:rs.length≤100000) {K:Store→Prop} (hK:∀ u' S3,PrJ S bR b2 b3 b5 b6 T v u' nm l (rs++[x],r) S3→K S3) :
    apW S1 53 6 104 u (.sl 6 [rlC x]) fun u' S2=>soW (objAt S2 b6) S2 1 b6 1 u' K:=by
  obtain ⟨⟨hrd,h2,h3,h5,hl,ha,hs⟩,hc6,hin,hau,ha6,hap⟩:=h
  dsimp only at hrd hl hin
  refine hin.app hs (xs:=[rlC x]) (fun r hr=>by rw [List.mem_singleton] at hr;subst hr;exact rlC_len x) (by rw [rlC_eq];rfl) (by simp;omega) ?_
  intro u' S2 k1 k2 k3
  obtain ⟨q6,q6a⟩:=k3 b6 _ hc6 (hau b6 (by simp))
  have hone:=k2.one
  have hac:aCells u'=[u']:=by cases u'<;>first | rfl | cases hone
  obtain ⟨j1,j2⟩:=hl.keep hap k3
  rw [objAt_some.2 q6,soW_some,hac]
  refine ⟨rfl,by simp,by simp [ones,hone],hK u' _ ⟨⟨?_,?_,?_,?_,j1.upd ha6 _,ha,k1.supd k6⟩,by rw [sget_supd,if_pos rfl];rfl,?_,fun c hc=>?_,ha6,j2⟩⟩
  · rw [sget_supd,if_neg (hd6 bR (by simp))];exact (k3 bR _ hrd (hau bR (by simp))).1
  · rw [sget_supd,if_neg (hd6 b2 (by simp))];exact (k3 b2 _ h2 (hau b2 (by simp))).1
  · rw [sget_supd,if_neg (hd6 b3 (by simp))];exact (k3 b3 _ h3 (hau b3 (by simp))).1
  · rw [sget_supd,if_neg (hd6 b5 (by simp))];exact (k3 b5 _ h5 (hau b5 (by simp))).1
  · simpa using k2.upd q6a _
  · simp only [List.mem_cons,List.not_mem_nil,or_false] at hc
    rcases hc with rfl | rfl | rfl | rfl | rfl
    · exact (k3 _ _ hrd (hau _ (by simp))).2
    · exact (k3 _ _ h2 (hau _ (by simp))).2
    · exact (k3 _ _ h3 (hau _ (by simp))).2
    · exact (k3 _ _ h5 (hau _ (by simp))).2
    · exact q6a
theorem Frs.app {S0 S:Store}:∀ {a a' b b':List AV},Frs S0 S a a'→Frs S0 S b b'→Frs S0 S (a++b) (a'++b')
  | [],[],b,b',_,h=>h
  | [],x :: r,b,b',h,_=>by cases h.1
  | x :: r,[],b,b',h,_=>by cases h.1
  | x :: r,y :: r',b,b',h,k=>.cons (h.2 0 x y rfl rfl) (Frs.app ⟨by simpa using h.1,fun i u u' h1 h2=>h.2 (i+1) u u' (by simpa using h1) (by simpa using h2)⟩ k)
theorem PrJ.typ {S S1:Store} {bR b2 b3 b5 b6:Nat} {T:List Tk} {v u:AV} {nm:ByteArray} {l:List Ty} {rs:List Rl} {r:Rd} (h:PrJ S bR b2 b3 b5 b6 T v u nm l (rs,r) S1) (hd:[bR,b2,b3,b5].Nodup) (hd6:∀ c∈[bR,b2,b3,b5],b6≠c) (hn:∀ c∈[bR,b2,b3,b5],sget S c=none) (hlen:l.length≤100000) {q:LE→Store→Prop} {le:LE} (hK:∀ v' S3,PrI S bR b2 b3 b5 T v' (l++[⟨nm,rs⟩],r) S3→q le S3) :
    apW S1 46 2 40 v (.sl 2 [[.str nm,u]]) fun v' S2=>soW (objAt S2 b5) S2 1 b5 0 v' fun S3=>rcW q le S3:=by
  obtain ⟨⟨hrd,h2,h3,h5,hl,ha,hs⟩,hc6,hin,hau,ha6,hap⟩:=h
  dsimp only at hrd hl hin
  have honeu:=hin.one
  refine hl.app hs (xs:=[[.str nm,u]]) (fun r hr=>by rw [List.mem_singleton] at hr;subst hr;rfl) (by simp [ones,honeu];rfl) (by simp;omega) ?_
  intro v' S2 k1 k2 k3
  obtain ⟨q5,q5a⟩:=k3 b5 _ h5 (ha b5 (by simp))
  obtain ⟨qR,qRa⟩:=k3 bR _ hrd (ha bR (by simp))
  obtain ⟨q2,q2a⟩:=k3 b2 _ h2 (ha b2 (by simp))
  obtain ⟨q3,q3a⟩:=k3 b3 _ h3 (ha b3 (by simp))
  obtain ⟨j1,j2⟩:=hin.keep hap.symm k3
  have hone:=k2.one
  have hac:aCells v'=[v']:=by cases v'<;>first | rfl | cases hone
  rw [objAt_some.2 q5,soW_some,hac]
  refine ⟨rfl,by simp,by simp [ones,hone],?_⟩
  simp only [List.nodup_cons,List.mem_cons,not_or,List.not_mem_nil,or_false,not_false_eq_true,List.nodup_nil,and_true] at hd
  obtain ⟨⟨n2,n3,n5⟩,⟨m3,m5⟩,l5⟩:=hd
  obtain ⟨hr,⟨rfl,h0⟩ | ⟨bv,cap,rfl,e1,e2,e3,e4,e5⟩⟩:=k2
  · simp at h0
  have dR:=qRa bv 0 _ _ rfl
  have d2:=q2a bv 0 _ _ rfl
  have d3:=q3a bv 0 _ _ rfl
  have d5:=q5a bv 0 _ _ rfl
  let S0:Store:=supd (supd (supd (supd S bR (rdO T r)) b2 (.cells 24 [.nils] 1)) b3 (.cells 82 [.int .i64 0,.int .i64 0,.int .i64 0] 3)) b5 (.cells 24 [.own bv 0 ((l.map tyC)++[[.str nm,u]]).length cap] 1)
  have hS0:Sub S0 (supd S2 b5 (.cells 24 [.own bv 0 ((l.map tyC)++[[.str nm,u]]).length cap] 1)):=by
    intro x y hx
    rw [sget_supd] at hx ⊢
    by_cases g5:b5=x
    · rw [if_pos g5] at hx ⊢;exact hx
    rw [if_neg g5] at hx ⊢
    rw [sget_supd] at hx
    by_cases g3:b3=x
    · rw [if_pos g3] at hx;rw [← g3,q3];exact hx
    rw [if_neg g3,sget_supd] at hx
    by_cases g2:b2=x
    · rw [if_pos g2] at hx;rw [← g2,q2];exact hx
    rw [if_neg g2,sget_supd] at hx
    by_cases gR:bR=x
    · rw [if_pos gR] at hx;rw [← gR,qR];exact hx
    rw [if_neg gR] at hx
    exact k1 x y hx
  have hv0:sget S0 bv=none:=by
    show sget (supd _ _ _) bv=none
    rw [sget_supd,if_neg d5,sget_supd,if_neg d3,sget_supd,if_neg d2,sget_supd,if_neg dR]
    exact e1
  have hvc:sget (supd S2 b5 (.cells 24 [.own bv 0 ((l.map tyC)++[[.str nm,u]]).length cap] 1)) bv=some (.cells 46 ((l.map tyC)++[[.str nm,u]]).flatten (cap * 2)):=by
    rw [sget_supd,if_neg d5];exact e2
  have hcs:((l.map tyC)++[[.str nm,u]]).flatten=(l.map tyC).flatten++[.str nm,u]:=by simp
  have hcs':((l++[(⟨nm,rs⟩:Ty)]).map tyC).flatten=(l.map tyC).flatten++[.str nm,.sl 6 (rs.map rlC)]:=by simp [tyC]
  have hlen':((l++[(⟨nm,rs⟩:Ty)]).map tyC).length=((l.map tyC)++[[.str nm,u]]).length:=by simp
  refine rcW_cells (cs':=((l++[(⟨nm,rs⟩:Ty)]).map tyC).flatten) hS0 hv0 hvc ?_ (hK (.own bv 0 ((l.map tyC)++[[.str nm,u]]).length cap) _ ⟨?_,?_,?_,?_,⟨fun r hr=>?_,.inr ⟨bv,cap,by rw [hlen'],e1,by rw [sget_supd,if_pos rfl],by rw [hlen'];exact e3,e4,by rw [hlen'];exact e5⟩⟩,fun c hc=>?_,?_⟩)
  · rw [hcs,hcs']
    refine Frs.app (Frs.same _) (.cons (.same _) (.cons (Fr.lst (t:=53) ?_) .nil))
    obtain ⟨g1,⟨rfl,g2⟩ | ⟨bu,capu,rfl,f1,f2,f3⟩⟩:=j1
    · exact ⟨g1,.inl ⟨rfl,g2⟩⟩
    · refine ⟨g1,.inr ⟨bu,capu,rfl,?_,?_,f3⟩⟩
      · have w5:=hau b5 (by simp) bu 0 _ _ rfl
        have w3:=hau b3 (by simp) bu 0 _ _ rfl
        have w2:=hau b2 (by simp) bu 0 _ _ rfl
        have wR:=hau bR (by simp) bu 0 _ _ rfl
        have wv:=j2 bu 0 _ _ rfl bv 0 _ _ rfl
        rw [sget_supd,if_neg (Ne.symm wv)]
        show sget (supd _ _ _) bu=none
        rw [sget_supd,if_neg w5,sget_supd,if_neg w3,sget_supd,if_neg w2,sget_supd,if_neg wR]
        exact f1
      · have w5:=hau b5 (by simp) bu 0 _ _ rfl
        rw [sget_supd,if_neg w5];exact f2
  · rw [sget_supd,if_neg (Ne.symm dR)]
    show sget (supd _ _ _) bR=_
    rw [sget_supd,if_neg (Ne.symm n5),sget_supd,if_neg (Ne.symm n3),sget_supd,if_neg (Ne.symm n2),sget_supd,if_pos rfl]
  · rw [sget_supd,if_neg (Ne.symm d2)]
    show sget (supd _ _ _) b2=_
    rw [sget_supd,if_neg (Ne.symm m5),sget_supd,if_neg (Ne.symm m3),sget_supd,if_pos rfl]
  · rw [sget_supd,if_neg (Ne.symm d3)]
    show sget (supd _ _ _) b3=_
    rw [sget_supd,if_neg (Ne.symm l5),sget_supd,if_pos rfl]
  · rw [sget_supd,if_neg (Ne.symm d5)]
    show sget (supd _ _ _) b5=_
    rw [sget_supd,if_pos rfl]
  · obtain ⟨t,-,rfl⟩:=List.mem_map.1 hr
    rfl
  · simp only [List.mem_cons,List.not_mem_nil,or_false] at hc
    rcases hc with rfl | rfl | rfl | rfl
    · exact qRa
    · exact q2a
    · exact q3a
    · exact q5a
  · have s1:=(Sub.refl S).supd (o:=rdO T r) (hn bR (by simp))
    exact (((((Sub.refl S).supd (hn bR (by simp))).supd (hn b2 (by simp))).supd (hn b3 (by simp))).supd (hn b5 (by simp))).supd e1
theorem tokL_ne:∀ {f:Nat} {l:List UInt8} {a b:Nat},l.length<f→tokL f l a b≠[]
  | 0,l,a,b,h=>by omega
  | f+1,[],a,b,h=>by simp [tokL]
  | f+1,c :: r,a,b,h=>by
    unfold tokL
    simp only [List.length_cons] at h
    split
    · exact tokL_ne (by omega)
    · split
      · split<;>simp
      · simp
theorem tokT_pos (s:ByteArray):0<(tokT s).length:=List.length_pos_iff.2 (tokL_ne (by rw [bl_len];omega))
def parseF (s:ByteArray):List Ty×AV:=if 4096<s.size then ([],.agg [.int .i64 1,.int .i64 1,.int .i64 2]) else parseT (tokT s)
theorem c_Parse (s:ByteArray):AFun PG nr_ref11_Parse [.str s] (.tup [scA (parseF s).1,(parseF s).2]):=by
  intro S
  refine w_ref11_Parse ?_
  unfold B_ref11_Parse
  intro b2 hb2
  (try simp only [rwp,hwR,zA,zB,zC,zD,zE,zF,zG,zH,zI])
  intro b3 hb3
  have n23:b3≠b2:=sget_ne hb3 (x:=.cells 24 [.nils] 1) (by rw [sget_supd,if_pos rfl])
  have k3:sget S b3=none:=by rw [sget_supd,if_neg (Ne.symm n23)] at hb3;exact hb3
  (try simp only [rwp,hwR,zA,zB,zC,zD,zE,zF,zG,zH,zI,if_neg n23,if_neg (Ne.symm n23)])
  (refine cnW_intro (fun hl=>?_) (fun hl=>?_)<;>(try simp only [hlc] at hl))
  · have hpf:parseF s=([],.agg [.int .i64 1,.int .i64 1,.int .i64 2]):=by rw [parseF,if_pos (by omega)]
    rw [hpf]
    refine rtW_fr S (.tup [scA [],.agg [.int .i64 1,.int .i64 1,.int .i64 2]]) (((((Sub.refl S).supd hb2).supd k3).supd hb2).supd k3) ?_ ⟨rfl,rfl⟩
    (try simp only [rwp,hwR,zA,zB,zC,zD,zE,zF,zG,zH,zI,if_neg n23,if_neg (Ne.symm n23)])
    exact .tu (.cons (.ag (.cons (.nils 2) .nil)) (.cons (.same _) .nil))
  have hs:s.size≤4096:=by omega
  have hT:=tokT_ok hs
  have hTl:=hT.len
  have hpf:parseF s=parseT (tokT s):=by rw [parseF,if_neg (by omega)]
  refine caW_pure (c_Tokens hs) ?_
  have hpos:=tokT_pos s
  rw [hpf]
  generalize tokT s=T at hT hpos hTl ⊢
  clear hpf hl hs
  (try simp only [rwp,hwR,zA,zB,zC,zD,zE,zF,zG,zH,zI])
  refine ⟨rfl,rfl,fun bR hbR=>?_⟩
  have nR2:bR≠b2:=sget_ne hbR (x:=.cells 24 [.nils] 1) (by rw [sget_supd,if_neg n23,sget_supd,if_pos rfl])
  have nR3:bR≠b3:=sget_ne hbR (x:=.cells 82 [.int .i64 0,.int .i64 0,.int .i64 0] 3) (by rw [sget_supd,if_pos rfl])
  have kR:sget S bR=none:=by rw [sget_supd,if_neg (Ne.symm nR3),sget_supd,if_neg (Ne.symm nR2)] at hbR;exact hbR
  intro b5 hb5
  have n52:b5≠b2:=sget_ne hb5 (x:=.cells 24 [.nils] 1) (by rw [sget_supd,if_neg nR2,sget_supd,if_neg n23,sget_supd,if_pos rfl])
  have n53:b5≠b3:=sget_ne hb5 (x:=.cells 82 [.int .i64 0,.int .i64 0,.int .i64 0] 3) (by rw [sget_supd,if_neg nR3,sget_supd,if_pos rfl])
  have n5R:b5≠bR:=by
    rintro rfl
    rw [sget_supd,if_pos rfl] at hb5;cases hb5
  have k5:sget S b5=none:=by rw [sget_supd,if_neg (Ne.symm n5R),sget_supd,if_neg (Ne.symm n53),sget_supd,if_neg (Ne.symm n52)] at hb5;exact hb5
  have hd:[bR,b2,b3,b5].Nodup:=by
    simp only [List.nodup_cons,List.mem_cons,not_or,List.not_mem_nil,or_false,not_false_eq_true,List.nodup_nil,and_true]
    exact ⟨⟨nR2,nR3,Ne.symm n5R⟩,⟨Ne.symm n23,Ne.symm n52⟩,Ne.symm n53⟩
  have hn:∀ c∈[bR,b2,b3,b5],sget S c=none:=by
    intro c hc
    simp only [List.mem_cons,List.not_mem_nil,or_false] at hc
    rcases hc with rfl | rfl | rfl | rfl<;>assumption
  (try simp only [rwp,hwR,zA,zB,zC,zD,zE,zF,zG,zH,zI])
  have hI0:PrI S bR b2 b3 b5 T .nils ([],rd0) (supd (supd (supd (supd S b2 (.cells 24 [.nils] 1)) b3 (.cells 82 [.int .i64 0,.int .i64 0,.int .i64 0] 3)) bR (rdO T rd0)) b5 (.cells 24 [.nils] 1)):=by
    refine ⟨?_,?_,?_,?_,.nil,fun c _=>aside_nils,((((Sub.refl S).supd hb2).supd k3).supd kR).supd k5⟩<;>simp [sget_supd,n23,nR2,nR3,n52,n53,n5R,Ne.symm n23,Ne.symm nR2,Ne.symm nR3,Ne.symm n52,Ne.symm n53,Ne.symm n5R]
  have hfin:typesL T T.length ([],rd0)=typesL T T.length ([],rd0):=rfl
  have hts:=ts0 (T:=T) hpos
  refine LoopP.introS (fun _:List Ty×Rd=>[(2,.ptr b2 0),(3,.ptr b3 0),(4,.ptr bR 0),(5,.ptr b5 0)])
    (fun p S'=>(∃ v,PrI S bR b2 b3 b5 T v p S')∧TsSt T p∧typesL T T.length p=typesL T T.length ([],rd0)) (fun p=>T.length-p.2.at') ([],rd0) ⟨⟨.nils,hI0⟩,hts,rfl⟩ rfl ?_
  clear hI0 hts hfin
  rintro ⟨l,r⟩ S1 ⟨⟨v,hI⟩,hTs,hf⟩ q hq
  have hp:Pre T 12 r:=hTs.pre
  have hin:r.at'<T.length:=hp.inr
  have hrd:=hI.rd
  have hll:=hTs.len
  dsimp only at hrd hll
  (try simp only [rwp,hwR,zA,zB,zC,zD,zE,zF,zG,zH,zI,C_ref11_Parse_1])
  refine (c_is hT hp.inr wType).ca hrd ?_
  cases hi:isP T wType r with
  | true=>
    obtain ⟨hp1,hp2,hR,hTs2,hmu⟩:=types_next hT hTs hi
    have hf2:typesL T T.length (l++[⟨nameP T (isR T wType r),(relsL T T.length ([],nameR T (isR T wType r))).1⟩],(relsL T T.length ([],nameR T (isR T wType r))).2)=typesL T T.length ([],rd0):=by
      rw [← hf]
      obtain ⟨m,hm⟩:∃ m,T.length=m+1:=⟨T.length-1,by omega⟩
      conv=>rhs;rw [hm,typesL,if_pos hi]
      exact typesL_more hT hTs2 (by dsimp only;omega) (by dsimp only;omega)
    (try simp only [rwp,hwR,zA,zB,zC,zD,zE,zF,zG,zH,zI])
    refine (c_name hT hp1.inr).ca rd_new ?_
    (try simp only [rwp,hwR,zA,zB,zC,zD,zE,zF,zG,zH,zI])
    have hI2:=(hI.mv hd kR (isR T wType r)).mv hd kR (nameR T (isR T wType r))
    rw [supd_supd] at hI2
    generalize nameP T (isR T wType r)=nm at hf2 hTs2 ⊢
    have hI2':PrI S bR b2 b3 b5 T v (l,nameR T (isR T wType r)) (supd S1 bR (rdO T (nameR T (isR T wType r)))):=hI2
    clear hI2
    generalize supd S1 bR (rdO T (nameR T (isR T wType r)))=S2 at hI2' ⊢
    generalize nameR T (isR T wType r)=r2 at hI2' hp2 hR hf2 hTs2 hmu
    intro b6 hb6
    (try simp only [rwp,hwR,zA,zB,zC,zD,zE,zF,zG,zH,zI])
    have hd6:∀ c∈[bR,b2,b3,b5],b6≠c:=by
      intro c hc
      simp only [List.mem_cons,List.not_mem_nil,or_false] at hc
      rcases hc with rfl | rfl | rfl | rfl
      · exact sget_ne hb6 hI2'.rd
      · exact sget_ne hb6 hI2'.c2
      · exact sget_ne hb6 hI2'.c3
      · exact sget_ne hb6 hI2'.c5
    have k6:=Sub.none hI2'.sub hb6
    have hJ0:PrJ S bR b2 b3 b5 b6 T v .nils nm l ([],r2) (supd S2 b6 (.cells 46 [.str nm,.nils] 2)):=by
      have a6:=hI2'.lst.fresh hb6
      refine ⟨⟨?_,?_,?_,?_,hI2'.lst.upd a6 _,hI2'.asd,hI2'.sub.supd k6⟩,by rw [sget_supd,if_pos rfl],.nil,fun c _=>aside_nils,a6,apart_nils⟩
      · rw [sget_supd,if_neg (hd6 bR (by simp))];exact hI2'.rd
      · rw [sget_supd,if_neg (hd6 b2 (by simp))];exact hI2'.c2
      · rw [sget_supd,if_neg (hd6 b3 (by simp))];exact hI2'.c3
      · rw [sget_supd,if_neg (hd6 b5 (by simp))];exact hI2'.c5
    have hRs0:RsSt T r2 ([],r2):=⟨StepR.refl hp2,Nat.zero_le _,fun x hx=>(by cases hx),fun _ x hx=>(by cases hx)⟩
    refine LoopP.introS (fun _:List Rl×Rd=>[(2,.ptr b2 0),(3,.ptr b3 0),(4,.ptr bR 0),(5,.ptr b5 0),(6,.ptr b6 0)])
      (fun p S'=>(∃ u,PrJ S bR b2 b3 b5 b6 T v u nm l p S')∧RsSt T r2 p∧relsL T T.length p=relsL T T.length ([],r2)) (fun p=>T.length-p.2.at') ([],r2) ⟨⟨.nils,hJ0⟩,hRs0,rfl⟩ rfl ?_
    clear hJ0 hRs0 hI2'
    rintro ⟨rs,r3⟩ S3 ⟨⟨u,hJ⟩,hRs,hfr⟩ q2 hq2
    have hp3:=hRs.st.pre hp2
    have hin3:r3.at'<T.length:=hp3.inr
    have hlr:=hRs.len
    dsimp only at hlr
    obtain ⟨k1,k2⟩:=rels_next hT hp2 hRs
    (try simp only [rwp,hwR,zA,zB,zC,zD,zE,zF,zG,zH,zI,C_ref11_Parse_4])
    refine (c_rel hT hp3).ca hJ.out.rd ?_
    have hJ2:=hJ.mv hd (Ne.symm (hd6 bR (by simp))) kR (relP T r3).2
    have o6:=objAt_some.2 hJ2.c6
    have o5:=objAt_some.2 hJ2.out.c5
    cases hok:(relP T r3).1.2 with
    | true=>
      obtain ⟨k3',k4⟩:=k1 hok
      have hfr2:relsL T T.length (rs++[(relP T r3).1.1],(relP T r3).2)=relsL T T.length ([],r2):=by
        rw [← hfr]
        obtain ⟨m,hm⟩:∃ m,T.length=m+1:=⟨T.length-1,by omega⟩
        conv=>rhs;rw [hm,relsL,if_pos hok]
        exact relsL_more hT hp2 k3' (by dsimp only;omega) (by dsimp only;omega)
      have hmr:=hJ2.more hd6 k6 (relP T r3).1.1 (by omega) (K:=fun S4=>rcW q2 [(2,.ptr b2 0),(3,.ptr b3 0),(4,.ptr bR 0),(5,.ptr b5 0),(6,.ptr b6 0)] S4) fun u' S4 hJ4=>rcW_as rfl (hq2 (rs++[(relP T r3).1.1],(relP T r3).2) S4 ⟨⟨u',hJ4⟩,k3',hfr2⟩ (by dsimp only;omega))
      simp only [rlC_eq] at hmr
      (try simp only [rwp,hwR,zA,zB,zC,zD,zE,zF,zG,zH,zI,rlC_eq,cellsAt_of o6,ones_cons])
      exact hmr
    | false=>
      have hstop:relsL T T.length (rs,r3)=(rs,(relP T r3).2):=by
        obtain ⟨m,hm⟩:∃ m,T.length=m+1:=⟨T.length-1,by omega⟩
        rw [hm,relsL,if_neg (by rw [hok];simp)]
      rw [hstop] at hfr
      rw [← hfr] at hf2 hTs2 hmu
      have hone:=hJ2.ins.one
      have htp:=hJ2.typ hd hd6 hn (by omega) (q:=q) (le:=[(2,.ptr b2 0),(3,.ptr b3 0),(4,.ptr bR 0),(5,.ptr b5 0)]) fun v' S4 hI4=>hq (l++[⟨nm,rs⟩],(relP T r3).2) S4 ⟨⟨v',hI4⟩,hTs2,hf2⟩ (by dsimp only at hmu ⊢;omega)
      dsimp only
      (try simp only [rwp,hwR,zA,zB,zC,zD,zE,zF,zG,zH,zI,rlC_eq,cellsAt_of o6,cellsAt_of o5,ones_cons])
      exact htp
  | false=>
    rw [isR_no hi,supd_self hrd]
    have hstop:typesL T T.length (l,r)=(l,r):=by
      cases T.length with
      | zero=>rfl
      | succ m=>rw [typesL,if_neg (by rw [hi];simp)]
    rw [hstop] at hf
    have ho:=rd_at hrd
    (try simp only [rwp,hwR,zA,zB,zC,zD,zE,zF,zG,zH,zI,cellsAt_of ho])
    have fin:∀ S2,PrI S bR b2 b3 b5 T v (l,endR T r) S2→C_ref11_Parse_3 (fun ae S'=>ae=.ret (.tup [scA (parseT T).1,(parseT T).2])∧S'=S) (.ptr b2 0) (.ptr b3 0) (.ptr bR 0) (.ptr b5 0) S2:=by
      intro S2 hI2
      have hr2:=rd_at hI2.rd
      have o2:=objAt_some.2 hI2.c2
      have o3:=objAt_some.2 hI2.c3
      have o5:=objAt_some.2 hI2.c5
      have hone:=hI2.lst.one
      have hac:aCells v=[v]:=by cases v<;>first | rfl | cases hone
      unfold C_ref11_Parse_3
      (try simp only [rwp,hwR,zA,zB,zC,zD,zE,zF,zG,zH,zI,cellsAt_of hr2])
      have hpt:parseT T=if (endR T r).de=0 then (l,.agg [.int .i64 0,.int .i64 0,.int .i64 0]) else ([],.agg [.int .i64 (endR T r).dl,.int .i64 (endR T r).dc,.int .i64 (endR T r).de]):=by
        rw [parseT,← hf]
      have nR2':b2≠bR:=Ne.symm nR2
      have n32:=Ne.symm n23
      (refine cnW_intro (fun hde=>?_) (fun hde=>?_)<;>(try simp only [hlc] at hde))
      · rw [if_neg hde] at hpt
        rw [hpt]
        (try simp only [rwp,hwR,zA,zB,zC,zD,zE,zF,zG,zH,zI,o2])
        refine kpW_one (by rw [sget_supd,if_neg nR2']) ?_
        have o3':objAt (supd S2 b2 (.cells 24 [.nils] 1)) b3=some (82,[.int .i64 0,.int .i64 0,.int .i64 0],3):=by rw [objAt_ne n32];exact o3
        (try simp only [rwp,hwR,zA,zB,zC,zD,zE,zF,zG,zH,zI,o3',if_neg n32,o3])
        refine rtW_fr S (.tup [scA [],.agg [.int .i64 (endR T r).dl,.int .i64 (endR T r).dc,.int .i64 (endR T r).de]]) ((hI2.sub.supd hb2).supd k3) ?_ ⟨rfl,rfl⟩
        (try simp only [rwp,hwR,zA,zB,zC,zD,zE,zF,zG,zH,zI,if_neg n23,if_neg n32])
        exact .tu (.cons (.ag (.cons (.nils 2) .nil)) (.cons (.same _) .nil))
      · rw [if_pos hde] at hpt
        rw [hpt]
        have o3':∀ x,objAt (supd S2 b2 (.cells 24 [x] 1)) b3=some (82,[.int .i64 0,.int .i64 0,.int .i64 0],3):=fun x=>by rw [objAt_ne n32];exact o3
        (try simp only [rwp,hwR,zA,zB,zC,zD,zE,zF,zG,zH,zI,cellsAt_of o5,o2,hac,o3',ones,hone,Bool.and_true,if_neg n32,o3])
        refine rtW_fr S (.tup [scA l,.agg [.int .i64 0,.int .i64 0,.int .i64 0]]) ((hI2.sub.supd hb2).supd k3) ?_ ⟨rfl,rfl⟩
        (try simp only [rwp,hwR,zA,zB,zC,zD,zE,zF,zG,zH,zI,if_neg n23,if_neg n32])
        have a2:=hI2.asd b2 (by simp)
        have a3:=hI2.asd b3 (by simp)
        exact .tu (.cons (.ag (.cons (Fr.lst ((hI2.lst.upd a2 _).upd a3 _)) .nil)) (.cons (.same _) .nil))
    cases a1:decide (r.de=0) with
    | false=>
      (try simp only [rwp,hwR,zA,zB,zC,zD,zE,zF,zG,zH,zI,C_ref11_Parse_2])
      refine fin S1 ?_
      have:endR T r=r:=by rw [endR,if_neg (fun h=>by rw [decide_eq_true h.1] at a1;cases a1)]
      rw [this]
      exact hI
    | true=>
      have hde:=of_decide_eq_true a1
      (try simp only [rwp,hwR,zA,zB,zC,zD,zE,zF,zG,zH,zI])
      refine (c_next hT hp.inr).ca hrd ?_
      rw [supd_self hrd]
      (try simp only [rwp,hwR,zA,zB,zC,zD,zE,zF,zG,zH,zI,tkC])
      cases a2:decide ((nxP T r).s=⟨#[]⟩) with
      | true=>
        (try simp only [rwp,hwR,zA,zB,zC,zD,zE,zF,zG,zH,zI,C_ref11_Parse_2])
        refine fin S1 ?_
        have:endR T r=r:=by rw [endR,if_neg (fun h=>h.2 (of_decide_eq_true a2))]
        rw [this]
        exact hI
      | false=>
        (try simp only [rwp,hwR,zA,zB,zC,zD,zE,zF,zG,zH,zI,C_ref11_Parse_2])
        refine (c_next hT hp.inr).ca hrd ?_
        rw [supd_self hrd]
        (try simp only [rwp,hwR,zA,zB,zC,zD,zE,zF,zG,zH,zI,tkC])
        refine (c_fail (nxP T r) 8).ca hrd ?_
        have:endR T r=failP (nxP T r) 8 r:=by rw [endR,if_pos ⟨hde,of_decide_eq_false a2⟩]
        rw [← this]
        exact fin _ (hI.mv hd kR _)
theorem parseF_ok {s:ByteArray}:OkS (parseF s).1∧(s.size≤900→OkN (parseF s).1):=by
  unfold parseF
  split
  · exact ⟨⟨Nat.zero_le _,fun t ht=>(by cases ht)⟩,fun _ t ht=>(by cases ht)⟩
  · rename_i h
    have hT:=tokT_ok (s:=s) (by omega)
    have hl:=tokL_len (f:=s.size+1) (l:=bl s) (a:=1) (b:=1)
    rw [bl_len] at hl
    obtain ⟨h1,h2⟩:=parseT_ok hT (tokT_pos s)
    refine ⟨h1,fun h t ht r hr=>?_⟩
    have:=h2 t ht r hr
    unfold tokT at this
    omega
end Go.HL
set_option linter.unusedVariables false
set_option linter.unusedSimpArgs false
set_option maxRecDepth 4000
namespace Go.HL
open Nat renaming reduceAdd→zA,reduceLeDiff→zB,reduceLT→zC,reduceSub→zD,reduceMul→zE,reduceEqDiff→zF,reduceBEq→zG
open Int renaming reduceAdd→zH,reduceToNat→zI
def cutL (c:Int):List UInt8→Option (List UInt8×List UInt8)
  | []=>none
  | b :: r=>if (b.toNat:Int)=c then some ([],r) else (cutL c r).map fun p=>(b :: p.1,p.2)
theorem cutL_cons {c:Int} {b:UInt8} {r:List UInt8}:cutL c (b :: r)=if (b.toNat:Int)=c then some ([],r) else (cutL c r).map fun p=>(b :: p.1,p.2):=rfl
def cutF (s:ByteArray) (c:Int):ByteArray×ByteArray×Bool:=match cutL c (bl s) with
  | none=>(s,⟨#[]⟩,false)
  | some (a,b)=>(mkB a,mkB b,true)
theorem cutL_len {c:Int}:∀ {l a b:List UInt8},cutL c l=some (a,b)→a.length≤l.length∧b.length≤l.length
  | [],_,_,h=>by cases h
  | x :: r,a,b,h=>by
    unfold cutL at h
    split at h
    · cases h;exact ⟨Nat.zero_le _,by simp⟩
    · cases hq:cutL c r with
      | none=>rw [hq] at h;cases h
      | some p=>
        rw [hq] at h
        cases h
        obtain ⟨h1,h2⟩:=cutL_len (a:=p.1) (b:=p.2) hq
        simp only [List.length_cons]
        omega
theorem mkB_len (l:List UInt8):(mkB l).size=l.length:=by simp [mkB,ByteArray.size]
theorem cutF_len {s:ByteArray} {c:Int}:(cutF s c).1.size≤s.size∧(cutF s c).2.1.size≤s.size:=by
  unfold cutF
  cases h:cutL c (bl s) with
  | none=>exact ⟨Nat.le_refl _,Nat.zero_le _⟩
  | some p=>
    have:=cutL_len (a:=p.1) (b:=p.2) h
    rw [bl_len] at this
    exact ⟨by rw [mkB_len];exact this.1,by rw [mkB_len];exact this.2⟩
theorem c_cut {s:ByteArray} (hs:s.size≤1125899906842624) (c:Int):AFun PG nr_ref10_cut [.str s,.int .u8 c] (.tup [.str (cutF s c).1,.str (cutF s c).2.1,.bool (cutF s c).2.2]):=by
  intro S
  refine w_ref10_cut ?_
  unfold B_ref10_cut
  have hln:=bl_len s
  refine LoopP.introS (fun i:Nat=>[(0,.str s),(1,.int .u8 c),(7,.int .i64 i)]) (fun i S'=>S'=S∧i≤s.size∧cutL c (bl s)=(cutL c ((bl s).drop i)).map fun p=>((bl s).take i++p.1,p.2)) (fun i=>s.size-i) 0 ⟨rfl,by omega,by cases h:cutL c (bl s)<;>simp [h]⟩ rfl ?_
  rintro i S' ⟨rfl,hi,hc⟩ r hr
  (try simp only [rwp,zA,zB,zC,zD,zE,zF,zG,zH,zI,rwb,reduceIte,C_ref10_cut_1])
  (refine cnW_intro (fun hlt=>?_) (fun hlt=>?_)<;>(try simp only [hlc] at hlt))
  · obtain ⟨b,hb⟩:=byte_lt hlt
    have hb':=hb
    rw [bl_get] at hb'
    rw [drop_cons hb'] at hc
    rw [cutL_cons] at hc
    (try simp only [rwp,zA,zB,zC,zD,zE,zF,zG,zH,zI,rwb,reduceIte,hb])
    (refine cnW_intro (fun hq=>?_) (fun hq=>?_)<;>(try simp only [hlc] at hq))
    · rw [if_pos hq] at hc
      (simp (disch:=omega) only [hwrap64])
      (try simp only [rwp,zA,zB,zC,zD,zE,zF,zG,zH,zI,rwb,reduceIte,loI,hiI,cutI])
      refine ⟨by omega,by omega,by omega,by omega,by omega,rtW_three ⟨?_,rfl⟩⟩
      unfold cutF
      rw [hc,extract_mk,extract_mk]
      simp only [Option.map_some,List.append_nil,List.drop_zero]
      rw [show ((i:Int)+1).toNat=i+1 by omega,List.take_of_length_le (by omega:(bl s).length≤s.size)]
    · rw [if_neg hq] at hc
      (simp (disch:=omega) only [hwrap64])
      refine rcW_as rfl (hr (i+1) _ ⟨rfl,by omega,?_⟩ (by omega))
      rw [hc,take_snoc' hb']
      cases cutL c ((bl s).drop (i+1))<;>simp
  · have e:(bl s).drop i=[]:=List.drop_eq_nil_of_le (by omega)
    rw [e] at hc
    refine rtW_three ⟨?_,rfl⟩
    unfold cutF
    rw [hc]
    rfl
abbrev nob:ByteArray:=⟨#[]⟩
def objF (s:ByteArray):Ob×Bool:=if (cutF s 58).2.2&&(nameB (cutF s 58).1&&idB (cutF s 58).2.1) then (⟨(cutF s 58).1,(cutF s 58).2.1⟩,true) else (⟨nob,nob⟩,false)
def subF (s:ByteArray):Nd×Bool:=if (objF (cutF s 35).1).2&&(!(cutF s 35).2.2||nameB (cutF s 35).2.1) then (⟨(objF (cutF s 35).1).1,(cutF s 35).2.1⟩,true) else (⟨⟨nob,nob⟩,nob⟩,false)
def tupF (s:ByteArray):Tu×Bool:=
  let x:=cutF s 64
  let y:=cutF x.1 35
  let o:=objF y.1
  let w:=subF x.2.1
  if x.2.2&&(y.2.2&&(o.2&&(w.2&&nameB y.2.1))) then (⟨o.1,y.2.1,w.1⟩,true) else (⟨⟨nob,nob⟩,nob,⟨⟨nob,nob⟩,nob⟩⟩,false)
theorem objF_ok {s:ByteArray} (hs:s.size≤1125899906842624):OkO (objF s).1:=by
  have h:=@cutF_len s 58
  unfold objF
  split
  · exact ⟨by dsimp only;omega,by dsimp only;omega⟩
  · exact ⟨Nat.zero_le _,Nat.zero_le _⟩
theorem subF_ok {s:ByteArray} (hs:s.size≤1125899906842624):OkD (subF s).1:=by
  have h:=@cutF_len s 35
  unfold subF
  split
  · exact ⟨objF_ok (by omega),by dsimp only;omega⟩
  · exact ⟨⟨Nat.zero_le _,Nat.zero_le _⟩,Nat.zero_le _⟩
theorem tupF_ok {s:ByteArray} (hs:s.size≤1125899906842624):OkU (tupF s).1:=by
  have h:=@cutF_len s 64
  have h2:=@cutF_len (cutF s 64).1 35
  unfold tupF
  dsimp only
  split
  · exact ⟨objF_ok (by omega),by dsimp only;omega,subF_ok (by omega)⟩
  · exact ⟨⟨Nat.zero_le _,Nat.zero_le _⟩,Nat.zero_le _,⟨⟨Nat.zero_le _,Nat.zero_le _⟩,Nat.zero_le _⟩⟩
theorem c_Object {s:ByteArray} (hs:s.size≤1125899906842624):AFun PG nr_ref10_Object [.str s] (.tup [.agg (obC (objF s).1),.bool (objF s).2]):=by
  intro S
  refine w_ref10_Object ?_
  unfold B_ref10_Object
  intro b hb
  have hl:=@cutF_len s 58
  refine caW_pure (c_cut hs 58) ?_
  (try simp only [rwp,zA,zB,zC,zD,zE,zF,zG,zH,zI,rwb,reduceIte])
  refine caW_pure (c_ref10_Name (by omega)) ?_
  refine caW_pure (c_ref10_ID (by omega)) ?_
  unfold objF
  cases h1:(cutF s 58).2.2<;>cases h2:nameB (cutF s 58).1<;>cases h3:idB (cutF s 58).2.1<;>(try simp only [rwp,zA,zB,zC,zD,zE,zF,zG,zH,zI,rwb,reduceIte,C_ref10_Object_1,C_ref10_Object_2])<;>refine rtW_go S (Sub.supd hb (Sub.refl _)) ?_<;>(try simp only [rwp,zA,zB,zC,zD,zE,zF,zG,zH,zI,rwb,reduceIte,obC])<;>simp
theorem c_Subject {s:ByteArray} (hs:s.size≤1125899906842624):AFun PG nr_ref10_Subject [.str s] (.tup [.agg (ndC (subF s).1),.bool (subF s).2]):=by
  intro S
  refine w_ref10_Subject ?_
  unfold B_ref10_Subject
  intro b hb
  have hl:=@cutF_len s 35
  refine caW_pure (c_cut hs 35) ?_
  (try simp only [rwp,zA,zB,zC,zD,zE,zF,zG,zH,zI,rwb,reduceIte])
  have q:=c_Object (s:=(cutF s 35).1) (by omega)
  simp only [obC] at q
  refine caW_pure q ?_
  (try simp only [rwp,zA,zB,zC,zD,zE,zF,zG,zH,zI,rwb,reduceIte])
  refine caW_pure (c_ref10_Name (by omega)) ?_
  unfold subF
  cases h1:(objF (cutF s 35).1).2<;>cases h2:(cutF s 35).2.2<;>cases h3:nameB (cutF s 35).2.1<;>(try simp only [rwp,zA,zB,zC,zD,zE,zF,zG,zH,zI,rwb,reduceIte,C_ref10_Subject_1,C_ref10_Subject_2,C_ref10_Subject_3])<;>refine rtW_go S (Sub.supd hb (Sub.refl _)) ?_<;>(try simp only [rwp,zA,zB,zC,zD,zE,zF,zG,zH,zI,rwb,reduceIte,ndC])<;>simp
theorem c_Tuple {s:ByteArray} (hs:s.size≤1125899906842624):AFun PG nr_ref10_Tuple [.str s] (.tup [.agg (tuC (tupF s).1),.bool (tupF s).2]):=by
  intro S
  refine w_ref10_Tuple ?_
  unfold B_ref10_Tuple
  intro b hb
  have hl:=@cutF_len s 64
  have hl2:=@cutF_len (cutF s 64).1 35
  refine caW_pure (c_cut hs 64) ?_
  (try simp only [rwp,zA,zB,zC,zD,zE,zF,zG,zH,zI,rwb,reduceIte])
  refine caW_pure (c_cut (by omega) 35) ?_
  (try simp only [rwp,zA,zB,zC,zD,zE,zF,zG,zH,zI,rwb,reduceIte])
  have q:=c_Object (s:=(cutF (cutF s 64).1 35).1) (by omega)
  simp only [obC] at q
  refine caW_pure q ?_
  (try simp only [rwp,zA,zB,zC,zD,zE,zF,zG,zH,zI,rwb,reduceIte])
  have q2:=c_Subject (s:=(cutF s 64).2.1) (by omega)
  simp only [ndC] at q2
  refine caW_pure q2 ?_
  (try simp only [rwp,zA,zB,zC,zD,zE,zF,zG,zH,zI,rwb,reduceIte])
  refine caW_pure (c_ref10_Name (by omega)) ?_
  unfold tupF
  dsimp only
  cases h1:(cutF s 64).2.2<;>cases h2:(cutF (cutF s 64).1 35).2.2<;>cases h3:(objF (cutF (cutF s 64).1 35).1).2<;>cases h4:(subF (cutF s 64).2.1).2<;>cases h5:nameB (cutF (cutF s 64).1 35).2.1<;>(try simp only [rwp,zA,zB,zC,zD,zE,zF,zG,zH,zI,rwb,reduceIte,C_ref10_Tuple_1,C_ref10_Tuple_2,C_ref10_Tuple_3,C_ref10_Tuple_4])<;>refine rtW_go S (Sub.supd hb (Sub.refl _)) ?_<;>(try simp only [rwp,zA,zB,zC,zD,zE,zF,zG,zH,zI,rwb,reduceIte,tuC])<;>simp
theorem c_Tuples {l:List ByteArray} (hl:l.length≤1000000) (hs:∀ s∈l,s.size≤1125899906842624):AFun PG nr_law14_Tuples [.sl 1 (l.map fun s=>[.str s])] (.sl 6 ((l.map fun s=>(tupF s).1).map tuC)):=by
  intro S
  refine w_law14_Tuples ?_
  unfold B_law14_Tuples
  refine LoopP.intro (fun x:Nat×AV×Store=>[(0,.sl 1 (l.map fun s=>[.str s])),(3,x.2.1),(4,.int .i64 x.1)]) (fun x=>x.2.2) (fun x=>x.1≤l.length∧Sub S x.2.2∧LstN S x.2.2 tyTu 6 x.2.1 (((l.take x.1).map fun s=>(tupF s).1).map tuC)) (fun x=>l.length-x.1) (0,.nils,S) ⟨by omega,Sub.refl _,LstN.nil⟩ rfl (Sub.refl S) ?_
  rintro ⟨i,v,S'⟩ ⟨hi,hsu,hL⟩ r hr
  dsimp only at hi hsu hL ⊢
  (try simp only [rwp,zA,zB,zC,zD,zE,zF,zG,zH,zI,rwb,reduceIte,C_law14_Tuples_1,List.length_map])
  (refine cnW_intro (fun hlt=>?_) (fun hlt=>?_)<;>(try simp only [hlc] at hlt))
  · obtain ⟨s,hg⟩:=get_lt hlt
    (try simp only [rwp,zA,zB,zC,zD,zE,zF,zG,zH,zI,rwb,reduceIte,List.getElem?_map,hg])
    have q:=c_Tuple (hs s (List.mem_of_getElem? hg))
    simp only [tuC] at q
    refine caW_pure q ?_
    (try simp only [rwp,zA,zB,zC,zD,zE,zF,zG,zH,zI,rwb,reduceIte])
    have e:((l.take i).map fun s=>(tupF s).1).length≤1000000:=by rw [List.length_map,List.length_take];omega
    refine hL.tu (t:=(tupF s).1) hsu e fun v' S2 h1 h2=>?_
    (simp (disch:=omega) only [hwrap64])
    refine rcW_as rfl (hr (i+1,v',S2) ⟨by dsimp only;omega,h1,?_⟩ (by dsimp only;omega))
    dsimp only
    rw [take_snoc' hg,List.map_append]
    exact h2
  · have e:l.take i=l:=List.take_of_length_le (by omega)
    rw [e] at hL
    exact rtW_lst hsu hL ⟨rfl,rfl⟩
end Go.HL
set_option linter.unusedVariables false
set_option linter.unusedSimpArgs false
set_option maxRecDepth 20000
namespace Go.HL
open Nat renaming reduceAdd→zA,reduceLeDiff→zB,reduceLT→zC,reduceSub→zD,reduceMul→zE,reduceEqDiff→zF,reduceBEq→zG
open Int renaming reduceAdd→zH,reduceToNat→zI
def tx15:ByteArray:=⟨#[116,121,112,101,32,117,115,101,114,32,116,121,112,101,32,103,32,114,101,108,97,116,105,111,110,32,109,58,32,117,115,101,114,32,124,32,103,35,109]⟩
def bUser:ByteArray:=⟨#[117,115,101,114]⟩
def bG:ByteArray:=⟨#[103]⟩
def bM:ByteArray:=⟨#[109]⟩
def b1':ByteArray:=⟨#[49]⟩
def bA:ByteArray:=⟨#[97]⟩
def sc15:List Ty:=[⟨bUser,[]⟩,⟨bG,[⟨bM,[⟨bUser,⟨#[]⟩⟩,⟨bG,bM⟩],zeroE⟩]⟩]
def tt1:ByteArray:=⟨#[103,58,49,35,109,64,103,58,49,35,109]⟩
def tt2:ByteArray:=⟨#[103,58,49,35,109,64,117,115,101,114,58,97]⟩
def nG:Nd:=⟨⟨bG,b1'⟩,bM⟩
def oA:Ob:=⟨bUser,bA⟩
def l15:List Tu:=[⟨⟨bG,b1'⟩,bM,nG⟩,⟨⟨bG,b1'⟩,bM,⟨oA,⟨#[]⟩⟩⟩]
theorem p15:(parseF tx15).1=sc15:=by kernel_rfl
theorem ps15:(parseF tx15).2=.agg [.int .i64 0,.int .i64 0,.int .i64 0]:=by kernel_rfl
theorem t15:([tt1,tt2].map fun s=>(tupF s).1)=l15:=by kernel_rfl
theorem ok15:OkS sc15∧OkN sc15:=by
  have h:=parseF_ok (s:=tx15)
  rw [p15] at h
  exact ⟨h.1,h.2 (by decide)⟩
theorem okl15:OkL l15:=by
  rw [← t15]
  refine ⟨by decide,fun t ht=>?_⟩
  obtain ⟨s,hs,rfl⟩:=List.mem_map.1 ht
  refine tupF_ok ?_
  simp only [List.mem_cons,List.not_mem_nil,or_false] at hs
  rcases hs with rfl | rfl<;>decide
theorem a15:chk15 (envE sc15 l15 oA) 2 nG=.tup [.bool true,.int .i64 2,.int .i64 0]:=by kernel_rfl
theorem a15':chk15 (envE sc15 l15 oA) 1 nG=.tup [.bool false,.int .i64 0,.int .i64 12]:=by kernel_rfl
theorem c_awake15:AFun PG nr_law15_awake [] (.bool true):=by
  intro S
  refine w_law15_awake ?_
  unfold B_law15_awake
  have r1:=c_Parse tx15
  rw [p15,ps15] at r1
  have r2:=c_Tuples (l:=[tt1,tt2]) (by decide) (fun s hs=>by
    simp only [List.mem_cons,List.not_mem_nil,or_false] at hs
    rcases hs with rfl | rfl<;>decide)
  rw [t15] at r2
  have q1:=c_engine_Check ok15.1 ok15.2 okl15 nG oA 2
  have q2:=c_engine_Check ok15.1 ok15.2 okl15 nG oA 1
  rw [a15] at q1
  rw [a15'] at q2
  simp only [scA] at r1 q1 q2
  refine caW_pure r1 ?_
  (try simp only [rwp,zA,zB,zC,zD,zE,zF,zG,zH,zI,rwb,reduceIte])
  intro b3 hb3 b4 hb4
  obtain ⟨d43,hb4'⟩:=frsh hb4
  (try simp only [rwp,zA,zB,zC,zD,zE,zF,zG,zH,zI,rwb,reduceIte,d43,Ne.symm d43])
  refine caW_pure r2 ?_
  (try simp only [rwp,zA,zB,zC,zD,zE,zF,zG,zH,zI,rwb,reduceIte])
  refine caW_pure q1 ?_
  (try simp only [rwp,zA,zB,zC,zD,zE,zF,zG,zH,zI,rwb,reduceIte])
  refine caW_pure q2 ?_
  (try simp only [rwp,zA,zB,zC,zD,zE,zF,zG,zH,zI,rwb,reduceIte,C_law15_awake_1,C_law15_awake_2])
  refine rtW_go S ?_ ?_
  · intro a o ha
    have e3:=sget_ne hb3 ha
    have e4:=sget_ne hb4' ha
    simp only [sget_sdel,sget_supd,if_neg e3,if_neg e4]
    exact ha
  · (try simp only [rwp,zA,zB,zC,zD,zE,zF,zG,zH,zI,rwb,reduceIte])
end Go.HL
set_option linter.unusedVariables false
set_option linter.unusedSimpArgs false
set_option maxRecDepth 4000
namespace Go.HL
open Nat renaming reduceAdd→zA,reduceLeDiff→zB,reduceLT→zC,reduceSub→zD,reduceMul→zE,reduceEqDiff→zF,reduceBEq→zG
open Int renaming reduceAdd→zH,reduceToNat→zI
theorem c_ref10_ShowObject {o:Ob} (ho:OkO o):AFun PG nr_ref10_ShowObject [.agg (obC o)] (.str (showO o)):=by
  intro S
  refine w_ref10_ShowObject ?_
  unfold B_ref10_ShowObject
  (try simp only [rwp,zA,zB,zC,zD,zE,zF,zG,zH,zI,rwb,reduceIte,obC])
  refine caW_pure (c_ref10_Name ho.ty) ?_
  have h1:=ho.ty
  have h2:=ho.id
  (try simp only [rwp,zA,zB,zC,zD,zE,zF,zG,zH,zI,rwb,reduceIte])
  refine caW_pure (c_ref10_ID ho.id) ?_
  cases a1:nameB o.ty<;>cases a2:idB o.id<;>(try simp only [rwp,zA,zB,zC,zD,zE,zF,zG,zH,zI,rwb,reduceIte,C_ref10_ShowObject_1,ByteArray.size_append])
  · exact rtW_one ⟨by simp [showO,obB,a1],rfl⟩
  · exact rtW_one ⟨by simp [showO,obB,a1],rfl⟩
  · exact rtW_one ⟨by simp [showO,obB,a1,a2],rfl⟩
  · have:(ByteArray.mk #[58]).size=1:=rfl
    exact ⟨by omega,by omega,rtW_one ⟨by simp [showO,obB,a1,a2],rfl⟩⟩
theorem c_ref10_ShowSubject {n:Nd} (hn:OkD n):AFun PG nr_ref10_ShowSubject [.agg (ndC n)] (.str (showN n)):=by
  intro S
  refine w_ref10_ShowSubject ?_
  unfold B_ref10_ShowSubject
  (try simp only [rwp,zA,zB,zC,zD,zE,zF,zG,zH,zI,rwb,reduceIte,ndC])
  have q:=c_ref10_ShowObject hn.o
  simp only [obC] at q
  have h1:=showO_le hn.o
  have h2:=hn.rl
  refine caW_pure q ?_
  (try simp only [rwp,zA,zB,zC,zD,zE,zF,zG,zH,zI,rwb,reduceIte])
  refine caW_pure (c_ref10_Name hn.rl) ?_
  (try simp only [rwp,zA,zB,zC,zD,zE,zF,zG,zH,zI,rwb,reduceIte])
  rw [showO_nil]
  cases a1:obB n.o
  · (try simp only [rwp,zA,zB,zC,zD,zE,zF,zG,zH,zI,rwb,reduceIte,C_ref10_ShowSubject_1])
    exact rtW_one ⟨by simp [showN,showO,a1],rfl⟩
  · cases a2:decide (n.rl=⟨#[]⟩)
    · (try simp only [rwp,zA,zB,zC,zD,zE,zF,zG,zH,zI,rwb,reduceIte,C_ref10_ShowSubject_1,a2])
      have a2:=of_decide_eq_false a2
      cases a3:nameB n.rl
      · (try simp only [rwp,zA,zB,zC,zD,zE,zF,zG,zH,zI,rwb,reduceIte])
        exact rtW_one ⟨by simp [showN,a1,a2,a3],rfl⟩
      · (try simp only [rwp,zA,zB,zC,zD,zE,zF,zG,zH,zI,rwb,reduceIte,ByteArray.size_append])
        have:(ByteArray.mk #[35]).size=1:=rfl
        exact ⟨by omega,by omega,rtW_one ⟨by simp [showN,a1,a2,a3],rfl⟩⟩
    · (try simp only [rwp,zA,zB,zC,zD,zE,zF,zG,zH,zI,rwb,reduceIte,C_ref10_ShowSubject_1,a2])
      have a2:=of_decide_eq_true a2
      exact rtW_one ⟨by simp [showN,a1,a2],rfl⟩
theorem c_ref10_ShowTuple {t:Tu} (ht:OkU t):AFun PG nr_ref10_ShowTuple [.agg (tuC t)] (.str (showT t)):=by
  intro S
  refine w_ref10_ShowTuple ?_
  unfold B_ref10_ShowTuple
  (try simp only [rwp,zA,zB,zC,zD,zE,zF,zG,zH,zI,rwb,reduceIte,tuC])
  have q1:=c_ref10_ShowObject ht.o
  have q2:=c_ref10_ShowSubject ht.s
  simp only [obC] at q1
  simp only [ndC] at q2
  have h1:=showO_le ht.o
  have h2:=showN_le ht.s
  have h3:=ht.rl
  refine caW_pure q1 ?_
  (try simp only [rwp,zA,zB,zC,zD,zE,zF,zG,zH,zI,rwb,reduceIte])
  refine caW_pure q2 ?_
  (try simp only [rwp,zA,zB,zC,zD,zE,zF,zG,zH,zI,rwb,reduceIte])
  refine caW_pure (c_ref10_Name ht.rl) ?_
  (try simp only [rwp,zA,zB,zC,zD,zE,zF,zG,zH,zI,rwb,reduceIte])
  have e:=tuB_eq t
  rw [showO_nil,showN_nil]
  cases a1:obB t.o
  · (try simp only [rwp,zA,zB,zC,zD,zE,zF,zG,zH,zI,rwb,reduceIte,C_ref10_ShowTuple_1,C_ref10_ShowTuple_2])
    exact rtW_one ⟨by simp [showT,e,a1],rfl⟩
  · cases a2:(obB t.s.o&&(decide (t.s.rl=⟨#[]⟩)||nameB t.s.rl))
    · (try simp only [rwp,zA,zB,zC,zD,zE,zF,zG,zH,zI,rwb,reduceIte,C_ref10_ShowTuple_1,C_ref10_ShowTuple_2])
      exact rtW_one ⟨by simp only [showT,e,a1,a2];rfl,rfl⟩
    · (try simp only [rwp,zA,zB,zC,zD,zE,zF,zG,zH,zI,rwb,reduceIte,C_ref10_ShowTuple_1])
      cases a3:nameB t.rl
      · (try simp only [rwp,zA,zB,zC,zD,zE,zF,zG,zH,zI,rwb,reduceIte,C_ref10_ShowTuple_2])
        exact rtW_one ⟨by simp only [showT,e,a1,a2,a3];rfl,rfl⟩
      · (try simp only [rwp,zA,zB,zC,zD,zE,zF,zG,zH,zI,rwb,reduceIte,C_ref10_ShowTuple_2,ByteArray.size_append])
        have:(ByteArray.mk #[35]).size=1:=rfl
        have:(ByteArray.mk #[64]).size=1:=rfl
        exact ⟨by omega,by omega,by omega,by omega,rtW_one ⟨by simp only [showT,e,a1,a2,a3];rfl,rfl⟩⟩
theorem c_ref13_Allowed {s:List Ty} (hs:OkS s) {t:Tu} (ht:OkU t):AFun PG nr_ref13_Allowed [scA s,.agg (tuC t)] (.int .i64 (allowF s t)):=by
  intro S
  refine w_ref13_Allowed ?_
  unfold B_ref13_Allowed
  have q:=c_ref10_ShowTuple ht
  simp only [tuC] at q
  have hty:=hs.types
  (try simp only [rwp,zA,zB,zC,zD,zE,zF,zG,zH,zI,rwb,reduceIte,scA,tuC])
  refine caW_pure q ?_
  (try simp only [rwp,zA,zB,zC,zD,zE,zF,zG,zH,zI,rwb,reduceIte])
  rw [showT_nil]
  cases a1:tuB t
  · (try simp only [rwp,zA,zB,zC,zD,zE,zF,zG,zH,zI,rwb,reduceIte])
    exact rtW_one ⟨by simp [allowF,a1],rfl⟩
  · (try simp only [rwp,zA,zB,zC,zD,zE,zF,zG,zH,zI,rwb,reduceIte])
    have q2:=c_ref12_Find hs t.o.ty t.rl
    simp only [scA] at q2
    have loop:∀ (v5:List AV) (fd:Bool) (K:Bool→Prop),(∀ b:Bool,b=(typF s t.s.o.ty).isSome→C_ref13_Allowed_2 (fun ae S'=>ae=.ret (.int .i64 (allowF s t))∧S'=S) (.rop (tuC t)) (.rop v5) (.bool (!fd||!b)) S) →
        LoopP (fun r0 l S1=>C_ref13_Allowed_1 (fun ae S'=>ae=.ret (.int .i64 (allowF s t))∧S'=S) r0 (lget l 2) (lget l 3) (lget l 5) (lget l 6) (lget l 7) (lget l 8) S1) [(2,.rop [.sl 2 (s.map tyC)]),(3,.rop (tuC t)),(5,.rop v5),(6,.bool fd),(7,.bool false),(8,.int .i64 0)] S:=by
      intro v5 fd K hK
      refine LoopP.intro (fun i:Nat=>[(2,.rop [.sl 2 (s.map tyC)]),(3,.rop (tuC t)),(5,.rop v5),(6,.bool fd),(7,.bool ((s.take i).any fun u=>decide (u.name=t.s.o.ty))),(8,.int .i64 i)]) (fun _=>S) (fun i=>i≤s.length) (fun i=>s.length-i) 0 (by omega) rfl (Sub.refl S) ?_
      intro i hi k hk
      (try simp only [rwp,zA,zB,zC,zD,zE,zF,zG,zH,zI,rwb,reduceIte,C_ref13_Allowed_1])
      (refine cnW_intro (fun hlt=>?_) (fun hlt=>?_)<;>(try simp only [hlc] at hlt))
      · obtain ⟨u,hu⟩:=get_lt hlt
        have hn:=hk (i+1) (by omega) (by omega)
        rw [any_take_succ hu] at hn
        cases a2:(s.take i).any fun u=>decide (u.name=t.s.o.ty)
        · rw [a2,Bool.false_or] at hn
          (try simp only [rwp,zA,zB,zC,zD,zE,zF,zG,zH,zI,rwb,reduceIte,hu,tyC,tuC])
          (simp (disch:=omega) only [hwrap64])
          exact rcW_as rfl hn
        · rw [a2,Bool.true_or] at hn
          (try simp only [rwp,zA,zB,zC,zD,zE,zF,zG,zH,zI,rwb,reduceIte,hu,tyC,tuC])
          (simp (disch:=omega) only [hwrap64])
          exact rcW_as rfl hn
      · have e:s.take i=s:=List.take_of_length_le (by omega)
        rw [e,typ_any]
        have:=hK _ rfl
        cases fd
        · (try simp only [rwp,zA,zB,zC,zD,zE,zF,zG,zH,zI,rwb,reduceIte])
          simpa only [Bool.not_false,Bool.true_or] using this
        · (try simp only [rwp,zA,zB,zC,zD,zE,zF,zG,zH,zI,rwb,reduceIte])
          simpa only [Bool.not_true,Bool.false_or] using this
    cases hq:findF s t.o.ty t.rl with
    | none=>
      rw [hq] at q2
      refine caW_pure q2 ?_
      (try simp only [rwp,zA,zB,zC,zD,zE,zF,zG,zH,zI,rwb,reduceIte,zeroR])
      refine loop _ false (fun _=>True) fun b hb=>?_
      (try simp only [rwp,zA,zB,zC,zD,zE,zF,zG,zH,zI,rwb,reduceIte,C_ref13_Allowed_2])
      exact rtW_one ⟨by simp [allowF,a1,hq],rfl⟩
    | some q3=>
      obtain ⟨i,k,r⟩:=q3
      obtain ⟨-,ty,h2,-,h4⟩:=findF_at hq
      have hok:=(hs.at h2).at h4
      have hrl:=hok.refs
      rw [hq] at q2
      refine caW_pure q2 ?_
      (try simp only [rwp,zA,zB,zC,zD,zE,zF,zG,zH,zI,rwb,reduceIte,rlC_eq])
      refine loop _ true (fun _=>True) fun b hb=>?_
      cases b
      · (try simp only [rwp,zA,zB,zC,zD,zE,zF,zG,zH,zI,rwb,reduceIte,C_ref13_Allowed_2])
        exact rtW_one ⟨by simp only [allowF,a1,hq,← hb];rfl,rfl⟩
      · (try simp only [rwp,zA,zB,zC,zD,zE,zF,zG,zH,zI,rwb,reduceIte,C_ref13_Allowed_2])
        have hval:allowF s t=if r.refs.any (fun f=>decide (t.s.o.ty=f.ty)&&decide (t.s.rl=f.rl)) then 0 else 10:=by simp only [allowF,a1,hq,← hb];rfl
        refine LoopP.intro (fun i:Nat=>[(3,.rop (tuC t)),(5,.rop [.str r.name,.sl 2 (r.refs.map rfC),.int .i64 r.ex.kind,.str r.ex.name,.str r.ex.over,.sl 4 (r.ex.kids.map exC)]),(9,.int .i64 i)]) (fun _=>S) (fun i=>i≤r.refs.length∧(r.refs.take i).any (fun f=>decide (t.s.o.ty=f.ty)&&decide (t.s.rl=f.rl))=false) (fun i=>r.refs.length-i) 0 ⟨by omega,rfl⟩ rfl (Sub.refl S) ?_
        rintro i ⟨hi,hn⟩ k hk
        (try simp only [rwp,zA,zB,zC,zD,zE,zF,zG,zH,zI,rwb,reduceIte,C_ref13_Allowed_3])
        (refine cnW_intro (fun hlt=>?_) (fun hlt=>?_)<;>(try simp only [hlc] at hlt))
        · obtain ⟨f,hf⟩:=get_lt hlt
          have hs:=any_take_succ (p:=fun f:Rf=>decide (t.s.o.ty=f.ty)&&decide (t.s.rl=f.rl)) hf
          rw [hn,Bool.false_or] at hs
          (try simp only [rwp,zA,zB,zC,zD,zE,zF,zG,zH,zI,rwb,reduceIte,hf,rfC,tuC])
          have comm:∀ a b:ByteArray,decide (a=b)=decide (b=a):=fun a b=>by rw [Bool.eq_iff_iff];simp [eq_comm]
          rw [comm f.ty]
          cases b1:decide (t.s.o.ty=f.ty)
          · (try simp only [rwp,zA,zB,zC,zD,zE,zF,zG,zH,zI,rwb,reduceIte])
            (simp (disch:=omega) only [hwrap64])
            exact rcW_as rfl (hk (i+1) ⟨by omega,by rw [hs,b1];rfl⟩ (by omega))
          · (try simp only [rwp,zA,zB,zC,zD,zE,zF,zG,zH,zI,rwb,reduceIte,hf,rfC,tuC])
            rw [comm f.rl]
            cases b2:decide (t.s.rl=f.rl)
            · (try simp only [rwp,zA,zB,zC,zD,zE,zF,zG,zH,zI,rwb,reduceIte])
              (simp (disch:=omega) only [hwrap64])
              exact rcW_as rfl (hk (i+1) ⟨by omega,by rw [hs,b1,b2];rfl⟩ (by omega))
            · (try simp only [rwp,zA,zB,zC,zD,zE,zF,zG,zH,zI,rwb,reduceIte])
              refine rtW_one ⟨?_,rfl⟩
              rw [hval,if_pos (List.any_eq_true.2 ⟨f,List.mem_of_getElem? hf,by rw [b1,b2];rfl⟩)]
        · have e:r.refs.take i=r.refs:=List.take_of_length_le (by omega)
          rw [e] at hn
          exact rtW_one ⟨by rw [hval,hn];rfl,rfl⟩
theorem c_ref14_Counts {s:List Ty} (hs:OkS s) {l:List Tu} (hl:OkL l):AFun PG nr_ref14_Counts [scA s,.sl 6 (l.map tuC)] (.sl 6 ((countsF s l).map tuC)):=by
  intro S
  refine w_ref14_Counts ?_
  unfold B_ref14_Counts
  have hn:=hl.n
  (try simp only [rwp,zA,zB,zC,zD,zE,zF,zG,zH,zI,rwb,reduceIte,scA])
  refine LoopP.introS (fun p:Nat×AV=>[(1,.sl 6 (l.map tuC)),(2,.rop [.sl 2 (s.map tyC)]),(5,p.2),(6,.int .i64 p.1)]) (fun p S'=>p.1≤l.length∧Sub S S'∧LstN S S' tyTu 6 p.2 ((countsF s (l.take p.1)).map tuC)) (fun p=>l.length-p.1) (0,.nils) ⟨by omega,Sub.refl S,LstN.nil⟩ rfl ?_
  rintro ⟨i,v⟩ S' ⟨hi,hsub,hv⟩ k hk
  dsimp only at hi hsub hv
  (try simp only [rwp,zA,zB,zC,zD,zE,zF,zG,zH,zI,rwb,reduceIte,C_ref14_Counts_1])
  (refine cnW_intro (fun hlt=>?_) (fun hlt=>?_)<;>(try simp only [hlc] at hlt))
  · obtain ⟨t,ht⟩:=get_lt hlt
    have q:=c_ref13_Allowed hs (hl.ok t (List.mem_of_getElem? ht))
    simp only [scA,tuC] at q
    have e:=filter_take_succ (p:=fun t=>decide (allowF s t=0)) ht
    (try simp only [rwp,zA,zB,zC,zD,zE,zF,zG,zH,zI,rwb,reduceIte,ht,tuC])
    refine caW_pure q ?_
    (try simp only [rwp,zA,zB,zC,zD,zE,zF,zG,zH,zI,rwb,reduceIte])
    have hlen:(countsF s (l.take i)).length≤i:=Nat.le_trans (List.length_filter_le _ _) (by rw [List.length_take];omega)
    cases a1:decide (allowF s t=0)
    · rw [a1] at e
      (try simp only [rwp,zA,zB,zC,zD,zE,zF,zG,zH,zI,rwb,reduceIte])
      (simp (disch:=omega) only [hwrap64])
      exact rcW_as rfl (hk (i+1,v) S' ⟨by dsimp only;omega,hsub,by dsimp only;rw [countsF,e];simpa [countsF] using hv⟩ (by dsimp only;omega))
    · rw [a1] at e
      (try simp only [rwp,zA,zB,zC,zD,zE,zF,zG,zH,zI,rwb,reduceIte,ht,tuC])
      refine LstN.tu (t:=t) hsub hv (by omega) fun v' S2 h1 h2=>?_
      (simp (disch:=omega) only [hwrap64])
      exact rcW_as rfl (hk (i+1,v') S2 ⟨by dsimp only;omega,h1,by dsimp only;rw [countsF,e];exact h2⟩ (by dsimp only;omega))
  · have e:l.take i=l:=List.take_of_length_le (by omega)
    rw [e] at hv
    exact rtW_lst hsub hv ⟨rfl,rfl⟩
end Go.HL
set_option linter.unusedVariables false
set_option linter.unusedSimpArgs false
set_option maxRecDepth 4000
namespace Go.HL
open Nat renaming reduceAdd→zA,reduceLeDiff→zB,reduceLT→zC,reduceSub→zD,reduceMul→zE,reduceEqDiff→zF,reduceBEq→zG
open Int renaming reduceAdd→zH,reduceToNat→zI
def LstW (S0 S:Store) (t sz:Nat) (v:AV) (rows:List (List AV)):Prop:=
  (∀ r∈rows,r.length=sz)∧((v=.nils∧rows=[])∨∃ b cap cs,v=.own b 0 rows.length cap∧sget S0 b=none∧sget S b=some (.cells t cs (cap * sz))∧cs.take (rows.length * sz)=rows.flatten∧rows.length * sz≤cs.length∧rows.length≤cap∧cap≤maxLen)
section
variable {S0 S:Store} {t sz bytes:Nat} {v:AV} {rows xs:List (List AV)} {K:AV→Store→Prop}
theorem LstW.nil:LstW S0 S t sz .nils []:=⟨fun r hr=>by (cases hr),.inl ⟨rfl,rfl⟩⟩
theorem LstW.upd (h:LstW S0 S t sz v rows) {c:Nat} (hc:Aside v c) (o:AObj):LstW S0 (supd S c o) t sz v rows:=by
  obtain ⟨hr,h⟩:=h
  refine ⟨hr,?_⟩
  rcases h with h | ⟨b,cap,cs,rfl,h1,h2,h3⟩
  · exact .inl h
  · exact .inr ⟨b,cap,cs,rfl,h1,by rw [sget_supd,if_neg (hc b 0 _ _ rfl)];exact h2,h3⟩
theorem LstW.app (hs:Sub S0 S) (h:LstW S0 S t sz v rows) {x:List AV} (hx:x.length=sz) (ho:ones x=true) (hb:(rows.length+1) * bytes≤140737488355328)
    (hK:∀ v' S',Sub S0 S'→LstW S0 S' t sz v' (rows++[x])→(∀ c o,sget S c=some o→Aside v c→sget S' c=some o∧Aside v' c)→K v' S'):apW S t sz bytes v (.sl sz [x]) K:=by
  refine ⟨1,x,by simp [appX],ho,?_⟩
  obtain ⟨hr,h⟩:=h
  have hall:∀ r∈rows++[x],r.length=sz:=fun r hm=>(List.mem_append.1 hm).elim (hr r) fun h=>by rw [List.mem_singleton.1 h];exact hx
  have hfl:(rows++[x]).flatten.length=(rows.length+1) * sz:=by rw [flat_len hall];simp
  rcases h with ⟨rfl,rfl⟩ | ⟨b,cap,cs,rfl,h1,h2,h3,h4,h5,h6⟩
  · dsimp only
    simp only [List.length_nil,Nat.zero_add] at hb
    refine ⟨hb,?_⟩
    rw [if_neg (by decide)]
    intro b cap hbn k1 k2
    have hb0:=Sub.none hs hbn
    refine hK _ _ (hs.supd hb0) ⟨hall,.inr ⟨b,cap,x,by simp,hb0,by rw [sget_supd,if_pos rfl],?_,by simp [hx],by simpa using k1,k2⟩⟩ fun c o hc _=>?_
    · simp [List.take_of_length_le,hx]
    · have hne:b≠c:=sget_ne hbn hc
      exact ⟨by rw [sget_supd,if_neg hne];exact hc,fun b' off n cap h=>by cases h;exact Ne.symm hne⟩
  · refine ⟨_,h2,h5,h6,h4,hb,fun b' cap' k1 k2 k3=>?_⟩
    rw [h3]
    have hb0:sget S0 b'=none:=by
      rcases k1 with rfl | k1
      · exact h1
      · exact Sub.none hs k1
    have hsub:Sub S0 (supd (sdel S b) b' (.cells t (rows.flatten++x) (cap' * sz))):=by
      refine Sub.supd hb0 fun c o hc=>?_
      have hne:b≠c:=by rintro rfl;rw [h1] at hc;cases hc
      rw [sget_sdel,if_neg hne]
      exact hs c o hc
    refine hK _ _ hsub ⟨hall,.inr ⟨b',cap',rows.flatten++x,by simp,hb0,by rw [sget_supd,if_pos rfl],?_,?_,by simpa using k2,k3⟩⟩ fun c o hc ha=>?_
    · have e:rows.flatten++x=(rows++[x]).flatten:=by simp
      rw [e,List.take_of_length_le (by rw [hfl];simp)]
    · have e:rows.flatten++x=(rows++[x]).flatten:=by simp
      rw [e,hfl];simp
    · have hcb:c≠b:=ha b 0 _ _ rfl
      have hcb':b'≠c:=by
        rcases k1 with rfl | k1
        · exact Ne.symm hcb
        · exact sget_ne k1 hc
      exact ⟨by rw [sget_supd,if_neg hcb',sget_sdel,if_neg (Ne.symm hcb)];exact hc,fun b'' off n cap h=>by cases h;exact Ne.symm hcb'⟩
theorem LstW.one (h:LstW S0 S t sz v rows):Go.HL.one v=true:=by
  obtain ⟨hr,h⟩:=h
  rcases h with ⟨rfl,-⟩ | ⟨b,cap,cs,rfl,-⟩<;>rfl
theorem LstW.ln {K:AV→Prop} {S':Store} (h:LstW S0 S t sz v rows):lnW S' 1 v K=K (.int .i64 rows.length):=by
  obtain ⟨hr,⟨rfl,rfl⟩ | ⟨b,cap,cs,rfl,-⟩⟩:=h
  · rw [lnW_nils];rfl
  · rw [lnW_own]
theorem LstW.get (h:LstW S0 S t sz v rows) {i:Nat} {r:List AV} (hi:rows[i]?=some r):∃ b cap cs,v=.own b 0 rows.length cap∧cellsAt S b=some cs∧(cs.drop (i * sz)).take sz=r∧i * sz+sz≤cs.length:=by
  obtain ⟨hr,⟨rfl,rfl⟩ | ⟨b,cap,cs,rfl,h1,h2,h3,h4,h5,h6⟩⟩:=h
  · simp at hi
  · have hlt:=(List.getElem?_eq_some_iff.1 hi).1
    have hrl:=hr r (List.mem_of_getElem? hi)
    have hle:i * sz+sz≤rows.length * sz:=by
      calc i * sz+sz=(i+1) * sz:=by rw [Nat.succ_mul]
        _≤rows.length * sz:=Nat.mul_le_mul_right _ hlt
    refine ⟨b,cap,cs,rfl,cellsAt_of (objAt_some.2 h2),?_,by omega⟩
    apply List.ext_getElem?
    intro j
    rw [List.getElem?_take]
    by_cases hj:j<sz
    · rw [if_pos hj,List.getElem?_drop]
      have hu:r[j]?=some (r[j]'(by omega)):=List.getElem?_eq_getElem (by omega)
      have:=flat_get hr hi hu
      rw [← h3,List.getElem?_take,if_pos (by omega)] at this
      rw [this,hu]
    · rw [if_neg hj,List.getElem?_eq_none_iff.2 (by omega)]
end
abbrev tyS5:Nat:=106
abbrev tyFa:Nat:=175
def s5C (E:Env15) (L:List Tu) (B:Int) (w:Nat) (pv:AV) (over:Bool):List AV:=[.sl 2 (E.s.map tyC),.sl 6 (L.map tuC),.str E.who.ty,.str E.who.id,.int .i64 B,.int .i64 w,pv,.bool over]
structure RfOk (E:Env15) (L:List Tu) (B:Int) (bc:Nat) (S0:Store):Prop where
  s:OkS E.s
  may:∀ t∈E.s,∀ r∈t.rels,r.refs.length=0→mayE 12 r.ex=true
  nb:sget S0 bc=none
  lst:OkL L
  of:∀ n,E.of n=(ofF L n).map Tu.s
  B:B≤100000
def StR (E:Env15) (L:List Tu) (B:Int) (bc:Nat) (S0:Store) (P:List Nd) (over:Bool) (w:Nat) (S:Store):Prop:=
  (over=false→(w:Int)≤B)∧Sub S0 S∧∃ pv,objAt S bc=some (tyS5,s5C E L B w pv over,8)∧LstW S0 S tyFa 3 pv (P.reverse.map ndC)∧Aside pv bc
section
variable {E:Env15} {L:List Tu} {B:Int} {bc:Nat} {S0:Store} {P:List Nd} {ask:Nd→Nat→Option (Bool×Nat)}
theorem ob_dec (a b:Ob):decide (a=b)=(decide (a.ty=b.ty)&&decide (a.id=b.id)):=by
  rw [Bool.eq_iff_iff]
  cases a;cases b
  simp
theorem seen {P:List Nd} {n:Nd} {i:Nat} (h:∀ (j:Nat) (m:Nd),j<i→P.reverse[j]?=some m→¬ m=n) (hi:P.length≤i):n ∉ P:=fun hn=>by
  obtain ⟨j,hj⟩:=List.getElem?_of_mem (List.mem_reverse.2 hn)
  have hlt:=(List.getElem?_eq_some_iff.1 hj).1
  rw [List.length_reverse] at hlt
  exact h j n (by omega) hj rfl
theorem StR.set (h:RfOk E L B bc S0) {S:Store} {pv:AV} {over:Bool} {w:Nat} {cs:List AV} (hw:over=false→(w:Int)≤B) (hsub:Sub S0 S) (hlst:LstW S0 S tyFa 3 pv (P.reverse.map ndC)) (ha:Aside pv bc) (hcs:cs=s5C E L B w pv over):StR E L B bc S0 P over w (supd S bc (.cells tyS5 cs 8)):=by
  subst hcs
  exact ⟨hw,Sub.supd h.nb hsub,pv,by rw [objAt_supd,if_pos rfl],hlst.upd ha _,ha⟩
end
end Go.HL
set_option linter.unusedVariables false
set_option linter.unusedSimpArgs false
namespace Go.HL
open Nat renaming reduceAdd→zA,reduceLeDiff→zB,reduceLT→zC,reduceSub→zD,reduceMul→zE,reduceEqDiff→zF,reduceBEq→zG
open Int renaming reduceAdd→zH,reduceToNat→zI
theorem raiseN_quiet {N:Nat} {n:Nat×Nat}:∀ {l:List Ln} {a:Lv×Bool},a.2=false→(raiseN N n l a).2=false→(raiseN N n l a)=a∧∀ x∈l,¬ (getL a.1 n<getL a.1 x.1+x.2.toNat∧getL a.1 n≤N)
  | [],a,h0,h=>⟨rfl,fun x hx=>by cases hx⟩
  | l :: r,a,h0,h=>by
    have stay:∀ {l:List Ln} {a:Lv×Bool},a.2=true→(raiseN N n l a).2=true:=by
      intro l
      induction l with
      | nil=>intro a h;exact h
      | cons x l ih=>
        intro a h
        unfold raiseN
        split
        · exact ih rfl
        · exact ih h
    unfold raiseN at h ⊢
    split at h
    · rw [stay rfl] at h;cases h
    · rename_i hc
      rw [if_neg hc]
      obtain ⟨h1,h2⟩:=raiseN_quiet h0 h
      refine ⟨h1,fun x hx=>?_⟩
      rcases List.mem_cons.1 hx with rfl | hx
      · exact hc
      · exact h2 x hx
theorem roundF_quiet {N:Nat}:∀ {w:List Rw} {a:Lv×Bool},a.2=false→(roundF N w a).2=false→∀ x∈w,∀ l∈x.2,¬ (getL a.1 x.1<getL a.1 l.1+l.2.toNat∧getL a.1 x.1≤N)
  | [],a,h0,h,x,hx=>by cases hx
  | y :: w,a,h0,h,x,hx=>by
    unfold roundF at h
    have stay:∀ {w:List Rw} {a:Lv×Bool},a.2=true→(roundF N w a).2=true:=by
      intro w
      induction w with
      | nil=>intro a h;exact h
      | cons z w ih=>
        intro a h
        unfold roundF
        refine ih ?_
        have:∀ {l:List Ln} {a:Lv×Bool},a.2=true→(raiseN N z.1 l a).2=true:=by
          intro l
          induction l with
          | nil=>intro a h;exact h
          | cons x l ih=>
            intro a h
            unfold raiseN
            split
            · exact ih rfl
            · exact ih h
        exact this h
    have h1:(raiseN N y.1 y.2 a).2=false:=by
      cases hq:(raiseN N y.1 y.2 a).2 with
      | false=>rfl
      | true=>rw [stay hq] at h;cases h
    obtain ⟨e1,e2⟩:=raiseN_quiet h0 h1
    rw [e1] at h
    rcases List.mem_cons.1 hx with rfl | hx
    · exact e2
    · exact roundF_quiet h0 h x hx
theorem iterF_quiet {N:Nat} {s:List Ty} {w:List Rw} (hw:RwOk s w):∀ {f:Nat} {lv:Lv},Shp lv s→Bdd N lv→manyF s * (N+1)<f+phi N lv→(roundF N w (iterF N w f lv,false)).2=false
  | 0,lv,h1,h2,h3=>by have:=phi_shp (N:=N) h1;omega
  | f+1,lv,h1,h2,h3=>by
    obtain ⟨k1,k2,k3,k4,k5,k6⟩:=roundF_keep (N:=N) (a:=(lv,false)) hw h1 h2
    unfold iterF
    split
    · rename_i hr
      have:=k5 rfl hr
      exact iterF_quiet hw k1 k2 (by dsimp only at this;omega)
    · rename_i hr
      have hr:(roundF N w (lv,false)).2=false:=by simpa using hr
      have h4:=k6 hr
      dsimp only at h4
      rw [h4]
      exact hr
theorem lev_quiet {s:List Ty} (h:manyF s≤256):(roundF (manyF s) (rowsF s) (levF s,false)).2=false:=by
  refine iterF_quiet (rows_ok s) (shp_zero s) bdd_zero ?_
  have:manyF s * (manyF s+1)≤256 * 257:=Nat.mul_le_mul h (by omega)
  omega
theorem lev_stands {s:List Ty} (h:errA (chkF s)=0) {i k:Nat} {t:Ty} {r:Rl} (ht:s[i]?=some t) (hr:t.rels[k]?=some r):getL (levF s) (i,k)≤manyF s∧∀ l∈leansF s t.name r,getL (levF s) l.1+l.2.toNat≤getL (levF s) (i,k):=by
  have hg:=chk_good h
  have h1:getL (levF s) (i,k)≤manyF s:=by
    unfold chkF at h
    split at h
    · rename_i h0;exact absurd h h0
    · cases hq:eachF s (cycF s) with
      | some q=>
        obtain ⟨a,b,e⟩:=q
        have:=eachF_err hq
        rw [hq] at h
        exact absurd h this
      | none=>
        have h2:=eachF_none hq ht hr
        unfold cycF at h2
        split at h2
        · cases h2
        · omega
  refine ⟨h1,fun l hl=>?_⟩
  have h2:=roundF_quiet rfl (lev_quiet hg.many)
  have hm:∃ x∈rowsF s,x.1=(i,k)∧x.2=leansF s t.name r:=by
    have h3:=lookR_at ht hr
    have key:∀ w:List Rw,lookR w (i,k)=some (leansF s t.name r)→∃ x∈w,x.1=(i,k)∧x.2=leansF s t.name r:=by
      intro w
      induction w with
      | nil=>intro h;cases h
      | cons x w ih=>
        intro h
        unfold lookR at h
        split at h
        · rename_i he
          exact ⟨x,by simp,he.symm,Option.some.inj h⟩
        · obtain ⟨y,hy,h4⟩:=ih h
          exact ⟨y,List.mem_cons_of_mem _ hy,h4⟩
    exact key _ h3
  obtain ⟨x,hx,e1,e2⟩:=hm
  have h4:=h2 x hx l (by rw [e2];exact hl)
  rw [e1] at h4
  dsimp only at h4
  omega
end Go.HL
set_option linter.unusedVariables false
set_option linter.unusedSimpArgs false
namespace Go.HL
open Nat renaming reduceAdd→zA,reduceLeDiff→zB,reduceLT→zC,reduceSub→zD,reduceMul→zE,reduceEqDiff→zF,reduceBEq→zG
open Int renaming reduceAdd→zH,reduceToNat→zI
def lvN (s:List Ty) (n:Nd):Nat:=match findF s n.o.ty n.rl with
  | some (i,k,_)=>getL (levF s) (i,k)
  | none=>0
def exB (E:Env15) (K:Nd→Bool) (o:Ob):Nat→Ex→Bool
  | 0,_=>false
  | m+1,.mk k n ov ks=>if k=0 then K ⟨o,n⟩ else if k=1 then (E.of ⟨o,n⟩).any (fun x=>decide (x.rl=⟨#[]⟩)&&K ⟨x.o,ov⟩) else match ks with
    | [a,b]=>if k=2 then exB E K o m a||exB E K o m b else if k=4 then exB E K o m a&&!exB E K o m b else exB E K o m a&&exB E K o m b
    | _=>false
def bodyB (E:Env15) (K:Nd→Bool) (n:Nd) (r:Rl):Bool:=
  if r.refs.length=0 then exB E K n.o 12 r.ex else (E.of n).any fun x=>if x.rl=⟨#[]⟩ then decide (x.o=E.who) else K x
theorem fold_say {α:Type} {step:Nat→α→Option (Bool×Nat)} {P Q:α→Prop}:∀ {xs:List α} {w w':Nat} {b:Bool},(∀ x∈xs,∀ w b w',step w x=some (b,w')→(b=true→P x)∧(Q x→b=true))→foldE step xs w=some (b,w') →
    (b=true→∃ x∈xs,P x)∧((∃ x∈xs,Q x)→b=true)
  | [],w,w',b,h,e=>by
    simp only [foldE,Option.some.injEq,Prod.mk.injEq] at e
    obtain ⟨rfl,rfl⟩:=e
    exact ⟨fun h=>(by cases h),fun ⟨x,hx,_⟩=>(by cases hx)⟩
  | x :: r,w,w',b,h,e=>by
    unfold foldE at e
    cases hs:step w x with
    | none=>rw [hs] at e;cases e
    | some p=>
      obtain ⟨y,w1⟩:=p
      rw [hs] at e
      have hx:=h x (by simp) w y w1 hs
      cases y with
      | true=>
        simp only [Option.some.injEq,Prod.mk.injEq] at e
        obtain ⟨rfl,rfl⟩:=e
        exact ⟨fun _=>⟨x,by simp,hx.1 rfl⟩,fun _=>rfl⟩
      | false=>
        have ih:=fold_say (fun y hy=>h y (List.mem_cons_of_mem _ hy)) e
        refine ⟨fun hb=>?_,fun ⟨y,hy,hq⟩=>?_⟩
        · obtain ⟨y,hy,hp⟩:=ih.1 hb
          exact ⟨y,List.mem_cons_of_mem _ hy,hp⟩
        · rcases List.mem_cons.1 hy with rfl | hy
          · exact absurd (hx.2 hq) (by simp)
          · exact ih.2 ⟨y,hy,hq⟩
structure OfOk (E:Env15):Prop where
  ok:∀ n x,x∈E.of n→∃ i k r,findF E.s n.o.ty n.rl=some (i,k,r)∧∃ f∈r.refs,x.o.ty=f.ty∧x.rl=f.rl
theorem env_ok (s:List Ty) (l:List Tu) (who:Ob):OfOk (envE s l who):=by
  refine ⟨fun n x hx=>?_⟩
  obtain ⟨t,ht,rfl⟩:=List.mem_map.1 hx
  unfold ofF countsF at ht
  simp only [List.mem_filter,Bool.and_eq_true,decide_eq_true_eq] at ht
  obtain ⟨⟨-,h1⟩,h2,h3⟩:=ht
  unfold allowF at h1
  rw [h2,h3] at h1
  split at h1
  · split at h1
    · cases h1
    · rename_i i k r hf
      refine ⟨i,k,r,hf,?_⟩
      split at h1
      · split at h1
        · rename_i hq
          obtain ⟨f,hf,hq⟩:=List.any_eq_true.1 hq
          simp only [Bool.and_eq_true,decide_eq_true_eq] at hq
          exact ⟨f,hf,hq⟩
        · cases h1
      · cases h1
  · cases h1
def Low (s:List Ty) (N:Nat) (out:Bool) (c:Nd):Prop:=findF s c.o.ty c.rl=none∨lvN s c+out.toNat≤N
section
variable {E:Env15} {ask:Nd→Nat→Option (Bool×Nat)} {M K:Nd→Bool} {N:Nat}
theorem ex_say (hE:OfOk E) (hp:∀ c w b w',Low E.s N false c→ask c w=some (b,w')→(b=true→M c=true)∧(K c=true→b=true))
    (hn:∀ c w b w',Low E.s N true c→ask c w=some (b,w')→b=M c) (hk:∀ c,Low E.s N true c→K c=M c) (o:Ob) :
    ∀ (m:Nat) (e:Ex) (out:Bool) (w:Nat) (b:Bool) (w':Nat),mayE m e=true→(∀ p∈leavesE e out,∀ l∈leafF E.s o.ty p.1 p.2,getL (levF E.s) l.1+l.2.toNat≤N)→exQ E ask o m e w=some (b,w') →
      (out=false→(b=true→exB E M o m e=true)∧(exB E K o m e=true→b=true))∧(out=true→b=exB E M o m e∧exB E K o m e=exB E M o m e)
  | 0,e,out,w,b,w',hm,hl,h=>by cases hm
  | m+1,.mk k n ov ks,out,w,b,w',hm,hl,h=>by
    have ih:=ex_say hE hp hn hk o m
    unfold mayE at hm
    unfold exQ at h
    unfold exB
    unfold leavesE at hl
    by_cases k0:k=0
    · simp only [if_pos k0] at hm h ⊢
      rw [Bool.and_eq_true] at hm
      rw [if_pos hm.2] at hl
      have low:Low E.s N out ⟨o,n⟩:=by
        unfold Low lvN
        cases hq:findF E.s o.ty n with
        | none=>exact .inl rfl
        | some p=>
          obtain ⟨i,j,r⟩:=p
          refine .inr (hl (.mk k n ov ks,out) (by simp) ((i,j),out) ?_)
          unfold leafF Ex.name
          simp only [hq]
          exact List.mem_cons_self
      refine ⟨fun ho=>?_,fun ho=>?_⟩
      · subst ho;exact hp _ w b w' low h
      · subst ho;exact ⟨hn _ w b w' low h,hk _ low⟩
    · simp only [if_neg k0] at hm h ⊢
      by_cases k1:k=1
      · simp only [if_pos k1] at hm h ⊢
        rw [Bool.and_eq_true,Bool.and_eq_true] at hm
        rw [if_pos hm.2.2] at hl
        have low:∀ x∈E.of ⟨o,n⟩,x.rl=⟨#[]⟩→Low E.s N out ⟨x.o,ov⟩:=by
          intro x hx hx0
          obtain ⟨i,j,r,h1,f,h2,h3,h4⟩:=hE.ok _ x hx
          unfold Low lvN
          cases hq:findF E.s x.o.ty ov with
          | none=>exact .inl rfl
          | some p=>
            obtain ⟨i2,j2,r2⟩:=p
            refine .inr ?_
            simp only
            refine hl (.mk k n ov ks,out) (by simp) ((i2,j2),out) ?_
            unfold leafF Ex.name Ex.kind Ex.over
            simp only [show findF E.s o.ty n=some (i,j,r) from h1,if_pos k1]
            refine List.mem_cons_of_mem _ (List.mem_map.2 ⟨(i2,j2),?_,rfl⟩)
            unfold overF
            refine List.mem_filterMap.2 ⟨f,h2,?_⟩
            rw [if_pos (h4.symm.trans hx0),← h3,hq]
            rfl
        refine ⟨fun ho=>?_,fun ho=>?_⟩
        · subst ho
          have q:=fold_say (P:=fun x:Nd=>x.rl=⟨#[]⟩∧M ⟨x.o,ov⟩=true) (Q:=fun x:Nd=>x.rl=⟨#[]⟩∧K ⟨x.o,ov⟩=true) (fun x hx w b w' hs=>by
            unfold stepA at hs
            split at hs
            · rename_i h0
              have:=hp _ w b w' (low x hx h0) hs
              exact ⟨fun hb=>⟨h0,this.1 hb⟩,fun hq=>this.2 hq.2⟩
            · rename_i h0
              simp only [Option.some.injEq,Prod.mk.injEq] at hs
              exact ⟨fun hb=>(by rw [← hs.1] at hb;cases hb),fun hq=>absurd hq.1 h0⟩) h
          simp only [List.any_eq_true,Bool.and_eq_true,decide_eq_true_eq]
          exact q
        · subst ho
          have q:=fold_say (P:=fun x:Nd=>x.rl=⟨#[]⟩∧M ⟨x.o,ov⟩=true) (Q:=fun x:Nd=>x.rl=⟨#[]⟩∧M ⟨x.o,ov⟩=true) (fun x hx w b w' hs=>by
            unfold stepA at hs
            split at hs
            · rename_i h0
              have:=hn _ w b w' (low x hx h0) hs
              exact ⟨fun hb=>⟨h0,by rw [← this];exact hb⟩,fun hq=>by rw [this];exact hq.2⟩
            · rename_i h0
              simp only [Option.some.injEq,Prod.mk.injEq] at hs
              exact ⟨fun hb=>(by rw [← hs.1] at hb;cases hb),fun hq=>absurd hq.1 h0⟩) h
          refine ⟨?_,?_⟩
          · rw [Bool.eq_iff_iff]
            simp only [List.any_eq_true,Bool.and_eq_true,decide_eq_true_eq]
            exact ⟨q.1,q.2⟩
          · rw [Bool.eq_iff_iff]
            simp only [List.any_eq_true,Bool.and_eq_true,decide_eq_true_eq]
            constructor
            · rintro ⟨x,hx,h0,h1⟩;exact ⟨x,hx,h0,by rw [← hk _ (low x hx h0)];exact h1⟩
            · rintro ⟨x,hx,h0,h1⟩;exact ⟨x,hx,h0,by rw [hk _ (low x hx h0)];exact h1⟩
      · simp only [if_neg k1] at hm h ⊢
        have k234:k=2∨k=3∨k=4:=by
          refine Classical.byContradiction fun hn=>?_
          rw [if_neg hn] at hm
          cases hm
        rw [if_pos k234] at hm
        obtain ⟨x1,x2,rfl⟩:∃ a b,ks=[a,b]:=by
          match ks,hm with
          | [a,b],_=>exact ⟨a,b,rfl⟩
          | [],hm=>cases hm
          | [_],hm=>cases hm
          | _ :: _ :: _ :: _,hm=>cases hm
        simp only [two,Bool.and_eq_true] at hm
        obtain ⟨ma,mb⟩:=hm
        have hl':∀ p∈leavesE x1 out++leavesE x2 (out||decide (k=4)),∀ l∈leafF E.s o.ty p.1 p.2,getL (levF E.s) l.1+l.2.toNat≤N:=by
          intro p hp
          refine hl p ?_
          rw [if_neg (by simp)]
          simp only [leavesL,List.append_nil]
          simpa using hp
        have ha:=ih x1 out
        have hb:=ih x2 (out||decide (k=4))
        dsimp only at h ⊢
        unfold comb at h
        cases hs:exQ E ask o m x1 w with
        | none=>rw [hs] at h;cases h
        | some q=>
          obtain ⟨z1,w1⟩:=q
          rw [hs] at h
          dsimp only at h
          have ha:=ha w z1 w1 ma (fun p hp=>hl' p (List.mem_append_left _ hp)) hs
          have both:∀ z2 w2,exQ E ask o m x2 w1=some (z2,w2)→((out||decide (k=4))=false→(z2=true→exB E M o m x2=true)∧(exB E K o m x2=true→z2=true))∧((out||decide (k=4))=true→z2=exB E M o m x2∧exB E K o m x2=exB E M o m x2):=fun z2 w2 h2=>
            hb w1 z2 w2 mb (fun p hp=>hl' p (List.mem_append_right _ hp)) h2
          have hcase:(z1=decide (k=2)∧b=z1)∨(z1≠decide (k=2)∧∃ z2 w2,exQ E ask o m x2 w1=some (z2,w2)∧b=if k=4 then !z2 else z2):=by
            split at h
            · rename_i h1
              simp only [Option.some.injEq,Prod.mk.injEq] at h
              exact .inl ⟨h1,h.1.symm⟩
            · rename_i h1
              cases h2:exQ E ask o m x2 w1 with
              | none=>rw [h2] at h;cases h
              | some q=>
                obtain ⟨z2,w2⟩:=q
                rw [h2] at h
                simp only [Option.some.injEq,Prod.mk.injEq] at h
                exact .inr ⟨h1,z2,w2,rfl,h.1.symm⟩
          clear h hs hl hl' hb ih
          rcases hcase with ⟨h1,h2⟩ | ⟨h1,z2,w2,h3,h2⟩
          · clear both
            rw [h2]
            clear h2
            generalize exB E M o m x1=AM at ha ⊢
            generalize exB E K o m x1=AK at ha ⊢
            generalize exB E M o m x2=BM at ha ⊢
            generalize exB E K o m x2=BK at ha ⊢
            clear hp hn hk
            rcases k234 with rfl | rfl | rfl<;>cases z1<;>cases out<;>cases AM<;>cases AK<;>cases BM<;>cases BK<;>revert ha h1<;>decide
          · have hb:=both z2 w2 h3
            clear both h3
            rw [h2]
            clear h2
            generalize exB E M o m x1=AM at ha hb ⊢
            generalize exB E K o m x1=AK at ha hb ⊢
            generalize exB E M o m x2=BM at ha hb ⊢
            generalize exB E K o m x2=BK at ha hb ⊢
            rcases k234 with rfl | rfl | rfl<;>cases z1<;>first
              | exact absurd h1 (by decide)
              | (clear h1
                 cases out<;>cases AM<;>cases AK<;>cases BM<;>cases BK<;>cases z2<;>revert ha hb<;>decide)
end
theorem mem_take_idx {n:Nd}:∀ {L:List Nd} {k:Nat},n∈L.take k↔n∈L∧L.idxOf n<k
  | [],k=>by simp
  | x :: r,0=>by simp
  | x :: r,k+1=>by
    rw [List.take_succ_cons,List.mem_cons,List.mem_cons,mem_take_idx (L:=r) (k:=k),List.idxOf_cons]
    by_cases h:x=n
    · subst h;simp
    · have h':n≠x:=fun e=>h e.symm
      have hb:(x==n)=false:=by simpa using h
      rw [hb]
      simp only [h',false_or,cond_false]
      constructor
      · rintro ⟨h1,h2⟩;exact ⟨h1,by omega⟩
      · rintro ⟨h1,h2⟩;exact ⟨h1,by omega⟩
structure Mod (E:Env15) (L:List Nd):Prop where
  step:∀ i n,L[i]?=some n→∃ j k r,findF E.s n.o.ty n.rl=some (j,k,r)∧bodyB E (fun c=>decide (c∈L.take i)) n r=true
  lev:∀ n m,n∈L→m∈L→lvN E.s n<lvN E.s m→L.idxOf n<L.idxOf m
  closed:∀ n j k r,findF E.s n.o.ty n.rl=some (j,k,r)→bodyB E (fun c=>decide (c∈L)) n r=true→n∈L
section
variable {E:Env15} {B:Int} {L:List Nd}
theorem body_say (hE:OfOk E) (hc:errA (chkF E.s)=0) {ask:Nd→Nat→Option (Bool×Nat)} {M K:Nd→Bool} {n:Nd} {i k:Nat} {r:Rl} (hf:findF E.s n.o.ty n.rl=some (i,k,r))
    (hp:∀ c w b w',Low E.s (lvN E.s n) false c→ask c w=some (b,w')→(b=true→M c=true)∧(K c=true→b=true))
    (hn:∀ c w b w',Low E.s (lvN E.s n) true c→ask c w=some (b,w')→b=M c) (hk:∀ c,Low E.s (lvN E.s n) true c→K c=M c)
    {w:Nat} {b:Bool} {w':Nat} (h:bodyQ E ask n r w=some (b,w')):(b=true→bodyB E M n r=true)∧(bodyB E K n r=true→b=true):=by
  obtain ⟨ht0,ty,hty,-,hkr⟩:=findF_at hf
  have hnm:ty.name=n.o.ty:=by
    obtain ⟨⟨x,hx,hp⟩,-⟩:=firstI_some.1 ht0
    rw [hty] at hx
    cases hx
    exact of_decide_eq_true hp
  have hst:=(lev_stands hc hty hkr).2
  have hlv:lvN E.s n=getL (levF E.s) (i,k):=by unfold lvN;rw [hf]
  rw [← hlv,hnm] at hst
  unfold bodyQ at h
  unfold bodyB
  unfold leansF at hst
  by_cases h0:r.refs.length=0
  · simp only [if_pos h0] at h hst ⊢
    have hm:mayE 12 r.ex=true:=sc_may (chk_good hc).may ty (List.mem_of_getElem? hty) r (List.mem_of_getElem? hkr) h0
    exact (ex_say hE hp hn hk n.o 12 r.ex false w b w' hm (fun p hp l hl=>hst l (List.mem_flatMap.2 ⟨p,hp,hl⟩)) h).1 rfl
  · simp only [if_neg h0] at h hst ⊢
    have low:∀ x∈E.of n,x.rl≠⟨#[]⟩→Low E.s (lvN E.s n) false x:=by
      intro x hx hx0
      obtain ⟨i1,k1,r1,h1,f,h2,h3,h4⟩:=hE.ok _ x hx
      rw [hf] at h1
      cases h1
      unfold Low
      cases hq:findF E.s x.o.ty x.rl with
      | none=>exact .inl rfl
      | some p=>
        obtain ⟨i2,j2,r2⟩:=p
        refine .inr ?_
        have:=hst ((i2,j2),false) (List.mem_filterMap.2 ⟨f,h2,by unfold refLean;rw [if_neg (by rw [← h4];exact hx0),← h3,← h4,hq];rfl⟩)
        unfold lvN at this ⊢
        rw [hq]
        exact this
    have q:=fold_say (P:=fun x:Nd=>(if x.rl=⟨#[]⟩ then decide (x.o=E.who) else M x)=true) (Q:=fun x:Nd=>(if x.rl=⟨#[]⟩ then decide (x.o=E.who) else K x)=true) (fun x hx w b w' hs=>by
      unfold stepT at hs
      split at hs
      · rename_i h0
        simp only [Option.some.injEq,Prod.mk.injEq] at hs
        simp only [if_pos h0]
        rw [← hs.1]
        exact ⟨id,id⟩
      · rename_i h0
        simp only [if_neg h0]
        exact hp _ w b w' (low x hx h0) hs) h
    simp only [List.any_eq_true]
    exact q
theorem ask_say (hE:OfOk E) (hc:errA (chkF E.s)=0) (hM:Mod E L):∀ (fu:Nat) (P:List Nd) (n:Nd) (w:Nat) (b:Bool) (w':Nat),askQ E B fu P n w=some (b,w')→(∀ p∈P,lvN E.s n≤lvN E.s p) →
    (b=true→n∈L)∧(n∈L→(∀ p∈P,p∈L→L.idxOf n<L.idxOf p)→b=true):=by
  have none:∀ n:Nd,findF E.s n.o.ty n.rl=none→n ∉ L:=by
    intro n hn hm
    obtain ⟨i,hi⟩:=List.getElem?_of_mem hm
    obtain ⟨j,k,r,h1,-⟩:=hM.step i n hi
    rw [hn] at h1
    cases h1
  intro fu
  induction fu with
  | zero=>
    intro P n w b w' h hP
    unfold askQ at h
    split at h
    · rename_i h0
      simp only [Option.some.injEq,Prod.mk.injEq] at h
      exact ⟨fun hb=>(by rw [← h.1] at hb;cases hb),fun hn=>absurd hn (none n h0)⟩
    · cases h
  | succ fu ih=>
    intro P n w b w' h hP
    unfold askQ at h
    split at h
    · rename_i h0
      simp only [Option.some.injEq,Prod.mk.injEq] at h
      exact ⟨fun hb=>(by rw [← h.1] at hb;cases hb),fun hn=>absurd hn (none n h0)⟩
    · rename_i i k r hf
      split at h
      · cases h
      · split at h
        · rename_i h2
          simp only [Option.some.injEq,Prod.mk.injEq] at h
          exact ⟨fun hb=>(by rw [← h.1] at hb;cases hb),fun hn hq=>absurd (hq n h2 hn) (Nat.lt_irrefl _)⟩
        · rename_i h2
          have low:∀ c,lvN E.s c≤lvN E.s n→∀ p∈n :: P,lvN E.s c≤lvN E.s p:=by
            intro c hcl p hp
            rcases List.mem_cons.1 hp with rfl | hp
            · exact hcl
            · exact Nat.le_trans hcl (hP p hp)
          have no:∀ c w b w',findF E.s c.o.ty c.rl=Option.none→askQ E B fu (n :: P) c w=some (b,w')→b=false:=by
            intro c w b w' hc h
            cases fu<;>(unfold askQ at h;rw [hc] at h;simp only [Option.some.injEq,Prod.mk.injEq] at h;exact h.1.symm)
          have strict:∀ c,lvN E.s c<lvN E.s n→c∈L→∀ p∈n :: P,p∈L→L.idxOf c<L.idxOf p:=by
            intro c hcl hcL p hp hpL
            refine hM.lev c p hcL hpL ?_
            rcases List.mem_cons.1 hp with rfl | hp
            · exact hcl
            · exact Nat.lt_of_lt_of_le hcl (hP p hp)
          have sound:∀ c w b w',Low E.s (lvN E.s n) false c→askQ E B fu (n :: P) c w=some (b,w')→b=true→decide (c∈L)=true:=by
            intro c w b w' hl h hb
            rcases hl with hl | hl
            · rw [no c w b w' hl h] at hb;cases hb
            · exact decide_eq_true ((ih (n :: P) c w b w' h (low c (by simpa using hl))).1 hb)
          have exact':∀ c w b w',Low E.s (lvN E.s n) true c→askQ E B fu (n :: P) c w=some (b,w')→b=decide (c∈L):=by
            intro c w b w' hl h
            rcases hl with hl | hl
            · rw [no c w b w' hl h,decide_eq_false (none c hl)]
            · have hl:lvN E.s c<lvN E.s n:=by simpa [Nat.lt_iff_add_one_le] using hl
              have q:=ih (n :: P) c w b w' h (low c (Nat.le_of_lt hl))
              rw [Bool.eq_iff_iff,decide_eq_true_eq]
              exact ⟨q.1,fun hcL=>q.2 hcL (strict c hl hcL)⟩
          refine ⟨fun hb=>?_,fun hnL hq=>?_⟩
          · have q:=body_say hE hc (M:=fun c=>decide (c∈L)) (K:=fun c=>decide (c∈L)&&decide (lvN E.s c<lvN E.s n)) hf (fun c w b w' hl h=>⟨sound c w b w' hl h,fun hK=>?_⟩) exact' (fun c hl=>?_) h
            · exact hM.closed n i k r hf (q.1 hb)
            · rw [Bool.and_eq_true,decide_eq_true_eq,decide_eq_true_eq] at hK
              exact (ih (n :: P) c w b w' h (low c (Nat.le_of_lt hK.2))).2 hK.1 (strict c hK.2 hK.1)
            · rcases hl with hl | hl
              · simp [none c hl]
              · have hl:lvN E.s c<lvN E.s n:=by simpa [Nat.lt_iff_add_one_le] using hl
                simp [hl]
          · have q:=body_say hE hc (M:=fun c=>decide (c∈L)) (K:=fun c=>decide (c∈L.take (L.idxOf n))) hf (fun c w b w' hl h=>⟨sound c w b w' hl h,fun hK=>?_⟩) exact' (fun c hl=>?_) h
            · have hi:L[L.idxOf n]?=some n:=by
                have hlt:=List.idxOf_lt_length_iff.2 hnL
                rw [List.getElem?_eq_getElem hlt,List.getElem_idxOf hlt]
              obtain ⟨j,k2,r2,h1,h3⟩:=hM.step _ n hi
              rw [hf] at h1
              cases h1
              exact q.2 h3
            · rw [decide_eq_true_eq,mem_take_idx] at hK
              rcases hl with hl | hl
              · exact absurd hK.1 (none c hl)
              · refine (ih (n :: P) c w b w' h (low c (by simpa using hl))).2 hK.1 fun p hp hpL=>?_
                rcases List.mem_cons.1 hp with rfl | hp
                · exact hK.2
                · exact Nat.lt_trans hK.2 (hq p hp hpL)
            · rw [Bool.eq_iff_iff,decide_eq_true_eq,decide_eq_true_eq,mem_take_idx]
              rcases hl with hl | hl
              · exact ⟨fun h=>h.1,fun h=>absurd h (none c hl)⟩
              · have hl:lvN E.s c<lvN E.s n:=by simpa [Nat.lt_iff_add_one_le] using hl
                exact ⟨fun h=>h.1,fun h=>⟨h,hM.lev c n h hnL hl⟩⟩
theorem ask_mod (hE:OfOk E) (hc:errA (chkF E.s)=0) (hM:Mod E L) {fu:Nat} {n:Nd} {w:Nat} {b:Bool} {w':Nat} (h:askQ E B fu [] n w=some (b,w')):b=decide (n∈L):=by
  have q:=ask_say hE hc hM fu [] n w b w' h (fun p hp=>by cases hp)
  rw [Bool.eq_iff_iff,decide_eq_true_eq]
  exact ⟨q.1,fun hn=>q.2 hn fun p hp=>by cases hp⟩
end
end Go.HL
set_option linter.unusedVariables false
set_option linter.unusedSimpArgs false
set_option maxRecDepth 4000
namespace Go.HL
open Nat renaming reduceAdd→zA,reduceLeDiff→zB,reduceLT→zC,reduceSub→zD,reduceMul→zE,reduceEqDiff→zF,reduceBEq→zG
open Int renaming reduceAdd→zH,reduceToNat→zI
abbrev tyW14:Nat:=178
abbrev tyOb:Nat:=27
def wC (s:List Ty) (L:List Tu) (tv:AV) (who:Ob) (kv:AV):List AV:=[.sl 2 (s.map tyC),.sl 6 (L.map tuC),tv,.str who.ty,.str who.id,kv]
structure W14 (s:List Ty) (L:List Tu) (who:Ob) (bw:Nat) (S0:Store) (T:List Ob) (K:List Nd) (S:Store):Prop where
  ex:∃ tv kv,objAt S bw=some (tyW14,wC s L tv who kv,6)∧LstW S0 S tyOb 2 tv (T.map obC)∧LstW S0 S tyFa 3 kv (K.map ndC)∧Aside tv bw∧Aside kv bw∧∀ b off n cap,tv=.own b off n cap→Aside kv b
  sub:Sub S0 S
  nb:sget S0 bw=none
  lk:K.length≤1000000
  lt:T.length≤1000000
theorem drop_three {cs:List AV} {p:Nat} {a b c:AV} (h:(cs.drop p).take 3=[a,b,c]):∃ rest,cs.drop p=a :: b :: c :: rest∧cs.drop (p+2)=c :: rest:=by
  refine ⟨(cs.drop p).drop 3,?_,?_⟩
  · have:=List.take_append_drop 3 (cs.drop p)
    rw [h] at this
    exact this.symm
  · have:=List.take_append_drop 3 (cs.drop p)
    rw [h] at this
    rw [← List.drop_drop,← this]
    rfl
theorem drop_two {cs:List AV} {p:Nat} {a b:AV} (h:(cs.drop p).take 2=[a,b]):∃ rest,cs.drop p=a :: b :: rest:=by
  refine ⟨(cs.drop p).drop 2,?_⟩
  have:=List.take_append_drop 2 (cs.drop p)
  rw [h] at this
  exact this.symm
theorem ob_dec14 {a b:Ob}:decide (a=b)=(decide (a.ty=b.ty)&&decide (a.id=b.id)):=by
  rw [Bool.eq_iff_iff]
  cases a;cases b
  simp
section
variable {s:List Ty} {L:List Tu} {who:Ob} {bw:Nat} {S0 S:Store} {T:List Ob} {K:List Nd}
theorem c_known14 (h:W14 s L who bw S0 T K S) (n:Nd):AFunS PG nr_ref14_World_known [.ptr bw 0,.agg (obC n.o),.str n.rl] S (.bool (decide (n∈K))):=by
  refine w_ref14_World_known ?_
  unfold B_ref14_World_known
  (try simp only [rwp,zA,zB,zC,zD,zE,zF,zG,zH,zI,rwb,reduceIte,obC])
  obtain ⟨tv,kv,ho,ht,hk,hta,hka,hap⟩:=h.ex
  have hlk:=h.lk
  have hc:=cellsAt_of ho
  refine LoopP.introS (fun i:Nat=>[(0,.ptr bw 0),(2,.str n.rl),(4,.rop [.str n.o.ty,.str n.o.id]),(7,.int .i64 i)]) (fun i S'=>S'=S∧i≤K.length∧∀ (j:Nat) (m:Nd),j<i→K[j]?=some m→¬ m=n) (fun i=>K.length-i) 0 ⟨rfl,by omega,fun j m hj=>by omega⟩ rfl ?_
  rintro i S' ⟨rfl,hi,hno⟩ kk hkk
  (try simp only [rwp,zA,zB,zC,zD,zE,zF,zG,zH,zI,rwb,reduceIte,C_ref14_World_known_1,hc,wC,hk.ln,List.length_map])
  (refine cnW_intro (fun hlt=>?_) (fun hlt=>?_)<;>(try simp only [hlc] at hlt))
  · obtain ⟨m,hm⟩:=get_lt hlt
    obtain ⟨b1,cap,cs,rfl,hcs,hrow,hle⟩:=hk.get (i:=i) (r:=ndC m) (by rw [List.getElem?_map,hm];rfl)
    (try simp only [rwp,zA,zB,zC,zD,zE,zF,zG,zH,zI,rwb,reduceIte,hc,wC,hcs,List.length_map,Int.toNat_natCast,Nat.zero_add])
    obtain ⟨rest,hd1,hd2⟩:=drop_three (hrow.trans (show ndC m=[.str m.o.ty,.str m.o.id,.str m.rl] from rfl))
    (try simp only [rwp,zA,zB,zC,zD,zE,zF,zG,zH,zI,rwb,reduceIte,hd1,hd2])
    refine ⟨hlt,?_⟩
    have hnd:decide (m=n)=(decide (m.o.ty=n.o.ty)&&decide (m.o.id=n.o.id)&&decide (m.rl=n.rl)):=by
      rw [Bool.eq_iff_iff]
      obtain ⟨⟨a,b⟩,c⟩:=m
      obtain ⟨⟨d,e⟩,f⟩:=n
      simp
    have no:decide (m=n)=false→rcW kk [(0,.ptr bw 0),(2,.str n.rl),(4,.rop [.str n.o.ty,.str n.o.id]),(7,.int .i64 (IntKind.i64.wrap (↑i+1)))] S':=fun hq=>by
      (simp (disch:=omega) only [hwrap64])
      refine rcW_as rfl (hkk (i+1) _ ⟨rfl,by omega,fun j u hj hu=>?_⟩ (by omega))
      rcases Nat.lt_succ_iff_lt_or_eq.1 hj with h1 | rfl
      · exact hno j u h1 hu
      · rw [hm] at hu;cases hu;exact of_decide_eq_false hq
    cases a1:(decide (m.o.ty=n.o.ty)&&decide (m.o.id=n.o.id))
    · rw [a1] at hnd
      (try simp only [rwp,zA,zB,zC,zD,zE,zF,zG,zH,zI,rwb,reduceIte])
      exact no hnd
    · rw [a1] at hnd
      (try simp only [rwp,zA,zB,zC,zD,zE,zF,zG,zH,zI,rwb,reduceIte])
      refine ⟨hlt,?_⟩
      cases a2:decide (m.rl=n.rl)
      · rw [a2] at hnd
        (try simp only [rwp,zA,zB,zC,zD,zE,zF,zG,zH,zI,rwb,reduceIte])
        exact no hnd
      · rw [a2] at hnd
        (try simp only [rwp,zA,zB,zC,zD,zE,zF,zG,zH,zI,rwb,reduceIte])
        have e:=of_decide_eq_true hnd
        subst e
        exact rtW_one ⟨by rw [decide_eq_true (List.mem_of_getElem? hm)],rfl⟩
  · (try simp only [rwp,zA,zB,zC,zD,zE,zF,zG,zH,zI,rwb,reduceIte])
    refine rtW_one ⟨?_,rfl⟩
    rw [decide_eq_false]
    intro hn
    obtain ⟨j,hj⟩:=List.getElem?_of_mem hn
    have:=(List.getElem?_eq_some_iff.1 hj).1
    exact hno j n (by omega) hj rfl
def envL (s:List Ty) (L:List Tu) (who:Ob):Env15:=⟨s,fun n=>(ofF L n).map Tu.s,who⟩
theorem any_of {L:List Tu} {n:Nd} {q:Nd→Bool}:((ofF L n).map Tu.s).any q=L.any fun t=>(decide (t.o=n.o)&&decide (t.rl=n.rl))&&q t.s:=by
  unfold ofF
  rw [List.any_map,List.any_filter]
  rfl
theorem any_take {α:Type} {p:α→Bool} {l:List α} {i:Nat} {x:α} (h:l[i]?=some x) (h0:(l.take i).any p=false):(l.take (i+1)).any p=p x:=by
  rw [take_snoc' h,List.any_append,h0]
  simp
theorem any_yes {α:Type} {p:α→Bool} {l:List α} {i:Nat} {x:α} (h:l[i]?=some x) (hp:p x=true):l.any p=true:=List.any_eq_true.2 ⟨x,List.mem_of_getElem? h,hp⟩
theorem c_expr14 (hL:OkL L) (h:W14 s L who bw S0 T K S) (o:Ob):∀ (m:Nat) (e:Ex),mayE m e=true→AFunS PG nr_ref14_World_expr [.ptr bw 0,.agg (obC o),.agg (exC e)] S (.bool (exB (envL s L who) (fun c=>decide (c∈K)) o m e))
  | 0,e,hm=>by cases hm
  | m+1,.mk k n ov ks,hm=>by
    have ih:=c_expr14 hL h o m
    obtain ⟨tv,kv,ho,ht,hk,hta,hka,hap⟩:=h.ex
    have hlL:=hL.n
    have hc:=cellsAt_of ho
    refine w_ref14_World_expr ?_
    unfold B_ref14_World_expr exB
    unfold mayE at hm
    (try simp only [rwp,zA,zB,zC,zD,zE,zF,zG,zH,zI,rwb,reduceIte,obC,exC_eq,Ex.kind,Ex.name,Ex.over,Ex.kids])
    (refine cnW_intro (fun k0=>?_) (fun k0=>?_)<;>(try simp only [hlc] at k0))
    · rw [if_pos k0]
      have q:=c_known14 h ⟨o,n⟩
      simp only [obC] at q
      refine caW_at q ?_
      exact rtW_one ⟨rfl,rfl⟩
    · rw [if_neg k0] at hm ⊢
      (refine cnW_intro (fun k1=>?_) (fun k1=>?_)<;>(try simp only [hlc] at k1))
      · rw [if_pos k1]
        rw [show (envL s L who).of ⟨o,n⟩=(ofF L ⟨o,n⟩).map Tu.s from rfl,any_of]
        generalize hp:(fun t:Tu=>(decide (t.o=o)&&decide (t.rl=n))&&(decide (t.s.rl=⟨#[]⟩)&&decide ((⟨t.s.o,ov⟩:Nd)∈K)))=p
        refine LoopP.introS (fun i:Nat=>[(0,.ptr bw 0),(4,.rop [.str o.ty,.str o.id]),(5,.rop [.int .i64 k,.str n,.str ov,.sl 4 (ks.map exC)]),(7,.int .i64 i)]) (fun i S'=>S'=S∧i≤L.length∧(L.take i).any p=false) (fun i=>L.length-i) 0 ⟨rfl,by omega,by simp⟩ rfl ?_
        rintro i S' ⟨rfl,hi,hno⟩ kk hkk
        (try simp only [rwp,zA,zB,zC,zD,zE,zF,zG,zH,zI,rwb,reduceIte,C_ref14_World_expr_1,hc,wC,List.length_map])
        (refine cnW_intro (fun hlt=>?_) (fun hlt=>?_)<;>(try simp only [hlc] at hlt))
        · obtain ⟨t,hg⟩:=get_lt hlt
          (try simp only [rwp,zA,zB,zC,zD,zE,zF,zG,zH,zI,rwb,reduceIte,List.getElem?_map,hg,tuC])
          have q:=c_known14 h ⟨t.s.o,ov⟩
          simp only [obC] at q
          refine caW_at q ?_
          have hx:p t=((decide (t.o.ty=o.ty)&&decide (t.o.id=o.id))&&decide (t.rl=n)&&(decide (t.s.rl=⟨#[]⟩)&&decide ((⟨t.s.o,ov⟩:Nd)∈K))):=by rw [← hp,← ob_dec14]
          have no:p t=false→rcW kk [(0,.ptr bw 0),(4,.rop [.str o.ty,.str o.id]),(5,.rop [.int .i64 k,.str n,.str ov,.sl 4 (ks.map exC)]),(7,.int .i64 (IntKind.i64.wrap (↑i+1)))] S':=fun hq=>by
            (simp (disch:=omega) only [hwrap64])
            exact rcW_as rfl (hkk (i+1) _ ⟨rfl,by omega,by rw [any_take hg hno,hq]⟩ (by omega))
          have yes:p t=true→rtW [.tmp (.bool true)] (fun ae S'_1=>ae=AEnd.ret (AV.bool (L.any p))∧S'_1=S') S':=fun hq=>rtW_one ⟨by rw [any_yes hg hq],rfl⟩
          (try simp only [rwp,zA,zB,zC,zD,zE,zF,zG,zH,zI,rwb,reduceIte,C_ref14_World_expr_2])
          cases g1:(decide (t.o.ty=o.ty)&&decide (t.o.id=o.id)&&decide (t.rl=n))
          · rw [g1] at hx
            (try simp only [rwp,zA,zB,zC,zD,zE,zF,zG,zH,zI,rwb,reduceIte,C_ref14_World_expr_3])
            exact no hx
          · rw [g1] at hx
            (try simp only [rwp,zA,zB,zC,zD,zE,zF,zG,zH,zI,rwb,reduceIte])
            cases g2:decide (t.s.rl=⟨#[]⟩)
            · rw [g2] at hx
              (try simp only [rwp,zA,zB,zC,zD,zE,zF,zG,zH,zI,rwb,reduceIte,C_ref14_World_expr_3])
              exact no hx
            · rw [g2] at hx
              (try simp only [rwp,zA,zB,zC,zD,zE,zF,zG,zH,zI,rwb,reduceIte,C_ref14_World_expr_3])
              cases g3:decide ((⟨t.s.o,ov⟩:Nd)∈K)
              · rw [g3] at hx
                (try simp only [rwp,zA,zB,zC,zD,zE,zF,zG,zH,zI,rwb,reduceIte])
                exact no hx
              · rw [g3] at hx
                (try simp only [rwp,zA,zB,zC,zD,zE,zF,zG,zH,zI,rwb,reduceIte])
                exact yes hx
        · have e:L.take i=L:=List.take_of_length_le (by omega)
          rw [e] at hno
          (try simp only [rwp,zA,zB,zC,zD,zE,zF,zG,zH,zI,rwb,reduceIte])
          exact rtW_one ⟨by rw [hno],rfl⟩
      · rw [if_neg k1] at hm ⊢
        have k234:k=2∨k=3∨k=4:=by
          refine Classical.byContradiction fun hn=>?_
          rw [if_neg hn] at hm
          cases hm
        rw [if_pos k234] at hm
        obtain ⟨a,b,rfl⟩:∃ a b,ks=[a,b]:=by
          match ks,hm with
          | [a,b],_=>exact ⟨a,b,rfl⟩
          | [],hm=>cases hm
          | [_],hm=>cases hm
          | _ :: _ :: _ :: _,hm=>cases hm
        simp only [two,Bool.and_eq_true] at hm
        have ha:=ih a hm.1
        have hb:=ih b hm.2
        dsimp only
        generalize exB (envL s L who) (fun c=>decide (c∈K)) o m a=va at ha ⊢
        generalize exB (envL s L who) (fun c=>decide (c∈K)) o m b=vb at hb ⊢
        obtain ⟨ka,na,oa,ksa⟩:=a
        obtain ⟨kb,nb,ob,ksb⟩:=b
        simp only [obC,exC_eq,Ex.kind,Ex.name,Ex.over,Ex.kids] at ha hb
        (try simp only [rwp,zA,zB,zC,zD,zE,zF,zG,zH,zI,rwb,reduceIte,exC_eq,Ex.kind,Ex.name,Ex.over,Ex.kids,List.getElem?_cons_zero,List.getElem?_cons_succ,Option.map_some])
        refine caW_at ha ?_
        (try simp only [rwp,zA,zB,zC,zD,zE,zF,zG,zH,zI,rwb,reduceIte,exC_eq,Ex.kind,Ex.name,Ex.over,Ex.kids,List.getElem?_cons_zero,List.getElem?_cons_succ,Option.map_some])
        refine caW_at hb ?_
        rcases k234 with rfl | rfl | rfl<;>cases va<;>cases vb<;>(try simp only [rwp,zA,zB,zC,zD,zE,zF,zG,zH,zI,rwb,reduceIte,Int.reduceEq])<;>exact rtW_one ⟨rfl,rfl⟩
theorem c_stands14 (hL:OkL L) (h:W14 s L who bw S0 T K S) (n:Nd) (r:Rl) (hr:OkR r) (hn:r.name=n.rl) (hm:r.refs.length=0→mayE 12 r.ex=true):AFunS PG nr_ref14_World_stands [.ptr bw 0,.agg (obC n.o),.agg (rlC r)] S (.bool (bodyB (envL s L who) (fun c=>decide (c∈K)) n r)):=by
  obtain ⟨tv,kv,ho,ht,hk,hta,hka,hap⟩:=h.ex
  have hlL:=hL.n
  have hc:=cellsAt_of ho
  refine w_ref14_World_stands ?_
  unfold B_ref14_World_stands bodyB
  (try simp only [rwp,zA,zB,zC,zD,zE,zF,zG,zH,zI,rwb,reduceIte,obC,rlC_eq,hn])
  cases a1:decide ((r.refs.length:Int)=0)
  · have h0:¬ r.refs.length=0:=by have:=of_decide_eq_false a1;omega
    rw [if_neg h0]
    rw [show (envL s L who).of n=(ofF L n).map Tu.s from rfl,any_of,show (envL s L who).who=who from rfl]
    generalize hp:(fun t:Tu=>(decide (t.o=n.o)&&decide (t.rl=n.rl))&&(if t.s.rl=⟨#[]⟩ then decide (t.s.o=who) else decide (t.s∈K)))=p
    (try simp only [rwp,zA,zB,zC,zD,zE,zF,zG,zH,zI,rwb,reduceIte])
    refine LoopP.introS (fun i:Nat=>[(0,.ptr bw 0),(4,.rop [.str n.o.ty,.str n.o.id]),(5,.rop [.str n.rl,.sl 2 (r.refs.map rfC),.int .i64 r.ex.kind,.str r.ex.name,.str r.ex.over,.sl 4 (r.ex.kids.map exC)]),(7,.int .i64 i)]) (fun i S'=>S'=S∧i≤L.length∧(L.take i).any p=false) (fun i=>L.length-i) 0 ⟨rfl,by omega,by simp⟩ rfl ?_
    rintro i S' ⟨rfl,hi,hno⟩ kk hkk
    (try simp only [rwp,zA,zB,zC,zD,zE,zF,zG,zH,zI,rwb,reduceIte,C_ref14_World_stands_1,hc,wC,List.length_map])
    (refine cnW_intro (fun hlt=>?_) (fun hlt=>?_)<;>(try simp only [hlc] at hlt))
    · obtain ⟨t,hg⟩:=get_lt hlt
      have hx:p t=((decide (t.o.ty=n.o.ty)&&decide (t.o.id=n.o.id))&&decide (t.rl=n.rl)&&(if t.s.rl=⟨#[]⟩ then (decide (t.s.o.ty=who.ty)&&decide (t.s.o.id=who.id)) else decide (t.s∈K))):=by rw [← hp,← ob_dec14,← ob_dec14]
      have no:p t=false→rcW kk [(0,.ptr bw 0),(4,.rop [.str n.o.ty,.str n.o.id]),(5,.rop [.str n.rl,.sl 2 (r.refs.map rfC),.int .i64 r.ex.kind,.str r.ex.name,.str r.ex.over,.sl 4 (r.ex.kids.map exC)]),(7,.int .i64 (IntKind.i64.wrap (↑i+1)))] S':=fun hq=>by
        (simp (disch:=omega) only [hwrap64])
        exact rcW_as rfl (hkk (i+1) _ ⟨rfl,by omega,by rw [any_take hg hno,hq]⟩ (by omega))
      have yes:p t=true→rtW [.tmp (.bool true)] (fun ae S'_1=>ae=AEnd.ret (AV.bool (L.any p))∧S'_1=S') S':=fun hq=>rtW_one ⟨by rw [any_yes hg hq],rfl⟩
      have q:=c_known14 h t.s
      simp only [obC] at q
      (try simp only [rwp,zA,zB,zC,zD,zE,zF,zG,zH,zI,rwb,reduceIte,List.getElem?_map,hg,tuC])
      cases g1:(decide (t.o.ty=n.o.ty)&&decide (t.o.id=n.o.id))<;>cases g2:decide (t.rl=n.rl)<;>rw [g1,g2] at hx
      · (try simp only [rwp,zA,zB,zC,zD,zE,zF,zG,zH,zI,rwb,reduceIte,C_ref14_World_stands_2])
        exact no hx
      · (try simp only [rwp,zA,zB,zC,zD,zE,zF,zG,zH,zI,rwb,reduceIte,C_ref14_World_stands_2])
        exact no hx
      · (try simp only [rwp,zA,zB,zC,zD,zE,zF,zG,zH,zI,rwb,reduceIte,C_ref14_World_stands_2])
        exact no hx
      · (try simp only [rwp,zA,zB,zC,zD,zE,zF,zG,zH,zI,rwb,reduceIte,C_ref14_World_stands_2])
        cases g3:decide (t.s.rl=⟨#[]⟩)
        · have g3':=of_decide_eq_false g3
          rw [if_neg g3'] at hx
          (try simp only [rwp,zA,zB,zC,zD,zE,zF,zG,zH,zI,rwb,reduceIte,C_ref14_World_stands_3])
          refine caW_at q ?_
          cases g4:decide (t.s∈K)
          · rw [g4] at hx
            (try simp only [rwp,zA,zB,zC,zD,zE,zF,zG,zH,zI,rwb,reduceIte,g3])
            exact no hx
          · rw [g4] at hx
            (try simp only [rwp,zA,zB,zC,zD,zE,zF,zG,zH,zI,rwb,reduceIte,g3])
            exact yes hx
        · have g3':=of_decide_eq_true g3
          rw [if_pos g3'] at hx
          (try simp only [rwp,zA,zB,zC,zD,zE,zF,zG,zH,zI,rwb,reduceIte,hc,wC])
          cases g4:(decide (t.s.o.ty=who.ty)&&decide (t.s.o.id=who.id))
          · rw [g4] at hx
            (try simp only [rwp,zA,zB,zC,zD,zE,zF,zG,zH,zI,rwb,reduceIte,C_ref14_World_stands_3])
            refine caW_at q ?_
            (try simp only [rwp,zA,zB,zC,zD,zE,zF,zG,zH,zI,rwb,reduceIte,g3])
            exact no hx
          · rw [g4] at hx
            (try simp only [rwp,zA,zB,zC,zD,zE,zF,zG,zH,zI,rwb,reduceIte,C_ref14_World_stands_3])
            exact yes hx
    · have e:L.take i=L:=List.take_of_length_le (by omega)
      rw [e] at hno
      (try simp only [rwp,zA,zB,zC,zD,zE,zF,zG,zH,zI,rwb,reduceIte])
      exact rtW_one ⟨by rw [hno],rfl⟩
  · have h0:r.refs.length=0:=by have:=of_decide_eq_true a1;omega
    rw [if_pos h0]
    have q:=c_expr14 hL h n.o 12 r.ex (hm h0)
    generalize r.ex=e at q ⊢
    obtain ⟨ka,na,oa,ksa⟩:=e
    simp only [obC,exC_eq,Ex.kind,Ex.name,Ex.over,Ex.kids] at q ⊢
    (try simp only [rwp,zA,zB,zC,zD,zE,zF,zG,zH,zI,rwb,reduceIte])
    refine caW_at q ?_
    exact rtW_one ⟨rfl,rfl⟩
end
end Go.HL
set_option linter.unusedVariables false
set_option linter.unusedSimpArgs false
namespace Go.HL
open Nat renaming reduceAdd→zA,reduceLeDiff→zB,reduceLT→zC,reduceSub→zD,reduceMul→zE,reduceEqDiff→zF,reduceBEq→zG
open Int renaming reduceAdd→zH,reduceToNat→zI
section
variable {E:Env15} {K K':Nd→Bool} {N:Nat}
theorem Low.weak {s:List Ty} {out:Bool} {c:Nd} (h:Low s N out c):Low s N false c:=by
  rcases h with h | h
  · exact .inl h
  · exact .inr (by simp;omega)
theorem exB_congr (hE:OfOk E) (h:∀ c,Low E.s N false c→K c=K' c) (o:Ob) :
    ∀ (m:Nat) (e:Ex) (out:Bool),mayE m e=true→(∀ p∈leavesE e out,∀ l∈leafF E.s o.ty p.1 p.2,getL (levF E.s) l.1+l.2.toNat≤N)→exB E K o m e=exB E K' o m e
  | 0,e,out,hm,hl=>by cases hm
  | m+1,.mk k n ov ks,out,hm,hl=>by
    have ih:=exB_congr hE h o m
    unfold mayE at hm
    unfold exB
    unfold leavesE at hl
    by_cases k0:k=0
    · simp only [if_pos k0] at hm ⊢
      rw [Bool.and_eq_true] at hm
      rw [if_pos hm.2] at hl
      refine h _ (Low.weak (out:=out) ?_)
      unfold Low lvN
      cases hq:findF E.s o.ty n with
      | none=>exact .inl rfl
      | some p=>
        obtain ⟨i,j,r⟩:=p
        refine .inr (hl (.mk k n ov ks,out) (by simp) ((i,j),out) ?_)
        unfold leafF Ex.name
        simp only [hq]
        exact List.mem_cons_self
    · simp only [if_neg k0] at hm ⊢
      by_cases k1:k=1
      · simp only [if_pos k1] at hm ⊢
        rw [Bool.and_eq_true,Bool.and_eq_true] at hm
        rw [if_pos hm.2.2] at hl
        have low:∀ x∈E.of ⟨o,n⟩,x.rl=⟨#[]⟩→K ⟨x.o,ov⟩=K' ⟨x.o,ov⟩:=by
          intro x hx hx0
          obtain ⟨i,j,r,h1,f,h2,h3,h4⟩:=hE.ok _ x hx
          refine h _ (Low.weak (out:=out) ?_)
          unfold Low lvN
          cases hq:findF E.s x.o.ty ov with
          | none=>exact .inl rfl
          | some p=>
            obtain ⟨i2,j2,r2⟩:=p
            refine .inr ?_
            simp only
            refine hl (.mk k n ov ks,out) (by simp) ((i2,j2),out) ?_
            unfold leafF Ex.name Ex.kind Ex.over
            simp only [show findF E.s o.ty n=some (i,j,r) from h1,if_pos k1]
            refine List.mem_cons_of_mem _ (List.mem_map.2 ⟨(i2,j2),?_,rfl⟩)
            unfold overF
            refine List.mem_filterMap.2 ⟨f,h2,?_⟩
            rw [if_pos (h4.symm.trans hx0),← h3,hq]
            rfl
        rw [Bool.eq_iff_iff]
        simp only [List.any_eq_true,Bool.and_eq_true,decide_eq_true_eq]
        constructor
        · rintro ⟨x,hx,h0,h1⟩;exact ⟨x,hx,h0,by rw [← low x hx h0];exact h1⟩
        · rintro ⟨x,hx,h0,h1⟩;exact ⟨x,hx,h0,by rw [low x hx h0];exact h1⟩
      · simp only [if_neg k1] at hm ⊢
        have k234:k=2∨k=3∨k=4:=by
          refine Classical.byContradiction fun hn=>?_
          rw [if_neg hn] at hm
          cases hm
        rw [if_pos k234] at hm
        obtain ⟨x1,x2,rfl⟩:∃ a b,ks=[a,b]:=by
          match ks,hm with
          | [a,b],_=>exact ⟨a,b,rfl⟩
          | [],hm=>cases hm
          | [_],hm=>cases hm
          | _ :: _ :: _ :: _,hm=>cases hm
        simp only [two,Bool.and_eq_true] at hm
        have hl':∀ p∈leavesE x1 out++leavesE x2 (out||decide (k=4)),∀ l∈leafF E.s o.ty p.1 p.2,getL (levF E.s) l.1+l.2.toNat≤N:=by
          intro p hp
          refine hl p ?_
          rw [if_neg (by simp)]
          simp only [leavesL,List.append_nil]
          simpa using hp
        dsimp only
        rw [ih x1 out hm.1 fun p hp=>hl' p (List.mem_append_left _ hp),ih x2 _ hm.2 fun p hp=>hl' p (List.mem_append_right _ hp)]
theorem body_congr (hE:OfOk E) (hc:errA (chkF E.s)=0) {n:Nd} {i k:Nat} {r:Rl} (hf:findF E.s n.o.ty n.rl=some (i,k,r)) (h:∀ c,Low E.s (lvN E.s n) false c→K c=K' c):bodyB E K n r=bodyB E K' n r:=by
  obtain ⟨ht0,ty,hty,-,hkr⟩:=findF_at hf
  have hnm:ty.name=n.o.ty:=by
    obtain ⟨⟨x,hx,hp⟩,-⟩:=firstI_some.1 ht0
    rw [hty] at hx
    cases hx
    exact of_decide_eq_true hp
  have hst:=(lev_stands hc hty hkr).2
  have hlv:lvN E.s n=getL (levF E.s) (i,k):=by unfold lvN;rw [hf]
  rw [← hlv,hnm] at hst
  unfold bodyB
  unfold leansF at hst
  by_cases h0:r.refs.length=0
  · simp only [if_pos h0] at hst ⊢
    have hm:mayE 12 r.ex=true:=sc_may (chk_good hc).may ty (List.mem_of_getElem? hty) r (List.mem_of_getElem? hkr) h0
    exact exB_congr hE h n.o 12 r.ex false hm fun p hp l hl=>hst l (List.mem_flatMap.2 ⟨p,hp,hl⟩)
  · simp only [if_neg h0] at hst ⊢
    have low:∀ x∈E.of n,x.rl≠⟨#[]⟩→K x=K' x:=by
      intro x hx hx0
      obtain ⟨i1,k1,r1,h1,f,h2,h3,h4⟩:=hE.ok _ x hx
      rw [hf] at h1
      cases h1
      refine h _ ?_
      unfold Low
      cases hq:findF E.s x.o.ty x.rl with
      | none=>exact .inl rfl
      | some p=>
        obtain ⟨i2,j2,r2⟩:=p
        refine .inr ?_
        have:=hst ((i2,j2),false) (List.mem_filterMap.2 ⟨f,h2,by unfold refLean;rw [if_neg (by rw [← h4];exact hx0),← h3,← h4,hq];rfl⟩)
        unfold lvN at this ⊢
        rw [hq]
        exact this
    rw [Bool.eq_iff_iff]
    simp only [List.any_eq_true]
    constructor
    · rintro ⟨x,hx,hb⟩
      refine ⟨x,hx,?_⟩
      by_cases h0:x.rl=⟨#[]⟩
      · rw [if_pos h0] at hb ⊢;exact hb
      · rw [if_neg h0] at hb ⊢;rw [← low x hx h0];exact hb
    · rintro ⟨x,hx,hb⟩
      refine ⟨x,hx,?_⟩
      by_cases h0:x.rl=⟨#[]⟩
      · rw [if_pos h0] at hb ⊢;exact hb
      · rw [if_neg h0] at hb ⊢;rw [low x hx h0];exact hb
theorem exB_thing {T:List Ob} (hT:∀ n x,x∈E.of n→n.o∈T) (hK:∀ c,K c=true→c.o∈T) (o:Ob):∀ (m:Nat) (e:Ex),exB E K o m e=true→o∈T
  | 0,e,h=>by cases h
  | m+1,.mk k n ov ks,h=>by
    have ih:=exB_thing hT hK o m
    unfold exB at h
    split at h
    · exact hK _ h
    · split at h
      · obtain ⟨x,hx,-⟩:=List.any_eq_true.1 h
        exact hT _ x hx
      · split at h
        · split at h
          · rw [Bool.or_eq_true] at h
            exact h.elim (ih _) (ih _)
          · split at h<;>(rw [Bool.and_eq_true] at h;exact ih _ h.1)
        · cases h
theorem body_thing {T:List Ob} (hT:∀ n x,x∈E.of n→n.o∈T) (hK:∀ c,K c=true→c.o∈T) {n:Nd} {r:Rl} (h:bodyB E K n r=true):n.o∈T:=by
  unfold bodyB at h
  split at h
  · exact exB_thing hT hK _ _ _ h
  · obtain ⟨x,hx,-⟩:=List.any_eq_true.1 h
    exact hT _ x hx
end
def nodesT (s:List Ty) (T:List Ob):List Nd:=T.flatMap fun o=>s.flatMap fun t=>t.rels.map fun r=>⟨o,r.name⟩
theorem mem_nodes {s:List Ty} {T:List Ob} {n:Nd} {i k:Nat} {r:Rl} (hf:findF s n.o.ty n.rl=some (i,k,r)) (hT:n.o∈T):n∈nodesT s T:=by
  obtain ⟨-,ty,hty,hrl,hkr⟩:=findF_at hf
  obtain ⟨⟨x,hx,hp⟩,-⟩:=firstI_some.1 hrl
  rw [hkr] at hx
  cases hx
  refine List.mem_flatMap.2 ⟨n.o,hT,List.mem_flatMap.2 ⟨ty,List.mem_of_getElem? hty,List.mem_map.2 ⟨r,List.mem_of_getElem? hkr,?_⟩⟩⟩
  have:=of_decide_eq_true hp
  cases n
  simp only [Nd.mk.injEq,true_and]
  exact this
structure Upto (E:Env15) (C:List Nd) (v:Nat) (L:List Nd):Prop where
  nd:L.Nodup
  sub:∀ n∈L,n∈C
  step:∀ (i:Nat) (n:Nd),L[i]?=some n→∃ j k r,findF E.s n.o.ty n.rl=some (j,k,r)∧bodyB E (fun c=>decide (c∈L.take i)) n r=true
  srt:∀ (i j:Nat) (n m:Nd),L[i]?=some n→L[j]?=some m→i<j→lvN E.s n≤lvN E.s m
  top:∀ n∈L,lvN E.s n≤v
  closed:∀ n j k r,findF E.s n.o.ty n.rl=some (j,k,r)→lvN E.s n<v→bodyB E (fun c=>decide (c∈L)) n r=true→n∈L
theorem nd_len {α:Type} [DecidableEq α]:∀ {L C:List α},L.Nodup→(∀ x∈L,x∈C)→L.length≤C.length
  | [],C,_,_=>Nat.zero_le _
  | x :: r,C,h,hs=>by
    rw [List.nodup_cons] at h
    have hx:=hs x (by simp)
    have:=nd_len (L:=r) (C:=C.erase x) h.2 fun y hy=>(List.mem_erase_of_ne (by rintro rfl;exact h.1 hy)).2 (hs y (List.mem_cons_of_mem _ hy))
    rw [List.length_erase_of_mem hx] at this
    have hpos:=List.length_pos_of_mem hx
    simp only [List.length_cons]
    omega
section
variable {E:Env15} {C L:List Nd} {v:Nat}
theorem Upto.snoc (hE:OfOk E) (hc:errA (chkF E.s)=0) (h:Upto E C v L) {n:Nd} {j k:Nat} {r:Rl} (hf:findF E.s n.o.ty n.rl=some (j,k,r)) (hv:lvN E.s n=v) (hn:n ∉ L) (hC:n∈C) (hb:bodyB E (fun c=>decide (c∈L)) n r=true) :
    Upto E C v (L++[n]):=by
  have get:∀ i m,(L++[n])[i]?=some m→(i<L.length∧L[i]?=some m)∨(i=L.length∧m=n):=by
    intro i m hi
    rw [List.getElem?_append] at hi
    split at hi
    · rename_i h1;exact .inl ⟨h1,hi⟩
    · rename_i h1
      rw [List.getElem?_singleton] at hi
      split at hi
      · cases hi;exact .inr ⟨by omega,rfl⟩
      · cases hi
  refine ⟨?_,fun m hm=>?_,fun i m hi=>?_,fun i i2 m m2 hi hi2 hlt=>?_,fun m hm=>?_,fun m j2 k2 r2 hf2 hlt hb2=>?_⟩
  · rw [List.nodup_append]
    exact ⟨h.nd,by simp,fun a ha b hb=>by rw [List.mem_singleton.1 hb];rintro rfl;exact hn ha⟩
  · rcases List.mem_append.1 hm with hm | hm
    · exact h.sub m hm
    · rw [List.mem_singleton.1 hm];exact hC
  · rcases get i m hi with ⟨h1,h2⟩ | ⟨h1,rfl⟩
    · rw [List.take_append_of_le_length (Nat.le_of_lt h1)]
      exact h.step i m h2
    · rw [h1,List.take_append_of_le_length (Nat.le_refl _),List.take_length]
      exact ⟨j,k,r,hf,hb⟩
  · rcases get i m hi with ⟨h1,h2⟩ | ⟨h1,rfl⟩
    · rcases get i2 m2 hi2 with ⟨h3,h4⟩ | ⟨h3,rfl⟩
      · exact h.srt i i2 m m2 h2 h4 hlt
      · rw [hv];exact h.top m (List.mem_of_getElem? h2)
    · rcases get i2 m2 hi2 with ⟨h3,h4⟩ | ⟨h3,rfl⟩
      · omega
      · exact Nat.le_refl _
  · rcases List.mem_append.1 hm with hm | hm
    · exact h.top m hm
    · rw [List.mem_singleton.1 hm,hv];exact Nat.le_refl _
  · refine List.mem_append_left _ (h.closed m j2 k2 r2 hf2 hlt ?_)
    rw [← hb2]
    refine body_congr hE hc hf2 fun c hl=>?_
    rw [Bool.eq_iff_iff,decide_eq_true_eq,decide_eq_true_eq,List.mem_append,List.mem_singleton]
    refine ⟨.inl,fun hq=>hq.elim id fun e=>?_⟩
    subst e
    rcases hl with hl | hl
    · rw [hf] at hl;cases hl
    · have:lvN E.s c≤lvN E.s m:=by simpa using hl
      omega
theorem Upto.mod (h:Upto E C v L) (hv:∀ n j k r,findF E.s n.o.ty n.rl=some (j,k,r)→lvN E.s n<v):Mod E L:=by
  refine ⟨h.step,fun n m hn hm hlt=>?_,fun n j k r hf hb=>h.closed n j k r hf (hv n j k r hf) hb⟩
  have gi:∀ n,n∈L→L[L.idxOf n]?=some n:=fun n hn=>by
    have hlt:=List.idxOf_lt_length_iff.2 hn
    rw [List.getElem?_eq_getElem hlt,List.getElem_idxOf hlt]
  have g1:=gi n hn
  have g2:=gi m hm
  rcases Nat.lt_trichotomy (L.idxOf n) (L.idxOf m) with h1 | h1 | h1
  · exact h1
  · rw [h1,g2] at g1
    cases g1
    omega
  · have:=h.srt _ _ m n g2 g1 h1
    omega
theorem lvN_le (hc:errA (chkF E.s)=0) {n:Nd} {j k:Nat} {r:Rl} (hf:findF E.s n.o.ty n.rl=some (j,k,r)):lvN E.s n≤manyF E.s:=by
  obtain ⟨-,ty,hty,-,hkr⟩:=findF_at hf
  have:=(lev_stands hc hty hkr).1
  unfold lvN
  rw [hf]
  exact this
end
theorem exB_of {E E':Env15} (hof:∀ n x,x∈E.of n↔x∈E'.of n) (K:Nd→Bool) (o:Ob):∀ (m:Nat) (e:Ex),exB E K o m e=exB E' K o m e
  | 0,e=>rfl
  | m+1,.mk k n ov ks=>by
    have ih:=exB_of hof K o m
    unfold exB
    by_cases k0:k=0
    · rw [if_pos k0,if_pos k0]
    · rw [if_neg k0,if_neg k0]
      by_cases k1:k=1
      · rw [if_pos k1,if_pos k1,Bool.eq_iff_iff,List.any_eq_true,List.any_eq_true]
        constructor
        · rintro ⟨x,hx,h⟩;exact ⟨x,(hof _ x).1 hx,h⟩
        · rintro ⟨x,hx,h⟩;exact ⟨x,(hof _ x).2 hx,h⟩
      · rw [if_neg k1,if_neg k1]
        match ks with
        | [a,b]=>dsimp only;rw [ih a,ih b]
        | []=>rfl
        | [_]=>rfl
        | _ :: _ :: _ :: _=>rfl
theorem Mod.of {E E':Env15} {L:List Nd} (h:Mod E L) (hs:E'.s=E.s) (hw:E'.who=E.who) (hof:∀ n x,x∈E.of n↔x∈E'.of n):Mod E' L:=by
  have hb:∀ K n r,bodyB E K n r=bodyB E' K n r:=by
    intro K n r
    unfold bodyB
    split
    · exact exB_of hof K _ _ _
    · rw [hw,Bool.eq_iff_iff,List.any_eq_true,List.any_eq_true]
      constructor
      · rintro ⟨x,hx,h⟩;exact ⟨x,(hof _ x).1 hx,h⟩
      · rintro ⟨x,hx,h⟩;exact ⟨x,(hof _ x).2 hx,h⟩
  refine ⟨fun i n hi=>?_,fun n m=>?_,fun n j k r hf hq=>?_⟩
  · obtain ⟨j,k,r,h1,h2⟩:=h.step i n hi
    exact ⟨j,k,r,by rw [hs];exact h1,by rw [← hb];exact h2⟩
  · rw [hs];exact h.lev n m
  · rw [hs] at hf
    exact h.closed n j k r hf (by rw [hb];exact hq)
end Go.HL
set_option linter.unusedVariables false
set_option linter.unusedSimpArgs false
set_option maxRecDepth 4000
namespace Go.HL
open Nat renaming reduceAdd→zA,reduceLeDiff→zB,reduceLT→zC,reduceSub→zD,reduceMul→zE,reduceEqDiff→zF,reduceBEq→zG
open Int renaming reduceAdd→zH,reduceToNat→zI
def addT (T:List Ob) (o:Ob):List Ob:=if o∈T then T else T++[o]
theorem c_add14 {S0 S:Store} {tv:AV} {T:List Ob} (hs:Sub S0 S) (ht:LstW S0 S tyOb 2 tv (T.map obC)) (hl:T.length≤1000000) (o:Ob) :
    ACalls PG nr_ref14_add [tv,.agg (obC o)] S fun ae S'=>∃ tv',ae=.ret tv'∧LstW S0 S' tyOb 2 tv' ((addT T o).map obC)∧Sub S0 S'∧∀ c x,sget S c=some x→Aside tv c→sget S' c=some x∧Aside tv' c:=by
  refine w_ref14_add ?_
  unfold B_ref14_add
  (try simp only [rwp,zA,zB,zC,zD,zE,zF,zG,zH,zI,rwb,reduceIte,obC])
  refine LoopP.introS (fun i:Nat=>[(0,tv),(3,.rop [.str o.ty,.str o.id]),(5,.int .i64 i)]) (fun i S'=>S'=S∧i≤T.length∧∀ (j:Nat) (m:Ob),j<i→T[j]?=some m→¬ m=o) (fun i=>T.length-i) 0 ⟨rfl,by omega,fun j m hj=>by omega⟩ rfl ?_
  rintro i S' ⟨rfl,hi,hno⟩ kk hkk
  (try simp only [rwp,zA,zB,zC,zD,zE,zF,zG,zH,zI,rwb,reduceIte,C_ref14_add_1,ht.ln,List.length_map])
  (refine cnW_intro (fun hlt=>?_) (fun hlt=>?_)<;>(try simp only [hlc] at hlt))
  · obtain ⟨m,hm⟩:=get_lt hlt
    obtain ⟨b1,cap,cs,rfl,hcs,hrow,hle⟩:=ht.get (i:=i) (r:=obC m) (by rw [List.getElem?_map,hm];rfl)
    simp only [List.length_map] at hkk ht
    (try simp only [rwp,zA,zB,zC,zD,zE,zF,zG,zH,zI,rwb,reduceIte,hcs,List.length_map,Int.toNat_natCast,Nat.zero_add])
    obtain ⟨rest,hd1⟩:=drop_two (hrow.trans (show obC m=[.str m.ty,.str m.id] from rfl))
    (try simp only [rwp,zA,zB,zC,zD,zE,zF,zG,zH,zI,rwb,reduceIte,hd1])
    refine ⟨hlt,?_⟩
    have hnd:=ob_dec m o
    cases a1:(decide (m.ty=o.ty)&&decide (m.id=o.id))
    · rw [a1] at hnd
      (try simp only [rwp,zA,zB,zC,zD,zE,zF,zG,zH,zI,rwb,reduceIte])
      (simp (disch:=omega) only [hwrap64])
      refine rcW_as rfl (hkk (i+1) _ ⟨rfl,by omega,fun j u hj hu=>?_⟩ (by omega))
      rcases Nat.lt_succ_iff_lt_or_eq.1 hj with h1 | rfl
      · exact hno j u h1 hu
      · rw [hm] at hu;cases hu;exact of_decide_eq_false hnd
    · rw [a1] at hnd
      have e:=of_decide_eq_true hnd
      subst e
      (try simp only [rwp,zA,zB,zC,zD,zE,zF,zG,zH,zI,rwb,reduceIte])
      refine rtW_one ⟨_,rfl,?_,hs,fun c x hc ha=>⟨hc,ha⟩⟩
      rw [addT,if_pos (List.mem_of_getElem? hm)]
      exact ht
  · have hn:o ∉ T:=by
      intro hn
      obtain ⟨j,hj⟩:=List.getElem?_of_mem hn
      have:=(List.getElem?_eq_some_iff.1 hj).1
      exact hno j o (by omega) hj rfl
    (try simp only [rwp,zA,zB,zC,zD,zE,zF,zG,zH,zI,rwb,reduceIte])
    refine LstW.app hs ht (x:=[.str o.ty,.str o.id]) rfl rfl (by simp only [List.length_map];omega) fun tv' S2 h1 h2 h3=>?_
    refine rtW_one ⟨tv',rfl,?_,h1,h3⟩
    rw [addT,if_neg hn,List.map_append]
    exact h2
theorem good_find {s:List Ty} (hg:GoodS s) {i k:Nat} {t:Ty} {r:Rl} (ht:s[i]?=some t) (hr:t.rels[k]?=some r):findF s t.name r.name=some (i,k,r):=by
  have h1:=hg.once ht hr
  unfold fiN at h1
  simp only [Prod.mk.injEq] at h1
  obtain ⟨e1,e2⟩:=h1
  have ty:typF s t.name=some i:=by
    cases hq:typF s t.name with
    | none=>
      have:=firstI_none.1 hq i t ht
      simp at this
    | some i'=>rw [hq] at e1;exact congrArg some e1
  have rl:relIn t.rels r.name=some k:=by
    cases hq:relIn t.rels r.name with
    | none=>
      have:=firstI_none.1 hq k r hr
      simp at this
    | some k'=>
      rw [ty] at e2
      unfold relF at e2
      simp only [Option.bind_some,ht,hq,Option.getD_some] at e2
      rw [e2]
  unfold findF
  rw [ty]
  dsimp only
  rw [ht]
  dsimp only
  rw [rl]
  dsimp only
  rw [hr]
  rfl
theorem soW_w5 {s:List Ty} {L:List Tu} {who:Ob} {tv kv v:AV} {S:Store} {b:Nat} {KT:Store→Prop} (h:one v=true):soW (some (tyW14,wC s L tv who kv,6)) S 1 b 5 v KT=KT (supd S b (.cells tyW14 (wC s L tv who v) 6)):=by
  have h1:=(one_aC h).1
  simp [soW,wC,h1,ones,h,fillA]
theorem soW_w2 {s:List Ty} {L:List Tu} {who:Ob} {tv kv v:AV} {S:Store} {b:Nat} {KT:Store→Prop} (h:one v=true):soW (some (tyW14,wC s L tv who kv,6)) S 1 b 2 v KT=KT (supd S b (.cells tyW14 (wC s L v who kv) 6)):=by
  have h1:=(one_aC h).1
  simp [soW,wC,h1,ones,h,fillA]
theorem LstW.keep {S0 S S':Store} {t sz:Nat} {u v v':AV} {rows:List (List AV)} (h:LstW S0 S t sz u rows) (ha:∀ b off n cap,u=.own b off n cap→Aside v b) (hk:∀ c o,sget S c=some o→Aside v c→sget S' c=some o∧Aside v' c) :
    LstW S0 S' t sz u rows∧∀ b off n cap,u=.own b off n cap→Aside v' b:=by
  obtain ⟨hr,h⟩:=h
  rcases h with ⟨rfl,rfl⟩ | ⟨b,cap,cs,rfl,h1,h2,h3⟩
  · exact ⟨⟨hr,.inl ⟨rfl,rfl⟩⟩,fun b off n cap e=>by cases e⟩
  · obtain ⟨k1,k2⟩:=hk b _ h2 (ha b _ _ _ rfl)
    exact ⟨⟨hr,.inr ⟨b,cap,cs,rfl,h1,k1,h3⟩⟩,fun b off n cap e=>by cases e;exact k2⟩
structure Rnd (s:List Ty) (L:List Tu) (who:Ob):Prop where
  os:OkS s
  c:errA (chkF s)=0
  oL:OkL L
  e:OfOk (envL s L who)
structure RdI (s:List Ty) (L:List Tu) (who:Ob) (bw:Nat) (S0:Store) (T:List Ob) (C:List Nd) (v:Nat) (K0:List Nd) (i t k:Nat) (K:List Nd) (b:Bool) (S:Store):Prop where
  w:W14 s L who bw S0 T K S
  u:Upto (envL s L who) C v K
  y:b=true→K0.length<K.length
  n:b=false→K=K0∧∀ (i' t' k':Nat) (o:Ob) (ty:Ty) (r:Rl),(i'<i∨i'=i∧(t'<t∨t'=t∧k'<k))→T[i']?=some o→s[t']?=some ty→ty.name=o.ty→ty.rels[k']?=some r→getL (levF s) (t',k')=v→bodyB (envL s L who) (fun c=>decide (c∈K0)) ⟨o,r.name⟩ r=true→(⟨o,r.name⟩:Nd)∈K0
theorem RdI.skip {s:List Ty} {L:List Tu} {who:Ob} {bw:Nat} {S0 S:Store} {T:List Ob} {C:List Nd} {v:Nat} {K0 K:List Nd} {i t k i2 t2 k2:Nat} {b:Bool} (h:RdI s L who bw S0 T C v K0 i t k K b S)
    (hs:∀ (i' t' k':Nat) (o:Ob) (ty:Ty) (r:Rl),(i'<i2∨i'=i2∧(t'<t2∨t'=t2∧k'<k2))→T[i']?=some o→s[t']?=some ty→ty.name=o.ty→ty.rels[k']?=some r→getL (levF s) (t',k')=v→¬ (i'<i∨i'=i∧(t'<t∨t'=t∧k'<k))→bodyB (envL s L who) (fun c=>decide (c∈K)) ⟨o,r.name⟩ r=true→(⟨o,r.name⟩:Nd)∈K):RdI s L who bw S0 T C v K0 i2 t2 k2 K b S:=by
  refine ⟨h.w,h.u,h.y,fun hb=>?_⟩
  obtain ⟨e,h1⟩:=h.n hb
  subst e
  refine ⟨rfl,fun i' t' k' o ty r hlt a1 a2 a3 a4 a5 a6=>?_⟩
  by_cases hq:i'<i∨i'=i∧(t'<t∨t'=t∧k'<k)
  · exact h1 i' t' k' o ty r hq a1 a2 a3 a4 a5 a6
  · exact hs i' t' k' o ty r hlt a1 a2 a3 a4 a5 hq a6
theorem c_round14 {s:List Ty} {L:List Tu} {who:Ob} {bw:Nat} {S0 S:Store} {T:List Ob} {v:Nat} {K:List Nd} (R:Rnd s L who) (hw:W14 s L who bw S0 T K S) (hu:Upto (envL s L who) (nodesT s T) v K) (hlC:(nodesT s T).length<1000000) (hv:v≤1000) :
    ACalls PG nr_ref14_World_round [.ptr bw 0,.sl 1 (lvC (levF s)),.int .i64 v] S fun ae S'=>∃ (b:Bool) (K':List Nd),ae=.ret (.bool b)∧W14 s L who bw S0 T K' S'∧Upto (envL s L who) (nodesT s T) v K'∧(b=true→K.length<K'.length) ∧
      (b=false→K'=K∧∀ n j k r,findF s n.o.ty n.rl=some (j,k,r)→lvN s n=v→n.o∈T→bodyB (envL s L who) (fun c=>decide (c∈K)) n r=true→n∈K):=by
  have hlt:=hw.lt
  have hst:=R.os.types
  have hlvl:=shp_len (lev_shp s)
  refine w_ref14_World_round ?_
  unfold B_ref14_World_round
  refine LoopP.introS (fun x:Nat×Bool=>[(0,.ptr bw 0),(1,.sl 1 (lvC (levF s))),(2,.int .i64 v),(7,.bool x.2),(8,.int .i64 x.1)]) (fun x S'=>x.1≤T.length∧∃ K',RdI s L who bw S0 T (nodesT s T) v K x.1 0 0 K' x.2 S') (fun x=>T.length-x.1) (0,false)
    ⟨by omega,K,hw,hu,fun h=>(by cases h),fun _=>⟨rfl,fun i' t' k' o ty r hq=>by omega⟩⟩ rfl ?_
  rintro ⟨i,b⟩ S1 ⟨hi,K1,h1⟩ kk hkk
  dsimp only at hi h1 ⊢
  obtain ⟨tv,kv,ho,ht,hk,hta,hka,hap⟩:=h1.w.ex
  have hc:=cellsAt_of ho
  (try simp only [rwp,zA,zB,zC,zD,zE,zF,zG,zH,zI,rwb,reduceIte,C_ref14_World_round_1,hc,wC,ht.ln,List.length_map])
  (refine cnW_intro (fun hlti=>?_) (fun hlti=>?_)<;>(try simp only [hlc] at hlti))
  · obtain ⟨o,hoT⟩:=get_lt hlti
    obtain ⟨b1,cap,cs,rfl,hcs,hrow,hle⟩:=ht.get (i:=i) (r:=obC o) (by rw [List.getElem?_map,hoT];rfl)
    obtain ⟨rest,hd1⟩:=drop_two (hrow.trans (show obC o=[.str o.ty,.str o.id] from rfl))
    (try simp only [rwp,zA,zB,zC,zD,zE,zF,zG,zH,zI,rwb,reduceIte,hc,wC,hcs,List.length_map,Int.toNat_natCast,Nat.zero_add,hd1])
    refine ⟨hlti,?_⟩
    clear ho ht hk hta hka hap hc hcs hrow hle hd1
    refine LoopP.introS (fun x:Nat×Bool=>[(0,.ptr bw 0),(1,.sl 1 (lvC (levF s))),(2,.int .i64 v),(7,.bool x.2),(8,.int .i64 i),(9,.rop [.str o.ty,.str o.id]),(10,.int .i64 x.1)]) (fun x S'=>x.1≤s.length∧∃ K',RdI s L who bw S0 T (nodesT s T) v K i x.1 0 K' x.2 S') (fun x=>s.length-x.1) (0,b)
      ⟨by omega,K1,h1⟩ rfl ?_
    rintro ⟨t,b2⟩ S2 ⟨htl,K2,h2⟩ kk2 hkk2
    dsimp only at htl h2 ⊢
    obtain ⟨tv,kv,ho,ht,hk,hta,hka,hap⟩:=h2.w.ex
    have hc:=cellsAt_of ho
    (try simp only [rwp,zA,zB,zC,zD,zE,zF,zG,zH,zI,rwb,reduceIte,C_ref14_World_round_2,hc,wC,List.length_map])
    (refine cnW_intro (fun hltt=>?_) (fun hltt=>?_)<;>(try simp only [hlc] at hltt))
    · obtain ⟨ty,hty⟩:=get_lt hltt
      clear ho ht hk hta hka hap hc
      refine LoopP.introS (fun x:Nat×Bool=>[(0,.ptr bw 0),(1,.sl 1 (lvC (levF s))),(2,.int .i64 v),(7,.bool x.2),(8,.int .i64 i),(9,.rop [.str o.ty,.str o.id]),(10,.int .i64 t),(11,.int .i64 x.1)]) (fun x S'=>x.1≤ty.rels.length∧∃ K',RdI s L who bw S0 T (nodesT s T) v K i t x.1 K' x.2 S') (fun x=>ty.rels.length-x.1) (0,b2)
        ⟨by omega,K2,h2⟩ rfl ?_
      rintro ⟨k,b3⟩ S3 ⟨hkl,K3,h3⟩ kk3 hkk3
      dsimp only at hkl h3 ⊢
      obtain ⟨tv,kv,ho,ht,hk,hta,hka,hap⟩:=h3.w.ex
      have hc:=cellsAt_of ho
      have hrt:=(R.os.types)
      (try simp only [rwp,zA,zB,zC,zD,zE,zF,zG,zH,zI,rwb,reduceIte,C_ref14_World_round_3,hc,wC,List.length_map,List.getElem?_map,hty,tyC])
      cases g1:(decide ((k:Int)<ty.rels.length)&&decide (ty.name=o.ty))
      · (try simp only [rwp,zA,zB,zC,zD,zE,zF,zG,zH,zI,rwb,reduceIte,C_ref14_World_round_4])
        (simp (disch:=omega) only [hwrap64])
        refine rcW_as rfl (hkk2 (t+1,b3) _ ⟨by dsimp only;omega,K3,h3.skip fun i' t' k' o' ty' r' hq a1 a2 a3 a4 a5 a6 a7=>?_⟩ (by dsimp only;omega))
        exfalso
        have e1:i'=i:=by omega
        have e2:t'=t:=by omega
        subst e1 e2
        rw [hoT] at a1
        cases a1
        rw [hty] at a2
        cases a2
        have hk':=(List.getElem?_eq_some_iff.1 a4).1
        rw [decide_eq_true a3,Bool.and_true] at g1
        have:=of_decide_eq_false g1
        omega
      · rw [Bool.and_eq_true] at g1
        have hltk:=of_decide_eq_true g1.1
        have hnm:=of_decide_eq_true g1.2
        obtain ⟨r,hr⟩:=get_lt hltk
        have hf:findF s o.ty r.name=some (t,k,r):=by rw [← hnm];exact good_find (chk_good R.c) hty hr
        have hlvn:lvN s ⟨o,r.name⟩=getL (levF s) (t,k):=by unfold lvN;rw [hf]
        have q1:=c_known14 h3.w ⟨o,r.name⟩
        simp only [obC] at q1
        (try simp only [rwp,zA,zB,zC,zD,zE,zF,zG,zH,zI,rwb,reduceIte,C_ref14_World_round_4,hc,wC,List.length_map,List.getElem?_map,hty,tyC,hr,rlC_eq])
        refine caW_at q1 ?_
        obtain ⟨lv,hl1,hl2⟩:=shp_row (lev_shp s) hty
        obtain ⟨x,hx⟩:∃ x,lv[k]?=some x:=⟨_,List.getElem?_eq_getElem (by omega)⟩
        have hgl:getL (levF s) (t,k)=x:=by unfold getL;simp [hl1,hx]
        have hcl:(lvC (levF s))[t]?=some [.sl 1 (lv.map fun x=>[iv x])]:=by rw [lvC,List.getElem?_map,hl1];rfl
        have next:(bodyB (envL s L who) (fun c=>decide (c∈K3)) ⟨o,r.name⟩ r=true→x=v→(⟨o,r.name⟩:Nd)∈K3)→RdI s L who bw S0 T (nodesT s T) v K i t (k+1) K3 b3 S3:=fun hq=>h3.skip fun i' t' k' o' ty' r' hlt a1 a2 a3 a4 a5 a6 a7=>by
          have e1:i'=i:=by omega
          have e2:t'=t:=by omega
          have e3:k'=k:=by omega
          subst e1 e2 e3
          rw [hoT] at a1
          cases a1
          rw [hty] at a2
          cases a2
          rw [hr] at a4
          cases a4
          exact hq a7 (by rw [← hgl];exact a5)
        have go:∀ {kn:Bool},(bodyB (envL s L who) (fun c=>decide (c∈K3)) ⟨o,r.name⟩ r=true→x=v→(⟨o,r.name⟩:Nd)∈K3)→rcW kk3 [(0,.ptr bw 0),(1,.sl 1 (lvC (levF s))),(2,.int .i64 v),(7,.bool b3),(8,.int .i64 i),(9,.rop [.str o.ty,.str o.id]),(10,.int .i64 t),(11,.int .i64 (IntKind.i64.wrap (↑k+1)))] S3:=fun hq=>by
          have hb2:=(R.os.at hty).rels
          (simp (disch:=omega) only [hwrap64])
          exact rcW_as rfl (hkk3 (k+1,b3) _ ⟨by dsimp only;omega,K3,next hq⟩ (by dsimp only;omega))
        cases g3:decide ((⟨o,r.name⟩:Nd)∈K3)
        · (try simp only [rwp,zA,zB,zC,zD,zE,zF,zG,zH,zI,rwb,reduceIte,hcl,List.getElem?_map,hx,iv])
          cases g4:decide ((x:Int)=v)
          · (try simp only [rwp,zA,zB,zC,zD,zE,zF,zG,zH,zI,rwb,reduceIte,C_ref14_World_round_5])
            exact go (kn:=true) fun _ e=>absurd (by rw [e]:(x:Int)=v) (of_decide_eq_false g4)
          · have q2:=c_stands14 R.oL h3.w ⟨o,r.name⟩ r ((R.os.at hty).at hr) rfl (fun h0=>sc_may (chk_good R.c).may ty (List.mem_of_getElem? hty) r (List.mem_of_getElem? hr) h0)
            simp only [obC,rlC_eq] at q2
            (try simp only [rwp,zA,zB,zC,zD,zE,zF,zG,zH,zI,rwb,reduceIte,C_ref14_World_round_5])
            refine caW_at q2 ?_
            cases g5:bodyB (envL s L who) (fun c=>decide (c∈K3)) ⟨o,r.name⟩ r
            · (try simp only [rwp,zA,zB,zC,zD,zE,zF,zG,zH,zI,rwb,reduceIte])
              exact go (kn:=true) fun h=>by rw [g5] at h;cases h
            · (try simp only [rwp,zA,zB,zC,zD,zE,zF,zG,zH,zI,rwb,reduceIte,hc,wC])
              have hbT:o∈T:=List.mem_of_getElem? hoT
              have hu4:=h3.u.snoc R.e R.c (n:=⟨o,r.name⟩) hf (by show lvN s ⟨o,r.name⟩=v;rw [hlvn,hgl];exact Int.ofNat_inj.1 (of_decide_eq_true g4)) (of_decide_eq_false g3) (mem_nodes hf hbT) g5
              have hlen4:=nd_len hu4.nd hu4.sub
              have hk3:K3.length≤1000000:=h3.w.lk
              have hb2:=(R.os.at hty).rels
              refine LstW.app h3.w.sub hk (x:=ndC ⟨o,r.name⟩) rfl rfl (by simp only [List.length_map];omega) fun kv' S4 j1 j2 j3=>?_
              obtain ⟨i1,i2⟩:=j3 bw _ (objAt_some.1 ho) hka
              obtain ⟨t1,t2⟩:=LstW.keep ht hap j3
              rw [objAt_some.2 i1,soW_w5 j2.one]
              have hw4:W14 s L who bw S0 T (K3++[⟨o,r.name⟩]) (supd S4 bw (.cells tyW14 (wC s L tv who kv') 6)):=
                ⟨⟨tv,kv',objAt_eq,t1.upd hta _,by rw [List.map_append];exact j2.upd i2 _,hta,i2,t2⟩,Sub.supd h3.w.nb j1,h3.w.nb,by omega,h3.w.lt⟩
              have hr4:RdI s L who bw S0 T (nodesT s T) v K i t (k+1) (K3++[⟨o,r.name⟩]) true (supd S4 bw (.cells tyW14 (wC s L tv who kv') 6)):=by
                refine ⟨hw4,hu4,fun _=>?_,fun h=>by cases h⟩
                rw [List.length_append,List.length_singleton]
                cases b3 with
                | true=>have:=h3.y rfl;omega
                | false=>rw [(h3.n rfl).1];omega
              (simp (disch:=omega) only [hwrap64])
              exact rcW_as rfl (hkk3 (k+1,true) _ ⟨by dsimp only;omega,_,hr4⟩ (by dsimp only;omega))
        · (try simp only [rwp,zA,zB,zC,zD,zE,zF,zG,zH,zI,rwb,reduceIte,C_ref14_World_round_5])
          exact go (kn:=true) fun _ _=>of_decide_eq_true g3
    · (try simp only [rwp,zA,zB,zC,zD,zE,zF,zG,zH,zI,rwb,reduceIte])
      (simp (disch:=omega) only [hwrap64])
      refine rcW_as rfl (hkk (i+1,b2) _ ⟨by dsimp only;omega,K2,h2.skip fun i' t' k' o' ty r hq a1 a2 a3 a4 a5 a6 a7=>?_⟩ (by dsimp only;omega))
      exfalso
      have:=(List.getElem?_eq_some_iff.1 a2).1
      omega
  · (try simp only [rwp,zA,zB,zC,zD,zE,zF,zG,zH,zI,rwb,reduceIte])
    refine rtW_one ⟨b,K1,rfl,h1.w,h1.u,h1.y,fun hb=>?_⟩
    obtain ⟨e,hq⟩:=h1.n hb
    refine ⟨e,fun n j k r hf hl hT hbd=>?_⟩
    obtain ⟨a,ha⟩:=List.getElem?_of_mem hT
    obtain ⟨-,ty,hty,hrl,hkr⟩:=findF_at hf
    have hnm:ty.name=n.o.ty:=by
      obtain ⟨⟨x,hx,hp⟩,-⟩:=firstI_some.1 (findF_at hf).1
      rw [hty] at hx
      cases hx
      exact of_decide_eq_true hp
    have hrn:r.name=n.rl:=by
      obtain ⟨⟨x,hx,hp⟩,-⟩:=firstI_some.1 hrl
      rw [hkr] at hx
      cases hx
      exact of_decide_eq_true hp
    have hlv:getL (levF s) (j,k)=v:=by rw [← hl];unfold lvN;rw [hf]
    have hlt2:=(List.getElem?_eq_some_iff.1 ha).1
    have:=hq a j k n.o ty r (.inl (by omega)) ha hty hnm hkr hlv (by rw [hrn];exact hbd)
    rw [hrn] at this
    exact this
end Go.HL
set_option linter.unusedVariables false
set_option linter.unusedSimpArgs false
set_option maxRecDepth 4000
namespace Go.HL
open Nat renaming reduceAdd→zA,reduceLeDiff→zB,reduceLT→zC,reduceSub→zD,reduceMul→zE,reduceEqDiff→zF,reduceBEq→zG
open Int renaming reduceAdd→zH,reduceToNat→zI
theorem Upto.next {s:List Ty} {L:List Tu} {who:Ob} {T:List Ob} {v:Nat} {K:List Nd} (h:Upto (envL s L who) (nodesT s T) v K) (hT:∀ n x,x∈(envL s L who).of n→n.o∈T)
    (hcl:∀ n j k r,findF s n.o.ty n.rl=some (j,k,r)→lvN s n=v→n.o∈T→bodyB (envL s L who) (fun c=>decide (c∈K)) n r=true→n∈K):Upto (envL s L who) (nodesT s T) (v+1) K:=by
  have hT':∀ n∈K,n.o∈T:=by
    intro n hn
    have:=h.sub n hn
    obtain ⟨o,ho,hq⟩:=List.mem_flatMap.1 this
    obtain ⟨t,-,hq⟩:=List.mem_flatMap.1 hq
    obtain ⟨r,-,rfl⟩:=List.mem_map.1 hq
    exact ho
  refine ⟨h.nd,h.sub,h.step,h.srt,fun n hn=>Nat.le_succ_of_le (h.top n hn),fun n j k r hf hlt hb=>?_⟩
  rcases Nat.lt_succ_iff_lt_or_eq.1 hlt with h1 | h1
  · exact h.closed n j k r hf h1 hb
  · exact hcl n j k r hf h1 (body_thing hT (fun c hc=>hT' c (of_decide_eq_true hc)) hb) hb
theorem nodes_len {s:List Ty} {T:List Ob}:(nodesT s T).length=T.length * manyF s:=by
  unfold nodesT manyF
  induction T with
  | nil=>simp
  | cons o T ih=>
    rw [List.flatMap_cons,List.length_append,ih,List.length_cons,Nat.succ_mul,Nat.add_comm]
    congr 1
    rw [List.length_flatMap]
    congr 1
    apply List.map_congr_left
    intro t _
    simp
theorem All_3 {s:List Ty} {L:List Tu} {who:Ob} {bw:Nat} {S0 S:Store} {T:List Ob} {QF:AEnd→Store→Prop} (R:Rnd s L who) (hT:∀ n x,x∈(envL s L who).of n→n.o∈T) (hlT:T.length≤2000) (hw:W14 s L who bw S0 T [] S)
    (hQ:∀ K S',W14 s L who bw S0 T K S'→Mod (envL s L who) K→QF (.ret (.tup [.ptr bw 0,.bool true])) S') :
    LoopP (fun r0 l S=>C_ref14_All_3 QF r0 (lget l 10) (lget l 12) (lget l 14) S) [(10,.sl 1 (lvC (levF s))),(12,.ptr bw 0),(14,.int .i64 0)] S:=by
  have hm:=(chk_good R.c).many
  have hC:(nodesT s T).length<1000000:=by
    rw [nodes_len]
    calc T.length * manyF s≤2000 * 256:=Nat.mul_le_mul hlT hm
      _<1000000:=by decide
  refine LoopP.introS (fun v:Nat=>[(10,.sl 1 (lvC (levF s))),(12,.ptr bw 0),(14,.int .i64 v)]) (fun v S'=>v≤300∧∃ K,W14 s L who bw S0 T K S'∧Upto (envL s L who) (nodesT s T) v K) (fun v=>300-v) 0
    ⟨by omega,[],hw,⟨by simp,fun n hn=>(by cases hn),fun i n hi=>by simp at hi,fun i j n m hi=>by simp at hi,fun n hn=>(by cases hn),fun n j k r _ hlt=>by omega⟩⟩ rfl ?_
  rintro v S1 ⟨hv,K1,w1,u1⟩ kk hkk
  (try simp only [rwp,zA,zB,zC,zD,zE,zF,zG,zH,zI,rwb,reduceIte,C_ref14_All_3])
  cases a1:decide ((v:Int)<300)
  · (try simp only [rwp,zA,zB,zC,zD,zE,zF,zG,zH,zI,rwb,reduceIte])
    have e:v=300:=by have:=of_decide_eq_false a1;omega
    subst e
    exact rtW_two (hQ K1 S1 w1 (u1.mod fun n j k r hf=>Nat.lt_of_le_of_lt (lvN_le R.c hf) (by show manyF s<300;omega)))
  · have hlt:=of_decide_eq_true a1
    (try simp only [rwp,zA,zB,zC,zD,zE,zF,zG,zH,zI,rwb,reduceIte])
    refine LoopP.introS (fun n:Nat=>[(10,.sl 1 (lvC (levF s))),(12,.ptr bw 0),(14,.int .i64 v),(15,.int .i64 n)]) (fun n S'=>n≤1000000∧∃ K,W14 s L who bw S0 T K S'∧Upto (envL s L who) (nodesT s T) v K∧n≤K.length) (fun n=>1000000-n) 0
      ⟨by omega,K1,w1,u1,by omega⟩ rfl ?_
    rintro n S2 ⟨hn,K2,w2,u2,hnk⟩ kk2 hkk2
    have hle:=nd_len u2.nd u2.sub
    (try simp only [rwp,zA,zB,zC,zD,zE,zF,zG,zH,zI,rwb,reduceIte,C_ref14_All_4])
    rw [decide_eq_true (show (n:Int)<1000000 by omega)]
    (try simp only [rwp,zA,zB,zC,zD,zE,zF,zG,zH,zI,rwb,reduceIte])
    refine caW_of (c_round14 R w2 u2 hC (by omega)) ?_
    rintro ae S3 ⟨b,K3,rfl,w3,u3,y3,n3⟩
    dsimp only
    cases b
    · (try simp only [rwp,zA,zB,zC,zD,zE,zF,zG,zH,zI,rwb,reduceIte])
      (simp (disch:=omega) only [hwrap64])
      obtain ⟨e,hcl⟩:=n3 rfl
      subst e
      exact rcW_as rfl (hkk (v+1) _ ⟨by omega,K3,w3,u3.next hT hcl⟩ (by omega))
    · (try simp only [rwp,zA,zB,zC,zD,zE,zF,zG,zH,zI,rwb,reduceIte])
      (simp (disch:=omega) only [hwrap64])
      have:=y3 rfl
      exact rcW_as rfl (hkk2 (n+1) _ ⟨by omega,K3,w3,u3,by omega⟩ (by omega))
structure P14 (s:List Ty) (L:List Tu) (who:Ob) (bw:Nat) (S0:Store) (T:List Ob) (S:Store):Prop where
  ex:∃ tv,objAt S bw=some (tyW14,wC s L tv who .nils,6)∧LstW S0 S tyOb 2 tv (T.map obC)∧Aside tv bw
  sub:Sub S0 S
  nb:sget S0 bw=none
theorem P14.w {s:List Ty} {L:List Tu} {who:Ob} {bw:Nat} {S0 S:Store} {T:List Ob} (h:P14 s L who bw S0 T S) (hl:T.length≤1000000):W14 s L who bw S0 T [] S:=by
  obtain ⟨tv,h1,h2,h3⟩:=h.ex
  exact ⟨⟨tv,.nils,h1,h2,LstW.nil,h3,fun b off n cap e=>(by cases e),fun _ _ _ _ _ b off n cap e=>(by cases e)⟩,h.sub,h.nb,by simp,hl⟩
theorem P14.add {s:List Ty} {L:List Tu} {who:Ob} {bw:Nat} {S0 S:Store} {T:List Ob} {tv:AV} (hnb:sget S0 bw=none) (hs:Sub S0 S) (h1:objAt S bw=some (tyW14,wC s L tv who .nils,6)) (h2:LstW S0 S tyOb 2 tv (T.map obC)) (h3:Aside tv bw) (hl:T.length≤1000000) (o:Ob) {K:AV→Store→Prop} {Qp:AV→Store→Prop}
    (hK:∀ tv' S',objAt S' bw=some (tyW14,wC s L tv who .nils,6)→one tv'=true→P14 s L who bw S0 (addT T o) (supd S' bw (.cells tyW14 (wC s L tv' who .nils) 6))→K tv' S'):caW PG S (.func (.func nr_ref14_add) [] []) [tv,.agg (obC o)] K Qp:=by
  refine caW_of (c_add14 hs h2 hl o) ?_
  rintro ae S' ⟨tv',rfl,k1,k2,k3⟩
  obtain ⟨i1,i2⟩:=k3 bw _ (objAt_some.1 h1) h3
  exact hK tv' S' (objAt_some.2 i1) k1.one ⟨⟨tv',objAt_eq,k1.upd i2 _,i2⟩,Sub.supd hnb k2,hnb⟩
theorem addT_len {T:List Ob} {o:Ob}:(addT T o).length≤T.length+1:=by
  unfold addT
  split<;>simp
theorem addT_mem {T:List Ob} {o x:Ob}:x∈addT T o↔x∈T∨x=o:=by
  unfold addT
  split
  · rename_i h
    exact ⟨.inl,fun hq=>hq.elim id fun e=>by rw [e];exact h⟩
  · rw [List.mem_append,List.mem_singleton]
theorem All_1 {s:List Ty} {L:List Tu} {who:Ob} {bw:Nat} {S0 S:Store} {o:Ob} {QF:AEnd→Store→Prop} (R:Rnd s L who) (hlL:L.length≤500) (h0:P14 s L who bw S0 [o] S)
    (hQ:∀ T K S',W14 s L who bw S0 T K S'→Mod (envL s L who) K→QF (.ret (.tup [.ptr bw 0,.bool true])) S'):C_ref14_All_1 QF (.sl 1 (lvC (levF s))) (.ptr bw 0) S:=by
  unfold C_ref14_All_1
  refine LoopP.introS (fun i:Nat=>[(10,.sl 1 (lvC (levF s))),(12,.ptr bw 0),(13,.int .i64 i)]) (fun i S'=>i≤L.length∧∃ T,P14 s L who bw S0 T S'∧T.length≤1+2 * i∧∀ (j:Nat) (t:Tu),j<i→L[j]?=some t→t.o∈T) (fun i=>L.length-i) 0
    ⟨by omega,[o],h0,by simp,fun j t hj=>by omega⟩ rfl ?_
  rintro i S1 ⟨hi,T,p1,hlT,hmem⟩ kk hkk
  obtain ⟨tv,ho,ht,hta⟩:=p1.ex
  have hc:=cellsAt_of ho
  (try simp only [rwp,zA,zB,zC,zD,zE,zF,zG,zH,zI,rwb,reduceIte,C_ref14_All_2,hc,wC,List.length_map])
  (refine cnW_intro (fun hlt=>?_) (fun hlt=>?_)<;>(try simp only [hlc] at hlt))
  · obtain ⟨t,hg⟩:=get_lt hlt
    (try simp only [rwp,zA,zB,zC,zD,zE,zF,zG,zH,zI,rwb,reduceIte,hc,wC,List.getElem?_map,hg,tuC])
    refine P14.add p1.nb p1.sub ho ht hta (by omega) t.o fun tv2 S2 o2 n2 p2=>?_
    (try simp only [rwp,zA,zB,zC,zD,zE,zF,zG,zH,zI,rwb,reduceIte])
    rw [o2,soW_w2 n2]
    obtain ⟨tv3,ho3,ht3,hta3⟩:=p2.ex
    have hc3:=cellsAt_of ho3
    have hl2:=@addT_len T t.o
    have e3:tv2=tv3:=by
      have h:=ho3
      rw [objAt_eq] at h
      simpa [wC] using h
    subst e3
    generalize supd S2 bw (.cells tyW14 (wC s L tv2 who .nils) 6)=S3 at p2 ho3 ht3 hc3 ⊢
    (try simp only [rwp,zA,zB,zC,zD,zE,zF,zG,zH,zI,rwb,reduceIte,hc3,wC,List.getElem?_map,hg,tuC])
    refine P14.add p2.nb p2.sub ho3 ht3 hta3 (by omega) t.s.o fun tv4 S4 o4 n4 p4=>?_
    have hl4:=@addT_len (addT T t.o) t.s.o
    (try simp only [rwp,zA,zB,zC,zD,zE,zF,zG,zH,zI,rwb,reduceIte])
    rw [o4,soW_w2 n4]
    (simp (disch:=omega) only [hwrap64])
    refine rcW_as rfl (hkk (i+1) _ ⟨by omega,_,p4,by omega,fun j u hj hu=>?_⟩ (by omega))
    rw [addT_mem,addT_mem]
    rcases Nat.lt_succ_iff_lt_or_eq.1 hj with h1 | rfl
    · exact .inl (.inl (hmem j u h1 hu))
    · rw [hg] at hu;cases hu;exact .inl (.inr rfl)
  · (try simp only [rwp,zA,zB,zC,zD,zE,zF,zG,zH,zI,rwb,reduceIte])
    have e:i=L.length:=by omega
    subst e
    refine All_3 R (fun n x hx=>?_) (by omega) (p1.w (by omega)) (hQ T)
    obtain ⟨t,ht,rfl⟩:=List.mem_map.1 hx
    unfold ofF at ht
    simp only [List.mem_filter,Bool.and_eq_true,decide_eq_true_eq] at ht
    obtain ⟨j,hj⟩:=List.getElem?_of_mem ht.1
    have:=hmem j t (List.getElem?_eq_some_iff.1 hj).1 hj
    rw [ht.2.1] at this
    exact this
theorem c_All14 {s:List Ty} (hs:OkS s) (hN:OkN s) {l:List Tu} (hl:OkL l) (hn:l.length≤500) (o who:Ob) (S:Store) :
    ACalls PG nr_ref14_All [scA s,.sl 6 (l.map tuC),.agg (obC o),.agg (obC who)] S fun ae S'=>(errA (chkF s)≠0∧ae=.ret (.tup [.nilp,.bool false])∧S'=S) ∨
      (errA (chkF s)=0∧∃ bw T K,ae=.ret (.tup [.ptr bw 0,.bool true])∧W14 s (countsF s l) who bw S T K S'∧Mod (envE s l who) K):=by
  refine w_ref14_All ?_
  unfold B_ref14_All
  have q1:=c_ref12_Levels hs hN
  have q3:=c_ref14_Counts hs hl
  unfold lvlF at q1
  (try simp only [rwp,zA,zB,zC,zD,zE,zF,zG,zH,zI,rwb,reduceIte,scA,obC])
  simp only [scA] at q1 q3
  by_cases hk:errA (chkF s)=0
  · rw [if_pos hk] at q1
    refine caW_pure q1 ?_
    (try simp only [rwp,zA,zB,zC,zD,zE,zF,zG,zH,zI,rwb,reduceIte])
    have R:Rnd s (countsF s l) who:=⟨hs,hk,counts_ok hl,env_ok s l who⟩
    have hlc:(countsF s l).length≤500:=Nat.le_trans (List.length_filter_le _ _) hn
    have fin:∀ (bt bw:Nat) (S2:Store),sget S bt=none→sget (supd S bt (.cells tyOb [.str o.ty,.str o.id] 2)) bw=none→S2=supd (supd S bt (.cells tyOb [.str o.ty,.str o.id] 2)) bw (.cells tyW14 (wC s (countsF s l) (.own bt 0 1 1) who .nils) 6) →
        C_ref14_All_1 (fun ae S'=>(errA (chkF s)≠0∧ae=.ret (.tup [.nilp,.bool false])∧S'=S)∨(errA (chkF s)=0∧∃ bw T K,ae=.ret (.tup [.ptr bw 0,.bool true])∧W14 s (countsF s l) who bw S T K S'∧Mod (envE s l who) K)) (.sl 1 (lvC (levF s))) (.ptr bw 0) S2:=by
      rintro bt bw S2 hbt hbw rfl
      obtain ⟨hne,hbw'⟩:=frsh hbw
      refine All_1 R hlc (o:=o) (S0:=S) ⟨⟨.own bt 0 1 1,objAt_eq,⟨fun r hr=>by rw [List.mem_singleton.1 hr];rfl,.inr ⟨bt,1,[.str o.ty,.str o.id],rfl,hbt,?_,rfl,by simp,by simp,by decide⟩⟩,fun b off n cap e=>by cases e;exact hne⟩,Sub.supd hbw' (Sub.supd hbt (Sub.refl _)),hbw'⟩ fun T K S' h1 h2=>.inr ⟨hk,bw,T,K,rfl,h1,h2⟩
      rw [sget_supd,if_neg hne,sget_supd,if_pos rfl]
    refine ⟨?_,?_⟩
    · refine caW_pure q3 ?_
      (try simp only [rwp,zA,zB,zC,zD,zE,zF,zG,zH,zI,rwb,reduceIte])
      refine ⟨by simp [allV,aCells,notJ],fun bt hbt=>?_⟩
      (try simp only [rwp,zA,zB,zC,zD,zE,zF,zG,zH,zI,rwb,reduceIte])
      refine ⟨rfl,rfl,fun bw hbw=>?_⟩
      exact fin bt bw _ hbt hbw rfl
    · refine ⟨by simp [allV,aCells,notJ],fun bt hbt=>?_⟩
      refine caW_pure q3 ?_
      (try simp only [rwp,zA,zB,zC,zD,zE,zF,zG,zH,zI,rwb,reduceIte])
      refine ⟨rfl,rfl,fun bw hbw=>?_⟩
      exact fin bt bw _ hbt hbw rfl
  · rw [if_neg hk] at q1
    refine caW_pure q1 ?_
    (try simp only [rwp,zA,zB,zC,zD,zE,zF,zG,zH,zI,rwb,reduceIte])
    exact rtW_two (.inl ⟨hk,rfl,rfl⟩)
theorem c_Holds14 {s:List Ty} (hs:OkS s) (hN:OkN s) {l:List Tu} (hl:OkL l) (hn:l.length≤500) (n:Nd) (who:Ob) (S:Store) :
    ACalls PG nr_ref14_Holds [scA s,.sl 6 (l.map tuC),.agg (obC n.o),.str n.rl,.agg (obC who)] S fun ae S'=>∃ b:Bool,ae=.ret (.bool b)∧S'=S∧(errA (chkF s)≠0→b=false)∧(errA (chkF s)=0→∃ K,Mod (envE s l who) K∧b=decide (n∈K)):=by
  refine w_ref14_Holds ?_
  unfold B_ref14_Holds
  have q:=c_All14 hs hN hl hn n.o who S
  simp only [scA,obC] at q
  (try simp only [rwp,zA,zB,zC,zD,zE,zF,zG,zH,zI,rwb,reduceIte,scA,obC])
  refine caW_of q ?_
  rintro ae S1 (⟨h0,rfl,rfl⟩ | ⟨h0,bw,T,K,rfl,hw,hM⟩)
  · (try simp only [rwp,zA,zB,zC,zD,zE,zF,zG,zH,zI,rwb,reduceIte])
    exact rtW_one ⟨false,rfl,rfl,fun _=>rfl,fun h=>absurd h h0⟩
  · (try simp only [rwp,zA,zB,zC,zD,zE,zF,zG,zH,zI,rwb,reduceIte])
    have q2:=c_known14 hw n
    simp only [obC] at q2
    refine caW_at q2 ?_
    (try simp only [rwp,zA,zB,zC,zD,zE,zF,zG,zH,zI,rwb,reduceIte])
    exact rtW_sub hw.sub ⟨_,rfl,rfl,fun h=>absurd h0 h,fun _=>⟨K,hM,rfl⟩⟩
end Go.HL
set_option linter.unusedVariables false
set_option linter.unusedSimpArgs false
set_option maxRecDepth 4000
namespace Go.HL
open Nat renaming reduceAdd→zA,reduceLeDiff→zB,reduceLT→zC,reduceSub→zD,reduceMul→zE,reduceEqDiff→zF,reduceBEq→zG
open Int renaming reduceAdd→zH,reduceToNat→zI
theorem small_ok4 {s:List Ty} {l:List Tu} (h:smallF s l=true) (hl:∀ t∈l,OkU t):OkN s∧OkL l∧l.length≤30:=by
  unfold smallF at h
  rw [Bool.and_eq_true,decide_eq_true_eq] at h
  exact ⟨few_N h.1 (by decide),⟨by omega,hl⟩,by omega⟩
theorem chk15_or4 (E:Env15) (B:Int) (n:Nd):(∃ e:Int,e≠0∧chk15 E B n=.tup [.bool false,.int .i64 0,.int .i64 e]) ∨
    ∃ (a:Bool) (w:Nat),errA (chkF E.s)=0∧askQ E B 50 [] n 0=some (a,w)∧chk15 E B n=.tup [.bool a,.int .i64 w,.int .i64 0]:=by
  by_cases h1:B<0∨100000<B∨errA (chkF E.s)≠0
  · exact .inl ⟨1,by decide,by unfold chk15;rw [if_pos h1]⟩
  · by_cases h2:findF E.s n.o.ty n.rl=none
    · exact .inl ⟨6,by decide,by unfold chk15;rw [if_neg h1,if_pos h2]⟩
    · cases h3:askQ E B 50 [] n 0 with
      | none=>exact .inl ⟨12,by decide,by unfold chk15;rw [if_neg h1,if_neg h2,h3]⟩
      | some p=>
        obtain ⟨a,w⟩:=p
        refine .inr ⟨a,w,Classical.byContradiction fun hq=>h1 (.inr (.inr hq)),rfl,by unfold chk15;rw [if_neg h1,if_neg h2,h3]⟩
theorem c_EngineHolds {s:List Ty} (hs:OkS s) {l:List Tu} (hl:∀ t∈l,OkU t) (o:Ob) (rl:ByteArray) (who:Ob) (B:Int) :
    AFun PG nr_law15_EngineHolds [scA s,.sl 6 (l.map tuC),.agg (obC o),.str rl,.agg (obC who),.int .i64 B] (.bool true):=by
  intro S
  refine w_law15_EngineHolds ?_
  unfold B_law15_EngineHolds
  (try simp only [rwp,zA,zB,zC,zD,zE,zF,zG,zH,zI,rwb,reduceIte,scA,obC])
  refine caW_pure c_awake15 ?_
  (try simp only [rwp,zA,zB,zC,zD,zE,zF,zG,zH,zI,rwb,reduceIte])
  have q:=c_law14_Small hs l
  simp only [scA] at q
  refine caW_pure q ?_
  have out:∀ b:Bool,b=true→C_law15_EngineHolds_2 (fun ae S'=>ae=AEnd.ret (AV.bool true)∧S'=S) (.sl 6 (l.map tuC)) (.str rl) (.int .i64 B) (.rop [.sl 2 (s.map tyC)]) (.rop [.str o.ty,.str o.id]) (.rop [.str who.ty,.str who.id]) (.bool true) (.bool b) S:=by
    rintro b rfl
    (try simp only [rwp,zA,zB,zC,zD,zE,zF,zG,zH,zI,rwb,reduceIte,C_law15_EngineHolds_2])
    exact rtW_one ⟨rfl,rfl⟩
  cases hsm:smallF s l
  · (try simp only [rwp,zA,zB,zC,zD,zE,zF,zG,zH,zI,rwb,reduceIte,C_law15_EngineHolds_1])
    exact out _ rfl
  · (try simp only [rwp,zA,zB,zC,zD,zE,zF,zG,zH,zI,rwb,reduceIte,C_law15_EngineHolds_1])
    cases h1:decide (2000<B)
    · obtain ⟨hN,hL,hn⟩:=small_ok4 hsm hl
      have q1:=c_engine_Check hs hN hL ⟨o,rl⟩ who B
      have q2:=fun S=>c_Holds14 hs hN hL (by omega:l.length≤500) ⟨o,rl⟩ who S
      simp only [scA,obC] at q1 q2
      (try simp only [rwp,zA,zB,zC,zD,zE,zF,zG,zH,zI,rwb,reduceIte,C_law15_EngineHolds_2])
      refine caW_pure q1 ?_
      rcases chk15_or4 (envE s l who) B ⟨o,rl⟩ with ⟨e,he,hc⟩ | ⟨a,w,h0,ha,hc⟩
      · rw [hc]
        (try simp only [rwp,zA,zB,zC,zD,zE,zF,zG,zH,zI,rwb,reduceIte,decide_eq_false he])
        exact rtW_one ⟨rfl,rfl⟩
      · rw [hc]
        (try simp only [rwp,zA,zB,zC,zD,zE,zF,zG,zH,zI,rwb,reduceIte])
        refine caW_of (q2 S) ?_
        rintro ae S' ⟨b,rfl,rfl,-,hM⟩
        obtain ⟨K,hK,hb⟩:=hM h0
        have e:=ask_mod (env_ok s l who) h0 hK ha
        rw [e,hb]
        (try simp only [rwp,zA,zB,zC,zD,zE,zF,zG,zH,zI,rwb,reduceIte,eqW_def])
        exact rtW_one ⟨by simp,rfl⟩
    · (try simp only [rwp,zA,zB,zC,zD,zE,zF,zG,zH,zI,rwb,reduceIte])
      exact out _ rfl
end Go.HL
set_option linter.unusedVariables false
set_option linter.unusedSimpArgs false
namespace Go.HL
open Nat renaming reduceAdd→zA,reduceLeDiff→zB,reduceLT→zC,reduceSub→zD,reduceMul→zE,reduceEqDiff→zF,reduceBEq→zG
open Int renaming reduceAdd→zH,reduceToNat→zI
def Old (w:World):Nat→Prop:=fun b=>b<w.heap.size
theorem cell_old {w:World} {a:Addr} {v:Value} (h:w.cell? a=some v):Old w a.block:=by
  unfold Old
  unfold World.cell? at h
  rcases Nat.lt_or_ge a.block w.heap.size with h1 | h1
  · exact h1
  · rw [Array.getElem?_eq_none h1] at h;simp at h
section
variable {H:Type} {enc:TypeId×Value→H} {P:Program} {w:World} {sp:Nat→Bool} {held:Bool} {n:Nat} {t e:TypeId} {cs:List Value} {x:DataW H×List MemPlace}
def Wt {H:Type} (P:Program) (t:TypeId) (d:DataW H):Prop:=∀ k∈d.weights P t,k≤reachBytes
theorem open_str (ht:P.underlying t=some .string) (hw:Wt P t x.1) (h:DataW.trod enc P w 0 sp held n t cs=some x):∃ s:ByteArray,s.size≤1125899906842624∧cs=[.string s]:=by
  cases n with
  | zero=>simp [DataW.trod] at h
  | succ n=>
    unfold DataW.trod at h
    rw [ht] at h
    split at h<;>simp_all
    obtain ⟨h1,rfl⟩:=h
    refine Nat.le_trans (Nat.le_of_eq ?_) (Nat.le_trans (hw _ (by simp only [DataW.weights];exact List.mem_singleton.2 rfl)) (by decide))
    rw [Array.length_toList]
    rfl
theorem open_int' {k:IntKind} (ht:P.underlying t=some (.int k)) (h:DataW.trod enc P w 0 sp held n t cs=some x):∃ z:Int,cs=[.int k z]:=by
  cases n with
  | zero=>simp [DataW.trod] at h
  | succ n=>
    unfold DataW.trod at h
    rw [ht] at h
    split at h<;>simp_all
theorem cells_get {w:World} {a:Addr} {m:Nat} {vs:List Value} (h:w.cells? 0 a m=some vs):vs.length=m∧∀ j,j<m→w.cell? (a.add j)=some (vs.getD j undef):=by
  unfold World.cells? at h
  rw [if_pos (Nat.zero_le _)] at h
  have h1:=mapM_some_length h
  refine ⟨by simpa using h1,fun j hj=>?_⟩
  have h2:=mapM_some_get h j j (by simp [hj])
  rw [h2,List.getD_eq_getElem?_getD]
  simp at h1
  rw [List.getElem?_eq_getElem (by omega)]
  rfl
theorem open_slc {α:Type} {enc':α→List AV} {good:α→Prop} {sz:Nat} (ht:P.underlying t=some (.slice e)) (hc:P.cellsOf e=sz) (hsz:0<sz) (hlen:∀ a,(enc' a).length=sz)
    (hb:1≤P.bytesOf e) (hw:Wt P t x.1) (hE:∀ m,m<n→∀ cs x,Wt P e x.1→DataW.trod enc P w 0 sp held m e cs=some x→∃ a,good a∧RVs (Old w) w (enc' a) cs) (h:DataW.trod enc P w 0 sp held n t cs=some x) :
    ∃ (l:List α) (v:Value),(∀ a∈l,good a)∧l.length≤1125899906842624∧cs=[v]∧RV (Old w) w (.sl sz (l.map enc')) v:=by
  rcases DataW.trod_slice ht h with ⟨rfl,-⟩ | ⟨a,len,cap,elems,rest,m,rfl,rfl,rfl,-,hl,hm,hlen2,hel,-,-⟩
  · exact ⟨[],_,fun a ha=>(by cases ha),Nat.zero_le _,rfl,.sl0 _ _ _⟩
  · have hx:DataW.weights P t (.slice (elems.map (·.1)) (rest.map (·.1)))=((elems.map (·.1)).length+(rest.map (·.1)).length) * P.bytesOf e :: (DataW.weightsAll P e (elems.map (·.1))++DataW.weightsAll P e (rest.map (·.1))):=by
      simp only [DataW.weights]
      rw [ht]
    have hw:∀ k∈DataW.weights P t (.slice (elems.map (·.1)) (rest.map (·.1))),k≤reachBytes:=hw
    rw [hx] at hw
    have key:∀ i,i<len→∃ (y:α) (vs:List Value),good y∧RVs (Old w) w (enc' y) vs∧w.cells? 0 (a.add (i * sz)) sz=some vs:=fun i hi=>by
      have h1:=hel i hi
      rw [hc,List.getElem?_eq_getElem (by omega)] at h1
      obtain ⟨vs,h2,h3⟩:=Option.bind_eq_some_iff.1 h1
      have hwi:Wt P e (elems[i]'(by omega)).1:=fun k hk=>by
        refine hw k ?_
        refine List.mem_cons_of_mem _ (List.mem_append_left _ ?_)
        have:∀ l:List (DataW H×List MemPlace),∀ y∈l,∀ k∈y.1.weights P e,k∈DataW.weightsAll P e (l.map (·.1)):=by
          intro l
          induction l with
          | nil=>intro y hy;cases hy
          | cons z l ih=>
            intro y hy k hk
            simp only [List.map_cons,DataW.weightsAll,List.mem_append]
            rcases List.mem_cons.1 hy with rfl | hy
            · exact .inl hk
            · exact .inr (ih y hy k hk)
        exact this elems _ (List.getElem_mem _) k hk
      obtain ⟨y,k1,k2⟩:=hE m (Nat.lt_succ_self m) vs _ hwi h3
      exact ⟨y,vs,k1,k2,h2⟩
    by_cases h0:len=0
    · subst h0
      exact ⟨[],_,fun a ha=>(by cases ha),Nat.zero_le _,rfl,.sl0 _ _ _⟩
    have ex:∃ l:List α,l.length=len∧∀ i y,l[i]?=some y→∃ vs:List Value,good y∧RVs (Old w) w (enc' y) vs∧w.cells? 0 (a.add (i * sz)) sz=some vs:=by
      have:∀ k,k≤len→∃ l:List α,l.length=k∧∀ (i:Nat) (y:α),l[i]?=some y→∃ vs:List Value,good y∧RVs (Old w) w (enc' y) vs∧w.cells? 0 (a.add (i * sz)) sz=some vs:=by
        intro k
        induction k with
        | zero=>exact fun _=>⟨[],rfl,fun i y h=>by simp at h⟩
        | succ k ih=>
          intro hk
          obtain ⟨l,k1,k2⟩:=ih (by omega)
          obtain ⟨y,vs,j1⟩:=key k (by omega)
          refine ⟨l++[y],by simp [k1],fun i z hz=>?_⟩
          by_cases hi:i<l.length
          · rw [List.getElem?_append_left hi] at hz
            exact k2 i z hz
          · rw [List.getElem?_append_right (by omega)] at hz
            obtain ⟨q,hq⟩:∃ q,i-l.length=q:=⟨_,rfl⟩
            rw [hq] at hz
            cases q with
            | succ q=>simp at hz
            | zero=>
              simp at hz
              subst hz
              have:i=k:=by omega
              subst this
              exact ⟨vs,j1⟩
      exact this len (Nat.le_refl _)
    obtain ⟨l,k1,k2⟩:=ex
    have k3:∀ i,i<len→∃ y vs,l[i]?=some y∧good y∧RVs (Old w) w (enc' y) vs∧w.cells? 0 (a.add (i * sz)) sz=some vs:=fun i hi=>by
      have hy:l[i]?=some l[i]:=List.getElem?_eq_getElem (by omega)
      obtain ⟨vs,h1⟩:=k2 i _ hy
      exact ⟨_,vs,hy,h1⟩
    have hadd:∀ i j,(a.add (i * sz)).add j=a.add (i * sz+j):=fun i j=>add_add _ _ _
    have hll:l.length≤1125899906842624:=by
      have h5:=hw _ List.mem_cons_self
      simp only [List.length_map] at h5
      have h6:elems.length≤(elems.length+rest.length) * P.bytesOf e:=Nat.le_trans (Nat.le_add_right _ _) (Nat.le_mul_of_pos_right _ hb)
      unfold reachBytes at h5
      omega
    refine ⟨l,_,fun y hy=>?_,hll,rfl,.sl sz (l.map enc') a len cap (fun i j=>((w.cells? 0 (a.add (i * sz)) sz).getD []).getD j undef) (by simp [k1]) hl ?_ (fun i r hr=>?_) (fun i j hi hj=>?_) (fun i j r u hr hu=>?_)⟩
    · obtain ⟨i,hi⟩:=List.getElem?_of_mem hy
      obtain ⟨vs,h1,-⟩:=k2 i y hi
      exact h1
    · obtain ⟨y,vs,-,-,-,h4⟩:=k3 0 (by omega)
      have h5:=(cells_get h4).2 0 hsz
      have:=cell_old h5
      rw [add_add] at this
      simpa [Addr.add] using this
    · rw [List.getElem?_map] at hr
      cases hl2:l[i]? with
      | none=>rw [hl2] at hr;cases hr
      | some y=>rw [hl2] at hr;cases hr;exact hlen y
    · obtain ⟨y,vs,-,-,-,h4⟩:=k3 i hi
      rw [h4,← hadd]
      exact (cells_get h4).2 j hj
    · rw [List.getElem?_map] at hr
      cases hl2:l[i]? with
      | none=>rw [hl2] at hr;cases hr
      | some y=>
        rw [hl2] at hr
        cases hr
        obtain ⟨vs,-,h3,h4⟩:=k2 i y hl2
        rw [h4]
        exact h3.2 j u hu
theorem open_stc {fs:Array Field} (ht:P.underlying t=some (.struct fs)) (hw:Wt P t x.1) (h:DataW.trod enc P w 0 sp held n t cs=some x):cs.length=P.cellsOf t∧∃ m,n=m+1 ∧
    ∀ (i:Nat) (f:Field),fs[i]?=some f→∃ y,Wt P f.type y.1∧DataW.trod enc P w 0 sp held m f.type ((cs.drop f.offset).take (P.cellsOf f.type))=some y:=by
  obtain ⟨xs,m,rfl,rfl,hl,hlen,hf⟩:=DataW.trod_struct ht h
  refine ⟨hl,m,rfl,fun i f hi=>?_⟩
  have hil:i<fs.size:=(Array.getElem?_eq_some_iff.1 hi).1
  have h1:=hf i f hi
  have hxi:xs[i]?=some (xs[i]'(by omega)):=List.getElem?_eq_getElem _
  rw [hxi] at h1
  refine ⟨_,fun k hk=>?_,h1⟩
  have hx:DataW.weights P t (.agg (xs.map (·.1)))=DataW.weightsEach P (fs.toList.map (·.type)) (xs.map (·.1)):=by
    simp only [DataW.weights]
    rw [ht]
  have hw:∀ k∈DataW.weights P t (.agg (xs.map (·.1))),k≤reachBytes:=hw
  rw [hx] at hw
  refine hw k ?_
  have key:∀ (ts:List TypeId) (ds:List (DataW H)) (j:Nat) (t:TypeId) (d:DataW H),ts[j]?=some t→ds[j]?=some d→∀ k∈d.weights P t,k∈DataW.weightsEach P ts ds:=by
    intro ts
    induction ts with
    | nil=>intro ds j t d h;simp at h
    | cons a ts ih=>
      intro ds j t d h1 h2 k hk
      cases ds with
      | nil=>simp at h2
      | cons b ds=>
        simp only [DataW.weightsEach,List.mem_append]
        cases j with
        | zero=>simp at h1 h2;subst h1;subst h2;exact .inl hk
        | succ j=>simp at h1 h2;exact .inr (ih ds j t d h1 h2 k hk)
  exact key _ _ i _ _ (by rw [List.getElem?_map,Array.getElem?_toList,hi];rfl) (by rw [List.getElem?_map,hxi];rfl) k hk
end
structure ScT (P:Program) (tS tTs tT tRs tR tFs tF tE tEs tI tN:TypeId):Prop where
  int:P.underlying tI=some (.int .i64)
  str:P.underlying tN=some .string
  ex:∃ f0 f1 f2 f3,P.underlying tE=some (.struct #[f0,f1,f2,f3])∧f0.type=tI∧f0.offset=0∧f1.type=tN∧f1.offset=1∧f2.type=tN∧f2.offset=2∧f3.type=tEs∧f3.offset=3
  exs:P.underlying tEs=some (.slice tE)
  rf:∃ f0 f1,P.underlying tF=some (.struct #[f0,f1])∧f0.type=tN∧f0.offset=0∧f1.type=tN∧f1.offset=1
  rfs:P.underlying tFs=some (.slice tF)
  rl:∃ f0 f1 f2,P.underlying tR=some (.struct #[f0,f1,f2])∧f0.type=tN∧f0.offset=0∧f1.type=tFs∧f1.offset=1∧f2.type=tE∧f2.offset=2
  rls:P.underlying tRs=some (.slice tR)
  ty:∃ f0 f1,P.underlying tT=some (.struct #[f0,f1])∧f0.type=tN∧f0.offset=0∧f1.type=tRs∧f1.offset=1
  tys:P.underlying tTs=some (.slice tT)
  sc:∃ f0,P.underlying tS=some (.struct #[f0])∧f0.type=tTs∧f0.offset=0
  cI:P.cellsOf tI=1
  cN:P.cellsOf tN=1
  cE:P.cellsOf tE=4
  cEs:P.cellsOf tEs=1
  cF:P.cellsOf tF=2
  cFs:P.cellsOf tFs=1
  cR:P.cellsOf tR=6
  cRs:P.cellsOf tRs=1
  cT:P.cellsOf tT=2
  cTs:P.cellsOf tTs=1
  cS:P.cellsOf tS=1
  bE:1≤P.bytesOf tE
  bF:1≤P.bytesOf tF
  bR:1≤P.bytesOf tR
  bT:1≤P.bytesOf tT
section
variable {H:Type} {enc:TypeId×Value→H} {P:Program} {w:World} {sp:Nat→Bool} {held:Bool} {tS tTs tT tRs tR tFs tF tE tEs tI tN:TypeId} (K:ScT P tS tTs tT tRs tR tFs tF tE tEs tI tN)
include K
theorem open_ex:∀ (n:Nat) (cs:List Value) (x:DataW H×List MemPlace),Wt P tE x.1→DataW.trod enc P w 0 sp held n tE cs=some x→∃ e:Ex,OkE e∧RVs (Old w) w (exC e) cs:=by
  intro n
  induction n using Nat.strongRecOn with
  | _ n ih=>
    intro cs x hw h
    obtain ⟨f0,f1,f2,f3,hu,a0,b0,a1,b1,a2,b2,a3,b3⟩:=K.ex
    obtain ⟨hl,m,rfl,hf⟩:=open_stc hu hw h
    rw [K.cE] at hl
    obtain ⟨c0,c1,c2,c3,rfl⟩:∃ c0 c1 c2 c3,cs=[c0,c1,c2,c3]:=by
      match cs,hl with
      | [c0,c1,c2,c3],_=>exact ⟨_,_,_,_,rfl⟩
    obtain ⟨y0,w0,h0⟩:=hf 0 f0 rfl
    obtain ⟨y1,w1,h1⟩:=hf 1 f1 rfl
    obtain ⟨y2,w2,h2⟩:=hf 2 f2 rfl
    obtain ⟨y3,w3,h3⟩:=hf 3 f3 rfl
    rw [a0,b0,K.cI] at h0
    rw [a1,b1,K.cN] at h1
    rw [a2,b2,K.cN] at h2
    rw [a3,b3,K.cEs] at h3
    rw [a1] at w1
    rw [a2] at w2
    rw [a3] at w3
    obtain ⟨z,e0⟩:=open_int' K.int h0
    obtain ⟨s1,g1,e1⟩:=open_str K.str w1 h1
    obtain ⟨s2,g2,e2⟩:=open_str K.str w2 h2
    obtain ⟨l,v,g3,g4,e3,g5⟩:=open_slc (enc':=exC) (good:=OkE) K.exs K.cE (by decide) exC_len K.bE w3 (fun k hk cs x hw h=>ih k (by omega) cs x hw h) h3
    simp at e0 e1 e2 e3
    subst e0;subst e1;subst e2;subst e3
    refine ⟨.mk z s1 s2 l,.mk z s1 s2 l g4 g1 g2 g3,?_⟩
    rw [exC_eq]
    exact .cons (.int _ _) (.cons (.str _) (.cons (.str _) (.cons g5 .nil)))
theorem open_rf {n:Nat} {cs:List Value} {x:DataW H×List MemPlace} (hw:Wt P tF x.1) (h:DataW.trod enc P w 0 sp held n tF cs=some x):∃ f:Rf,OkF f∧RVs (Old w) w (rfC f) cs:=by
  obtain ⟨f0,f1,hu,a0,b0,a1,b1⟩:=K.rf
  obtain ⟨hl,m,rfl,hf⟩:=open_stc hu hw h
  rw [K.cF] at hl
  obtain ⟨c0,c1,rfl⟩:∃ c0 c1,cs=[c0,c1]:=by
    match cs,hl with
    | [c0,c1],_=>exact ⟨_,_,rfl⟩
  obtain ⟨y0,w0,h0⟩:=hf 0 f0 rfl
  obtain ⟨y1,w1,h1⟩:=hf 1 f1 rfl
  rw [a0,b0,K.cN] at h0
  rw [a1,b1,K.cN] at h1
  rw [a0] at w0
  rw [a1] at w1
  obtain ⟨s1,g1,e1⟩:=open_str K.str w0 h0
  obtain ⟨s2,g2,e2⟩:=open_str K.str w1 h1
  simp at e1 e2
  subst e1;subst e2
  exact ⟨⟨s1,s2⟩,⟨g1,g2⟩,.cons (.str _) (.cons (.str _) .nil)⟩
theorem open_rl {n:Nat} {cs:List Value} {x:DataW H×List MemPlace} (hw:Wt P tR x.1) (h:DataW.trod enc P w 0 sp held n tR cs=some x):∃ r:Rl,OkR r∧RVs (Old w) w (rlC r) cs:=by
  obtain ⟨f0,f1,f2,hu,a0,b0,a1,b1,a2,b2⟩:=K.rl
  obtain ⟨hl,m,rfl,hf⟩:=open_stc hu hw h
  rw [K.cR] at hl
  obtain ⟨c0,c1,c2,c3,c4,c5,rfl⟩:∃ c0 c1 c2 c3 c4 c5,cs=[c0,c1,c2,c3,c4,c5]:=by
    match cs,hl with
    | [c0,c1,c2,c3,c4,c5],_=>exact ⟨_,_,_,_,_,_,rfl⟩
  obtain ⟨y0,w0,h0⟩:=hf 0 f0 rfl
  obtain ⟨y1,w1,h1⟩:=hf 1 f1 rfl
  obtain ⟨y2,w2,h2⟩:=hf 2 f2 rfl
  rw [a0,b0,K.cN] at h0
  rw [a1,b1,K.cFs] at h1
  rw [a2,b2,K.cE] at h2
  rw [a0] at w0
  rw [a1] at w1
  rw [a2] at w2
  obtain ⟨s1,g1,e1⟩:=open_str K.str w0 h0
  obtain ⟨l,v,g3,g4,e3,g5⟩:=open_slc (enc':=rfC) (good:=OkF) K.rfs K.cF (by decide) (fun _=>rfl) K.bF w1 (fun k _ cs x hw h=>open_rf K hw h) h1
  obtain ⟨e,g6,g7⟩:=open_ex K _ _ _ w2 h2
  simp at e1 e3
  subst e1;subst e3
  exact ⟨⟨s1,l,e⟩,⟨g1,g4,g3,g6⟩,.cons (.str _) (.cons g5 g7)⟩
theorem open_ty {n:Nat} {cs:List Value} {x:DataW H×List MemPlace} (hw:Wt P tT x.1) (h:DataW.trod enc P w 0 sp held n tT cs=some x):∃ t:Ty,OkT t∧RVs (Old w) w (tyC t) cs:=by
  obtain ⟨f0,f1,hu,a0,b0,a1,b1⟩:=K.ty
  obtain ⟨hl,m,rfl,hf⟩:=open_stc hu hw h
  rw [K.cT] at hl
  obtain ⟨c0,c1,rfl⟩:∃ c0 c1,cs=[c0,c1]:=by
    match cs,hl with
    | [c0,c1],_=>exact ⟨_,_,rfl⟩
  obtain ⟨y0,w0,h0⟩:=hf 0 f0 rfl
  obtain ⟨y1,w1,h1⟩:=hf 1 f1 rfl
  rw [a0,b0,K.cN] at h0
  rw [a1,b1,K.cRs] at h1
  rw [a0] at w0
  rw [a1] at w1
  obtain ⟨s1,g1,e1⟩:=open_str K.str w0 h0
  obtain ⟨l,v,g3,g4,e3,g5⟩:=open_slc (enc':=rlC) (good:=OkR) K.rls K.cR (by decide) rlC_len K.bR w1 (fun k _ cs x hw h=>open_rl K hw h) h1
  simp at e1 e3
  subst e1;subst e3
  exact ⟨⟨s1,l⟩,⟨g1,g4,g3⟩,.cons (.str _) (.cons g5 .nil)⟩
theorem open_sc {v:Value} {d:DataW H} {ps:List MemPlace} (hw:Wt P tS d) (h:DataW.Trod enc P w 0 sp held tS v d ps) (hv:∃ vs,v=.agg vs):∃ s:List Ty,OkS s∧RV (Old w) w (scA s) v:=by
  obtain ⟨n,h⟩:=h
  obtain ⟨vs,rfl⟩:=hv
  obtain ⟨f0,hu,a0,b0⟩:=K.sc
  obtain ⟨hl,m,rfl,hf⟩:=open_stc (x:=(d,ps)) hu hw h
  rw [K.cS] at hl
  obtain ⟨y0,w0,h0⟩:=hf 0 f0 rfl
  rw [a0,b0,K.cTs] at h0
  rw [a0] at w0
  obtain ⟨l,v,g3,g4,e3,g5⟩:=open_slc (enc':=tyC) (good:=OkT) K.tys K.cT (by decide) (fun _=>rfl) K.bT w0 (fun k _ cs x hw h=>open_ty K hw h) h0
  refine ⟨l,⟨g4,g3⟩,?_⟩
  have hc:(Value.agg vs).cells.toList=vs.toList:=by simp [Value.cells]
  rw [hc] at hl e3
  have hvs:vs.toList=[v]:=by
    match hq:vs.toList,hl with
    | [c],_=>rw [hq] at e3;simpa using e3
  refine .agg _ vs (by rw [← Array.length_toList,hvs];rfl) fun i u hi=>?_
  match i,hi with
  | 0,hi=>
    simp at hi
    subst hi
    have:vs.getD 0 undef=v:=by
      have h9:vs=#[v]:=by
        apply Array.toList_inj.1
        rw [hvs]
      rw [h9];rfl
    rw [this]
    exact g5
end
end Go.HL
set_option linter.unusedVariables false
set_option linter.unusedSimpArgs false
namespace Go.HL
open Nat renaming reduceAdd→zA,reduceLeDiff→zB,reduceLT→zC,reduceSub→zD,reduceMul→zE,reduceEqDiff→zF,reduceBEq→zG
open Int renaming reduceAdd→zH,reduceToNat→zI
open Go.ChangeShapes Go.WideShapes Go.RowKit
theorem below_of {R R':Nat→Prop} {S':Store} {w w':World} (h:Step R emp w R' S' w'):Below w.heap.size w w':=⟨h.os,h.tape,h.output,h.size,fun k hk=>(h.keep k hk rfl).1⟩
theorem sim_old (w:World):Sim (Old w) emp w:=⟨fun b o h=>(by cases h),fun b h=>⟨rfl,h⟩⟩
theorem call_true {f:Nat} {args:List AV} {vs:Array Value} {w:World} (hok:callOk PG f=true) (h:AFun PG f args (.bool true)) (hv:RVs (Old w) w args vs.toList):Calls PG f vs w fun en w'=>en=.returned (.bool true)∧Below w.heap.size w w':=by
  refine ((h emp (Old w) w vs (sim_old w) hv).calls hok).mono fun en w' ⟨R',S',ae,h1,h2,h3,h4⟩=>?_
  obtain ⟨rfl,rfl⟩:=h2
  cases en with
  | returned v=>
    have h1:RV R' w' (.bool true) v:=h1
    cases h1
    exact ⟨rfl,below_of h4⟩
  | _=>exact h1.elim
section
variable {H:Type} {enc:TypeId×Value→H} {P:Program}
theorem trodAll_stays {W W':World} (hl:laidOutB P=true) (hb:Below W.heap.size W W') {sp':Nat→Bool}:∀ {ts:List TypeId} {vs:List Value} {ds:List (DataW H)} {ps:List MemPlace},(∀ t∈ts,P.readableRec t=true∧t<P.types.size)→DataW.TrodAll enc P W 0 (fun _=>true) true ts vs ds ps →
    (∀ p∈ps,p.block<W.heap.size)→(∀ p∈ps,sp' p.block=true)→DataW.TrodAll enc P W' 0 sp' true ts vs ds ps
  | [],vs,ds,ps,_,h,_,_=>by
    obtain ⟨rfl,rfl,rfl⟩:=trodAll_nil h
    exact trodAll_mk0
  | t :: ts,vs,ds,ps,ht,h,h1,h2=>by
    obtain ⟨v,vs1,d,ds1,a,b,rfl,rfl,rfl,k1,k2⟩:=trodAll_cons h
    have ht0:=ht t (by simp)
    exact ⟨a,b,WideElems.Trod_stays hl ht0.1 ht0.2 k1 (fun p hp=>hb.same (h1 p (List.mem_append_left _ hp))) (fun p hp=>h2 p (List.mem_append_left _ hp)),
      trodAll_stays hl hb (fun t h=>ht t (List.mem_cons_of_mem _ h)) k2 (fun p hp=>h1 p (List.mem_append_right _ hp)) (fun p hp=>h2 p (List.mem_append_right _ hp)),rfl⟩
theorem post_kept {f:Func} {s:ChangeSpec} {apart fresh handsOn again:Bool} {W W':World} {args:Array Value} {ds gs:List (DataW H)} {before:List MemPlace} {tb:TypeId}
    (hl:laidOutB P=true) (hts:∀ t∈f.params.toList,P.readableRec t=true∧t<P.types.size) (hvars:s.vars=[])
    (hW:DataW.Whole enc P f.params.toList s.vars apart W args.toList ds gs before) (hfn:(s.fn H (ds++gs)).results=[.lit (.bool true)]∧(s.fn H (ds++gs)).args=ds∧(s.fn H (ds++gs)).vars=[])
    (hr:f.resultTypes=#[tb]) (hb:P.underlying tb=some .bool) (hB:Below W.heap.size W W'):s.post enc P f apart fresh handsOn again W args (.bool true) W':=by
  have hlt:=hW.lt
  have hW0:=hW
  obtain ⟨p,q,hA,hV,rfl,hz,hn⟩:=hW
  rw [hvars] at hV
  obtain ⟨rfl,rfl⟩:=trodVars_none hV
  rw [List.append_nil] at *
  obtain ⟨e1,e2,e3⟩:=hfn
  have hold:∀ x∈p,(fun b=>decide (b<W.heap.size)) x.block=true:=fun x hx=>by simpa using hlt x hx
  have hres:∀ (b:Nat) (sp:Nat→Bool) (hd:Bool),DataW.TrodAll enc P W' b sp hd f.resultTypes.toList ((Value.bool true).resultList f.resultTypes.size) [.lit (.bool true)] []:=fun b sp hd=>by
    rw [hr]
    exact trodAll_mk1 (shut_bool hb true)
  refine ⟨ds,[],p,[],p,[],hW0,by rw [List.append_nil,e1];exact hres _ _ _,by rw [List.append_nil,e2];exact trodAll_stays hl hB hts hA hlt hold,by rw [List.append_nil,hvars,e3];exact rfl,hB.frame _,fun _=>?_⟩
  refine ⟨ok_one hr rfl (okWide_bool_mk hb true),_,[],([]++p)++[],⟨[]++p,[],trodAll_append (trodAll_stays hl hB hts hA hlt (fun _ _=>rfl)) (hres _ _ _),by rw [hvars];exact rfl,rfl,?_,?_⟩,?_⟩
  · intro b off hp
    have hp:MemPlace.cell b off∈p:=by simpa using hp
    rw [hB.frozen (p:=⟨b,off,none⟩) (hlt _ hp)]
    exact hz b off hp
  · intro ha
    simpa using hn ha
  · intro x hx _
    simpa using hx
end
end Go.HL
set_option linter.unusedVariables false
set_option linter.unusedSimpArgs false
namespace Go.HL
open Nat renaming reduceAdd→zA,reduceLeDiff→zB,reduceLT→zC,reduceSub→zD,reduceMul→zE,reduceEqDiff→zF,reduceBEq→zG
open Int renaming reduceAdd→zH,reduceToNat→zI
structure TuT (P:Program) (tL tU tD tO tN:TypeId):Prop where
  str:P.underlying tN=some .string
  ob:∃ f0 f1,P.underlying tO=some (.struct #[f0,f1])∧f0.type=tN∧f0.offset=0∧f1.type=tN∧f1.offset=1
  nd:∃ f0 f1,P.underlying tD=some (.struct #[f0,f1])∧f0.type=tO∧f0.offset=0∧f1.type=tN∧f1.offset=2
  tu:∃ f0 f1 f2,P.underlying tU=some (.struct #[f0,f1,f2])∧f0.type=tO∧f0.offset=0∧f1.type=tN∧f1.offset=2∧f2.type=tD∧f2.offset=3
  tus:P.underlying tL=some (.slice tU)
  cN:P.cellsOf tN=1
  cO:P.cellsOf tO=2
  cD:P.cellsOf tD=3
  cU:P.cellsOf tU=6
  bU:1≤P.bytesOf tU
section
variable {H:Type} {enc:TypeId×Value→H} {P:Program} {w:World} {sp:Nat→Bool} {held:Bool} {tL tU tD tO tN:TypeId} (K:TuT P tL tU tD tO tN)
include K
theorem open_ob {n:Nat} {cs:List Value} {x:DataW H×List MemPlace} (hw:Wt P tO x.1) (h:DataW.trod enc P w 0 sp held n tO cs=some x):∃ o:Ob,OkO o∧cs=[.string o.ty,.string o.id]:=by
  obtain ⟨f0,f1,hu,a0,b0,a1,b1⟩:=K.ob
  obtain ⟨hl,m,rfl,hf⟩:=open_stc hu hw h
  rw [K.cO] at hl
  obtain ⟨c0,c1,rfl⟩:∃ c0 c1,cs=[c0,c1]:=by
    match cs,hl with
    | [c0,c1],_=>exact ⟨_,_,rfl⟩
  obtain ⟨y0,w0,h0⟩:=hf 0 f0 rfl
  obtain ⟨y1,w1,h1⟩:=hf 1 f1 rfl
  rw [a0,b0,K.cN] at h0
  rw [a1,b1,K.cN] at h1
  rw [a0] at w0
  rw [a1] at w1
  obtain ⟨s1,g1,e1⟩:=open_str K.str w0 h0
  obtain ⟨s2,g2,e2⟩:=open_str K.str w1 h1
  simp at e1 e2
  subst e1;subst e2
  exact ⟨⟨s1,s2⟩,⟨g1,g2⟩,rfl⟩
theorem open_nd {n:Nat} {cs:List Value} {x:DataW H×List MemPlace} (hw:Wt P tD x.1) (h:DataW.trod enc P w 0 sp held n tD cs=some x):∃ o:Nd,OkD o∧cs=[.string o.o.ty,.string o.o.id,.string o.rl]:=by
  obtain ⟨f0,f1,hu,a0,b0,a1,b1⟩:=K.nd
  obtain ⟨hl,m,rfl,hf⟩:=open_stc hu hw h
  rw [K.cD] at hl
  obtain ⟨c0,c1,c2,rfl⟩:∃ c0 c1 c2,cs=[c0,c1,c2]:=by
    match cs,hl with
    | [c0,c1,c2],_=>exact ⟨_,_,_,rfl⟩
  obtain ⟨y0,w0,h0⟩:=hf 0 f0 rfl
  obtain ⟨y1,w1,h1⟩:=hf 1 f1 rfl
  rw [a0,b0,K.cO] at h0
  rw [a1,b1,K.cN] at h1
  rw [a0] at w0
  rw [a1] at w1
  obtain ⟨o,g1,e1⟩:=open_ob K w0 h0
  obtain ⟨s2,g2,e2⟩:=open_str K.str w1 h1
  simp at e1 e2
  obtain ⟨rfl,rfl⟩:=e1
  subst e2
  exact ⟨⟨o,s2⟩,⟨g1,g2⟩,rfl⟩
theorem open_tu {n:Nat} {cs:List Value} {x:DataW H×List MemPlace} (hw:Wt P tU x.1) (h:DataW.trod enc P w 0 sp held n tU cs=some x):∃ t:Tu,OkU t∧RVs (Old w) w (tuC t) cs:=by
  obtain ⟨f0,f1,f2,hu,a0,b0,a1,b1,a2,b2⟩:=K.tu
  obtain ⟨hl,m,rfl,hf⟩:=open_stc hu hw h
  rw [K.cU] at hl
  obtain ⟨c0,c1,c2,c3,c4,c5,rfl⟩:∃ c0 c1 c2 c3 c4 c5,cs=[c0,c1,c2,c3,c4,c5]:=by
    match cs,hl with
    | [c0,c1,c2,c3,c4,c5],_=>exact ⟨_,_,_,_,_,_,rfl⟩
  obtain ⟨y0,w0,h0⟩:=hf 0 f0 rfl
  obtain ⟨y1,w1,h1⟩:=hf 1 f1 rfl
  obtain ⟨y2,w2,h2⟩:=hf 2 f2 rfl
  rw [a0,b0,K.cO] at h0
  rw [a1,b1,K.cN] at h1
  rw [a2,b2,K.cD] at h2
  rw [a0] at w0
  rw [a1] at w1
  rw [a2] at w2
  obtain ⟨o,g1,e1⟩:=open_ob K w0 h0
  obtain ⟨r,g2,e2⟩:=open_str K.str w1 h1
  obtain ⟨s,g3,e3⟩:=open_nd K w2 h2
  simp at e1 e2 e3
  obtain ⟨rfl,rfl⟩:=e1
  subst e2
  obtain ⟨rfl,rfl,rfl⟩:=e3
  exact ⟨⟨o,r,s⟩,⟨g1,g2,g3⟩,.cons (.str _) (.cons (.str _) (.cons (.str _) (.cons (.str _) (.cons (.str _) (.cons (.str _) .nil)))))⟩
theorem open_obj {v:Value} {d:DataW H} {ps:List MemPlace} (hw:Wt P tO d) (h:DataW.Trod enc P w 0 sp held tO v d ps) (hv:∃ vs,v=.agg vs):∃ o:Ob,OkO o∧RV (Old w) w (.agg (obC o)) v:=by
  obtain ⟨n,h⟩:=h
  obtain ⟨vs,rfl⟩:=hv
  obtain ⟨o,g,e⟩:=open_ob K (x:=(d,ps)) hw h
  have hc:(Value.agg vs).cells.toList=vs.toList:=by simp [Value.cells]
  rw [hc] at e
  have h9:vs=#[.string o.ty,.string o.id]:=Array.toList_inj.1 (by rw [e])
  subst h9
  refine ⟨o,g,.agg _ _ rfl fun i u hi=>?_⟩
  match i,hi with
  | 0,hi=>simp [obC] at hi;subst hi;exact .str _
  | 1,hi=>simp [obC] at hi;subst hi;exact .str _
theorem open_tus {v:Value} {d:DataW H} {ps:List MemPlace} (hw:Wt P tL d) (h:DataW.Trod enc P w 0 sp held tL v d ps) (hv:∃ a b c,v=.slice a b c):∃ l:List Tu,(∀ t∈l,OkU t)∧RV (Old w) w (.sl 6 (l.map tuC)) v:=by
  obtain ⟨n,h⟩:=h
  obtain ⟨a,b,c,rfl⟩:=hv
  obtain ⟨l,v,g1,g2,e,g3⟩:=open_slc (enc':=tuC) (good:=OkU) (x:=(d,ps)) K.tus K.cU (by decide) (fun _=>rfl) K.bU hw (fun k _ cs x hw h=>open_tu K hw h) h
  have:v=.slice a b c:=by
    have:=congrArg List.head? e
    simpa [Value.cells] using this.symm
  subst this
  exact ⟨l,g1,g3⟩
end
end Go.HL
set_option linter.unusedVariables false
namespace Go.Proofs.YtadmdlpmikoghaaGreat
open Go.ChangeShapes Go.WideShapes Go.ChangeAt Go.RowKit Go.HL
theorem own:ownKnob Tryz.prog.godebug=none:=by kernel_rfl
theorem laidOut:laidOutB Tryz.prog=true:=by kernel_rfl
theorem scT:ScT Tryz.prog 24 22 46 44 53 48 171 51 49 3 9 where
  int:=Tryz.underlying3
  str:=Tryz.underlying9
  ex:=⟨_,_,_,_,Tryz.underlying51,rfl,rfl,rfl,rfl,rfl,rfl,rfl,rfl⟩
  exs:=Tryz.underlying49
  rf:=⟨_,_,Tryz.underlying171,rfl,rfl,rfl,rfl⟩
  rfs:=Tryz.underlying48
  rl:=⟨_,_,_,Tryz.underlying53,rfl,rfl,rfl,rfl,rfl,rfl⟩
  rls:=Tryz.underlying44
  ty:=⟨_,_,Tryz.underlying46,rfl,rfl,rfl,rfl⟩
  tys:=Tryz.underlying22
  sc:=⟨_,Tryz.underlying24,rfl,rfl⟩
  cI:=by kernel_rfl
  cN:=by kernel_rfl
  cE:=by kernel_rfl
  cEs:=by kernel_rfl
  cF:=by kernel_rfl
  cFs:=by kernel_rfl
  cR:=by kernel_rfl
  cRs:=by kernel_rfl
  cT:=by kernel_rfl
  cTs:=by kernel_rfl
  cS:=by kernel_rfl
  bE:=of_decide_eq_true (by kernel_rfl)
  bF:=of_decide_eq_true (by kernel_rfl)
  bR:=of_decide_eq_true (by kernel_rfl)
  bT:=of_decide_eq_true (by kernel_rfl)
theorem tuT:TuT Tryz.prog 25 41 39 27 9 where
  str:=Tryz.underlying9
  ob:=⟨_,_,Tryz.underlying27,rfl,rfl,rfl,rfl⟩
  nd:=⟨_,_,Tryz.underlying39,rfl,rfl,rfl,rfl⟩
  tu:=⟨_,_,_,Tryz.underlying41,rfl,rfl,rfl,rfl,rfl,rfl⟩
  tus:=Tryz.underlying25
  cN:=by kernel_rfl
  cO:=by kernel_rfl
  cD:=by kernel_rfl
  cU:=by kernel_rfl
  bU:=of_decide_eq_true (by kernel_rfl)
theorem weights_one {H:Type} {P:Program} {t:TypeId} {d:DataW H} {ts:List TypeId} {ds:List (DataW H)} (h:(DataW.weightsEach P (t :: ts) (d :: ds)).all (·≤reachBytes)=true):Wt P t d∧(DataW.weightsEach P ts ds).all (·≤reachBytes)=true:=by
  simp only [DataW.weightsEach,List.all_append,Bool.and_eq_true,List.all_eq_true,decide_eq_true_eq] at h
  refine ⟨h.1,?_⟩
  rw [List.all_eq_true]
  exact fun x hx=>decide_eq_true (h.2 x hx)
theorem trodAll_six {H:Type} {enc:TypeId×Value→H} {P:Program} {w:World} {base:Nat} {spare:Nat→Bool} {held:Bool} {t0 t1 t2 t3 t4 t5:TypeId} {args:Array Value} {ds:List (DataW H)} {ps:List MemPlace} (h:DataW.TrodAll enc P w base spare held [t0,t1,t2,t3,t4,t5] args.toList ds ps) :
    ∃ v0 v1 v2 v3 v4 v5 d0 d1 d2 d3 d4 d5 p0 p1 p2 p3 p4 p5,args=#[v0,v1,v2,v3,v4,v5]∧ds=[d0,d1,d2,d3,d4,d5]∧ps=p0++(p1++(p2++(p3++(p4++(p5)))))∧DataW.Trod enc P w base spare held t0 v0 d0 p0∧DataW.Trod enc P w base spare held t1 v1 d1 p1∧DataW.Trod enc P w base spare held t2 v2 d2 p2∧DataW.Trod enc P w base spare held t3 v3 d3 p3∧DataW.Trod enc P w base spare held t4 v4 d4 p4∧DataW.Trod enc P w base spare held t5 v5 d5 p5:=by
  obtain ⟨v0,vs0,d0,ds0,p0,q0,hargs,rfl,rfl,h0,g0⟩:=trodAll_cons h
  obtain ⟨v1,vs1,d1,ds1,p1,q1,rfl,rfl,rfl,h1,g1⟩:=trodAll_cons g0
  obtain ⟨v2,vs2,d2,ds2,p2,q2,rfl,rfl,rfl,h2,g2⟩:=trodAll_cons g1
  obtain ⟨v3,vs3,d3,ds3,p3,q3,rfl,rfl,rfl,h3,g3⟩:=trodAll_cons g2
  obtain ⟨v4,vs4,d4,ds4,p4,q4,rfl,rfl,rfl,h4,g4⟩:=trodAll_cons g3
  obtain ⟨v5,vs5,d5,ds5,p5,q5,rfl,rfl,rfl,h5,g5⟩:=trodAll_cons g4
  obtain ⟨rfl,rfl,rfl⟩:=trodAll_nil g5
  exact ⟨v0,v1,v2,v3,v4,v5,d0,d1,d2,d3,d4,d5,p0,p1,p2,p3,p4,p5,by cases args;simp_all,rfl,by simp,h0,h1,h2,h3,h4,h5⟩
end Go.Proofs.YtadmdlpmikoghaaGreat
set_option linter.unusedVariables false
namespace Go.Proofs.YtadmdlpmikoghaaGreat
open Go.ChangeShapes Go.WideShapes Go.ChangeAt Go.RowKit Go.HL
set_option maxRecDepth 100000 in
theorem engineHolds_lifted (os:Os) (started:os.Started) (H:Type) (enc:TypeId×Value→H) :
    ReturnsInHanded {} Tryz.checked os 4 .any (fun w args=>(Rows.engineHoldsSpec.pre enc Tryz.prog Tryz.f4 Rows.engineHoldsRow.domain false w args∧True)∧sizedMet enc Tryz.prog Tryz.f4 (OpenSpec.ofChange Rows.engineHoldsSpec) false w args)
      (Rows.engineHoldsSpec.post enc Tryz.prog Tryz.f4 false true false false):=by
  refine returnsInHanded_of_change_and (C:=Tryz.checked) (X:=fun _ _=>True) (fun _ _ _ _ h=>h) own started (by kernel_rfl) Tryz.func4
    (by
      obtain ⟨w,t,i,h1,h2,h3,h4,h5,h6⟩:=ChangeSpec.witness6 (enc:=enc) (C:=Tryz.checked) (os:=os) (f:=4) (fn:=Tryz.f4) (s:=Rows.engineHoldsSpec) (conds:=Rows.engineHoldsRow.domain) (apart:=false) false ⟨#[],#[.agg #[.slice none 0 0],.slice none 0 0,.agg #[.string ⟨#[]⟩,.string ⟨#[]⟩],.string ⟨#[]⟩,.agg #[.string ⟨#[]⟩,.string ⟨#[]⟩],.int .i64 0],[]⟩ 8 (by kernel_rfl) (by kernel_rfl) (by kernel_rfl) (by kernel_rfl)
      exact ⟨w,t,i,h1,h2,h3,h4,⟨⟨h5.1,trivial⟩,h5.2⟩,h6⟩) ?_
  intro W base args ds gs before hval0 hW hcnd hsz0 _ _
  have hval:∀ (j:Nat) t v,Tryz.f4.params[j]?=some t→args[j]?=some v→Value.okWide Tryz.prog W .any base t v:=hval0
  have hsz:(DataW.weightsEach Tryz.prog (Tryz.f4.params.toList++[]) (ds++gs)).all (·≤reachBytes)=true:=hsz0
  have hW':=hW
  obtain ⟨p,q,hA0,hV,rfl,hfz,hnd⟩:=hW
  have hA:DataW.TrodAll enc Tryz.prog W 0 (fun _=>true) true Tryz.f4.params.toList args.toList ds p:=hA0
  rw [Tryz.params4] at hA hval hsz
  obtain ⟨v0,v1,v2,v3,v4,v5,d0,d1,d2,d3,d4,d5,p0,p1,p2,p3,p4,p5,rfl,rfl,rfl,h0,h1,h2,h3,h4,h5⟩:=trodAll_six hA
  obtain ⟨rfl,rfl⟩:=trodVars_none hV
  obtain ⟨w0,hsz⟩:=weights_one hsz
  obtain ⟨w1,hsz⟩:=weights_one hsz
  obtain ⟨w2,hsz⟩:=weights_one hsz
  obtain ⟨-,hsz⟩:=weights_one hsz
  obtain ⟨w4,hsz⟩:=weights_one hsz
  obtain ⟨-,hsz⟩:=weights_one hsz
  obtain ⟨vs0,hvs0,-⟩:=okWide_struct Tryz.underlying24 (hval 0 24 v0 rfl rfl)
  obtain ⟨a0,hs0,hv0⟩:=open_sc scT w0 h0 ⟨vs0,hvs0⟩
  obtain ⟨a1,hs1,hv1⟩:=open_tus tuT w1 h1 (okWide_slice Tryz.underlying25 (hval 1 25 v1 rfl rfl))
  obtain ⟨vs2,hvs2,-⟩:=okWide_struct Tryz.underlying27 (hval 2 27 v2 rfl rfl)
  obtain ⟨a2,hs2,hv2⟩:=open_obj tuT w2 h2 ⟨vs2,hvs2⟩
  obtain ⟨a3,rfl,-,-,-⟩:=Go.ChangeMaps.open_string Tryz.underlying9 (hval 3 9 v3 rfl rfl) h3
  obtain ⟨vs4,hvs4,-⟩:=okWide_struct Tryz.underlying27 (hval 4 27 v4 rfl rfl)
  obtain ⟨a4,hs4,hv4⟩:=open_obj tuT w4 h4 ⟨vs4,hvs4⟩
  obtain ⟨a5,rfl,rfl,rfl,-⟩:=Go.ChangeShapes.open_int Tryz.underlying3 (hval 5 3 v5 rfl rfl) h5
  clear hA0 hval0 hsz0
  refine (call_true (by kernel_rfl) (c_EngineHolds hs0 hs1 a2 a3 a4 a5) (vs:=#[v0,v1,v2,.string a3,v4,.int .i64 a5]) (.cons hv0 (.cons hv1 (.cons hv2 (.cons (.str _) (.cons hv4 (.cons (.int _ _) .nil))))))).mono fun e W' ⟨he,hB⟩=>?_
  subst he
  have hts:(Tryz.f4.params.toList.all fun t=>Tryz.prog.readableRec t&&decide (t<Tryz.prog.types.size))=true:=by kernel_rfl
  exact ⟨_,rfl,post_kept laidOut (fun t ht=>by have h:=List.all_eq_true.1 hts t ht;rw [Bool.and_eq_true] at h;exact ⟨h.1,of_decide_eq_true h.2⟩) rfl hW' ⟨rfl,rfl,rfl⟩ (tb:=4) (by kernel_rfl) Tryz.underlying4 hB⟩
set_option maxRecDepth 100000 in
theorem engineHolds_p0:(Rows.engineHoldsRow.inPlace==Tryz.pinned.checked.prog.inPlace 4)=true:=by kernel_rfl
set_option maxRecDepth 100000 in
theorem engineHolds_p1:(Rows.engineHoldsRow.unfollowed==Tryz.pinned.checked.prog.unfollowed 4)=true:=by kernel_rfl
set_option maxRecDepth 100000 in
theorem engineHolds_p2:(Rows.engineHoldsRow.recurses==Tryz.pinned.checked.prog.recurses 4)=true:=by kernel_rfl
set_option maxRecDepth 100000 in
theorem engineHolds_p3:(Rows.engineHoldsRow.named==Tryz.pinned.checked.prog.varsNamed 4)=true:=by kernel_rfl
set_option maxRecDepth 100000 in
theorem engineHolds_p4:laidOutB Tryz.pinned.checked.prog=true:=by kernel_rfl
set_option maxRecDepth 100000 in
theorem engineHolds_p5:mapsRowed Tryz.pinned.checked.prog=true:=by kernel_rfl
set_option maxRecDepth 100000 in
theorem engineHolds_p6:Tryz.pinned.checked.prog.stopsHeard=true:=by kernel_rfl
set_option maxRecDepth 100000 in
theorem engineHolds_p7:Tryz.pinned.checked.prog.mayEnter=true:=by kernel_rfl
set_option maxRecDepth 100000 in
theorem engineHolds_closed:joinedFacts Tryz.pinned.checked.prog 4 Tryz.f4 Rows.engineHoldsSpec Rows.engineHoldsRow=true:=by
  unfold joinedFacts
  rw [engineHolds_p0,engineHolds_p1,engineHolds_p2,engineHolds_p3,engineHolds_p4,engineHolds_p5,engineHolds_p6,engineHolds_p7]
  kernel_rfl
theorem engineHolds_holds:Rows.EngineHoldsSaid:=
  OpenClaim.holds_of_wide 4 Tryz.f4 rfl rfl rfl rfl rfl rfl rfl ⟨rfl,rfl,rfl,rfl,rfl⟩ rfl rfl rfl rfl rfl (by kernel_rfl) Tryz.func4 engineHolds_closed
    (of_decide_eq_true (by kernel_rfl)) (by unfold Func.isWrapper;first | (rw [if_pos (by decide +kernel)];kernel_rfl) | (rw [if_neg (by decide +kernel)];exact ⟨rfl,rfl⟩))
    (fun os started H enc _=>by
      have h:=engineHolds_lifted os started H enc
      simp only [and_true] at h
      exact h)
end Go.Proofs.YtadmdlpmikoghaaGreat
