/- The law EngineChecks returns true for every input and leaves it as it was; no conditions. -/
import Derived.Test.YtadmdlpmikoghaaGreatKcM2
import Derived.Test.YtadmdlpmikoghaaGreatKcHlS3
import Derived.Test.YtadmdlpmikoghaaGreatKcHlS6
import Derived.Test.YtadmdlpmikoghaaGreatKcHlS9
import Derived.Test.YtadmdlpmikoghaaGreatKcHlS1
import Derived.Test.YtadmdlpmikoghaaGreatKcHlS10
import Derived.Test.YtadmdlpmikoghaaGreatKcHlS2
import Derived.Test.YtadmdlpmikoghaaGreatKcHlS5
import Derived.Test.YtadmdlpmikoghaaGreatKcHlS8
import Derived.Test.YtadmdlpmikoghaaGreatKcHlS4
import Derived.Test.YtadmdlpmikoghaaGreatKcHlS7
import Derived.Test.YtadmdlpmikoghaaGreatKcHlS0
import Derived.Test.YtadmdlpmikoghaaGreatKcM1
import Derived.Test.YtadmdlpmikoghaaGreatKcHlL
import Derived.ProofKit
import Derived.Carry
import Derived.Handed
import Derived.Test.YtadmdlpmikoghaaGreatRows
set_option linter.unusedVariables false
set_option linter.unusedSimpArgs false
namespace Go.HL
open Nat (reduceLeDiff reduceLT reduceSub reduceMul reduceEqDiff)
structure RsSt (T:List Tk) (r:Rd) (p:List Rl×Rd):Prop where
  st:StepR T r p.2 0
  len:p.1.length≤p.2.at'
  ok:∀ x∈p.1,OkR x
  sz:p.2.de=0→∀ x∈p.1,rsz x≤p.2.at'
theorem rels_next {T:List Tk} (hT:OkTk T) {r0 r:Rd} (hp0:Pre T 12 r0) {l:List Rl} (h:RsSt T r0 (l,r)) :
    ((relP T r).1.2=true→RsSt T r0 (l++[(relP T r).1.1],(relP T r).2)∧r.at'+1≤(relP T r).2.at')∧RsSt T r0 (l,(relP T r).2):=by
  have hp:=h.st.pre hp0
  obtain ⟨h1,h2,h3⟩:=rel_ok hT hp
  have h5:=h.len
  have h6:=h1.mono
  dsimp only at h1 h5 h6 hp
  refine ⟨fun hf=>⟨⟨(h.st.trans h1).le (by omega),?_,fun x hx=>?_,fun h0 x hx=>?_⟩,h3 hf⟩,⟨(h.st.trans h1).le (by omega),by dsimp only;omega,h.ok,fun h0 x hx=>?_⟩⟩
  · have:=h3 hf
    dsimp only at this
    simp only [List.length_append,List.length_cons,List.length_nil]
    omega
  · rcases List.mem_append.1 hx with hx | hx
    · exact h.ok x hx
    · rw [List.mem_singleton.1 hx];exact h2
  · dsimp only at h0 ⊢
    rcases List.mem_append.1 hx with hx | hx
    · have:=h.sz (h1.fault h0) x hx
      dsimp only at this
      omega
    · rw [List.mem_singleton.1 hx]
      have:=h1.sz h0
      rw [if_pos hf] at this
      omega
  · dsimp only at h0 ⊢
    have:=h.sz (h1.fault h0) x hx
    dsimp only at this
    omega
theorem relsL_ok {T:List Tk} (hT:OkTk T) {r0:Rd} (hp0:Pre T 12 r0):∀ {f:Nat} {p:List Rl×Rd},RsSt T r0 p→RsSt T r0 (relsL T f p)
  | 0,p,h=>h
  | f+1,(l,r),h=>by
    obtain ⟨k1,k2⟩:=rels_next hT hp0 h
    unfold relsL
    split
    · rename_i hi
      exact relsL_ok hT hp0 (k1 hi).1
    · exact k2
theorem relsL_more {T:List Tk} (hT:OkTk T) {r0:Rd} (hp0:Pre T 12 r0):∀ {f g:Nat} {p:List Rl×Rd},RsSt T r0 p→T.length≤f+p.2.at'→T.length≤g+p.2.at'→relsL T f p=relsL T g p
  | 0,g,p,h,h1,h2=>by have h3:p.2.at'<T.length:=h.st.inr;omega
  | f+1,0,p,h,h1,h2=>by have h3:p.2.at'<T.length:=h.st.inr;omega
  | f+1,g+1,(l,r),h,h1,h2=>by
    dsimp only at h1 h2
    obtain ⟨k1,k2⟩:=rels_next hT hp0 h
    unfold relsL
    split
    · rename_i hi
      obtain ⟨k3,k4⟩:=k1 hi
      exact relsL_more hT hp0 k3 (by dsimp only;omega) (by dsimp only;omega)
    · rfl
structure TsSt (T:List Tk) (p:List Ty×Rd):Prop where
  pre:Pre T 12 p.2
  len:p.1.length≤p.2.at'
  ok:∀ t∈p.1,OkT t
  sz:p.2.de=0→∀ t∈p.1,∀ x∈t.rels,rsz x≤p.2.at'
theorem types_next {T:List Tk} (hT:OkTk T) {l:List Ty} {r:Rd} (h:TsSt T (l,r)) (hi:isP T wType r=true) :
    Pre T 12 (isR T wType r)∧Pre T 12 (nameR T (isR T wType r))∧RsSt T (nameR T (isR T wType r)) (relsL T T.length ([],nameR T (isR T wType r))) ∧
    TsSt T (l++[⟨nameP T (isR T wType r),(relsL T T.length ([],nameR T (isR T wType r))).1⟩],(relsL T T.length ([],nameR T (isR T wType r))).2)∧r.at'+1≤(relsL T T.length ([],nameR T (isR T wType r))).2.at':=by
  have hp:Pre T 12 r:=h.pre
  have h1:=is_step hT hp hi (by decide +kernel) (by decide +kernel)
  have hp1:=h1.pre hp
  have h2:=name_step hT hp1
  have hp2:=h2.pre hp1
  have e1:(isR T wType r).at'=r.at'+1:=by rw [isR,if_pos hi]
  have hR:=relsL_ok hT hp2 (f:=T.length) (p:=([],nameR T (isR T wType r))) ⟨StepR.refl hp2,Nat.zero_le _,fun x hx=>(by cases hx),fun _ x hx=>(by cases hx)⟩
  have hn:=name_size hT hp1.inr
  generalize relsL T T.length ([],nameR T (isR T wType r))=p at hR
  obtain ⟨rs,r3⟩:=p
  have m1:=h2.mono
  have m2:=hR.st.mono
  have m3:=hR.len
  have m4:=h.len
  have hin:r3.at'<T.length:=hR.st.inr
  have hTl:=hT.len
  dsimp only at m2 m3 m4 ⊢
  refine ⟨hp1,hp2,hR,⟨hR.st.pre hp2,?_,fun t ht=>?_,fun h0 t ht x hx=>?_⟩,by omega⟩
  · simp only [List.length_append,List.length_cons,List.length_nil];omega
  · rcases List.mem_append.1 ht with ht | ht
    · exact h.ok t ht
    · rw [List.mem_singleton.1 ht]
      exact ⟨hn,by dsimp only;omega,hR.ok⟩
  · dsimp only at h0 ⊢
    rcases List.mem_append.1 ht with ht | ht
    · have:=h.sz (h1.fault (h2.fault (hR.st.fault h0))) t ht x hx
      dsimp only at this
      omega
    · rw [List.mem_singleton.1 ht] at hx
      exact hR.sz h0 x hx
theorem typesL_ok {T:List Tk} (hT:OkTk T):∀ {f:Nat} {p:List Ty×Rd},TsSt T p→TsSt T (typesL T f p)
  | 0,p,h=>h
  | f+1,(l,r),h=>by
    unfold typesL
    split
    · rename_i hi
      exact typesL_ok hT (types_next hT h hi).2.2.2.1
    · exact h
theorem typesL_more {T:List Tk} (hT:OkTk T):∀ {f g:Nat} {p:List Ty×Rd},TsSt T p→T.length≤f+p.2.at'→T.length≤g+p.2.at'→typesL T f p=typesL T g p
  | 0,g,p,h,h1,h2=>by have h3:p.2.at'<T.length:=h.pre.inr;omega
  | f+1,0,p,h,h1,h2=>by have h3:p.2.at'<T.length:=h.pre.inr;omega
  | f+1,g+1,(l,r),h,h1,h2=>by
    dsimp only at h1 h2
    unfold typesL
    split
    · rename_i hi
      obtain ⟨-,-,-,k3,k4⟩:=types_next hT h hi
      exact typesL_more hT k3 (by dsimp only;omega) (by dsimp only;omega)
    · rfl
theorem pre0 {T:List Tk} (h:0<T.length):Pre T 12 rd0:=⟨h,by decide,by decide,fun _=>by decide⟩
theorem ts0 {T:List Tk} (h:0<T.length):TsSt T ([],rd0):=⟨pre0 h,Nat.zero_le _,fun t ht=>(by cases ht),fun _ t ht=>(by cases ht)⟩
theorem end_step {T:List Tk} {r:Rd} (hp:Pre T 12 r):StepR T r (endR T r) 0:=by
  unfold endR
  split
  · exact fail_step _ (by decide) 0 (StepR.refl hp)
  · exact StepR.refl hp
theorem parseT_ok {T:List Tk} (hT:OkTk T) (h:0<T.length):OkS (parseT T).1∧∀ t∈(parseT T).1,∀ x∈t.rels,rsz x≤T.length:=by
  have hR:=typesL_ok hT (f:=T.length) (ts0 h)
  have hin:(typesL T T.length ([],rd0)).2.at'<T.length:=hR.pre.inr
  have hl:=hR.len
  have hTl:=hT.len
  unfold parseT
  split
  · rename_i h0
    refine ⟨⟨by dsimp only;omega,hR.ok⟩,fun t ht x hx=>?_⟩
    have:=hR.sz ((end_step hR.pre).fault h0) t ht x hx
    omega
  · exact ⟨⟨Nat.zero_le _,fun t ht=>(by cases ht)⟩,fun t ht=>(by cases ht)⟩
end Go.HL
set_option linter.unusedVariables false
set_option linter.unusedSimpArgs false
set_option maxRecDepth 4000
namespace Go.HL
open Nat (reduceLeDiff reduceLT reduceSub reduceMul reduceEqDiff)
def Apart (u v:AV):Prop:=∀ b off n cap,v=.own b off n cap→Aside u b
theorem LstN.keep {S0 S S':Store} {t sz:Nat} {u u' v:AV} {rows:List (List AV)} (h:LstN S0 S t sz v rows) (ha:Apart u v) (hk:∀ c o,sget S c=some o→Aside u c→sget S' c=some o∧Aside u' c):LstN S0 S' t sz v rows∧Apart u' v:=by
  obtain ⟨hr,⟨rfl,rfl⟩ | ⟨b,cap,rfl,h1,h2,h3⟩⟩:=h
  · exact ⟨.nil,fun b off n cap h=>by cases h⟩
  · obtain ⟨k1,k2⟩:=hk b _ h2 (ha b 0 _ _ rfl)
    exact ⟨⟨hr,.inr ⟨b,cap,rfl,h1,k1,h3⟩⟩,fun b' off n cap h=>by cases h;exact k2⟩
theorem Apart.symm {u v:AV} (h:Apart u v):Apart v u:=fun b off n cap hu b' off' n' cap' hv=>Ne.symm (h b' off' n' cap' hv b off n cap hu)
theorem apart_nils {v:AV}:Apart .nils v:=fun b off n cap _=>aside_nils
structure PrI (S:Store) (bR b2 b3 b5:Nat) (T:List Tk) (v:AV) (p:List Ty×Rd) (S':Store):Prop where
  rd:sget S' bR=some (rdO T p.2)
  c2:sget S' b2=some (.cells 24 [.nils] 1)
  c3:sget S' b3=some (.cells 82 [.int .i64 0,.int .i64 0,.int .i64 0] 3)
  c5:sget S' b5=some (.cells 24 [v] 1)
  lst:LstN S S' 46 2 v (p.1.map tyC)
  asd:∀ c∈[bR,b2,b3,b5],Aside v c
  sub:Sub S S'
theorem PrI.mv {S S':Store} {bR b2 b3 b5:Nat} {T:List Tk} {v:AV} {l:List Ty} {r:Rd} (h:PrI S bR b2 b3 b5 T v (l,r) S') (hd:[bR,b2,b3,b5].Nodup) (hR:sget S bR=none) (r':Rd):PrI S bR b2 b3 b5 T v (l,r') (supd S' bR (rdO T r')):=by
  simp only [List.nodup_cons,List.mem_cons,not_or,List.not_mem_nil,or_false,not_false_eq_true,List.nodup_nil,and_true] at hd
  obtain ⟨⟨n2,n3,n5⟩,⟨m3,m5⟩,l5⟩:=hd
  exact ⟨by rw [sget_supd,if_pos rfl],by rw [sget_supd,if_neg n2];exact h.c2,by rw [sget_supd,if_neg n3];exact h.c3,by rw [sget_supd,if_neg n5];exact h.c5,h.lst.upd (h.asd bR (by simp)) _,h.asd,h.sub.supd hR⟩
structure PrJ (S:Store) (bR b2 b3 b5 b6:Nat) (T:List Tk) (v u:AV) (nm:ByteArray) (l:List Ty) (p:List Rl×Rd) (S':Store):Prop where
  out:PrI S bR b2 b3 b5 T v (l,p.2) S'
  c6:sget S' b6=some (.cells 46 [.str nm,u] 2)
  ins:LstN S S' 53 6 u (p.1.map rlC)
  asd:∀ c∈[bR,b2,b3,b5,b6],Aside u c
  asd6:Aside v b6
  apt:Apart u v
theorem PrJ.mv {S S':Store} {bR b2 b3 b5 b6:Nat} {T:List Tk} {v u:AV} {nm:ByteArray} {l:List Ty} {rs:List Rl} {r:Rd} (h:PrJ S bR b2 b3 b5 b6 T v u nm l (rs,r) S') (hd:[bR,b2,b3,b5].Nodup) (h6:bR≠b6) (hR:sget S bR=none) (r':Rd):PrJ S bR b2 b3 b5 b6 T v u nm l (rs,r') (supd S' bR (rdO T r')):=
  ⟨h.out.mv hd hR r',by rw [sget_supd,if_neg h6];exact h.c6,h.ins.upd (h.asd bR (by simp)) _,h.asd,h.asd6,h.apt⟩
theorem PrJ.more {S S1:Store} {bR b2 b3 b5 b6:Nat} {T:List Tk} {v u:AV} {nm:ByteArray} {l:List Ty} {rs:List Rl} {r:Rd} (h:PrJ S bR b2 b3 b5 b6 T v u nm l (rs,r) S1) (hd6:∀ c∈[bR,b2,b3,b5],b6≠c) (k6:sget S b6=none) (x:Rl) (hlen:rs.length≤100000) {K:Store→Prop} (hK:∀ u' S3,PrJ S bR b2 b3 b5 b6 T v u' nm l (rs++[x],r) S3→K S3) :
    apW S1 53 6 104 u (.sl 6 [rlC x]) fun u' S2=>soW (objAt S2 b6) S2 1 b6 1 u' K:=by
  obtain ⟨⟨hrd,h2,h3,h5,hl,ha,hs⟩,hc6,hin,hau,ha6,hap⟩:=h
  dsimp only at hrd hl hin
  refine hin.app hs (xs:=[rlC x]) (fun r hr=>by rw [List.mem_singleton] at hr;subst hr;exact rlC_len x) (by rw [rlC_eq];rfl) (by simp;omega) ?_
  intro u' S2 k1 k2 k3
  obtain ⟨q6,q6a⟩:=k3 b6 _ hc6 (hau b6 (by simp))
  have hone:=k2.one
  have hac:aCells u'=[u']:=by cases u'<;>first | rfl | cases hone
  obtain ⟨j1,j2⟩:=hl.keep hap k3
  rw [objAt_some.2 q6,soW_some,hac]
  refine ⟨rfl,by simp,by simp [ones,hone],hK u' _ ⟨⟨?_,?_,?_,?_,j1.upd ha6 _,ha,k1.supd k6⟩,by rw [sget_supd,if_pos rfl];rfl,?_,fun c hc=>?_,ha6,j2⟩⟩
  · rw [sget_supd,if_neg (hd6 bR (by simp))];exact (k3 bR _ hrd (hau bR (by simp))).1
  · rw [sget_supd,if_neg (hd6 b2 (by simp))];exact (k3 b2 _ h2 (hau b2 (by simp))).1
  · rw [sget_supd,if_neg (hd6 b3 (by simp))];exact (k3 b3 _ h3 (hau b3 (by simp))).1
  · rw [sget_supd,if_neg (hd6 b5 (by simp))];exact (k3 b5 _ h5 (hau b5 (by simp))).1
  · simpa using k2.upd q6a _
  · simp only [List.mem_cons,List.not_mem_nil,or_false] at hc
    rcases hc with rfl | rfl | rfl | rfl | rfl
    · exact (k3 _ _ hrd (hau _ (by simp))).2
    · exact (k3 _ _ h2 (hau _ (by simp))).2
    · exact (k3 _ _ h3 (hau _ (by simp))).2
    · exact (k3 _ _ h5 (hau _ (by simp))).2
    · exact q6a
theorem Frs.app {S0 S:Store}:∀ {a a' b b':List AV},Frs S0 S a a'→Frs S0 S b b'→Frs S0 S (a++b) (a'++b')
  | [],[],b,b',_,h=>h
  | [],x :: r,b,b',h,_=>by cases h.1
  | x :: r,[],b,b',h,_=>by cases h.1
  | x :: r,y :: r',b,b',h,k=>.cons (h.2 0 x y rfl rfl) (Frs.app ⟨by simpa using h.1,fun i u u' h1 h2=>h.2 (i+1) u u' (by simpa using h1) (by simpa using h2)⟩ k)
theorem PrJ.typ {S S1:Store} {bR b2 b3 b5 b6:Nat} {T:List Tk} {v u:AV} {nm:ByteArray} {l:List Ty} {rs:List Rl} {r:Rd} (h:PrJ S bR b2 b3 b5 b6 T v u nm l (rs,r) S1) (hd:[bR,b2,b3,b5].Nodup) (hd6:∀ c∈[bR,b2,b3,b5],b6≠c) (hn:∀ c∈[bR,b2,b3,b5],sget S c=none) (hlen:l.length≤100000) {q:LE→Store→Prop} {le:LE} (hK:∀ v' S3,PrI S bR b2 b3 b5 T v' (l++[⟨nm,rs⟩],r) S3→q le S3) :
    apW S1 46 2 40 v (.sl 2 [[.str nm,u]]) fun v' S2=>soW (objAt S2 b5) S2 1 b5 0 v' fun S3=>rcW q le S3:=by
  obtain ⟨⟨hrd,h2,h3,h5,hl,ha,hs⟩,hc6,hin,hau,ha6,hap⟩:=h
  dsimp only at hrd hl hin
  have honeu:=hin.one
  refine hl.app hs (xs:=[[.str nm,u]]) (fun r hr=>by rw [List.mem_singleton] at hr;subst hr;rfl) (by simp [ones,honeu];rfl) (by simp;omega) ?_
  intro v' S2 k1 k2 k3
  obtain ⟨q5,q5a⟩:=k3 b5 _ h5 (ha b5 (by simp))
  obtain ⟨qR,qRa⟩:=k3 bR _ hrd (ha bR (by simp))
  obtain ⟨q2,q2a⟩:=k3 b2 _ h2 (ha b2 (by simp))
  obtain ⟨q3,q3a⟩:=k3 b3 _ h3 (ha b3 (by simp))
  obtain ⟨j1,j2⟩:=hin.keep hap.symm k3
  have hone:=k2.one
  have hac:aCells v'=[v']:=by cases v'<;>first | rfl | cases hone
  rw [objAt_some.2 q5,soW_some,hac]
  refine ⟨rfl,by simp,by simp [ones,hone],?_⟩
  simp only [List.nodup_cons,List.mem_cons,not_or,List.not_mem_nil,or_false,not_false_eq_true,List.nodup_nil,and_true] at hd
  obtain ⟨⟨n2,n3,n5⟩,⟨m3,m5⟩,l5⟩:=hd
  obtain ⟨hr,⟨rfl,h0⟩ | ⟨bv,cap,rfl,e1,e2,e3,e4,e5⟩⟩:=k2
  · simp at h0
  have dR:=qRa bv 0 _ _ rfl
  have d2:=q2a bv 0 _ _ rfl
  have d3:=q3a bv 0 _ _ rfl
  have d5:=q5a bv 0 _ _ rfl
  let S0:Store:=supd (supd (supd (supd S bR (rdO T r)) b2 (.cells 24 [.nils] 1)) b3 (.cells 82 [.int .i64 0,.int .i64 0,.int .i64 0] 3)) b5 (.cells 24 [.own bv 0 ((l.map tyC)++[[.str nm,u]]).length cap] 1)
  have hS0:Sub S0 (supd S2 b5 (.cells 24 [.own bv 0 ((l.map tyC)++[[.str nm,u]]).length cap] 1)):=by
    intro x y hx
    rw [sget_supd] at hx ⊢
    by_cases g5:b5=x
    · rw [if_pos g5] at hx ⊢;exact hx
    rw [if_neg g5] at hx ⊢
    rw [sget_supd] at hx
    by_cases g3:b3=x
    · rw [if_pos g3] at hx;rw [← g3,q3];exact hx
    rw [if_neg g3,sget_supd] at hx
    by_cases g2:b2=x
    · rw [if_pos g2] at hx;rw [← g2,q2];exact hx
    rw [if_neg g2,sget_supd] at hx
    by_cases gR:bR=x
    · rw [if_pos gR] at hx;rw [← gR,qR];exact hx
    rw [if_neg gR] at hx
    exact k1 x y hx
  have hv0:sget S0 bv=none:=by
    show sget (supd _ _ _) bv=none
    rw [sget_supd,if_neg d5,sget_supd,if_neg d3,sget_supd,if_neg d2,sget_supd,if_neg dR]
    exact e1
  have hvc:sget (supd S2 b5 (.cells 24 [.own bv 0 ((l.map tyC)++[[.str nm,u]]).length cap] 1)) bv=some (.cells 46 ((l.map tyC)++[[.str nm,u]]).flatten (cap * 2)):=by
    rw [sget_supd,if_neg d5];exact e2
  have hcs:((l.map tyC)++[[.str nm,u]]).flatten=(l.map tyC).flatten++[.str nm,u]:=by simp
  have hcs':((l++[(⟨nm,rs⟩:Ty)]).map tyC).flatten=(l.map tyC).flatten++[.str nm,.sl 6 (rs.map rlC)]:=by simp [tyC]
  have hlen':((l++[(⟨nm,rs⟩:Ty)]).map tyC).length=((l.map tyC)++[[.str nm,u]]).length:=by simp
  refine rcW_cells (cs':=((l++[(⟨nm,rs⟩:Ty)]).map tyC).flatten) hS0 hv0 hvc ?_ (hK (.own bv 0 ((l.map tyC)++[[.str nm,u]]).length cap) _ ⟨?_,?_,?_,?_,⟨fun r hr=>?_,.inr ⟨bv,cap,by rw [hlen'],e1,by rw [sget_supd,if_pos rfl],by rw [hlen'];exact e3,e4,by rw [hlen'];exact e5⟩⟩,fun c hc=>?_,?_⟩)
  · rw [hcs,hcs']
    refine Frs.app (Frs.same _) (.cons (.same _) (.cons (Fr.lst (t:=53) ?_) .nil))
    obtain ⟨g1,⟨rfl,g2⟩ | ⟨bu,capu,rfl,f1,f2,f3⟩⟩:=j1
    · exact ⟨g1,.inl ⟨rfl,g2⟩⟩
    · refine ⟨g1,.inr ⟨bu,capu,rfl,?_,?_,f3⟩⟩
      · have w5:=hau b5 (by simp) bu 0 _ _ rfl
        have w3:=hau b3 (by simp) bu 0 _ _ rfl
        have w2:=hau b2 (by simp) bu 0 _ _ rfl
        have wR:=hau bR (by simp) bu 0 _ _ rfl
        have wv:=j2 bu 0 _ _ rfl bv 0 _ _ rfl
        rw [sget_supd,if_neg (Ne.symm wv)]
        show sget (supd _ _ _) bu=none
        rw [sget_supd,if_neg w5,sget_supd,if_neg w3,sget_supd,if_neg w2,sget_supd,if_neg wR]
        exact f1
      · have w5:=hau b5 (by simp) bu 0 _ _ rfl
        rw [sget_supd,if_neg w5];exact f2
  · rw [sget_supd,if_neg (Ne.symm dR)]
    show sget (supd _ _ _) bR=_
    rw [sget_supd,if_neg (Ne.symm n5),sget_supd,if_neg (Ne.symm n3),sget_supd,if_neg (Ne.symm n2),sget_supd,if_pos rfl]
  · rw [sget_supd,if_neg (Ne.symm d2)]
    show sget (supd _ _ _) b2=_
    rw [sget_supd,if_neg (Ne.symm m5),sget_supd,if_neg (Ne.symm m3),sget_supd,if_pos rfl]
  · rw [sget_supd,if_neg (Ne.symm d3)]
    show sget (supd _ _ _) b3=_
    rw [sget_supd,if_neg (Ne.symm l5),sget_supd,if_pos rfl]
  · rw [sget_supd,if_neg (Ne.symm d5)]
    show sget (supd _ _ _) b5=_
    rw [sget_supd,if_pos rfl]
  · obtain ⟨t,-,rfl⟩:=List.mem_map.1 hr
    rfl
  · simp only [List.mem_cons,List.not_mem_nil,or_false] at hc
    rcases hc with rfl | rfl | rfl | rfl
    · exact qRa
    · exact q2a
    · exact q3a
    · exact q5a
  · have s1:=(Sub.refl S).supd (o:=rdO T r) (hn bR (by simp))
    exact (((((Sub.refl S).supd (hn bR (by simp))).supd (hn b2 (by simp))).supd (hn b3 (by simp))).supd (hn b5 (by simp))).supd e1
theorem tokL_ne:∀ {f:Nat} {l:List UInt8} {a b:Nat},l.length<f→tokL f l a b≠[]
  | 0,l,a,b,h=>by omega
  | f+1,[],a,b,h=>by simp [tokL]
  | f+1,c :: r,a,b,h=>by
    unfold tokL
    simp only [List.length_cons] at h
    split
    · exact tokL_ne (by omega)
    · split
      · split<;>simp
      · simp
theorem tokT_pos (s:ByteArray):0<(tokT s).length:=List.length_pos_iff.2 (tokL_ne (by rw [bl_len];omega))
def parseF (s:ByteArray):List Ty×AV:=if 4096<s.size then ([],.agg [.int .i64 1,.int .i64 1,.int .i64 2]) else parseT (tokT s)
theorem c_Parse (s:ByteArray):AFun PG nr_ref11_Parse [.str s] (.tup [scA (parseF s).1,(parseF s).2]):=by
  intro S
  refine w_ref11_Parse ?_
  unfold B_ref11_Parse
  intro b2 hb2
  (try simp only [rwp,hwR,Nat.reduceAdd,reduceLeDiff,reduceLT,reduceSub,reduceMul,reduceEqDiff,Nat.reduceBEq,Int.reduceAdd,Int.reduceToNat])
  intro b3 hb3
  have n23:b3≠b2:=sget_ne hb3 (x:=.cells 24 [.nils] 1) (by rw [sget_supd,if_pos rfl])
  have k3:sget S b3=none:=by rw [sget_supd,if_neg (Ne.symm n23)] at hb3;exact hb3
  (try simp only [rwp,hwR,Nat.reduceAdd,reduceLeDiff,reduceLT,reduceSub,reduceMul,reduceEqDiff,Nat.reduceBEq,Int.reduceAdd,Int.reduceToNat,if_neg n23,if_neg (Ne.symm n23)])
  (refine cnW_intro (fun hl=>?_) (fun hl=>?_)<;>(try simp only [hlc] at hl))
  · have hpf:parseF s=([],.agg [.int .i64 1,.int .i64 1,.int .i64 2]):=by rw [parseF,if_pos (by omega)]
    rw [hpf]
    refine rtW_fr S (.tup [scA [],.agg [.int .i64 1,.int .i64 1,.int .i64 2]]) (((((Sub.refl S).supd hb2).supd k3).supd hb2).supd k3) ?_ ⟨rfl,rfl⟩
    (try simp only [rwp,hwR,Nat.reduceAdd,reduceLeDiff,reduceLT,reduceSub,reduceMul,reduceEqDiff,Nat.reduceBEq,Int.reduceAdd,Int.reduceToNat,if_neg n23,if_neg (Ne.symm n23)])
    exact .tu (.cons (.ag (.cons (.nils 2) .nil)) (.cons (.same _) .nil))
  have hs:s.size≤4096:=by omega
  have hT:=tokT_ok hs
  have hTl:=hT.len
  have hpf:parseF s=parseT (tokT s):=by rw [parseF,if_neg (by omega)]
  refine caW_pure (c_Tokens hs) ?_
  have hpos:=tokT_pos s
  rw [hpf]
  generalize tokT s=T at hT hpos hTl ⊢
  clear hpf hl hs
  (try simp only [rwp,hwR,Nat.reduceAdd,reduceLeDiff,reduceLT,reduceSub,reduceMul,reduceEqDiff,Nat.reduceBEq,Int.reduceAdd,Int.reduceToNat])
  refine ⟨rfl,rfl,fun bR hbR=>?_⟩
  have nR2:bR≠b2:=sget_ne hbR (x:=.cells 24 [.nils] 1) (by rw [sget_supd,if_neg n23,sget_supd,if_pos rfl])
  have nR3:bR≠b3:=sget_ne hbR (x:=.cells 82 [.int .i64 0,.int .i64 0,.int .i64 0] 3) (by rw [sget_supd,if_pos rfl])
  have kR:sget S bR=none:=by rw [sget_supd,if_neg (Ne.symm nR3),sget_supd,if_neg (Ne.symm nR2)] at hbR;exact hbR
  intro b5 hb5
  have n52:b5≠b2:=sget_ne hb5 (x:=.cells 24 [.nils] 1) (by rw [sget_supd,if_neg nR2,sget_supd,if_neg n23,sget_supd,if_pos rfl])
  have n53:b5≠b3:=sget_ne hb5 (x:=.cells 82 [.int .i64 0,.int .i64 0,.int .i64 0] 3) (by rw [sget_supd,if_neg nR3,sget_supd,if_pos rfl])
  have n5R:b5≠bR:=by
    rintro rfl
    rw [sget_supd,if_pos rfl] at hb5;cases hb5
  have k5:sget S b5=none:=by rw [sget_supd,if_neg (Ne.symm n5R),sget_supd,if_neg (Ne.symm n53),sget_supd,if_neg (Ne.symm n52)] at hb5;exact hb5
  have hd:[bR,b2,b3,b5].Nodup:=by
    simp only [List.nodup_cons,List.mem_cons,not_or,List.not_mem_nil,or_false,not_false_eq_true,List.nodup_nil,and_true]
    exact ⟨⟨nR2,nR3,Ne.symm n5R⟩,⟨Ne.symm n23,Ne.symm n52⟩,Ne.symm n53⟩
  have hn:∀ c∈[bR,b2,b3,b5],sget S c=none:=by
    intro c hc
    simp only [List.mem_cons,List.not_mem_nil,or_false] at hc
    rcases hc with rfl | rfl | rfl | rfl<;>assumption
  (try simp only [rwp,hwR,Nat.reduceAdd,reduceLeDiff,reduceLT,reduceSub,reduceMul,reduceEqDiff,Nat.reduceBEq,Int.reduceAdd,Int.reduceToNat])
  have hI0:PrI S bR b2 b3 b5 T .nils ([],rd0) (supd (supd (supd (supd S b2 (.cells 24 [.nils] 1)) b3 (.cells 82 [.int .i64 0,.int .i64 0,.int .i64 0] 3)) bR (rdO T rd0)) b5 (.cells 24 [.nils] 1)):=by
    refine ⟨?_,?_,?_,?_,.nil,fun c _=>aside_nils,((((Sub.refl S).supd hb2).supd k3).supd kR).supd k5⟩<;>simp [sget_supd,n23,nR2,nR3,n52,n53,n5R,Ne.symm n23,Ne.symm nR2,Ne.symm nR3,Ne.symm n52,Ne.symm n53,Ne.symm n5R]
  have hfin:typesL T T.length ([],rd0)=typesL T T.length ([],rd0):=rfl
  have hts:=ts0 (T:=T) hpos
  refine LoopP.introS (fun _:List Ty×Rd=>[(2,.ptr b2 0),(3,.ptr b3 0),(4,.ptr bR 0),(5,.ptr b5 0)])
    (fun p S'=>(∃ v,PrI S bR b2 b3 b5 T v p S')∧TsSt T p∧typesL T T.length p=typesL T T.length ([],rd0)) (fun p=>T.length-p.2.at') ([],rd0) ⟨⟨.nils,hI0⟩,hts,rfl⟩ rfl ?_
  clear hI0 hts hfin
  rintro ⟨l,r⟩ S1 ⟨⟨v,hI⟩,hTs,hf⟩ q hq
  have hp:Pre T 12 r:=hTs.pre
  have hin:r.at'<T.length:=hp.inr
  have hrd:=hI.rd
  have hll:=hTs.len
  dsimp only at hrd hll
  (try simp only [rwp,hwR,Nat.reduceAdd,reduceLeDiff,reduceLT,reduceSub,reduceMul,reduceEqDiff,Nat.reduceBEq,Int.reduceAdd,Int.reduceToNat,C_ref11_Parse_1])
  refine (c_is hT hp.inr wType).ca hrd ?_
  cases hi:isP T wType r with
  | true=>
    obtain ⟨hp1,hp2,hR,hTs2,hmu⟩:=types_next hT hTs hi
    have hf2:typesL T T.length (l++[⟨nameP T (isR T wType r),(relsL T T.length ([],nameR T (isR T wType r))).1⟩],(relsL T T.length ([],nameR T (isR T wType r))).2)=typesL T T.length ([],rd0):=by
      rw [← hf]
      obtain ⟨m,hm⟩:∃ m,T.length=m+1:=⟨T.length-1,by omega⟩
      conv=>rhs;rw [hm,typesL,if_pos hi]
      exact typesL_more hT hTs2 (by dsimp only;omega) (by dsimp only;omega)
    (try simp only [rwp,hwR,Nat.reduceAdd,reduceLeDiff,reduceLT,reduceSub,reduceMul,reduceEqDiff,Nat.reduceBEq,Int.reduceAdd,Int.reduceToNat])
    refine (c_name hT hp1.inr).ca rd_new ?_
    (try simp only [rwp,hwR,Nat.reduceAdd,reduceLeDiff,reduceLT,reduceSub,reduceMul,reduceEqDiff,Nat.reduceBEq,Int.reduceAdd,Int.reduceToNat])
    have hI2:=(hI.mv hd kR (isR T wType r)).mv hd kR (nameR T (isR T wType r))
    rw [supd_supd] at hI2
    generalize nameP T (isR T wType r)=nm at hf2 hTs2 ⊢
    have hI2':PrI S bR b2 b3 b5 T v (l,nameR T (isR T wType r)) (supd S1 bR (rdO T (nameR T (isR T wType r)))):=hI2
    clear hI2
    generalize supd S1 bR (rdO T (nameR T (isR T wType r)))=S2 at hI2' ⊢
    generalize nameR T (isR T wType r)=r2 at hI2' hp2 hR hf2 hTs2 hmu
    intro b6 hb6
    (try simp only [rwp,hwR,Nat.reduceAdd,reduceLeDiff,reduceLT,reduceSub,reduceMul,reduceEqDiff,Nat.reduceBEq,Int.reduceAdd,Int.reduceToNat])
    have hd6:∀ c∈[bR,b2,b3,b5],b6≠c:=by
      intro c hc
      simp only [List.mem_cons,List.not_mem_nil,or_false] at hc
      rcases hc with rfl | rfl | rfl | rfl
      · exact sget_ne hb6 hI2'.rd
      · exact sget_ne hb6 hI2'.c2
      · exact sget_ne hb6 hI2'.c3
      · exact sget_ne hb6 hI2'.c5
    have k6:=Sub.none hI2'.sub hb6
    have hJ0:PrJ S bR b2 b3 b5 b6 T v .nils nm l ([],r2) (supd S2 b6 (.cells 46 [.str nm,.nils] 2)):=by
      have a6:=hI2'.lst.fresh hb6
      refine ⟨⟨?_,?_,?_,?_,hI2'.lst.upd a6 _,hI2'.asd,hI2'.sub.supd k6⟩,by rw [sget_supd,if_pos rfl],.nil,fun c _=>aside_nils,a6,apart_nils⟩
      · rw [sget_supd,if_neg (hd6 bR (by simp))];exact hI2'.rd
      · rw [sget_supd,if_neg (hd6 b2 (by simp))];exact hI2'.c2
      · rw [sget_supd,if_neg (hd6 b3 (by simp))];exact hI2'.c3
      · rw [sget_supd,if_neg (hd6 b5 (by simp))];exact hI2'.c5
    have hRs0:RsSt T r2 ([],r2):=⟨StepR.refl hp2,Nat.zero_le _,fun x hx=>(by cases hx),fun _ x hx=>(by cases hx)⟩
    refine LoopP.introS (fun _:List Rl×Rd=>[(2,.ptr b2 0),(3,.ptr b3 0),(4,.ptr bR 0),(5,.ptr b5 0),(6,.ptr b6 0)])
      (fun p S'=>(∃ u,PrJ S bR b2 b3 b5 b6 T v u nm l p S')∧RsSt T r2 p∧relsL T T.length p=relsL T T.length ([],r2)) (fun p=>T.length-p.2.at') ([],r2) ⟨⟨.nils,hJ0⟩,hRs0,rfl⟩ rfl ?_
    clear hJ0 hRs0 hI2'
    rintro ⟨rs,r3⟩ S3 ⟨⟨u,hJ⟩,hRs,hfr⟩ q2 hq2
    have hp3:=hRs.st.pre hp2
    have hin3:r3.at'<T.length:=hp3.inr
    have hlr:=hRs.len
    dsimp only at hlr
    obtain ⟨k1,k2⟩:=rels_next hT hp2 hRs
    (try simp only [rwp,hwR,Nat.reduceAdd,reduceLeDiff,reduceLT,reduceSub,reduceMul,reduceEqDiff,Nat.reduceBEq,Int.reduceAdd,Int.reduceToNat,C_ref11_Parse_4])
    refine (c_rel hT hp3).ca hJ.out.rd ?_
    have hJ2:=hJ.mv hd (Ne.symm (hd6 bR (by simp))) kR (relP T r3).2
    have o6:=objAt_some.2 hJ2.c6
    have o5:=objAt_some.2 hJ2.out.c5
    cases hok:(relP T r3).1.2 with
    | true=>
      obtain ⟨k3',k4⟩:=k1 hok
      have hfr2:relsL T T.length (rs++[(relP T r3).1.1],(relP T r3).2)=relsL T T.length ([],r2):=by
        rw [← hfr]
        obtain ⟨m,hm⟩:∃ m,T.length=m+1:=⟨T.length-1,by omega⟩
        conv=>rhs;rw [hm,relsL,if_pos hok]
        exact relsL_more hT hp2 k3' (by dsimp only;omega) (by dsimp only;omega)
      have hmr:=hJ2.more hd6 k6 (relP T r3).1.1 (by omega) (K:=fun S4=>rcW q2 [(2,.ptr b2 0),(3,.ptr b3 0),(4,.ptr bR 0),(5,.ptr b5 0),(6,.ptr b6 0)] S4) fun u' S4 hJ4=>rcW_as rfl (hq2 (rs++[(relP T r3).1.1],(relP T r3).2) S4 ⟨⟨u',hJ4⟩,k3',hfr2⟩ (by dsimp only;omega))
      simp only [rlC_eq] at hmr
      (try simp only [rwp,hwR,Nat.reduceAdd,reduceLeDiff,reduceLT,reduceSub,reduceMul,reduceEqDiff,Nat.reduceBEq,Int.reduceAdd,Int.reduceToNat,rlC_eq,cellsAt_of o6,ones_cons])
      exact hmr
    | false=>
      have hstop:relsL T T.length (rs,r3)=(rs,(relP T r3).2):=by
        obtain ⟨m,hm⟩:∃ m,T.length=m+1:=⟨T.length-1,by omega⟩
        rw [hm,relsL,if_neg (by rw [hok];simp)]
      rw [hstop] at hfr
      rw [← hfr] at hf2 hTs2 hmu
      have hone:=hJ2.ins.one
      have htp:=hJ2.typ hd hd6 hn (by omega) (q:=q) (le:=[(2,.ptr b2 0),(3,.ptr b3 0),(4,.ptr bR 0),(5,.ptr b5 0)]) fun v' S4 hI4=>hq (l++[⟨nm,rs⟩],(relP T r3).2) S4 ⟨⟨v',hI4⟩,hTs2,hf2⟩ (by dsimp only at hmu ⊢;omega)
      dsimp only
      (try simp only [rwp,hwR,Nat.reduceAdd,reduceLeDiff,reduceLT,reduceSub,reduceMul,reduceEqDiff,Nat.reduceBEq,Int.reduceAdd,Int.reduceToNat,rlC_eq,cellsAt_of o6,cellsAt_of o5,ones_cons])
      exact htp
  | false=>
    rw [isR_no hi,supd_self hrd]
    have hstop:typesL T T.length (l,r)=(l,r):=by
      cases T.length with
      | zero=>rfl
      | succ m=>rw [typesL,if_neg (by rw [hi];simp)]
    rw [hstop] at hf
    have ho:=rd_at hrd
    (try simp only [rwp,hwR,Nat.reduceAdd,reduceLeDiff,reduceLT,reduceSub,reduceMul,reduceEqDiff,Nat.reduceBEq,Int.reduceAdd,Int.reduceToNat,cellsAt_of ho])
    have fin:∀ S2,PrI S bR b2 b3 b5 T v (l,endR T r) S2→C_ref11_Parse_3 (fun ae S'=>ae=.ret (.tup [scA (parseT T).1,(parseT T).2])∧S'=S) (.ptr b2 0) (.ptr b3 0) (.ptr bR 0) (.ptr b5 0) S2:=by
      intro S2 hI2
      have hr2:=rd_at hI2.rd
      have o2:=objAt_some.2 hI2.c2
      have o3:=objAt_some.2 hI2.c3
      have o5:=objAt_some.2 hI2.c5
      have hone:=hI2.lst.one
      have hac:aCells v=[v]:=by cases v<;>first | rfl | cases hone
      unfold C_ref11_Parse_3
      (try simp only [rwp,hwR,Nat.reduceAdd,reduceLeDiff,reduceLT,reduceSub,reduceMul,reduceEqDiff,Nat.reduceBEq,Int.reduceAdd,Int.reduceToNat,cellsAt_of hr2])
      have hpt:parseT T=if (endR T r).de=0 then (l,.agg [.int .i64 0,.int .i64 0,.int .i64 0]) else ([],.agg [.int .i64 (endR T r).dl,.int .i64 (endR T r).dc,.int .i64 (endR T r).de]):=by
        rw [parseT,← hf]
      have nR2':b2≠bR:=Ne.symm nR2
      have n32:=Ne.symm n23
      (refine cnW_intro (fun hde=>?_) (fun hde=>?_)<;>(try simp only [hlc] at hde))
      · rw [if_neg hde] at hpt
        rw [hpt]
        (try simp only [rwp,hwR,Nat.reduceAdd,reduceLeDiff,reduceLT,reduceSub,reduceMul,reduceEqDiff,Nat.reduceBEq,Int.reduceAdd,Int.reduceToNat,o2])
        refine kpW_one (by rw [sget_supd,if_neg nR2']) ?_
        have o3':objAt (supd S2 b2 (.cells 24 [.nils] 1)) b3=some (82,[.int .i64 0,.int .i64 0,.int .i64 0],3):=by rw [objAt_ne n32];exact o3
        (try simp only [rwp,hwR,Nat.reduceAdd,reduceLeDiff,reduceLT,reduceSub,reduceMul,reduceEqDiff,Nat.reduceBEq,Int.reduceAdd,Int.reduceToNat,o3',if_neg n32,o3])
        refine rtW_fr S (.tup [scA [],.agg [.int .i64 (endR T r).dl,.int .i64 (endR T r).dc,.int .i64 (endR T r).de]]) ((hI2.sub.supd hb2).supd k3) ?_ ⟨rfl,rfl⟩
        (try simp only [rwp,hwR,Nat.reduceAdd,reduceLeDiff,reduceLT,reduceSub,reduceMul,reduceEqDiff,Nat.reduceBEq,Int.reduceAdd,Int.reduceToNat,if_neg n23,if_neg n32])
        exact .tu (.cons (.ag (.cons (.nils 2) .nil)) (.cons (.same _) .nil))
      · rw [if_pos hde] at hpt
        rw [hpt]
        have o3':∀ x,objAt (supd S2 b2 (.cells 24 [x] 1)) b3=some (82,[.int .i64 0,.int .i64 0,.int .i64 0],3):=fun x=>by rw [objAt_ne n32];exact o3
        (try simp only [rwp,hwR,Nat.reduceAdd,reduceLeDiff,reduceLT,reduceSub,reduceMul,reduceEqDiff,Nat.reduceBEq,Int.reduceAdd,Int.reduceToNat,cellsAt_of o5,o2,hac,o3',ones,hone,Bool.and_true,if_neg n32,o3])
        refine rtW_fr S (.tup [scA l,.agg [.int .i64 0,.int .i64 0,.int .i64 0]]) ((hI2.sub.supd hb2).supd k3) ?_ ⟨rfl,rfl⟩
        (try simp only [rwp,hwR,Nat.reduceAdd,reduceLeDiff,reduceLT,reduceSub,reduceMul,reduceEqDiff,Nat.reduceBEq,Int.reduceAdd,Int.reduceToNat,if_neg n23,if_neg n32])
        have a2:=hI2.asd b2 (by simp)
        have a3:=hI2.asd b3 (by simp)
        exact .tu (.cons (.ag (.cons (Fr.lst ((hI2.lst.upd a2 _).upd a3 _)) .nil)) (.cons (.same _) .nil))
    cases a1:decide (r.de=0) with
    | false=>
      (try simp only [rwp,hwR,Nat.reduceAdd,reduceLeDiff,reduceLT,reduceSub,reduceMul,reduceEqDiff,Nat.reduceBEq,Int.reduceAdd,Int.reduceToNat,C_ref11_Parse_2])
      refine fin S1 ?_
      have:endR T r=r:=by rw [endR,if_neg (fun h=>by rw [decide_eq_true h.1] at a1;cases a1)]
      rw [this]
      exact hI
    | true=>
      have hde:=of_decide_eq_true a1
      (try simp only [rwp,hwR,Nat.reduceAdd,reduceLeDiff,reduceLT,reduceSub,reduceMul,reduceEqDiff,Nat.reduceBEq,Int.reduceAdd,Int.reduceToNat])
      refine (c_next hT hp.inr).ca hrd ?_
      rw [supd_self hrd]
      (try simp only [rwp,hwR,Nat.reduceAdd,reduceLeDiff,reduceLT,reduceSub,reduceMul,reduceEqDiff,Nat.reduceBEq,Int.reduceAdd,Int.reduceToNat,tkC])
      cases a2:decide ((nxP T r).s=⟨#[]⟩) with
      | true=>
        (try simp only [rwp,hwR,Nat.reduceAdd,reduceLeDiff,reduceLT,reduceSub,reduceMul,reduceEqDiff,Nat.reduceBEq,Int.reduceAdd,Int.reduceToNat,C_ref11_Parse_2])
        refine fin S1 ?_
        have:endR T r=r:=by rw [endR,if_neg (fun h=>h.2 (of_decide_eq_true a2))]
        rw [this]
        exact hI
      | false=>
        (try simp only [rwp,hwR,Nat.reduceAdd,reduceLeDiff,reduceLT,reduceSub,reduceMul,reduceEqDiff,Nat.reduceBEq,Int.reduceAdd,Int.reduceToNat,C_ref11_Parse_2])
        refine (c_next hT hp.inr).ca hrd ?_
        rw [supd_self hrd]
        (try simp only [rwp,hwR,Nat.reduceAdd,reduceLeDiff,reduceLT,reduceSub,reduceMul,reduceEqDiff,Nat.reduceBEq,Int.reduceAdd,Int.reduceToNat,tkC])
        refine (c_fail (nxP T r) 8).ca hrd ?_
        have:endR T r=failP (nxP T r) 8 r:=by rw [endR,if_pos ⟨hde,of_decide_eq_false a2⟩]
        rw [← this]
        exact fin _ (hI.mv hd kR _)
theorem parseF_ok {s:ByteArray}:OkS (parseF s).1∧(s.size≤900→OkN (parseF s).1):=by
  unfold parseF
  split
  · exact ⟨⟨Nat.zero_le _,fun t ht=>(by cases ht)⟩,fun _ t ht=>(by cases ht)⟩
  · rename_i h
    have hT:=tokT_ok (s:=s) (by omega)
    have hl:=tokL_len (f:=s.size+1) (l:=bl s) (a:=1) (b:=1)
    rw [bl_len] at hl
    obtain ⟨h1,h2⟩:=parseT_ok hT (tokT_pos s)
    refine ⟨h1,fun h t ht r hr=>?_⟩
    have:=h2 t ht r hr
    unfold tokT at this
    omega
end Go.HL
set_option linter.unusedVariables false
set_option linter.unusedSimpArgs false
set_option maxRecDepth 4000
namespace Go.HL
open Nat (reduceLeDiff reduceLT reduceSub reduceMul reduceEqDiff)
def cutL (c:Int):List UInt8→Option (List UInt8×List UInt8)
  | []=>none
  | b :: r=>if (b.toNat:Int)=c then some ([],r) else (cutL c r).map fun p=>(b :: p.1,p.2)
theorem cutL_cons {c:Int} {b:UInt8} {r:List UInt8}:cutL c (b :: r)=if (b.toNat:Int)=c then some ([],r) else (cutL c r).map fun p=>(b :: p.1,p.2):=rfl
def cutF (s:ByteArray) (c:Int):ByteArray×ByteArray×Bool:=match cutL c (bl s) with
  | none=>(s,⟨#[]⟩,false)
  | some (a,b)=>(mkB a,mkB b,true)
theorem cutL_len {c:Int}:∀ {l a b:List UInt8},cutL c l=some (a,b)→a.length≤l.length∧b.length≤l.length
  | [],_,_,h=>by cases h
  | x :: r,a,b,h=>by
    unfold cutL at h
    split at h
    · cases h;exact ⟨Nat.zero_le _,by simp⟩
    · cases hq:cutL c r with
      | none=>rw [hq] at h;cases h
      | some p=>
        rw [hq] at h
        cases h
        obtain ⟨h1,h2⟩:=cutL_len (a:=p.1) (b:=p.2) hq
        simp only [List.length_cons]
        omega
theorem mkB_len (l:List UInt8):(mkB l).size=l.length:=by simp [mkB,ByteArray.size]
theorem cutF_len {s:ByteArray} {c:Int}:(cutF s c).1.size≤s.size∧(cutF s c).2.1.size≤s.size:=by
  unfold cutF
  cases h:cutL c (bl s) with
  | none=>exact ⟨Nat.le_refl _,Nat.zero_le _⟩
  | some p=>
    have:=cutL_len (a:=p.1) (b:=p.2) h
    rw [bl_len] at this
    exact ⟨by rw [mkB_len];exact this.1,by rw [mkB_len];exact this.2⟩
theorem c_cut {s:ByteArray} (hs:s.size≤1125899906842624) (c:Int):AFun PG nr_ref10_cut [.str s,.int .u8 c] (.tup [.str (cutF s c).1,.str (cutF s c).2.1,.bool (cutF s c).2.2]):=by
  intro S
  refine w_ref10_cut ?_
  unfold B_ref10_cut
  have hln:=bl_len s
  refine LoopP.introS (fun i:Nat=>[(0,.str s),(1,.int .u8 c),(7,.int .i64 i)]) (fun i S'=>S'=S∧i≤s.size∧cutL c (bl s)=(cutL c ((bl s).drop i)).map fun p=>((bl s).take i++p.1,p.2)) (fun i=>s.size-i) 0 ⟨rfl,by omega,by cases h:cutL c (bl s)<;>simp [h]⟩ rfl ?_
  rintro i S' ⟨rfl,hi,hc⟩ r hr
  (try simp only [rwp,Nat.reduceAdd,reduceLeDiff,reduceLT,reduceSub,reduceMul,reduceEqDiff,Nat.reduceBEq,Int.reduceAdd,Int.reduceToNat,rwb,reduceIte,C_ref10_cut_1])
  (refine cnW_intro (fun hlt=>?_) (fun hlt=>?_)<;>(try simp only [hlc] at hlt))
  · obtain ⟨b,hb⟩:=byte_lt hlt
    have hb':=hb
    rw [bl_get] at hb'
    rw [drop_cons hb'] at hc
    rw [cutL_cons] at hc
    (try simp only [rwp,Nat.reduceAdd,reduceLeDiff,reduceLT,reduceSub,reduceMul,reduceEqDiff,Nat.reduceBEq,Int.reduceAdd,Int.reduceToNat,rwb,reduceIte,hb])
    (refine cnW_intro (fun hq=>?_) (fun hq=>?_)<;>(try simp only [hlc] at hq))
    · rw [if_pos hq] at hc
      (simp (disch:=omega) only [hwrap64])
      (try simp only [rwp,Nat.reduceAdd,reduceLeDiff,reduceLT,reduceSub,reduceMul,reduceEqDiff,Nat.reduceBEq,Int.reduceAdd,Int.reduceToNat,rwb,reduceIte,loI,hiI,cutI])
      refine ⟨by omega,by omega,by omega,by omega,by omega,rtW_three ⟨?_,rfl⟩⟩
      unfold cutF
      rw [hc,extract_mk,extract_mk]
      simp only [Option.map_some,List.append_nil,List.drop_zero]
      rw [show ((i:Int)+1).toNat=i+1 by omega,List.take_of_length_le (by omega:(bl s).length≤s.size)]
    · rw [if_neg hq] at hc
      (simp (disch:=omega) only [hwrap64])
      refine rcW_as rfl (hr (i+1) _ ⟨rfl,by omega,?_⟩ (by omega))
      rw [hc,take_snoc' hb']
      cases cutL c ((bl s).drop (i+1))<;>simp
  · have e:(bl s).drop i=[]:=List.drop_eq_nil_of_le (by omega)
    rw [e] at hc
    refine rtW_three ⟨?_,rfl⟩
    unfold cutF
    rw [hc]
    rfl
abbrev nob:ByteArray:=⟨#[]⟩
def objF (s:ByteArray):Ob×Bool:=if (cutF s 58).2.2&&(nameB (cutF s 58).1&&idB (cutF s 58).2.1) then (⟨(cutF s 58).1,(cutF s 58).2.1⟩,true) else (⟨nob,nob⟩,false)
def subF (s:ByteArray):Nd×Bool:=if (objF (cutF s 35).1).2&&(!(cutF s 35).2.2||nameB (cutF s 35).2.1) then (⟨(objF (cutF s 35).1).1,(cutF s 35).2.1⟩,true) else (⟨⟨nob,nob⟩,nob⟩,false)
def tupF (s:ByteArray):Tu×Bool:=
  let x:=cutF s 64
  let y:=cutF x.1 35
  let o:=objF y.1
  let w:=subF x.2.1
  if x.2.2&&(y.2.2&&(o.2&&(w.2&&nameB y.2.1))) then (⟨o.1,y.2.1,w.1⟩,true) else (⟨⟨nob,nob⟩,nob,⟨⟨nob,nob⟩,nob⟩⟩,false)
theorem objF_ok {s:ByteArray} (hs:s.size≤1125899906842624):OkO (objF s).1:=by
  have h:=@cutF_len s 58
  unfold objF
  split
  · exact ⟨by dsimp only;omega,by dsimp only;omega⟩
  · exact ⟨Nat.zero_le _,Nat.zero_le _⟩
theorem subF_ok {s:ByteArray} (hs:s.size≤1125899906842624):OkD (subF s).1:=by
  have h:=@cutF_len s 35
  unfold subF
  split
  · exact ⟨objF_ok (by omega),by dsimp only;omega⟩
  · exact ⟨⟨Nat.zero_le _,Nat.zero_le _⟩,Nat.zero_le _⟩
theorem tupF_ok {s:ByteArray} (hs:s.size≤1125899906842624):OkU (tupF s).1:=by
  have h:=@cutF_len s 64
  have h2:=@cutF_len (cutF s 64).1 35
  unfold tupF
  dsimp only
  split
  · exact ⟨objF_ok (by omega),by dsimp only;omega,subF_ok (by omega)⟩
  · exact ⟨⟨Nat.zero_le _,Nat.zero_le _⟩,Nat.zero_le _,⟨⟨Nat.zero_le _,Nat.zero_le _⟩,Nat.zero_le _⟩⟩
theorem c_Object {s:ByteArray} (hs:s.size≤1125899906842624):AFun PG nr_ref10_Object [.str s] (.tup [.agg (obC (objF s).1),.bool (objF s).2]):=by
  intro S
  refine w_ref10_Object ?_
  unfold B_ref10_Object
  intro b hb
  have hl:=@cutF_len s 58
  refine caW_pure (c_cut hs 58) ?_
  (try simp only [rwp,Nat.reduceAdd,reduceLeDiff,reduceLT,reduceSub,reduceMul,reduceEqDiff,Nat.reduceBEq,Int.reduceAdd,Int.reduceToNat,rwb,reduceIte])
  refine caW_pure (c_ref10_Name (by omega)) ?_
  refine caW_pure (c_ref10_ID (by omega)) ?_
  unfold objF
  cases h1:(cutF s 58).2.2<;>cases h2:nameB (cutF s 58).1<;>cases h3:idB (cutF s 58).2.1<;>(try simp only [rwp,Nat.reduceAdd,reduceLeDiff,reduceLT,reduceSub,reduceMul,reduceEqDiff,Nat.reduceBEq,Int.reduceAdd,Int.reduceToNat,rwb,reduceIte,C_ref10_Object_1,C_ref10_Object_2])<;>refine rtW_go S (Sub.supd hb (Sub.refl _)) ?_<;>(try simp only [rwp,Nat.reduceAdd,reduceLeDiff,reduceLT,reduceSub,reduceMul,reduceEqDiff,Nat.reduceBEq,Int.reduceAdd,Int.reduceToNat,rwb,reduceIte,obC])<;>simp
theorem c_Subject {s:ByteArray} (hs:s.size≤1125899906842624):AFun PG nr_ref10_Subject [.str s] (.tup [.agg (ndC (subF s).1),.bool (subF s).2]):=by
  intro S
  refine w_ref10_Subject ?_
  unfold B_ref10_Subject
  intro b hb
  have hl:=@cutF_len s 35
  refine caW_pure (c_cut hs 35) ?_
  (try simp only [rwp,Nat.reduceAdd,reduceLeDiff,reduceLT,reduceSub,reduceMul,reduceEqDiff,Nat.reduceBEq,Int.reduceAdd,Int.reduceToNat,rwb,reduceIte])
  have q:=c_Object (s:=(cutF s 35).1) (by omega)
  simp only [obC] at q
  refine caW_pure q ?_
  (try simp only [rwp,Nat.reduceAdd,reduceLeDiff,reduceLT,reduceSub,reduceMul,reduceEqDiff,Nat.reduceBEq,Int.reduceAdd,Int.reduceToNat,rwb,reduceIte])
  refine caW_pure (c_ref10_Name (by omega)) ?_
  unfold subF
  cases h1:(objF (cutF s 35).1).2<;>cases h2:(cutF s 35).2.2<;>cases h3:nameB (cutF s 35).2.1<;>(try simp only [rwp,Nat.reduceAdd,reduceLeDiff,reduceLT,reduceSub,reduceMul,reduceEqDiff,Nat.reduceBEq,Int.reduceAdd,Int.reduceToNat,rwb,reduceIte,C_ref10_Subject_1,C_ref10_Subject_2,C_ref10_Subject_3])<;>refine rtW_go S (Sub.supd hb (Sub.refl _)) ?_<;>(try simp only [rwp,Nat.reduceAdd,reduceLeDiff,reduceLT,reduceSub,reduceMul,reduceEqDiff,Nat.reduceBEq,Int.reduceAdd,Int.reduceToNat,rwb,reduceIte,ndC])<;>simp
theorem c_Tuple {s:ByteArray} (hs:s.size≤1125899906842624):AFun PG nr_ref10_Tuple [.str s] (.tup [.agg (tuC (tupF s).1),.bool (tupF s).2]):=by
  intro S
  refine w_ref10_Tuple ?_
  unfold B_ref10_Tuple
  intro b hb
  have hl:=@cutF_len s 64
  have hl2:=@cutF_len (cutF s 64).1 35
  refine caW_pure (c_cut hs 64) ?_
  (try simp only [rwp,Nat.reduceAdd,reduceLeDiff,reduceLT,reduceSub,reduceMul,reduceEqDiff,Nat.reduceBEq,Int.reduceAdd,Int.reduceToNat,rwb,reduceIte])
  refine caW_pure (c_cut (by omega) 35) ?_
  (try simp only [rwp,Nat.reduceAdd,reduceLeDiff,reduceLT,reduceSub,reduceMul,reduceEqDiff,Nat.reduceBEq,Int.reduceAdd,Int.reduceToNat,rwb,reduceIte])
  have q:=c_Object (s:=(cutF (cutF s 64).1 35).1) (by omega)
  simp only [obC] at q
  refine caW_pure q ?_
  (try simp only [rwp,Nat.reduceAdd,reduceLeDiff,reduceLT,reduceSub,reduceMul,reduceEqDiff,Nat.reduceBEq,Int.reduceAdd,Int.reduceToNat,rwb,reduceIte])
  have q2:=c_Subject (s:=(cutF s 64).2.1) (by omega)
  simp only [ndC] at q2
  refine caW_pure q2 ?_
  (try simp only [rwp,Nat.reduceAdd,reduceLeDiff,reduceLT,reduceSub,reduceMul,reduceEqDiff,Nat.reduceBEq,Int.reduceAdd,Int.reduceToNat,rwb,reduceIte])
  refine caW_pure (c_ref10_Name (by omega)) ?_
  unfold tupF
  dsimp only
  cases h1:(cutF s 64).2.2<;>cases h2:(cutF (cutF s 64).1 35).2.2<;>cases h3:(objF (cutF (cutF s 64).1 35).1).2<;>cases h4:(subF (cutF s 64).2.1).2<;>cases h5:nameB (cutF (cutF s 64).1 35).2.1<;>(try simp only [rwp,Nat.reduceAdd,reduceLeDiff,reduceLT,reduceSub,reduceMul,reduceEqDiff,Nat.reduceBEq,Int.reduceAdd,Int.reduceToNat,rwb,reduceIte,C_ref10_Tuple_1,C_ref10_Tuple_2,C_ref10_Tuple_3,C_ref10_Tuple_4])<;>refine rtW_go S (Sub.supd hb (Sub.refl _)) ?_<;>(try simp only [rwp,Nat.reduceAdd,reduceLeDiff,reduceLT,reduceSub,reduceMul,reduceEqDiff,Nat.reduceBEq,Int.reduceAdd,Int.reduceToNat,rwb,reduceIte,tuC])<;>simp
theorem c_Tuples {l:List ByteArray} (hl:l.length≤1000000) (hs:∀ s∈l,s.size≤1125899906842624):AFun PG nr_law14_Tuples [.sl 1 (l.map fun s=>[.str s])] (.sl 6 ((l.map fun s=>(tupF s).1).map tuC)):=by
  intro S
  refine w_law14_Tuples ?_
  unfold B_law14_Tuples
  refine LoopP.intro (fun x:Nat×AV×Store=>[(0,.sl 1 (l.map fun s=>[.str s])),(3,x.2.1),(4,.int .i64 x.1)]) (fun x=>x.2.2) (fun x=>x.1≤l.length∧Sub S x.2.2∧LstN S x.2.2 tyTu 6 x.2.1 (((l.take x.1).map fun s=>(tupF s).1).map tuC)) (fun x=>l.length-x.1) (0,.nils,S) ⟨by omega,Sub.refl _,LstN.nil⟩ rfl (Sub.refl S) ?_
  rintro ⟨i,v,S'⟩ ⟨hi,hsu,hL⟩ r hr
  dsimp only at hi hsu hL ⊢
  (try simp only [rwp,Nat.reduceAdd,reduceLeDiff,reduceLT,reduceSub,reduceMul,reduceEqDiff,Nat.reduceBEq,Int.reduceAdd,Int.reduceToNat,rwb,reduceIte,C_law14_Tuples_1,List.length_map])
  (refine cnW_intro (fun hlt=>?_) (fun hlt=>?_)<;>(try simp only [hlc] at hlt))
  · obtain ⟨s,hg⟩:=get_lt hlt
    (try simp only [rwp,Nat.reduceAdd,reduceLeDiff,reduceLT,reduceSub,reduceMul,reduceEqDiff,Nat.reduceBEq,Int.reduceAdd,Int.reduceToNat,rwb,reduceIte,List.getElem?_map,hg])
    have q:=c_Tuple (hs s (List.mem_of_getElem? hg))
    simp only [tuC] at q
    refine caW_pure q ?_
    (try simp only [rwp,Nat.reduceAdd,reduceLeDiff,reduceLT,reduceSub,reduceMul,reduceEqDiff,Nat.reduceBEq,Int.reduceAdd,Int.reduceToNat,rwb,reduceIte])
    have e:((l.take i).map fun s=>(tupF s).1).length≤1000000:=by rw [List.length_map,List.length_take];omega
    refine hL.tu (t:=(tupF s).1) hsu e fun v' S2 h1 h2=>?_
    (simp (disch:=omega) only [hwrap64])
    refine rcW_as rfl (hr (i+1,v',S2) ⟨by dsimp only;omega,h1,?_⟩ (by dsimp only;omega))
    dsimp only
    rw [take_snoc' hg,List.map_append]
    exact h2
  · have e:l.take i=l:=List.take_of_length_le (by omega)
    rw [e] at hL
    exact rtW_lst hsu hL ⟨rfl,rfl⟩
end Go.HL
set_option linter.unusedVariables false
set_option linter.unusedSimpArgs false
set_option maxRecDepth 20000
namespace Go.HL
open Nat (reduceLeDiff reduceLT reduceSub reduceMul reduceEqDiff)
def tx15:ByteArray:=⟨#[116,121,112,101,32,117,115,101,114,32,116,121,112,101,32,103,32,114,101,108,97,116,105,111,110,32,109,58,32,117,115,101,114,32,124,32,103,35,109]⟩
def bUser:ByteArray:=⟨#[117,115,101,114]⟩
def bG:ByteArray:=⟨#[103]⟩
def bM:ByteArray:=⟨#[109]⟩
def b1':ByteArray:=⟨#[49]⟩
def bA:ByteArray:=⟨#[97]⟩
def sc15:List Ty:=[⟨bUser,[]⟩,⟨bG,[⟨bM,[⟨bUser,⟨#[]⟩⟩,⟨bG,bM⟩],zeroE⟩]⟩]
def tt1:ByteArray:=⟨#[103,58,49,35,109,64,103,58,49,35,109]⟩
def tt2:ByteArray:=⟨#[103,58,49,35,109,64,117,115,101,114,58,97]⟩
def nG:Nd:=⟨⟨bG,b1'⟩,bM⟩
def oA:Ob:=⟨bUser,bA⟩
def l15:List Tu:=[⟨⟨bG,b1'⟩,bM,nG⟩,⟨⟨bG,b1'⟩,bM,⟨oA,⟨#[]⟩⟩⟩]
theorem p15:(parseF tx15).1=sc15:=by kernel_rfl
theorem ps15:(parseF tx15).2=.agg [.int .i64 0,.int .i64 0,.int .i64 0]:=by kernel_rfl
theorem t15:([tt1,tt2].map fun s=>(tupF s).1)=l15:=by kernel_rfl
theorem ok15:OkS sc15∧OkN sc15:=by
  have h:=parseF_ok (s:=tx15)
  rw [p15] at h
  exact ⟨h.1,h.2 (by decide)⟩
theorem okl15:OkL l15:=by
  rw [← t15]
  refine ⟨by decide,fun t ht=>?_⟩
  obtain ⟨s,hs,rfl⟩:=List.mem_map.1 ht
  refine tupF_ok ?_
  simp only [List.mem_cons,List.not_mem_nil,or_false] at hs
  rcases hs with rfl | rfl<;>decide
theorem a15:chk15 (envE sc15 l15 oA) 2 nG=.tup [.bool true,.int .i64 2,.int .i64 0]:=by kernel_rfl
theorem a15':chk15 (envE sc15 l15 oA) 1 nG=.tup [.bool false,.int .i64 0,.int .i64 12]:=by kernel_rfl
theorem c_awake15:AFun PG nr_law15_awake [] (.bool true):=by
  intro S
  refine w_law15_awake ?_
  unfold B_law15_awake
  have r1:=c_Parse tx15
  rw [p15,ps15] at r1
  have r2:=c_Tuples (l:=[tt1,tt2]) (by decide) (fun s hs=>by
    simp only [List.mem_cons,List.not_mem_nil,or_false] at hs
    rcases hs with rfl | rfl<;>decide)
  rw [t15] at r2
  have q1:=c_engine_Check ok15.1 ok15.2 okl15 nG oA 2
  have q2:=c_engine_Check ok15.1 ok15.2 okl15 nG oA 1
  rw [a15] at q1
  rw [a15'] at q2
  simp only [scA] at r1 q1 q2
  refine caW_pure r1 ?_
  (try simp only [rwp,Nat.reduceAdd,reduceLeDiff,reduceLT,reduceSub,reduceMul,reduceEqDiff,Nat.reduceBEq,Int.reduceAdd,Int.reduceToNat,rwb,reduceIte])
  intro b3 hb3 b4 hb4
  obtain ⟨d43,hb4'⟩:=frsh hb4
  (try simp only [rwp,Nat.reduceAdd,reduceLeDiff,reduceLT,reduceSub,reduceMul,reduceEqDiff,Nat.reduceBEq,Int.reduceAdd,Int.reduceToNat,rwb,reduceIte,d43,Ne.symm d43])
  refine caW_pure r2 ?_
  (try simp only [rwp,Nat.reduceAdd,reduceLeDiff,reduceLT,reduceSub,reduceMul,reduceEqDiff,Nat.reduceBEq,Int.reduceAdd,Int.reduceToNat,rwb,reduceIte])
  refine caW_pure q1 ?_
  (try simp only [rwp,Nat.reduceAdd,reduceLeDiff,reduceLT,reduceSub,reduceMul,reduceEqDiff,Nat.reduceBEq,Int.reduceAdd,Int.reduceToNat,rwb,reduceIte])
  refine caW_pure q2 ?_
  (try simp only [rwp,Nat.reduceAdd,reduceLeDiff,reduceLT,reduceSub,reduceMul,reduceEqDiff,Nat.reduceBEq,Int.reduceAdd,Int.reduceToNat,rwb,reduceIte,C_law15_awake_1,C_law15_awake_2])
  refine rtW_go S ?_ ?_
  · intro a o ha
    have e3:=sget_ne hb3 ha
    have e4:=sget_ne hb4' ha
    simp only [sget_sdel,sget_supd,if_neg e3,if_neg e4]
    exact ha
  · (try simp only [rwp,Nat.reduceAdd,reduceLeDiff,reduceLT,reduceSub,reduceMul,reduceEqDiff,Nat.reduceBEq,Int.reduceAdd,Int.reduceToNat,rwb,reduceIte])
end Go.HL
set_option linter.unusedVariables false
set_option linter.unusedSimpArgs false
set_option maxRecDepth 4000
namespace Go.HL
open Nat (reduceLeDiff reduceLT reduceSub reduceMul reduceEqDiff)
theorem c_ref10_ShowObject {o:Ob} (ho:OkO o):AFun PG nr_ref10_ShowObject [.agg (obC o)] (.str (showO o)):=by
  intro S
  refine w_ref10_ShowObject ?_
  unfold B_ref10_ShowObject
  (try simp only [rwp,Nat.reduceAdd,reduceLeDiff,reduceLT,reduceSub,reduceMul,reduceEqDiff,Nat.reduceBEq,Int.reduceAdd,Int.reduceToNat,rwb,reduceIte,obC])
  refine caW_pure (c_ref10_Name ho.ty) ?_
  have h1:=ho.ty
  have h2:=ho.id
  (try simp only [rwp,Nat.reduceAdd,reduceLeDiff,reduceLT,reduceSub,reduceMul,reduceEqDiff,Nat.reduceBEq,Int.reduceAdd,Int.reduceToNat,rwb,reduceIte])
  refine caW_pure (c_ref10_ID ho.id) ?_
  cases a1:nameB o.ty<;>cases a2:idB o.id<;>(try simp only [rwp,Nat.reduceAdd,reduceLeDiff,reduceLT,reduceSub,reduceMul,reduceEqDiff,Nat.reduceBEq,Int.reduceAdd,Int.reduceToNat,rwb,reduceIte,C_ref10_ShowObject_1,ByteArray.size_append])
  · exact rtW_one ⟨by simp [showO,obB,a1],rfl⟩
  · exact rtW_one ⟨by simp [showO,obB,a1],rfl⟩
  · exact rtW_one ⟨by simp [showO,obB,a1,a2],rfl⟩
  · have:(ByteArray.mk #[58]).size=1:=rfl
    exact ⟨by omega,by omega,rtW_one ⟨by simp [showO,obB,a1,a2],rfl⟩⟩
theorem c_ref10_ShowSubject {n:Nd} (hn:OkD n):AFun PG nr_ref10_ShowSubject [.agg (ndC n)] (.str (showN n)):=by
  intro S
  refine w_ref10_ShowSubject ?_
  unfold B_ref10_ShowSubject
  (try simp only [rwp,Nat.reduceAdd,reduceLeDiff,reduceLT,reduceSub,reduceMul,reduceEqDiff,Nat.reduceBEq,Int.reduceAdd,Int.reduceToNat,rwb,reduceIte,ndC])
  have q:=c_ref10_ShowObject hn.o
  simp only [obC] at q
  have h1:=showO_le hn.o
  have h2:=hn.rl
  refine caW_pure q ?_
  (try simp only [rwp,Nat.reduceAdd,reduceLeDiff,reduceLT,reduceSub,reduceMul,reduceEqDiff,Nat.reduceBEq,Int.reduceAdd,Int.reduceToNat,rwb,reduceIte])
  refine caW_pure (c_ref10_Name hn.rl) ?_
  (try simp only [rwp,Nat.reduceAdd,reduceLeDiff,reduceLT,reduceSub,reduceMul,reduceEqDiff,Nat.reduceBEq,Int.reduceAdd,Int.reduceToNat,rwb,reduceIte])
  rw [showO_nil]
  cases a1:obB n.o
  · (try simp only [rwp,Nat.reduceAdd,reduceLeDiff,reduceLT,reduceSub,reduceMul,reduceEqDiff,Nat.reduceBEq,Int.reduceAdd,Int.reduceToNat,rwb,reduceIte,C_ref10_ShowSubject_1])
    exact rtW_one ⟨by simp [showN,showO,a1],rfl⟩
  · cases a2:decide (n.rl=⟨#[]⟩)
    · (try simp only [rwp,Nat.reduceAdd,reduceLeDiff,reduceLT,reduceSub,reduceMul,reduceEqDiff,Nat.reduceBEq,Int.reduceAdd,Int.reduceToNat,rwb,reduceIte,C_ref10_ShowSubject_1,a2])
      have a2:=of_decide_eq_false a2
      cases a3:nameB n.rl
      · (try simp only [rwp,Nat.reduceAdd,reduceLeDiff,reduceLT,reduceSub,reduceMul,reduceEqDiff,Nat.reduceBEq,Int.reduceAdd,Int.reduceToNat,rwb,reduceIte])
        exact rtW_one ⟨by simp [showN,a1,a2,a3],rfl⟩
      · (try simp only [rwp,Nat.reduceAdd,reduceLeDiff,reduceLT,reduceSub,reduceMul,reduceEqDiff,Nat.reduceBEq,Int.reduceAdd,Int.reduceToNat,rwb,reduceIte,ByteArray.size_append])
        have:(ByteArray.mk #[35]).size=1:=rfl
        exact ⟨by omega,by omega,rtW_one ⟨by simp [showN,a1,a2,a3],rfl⟩⟩
    · (try simp only [rwp,Nat.reduceAdd,reduceLeDiff,reduceLT,reduceSub,reduceMul,reduceEqDiff,Nat.reduceBEq,Int.reduceAdd,Int.reduceToNat,rwb,reduceIte,C_ref10_ShowSubject_1,a2])
      have a2:=of_decide_eq_true a2
      exact rtW_one ⟨by simp [showN,a1,a2],rfl⟩
theorem c_ref10_ShowTuple {t:Tu} (ht:OkU t):AFun PG nr_ref10_ShowTuple [.agg (tuC t)] (.str (showT t)):=by
  intro S
  refine w_ref10_ShowTuple ?_
  unfold B_ref10_ShowTuple
  (try simp only [rwp,Nat.reduceAdd,reduceLeDiff,reduceLT,reduceSub,reduceMul,reduceEqDiff,Nat.reduceBEq,Int.reduceAdd,Int.reduceToNat,rwb,reduceIte,tuC])
  have q1:=c_ref10_ShowObject ht.o
  have q2:=c_ref10_ShowSubject ht.s
  simp only [obC] at q1
  simp only [ndC] at q2
  have h1:=showO_le ht.o
  have h2:=showN_le ht.s
  have h3:=ht.rl
  refine caW_pure q1 ?_
  (try simp only [rwp,Nat.reduceAdd,reduceLeDiff,reduceLT,reduceSub,reduceMul,reduceEqDiff,Nat.reduceBEq,Int.reduceAdd,Int.reduceToNat,rwb,reduceIte])
  refine caW_pure q2 ?_
  (try simp only [rwp,Nat.reduceAdd,reduceLeDiff,reduceLT,reduceSub,reduceMul,reduceEqDiff,Nat.reduceBEq,Int.reduceAdd,Int.reduceToNat,rwb,reduceIte])
  refine caW_pure (c_ref10_Name ht.rl) ?_
  (try simp only [rwp,Nat.reduceAdd,reduceLeDiff,reduceLT,reduceSub,reduceMul,reduceEqDiff,Nat.reduceBEq,Int.reduceAdd,Int.reduceToNat,rwb,reduceIte])
  have e:=tuB_eq t
  rw [showO_nil,showN_nil]
  cases a1:obB t.o
  · (try simp only [rwp,Nat.reduceAdd,reduceLeDiff,reduceLT,reduceSub,reduceMul,reduceEqDiff,Nat.reduceBEq,Int.reduceAdd,Int.reduceToNat,rwb,reduceIte,C_ref10_ShowTuple_1,C_ref10_ShowTuple_2])
    exact rtW_one ⟨by simp [showT,e,a1],rfl⟩
  · cases a2:(obB t.s.o&&(decide (t.s.rl=⟨#[]⟩)||nameB t.s.rl))
    · (try simp only [rwp,Nat.reduceAdd,reduceLeDiff,reduceLT,reduceSub,reduceMul,reduceEqDiff,Nat.reduceBEq,Int.reduceAdd,Int.reduceToNat,rwb,reduceIte,C_ref10_ShowTuple_1,C_ref10_ShowTuple_2])
      exact rtW_one ⟨by simp only [showT,e,a1,a2];rfl,rfl⟩
    · (try simp only [rwp,Nat.reduceAdd,reduceLeDiff,reduceLT,reduceSub,reduceMul,reduceEqDiff,Nat.reduceBEq,Int.reduceAdd,Int.reduceToNat,rwb,reduceIte,C_ref10_ShowTuple_1])
      cases a3:nameB t.rl
      · (try simp only [rwp,Nat.reduceAdd,reduceLeDiff,reduceLT,reduceSub,reduceMul,reduceEqDiff,Nat.reduceBEq,Int.reduceAdd,Int.reduceToNat,rwb,reduceIte,C_ref10_ShowTuple_2])
        exact rtW_one ⟨by simp only [showT,e,a1,a2,a3];rfl,rfl⟩
      · (try simp only [rwp,Nat.reduceAdd,reduceLeDiff,reduceLT,reduceSub,reduceMul,reduceEqDiff,Nat.reduceBEq,Int.reduceAdd,Int.reduceToNat,rwb,reduceIte,C_ref10_ShowTuple_2,ByteArray.size_append])
        have:(ByteArray.mk #[35]).size=1:=rfl
        have:(ByteArray.mk #[64]).size=1:=rfl
        exact ⟨by omega,by omega,by omega,by omega,rtW_one ⟨by simp only [showT,e,a1,a2,a3];rfl,rfl⟩⟩
theorem c_ref13_Allowed {s:List Ty} (hs:OkS s) {t:Tu} (ht:OkU t):AFun PG nr_ref13_Allowed [scA s,.agg (tuC t)] (.int .i64 (allowF s t)):=by
  intro S
  refine w_ref13_Allowed ?_
  unfold B_ref13_Allowed
  have q:=c_ref10_ShowTuple ht
  simp only [tuC] at q
  have hty:=hs.types
  (try simp only [rwp,Nat.reduceAdd,reduceLeDiff,reduceLT,reduceSub,reduceMul,reduceEqDiff,Nat.reduceBEq,Int.reduceAdd,Int.reduceToNat,rwb,reduceIte,scA,tuC])
  refine caW_pure q ?_
  (try simp only [rwp,Nat.reduceAdd,reduceLeDiff,reduceLT,reduceSub,reduceMul,reduceEqDiff,Nat.reduceBEq,Int.reduceAdd,Int.reduceToNat,rwb,reduceIte])
  rw [showT_nil]
  cases a1:tuB t
  · (try simp only [rwp,Nat.reduceAdd,reduceLeDiff,reduceLT,reduceSub,reduceMul,reduceEqDiff,Nat.reduceBEq,Int.reduceAdd,Int.reduceToNat,rwb,reduceIte])
    exact rtW_one ⟨by simp [allowF,a1],rfl⟩
  · (try simp only [rwp,Nat.reduceAdd,reduceLeDiff,reduceLT,reduceSub,reduceMul,reduceEqDiff,Nat.reduceBEq,Int.reduceAdd,Int.reduceToNat,rwb,reduceIte])
    have q2:=c_ref12_Find hs t.o.ty t.rl
    simp only [scA] at q2
    have loop:∀ (v5:List AV) (fd:Bool) (K:Bool→Prop),(∀ b:Bool,b=(typF s t.s.o.ty).isSome→C_ref13_Allowed_2 (fun ae S'=>ae=.ret (.int .i64 (allowF s t))∧S'=S) (.rop (tuC t)) (.rop v5) (.bool (!fd||!b)) S) →
        LoopP (fun r0 l S1=>C_ref13_Allowed_1 (fun ae S'=>ae=.ret (.int .i64 (allowF s t))∧S'=S) r0 (lget l 2) (lget l 3) (lget l 5) (lget l 6) (lget l 7) (lget l 8) S1) [(2,.rop [.sl 2 (s.map tyC)]),(3,.rop (tuC t)),(5,.rop v5),(6,.bool fd),(7,.bool false),(8,.int .i64 0)] S:=by
      intro v5 fd K hK
      refine LoopP.intro (fun i:Nat=>[(2,.rop [.sl 2 (s.map tyC)]),(3,.rop (tuC t)),(5,.rop v5),(6,.bool fd),(7,.bool ((s.take i).any fun u=>decide (u.name=t.s.o.ty))),(8,.int .i64 i)]) (fun _=>S) (fun i=>i≤s.length) (fun i=>s.length-i) 0 (by omega) rfl (Sub.refl S) ?_
      intro i hi k hk
      (try simp only [rwp,Nat.reduceAdd,reduceLeDiff,reduceLT,reduceSub,reduceMul,reduceEqDiff,Nat.reduceBEq,Int.reduceAdd,Int.reduceToNat,rwb,reduceIte,C_ref13_Allowed_1])
      (refine cnW_intro (fun hlt=>?_) (fun hlt=>?_)<;>(try simp only [hlc] at hlt))
      · obtain ⟨u,hu⟩:=get_lt hlt
        have hn:=hk (i+1) (by omega) (by omega)
        rw [any_take_succ hu] at hn
        cases a2:(s.take i).any fun u=>decide (u.name=t.s.o.ty)
        · rw [a2,Bool.false_or] at hn
          (try simp only [rwp,Nat.reduceAdd,reduceLeDiff,reduceLT,reduceSub,reduceMul,reduceEqDiff,Nat.reduceBEq,Int.reduceAdd,Int.reduceToNat,rwb,reduceIte,hu,tyC,tuC])
          (simp (disch:=omega) only [hwrap64])
          exact rcW_as rfl hn
        · rw [a2,Bool.true_or] at hn
          (try simp only [rwp,Nat.reduceAdd,reduceLeDiff,reduceLT,reduceSub,reduceMul,reduceEqDiff,Nat.reduceBEq,Int.reduceAdd,Int.reduceToNat,rwb,reduceIte,hu,tyC,tuC])
          (simp (disch:=omega) only [hwrap64])
          exact rcW_as rfl hn
      · have e:s.take i=s:=List.take_of_length_le (by omega)
        rw [e,typ_any]
        have:=hK _ rfl
        cases fd
        · (try simp only [rwp,Nat.reduceAdd,reduceLeDiff,reduceLT,reduceSub,reduceMul,reduceEqDiff,Nat.reduceBEq,Int.reduceAdd,Int.reduceToNat,rwb,reduceIte])
          simpa only [Bool.not_false,Bool.true_or] using this
        · (try simp only [rwp,Nat.reduceAdd,reduceLeDiff,reduceLT,reduceSub,reduceMul,reduceEqDiff,Nat.reduceBEq,Int.reduceAdd,Int.reduceToNat,rwb,reduceIte])
          simpa only [Bool.not_true,Bool.false_or] using this
    cases hq:findF s t.o.ty t.rl with
    | none=>
      rw [hq] at q2
      refine caW_pure q2 ?_
      (try simp only [rwp,Nat.reduceAdd,reduceLeDiff,reduceLT,reduceSub,reduceMul,reduceEqDiff,Nat.reduceBEq,Int.reduceAdd,Int.reduceToNat,rwb,reduceIte,zeroR])
      refine loop _ false (fun _=>True) fun b hb=>?_
      (try simp only [rwp,Nat.reduceAdd,reduceLeDiff,reduceLT,reduceSub,reduceMul,reduceEqDiff,Nat.reduceBEq,Int.reduceAdd,Int.reduceToNat,rwb,reduceIte,C_ref13_Allowed_2])
      exact rtW_one ⟨by simp [allowF,a1,hq],rfl⟩
    | some q3=>
      obtain ⟨i,k,r⟩:=q3
      obtain ⟨-,ty,h2,-,h4⟩:=findF_at hq
      have hok:=(hs.at h2).at h4
      have hrl:=hok.refs
      rw [hq] at q2
      refine caW_pure q2 ?_
      (try simp only [rwp,Nat.reduceAdd,reduceLeDiff,reduceLT,reduceSub,reduceMul,reduceEqDiff,Nat.reduceBEq,Int.reduceAdd,Int.reduceToNat,rwb,reduceIte,rlC_eq])
      refine loop _ true (fun _=>True) fun b hb=>?_
      cases b
      · (try simp only [rwp,Nat.reduceAdd,reduceLeDiff,reduceLT,reduceSub,reduceMul,reduceEqDiff,Nat.reduceBEq,Int.reduceAdd,Int.reduceToNat,rwb,reduceIte,C_ref13_Allowed_2])
        exact rtW_one ⟨by simp only [allowF,a1,hq,← hb];rfl,rfl⟩
      · (try simp only [rwp,Nat.reduceAdd,reduceLeDiff,reduceLT,reduceSub,reduceMul,reduceEqDiff,Nat.reduceBEq,Int.reduceAdd,Int.reduceToNat,rwb,reduceIte,C_ref13_Allowed_2])
        have hval:allowF s t=if r.refs.any (fun f=>decide (t.s.o.ty=f.ty)&&decide (t.s.rl=f.rl)) then 0 else 10:=by simp only [allowF,a1,hq,← hb];rfl
        refine LoopP.intro (fun i:Nat=>[(3,.rop (tuC t)),(5,.rop [.str r.name,.sl 2 (r.refs.map rfC),.int .i64 r.ex.kind,.str r.ex.name,.str r.ex.over,.sl 4 (r.ex.kids.map exC)]),(9,.int .i64 i)]) (fun _=>S) (fun i=>i≤r.refs.length∧(r.refs.take i).any (fun f=>decide (t.s.o.ty=f.ty)&&decide (t.s.rl=f.rl))=false) (fun i=>r.refs.length-i) 0 ⟨by omega,rfl⟩ rfl (Sub.refl S) ?_
        rintro i ⟨hi,hn⟩ k hk
        (try simp only [rwp,Nat.reduceAdd,reduceLeDiff,reduceLT,reduceSub,reduceMul,reduceEqDiff,Nat.reduceBEq,Int.reduceAdd,Int.reduceToNat,rwb,reduceIte,C_ref13_Allowed_3])
        (refine cnW_intro (fun hlt=>?_) (fun hlt=>?_)<;>(try simp only [hlc] at hlt))
        · obtain ⟨f,hf⟩:=get_lt hlt
          have hs:=any_take_succ (p:=fun f:Rf=>decide (t.s.o.ty=f.ty)&&decide (t.s.rl=f.rl)) hf
          rw [hn,Bool.false_or] at hs
          (try simp only [rwp,Nat.reduceAdd,reduceLeDiff,reduceLT,reduceSub,reduceMul,reduceEqDiff,Nat.reduceBEq,Int.reduceAdd,Int.reduceToNat,rwb,reduceIte,hf,rfC,tuC])
          have comm:∀ a b:ByteArray,decide (a=b)=decide (b=a):=fun a b=>by rw [Bool.eq_iff_iff];simp [eq_comm]
          rw [comm f.ty]
          cases b1:decide (t.s.o.ty=f.ty)
          · (try simp only [rwp,Nat.reduceAdd,reduceLeDiff,reduceLT,reduceSub,reduceMul,reduceEqDiff,Nat.reduceBEq,Int.reduceAdd,Int.reduceToNat,rwb,reduceIte])
            (simp (disch:=omega) only [hwrap64])
            exact rcW_as rfl (hk (i+1) ⟨by omega,by rw [hs,b1];rfl⟩ (by omega))
          · (try simp only [rwp,Nat.reduceAdd,reduceLeDiff,reduceLT,reduceSub,reduceMul,reduceEqDiff,Nat.reduceBEq,Int.reduceAdd,Int.reduceToNat,rwb,reduceIte,hf,rfC,tuC])
            rw [comm f.rl]
            cases b2:decide (t.s.rl=f.rl)
            · (try simp only [rwp,Nat.reduceAdd,reduceLeDiff,reduceLT,reduceSub,reduceMul,reduceEqDiff,Nat.reduceBEq,Int.reduceAdd,Int.reduceToNat,rwb,reduceIte])
              (simp (disch:=omega) only [hwrap64])
              exact rcW_as rfl (hk (i+1) ⟨by omega,by rw [hs,b1,b2];rfl⟩ (by omega))
            · (try simp only [rwp,Nat.reduceAdd,reduceLeDiff,reduceLT,reduceSub,reduceMul,reduceEqDiff,Nat.reduceBEq,Int.reduceAdd,Int.reduceToNat,rwb,reduceIte])
              refine rtW_one ⟨?_,rfl⟩
              rw [hval,if_pos (List.any_eq_true.2 ⟨f,List.mem_of_getElem? hf,by rw [b1,b2];rfl⟩)]
        · have e:r.refs.take i=r.refs:=List.take_of_length_le (by omega)
          rw [e] at hn
          exact rtW_one ⟨by rw [hval,hn];rfl,rfl⟩
theorem c_ref14_Counts {s:List Ty} (hs:OkS s) {l:List Tu} (hl:OkL l):AFun PG nr_ref14_Counts [scA s,.sl 6 (l.map tuC)] (.sl 6 ((countsF s l).map tuC)):=by
  intro S
  refine w_ref14_Counts ?_
  unfold B_ref14_Counts
  have hn:=hl.n
  (try simp only [rwp,Nat.reduceAdd,reduceLeDiff,reduceLT,reduceSub,reduceMul,reduceEqDiff,Nat.reduceBEq,Int.reduceAdd,Int.reduceToNat,rwb,reduceIte,scA])
  refine LoopP.introS (fun p:Nat×AV=>[(1,.sl 6 (l.map tuC)),(2,.rop [.sl 2 (s.map tyC)]),(5,p.2),(6,.int .i64 p.1)]) (fun p S'=>p.1≤l.length∧Sub S S'∧LstN S S' tyTu 6 p.2 ((countsF s (l.take p.1)).map tuC)) (fun p=>l.length-p.1) (0,.nils) ⟨by omega,Sub.refl S,LstN.nil⟩ rfl ?_
  rintro ⟨i,v⟩ S' ⟨hi,hsub,hv⟩ k hk
  dsimp only at hi hsub hv
  (try simp only [rwp,Nat.reduceAdd,reduceLeDiff,reduceLT,reduceSub,reduceMul,reduceEqDiff,Nat.reduceBEq,Int.reduceAdd,Int.reduceToNat,rwb,reduceIte,C_ref14_Counts_1])
  (refine cnW_intro (fun hlt=>?_) (fun hlt=>?_)<;>(try simp only [hlc] at hlt))
  · obtain ⟨t,ht⟩:=get_lt hlt
    have q:=c_ref13_Allowed hs (hl.ok t (List.mem_of_getElem? ht))
    simp only [scA,tuC] at q
    have e:=filter_take_succ (p:=fun t=>decide (allowF s t=0)) ht
    (try simp only [rwp,Nat.reduceAdd,reduceLeDiff,reduceLT,reduceSub,reduceMul,reduceEqDiff,Nat.reduceBEq,Int.reduceAdd,Int.reduceToNat,rwb,reduceIte,ht,tuC])
    refine caW_pure q ?_
    (try simp only [rwp,Nat.reduceAdd,reduceLeDiff,reduceLT,reduceSub,reduceMul,reduceEqDiff,Nat.reduceBEq,Int.reduceAdd,Int.reduceToNat,rwb,reduceIte])
    have hlen:(countsF s (l.take i)).length≤i:=Nat.le_trans (List.length_filter_le _ _) (by rw [List.length_take];omega)
    cases a1:decide (allowF s t=0)
    · rw [a1] at e
      (try simp only [rwp,Nat.reduceAdd,reduceLeDiff,reduceLT,reduceSub,reduceMul,reduceEqDiff,Nat.reduceBEq,Int.reduceAdd,Int.reduceToNat,rwb,reduceIte])
      (simp (disch:=omega) only [hwrap64])
      exact rcW_as rfl (hk (i+1,v) S' ⟨by dsimp only;omega,hsub,by dsimp only;rw [countsF,e];simpa [countsF] using hv⟩ (by dsimp only;omega))
    · rw [a1] at e
      (try simp only [rwp,Nat.reduceAdd,reduceLeDiff,reduceLT,reduceSub,reduceMul,reduceEqDiff,Nat.reduceBEq,Int.reduceAdd,Int.reduceToNat,rwb,reduceIte,ht,tuC])
      refine LstN.tu (t:=t) hsub hv (by omega) fun v' S2 h1 h2=>?_
      (simp (disch:=omega) only [hwrap64])
      exact rcW_as rfl (hk (i+1,v') S2 ⟨by dsimp only;omega,h1,by dsimp only;rw [countsF,e];exact h2⟩ (by dsimp only;omega))
  · have e:l.take i=l:=List.take_of_length_le (by omega)
    rw [e] at hv
    exact rtW_lst hsub hv ⟨rfl,rfl⟩
theorem c_ref13_Of {l:List Tu} (hl:OkL l) (n:Nd):AFun PG nr_ref13_Of [.sl 6 (l.map tuC),.agg (obC n.o),.str n.rl] (.sl 6 ((ofF l n).map tuC)):=by
  intro S
  refine w_ref13_Of ?_
  unfold B_ref13_Of
  have hn:=hl.n
  (try simp only [rwp,Nat.reduceAdd,reduceLeDiff,reduceLT,reduceSub,reduceMul,reduceEqDiff,Nat.reduceBEq,Int.reduceAdd,Int.reduceToNat,rwb,reduceIte,obC])
  refine LoopP.introS (fun p:Nat×AV=>[(0,.sl 6 (l.map tuC)),(2,.str n.rl),(4,.rop [.str n.o.ty,.str n.o.id]),(7,p.2),(8,.int .i64 p.1)]) (fun p S'=>p.1≤l.length∧Sub S S'∧LstN S S' tyTu 6 p.2 ((ofF (l.take p.1) n).map tuC)) (fun p=>l.length-p.1) (0,.nils) ⟨by omega,Sub.refl S,LstN.nil⟩ rfl ?_
  rintro ⟨i,v⟩ S' ⟨hi,hsub,hv⟩ k hk
  dsimp only at hi hsub hv
  (try simp only [rwp,Nat.reduceAdd,reduceLeDiff,reduceLT,reduceSub,reduceMul,reduceEqDiff,Nat.reduceBEq,Int.reduceAdd,Int.reduceToNat,rwb,reduceIte,C_ref13_Of_1])
  (refine cnW_intro (fun hlt=>?_) (fun hlt=>?_)<;>(try simp only [hlc] at hlt))
  · obtain ⟨t,ht⟩:=get_lt hlt
    have e:=filter_take_succ (p:=fun t=>decide (t.o=n.o)&&decide (t.rl=n.rl)) ht
    have eo:decide (t.o=n.o)=(decide (t.o.ty=n.o.ty)&&decide (t.o.id=n.o.id)):=by
      rw [Bool.eq_iff_iff]
      cases t.o;cases n.o
      simp
    have hlen:(ofF (l.take i) n).length≤i:=Nat.le_trans (List.length_filter_le _ _) (by rw [List.length_take];omega)
    have no:(decide (t.o=n.o)&&decide (t.rl=n.rl))=false→C_ref13_Of_2 (fun ae S'=>ae=.ret (.sl 6 ((ofF l n).map tuC))∧S'=S) k (.sl 6 (l.map tuC)) (.str n.rl) (.rop [.str n.o.ty,.str n.o.id]) v (.int .i64 i) (.bool false) S':=fun h=>by
      rw [h] at e
      (try simp only [rwp,Nat.reduceAdd,reduceLeDiff,reduceLT,reduceSub,reduceMul,reduceEqDiff,Nat.reduceBEq,Int.reduceAdd,Int.reduceToNat,rwb,reduceIte,C_ref13_Of_2])
      (simp (disch:=omega) only [hwrap64])
      exact rcW_as rfl (hk (i+1,v) S' ⟨by dsimp only;omega,hsub,by dsimp only;rw [ofF,e];simpa [ofF] using hv⟩ (by dsimp only;omega))
    (try simp only [rwp,Nat.reduceAdd,reduceLeDiff,reduceLT,reduceSub,reduceMul,reduceEqDiff,Nat.reduceBEq,Int.reduceAdd,Int.reduceToNat,rwb,reduceIte,ht,tuC,eqW_def])
    cases a1:decide (t.o=n.o)
    · rw [← eo,a1]
      (try simp only [rwp,Nat.reduceAdd,reduceLeDiff,reduceLT,reduceSub,reduceMul,reduceEqDiff,Nat.reduceBEq,Int.reduceAdd,Int.reduceToNat,rwb,reduceIte])
      exact no (by rw [a1];rfl)
    · rw [← eo,a1]
      (try simp only [rwp,Nat.reduceAdd,reduceLeDiff,reduceLT,reduceSub,reduceMul,reduceEqDiff,Nat.reduceBEq,Int.reduceAdd,Int.reduceToNat,rwb,reduceIte,ht,tuC])
      cases a2:decide (t.rl=n.rl)
      · exact no (by rw [a1,a2];rfl)
      · rw [a1,a2] at e
        (try simp only [rwp,Nat.reduceAdd,reduceLeDiff,reduceLT,reduceSub,reduceMul,reduceEqDiff,Nat.reduceBEq,Int.reduceAdd,Int.reduceToNat,rwb,reduceIte,C_ref13_Of_2,ht,tuC])
        refine LstN.tu (t:=t) hsub hv (by omega) fun v' S2 h1 h2=>?_
        (simp (disch:=omega) only [hwrap64])
        exact rcW_as rfl (hk (i+1,v') S2 ⟨by dsimp only;omega,h1,by dsimp only;rw [ofF,e];exact h2⟩ (by dsimp only;omega))
  · have e:l.take i=l:=List.take_of_length_le (by omega)
    rw [e] at hv
    exact rtW_lst hsub hv ⟨rfl,rfl⟩
end Go.HL
set_option linter.unusedVariables false
set_option linter.unusedSimpArgs false
set_option maxRecDepth 4000
namespace Go.HL
open Nat (reduceLeDiff reduceLT reduceSub reduceMul reduceEqDiff)
def LstW (S0 S:Store) (t sz:Nat) (v:AV) (rows:List (List AV)):Prop:=
  (∀ r∈rows,r.length=sz)∧((v=.nils∧rows=[])∨∃ b cap cs,v=.own b 0 rows.length cap∧sget S0 b=none∧sget S b=some (.cells t cs (cap * sz))∧cs.take (rows.length * sz)=rows.flatten∧rows.length * sz≤cs.length∧rows.length≤cap∧cap≤maxLen)
section
variable {S0 S:Store} {t sz bytes:Nat} {v:AV} {rows xs:List (List AV)} {K:AV→Store→Prop}
theorem LstW.nil:LstW S0 S t sz .nils []:=⟨fun r hr=>by (cases hr),.inl ⟨rfl,rfl⟩⟩
theorem LstW.upd (h:LstW S0 S t sz v rows) {c:Nat} (hc:Aside v c) (o:AObj):LstW S0 (supd S c o) t sz v rows:=by
  obtain ⟨hr,h⟩:=h
  refine ⟨hr,?_⟩
  rcases h with h | ⟨b,cap,cs,rfl,h1,h2,h3⟩
  · exact .inl h
  · exact .inr ⟨b,cap,cs,rfl,h1,by rw [sget_supd,if_neg (hc b 0 _ _ rfl)];exact h2,h3⟩
theorem LstW.app (hs:Sub S0 S) (h:LstW S0 S t sz v rows) {x:List AV} (hx:x.length=sz) (ho:ones x=true) (hb:(rows.length+1) * bytes≤140737488355328)
    (hK:∀ v' S',Sub S0 S'→LstW S0 S' t sz v' (rows++[x])→(∀ c o,sget S c=some o→Aside v c→sget S' c=some o∧Aside v' c)→K v' S'):apW S t sz bytes v (.sl sz [x]) K:=by
  refine ⟨1,x,by simp [appX],ho,?_⟩
  obtain ⟨hr,h⟩:=h
  have hall:∀ r∈rows++[x],r.length=sz:=fun r hm=>(List.mem_append.1 hm).elim (hr r) fun h=>by rw [List.mem_singleton.1 h];exact hx
  have hfl:(rows++[x]).flatten.length=(rows.length+1) * sz:=by rw [flat_len hall];simp
  rcases h with ⟨rfl,rfl⟩ | ⟨b,cap,cs,rfl,h1,h2,h3,h4,h5,h6⟩
  · dsimp only
    simp only [List.length_nil,Nat.zero_add] at hb
    refine ⟨hb,?_⟩
    rw [if_neg (by decide)]
    intro b cap hbn k1 k2
    have hb0:=Sub.none hs hbn
    refine hK _ _ (hs.supd hb0) ⟨hall,.inr ⟨b,cap,x,by simp,hb0,by rw [sget_supd,if_pos rfl],?_,by simp [hx],by simpa using k1,k2⟩⟩ fun c o hc _=>?_
    · simp [List.take_of_length_le,hx]
    · have hne:b≠c:=sget_ne hbn hc
      exact ⟨by rw [sget_supd,if_neg hne];exact hc,fun b' off n cap h=>by cases h;exact Ne.symm hne⟩
  · refine ⟨_,h2,h5,h6,h4,hb,fun b' cap' k1 k2 k3=>?_⟩
    rw [h3]
    have hb0:sget S0 b'=none:=by
      rcases k1 with rfl | k1
      · exact h1
      · exact Sub.none hs k1
    have hsub:Sub S0 (supd (sdel S b) b' (.cells t (rows.flatten++x) (cap' * sz))):=by
      refine Sub.supd hb0 fun c o hc=>?_
      have hne:b≠c:=by rintro rfl;rw [h1] at hc;cases hc
      rw [sget_sdel,if_neg hne]
      exact hs c o hc
    refine hK _ _ hsub ⟨hall,.inr ⟨b',cap',rows.flatten++x,by simp,hb0,by rw [sget_supd,if_pos rfl],?_,?_,by simpa using k2,k3⟩⟩ fun c o hc ha=>?_
    · have e:rows.flatten++x=(rows++[x]).flatten:=by simp
      rw [e,List.take_of_length_le (by rw [hfl];simp)]
    · have e:rows.flatten++x=(rows++[x]).flatten:=by simp
      rw [e,hfl];simp
    · have hcb:c≠b:=ha b 0 _ _ rfl
      have hcb':b'≠c:=by
        rcases k1 with rfl | k1
        · exact Ne.symm hcb
        · exact sget_ne k1 hc
      exact ⟨by rw [sget_supd,if_neg hcb',sget_sdel,if_neg (Ne.symm hcb)];exact hc,fun b'' off n cap h=>by cases h;exact Ne.symm hcb'⟩
theorem LstW.one (h:LstW S0 S t sz v rows):Go.HL.one v=true:=by
  obtain ⟨hr,h⟩:=h
  rcases h with ⟨rfl,-⟩ | ⟨b,cap,cs,rfl,-⟩<;>rfl
theorem LstW.cut {x:List AV} (h:LstW S0 S t sz v (rows++[x])):∃ b cap,v=.own b 0 (rows.length+1) cap∧LstW S0 S t sz (.own b 0 rows.length cap) rows∧rows.length+1≤cap:=by
  obtain ⟨hr,h⟩:=h
  rcases h with ⟨rfl,h⟩ | ⟨b,cap,cs,rfl,h1,h2,h3,h4,h5,h6⟩
  · simp at h
  · have hr':∀ r∈rows,r.length=sz:=fun r hm=>hr r (List.mem_append.2 (.inl hm))
    simp only [List.length_append,List.length_singleton] at *
    refine ⟨b,cap,rfl,⟨hr',.inr ⟨b,cap,cs,rfl,h1,h2,?_,?_,by omega,h6⟩⟩,h5⟩
    · have hl:=flat_len hr'
      have h7:(cs.take ((rows.length+1) * sz)).take (rows.length * sz)=rows.flatten:=by
        rw [h3,List.flatten_append,List.take_append_of_le_length (by rw [hl];exact Nat.le_refl _),List.take_of_length_le (by rw [hl];exact Nat.le_refl _)]
      rw [List.take_take,Nat.min_eq_left (Nat.mul_le_mul_right _ (by omega))] at h7
      exact h7
    · exact Nat.le_trans (Nat.mul_le_mul_right _ (by omega)) h4
theorem LstW.ln {K:AV→Prop} {S':Store} (h:LstW S0 S t sz v rows):lnW S' 1 v K=K (.int .i64 rows.length):=by
  obtain ⟨hr,⟨rfl,rfl⟩ | ⟨b,cap,cs,rfl,-⟩⟩:=h
  · rw [lnW_nils];rfl
  · rw [lnW_own]
theorem LstW.get (h:LstW S0 S t sz v rows) {i:Nat} {r:List AV} (hi:rows[i]?=some r):∃ b cap cs,v=.own b 0 rows.length cap∧cellsAt S b=some cs∧(cs.drop (i * sz)).take sz=r∧i * sz+sz≤cs.length:=by
  obtain ⟨hr,⟨rfl,rfl⟩ | ⟨b,cap,cs,rfl,h1,h2,h3,h4,h5,h6⟩⟩:=h
  · simp at hi
  · have hlt:=(List.getElem?_eq_some_iff.1 hi).1
    have hrl:=hr r (List.mem_of_getElem? hi)
    have hle:i * sz+sz≤rows.length * sz:=by
      calc i * sz+sz=(i+1) * sz:=by rw [Nat.succ_mul]
        _≤rows.length * sz:=Nat.mul_le_mul_right _ hlt
    refine ⟨b,cap,cs,rfl,cellsAt_of (objAt_some.2 h2),?_,by omega⟩
    apply List.ext_getElem?
    intro j
    rw [List.getElem?_take]
    by_cases hj:j<sz
    · rw [if_pos hj,List.getElem?_drop]
      have hu:r[j]?=some (r[j]'(by omega)):=List.getElem?_eq_getElem (by omega)
      have:=flat_get hr hi hu
      rw [← h3,List.getElem?_take,if_pos (by omega)] at this
      rw [this,hu]
    · rw [if_neg hj,List.getElem?_eq_none_iff.2 (by omega)]
end
abbrev tyS5:Nat:=106
abbrev tyFa:Nat:=175
def s5C (E:Env15) (L:List Tu) (B:Int) (w:Nat) (pv:AV) (over:Bool):List AV:=[.sl 2 (E.s.map tyC),.sl 6 (L.map tuC),.str E.who.ty,.str E.who.id,.int .i64 B,.int .i64 w,pv,.bool over]
structure RfOk (E:Env15) (L:List Tu) (B:Int) (bc:Nat) (S0:Store):Prop where
  s:OkS E.s
  may:∀ t∈E.s,∀ r∈t.rels,r.refs.length=0→mayE 12 r.ex=true
  nb:sget S0 bc=none
  lst:OkL L
  of:∀ n,E.of n=(ofF L n).map Tu.s
  B:B≤100000
def StR (E:Env15) (L:List Tu) (B:Int) (bc:Nat) (S0:Store) (P:List Nd) (over:Bool) (w:Nat) (S:Store):Prop:=
  (over=false→(w:Int)≤B)∧Sub S0 S∧∃ pv,objAt S bc=some (tyS5,s5C E L B w pv over,8)∧LstW S0 S tyFa 3 pv (P.reverse.map ndC)∧Aside pv bc
def PostR (E:Env15) (L:List Tu) (B:Int) (bc:Nat) (S0:Store) (P:List Nd) (q:Option (Bool×Nat)) (ae:AEnd) (S':Store):Prop:=match q with
  | some (b,w')=>ae=.ret (.bool b)∧StR E L B bc S0 P false w' S'
  | none=>∃ b w',ae=.ret (.bool b)∧StR E L B bc S0 P true w' S'
section
variable {E:Env15} {L:List Tu} {B:Int} {bc:Nat} {S0:Store} {P:List Nd} {ask:Nd→Nat→Option (Bool×Nat)}
def AskR (E:Env15) (L:List Tu) (B:Int) (bc:Nat) (S0:Store) (P:List Nd) (ask:Nd→Nat→Option (Bool×Nat)):Prop:=∀ n w S,StR E L B bc S0 P false w S →
  ACalls PG nr_ref15_Search_ask [.ptr bc 0,.agg (obC n.o),.str n.rl] S (PostR E L B bc S0 P (ask n w))
theorem of_len (hl:OkL L) (n:Nd):(ofF L n).length≤100000:=Nat.le_trans (List.length_filter_le _ _) hl.n
theorem ob_dec (a b:Ob):decide (a=b)=(decide (a.ty=b.ty)&&decide (a.id=b.id)):=by
  rw [Bool.eq_iff_iff]
  cases a;cases b
  simp
theorem c_told (h:RfOk E L B bc S0) (hask:AskR E L B bc S0 P ask) (n:Nd) (w:Nat) (S:Store) (hS:StR E L B bc S0 P false w S) :
    ACalls PG nr_ref15_Search_told [.ptr bc 0,.agg (obC n.o),.str n.rl] S (PostR E L B bc S0 P (foldE (stepT E.who ask) (E.of n) w)):=by
  have hS0:=hS
  obtain ⟨hw,hsub,pv,ho,hl,ha⟩:=hS
  have hc:=cellsAt_of ho
  refine w_ref15_Search_told ?_
  unfold B_ref15_Search_told
  have q:=c_ref13_Of h.lst n
  simp only [obC] at q
  (try simp only [rwp,Nat.reduceAdd,reduceLeDiff,reduceLT,reduceSub,reduceMul,reduceEqDiff,Nat.reduceBEq,Int.reduceAdd,Int.reduceToNat,rwb,reduceIte,obC,hc,s5C])
  refine caW_pure q ?_
  rw [h.of n]
  have hlen:=of_len h.lst n
  generalize ofF L n=l at hlen
  refine LoopP.introS (fun i:Nat=>[(0,.ptr bc 0),(7,.sl 6 (l.map tuC)),(8,.int .i64 i)]) (fun i S'=>i≤l.length∧((∃ w',StR E L B bc S0 P false w' S'∧foldE (stepT E.who ask) ((l.drop i).map Tu.s) w'=foldE (stepT E.who ask) (l.map Tu.s) w)∨(foldE (stepT E.who ask) (l.map Tu.s) w=none∧∃ w',StR E L B bc S0 P true w' S'))) (fun i=>l.length-i) 0 ⟨by omega,.inl ⟨w,hS0,rfl⟩⟩ rfl ?_
  rintro i S' ⟨hi,hI⟩ k hk
  (try simp only [rwp,Nat.reduceAdd,reduceLeDiff,reduceLT,reduceSub,reduceMul,reduceEqDiff,Nat.reduceBEq,Int.reduceAdd,Int.reduceToNat,rwb,reduceIte,C_ref15_Search_told_1])
  rcases hI with ⟨w1,h1,h2⟩ | ⟨h2,w1,h1⟩
  · obtain ⟨pv1,ho1⟩:∃ pv,objAt S' bc=_:=h1.2.2.imp fun _ h=>h.1
    have hc1:=cellsAt_of ho1
    cases a1:decide ((i:Int)<l.length)
    · (try simp only [rwp,Nat.reduceAdd,reduceLeDiff,reduceLT,reduceSub,reduceMul,reduceEqDiff,Nat.reduceBEq,Int.reduceAdd,Int.reduceToNat,rwb,reduceIte,C_ref15_Search_told_2])
      have e:l.drop i=[]:=drop_end (of_decide_eq_false a1)
      rw [e] at h2
      refine rtW_one ?_
      rw [← h2]
      exact ⟨rfl,h1⟩
    · have hlt:=of_decide_eq_true a1
      obtain ⟨t,ht⟩:=get_lt hlt
      rw [drop_cons ht,List.map_cons,foldE_cons] at h2
      (try simp only [rwp,Nat.reduceAdd,reduceLeDiff,reduceLT,reduceSub,reduceMul,reduceEqDiff,Nat.reduceBEq,Int.reduceAdd,Int.reduceToNat,rwb,reduceIte,C_ref15_Search_told_2,hc1,s5C,ht,tuC])
      rw [show stepT E.who ask w1 t.s=if t.s.rl=⟨#[]⟩ then some (decide (t.s.o=E.who),w1) else ask t.s w1 from rfl] at h2
      (refine cnW_intro (fun h0=>?_) (fun h0=>?_)<;>(try simp only [hlc] at h0))
      · rw [if_pos h0] at h2
        (try simp only [rwp,Nat.reduceAdd,reduceLeDiff,reduceLT,reduceSub,reduceMul,reduceEqDiff,Nat.reduceBEq,Int.reduceAdd,Int.reduceToNat,rwb,reduceIte,hc1,s5C,ht,tuC,eqW_def])
        rw [← ob_dec]
        cases a2:decide (t.s.o=E.who)
        · rw [a2] at h2
          (try simp only [rwp,Nat.reduceAdd,reduceLeDiff,reduceLT,reduceSub,reduceMul,reduceEqDiff,Nat.reduceBEq,Int.reduceAdd,Int.reduceToNat,rwb,reduceIte])
          (simp (disch:=omega) only [hwrap64])
          exact rcW_as rfl (hk (i+1) S' ⟨by omega,.inl ⟨w1,h1,h2⟩⟩ (by omega))
        · rw [a2] at h2
          (try simp only [rwp,Nat.reduceAdd,reduceLeDiff,reduceLT,reduceSub,reduceMul,reduceEqDiff,Nat.reduceBEq,Int.reduceAdd,Int.reduceToNat,rwb,reduceIte])
          refine rtW_one ?_
          rw [← h2]
          exact ⟨rfl,h1⟩
      · rw [if_neg h0] at h2
        (try simp only [rwp,Nat.reduceAdd,reduceLeDiff,reduceLT,reduceSub,reduceMul,reduceEqDiff,Nat.reduceBEq,Int.reduceAdd,Int.reduceToNat,rwb,reduceIte,ht,tuC])
        refine caW_of (hask t.s w1 S' h1) ?_
        intro ae S2 hq
        unfold PostR at hq
        cases hs:ask t.s w1 with
        | none=>
          rw [hs] at hq h2
          obtain ⟨b,w2,rfl,h3⟩:=hq
          dsimp only
          cases b
          · (try simp only [rwp,Nat.reduceAdd,reduceLeDiff,reduceLT,reduceSub,reduceMul,reduceEqDiff,Nat.reduceBEq,Int.reduceAdd,Int.reduceToNat,rwb,reduceIte])
            (simp (disch:=omega) only [hwrap64])
            exact rcW_as rfl (hk (i+1) S2 ⟨by omega,.inr ⟨h2.symm,w2,h3⟩⟩ (by omega))
          · (try simp only [rwp,Nat.reduceAdd,reduceLeDiff,reduceLT,reduceSub,reduceMul,reduceEqDiff,Nat.reduceBEq,Int.reduceAdd,Int.reduceToNat,rwb,reduceIte])
            refine rtW_one ?_
            rw [← h2]
            exact ⟨true,w2,rfl,h3⟩
        | some p=>
          obtain ⟨b,w2⟩:=p
          rw [hs] at hq h2
          obtain ⟨rfl,h3⟩:=hq
          dsimp only at h2 ⊢
          cases b
          · (try simp only [rwp,Nat.reduceAdd,reduceLeDiff,reduceLT,reduceSub,reduceMul,reduceEqDiff,Nat.reduceBEq,Int.reduceAdd,Int.reduceToNat,rwb,reduceIte])
            (simp (disch:=omega) only [hwrap64])
            exact rcW_as rfl (hk (i+1) S2 ⟨by omega,.inl ⟨w2,h3,h2⟩⟩ (by omega))
          · (try simp only [rwp,Nat.reduceAdd,reduceLeDiff,reduceLT,reduceSub,reduceMul,reduceEqDiff,Nat.reduceBEq,Int.reduceAdd,Int.reduceToNat,rwb,reduceIte])
            refine rtW_one ?_
            rw [← h2]
            exact ⟨rfl,h3⟩
  · obtain ⟨pv1,ho1⟩:∃ pv,objAt S' bc=_:=h1.2.2.imp fun _ h=>h.1
    have hc1:=cellsAt_of ho1
    cases a1:decide ((i:Int)<l.length)<;>(try simp only [rwp,Nat.reduceAdd,reduceLeDiff,reduceLT,reduceSub,reduceMul,reduceEqDiff,Nat.reduceBEq,Int.reduceAdd,Int.reduceToNat,rwb,reduceIte,C_ref15_Search_told_2,hc1,s5C])<;>refine rtW_one ?_<;>rw [h2]<;>exact ⟨false,w1,rfl,h1⟩
theorem c_expr15 (h:RfOk E L B bc S0) (hask:AskR E L B bc S0 P ask) (o:Ob):∀ (m:Nat) (e:Ex),mayE m e=true→∀ (w:Nat) (S:Store),StR E L B bc S0 P false w S →
    ACalls PG nr_ref15_Search_expr [.ptr bc 0,.agg (obC o),.agg (exC e)] S (PostR E L B bc S0 P (exQ E ask o m e w))
  | 0,e,hm,w,S,hS=>by cases hm
  | m+1,.mk k n ov ks,hm,w,S,hS=>by
    have ih:=c_expr15 h hask o m
    obtain ⟨pv,ho⟩:∃ pv,objAt S bc=_:=hS.2.2.imp fun _ h=>h.1
    have hc:=cellsAt_of ho
    unfold mayE at hm
    refine w_ref15_Search_expr ?_
    unfold B_ref15_Search_expr exQ
    (try simp only [rwp,Nat.reduceAdd,reduceLeDiff,reduceLT,reduceSub,reduceMul,reduceEqDiff,Nat.reduceBEq,Int.reduceAdd,Int.reduceToNat,rwb,reduceIte,obC,exC_eq,Ex.kind,Ex.name,Ex.over,Ex.kids,hc,s5C])
    (refine cnW_intro (fun k0=>?_) (fun k0=>?_)<;>(try simp only [hlc] at k0))
    · rw [if_pos k0]
      refine caW_of (hask ⟨o,n⟩ w _ hS) ?_
      intro ae S' hq
      unfold PostR at hq ⊢
      cases hs:ask ⟨o,n⟩ w with
      | none=>
        rw [hs] at hq
        obtain ⟨b,w2,rfl,h3⟩:=hq
        exact rtW_one ⟨b,w2,rfl,h3⟩
      | some p=>
        obtain ⟨b,w2⟩:=p
        rw [hs] at hq
        obtain ⟨rfl,h1⟩:=hq
        exact rtW_one ⟨rfl,h1⟩
    · rw [if_neg k0] at hm ⊢
      (refine cnW_intro (fun k1=>?_) (fun k1=>?_)<;>(try simp only [hlc] at k1))
      · rw [if_pos k1]
        have q:=c_ref13_Of h.lst ⟨o,n⟩
        simp only [obC] at q
        (try simp only [rwp,Nat.reduceAdd,reduceLeDiff,reduceLT,reduceSub,reduceMul,reduceEqDiff,Nat.reduceBEq,Int.reduceAdd,Int.reduceToNat,rwb,reduceIte,hc,s5C])
        refine caW_pure q ?_
        rw [h.of ⟨o,n⟩]
        have hlen:=of_len h.lst ⟨o,n⟩
        generalize ofF L ⟨o,n⟩=l at hlen
        refine LoopP.introS (fun i:Nat=>[(0,.ptr bc 0),(5,.rop [.int .i64 k,.str n,.str ov,.sl 4 (ks.map exC)]),(7,.sl 6 (l.map tuC)),(8,.int .i64 i)]) (fun i S'=>i≤l.length∧((∃ w',StR E L B bc S0 P false w' S'∧foldE (stepA ov ask) ((l.drop i).map Tu.s) w'=foldE (stepA ov ask) (l.map Tu.s) w)∨(foldE (stepA ov ask) (l.map Tu.s) w=none∧∃ w',StR E L B bc S0 P true w' S'))) (fun i=>l.length-i) 0 ⟨by omega,.inl ⟨w,hS,rfl⟩⟩ rfl ?_
        rintro i S' ⟨hi,hI⟩ kk hk
        (try simp only [rwp,Nat.reduceAdd,reduceLeDiff,reduceLT,reduceSub,reduceMul,reduceEqDiff,Nat.reduceBEq,Int.reduceAdd,Int.reduceToNat,rwb,reduceIte,C_ref15_Search_expr_2])
        rcases hI with ⟨w1,h1,h2⟩ | ⟨h2,w1,h1⟩
        · obtain ⟨pv1,ho1⟩:∃ pv,objAt S' bc=_:=h1.2.2.imp fun _ h=>h.1
          have hc1:=cellsAt_of ho1
          cases a1:decide ((i:Int)<l.length)
          · (try simp only [rwp,Nat.reduceAdd,reduceLeDiff,reduceLT,reduceSub,reduceMul,reduceEqDiff,Nat.reduceBEq,Int.reduceAdd,Int.reduceToNat,rwb,reduceIte,C_ref15_Search_expr_3])
            have e:l.drop i=[]:=drop_end (of_decide_eq_false a1)
            rw [e] at h2
            refine rtW_one ?_
            rw [← h2]
            exact ⟨rfl,h1⟩
          · have hlt:=of_decide_eq_true a1
            obtain ⟨t,ht⟩:=get_lt hlt
            rw [drop_cons ht,List.map_cons,foldE_cons] at h2
            (try simp only [rwp,Nat.reduceAdd,reduceLeDiff,reduceLT,reduceSub,reduceMul,reduceEqDiff,Nat.reduceBEq,Int.reduceAdd,Int.reduceToNat,rwb,reduceIte,C_ref15_Search_expr_3,hc1,s5C,ht,tuC])
            rw [show stepA ov ask w1 t.s=if t.s.rl=⟨#[]⟩ then ask ⟨t.s.o,ov⟩ w1 else some (false,w1) from rfl] at h2
            cases a2:decide (t.s.rl=⟨#[]⟩)
            · rw [if_neg (of_decide_eq_false a2)] at h2
              (try simp only [rwp,Nat.reduceAdd,reduceLeDiff,reduceLT,reduceSub,reduceMul,reduceEqDiff,Nat.reduceBEq,Int.reduceAdd,Int.reduceToNat,rwb,reduceIte])
              (simp (disch:=omega) only [hwrap64])
              exact rcW_as rfl (hk (i+1) S' ⟨by omega,.inl ⟨w1,h1,h2⟩⟩ (by omega))
            · rw [if_pos (of_decide_eq_true a2)] at h2
              (try simp only [rwp,Nat.reduceAdd,reduceLeDiff,reduceLT,reduceSub,reduceMul,reduceEqDiff,Nat.reduceBEq,Int.reduceAdd,Int.reduceToNat,rwb,reduceIte,ht,tuC])
              refine caW_of (hask ⟨t.s.o,ov⟩ w1 S' h1) ?_
              intro ae S2 hq
              unfold PostR at hq
              cases hs:ask ⟨t.s.o,ov⟩ w1 with
              | none=>
                rw [hs] at hq h2
                obtain ⟨b,w2,rfl,h3⟩:=hq
                dsimp only
                cases b
                · (try simp only [rwp,Nat.reduceAdd,reduceLeDiff,reduceLT,reduceSub,reduceMul,reduceEqDiff,Nat.reduceBEq,Int.reduceAdd,Int.reduceToNat,rwb,reduceIte])
                  (simp (disch:=omega) only [hwrap64])
                  exact rcW_as rfl (hk (i+1) S2 ⟨by omega,.inr ⟨h2.symm,w2,h3⟩⟩ (by omega))
                · (try simp only [rwp,Nat.reduceAdd,reduceLeDiff,reduceLT,reduceSub,reduceMul,reduceEqDiff,Nat.reduceBEq,Int.reduceAdd,Int.reduceToNat,rwb,reduceIte])
                  refine rtW_one ?_
                  rw [← h2]
                  exact ⟨true,w2,rfl,h3⟩
              | some p=>
                obtain ⟨b,w2⟩:=p
                rw [hs] at hq h2
                obtain ⟨rfl,h3⟩:=hq
                dsimp only at h2 ⊢
                cases b
                · (try simp only [rwp,Nat.reduceAdd,reduceLeDiff,reduceLT,reduceSub,reduceMul,reduceEqDiff,Nat.reduceBEq,Int.reduceAdd,Int.reduceToNat,rwb,reduceIte])
                  (simp (disch:=omega) only [hwrap64])
                  exact rcW_as rfl (hk (i+1) S2 ⟨by omega,.inl ⟨w2,h3,h2⟩⟩ (by omega))
                · (try simp only [rwp,Nat.reduceAdd,reduceLeDiff,reduceLT,reduceSub,reduceMul,reduceEqDiff,Nat.reduceBEq,Int.reduceAdd,Int.reduceToNat,rwb,reduceIte])
                  refine rtW_one ?_
                  rw [← h2]
                  exact ⟨rfl,h3⟩
        · obtain ⟨pv1,ho1⟩:∃ pv,objAt S' bc=_:=h1.2.2.imp fun _ h=>h.1
          have hc1:=cellsAt_of ho1
          cases a1:decide ((i:Int)<l.length)<;>(try simp only [rwp,Nat.reduceAdd,reduceLeDiff,reduceLT,reduceSub,reduceMul,reduceEqDiff,Nat.reduceBEq,Int.reduceAdd,Int.reduceToNat,rwb,reduceIte,C_ref15_Search_expr_3,hc1,s5C])<;>refine rtW_one ?_<;>rw [h2]<;>exact ⟨false,w1,rfl,h1⟩
      · rw [if_neg k1] at hm ⊢
        have hk:k=2∨k=3∨k=4:=by
          refine Classical.byContradiction fun hn=>?_
          rw [if_neg hn] at hm
          cases hm
        rw [if_pos hk] at hm
        obtain ⟨a,b,rfl⟩:∃ a b,ks=[a,b]:=by
          match ks,hm with
          | [a,b],_=>exact ⟨a,b,rfl⟩
          | [],hm=>cases hm
          | [_],hm=>cases hm
          | _ :: _ :: _ :: _,hm=>cases hm
        simp only [two,Bool.and_eq_true] at hm
        obtain ⟨ma,mb⟩:=hm
        have first:=ih a ma w _ hS
        have second:=fun w2 S2 hS2=>ih b mb w2 S2 hS2
        simp only [obC] at first second
        (try simp only [rwp,Nat.reduceAdd,reduceLeDiff,reduceLT,reduceSub,reduceMul,reduceEqDiff,Nat.reduceBEq,Int.reduceAdd,Int.reduceToNat,rwb,reduceIte,hwR])
        refine caW_of first ?_
        intro ae S1 hq
        unfold PostR at hq
        cases hs:exQ E ask o m a w with
        | none=>
          rw [hs] at hq
          obtain ⟨x,w2,rfl,h3⟩:=hq
          obtain ⟨pv1,ho1⟩:∃ pv,objAt S1 bc=_:=h3.2.2.imp fun _ h=>h.1
          have hc1:=cellsAt_of ho1
          dsimp only
          (try simp only [rwp,Nat.reduceAdd,reduceLeDiff,reduceLT,reduceSub,reduceMul,reduceEqDiff,Nat.reduceBEq,Int.reduceAdd,Int.reduceToNat,rwb,reduceIte,hc1,s5C,C_ref15_Search_expr_1])
          exact rtW_one ⟨x,w2,rfl,h3⟩
        | some p=>
          obtain ⟨x,w1⟩:=p
          rw [hs] at hq
          obtain ⟨rfl,h1⟩:=hq
          obtain ⟨pv1,ho1⟩:∃ pv,objAt S1 bc=_:=h1.2.2.imp fun _ h=>h.1
          have hc1:=cellsAt_of ho1
          dsimp only
          (try simp only [rwp,Nat.reduceAdd,reduceLeDiff,reduceLT,reduceSub,reduceMul,reduceEqDiff,Nat.reduceBEq,Int.reduceAdd,Int.reduceToNat,rwb,reduceIte,hc1,s5C,eqW_def])
          unfold comb
          dsimp only
          cases a1:(x==decide (k=2))
          · rw [if_neg (by simpa using a1)]
            (try simp only [rwp,Nat.reduceAdd,reduceLeDiff,reduceLT,reduceSub,reduceMul,reduceEqDiff,Nat.reduceBEq,Int.reduceAdd,Int.reduceToNat,rwb,reduceIte,C_ref15_Search_expr_1,hwR])
            refine caW_of (second w1 S1 h1) ?_
            intro ae S2 hq
            unfold PostR at hq
            cases hs2:exQ E ask o m b w1 with
            | none=>
              rw [hs2] at hq
              obtain ⟨y,w2,rfl,h3⟩:=hq
              dsimp only
              (try simp only [rwp,Nat.reduceAdd,reduceLeDiff,reduceLT,reduceSub,reduceMul,reduceEqDiff,Nat.reduceBEq,Int.reduceAdd,Int.reduceToNat,rwb,reduceIte])
              (refine cnW_intro (fun k4=>?_) (fun k4=>?_)<;>(try simp only [hlc] at k4))
              · exact rtW_one ⟨!y,w2,rfl,h3⟩
              · exact rtW_one ⟨y,w2,rfl,h3⟩
            | some p2=>
              obtain ⟨y,w2⟩:=p2
              rw [hs2] at hq
              obtain ⟨rfl,h3⟩:=hq
              dsimp only
              (try simp only [rwp,Nat.reduceAdd,reduceLeDiff,reduceLT,reduceSub,reduceMul,reduceEqDiff,Nat.reduceBEq,Int.reduceAdd,Int.reduceToNat,rwb,reduceIte])
              (refine cnW_intro (fun k4=>?_) (fun k4=>?_)<;>(try simp only [hlc] at k4))
              · rw [if_pos k4];exact rtW_one ⟨rfl,h3⟩
              · rw [if_neg k4];exact rtW_one ⟨rfl,h3⟩
          · rw [if_pos (by simpa using a1)]
            (try simp only [rwp,Nat.reduceAdd,reduceLeDiff,reduceLT,reduceSub,reduceMul,reduceEqDiff,Nat.reduceBEq,Int.reduceAdd,Int.reduceToNat,rwb,reduceIte,C_ref15_Search_expr_1])
            exact rtW_one ⟨rfl,h1⟩
theorem tkW_take {K:List AV→Prop}:∀ {n:Nat} {cs:List AV},n≤cs.length→tkW n cs K=K (cs.take n):=by
  intro n
  induction n generalizing K with
  | zero=>intro cs _;rfl
  | succ n ih=>
    intro cs h
    cases cs with
    | nil=>simp at h
    | cons c cs=>rw [tkW_succ,ih (by simpa using h)];rfl
theorem seen {P:List Nd} {n:Nd} {i:Nat} (h:∀ (j:Nat) (m:Nd),j<i→P.reverse[j]?=some m→¬ m=n) (hi:P.length≤i):n ∉ P:=fun hn=>by
  obtain ⟨j,hj⟩:=List.getElem?_of_mem (List.mem_reverse.2 hn)
  have hlt:=(List.getElem?_eq_some_iff.1 hj).1
  rw [List.length_reverse] at hlt
  exact h j n (by omega) hj rfl
theorem nd_dec (a b:Nd):decide (a=b)=(decide (a.o.ty=b.o.ty)&&(decide (a.o.id=b.o.id)&&decide (a.rl=b.rl))):=by
  rw [Bool.eq_iff_iff]
  obtain ⟨⟨a1,a2⟩,a3⟩:=a
  obtain ⟨⟨b1,b2⟩,b3⟩:=b
  simp [and_assoc]
theorem c_ask15_4 (h:RfOk E L B bc S0) {n:Nd} {b over:Bool} {w:Nat} {S:Store} {QF:AEnd→Store→Prop} (hl:P.length≤60) (hS:StR E L B bc S0 (n :: P) over w S) (hQ:∀ S',StR E L B bc S0 P over w S'→QF (.ret (.bool b)) S'):C_ref15_Search_ask_4 QF (.ptr bc 0) (.bool b) S:=by
  obtain ⟨hw,hsub,pv,ho,hlst,ha⟩:=hS
  have hc:=cellsAt_of ho
  rw [List.reverse_cons,List.map_append] at hlst
  obtain ⟨b1,cap,rfl,h1,h2⟩:=hlst.cut
  simp only [List.length_map,List.length_reverse] at h1 h2
  unfold C_ref15_Search_ask_4
  (try simp only [rwp,Nat.reduceAdd,reduceLeDiff,reduceLT,reduceSub,reduceMul,reduceEqDiff,Nat.reduceBEq,Int.reduceAdd,Int.reduceToNat,rwb,reduceIte,hc,s5C,ho,List.length_map,List.length_reverse])
  (simp (disch:=omega) only [hwrap64])
  refine ⟨by omega,by omega,by omega,?_⟩
  have e1:(if cap=0 then 0 else 0)=0:=by split<;>rfl
  have e2:(((P.length+1:Nat):Int)-1).toNat-0=P.length:=by omega
  rw [e1,e2,Nat.sub_zero]
  refine rtW_one (hQ _ ⟨hw,Sub.supd h.nb hsub,_,by rw [objAt_supd,if_pos rfl];rfl,?_,fun b off n cap e=>?_⟩)
  · refine LstW.upd ?_ (fun b off n cap e=>?_) _
    · simpa using h1
    · cases e;exact ha _ _ _ _ rfl
  · cases e;exact ha _ _ _ _ rfl
theorem StR.set (h:RfOk E L B bc S0) {S:Store} {pv:AV} {over:Bool} {w:Nat} {cs:List AV} (hw:over=false→(w:Int)≤B) (hsub:Sub S0 S) (hlst:LstW S0 S tyFa 3 pv (P.reverse.map ndC)) (ha:Aside pv bc) (hcs:cs=s5C E L B w pv over):StR E L B bc S0 P over w (supd S bc (.cells tyS5 cs 8)):=by
  subst hcs
  exact ⟨hw,Sub.supd h.nb hsub,pv,by rw [objAt_supd,if_pos rfl],hlst.upd ha _,ha⟩
theorem c_ask15 (h:RfOk E L B bc S0):∀ (fu:Nat) (P:List Nd),P.length+fu=50→AskR E L B bc S0 P (askQ E B fu P):=by
  intro fu
  induction fu with
  | zero=>
    intro P hl n w S hS
    have hS1:=hS
    obtain ⟨hw,hsub,pv,ho,hlst,ha⟩:=hS
    have hw:=hw rfl
    have hc:=cellsAt_of ho
    have hB:=h.B
    refine w_ref15_Search_ask ?_
    unfold B_ref15_Search_ask askQ
    have q:=c_ref12_Find h.s n.o.ty n.rl
    simp only [scA] at q
    (try simp only [rwp,Nat.reduceAdd,reduceLeDiff,reduceLT,reduceSub,reduceMul,reduceEqDiff,Nat.reduceBEq,Int.reduceAdd,Int.reduceToNat,rwb,reduceIte,obC,hc,s5C])
    refine caW_pure q ?_
    cases hq:findF E.s n.o.ty n.rl with
    | none=>
      dsimp only
      (try simp only [rwp,Nat.reduceAdd,reduceLeDiff,reduceLT,reduceSub,reduceMul,reduceEqDiff,Nat.reduceBEq,Int.reduceAdd,Int.reduceToNat,rwb,reduceIte,zeroR])
      refine alst rfl ?_
      (try simp only [rwp,Nat.reduceAdd,reduceLeDiff,reduceLT,reduceSub,reduceMul,reduceEqDiff,Nat.reduceBEq,Int.reduceAdd,Int.reduceToNat,rwb,reduceIte,hc,s5C,C_ref15_Search_ask_1])
      exact rtW_one ⟨rfl,hS1⟩
    | some p=>
      obtain ⟨i,k,r⟩:=p
      dsimp only
      (try simp only [rwp,Nat.reduceAdd,reduceLeDiff,reduceLT,reduceSub,reduceMul,reduceEqDiff,Nat.reduceBEq,Int.reduceAdd,Int.reduceToNat,rwb,reduceIte,rlC_eq])
      refine alst rfl ?_
      (try simp only [rwp,Nat.reduceAdd,reduceLeDiff,reduceLT,reduceSub,reduceMul,reduceEqDiff,Nat.reduceBEq,Int.reduceAdd,Int.reduceToNat,rwb,reduceIte,hc,s5C,ho,C_ref15_Search_ask_1])
      (simp (disch:=omega) only [hwrap64])
      cases a1:decide (B<(w:Int)+1)
      · (try simp only [rwp,Nat.reduceAdd,reduceLeDiff,reduceLT,reduceSub,reduceMul,reduceEqDiff,Nat.reduceBEq,Int.reduceAdd,Int.reduceToNat,rwb,reduceIte,hlst.ln,List.length_map,List.length_reverse])
        rw [decide_eq_true (show (50:Int)≤P.length by omega)]
        (try simp only [rwp,Nat.reduceAdd,reduceLeDiff,reduceLT,reduceSub,reduceMul,reduceEqDiff,Nat.reduceBEq,Int.reduceAdd,Int.reduceToNat,rwb,reduceIte,C_ref15_Search_ask_2])
        exact rtW_one ⟨false,w+1,rfl,StR.set h (fun h=>by cases h) hsub hlst ha rfl⟩
      · (try simp only [rwp,Nat.reduceAdd,reduceLeDiff,reduceLT,reduceSub,reduceMul,reduceEqDiff,Nat.reduceBEq,Int.reduceAdd,Int.reduceToNat,rwb,reduceIte,C_ref15_Search_ask_2])
        exact rtW_one ⟨false,w+1,rfl,StR.set h (fun h=>by cases h) hsub hlst ha rfl⟩
  | succ fu ih=>
    intro P hl n w S hS
    have hS1:=hS
    obtain ⟨hw,hsub,pv,ho,hlst,ha⟩:=hS
    have hw:=hw rfl
    have hc:=cellsAt_of ho
    have hB:=h.B
    refine w_ref15_Search_ask ?_
    unfold B_ref15_Search_ask askQ
    have q:=c_ref12_Find h.s n.o.ty n.rl
    simp only [scA] at q
    (try simp only [rwp,Nat.reduceAdd,reduceLeDiff,reduceLT,reduceSub,reduceMul,reduceEqDiff,Nat.reduceBEq,Int.reduceAdd,Int.reduceToNat,rwb,reduceIte,obC,hc,s5C])
    refine caW_pure q ?_
    cases hq:findF E.s n.o.ty n.rl with
    | none=>
      dsimp only
      (try simp only [rwp,Nat.reduceAdd,reduceLeDiff,reduceLT,reduceSub,reduceMul,reduceEqDiff,Nat.reduceBEq,Int.reduceAdd,Int.reduceToNat,rwb,reduceIte,zeroR])
      refine alst rfl ?_
      (try simp only [rwp,Nat.reduceAdd,reduceLeDiff,reduceLT,reduceSub,reduceMul,reduceEqDiff,Nat.reduceBEq,Int.reduceAdd,Int.reduceToNat,rwb,reduceIte,hc,s5C,C_ref15_Search_ask_1])
      exact rtW_one ⟨rfl,hS1⟩
    | some p=>
      obtain ⟨i,k,r⟩:=p
      obtain ⟨-,ty,hty,-,hk⟩:=findF_at hq
      have hr:r.refs.length=0→mayE 12 r.ex=true:=h.may ty (List.mem_of_getElem? hty) r (List.mem_of_getElem? hk)
      dsimp only
      (try simp only [rwp,Nat.reduceAdd,reduceLeDiff,reduceLT,reduceSub,reduceMul,reduceEqDiff,Nat.reduceBEq,Int.reduceAdd,Int.reduceToNat,rwb,reduceIte,rlC_eq])
      refine alst rfl ?_
      (try simp only [rwp,Nat.reduceAdd,reduceLeDiff,reduceLT,reduceSub,reduceMul,reduceEqDiff,Nat.reduceBEq,Int.reduceAdd,Int.reduceToNat,rwb,reduceIte,hc,s5C,ho,C_ref15_Search_ask_1])
      (simp (disch:=omega) only [hwrap64])
      cases a1:decide (B<(w:Int)+1)
      · have b1:=of_decide_eq_false a1
        rw [if_neg b1]
        (try simp only [rwp,Nat.reduceAdd,reduceLeDiff,reduceLT,reduceSub,reduceMul,reduceEqDiff,Nat.reduceBEq,Int.reduceAdd,Int.reduceToNat,rwb,reduceIte,hlst.ln,List.length_map,List.length_reverse])
        rw [decide_eq_false (show ¬ (50:Int)≤P.length by omega)]
        (try simp only [rwp,Nat.reduceAdd,reduceLeDiff,reduceLT,reduceSub,reduceMul,reduceEqDiff,Nat.reduceBEq,Int.reduceAdd,Int.reduceToNat,rwb,reduceIte,C_ref15_Search_ask_2])
        have hS2:StR E L B bc S0 P false (w+1) (supd S bc (.cells tyS5 [.sl 2 (E.s.map tyC),.sl 6 (L.map tuC),.str E.who.ty,.str E.who.id,.int .i64 B,.int .i64 ((w:Int)+1),pv,.bool false] 8)):=StR.set h (fun _=>by omega) hsub hlst ha rfl
        generalize supd S bc (.cells tyS5 [.sl 2 (E.s.map tyC),.sl 6 (L.map tuC),.str E.who.ty,.str E.who.id,.int .i64 B,.int .i64 ((w:Int)+1),pv,.bool false] 8)=S2 at hS2
        clear ho hlst hc ha hsub
        refine LoopP.introS (fun i:Nat=>[(0,.ptr bc 0),(2,.str n.rl),(4,.rop [.str n.o.ty,.str n.o.id]),(7,.rop [.str r.name,.sl 2 (r.refs.map rfC),.int .i64 r.ex.kind,.str r.ex.name,.str r.ex.over,.sl 4 (r.ex.kids.map exC)]),(9,.rop [.str n.o.ty,.str n.o.id,.str n.rl]),(10,.int .i64 i)]) (fun i S'=>S'=S2∧i≤P.length∧∀ (j:Nat) (m:Nd),j<i→P.reverse[j]?=some m→¬ m=n) (fun i=>P.length-i) 0 ⟨rfl,by omega,fun j m hj=>by omega⟩ rfl ?_
        rintro i S' ⟨rfl,hi,hno⟩ kk hkk
        have hS3:=hS2
        obtain ⟨-,hsub,pv,ho,hlst,ha⟩:=hS2
        have hc:=cellsAt_of ho
        (try simp only [rwp,Nat.reduceAdd,reduceLeDiff,reduceLT,reduceSub,reduceMul,reduceEqDiff,Nat.reduceBEq,Int.reduceAdd,Int.reduceToNat,rwb,reduceIte,C_ref15_Search_ask_3,hc,s5C,hlst.ln,List.length_map,List.length_reverse])
        (refine cnW_intro (fun hlt=>?_) (fun hlt=>?_)<;>(try simp only [hlc] at hlt))
        · obtain ⟨m,hm⟩:=get_lt (l:=P.reverse) (i:=i) (by rw [List.length_reverse];exact hlt)
          obtain ⟨b1,cap,cs,rfl,hcs,hrow,hle⟩:=hlst.get (i:=i) (r:=ndC m) (by rw [List.getElem?_map,hm];rfl)
          (try simp only [rwp,Nat.reduceAdd,reduceLeDiff,reduceLT,reduceSub,reduceMul,reduceEqDiff,Nat.reduceBEq,Int.reduceAdd,Int.reduceToNat,rwb,reduceIte,hc,s5C,hcs,List.length_map,List.length_reverse,Int.toNat_natCast,Nat.zero_add])
          rw [tkW_take (by rw [List.length_drop];omega),hrow]
          (try simp only [rwp,Nat.reduceAdd,reduceLeDiff,reduceLT,reduceSub,reduceMul,reduceEqDiff,Nat.reduceBEq,Int.reduceAdd,Int.reduceToNat,rwb,reduceIte,ndC,eqs_cons,eqs_nil,eq1_str])
          rw [← nd_dec]
          refine ⟨hlt,?_⟩
          (refine cnW_intro (fun he=>?_) (fun he=>?_)<;>(try simp only [hlc] at he))
          · have hn:n∈P:=by
              rw [← he]
              exact List.mem_reverse.1 (List.mem_of_getElem? hm)
            rw [if_pos hn]
            exact rtW_one ⟨rfl,hS3⟩
          · (simp (disch:=omega) only [hwrap64])
            refine rcW_as rfl (hkk (i+1) _ ⟨rfl,by omega,fun j u hj hu=>?_⟩ (by omega))
            rcases Nat.lt_succ_iff_lt_or_eq.1 hj with h1 | rfl
            · exact hno j u h1 hu
            · rw [hm] at hu;cases hu;exact he
        · have hn:n ∉ P:=seen hno (by omega)
          rw [if_neg hn]
          (try simp only [rwp,Nat.reduceAdd,reduceLeDiff,reduceLT,reduceSub,reduceMul,reduceEqDiff,Nat.reduceBEq,Int.reduceAdd,Int.reduceToNat,rwb,reduceIte,hc,s5C])
          refine LstW.app hsub hlst (x:=ndC n) rfl rfl (by simp only [List.length_map,List.length_reverse];omega) fun pv2 S3 h1 h2 h3=>?_
          obtain ⟨ho2,ha2⟩:=h3 bc _ (objAt_some.1 ho) ha
          have ho2':=objAt_some.2 ho2
          (try simp only [rwp,Nat.reduceAdd,reduceLeDiff,reduceLT,reduceSub,reduceMul,reduceEqDiff,Nat.reduceBEq,Int.reduceAdd,Int.reduceToNat,rwb,reduceIte,ho2',s5C])
          have e1:P.reverse.map ndC++[ndC n]=(n :: P).reverse.map ndC:=by simp
          rw [e1] at h2
          have ho1:=h2.one
          rw [(one_aC ho1).1]
          refine ⟨rfl,by simp [ones,ho1],?_⟩
          have e2:fillA [.sl 2 (E.s.map tyC),.sl 6 (L.map tuC),.str E.who.ty,.str E.who.id,.int .i64 B,.int .i64 ((w+1:Nat):Int),pv,.bool false] 6 [pv2]=s5C E L B (w+1) pv2 false:=rfl
          rw [e2]
          have hS4:StR E L B bc S0 (n :: P) false (w+1) (supd S3 bc (.cells tyS5 (s5C E L B (w+1) pv2 false) 8)):=StR.set h (fun _=>by omega) h1 h2 ha2 rfl
          have hask:=ih (n :: P) (by simp only [List.length_cons];omega)
          have out:∀ (q:Option (Bool×Nat)) (ae:AEnd) (S5:Store),PostR E L B bc S0 (n :: P) q ae S5→(match (generalizing:=false) ae with
              | .ret v=>C_ref15_Search_ask_4 (PostR E L B bc S0 P q) (.ptr bc 0) v S5
              | .pan v=>pqW (PostR E L B bc S0 P q) v S5):=by
            intro q ae S5 hq
            unfold PostR at hq
            cases q with
            | none=>
              obtain ⟨b,w2,rfl,h5⟩:=hq
              exact c_ask15_4 h (by omega) h5 fun S6 h6=>⟨b,w2,rfl,h6⟩
            | some p=>
              obtain ⟨b,w2⟩:=p
              obtain ⟨rfl,h5⟩:=hq
              exact c_ask15_4 h (by omega) h5 fun S6 h6=>⟨rfl,h6⟩
          unfold bodyQ
          cases a2:decide (0<(r.refs.length:Int))
          · have h0:r.refs.length=0:=by have:=of_decide_eq_false a2;omega
            rw [if_pos h0]
            (try simp only [rwp,Nat.reduceAdd,reduceLeDiff,reduceLT,reduceSub,reduceMul,reduceEqDiff,Nat.reduceBEq,Int.reduceAdd,Int.reduceToNat,rwb,reduceIte])
            have q2:=c_expr15 h hask n.o 12 r.ex (hr h0) (w+1) _ hS4
            simp only [obC,exC_eq] at q2
            exact caW_of q2 (out _)
          · have h0:¬ r.refs.length=0:=by have:=of_decide_eq_true a2;omega
            rw [if_neg h0]
            (try simp only [rwp,Nat.reduceAdd,reduceLeDiff,reduceLT,reduceSub,reduceMul,reduceEqDiff,Nat.reduceBEq,Int.reduceAdd,Int.reduceToNat,rwb,reduceIte])
            have q2:=c_told h hask n (w+1) _ hS4
            simp only [obC] at q2
            exact caW_of q2 (out _)
      · have b1:=of_decide_eq_true a1
        rw [if_pos b1]
        (try simp only [rwp,Nat.reduceAdd,reduceLeDiff,reduceLT,reduceSub,reduceMul,reduceEqDiff,Nat.reduceBEq,Int.reduceAdd,Int.reduceToNat,rwb,reduceIte,C_ref15_Search_ask_2])
        exact rtW_one ⟨false,w+1,rfl,StR.set h (fun h=>by cases h) hsub hlst ha rfl⟩
end
end Go.HL
set_option linter.unusedVariables false
set_option linter.unusedSimpArgs false
set_option maxRecDepth 4000
namespace Go.HL
open Nat (reduceLeDiff reduceLT reduceSub reduceMul reduceEqDiff)
theorem pathR_nil {E:Env15} {L:List Tu} {B:Int} {bc:Nat} {S0:Store} (h:RfOk E L B bc S0) (hB:0≤B):StR E L B bc S0 [] false 0 (supd S0 bc (.cells tyS5 (s5C E L B 0 .nils false) 8)):=
  StR.set h (fun _=>by omega) (Sub.refl _) LstW.nil (fun b off n cap e=>by cases e) rfl
theorem c_ref15_Check {s:List Ty} (hs:OkS s) (hN:OkN s) {l:List Tu} (hl:OkL l) (n:Nd) (who:Ob) (B:Int) :
    AFun PG nr_ref15_Check [scA s,.sl 6 (l.map tuC),.agg (obC n.o),.str n.rl,.agg (obC who),.int .i64 B] (chk15 (envE s l who) B n):=by
  intro S
  refine w_ref15_Check ?_
  unfold B_ref15_Check
  have q1:=c_ref12_Check hs hN
  obtain ⟨x,y,z,hc⟩:=chkF_fl s
  have hz:errA (chkF s)=z:=by rw [hc,flA_err]
  rw [hc] at q1
  have q2:=c_ref12_Find hs n.o.ty n.rl
  have q3:=c_ref14_Counts hs hl
  simp only [scA,flA] at q1 q2 q3
  (try simp only [rwp,Nat.reduceAdd,reduceLeDiff,reduceLT,reduceSub,reduceMul,reduceEqDiff,Nat.reduceBEq,Int.reduceAdd,Int.reduceToNat,rwb,reduceIte,scA,obC])
  refine caW_pure q1 ?_
  (try simp only [rwp,Nat.reduceAdd,reduceLeDiff,reduceLT,reduceSub,reduceMul,reduceEqDiff,Nat.reduceBEq,Int.reduceAdd,Int.reduceToNat,rwb,reduceIte])
  unfold chk15
  have bad:∀ b:Bool,(b=true→B<0∨100000<B∨errA (chkF s)≠0)→(b=false→¬ (B<0∨100000<B∨errA (chkF s)≠0)) →
      C_ref15_Check_2 (fun ae S'=>ae=.ret (if B<0∨100000<B∨errA (chkF (envE s l who).s)≠0 then .tup [.bool false,.int .i64 0,.int .i64 1]
        else if findF (envE s l who).s n.o.ty n.rl=none then .tup [.bool false,.int .i64 0,.int .i64 6]
        else match askQ (envE s l who) B 50 [] n 0 with
          | none=>.tup [.bool false,.int .i64 0,.int .i64 12]
          | some (b,w)=>.tup [.bool b,.int .i64 w,.int .i64 0])∧S'=S) (.sl 6 (l.map tuC)) (.str n.rl) (.int .i64 B) (.rop [.sl 2 (s.map tyC)]) (.rop [.str n.o.ty,.str n.o.id]) (.rop [.str who.ty,.str who.id]) (.bool b) S:=by
    intro b hb1 hb2
    cases b
    · have h0:=hb2 rfl
      rw [if_neg (show ¬ (B<0∨100000<B∨errA (chkF (envE s l who).s)≠0) from h0)]
      have hk:errA (chkF s)=0:=by
        refine Classical.byContradiction fun hn=>h0 (.inr (.inr hn))
      have hg:=chk_good hk
      (try simp only [rwp,Nat.reduceAdd,reduceLeDiff,reduceLT,reduceSub,reduceMul,reduceEqDiff,Nat.reduceBEq,Int.reduceAdd,Int.reduceToNat,rwb,reduceIte,C_ref15_Check_2])
      refine caW_pure q2 ?_
      show _
      have he:(envE s l who).s=s:=rfl
      rw [he]
      cases hq:findF s n.o.ty n.rl with
      | none=>
        dsimp only
        (try simp only [rwp,Nat.reduceAdd,reduceLeDiff,reduceLT,reduceSub,reduceMul,reduceEqDiff,Nat.reduceBEq,Int.reduceAdd,Int.reduceToNat,rwb,reduceIte,zeroR])
        refine rtW_three ?_
        simp
      | some p=>
        obtain ⟨i,k,r⟩:=p
        dsimp only
        (try simp only [rwp,Nat.reduceAdd,reduceLeDiff,reduceLT,reduceSub,reduceMul,reduceEqDiff,Nat.reduceBEq,Int.reduceAdd,Int.reduceToNat,rwb,reduceIte,rlC_eq])
        refine caW_pure q3 ?_
        (try simp only [rwp,Nat.reduceAdd,reduceLeDiff,reduceLT,reduceSub,reduceMul,reduceEqDiff,Nat.reduceBEq,Int.reduceAdd,Int.reduceToNat,rwb,reduceIte])
        rw [if_neg (by simp)]
        refine ⟨rfl,rfl,fun bc hbc=>?_⟩
        have hR:RfOk (envE s l who) (countsF s l) B bc S:=⟨hs,sc_may hg.may,hbc,counts_ok hl,fun _=>rfl,by omega⟩
        have q4:=c_ask15 hR 50 [] rfl n 0 _ (pathR_nil hR (by omega))
        simp only [obC] at q4
        refine caW_of q4 ?_
        intro ae S2 hq4
        unfold PostR at hq4
        cases ha:askQ (envE s l who) B 50 [] n 0 with
        | none=>
          rw [ha] at hq4
          obtain ⟨b,w2,rfl,h5⟩:=hq4
          obtain ⟨pv1,ho1⟩:∃ pv,objAt S2 bc=_:=h5.2.2.imp fun _ h=>h.1
          have hc1:=cellsAt_of ho1
          dsimp only
          (try simp only [rwp,Nat.reduceAdd,reduceLeDiff,reduceLT,reduceSub,reduceMul,reduceEqDiff,Nat.reduceBEq,Int.reduceAdd,Int.reduceToNat,rwb,reduceIte,hc1,s5C])
          refine rtW_go S h5.2.1 ?_
          (try simp only [rwp,Nat.reduceAdd,reduceLeDiff,reduceLT,reduceSub,reduceMul,reduceEqDiff,Nat.reduceBEq,Int.reduceAdd,Int.reduceToNat,rwb,reduceIte])
        | some p=>
          obtain ⟨b,w2⟩:=p
          rw [ha] at hq4
          obtain ⟨rfl,h5⟩:=hq4
          obtain ⟨pv1,ho1⟩:∃ pv,objAt S2 bc=_:=h5.2.2.imp fun _ h=>h.1
          have hc1:=cellsAt_of ho1
          dsimp only
          (try simp only [rwp,Nat.reduceAdd,reduceLeDiff,reduceLT,reduceSub,reduceMul,reduceEqDiff,Nat.reduceBEq,Int.reduceAdd,Int.reduceToNat,rwb,reduceIte,hc1,s5C])
          refine rtW_go S h5.2.1 ?_
          (try simp only [rwp,Nat.reduceAdd,reduceLeDiff,reduceLT,reduceSub,reduceMul,reduceEqDiff,Nat.reduceBEq,Int.reduceAdd,Int.reduceToNat,rwb,reduceIte])
    · rw [if_pos (show (B<0∨100000<B∨errA (chkF (envE s l who).s)≠0) from hb1 rfl)]
      (try simp only [rwp,Nat.reduceAdd,reduceLeDiff,reduceLT,reduceSub,reduceMul,reduceEqDiff,Nat.reduceBEq,Int.reduceAdd,Int.reduceToNat,rwb,reduceIte,C_ref15_Check_2])
      exact rtW_three ⟨rfl,rfl⟩
  have hbad:∀ b:Bool,b=(!decide (z=0)||decide (B<0)||decide (100000<B))→(b=true→B<0∨100000<B∨errA (chkF s)≠0)∧(b=false→¬ (B<0∨100000<B∨errA (chkF s)≠0)):=by
    rintro b rfl
    rw [hz]
    constructor
    · intro h
      simp only [Bool.or_eq_true,Bool.not_eq_true',decide_eq_true_eq,decide_eq_false_iff_not] at h
      omega
    · intro h
      simp only [Bool.or_eq_false_iff,Bool.not_eq_false',decide_eq_true_eq,decide_eq_false_iff_not] at h
      omega
  (try simp only [rwp,Nat.reduceAdd,reduceLeDiff,reduceLT,reduceSub,reduceMul,reduceEqDiff,Nat.reduceBEq,Int.reduceAdd,Int.reduceToNat,rwb,reduceIte,C_ref15_Check_1])
  exact bad _ (hbad _ rfl).1 (hbad _ rfl).2
end Go.HL
set_option linter.unusedVariables false
set_option linter.unusedSimpArgs false
set_option maxRecDepth 4000
namespace Go.HL
open Nat (reduceLeDiff reduceLT reduceSub reduceMul reduceEqDiff)
theorem small_ok {s:List Ty} {l:List Tu} (h:smallF s l=true) (hl:∀ t∈l,OkU t):OkN s∧OkL l:=by
  unfold smallF at h
  rw [Bool.and_eq_true,decide_eq_true_eq] at h
  exact ⟨few_N h.1 (by decide),by omega,hl⟩
theorem chk15_tup (E:Env15) (B:Int) (n:Nd):∃ (a:Bool) (w e:Int),chk15 E B n=.tup [.bool a,.int .i64 w,.int .i64 e]:=by
  unfold chk15
  split
  · exact ⟨_,_,_,rfl⟩
  · split
    · exact ⟨_,_,_,rfl⟩
    · split
      · exact ⟨_,_,_,rfl⟩
      · exact ⟨_,_,_,rfl⟩
theorem c_EngineChecks {s:List Ty} (hs:OkS s) {l:List Tu} (hl:∀ t∈l,OkU t) (o:Ob) (rl:ByteArray) (who:Ob) (B:Int) :
    AFun PG nr_law15_EngineChecks [scA s,.sl 6 (l.map tuC),.agg (obC o),.str rl,.agg (obC who),.int .i64 B] (.bool true):=by
  intro S
  refine w_law15_EngineChecks ?_
  unfold B_law15_EngineChecks
  (try simp only [rwp,Nat.reduceAdd,reduceLeDiff,reduceLT,reduceSub,reduceMul,reduceEqDiff,Nat.reduceBEq,Int.reduceAdd,Int.reduceToNat,rwb,reduceIte,scA,obC])
  refine caW_pure c_awake15 ?_
  (try simp only [rwp,Nat.reduceAdd,reduceLeDiff,reduceLT,reduceSub,reduceMul,reduceEqDiff,Nat.reduceBEq,Int.reduceAdd,Int.reduceToNat,rwb,reduceIte])
  have q:=c_law14_Small hs l
  simp only [scA] at q
  refine caW_pure q ?_
  cases hsm:smallF s l
  · (try simp only [rwp,Nat.reduceAdd,reduceLeDiff,reduceLT,reduceSub,reduceMul,reduceEqDiff,Nat.reduceBEq,Int.reduceAdd,Int.reduceToNat,rwb,reduceIte,C_law15_EngineChecks_1,C_law15_EngineChecks_2,C_law15_EngineChecks_3,C_law15_EngineChecks_4])
    exact rtW_one ⟨rfl,rfl⟩
  · obtain ⟨hN,hL⟩:=small_ok hsm hl
    obtain ⟨a,w,e,hc⟩:=chk15_tup (envE s l who) B ⟨o,rl⟩
    have q1:=c_engine_Check hs hN hL ⟨o,rl⟩ who B
    have q2:=c_ref15_Check hs hN hL ⟨o,rl⟩ who B
    rw [hc] at q1 q2
    simp only [scA,obC] at q1 q2
    (try simp only [rwp,Nat.reduceAdd,reduceLeDiff,reduceLT,reduceSub,reduceMul,reduceEqDiff,Nat.reduceBEq,Int.reduceAdd,Int.reduceToNat,rwb,reduceIte,C_law15_EngineChecks_1])
    have fin:∀ b:Bool,C_law15_EngineChecks_4 (fun ae S'=>ae=AEnd.ret (AV.bool true)∧S'=S) (.sl 6 (l.map tuC)) (.str rl) (.int .i64 B) (.rop [.sl 2 (s.map tyC)]) (.rop [.str o.ty,.str o.id]) (.rop [.str who.ty,.str who.id]) (.bool true) (.bool b) S:=by
      intro b
      cases b
      · (try simp only [rwp,Nat.reduceAdd,reduceLeDiff,reduceLT,reduceSub,reduceMul,reduceEqDiff,Nat.reduceBEq,Int.reduceAdd,Int.reduceToNat,rwb,reduceIte,C_law15_EngineChecks_4])
        refine caW_pure q1 ?_
        (try simp only [rwp,Nat.reduceAdd,reduceLeDiff,reduceLT,reduceSub,reduceMul,reduceEqDiff,Nat.reduceBEq,Int.reduceAdd,Int.reduceToNat,rwb,reduceIte])
        refine caW_pure q2 ?_
        (try simp only [rwp,Nat.reduceAdd,reduceLeDiff,reduceLT,reduceSub,reduceMul,reduceEqDiff,Nat.reduceBEq,Int.reduceAdd,Int.reduceToNat,rwb,reduceIte,C_law15_EngineChecks_5,eqW_def])
        exact rtW_one ⟨rfl,rfl⟩
      · (try simp only [rwp,Nat.reduceAdd,reduceLeDiff,reduceLT,reduceSub,reduceMul,reduceEqDiff,Nat.reduceBEq,Int.reduceAdd,Int.reduceToNat,rwb,reduceIte,C_law15_EngineChecks_4])
        exact rtW_one ⟨rfl,rfl⟩
    cases h1:decide (2000<B)
    · (try simp only [rwp,Nat.reduceAdd,reduceLeDiff,reduceLT,reduceSub,reduceMul,reduceEqDiff,Nat.reduceBEq,Int.reduceAdd,Int.reduceToNat,rwb,reduceIte,C_law15_EngineChecks_2,C_law15_EngineChecks_3])
      exact fin _
    · (try simp only [rwp,Nat.reduceAdd,reduceLeDiff,reduceLT,reduceSub,reduceMul,reduceEqDiff,Nat.reduceBEq,Int.reduceAdd,Int.reduceToNat,rwb,reduceIte,C_law15_EngineChecks_2,C_law15_EngineChecks_3])
      exact fin _
end Go.HL
set_option linter.unusedVariables false
set_option linter.unusedSimpArgs false
namespace Go.HL
open Nat (reduceLeDiff reduceLT reduceSub reduceMul reduceEqDiff)
def Old (w:World):Nat→Prop:=fun b=>b<w.heap.size
theorem cell_old {w:World} {a:Addr} {v:Value} (h:w.cell? a=some v):Old w a.block:=by
  unfold Old
  unfold World.cell? at h
  rcases Nat.lt_or_ge a.block w.heap.size with h1 | h1
  · exact h1
  · rw [Array.getElem?_eq_none h1] at h;simp at h
section
variable {H:Type} {enc:TypeId×Value→H} {P:Program} {w:World} {sp:Nat→Bool} {held:Bool} {n:Nat} {t e:TypeId} {cs:List Value} {x:DataW H×List MemPlace}
def Wt {H:Type} (P:Program) (t:TypeId) (d:DataW H):Prop:=∀ k∈d.weights P t,k≤reachBytes
theorem open_str (ht:P.underlying t=some .string) (hw:Wt P t x.1) (h:DataW.trod enc P w 0 sp held n t cs=some x):∃ s:ByteArray,s.size≤1125899906842624∧cs=[.string s]:=by
  cases n with
  | zero=>simp [DataW.trod] at h
  | succ n=>
    unfold DataW.trod at h
    rw [ht] at h
    split at h<;>simp_all
    obtain ⟨h1,rfl⟩:=h
    refine Nat.le_trans (Nat.le_of_eq ?_) (Nat.le_trans (hw _ (by simp only [DataW.weights];exact List.mem_singleton.2 rfl)) (by decide))
    rw [Array.length_toList]
    rfl
theorem open_int' {k:IntKind} (ht:P.underlying t=some (.int k)) (h:DataW.trod enc P w 0 sp held n t cs=some x):∃ z:Int,cs=[.int k z]:=by
  cases n with
  | zero=>simp [DataW.trod] at h
  | succ n=>
    unfold DataW.trod at h
    rw [ht] at h
    split at h<;>simp_all
theorem cells_get {w:World} {a:Addr} {m:Nat} {vs:List Value} (h:w.cells? 0 a m=some vs):vs.length=m∧∀ j,j<m→w.cell? (a.add j)=some (vs.getD j undef):=by
  unfold World.cells? at h
  rw [if_pos (Nat.zero_le _)] at h
  have h1:=mapM_some_length h
  refine ⟨by simpa using h1,fun j hj=>?_⟩
  have h2:=mapM_some_get h j j (by simp [hj])
  rw [h2,List.getD_eq_getElem?_getD]
  simp at h1
  rw [List.getElem?_eq_getElem (by omega)]
  rfl
theorem open_slc {α:Type} {enc':α→List AV} {good:α→Prop} {sz:Nat} (ht:P.underlying t=some (.slice e)) (hc:P.cellsOf e=sz) (hsz:0<sz) (hlen:∀ a,(enc' a).length=sz)
    (hb:1≤P.bytesOf e) (hw:Wt P t x.1) (hE:∀ m,m<n→∀ cs x,Wt P e x.1→DataW.trod enc P w 0 sp held m e cs=some x→∃ a,good a∧RVs (Old w) w (enc' a) cs) (h:DataW.trod enc P w 0 sp held n t cs=some x) :
    ∃ (l:List α) (v:Value),(∀ a∈l,good a)∧l.length≤1125899906842624∧cs=[v]∧RV (Old w) w (.sl sz (l.map enc')) v:=by
  rcases DataW.trod_slice ht h with ⟨rfl,-⟩ | ⟨a,len,cap,elems,rest,m,rfl,rfl,rfl,-,hl,hm,hlen2,hel,-,-⟩
  · exact ⟨[],_,fun a ha=>(by cases ha),Nat.zero_le _,rfl,.sl0 _ _ _⟩
  · have hx:DataW.weights P t (.slice (elems.map (·.1)) (rest.map (·.1)))=((elems.map (·.1)).length+(rest.map (·.1)).length) * P.bytesOf e :: (DataW.weightsAll P e (elems.map (·.1))++DataW.weightsAll P e (rest.map (·.1))):=by
      simp only [DataW.weights]
      rw [ht]
    have hw:∀ k∈DataW.weights P t (.slice (elems.map (·.1)) (rest.map (·.1))),k≤reachBytes:=hw
    rw [hx] at hw
    have key:∀ i,i<len→∃ (y:α) (vs:List Value),good y∧RVs (Old w) w (enc' y) vs∧w.cells? 0 (a.add (i * sz)) sz=some vs:=fun i hi=>by
      have h1:=hel i hi
      rw [hc,List.getElem?_eq_getElem (by omega)] at h1
      obtain ⟨vs,h2,h3⟩:=Option.bind_eq_some_iff.1 h1
      have hwi:Wt P e (elems[i]'(by omega)).1:=fun k hk=>by
        refine hw k ?_
        refine List.mem_cons_of_mem _ (List.mem_append_left _ ?_)
        have:∀ l:List (DataW H×List MemPlace),∀ y∈l,∀ k∈y.1.weights P e,k∈DataW.weightsAll P e (l.map (·.1)):=by
          intro l
          induction l with
          | nil=>intro y hy;cases hy
          | cons z l ih=>
            intro y hy k hk
            simp only [List.map_cons,DataW.weightsAll,List.mem_append]
            rcases List.mem_cons.1 hy with rfl | hy
            · exact .inl hk
            · exact .inr (ih y hy k hk)
        exact this elems _ (List.getElem_mem _) k hk
      obtain ⟨y,k1,k2⟩:=hE m (Nat.lt_succ_self m) vs _ hwi h3
      exact ⟨y,vs,k1,k2,h2⟩
    by_cases h0:len=0
    · subst h0
      exact ⟨[],_,fun a ha=>(by cases ha),Nat.zero_le _,rfl,.sl0 _ _ _⟩
    have ex:∃ l:List α,l.length=len∧∀ i y,l[i]?=some y→∃ vs:List Value,good y∧RVs (Old w) w (enc' y) vs∧w.cells? 0 (a.add (i * sz)) sz=some vs:=by
      have:∀ k,k≤len→∃ l:List α,l.length=k∧∀ (i:Nat) (y:α),l[i]?=some y→∃ vs:List Value,good y∧RVs (Old w) w (enc' y) vs∧w.cells? 0 (a.add (i * sz)) sz=some vs:=by
        intro k
        induction k with
        | zero=>exact fun _=>⟨[],rfl,fun i y h=>by simp at h⟩
        | succ k ih=>
          intro hk
          obtain ⟨l,k1,k2⟩:=ih (by omega)
          obtain ⟨y,vs,j1⟩:=key k (by omega)
          refine ⟨l++[y],by simp [k1],fun i z hz=>?_⟩
          by_cases hi:i<l.length
          · rw [List.getElem?_append_left hi] at hz
            exact k2 i z hz
          · rw [List.getElem?_append_right (by omega)] at hz
            obtain ⟨q,hq⟩:∃ q,i-l.length=q:=⟨_,rfl⟩
            rw [hq] at hz
            cases q with
            | succ q=>simp at hz
            | zero=>
              simp at hz
              subst hz
              have:i=k:=by omega
              subst this
              exact ⟨vs,j1⟩
      exact this len (Nat.le_refl _)
    obtain ⟨l,k1,k2⟩:=ex
    have k3:∀ i,i<len→∃ y vs,l[i]?=some y∧good y∧RVs (Old w) w (enc' y) vs∧w.cells? 0 (a.add (i * sz)) sz=some vs:=fun i hi=>by
      have hy:l[i]?=some l[i]:=List.getElem?_eq_getElem (by omega)
      obtain ⟨vs,h1⟩:=k2 i _ hy
      exact ⟨_,vs,hy,h1⟩
    have hadd:∀ i j,(a.add (i * sz)).add j=a.add (i * sz+j):=fun i j=>add_add _ _ _
    have hll:l.length≤1125899906842624:=by
      have h5:=hw _ List.mem_cons_self
      simp only [List.length_map] at h5
      have h6:elems.length≤(elems.length+rest.length) * P.bytesOf e:=Nat.le_trans (Nat.le_add_right _ _) (Nat.le_mul_of_pos_right _ hb)
      unfold reachBytes at h5
      omega
    refine ⟨l,_,fun y hy=>?_,hll,rfl,.sl sz (l.map enc') a len cap (fun i j=>((w.cells? 0 (a.add (i * sz)) sz).getD []).getD j undef) (by simp [k1]) hl ?_ (fun i r hr=>?_) (fun i j hi hj=>?_) (fun i j r u hr hu=>?_)⟩
    · obtain ⟨i,hi⟩:=List.getElem?_of_mem hy
      obtain ⟨vs,h1,-⟩:=k2 i y hi
      exact h1
    · obtain ⟨y,vs,-,-,-,h4⟩:=k3 0 (by omega)
      have h5:=(cells_get h4).2 0 hsz
      have:=cell_old h5
      rw [add_add] at this
      simpa [Addr.add] using this
    · rw [List.getElem?_map] at hr
      cases hl2:l[i]? with
      | none=>rw [hl2] at hr;cases hr
      | some y=>rw [hl2] at hr;cases hr;exact hlen y
    · obtain ⟨y,vs,-,-,-,h4⟩:=k3 i hi
      rw [h4,← hadd]
      exact (cells_get h4).2 j hj
    · rw [List.getElem?_map] at hr
      cases hl2:l[i]? with
      | none=>rw [hl2] at hr;cases hr
      | some y=>
        rw [hl2] at hr
        cases hr
        obtain ⟨vs,-,h3,h4⟩:=k2 i y hl2
        rw [h4]
        exact h3.2 j u hu
theorem open_stc {fs:Array Field} (ht:P.underlying t=some (.struct fs)) (hw:Wt P t x.1) (h:DataW.trod enc P w 0 sp held n t cs=some x):cs.length=P.cellsOf t∧∃ m,n=m+1 ∧
    ∀ (i:Nat) (f:Field),fs[i]?=some f→∃ y,Wt P f.type y.1∧DataW.trod enc P w 0 sp held m f.type ((cs.drop f.offset).take (P.cellsOf f.type))=some y:=by
  obtain ⟨xs,m,rfl,rfl,hl,hlen,hf⟩:=DataW.trod_struct ht h
  refine ⟨hl,m,rfl,fun i f hi=>?_⟩
  have hil:i<fs.size:=(Array.getElem?_eq_some_iff.1 hi).1
  have h1:=hf i f hi
  have hxi:xs[i]?=some (xs[i]'(by omega)):=List.getElem?_eq_getElem _
  rw [hxi] at h1
  refine ⟨_,fun k hk=>?_,h1⟩
  have hx:DataW.weights P t (.agg (xs.map (·.1)))=DataW.weightsEach P (fs.toList.map (·.type)) (xs.map (·.1)):=by
    simp only [DataW.weights]
    rw [ht]
  have hw:∀ k∈DataW.weights P t (.agg (xs.map (·.1))),k≤reachBytes:=hw
  rw [hx] at hw
  refine hw k ?_
  have key:∀ (ts:List TypeId) (ds:List (DataW H)) (j:Nat) (t:TypeId) (d:DataW H),ts[j]?=some t→ds[j]?=some d→∀ k∈d.weights P t,k∈DataW.weightsEach P ts ds:=by
    intro ts
    induction ts with
    | nil=>intro ds j t d h;simp at h
    | cons a ts ih=>
      intro ds j t d h1 h2 k hk
      cases ds with
      | nil=>simp at h2
      | cons b ds=>
        simp only [DataW.weightsEach,List.mem_append]
        cases j with
        | zero=>simp at h1 h2;subst h1;subst h2;exact .inl hk
        | succ j=>simp at h1 h2;exact .inr (ih ds j t d h1 h2 k hk)
  exact key _ _ i _ _ (by rw [List.getElem?_map,Array.getElem?_toList,hi];rfl) (by rw [List.getElem?_map,hxi];rfl) k hk
end
structure ScT (P:Program) (tS tTs tT tRs tR tFs tF tE tEs tI tN:TypeId):Prop where
  int:P.underlying tI=some (.int .i64)
  str:P.underlying tN=some .string
  ex:∃ f0 f1 f2 f3,P.underlying tE=some (.struct #[f0,f1,f2,f3])∧f0.type=tI∧f0.offset=0∧f1.type=tN∧f1.offset=1∧f2.type=tN∧f2.offset=2∧f3.type=tEs∧f3.offset=3
  exs:P.underlying tEs=some (.slice tE)
  rf:∃ f0 f1,P.underlying tF=some (.struct #[f0,f1])∧f0.type=tN∧f0.offset=0∧f1.type=tN∧f1.offset=1
  rfs:P.underlying tFs=some (.slice tF)
  rl:∃ f0 f1 f2,P.underlying tR=some (.struct #[f0,f1,f2])∧f0.type=tN∧f0.offset=0∧f1.type=tFs∧f1.offset=1∧f2.type=tE∧f2.offset=2
  rls:P.underlying tRs=some (.slice tR)
  ty:∃ f0 f1,P.underlying tT=some (.struct #[f0,f1])∧f0.type=tN∧f0.offset=0∧f1.type=tRs∧f1.offset=1
  tys:P.underlying tTs=some (.slice tT)
  sc:∃ f0,P.underlying tS=some (.struct #[f0])∧f0.type=tTs∧f0.offset=0
  cI:P.cellsOf tI=1
  cN:P.cellsOf tN=1
  cE:P.cellsOf tE=4
  cEs:P.cellsOf tEs=1
  cF:P.cellsOf tF=2
  cFs:P.cellsOf tFs=1
  cR:P.cellsOf tR=6
  cRs:P.cellsOf tRs=1
  cT:P.cellsOf tT=2
  cTs:P.cellsOf tTs=1
  cS:P.cellsOf tS=1
  bE:1≤P.bytesOf tE
  bF:1≤P.bytesOf tF
  bR:1≤P.bytesOf tR
  bT:1≤P.bytesOf tT
section
variable {H:Type} {enc:TypeId×Value→H} {P:Program} {w:World} {sp:Nat→Bool} {held:Bool} {tS tTs tT tRs tR tFs tF tE tEs tI tN:TypeId} (K:ScT P tS tTs tT tRs tR tFs tF tE tEs tI tN)
include K
theorem open_ex:∀ (n:Nat) (cs:List Value) (x:DataW H×List MemPlace),Wt P tE x.1→DataW.trod enc P w 0 sp held n tE cs=some x→∃ e:Ex,OkE e∧RVs (Old w) w (exC e) cs:=by
  intro n
  induction n using Nat.strongRecOn with
  | _ n ih=>
    intro cs x hw h
    obtain ⟨f0,f1,f2,f3,hu,a0,b0,a1,b1,a2,b2,a3,b3⟩:=K.ex
    obtain ⟨hl,m,rfl,hf⟩:=open_stc hu hw h
    rw [K.cE] at hl
    obtain ⟨c0,c1,c2,c3,rfl⟩:∃ c0 c1 c2 c3,cs=[c0,c1,c2,c3]:=by
      match cs,hl with
      | [c0,c1,c2,c3],_=>exact ⟨_,_,_,_,rfl⟩
    obtain ⟨y0,w0,h0⟩:=hf 0 f0 rfl
    obtain ⟨y1,w1,h1⟩:=hf 1 f1 rfl
    obtain ⟨y2,w2,h2⟩:=hf 2 f2 rfl
    obtain ⟨y3,w3,h3⟩:=hf 3 f3 rfl
    rw [a0,b0,K.cI] at h0
    rw [a1,b1,K.cN] at h1
    rw [a2,b2,K.cN] at h2
    rw [a3,b3,K.cEs] at h3
    rw [a1] at w1
    rw [a2] at w2
    rw [a3] at w3
    obtain ⟨z,e0⟩:=open_int' K.int h0
    obtain ⟨s1,g1,e1⟩:=open_str K.str w1 h1
    obtain ⟨s2,g2,e2⟩:=open_str K.str w2 h2
    obtain ⟨l,v,g3,g4,e3,g5⟩:=open_slc (enc':=exC) (good:=OkE) K.exs K.cE (by decide) exC_len K.bE w3 (fun k hk cs x hw h=>ih k (by omega) cs x hw h) h3
    simp at e0 e1 e2 e3
    subst e0;subst e1;subst e2;subst e3
    refine ⟨.mk z s1 s2 l,.mk z s1 s2 l g4 g1 g2 g3,?_⟩
    rw [exC_eq]
    exact .cons (.int _ _) (.cons (.str _) (.cons (.str _) (.cons g5 .nil)))
theorem open_rf {n:Nat} {cs:List Value} {x:DataW H×List MemPlace} (hw:Wt P tF x.1) (h:DataW.trod enc P w 0 sp held n tF cs=some x):∃ f:Rf,OkF f∧RVs (Old w) w (rfC f) cs:=by
  obtain ⟨f0,f1,hu,a0,b0,a1,b1⟩:=K.rf
  obtain ⟨hl,m,rfl,hf⟩:=open_stc hu hw h
  rw [K.cF] at hl
  obtain ⟨c0,c1,rfl⟩:∃ c0 c1,cs=[c0,c1]:=by
    match cs,hl with
    | [c0,c1],_=>exact ⟨_,_,rfl⟩
  obtain ⟨y0,w0,h0⟩:=hf 0 f0 rfl
  obtain ⟨y1,w1,h1⟩:=hf 1 f1 rfl
  rw [a0,b0,K.cN] at h0
  rw [a1,b1,K.cN] at h1
  rw [a0] at w0
  rw [a1] at w1
  obtain ⟨s1,g1,e1⟩:=open_str K.str w0 h0
  obtain ⟨s2,g2,e2⟩:=open_str K.str w1 h1
  simp at e1 e2
  subst e1;subst e2
  exact ⟨⟨s1,s2⟩,⟨g1,g2⟩,.cons (.str _) (.cons (.str _) .nil)⟩
theorem open_rl {n:Nat} {cs:List Value} {x:DataW H×List MemPlace} (hw:Wt P tR x.1) (h:DataW.trod enc P w 0 sp held n tR cs=some x):∃ r:Rl,OkR r∧RVs (Old w) w (rlC r) cs:=by
  obtain ⟨f0,f1,f2,hu,a0,b0,a1,b1,a2,b2⟩:=K.rl
  obtain ⟨hl,m,rfl,hf⟩:=open_stc hu hw h
  rw [K.cR] at hl
  obtain ⟨c0,c1,c2,c3,c4,c5,rfl⟩:∃ c0 c1 c2 c3 c4 c5,cs=[c0,c1,c2,c3,c4,c5]:=by
    match cs,hl with
    | [c0,c1,c2,c3,c4,c5],_=>exact ⟨_,_,_,_,_,_,rfl⟩
  obtain ⟨y0,w0,h0⟩:=hf 0 f0 rfl
  obtain ⟨y1,w1,h1⟩:=hf 1 f1 rfl
  obtain ⟨y2,w2,h2⟩:=hf 2 f2 rfl
  rw [a0,b0,K.cN] at h0
  rw [a1,b1,K.cFs] at h1
  rw [a2,b2,K.cE] at h2
  rw [a0] at w0
  rw [a1] at w1
  rw [a2] at w2
  obtain ⟨s1,g1,e1⟩:=open_str K.str w0 h0
  obtain ⟨l,v,g3,g4,e3,g5⟩:=open_slc (enc':=rfC) (good:=OkF) K.rfs K.cF (by decide) (fun _=>rfl) K.bF w1 (fun k _ cs x hw h=>open_rf K hw h) h1
  obtain ⟨e,g6,g7⟩:=open_ex K _ _ _ w2 h2
  simp at e1 e3
  subst e1;subst e3
  exact ⟨⟨s1,l,e⟩,⟨g1,g4,g3,g6⟩,.cons (.str _) (.cons g5 g7)⟩
theorem open_ty {n:Nat} {cs:List Value} {x:DataW H×List MemPlace} (hw:Wt P tT x.1) (h:DataW.trod enc P w 0 sp held n tT cs=some x):∃ t:Ty,OkT t∧RVs (Old w) w (tyC t) cs:=by
  obtain ⟨f0,f1,hu,a0,b0,a1,b1⟩:=K.ty
  obtain ⟨hl,m,rfl,hf⟩:=open_stc hu hw h
  rw [K.cT] at hl
  obtain ⟨c0,c1,rfl⟩:∃ c0 c1,cs=[c0,c1]:=by
    match cs,hl with
    | [c0,c1],_=>exact ⟨_,_,rfl⟩
  obtain ⟨y0,w0,h0⟩:=hf 0 f0 rfl
  obtain ⟨y1,w1,h1⟩:=hf 1 f1 rfl
  rw [a0,b0,K.cN] at h0
  rw [a1,b1,K.cRs] at h1
  rw [a0] at w0
  rw [a1] at w1
  obtain ⟨s1,g1,e1⟩:=open_str K.str w0 h0
  obtain ⟨l,v,g3,g4,e3,g5⟩:=open_slc (enc':=rlC) (good:=OkR) K.rls K.cR (by decide) rlC_len K.bR w1 (fun k _ cs x hw h=>open_rl K hw h) h1
  simp at e1 e3
  subst e1;subst e3
  exact ⟨⟨s1,l⟩,⟨g1,g4,g3⟩,.cons (.str _) (.cons g5 .nil)⟩
theorem open_sc {v:Value} {d:DataW H} {ps:List MemPlace} (hw:Wt P tS d) (h:DataW.Trod enc P w 0 sp held tS v d ps) (hv:∃ vs,v=.agg vs):∃ s:List Ty,OkS s∧RV (Old w) w (scA s) v:=by
  obtain ⟨n,h⟩:=h
  obtain ⟨vs,rfl⟩:=hv
  obtain ⟨f0,hu,a0,b0⟩:=K.sc
  obtain ⟨hl,m,rfl,hf⟩:=open_stc (x:=(d,ps)) hu hw h
  rw [K.cS] at hl
  obtain ⟨y0,w0,h0⟩:=hf 0 f0 rfl
  rw [a0,b0,K.cTs] at h0
  rw [a0] at w0
  obtain ⟨l,v,g3,g4,e3,g5⟩:=open_slc (enc':=tyC) (good:=OkT) K.tys K.cT (by decide) (fun _=>rfl) K.bT w0 (fun k _ cs x hw h=>open_ty K hw h) h0
  refine ⟨l,⟨g4,g3⟩,?_⟩
  have hc:(Value.agg vs).cells.toList=vs.toList:=by simp [Value.cells]
  rw [hc] at hl e3
  have hvs:vs.toList=[v]:=by
    match hq:vs.toList,hl with
    | [c],_=>rw [hq] at e3;simpa using e3
  refine .agg _ vs (by rw [← Array.length_toList,hvs];rfl) fun i u hi=>?_
  match i,hi with
  | 0,hi=>
    simp at hi
    subst hi
    have:vs.getD 0 undef=v:=by
      have h9:vs=#[v]:=by
        apply Array.toList_inj.1
        rw [hvs]
      rw [h9];rfl
    rw [this]
    exact g5
end
end Go.HL
set_option linter.unusedVariables false
set_option linter.unusedSimpArgs false
namespace Go.HL
open Nat (reduceLeDiff reduceLT reduceSub reduceMul reduceEqDiff)
open Go.ChangeShapes Go.WideShapes Go.RowKit
theorem below_of {R R':Nat→Prop} {S':Store} {w w':World} (h:Step R emp w R' S' w'):Below w.heap.size w w':=⟨h.os,h.tape,h.output,h.size,fun k hk=>(h.keep k hk rfl).1⟩
theorem sim_old (w:World):Sim (Old w) emp w:=⟨fun b o h=>(by cases h),fun b h=>⟨rfl,h⟩⟩
theorem call_true {f:Nat} {args:List AV} {vs:Array Value} {w:World} (hok:callOk PG f=true) (h:AFun PG f args (.bool true)) (hv:RVs (Old w) w args vs.toList):Calls PG f vs w fun en w'=>en=.returned (.bool true)∧Below w.heap.size w w':=by
  refine ((h emp (Old w) w vs (sim_old w) hv).calls hok).mono fun en w' ⟨R',S',ae,h1,h2,h3,h4⟩=>?_
  obtain ⟨rfl,rfl⟩:=h2
  cases en with
  | returned v=>
    have h1:RV R' w' (.bool true) v:=h1
    cases h1
    exact ⟨rfl,below_of h4⟩
  | _=>exact h1.elim
section
variable {H:Type} {enc:TypeId×Value→H} {P:Program}
theorem trodAll_stays {W W':World} (hl:laidOutB P=true) (hb:Below W.heap.size W W') {sp':Nat→Bool}:∀ {ts:List TypeId} {vs:List Value} {ds:List (DataW H)} {ps:List MemPlace},(∀ t∈ts,P.readableRec t=true∧t<P.types.size)→DataW.TrodAll enc P W 0 (fun _=>true) true ts vs ds ps →
    (∀ p∈ps,p.block<W.heap.size)→(∀ p∈ps,sp' p.block=true)→DataW.TrodAll enc P W' 0 sp' true ts vs ds ps
  | [],vs,ds,ps,_,h,_,_=>by
    obtain ⟨rfl,rfl,rfl⟩:=trodAll_nil h
    exact trodAll_mk0
  | t :: ts,vs,ds,ps,ht,h,h1,h2=>by
    obtain ⟨v,vs1,d,ds1,a,b,rfl,rfl,rfl,k1,k2⟩:=trodAll_cons h
    have ht0:=ht t (by simp)
    exact ⟨a,b,WideElems.Trod_stays hl ht0.1 ht0.2 k1 (fun p hp=>hb.same (h1 p (List.mem_append_left _ hp))) (fun p hp=>h2 p (List.mem_append_left _ hp)),
      trodAll_stays hl hb (fun t h=>ht t (List.mem_cons_of_mem _ h)) k2 (fun p hp=>h1 p (List.mem_append_right _ hp)) (fun p hp=>h2 p (List.mem_append_right _ hp)),rfl⟩
theorem post_kept {f:Func} {s:ChangeSpec} {apart fresh handsOn again:Bool} {W W':World} {args:Array Value} {ds gs:List (DataW H)} {before:List MemPlace} {tb:TypeId}
    (hl:laidOutB P=true) (hts:∀ t∈f.params.toList,P.readableRec t=true∧t<P.types.size) (hvars:s.vars=[])
    (hW:DataW.Whole enc P f.params.toList s.vars apart W args.toList ds gs before) (hfn:(s.fn H (ds++gs)).results=[.lit (.bool true)]∧(s.fn H (ds++gs)).args=ds∧(s.fn H (ds++gs)).vars=[])
    (hr:f.resultTypes=#[tb]) (hb:P.underlying tb=some .bool) (hB:Below W.heap.size W W'):s.post enc P f apart fresh handsOn again W args (.bool true) W':=by
  have hlt:=hW.lt
  have hW0:=hW
  obtain ⟨p,q,hA,hV,rfl,hz,hn⟩:=hW
  rw [hvars] at hV
  obtain ⟨rfl,rfl⟩:=trodVars_none hV
  rw [List.append_nil] at *
  obtain ⟨e1,e2,e3⟩:=hfn
  have hold:∀ x∈p,(fun b=>decide (b<W.heap.size)) x.block=true:=fun x hx=>by simpa using hlt x hx
  have hres:∀ (b:Nat) (sp:Nat→Bool) (hd:Bool),DataW.TrodAll enc P W' b sp hd f.resultTypes.toList ((Value.bool true).resultList f.resultTypes.size) [.lit (.bool true)] []:=fun b sp hd=>by
    rw [hr]
    exact trodAll_mk1 (shut_bool hb true)
  refine ⟨ds,[],p,[],p,[],hW0,by rw [List.append_nil,e1];exact hres _ _ _,by rw [List.append_nil,e2];exact trodAll_stays hl hB hts hA hlt hold,by rw [List.append_nil,hvars,e3];exact rfl,hB.frame _,fun _=>?_⟩
  refine ⟨ok_one hr rfl (okWide_bool_mk hb true),_,[],([]++p)++[],⟨[]++p,[],trodAll_append (trodAll_stays hl hB hts hA hlt (fun _ _=>rfl)) (hres _ _ _),by rw [hvars];exact rfl,rfl,?_,?_⟩,?_⟩
  · intro b off hp
    have hp:MemPlace.cell b off∈p:=by simpa using hp
    rw [hB.frozen (p:=⟨b,off,none⟩) (hlt _ hp)]
    exact hz b off hp
  · intro ha
    simpa using hn ha
  · intro x hx _
    simpa using hx
end
end Go.HL
set_option linter.unusedVariables false
set_option linter.unusedSimpArgs false
namespace Go.HL
open Nat (reduceLeDiff reduceLT reduceSub reduceMul reduceEqDiff)
structure TuT (P:Program) (tL tU tD tO tN:TypeId):Prop where
  str:P.underlying tN=some .string
  ob:∃ f0 f1,P.underlying tO=some (.struct #[f0,f1])∧f0.type=tN∧f0.offset=0∧f1.type=tN∧f1.offset=1
  nd:∃ f0 f1,P.underlying tD=some (.struct #[f0,f1])∧f0.type=tO∧f0.offset=0∧f1.type=tN∧f1.offset=2
  tu:∃ f0 f1 f2,P.underlying tU=some (.struct #[f0,f1,f2])∧f0.type=tO∧f0.offset=0∧f1.type=tN∧f1.offset=2∧f2.type=tD∧f2.offset=3
  tus:P.underlying tL=some (.slice tU)
  cN:P.cellsOf tN=1
  cO:P.cellsOf tO=2
  cD:P.cellsOf tD=3
  cU:P.cellsOf tU=6
  bU:1≤P.bytesOf tU
section
variable {H:Type} {enc:TypeId×Value→H} {P:Program} {w:World} {sp:Nat→Bool} {held:Bool} {tL tU tD tO tN:TypeId} (K:TuT P tL tU tD tO tN)
include K
theorem open_ob {n:Nat} {cs:List Value} {x:DataW H×List MemPlace} (hw:Wt P tO x.1) (h:DataW.trod enc P w 0 sp held n tO cs=some x):∃ o:Ob,OkO o∧cs=[.string o.ty,.string o.id]:=by
  obtain ⟨f0,f1,hu,a0,b0,a1,b1⟩:=K.ob
  obtain ⟨hl,m,rfl,hf⟩:=open_stc hu hw h
  rw [K.cO] at hl
  obtain ⟨c0,c1,rfl⟩:∃ c0 c1,cs=[c0,c1]:=by
    match cs,hl with
    | [c0,c1],_=>exact ⟨_,_,rfl⟩
  obtain ⟨y0,w0,h0⟩:=hf 0 f0 rfl
  obtain ⟨y1,w1,h1⟩:=hf 1 f1 rfl
  rw [a0,b0,K.cN] at h0
  rw [a1,b1,K.cN] at h1
  rw [a0] at w0
  rw [a1] at w1
  obtain ⟨s1,g1,e1⟩:=open_str K.str w0 h0
  obtain ⟨s2,g2,e2⟩:=open_str K.str w1 h1
  simp at e1 e2
  subst e1;subst e2
  exact ⟨⟨s1,s2⟩,⟨g1,g2⟩,rfl⟩
theorem open_nd {n:Nat} {cs:List Value} {x:DataW H×List MemPlace} (hw:Wt P tD x.1) (h:DataW.trod enc P w 0 sp held n tD cs=some x):∃ o:Nd,OkD o∧cs=[.string o.o.ty,.string o.o.id,.string o.rl]:=by
  obtain ⟨f0,f1,hu,a0,b0,a1,b1⟩:=K.nd
  obtain ⟨hl,m,rfl,hf⟩:=open_stc hu hw h
  rw [K.cD] at hl
  obtain ⟨c0,c1,c2,rfl⟩:∃ c0 c1 c2,cs=[c0,c1,c2]:=by
    match cs,hl with
    | [c0,c1,c2],_=>exact ⟨_,_,_,rfl⟩
  obtain ⟨y0,w0,h0⟩:=hf 0 f0 rfl
  obtain ⟨y1,w1,h1⟩:=hf 1 f1 rfl
  rw [a0,b0,K.cO] at h0
  rw [a1,b1,K.cN] at h1
  rw [a0] at w0
  rw [a1] at w1
  obtain ⟨o,g1,e1⟩:=open_ob K w0 h0
  obtain ⟨s2,g2,e2⟩:=open_str K.str w1 h1
  simp at e1 e2
  obtain ⟨rfl,rfl⟩:=e1
  subst e2
  exact ⟨⟨o,s2⟩,⟨g1,g2⟩,rfl⟩
theorem open_tu {n:Nat} {cs:List Value} {x:DataW H×List MemPlace} (hw:Wt P tU x.1) (h:DataW.trod enc P w 0 sp held n tU cs=some x):∃ t:Tu,OkU t∧RVs (Old w) w (tuC t) cs:=by
  obtain ⟨f0,f1,f2,hu,a0,b0,a1,b1,a2,b2⟩:=K.tu
  obtain ⟨hl,m,rfl,hf⟩:=open_stc hu hw h
  rw [K.cU] at hl
  obtain ⟨c0,c1,c2,c3,c4,c5,rfl⟩:∃ c0 c1 c2 c3 c4 c5,cs=[c0,c1,c2,c3,c4,c5]:=by
    match cs,hl with
    | [c0,c1,c2,c3,c4,c5],_=>exact ⟨_,_,_,_,_,_,rfl⟩
  obtain ⟨y0,w0,h0⟩:=hf 0 f0 rfl
  obtain ⟨y1,w1,h1⟩:=hf 1 f1 rfl
  obtain ⟨y2,w2,h2⟩:=hf 2 f2 rfl
  rw [a0,b0,K.cO] at h0
  rw [a1,b1,K.cN] at h1
  rw [a2,b2,K.cD] at h2
  rw [a0] at w0
  rw [a1] at w1
  rw [a2] at w2
  obtain ⟨o,g1,e1⟩:=open_ob K w0 h0
  obtain ⟨r,g2,e2⟩:=open_str K.str w1 h1
  obtain ⟨s,g3,e3⟩:=open_nd K w2 h2
  simp at e1 e2 e3
  obtain ⟨rfl,rfl⟩:=e1
  subst e2
  obtain ⟨rfl,rfl,rfl⟩:=e3
  exact ⟨⟨o,r,s⟩,⟨g1,g2,g3⟩,.cons (.str _) (.cons (.str _) (.cons (.str _) (.cons (.str _) (.cons (.str _) (.cons (.str _) .nil)))))⟩
theorem open_obj {v:Value} {d:DataW H} {ps:List MemPlace} (hw:Wt P tO d) (h:DataW.Trod enc P w 0 sp held tO v d ps) (hv:∃ vs,v=.agg vs):∃ o:Ob,OkO o∧RV (Old w) w (.agg (obC o)) v:=by
  obtain ⟨n,h⟩:=h
  obtain ⟨vs,rfl⟩:=hv
  obtain ⟨o,g,e⟩:=open_ob K (x:=(d,ps)) hw h
  have hc:(Value.agg vs).cells.toList=vs.toList:=by simp [Value.cells]
  rw [hc] at e
  have h9:vs=#[.string o.ty,.string o.id]:=Array.toList_inj.1 (by rw [e])
  subst h9
  refine ⟨o,g,.agg _ _ rfl fun i u hi=>?_⟩
  match i,hi with
  | 0,hi=>simp [obC] at hi;subst hi;exact .str _
  | 1,hi=>simp [obC] at hi;subst hi;exact .str _
theorem open_tus {v:Value} {d:DataW H} {ps:List MemPlace} (hw:Wt P tL d) (h:DataW.Trod enc P w 0 sp held tL v d ps) (hv:∃ a b c,v=.slice a b c):∃ l:List Tu,(∀ t∈l,OkU t)∧RV (Old w) w (.sl 6 (l.map tuC)) v:=by
  obtain ⟨n,h⟩:=h
  obtain ⟨a,b,c,rfl⟩:=hv
  obtain ⟨l,v,g1,g2,e,g3⟩:=open_slc (enc':=tuC) (good:=OkU) (x:=(d,ps)) K.tus K.cU (by decide) (fun _=>rfl) K.bU hw (fun k _ cs x hw h=>open_tu K hw h) h
  have:v=.slice a b c:=by
    have:=congrArg List.head? e
    simpa [Value.cells] using this.symm
  subst this
  exact ⟨l,g1,g3⟩
end
end Go.HL
set_option linter.unusedVariables false
namespace Go.Proofs.YtadmdlpmikoghaaGreat
open Go.ChangeShapes Go.WideShapes Go.ChangeAt Go.RowKit Go.HL
theorem own:ownKnob Tryz.prog.godebug=none:=by kernel_rfl
theorem laidOut:laidOutB Tryz.prog=true:=by kernel_rfl
theorem scT:ScT Tryz.prog 24 22 46 44 53 48 171 51 49 3 9 where
  int:=Tryz.underlying3
  str:=Tryz.underlying9
  ex:=⟨_,_,_,_,Tryz.underlying51,rfl,rfl,rfl,rfl,rfl,rfl,rfl,rfl⟩
  exs:=Tryz.underlying49
  rf:=⟨_,_,Tryz.underlying171,rfl,rfl,rfl,rfl⟩
  rfs:=Tryz.underlying48
  rl:=⟨_,_,_,Tryz.underlying53,rfl,rfl,rfl,rfl,rfl,rfl⟩
  rls:=Tryz.underlying44
  ty:=⟨_,_,Tryz.underlying46,rfl,rfl,rfl,rfl⟩
  tys:=Tryz.underlying22
  sc:=⟨_,Tryz.underlying24,rfl,rfl⟩
  cI:=by kernel_rfl
  cN:=by kernel_rfl
  cE:=by kernel_rfl
  cEs:=by kernel_rfl
  cF:=by kernel_rfl
  cFs:=by kernel_rfl
  cR:=by kernel_rfl
  cRs:=by kernel_rfl
  cT:=by kernel_rfl
  cTs:=by kernel_rfl
  cS:=by kernel_rfl
  bE:=of_decide_eq_true (by kernel_rfl)
  bF:=of_decide_eq_true (by kernel_rfl)
  bR:=of_decide_eq_true (by kernel_rfl)
  bT:=of_decide_eq_true (by kernel_rfl)
theorem tuT:TuT Tryz.prog 25 41 39 27 9 where
  str:=Tryz.underlying9
  ob:=⟨_,_,Tryz.underlying27,rfl,rfl,rfl,rfl⟩
  nd:=⟨_,_,Tryz.underlying39,rfl,rfl,rfl,rfl⟩
  tu:=⟨_,_,_,Tryz.underlying41,rfl,rfl,rfl,rfl,rfl,rfl⟩
  tus:=Tryz.underlying25
  cN:=by kernel_rfl
  cO:=by kernel_rfl
  cD:=by kernel_rfl
  cU:=by kernel_rfl
  bU:=of_decide_eq_true (by kernel_rfl)
theorem weights_one {H:Type} {P:Program} {t:TypeId} {d:DataW H} {ts:List TypeId} {ds:List (DataW H)} (h:(DataW.weightsEach P (t :: ts) (d :: ds)).all (·≤reachBytes)=true):Wt P t d∧(DataW.weightsEach P ts ds).all (·≤reachBytes)=true:=by
  simp only [DataW.weightsEach,List.all_append,Bool.and_eq_true,List.all_eq_true,decide_eq_true_eq] at h
  refine ⟨h.1,?_⟩
  rw [List.all_eq_true]
  exact fun x hx=>decide_eq_true (h.2 x hx)
theorem trodAll_six {H:Type} {enc:TypeId×Value→H} {P:Program} {w:World} {base:Nat} {spare:Nat→Bool} {held:Bool} {t0 t1 t2 t3 t4 t5:TypeId} {args:Array Value} {ds:List (DataW H)} {ps:List MemPlace} (h:DataW.TrodAll enc P w base spare held [t0,t1,t2,t3,t4,t5] args.toList ds ps) :
    ∃ v0 v1 v2 v3 v4 v5 d0 d1 d2 d3 d4 d5 p0 p1 p2 p3 p4 p5,args=#[v0,v1,v2,v3,v4,v5]∧ds=[d0,d1,d2,d3,d4,d5]∧ps=p0++(p1++(p2++(p3++(p4++(p5)))))∧DataW.Trod enc P w base spare held t0 v0 d0 p0∧DataW.Trod enc P w base spare held t1 v1 d1 p1∧DataW.Trod enc P w base spare held t2 v2 d2 p2∧DataW.Trod enc P w base spare held t3 v3 d3 p3∧DataW.Trod enc P w base spare held t4 v4 d4 p4∧DataW.Trod enc P w base spare held t5 v5 d5 p5:=by
  obtain ⟨v0,vs0,d0,ds0,p0,q0,hargs,rfl,rfl,h0,g0⟩:=trodAll_cons h
  obtain ⟨v1,vs1,d1,ds1,p1,q1,rfl,rfl,rfl,h1,g1⟩:=trodAll_cons g0
  obtain ⟨v2,vs2,d2,ds2,p2,q2,rfl,rfl,rfl,h2,g2⟩:=trodAll_cons g1
  obtain ⟨v3,vs3,d3,ds3,p3,q3,rfl,rfl,rfl,h3,g3⟩:=trodAll_cons g2
  obtain ⟨v4,vs4,d4,ds4,p4,q4,rfl,rfl,rfl,h4,g4⟩:=trodAll_cons g3
  obtain ⟨v5,vs5,d5,ds5,p5,q5,rfl,rfl,rfl,h5,g5⟩:=trodAll_cons g4
  obtain ⟨rfl,rfl,rfl⟩:=trodAll_nil g5
  exact ⟨v0,v1,v2,v3,v4,v5,d0,d1,d2,d3,d4,d5,p0,p1,p2,p3,p4,p5,by cases args;simp_all,rfl,by simp,h0,h1,h2,h3,h4,h5⟩
end Go.Proofs.YtadmdlpmikoghaaGreat
set_option linter.unusedVariables false
namespace Go.Proofs.YtadmdlpmikoghaaGreat
open Go.ChangeShapes Go.WideShapes Go.ChangeAt Go.RowKit Go.HL
set_option maxRecDepth 100000 in
theorem engineChecks_lifted (os:Os) (started:os.Started) (H:Type) (enc:TypeId×Value→H) :
    ReturnsInHanded {} Tryz.checked os 3 .any (fun w args=>(Rows.engineChecksSpec.pre enc Tryz.prog Tryz.f3 Rows.engineChecksRow.domain false w args∧True)∧sizedMet enc Tryz.prog Tryz.f3 (OpenSpec.ofChange Rows.engineChecksSpec) false w args)
      (Rows.engineChecksSpec.post enc Tryz.prog Tryz.f3 false true false false):=by
  refine returnsInHanded_of_change_and (C:=Tryz.checked) (X:=fun _ _=>True) (fun _ _ _ _ h=>h) own started (by kernel_rfl) Tryz.func3
    (by
      obtain ⟨w,t,i,h1,h2,h3,h4,h5,h6⟩:=ChangeSpec.witness6 (enc:=enc) (C:=Tryz.checked) (os:=os) (f:=3) (fn:=Tryz.f3) (s:=Rows.engineChecksSpec) (conds:=Rows.engineChecksRow.domain) (apart:=false) false ⟨#[],#[.agg #[.slice none 0 0],.slice none 0 0,.agg #[.string ⟨#[]⟩,.string ⟨#[]⟩],.string ⟨#[]⟩,.agg #[.string ⟨#[]⟩,.string ⟨#[]⟩],.int .i64 0],[]⟩ 8 (by kernel_rfl) (by kernel_rfl) (by kernel_rfl) (by kernel_rfl)
      exact ⟨w,t,i,h1,h2,h3,h4,⟨⟨h5.1,trivial⟩,h5.2⟩,h6⟩) ?_
  intro W base args ds gs before hval0 hW hcnd hsz0 _ _
  have hval:∀ (j:Nat) t v,Tryz.f3.params[j]?=some t→args[j]?=some v→Value.okWide Tryz.prog W .any base t v:=hval0
  have hsz:(DataW.weightsEach Tryz.prog (Tryz.f3.params.toList++[]) (ds++gs)).all (·≤reachBytes)=true:=hsz0
  have hW':=hW
  obtain ⟨p,q,hA0,hV,rfl,hfz,hnd⟩:=hW
  have hA:DataW.TrodAll enc Tryz.prog W 0 (fun _=>true) true Tryz.f3.params.toList args.toList ds p:=hA0
  rw [Tryz.params3] at hA hval hsz
  obtain ⟨v0,v1,v2,v3,v4,v5,d0,d1,d2,d3,d4,d5,p0,p1,p2,p3,p4,p5,rfl,rfl,rfl,h0,h1,h2,h3,h4,h5⟩:=trodAll_six hA
  obtain ⟨rfl,rfl⟩:=trodVars_none hV
  obtain ⟨w0,hsz⟩:=weights_one hsz
  obtain ⟨w1,hsz⟩:=weights_one hsz
  obtain ⟨w2,hsz⟩:=weights_one hsz
  obtain ⟨-,hsz⟩:=weights_one hsz
  obtain ⟨w4,hsz⟩:=weights_one hsz
  obtain ⟨-,hsz⟩:=weights_one hsz
  obtain ⟨vs0,hvs0,-⟩:=okWide_struct Tryz.underlying24 (hval 0 24 v0 rfl rfl)
  obtain ⟨a0,hs0,hv0⟩:=open_sc scT w0 h0 ⟨vs0,hvs0⟩
  obtain ⟨a1,hs1,hv1⟩:=open_tus tuT w1 h1 (okWide_slice Tryz.underlying25 (hval 1 25 v1 rfl rfl))
  obtain ⟨vs2,hvs2,-⟩:=okWide_struct Tryz.underlying27 (hval 2 27 v2 rfl rfl)
  obtain ⟨a2,hs2,hv2⟩:=open_obj tuT w2 h2 ⟨vs2,hvs2⟩
  obtain ⟨a3,rfl,-,-,-⟩:=Go.ChangeMaps.open_string Tryz.underlying9 (hval 3 9 v3 rfl rfl) h3
  obtain ⟨vs4,hvs4,-⟩:=okWide_struct Tryz.underlying27 (hval 4 27 v4 rfl rfl)
  obtain ⟨a4,hs4,hv4⟩:=open_obj tuT w4 h4 ⟨vs4,hvs4⟩
  obtain ⟨a5,rfl,rfl,rfl,-⟩:=Go.ChangeShapes.open_int Tryz.underlying3 (hval 5 3 v5 rfl rfl) h5
  clear hA0 hval0 hsz0
  refine (call_true (by kernel_rfl) (c_EngineChecks hs0 hs1 a2 a3 a4 a5) (vs:=#[v0,v1,v2,.string a3,v4,.int .i64 a5]) (.cons hv0 (.cons hv1 (.cons hv2 (.cons (.str _) (.cons hv4 (.cons (.int _ _) .nil))))))).mono fun e W' ⟨he,hB⟩=>?_
  subst he
  have hts:(Tryz.f3.params.toList.all fun t=>Tryz.prog.readableRec t&&decide (t<Tryz.prog.types.size))=true:=by kernel_rfl
  exact ⟨_,rfl,post_kept laidOut (fun t ht=>by have h:=List.all_eq_true.1 hts t ht;rw [Bool.and_eq_true] at h;exact ⟨h.1,of_decide_eq_true h.2⟩) rfl hW' ⟨rfl,rfl,rfl⟩ (tb:=4) (by kernel_rfl) Tryz.underlying4 hB⟩
set_option maxRecDepth 100000 in
theorem engineChecks_p0:(Rows.engineChecksRow.inPlace==Tryz.pinned.checked.prog.inPlace 3)=true:=by kernel_rfl
set_option maxRecDepth 100000 in
theorem engineChecks_p1:(Rows.engineChecksRow.unfollowed==Tryz.pinned.checked.prog.unfollowed 3)=true:=by kernel_rfl
set_option maxRecDepth 100000 in
theorem engineChecks_p2:(Rows.engineChecksRow.recurses==Tryz.pinned.checked.prog.recurses 3)=true:=by kernel_rfl
set_option maxRecDepth 100000 in
theorem engineChecks_p3:(Rows.engineChecksRow.named==Tryz.pinned.checked.prog.varsNamed 3)=true:=by kernel_rfl
set_option maxRecDepth 100000 in
theorem engineChecks_p4:laidOutB Tryz.pinned.checked.prog=true:=by kernel_rfl
set_option maxRecDepth 100000 in
theorem engineChecks_p5:mapsRowed Tryz.pinned.checked.prog=true:=by kernel_rfl
set_option maxRecDepth 100000 in
theorem engineChecks_p6:Tryz.pinned.checked.prog.stopsHeard=true:=by kernel_rfl
set_option maxRecDepth 100000 in
theorem engineChecks_p7:Tryz.pinned.checked.prog.mayEnter=true:=by kernel_rfl
set_option maxRecDepth 100000 in
theorem engineChecks_closed:joinedFacts Tryz.pinned.checked.prog 3 Tryz.f3 Rows.engineChecksSpec Rows.engineChecksRow=true:=by
  unfold joinedFacts
  rw [engineChecks_p0,engineChecks_p1,engineChecks_p2,engineChecks_p3,engineChecks_p4,engineChecks_p5,engineChecks_p6,engineChecks_p7]
  kernel_rfl
theorem engineChecks_holds:Rows.EngineChecksSaid:=
  OpenClaim.holds_of_wide 3 Tryz.f3 rfl rfl rfl rfl rfl rfl rfl ⟨rfl,rfl,rfl,rfl,rfl⟩ rfl rfl rfl rfl rfl (by kernel_rfl) Tryz.func3 engineChecks_closed
    (of_decide_eq_true (by kernel_rfl)) (by unfold Func.isWrapper;first | (rw [if_pos (by decide +kernel)];kernel_rfl) | (rw [if_neg (by decide +kernel)];exact ⟨rfl,rfl⟩))
    (fun os started H enc _=>by
      have h:=engineChecks_lifted os started H enc
      simp only [and_true] at h
      exact h)
end Go.Proofs.YtadmdlpmikoghaaGreat
