/- A part of a proof. -/
import Derived.Test.YtadmdlpmikoghaaGreatKmHlF
set_option linter.unusedSimpArgs false
set_option linter.unusedVariables false
namespace Go.HL
def sxs:SOp→List SX
 | .mov x | .load _ _ x | .nilck x | .eqnil _ x | .not x | .conv _ x | .field _ _ _ x | .faddr _ x | .extr x _ | .len _ x | .mki _ x | .asrt _ _ _ x | .box _ _ x | .boxr _ _ x | .panic x=>[x]
 | .pick c a b=>[c,a,b]
 | .bin _ x y | .eqp _ _ x y | .iaddr _ x y | .idxs x y | .idxa _ _ _ x y | .lookup _ _ _ x y | .max2 x y | .mkslice _ _ _ x y | .store _ x y | .ment _ _ x y | .mdel _ x y | .app _ _ _ x y | .copy _ x y=>[x,y]
 | .slics x lo hi | .slicl _ x lo hi=>x :: (lo.toList++hi.toList)
 | .build _ ps=>ps.map (·.2.2)
 | .mkf _ xs ys=>xs++ys
 | .bslice _ _ xs | .bslicr _ _ xs=>xs
 | .mupd _ m k v=>[m,k,v]
 | .mst m s v=>[m,s,v]
 | .call f xs=>f :: xs
 | .ext _ xs=>xs
 | .alloc .. | .mkmap _=>[]
def extO:SOp→Bool
 | .store .. | .mupd .. | .ment .. | .mst .. | .mdel .. | .call .. | .app .. | .copy .. | .panic _ | .ext ..=>false
 | _=>true
theorem q8c {g g':SX→AV}:∀ (ps:List (Nat×Nat×SX)) (cs:List AV),(∀ x∈ps.map (·.2.2),g x=g' x)→q49 g ps cs=q49 g' ps cs
 | [],cs,_=>rfl
 | (off,n,x) :: r,cs,h=>by
  have h1:g x=g' x:=h x (by simp)
  unfold q49
  rw [h1,q8c r _ fun y hy=>h y (by simp at hy ⊢;exact .inr hy)]
theorem q77 {g g':SX→AV} (d:Nat):∀ (o:Option SX),(∀ x∈o.toList,g x=g' x)→bnd g d o=bnd g' d o
 | none,_=>rfl
 | some x,h=>by simp only [bnd,h x (by simp)]
theorem q5g {g g':SX→AV} {xs:List SX} (h:∀ x∈xs,g x=g' x):xs.map g=xs.map g':=List.map_congr_left h
theorem qev_congr {S:q00} {g g':SX→AV}:∀ (o:SOp),(∀ x∈sxs o,g x=g' x)→qev S g o=qev S g' o:=by
 intro o h
 cases o<;>simp only [sxs,List.mem_cons,List.not_mem_nil,or_false,forall_eq_or_imp,forall_eq,List.mem_append] at h<;>simp only [qev]
 case len k x=>rcases k with _ | _ | k<;>simp only [qev,h]
 case slics x lo hi=>rw [h.1,q77 0 lo fun y hy=>h.2 y (.inl hy)];cases g' x<;>simp only [];rw [q77 _ hi fun y hy=>h.2 y (.inr hy)]
 case slicl sz x lo hi=>rw [h.1,q77 0 lo fun y hy=>h.2 y (.inl hy)];cases g' x<;>simp only []<;>rw [q77 _ hi fun y hy=>h.2 y (.inr hy)]
 case build zs ps=>rw [q8c ps zs h]
 case mkf f xs ys=>rw [q5g fun x hx=>h x (.inl hx),q5g fun x hx=>h x (.inr hx)]
 all_goals simp only [h]
theorem q63 {g g':SX→AV} {sz:Nat}:∀ (xs:List SX),(∀ x∈xs,g x=g' x)→q7x g sz xs→q7x g' sz xs
 | [],_,h=>h
 | x :: xs,hx,h=>⟨(hx x (by simp)) ▸ h.1,(hx x (by simp)) ▸ h.2.1,q63 xs (fun y hy=>hx y (by simp [hy])) h.2.2⟩
theorem flatX_congr {g g':SX→AV}:∀ (xs:List SX),(∀ x∈xs,g x=g' x)→q56 g xs=q56 g' xs
 | [],_=>rfl
 | x :: xs,hx=>by unfold q56;rw [hx x (by simp),flatX_congr xs fun y hy=>hx y (by simp [hy])]
section
variable {P:Program} {Qp:AV→q00→Prop}
theorem aeff_to {o:SOp} {dst dst':Option Nat} {K K':Env→q00→Prop} {e e':Env} {S:q00} (h:∀ x∈sxs o,ev e x=ev e' x)
  (hK:∀ u S',(extO o=true→Sub S S')→K (put e dst u) S'→K' (put e' dst' u) S') (hh:aeff P o dst K Qp e S):aeff P o dst' K' Qp e' S:=by
 by_cases hq:isQ o=true
 ·rw [q5k hq] at hh ⊢
  rw [← qev_congr o h]
  cases hv:qev S (ev e) o with
  | none=>rw [hv] at hh;exact hh
  | some v=>rw [hv] at hh;exact hK v S (fun _=>Sub.refl S) hh
 ·cases o<;>first | exact absurd rfl hq | skip
  case alloc=>exact fun b hb=>hK _ _ (fun _=>Sub.fresh _ hb) (hh b hb)
  case box t n x=>
   have e1:=h x (by simp [sxs])
   simp only [aeff] at hh ⊢
   rw [← e1]
   exact ⟨hh.1,hh.2.1,fun b hb=>hK _ _ (fun _=>Sub.fresh _ hb) (hh.2.2 b hb)⟩
  case boxr t n x=>
   have e1:=h x (by simp [sxs])
   simp only [aeff] at hh ⊢
   rw [← e1]
   exact ⟨hh.1,hh.2.1,hK _ _ (fun _=>Sub.refl S) hh.2.2⟩
  case bslicr t sz xs=>
   have e1:(xs.map fun x=>q08 (ev e x))=xs.map fun x=>q08 (ev e' x):=List.map_congr_left fun x hx=>by rw [h x hx]
   simp only [aeff] at hh ⊢
   rw [← e1]
   exact ⟨q63 xs h hh.1,hK _ _ (fun _=>Sub.refl S) hh.2⟩
  case bslice t sz xs=>
   simp only [aeff] at hh ⊢
   rw [← flatX_congr xs h]
   exact ⟨q63 xs h hh.1,fun b hb=>hK _ _ (fun _=>Sub.fresh _ hb) (hh.2 b hb)⟩
  case mkmap=>exact fun b hb=>hK _ _ (fun _=>Sub.fresh _ hb) (hh b hb)
  case mkslice t bytes z l c=>
   have e1:=h l (by simp [sxs]);have e2:=h c (by simp [sxs])
   obtain ⟨n,h1,h2,h3,h4⟩:=hh
   exact ⟨n,e1 ▸ h1,e2 ▸ h2,h3,fun b hb=>hK _ _ (fun _=>Sub.fresh _ hb) (h4 b hb)⟩
  case store n x v=>
   have e1:=h x (by simp [sxs]);have e2:=h v (by simp [sxs])
   obtain ⟨b,off,t,cs,tot,h1,h2,h3,h4,h5,h6⟩:=hh
   exact ⟨b,off,t,cs,tot,e1 ▸ h1,h2,e2 ▸ h3,h4,e2 ▸ h5,e2 ▸ hK _ _ (fun h=>by cases h) h6⟩
  case mupd M m k v=>
   have e1:=h m (by simp [sxs]);have e2:=h k (by simp [sxs]);have e3:=h v (by simp [sxs])
   obtain ⟨b,es,clk,h1,h2,h3,h4⟩:=hh
   refine ⟨b,es,clk,e1 ▸ h1,h2,e2 ▸ h3,?_⟩
   rw [← e2,← e3]
   split at h4
   ·exact hK _ _ (fun h=>by cases h) h4
   ·exact hK _ _ (fun h=>by cases h) h4
  case ment M z m k=>
   have e1:=h m (by simp [sxs]);have e2:=h k (by simp [sxs])
   obtain ⟨b,es,clk,h1,h2,h3,h4⟩:=hh
   refine ⟨b,es,clk,e1 ▸ h1,h2,e2 ▸ h3,?_⟩
   rw [← e2]
   split at h4
   ·exact hK _ _ (fun h=>by cases h) h4
   ·exact hK _ _ (fun h=>by cases h) h4
  case mst m s v=>
   have e1:=h m (by simp [sxs]);have e2:=h s (by simp [sxs]);have e3:=h v (by simp [sxs])
   obtain ⟨b,M,es,clk,i,kk,vv,bn,h1,h2,h3,h4,h5,h6⟩:=hh
   exact ⟨b,M,es,clk,i,kk,vv,bn,e1 ▸ h1,h2,e2 ▸ h3,h4,h5,e3 ▸ hK _ _ (fun h=>by cases h) h6⟩
  case mdel M m k=>
   have e1:=h m (by simp [sxs]);have e2:=h k (by simp [sxs])
   obtain ⟨b,es,clk,h1,h2,h3,h4⟩:=hh
   exact ⟨b,es,clk,e1 ▸ h1,h2,e2 ▸ h3,e2 ▸ hK _ _ (fun h=>by cases h) h4⟩
  case call f xs=>
   have e1:=h f (by simp [sxs]);have e2:xs.map (ev e)=xs.map (ev e'):=q5g fun x hx=>h x (by simp [sxs,hx])
   obtain ⟨fid,fi,ca,Q,h1,h2,h3⟩:=hh
   refine ⟨fid,fi,ca,Q,e1 ▸ h1,e2 ▸ h2,fun ae S' hq=>?_⟩
   have:=h3 ae S' hq
   cases ae with
   | ret v=>exact hK _ _ (fun h=>by cases h) this
   | pan v=>exact this
  case app t sz bytes s x=>
   have e1:=h s (by simp [sxs]);have e2:=h x (by simp [sxs])
   obtain ⟨m,news,h1,h2,h3⟩:=hh
   refine ⟨m,news,e2 ▸ h1,h2,?_⟩
   rw [← e1]
   split at h3
   ·refine ⟨h3.1,?_⟩
    have h4:=h3.2
    split at h4
    ·exact (if_pos ‹_›).mpr (hK _ _ (fun h=>by cases h) h4)
    ·exact (if_neg ‹_›).mpr fun b cap h5 h6 h7=>hK _ _ (fun h=>by cases h) (h4 b cap h5 h6 h7)
   ·obtain ⟨cs,h4,h5,h6,h7,h8,h9⟩:=h3
    exact ⟨cs,h4,h5,h6,h7,h8,fun b' cap' k1 k2 k3=>hK _ _ (fun h=>by cases h) (h9 b' cap' k1 k2 k3)⟩
   ·exact h3
  case copy sz d x=>
   have e1:=h d (by simp [sxs]);have e2:=h x (by simp [sxs])
   obtain ⟨b,off,n,cap,t,cs,tot,m,news,h1,h2,h3,h4,h5,h6⟩:=hh
   exact ⟨b,off,n,cap,t,cs,tot,m,news,e1 ▸ h1,h2,e2 ▸ h3,h4,h5,hK _ _ (fun h=>by cases h) h6⟩
  case panic x=>
   have e1:=h x (by simp [sxs])
   obtain ⟨t,v,h1,h2⟩:=hh
   exact ⟨t,v,e1 ▸ h1,e1 ▸ h2⟩
  case ext o xs=>
   have e2:xs.map (ev e)=xs.map (ev e'):=q5g fun x hx=>h x (by simp [sxs,hx])
   simp only [aeff] at hh ⊢
   rw [← e2]
   exact xeff_mono (fun v S'=>hK _ _ fun h=>by cases h) hh
def tmpOf:SX→List Nat
 | .t n=>[n]
 | _=>[]
def looks (s:SI):List Nat:=(sxs s.o).flatMap tmpOf++(match s.g with
 | some (t,_)=>[t]
 | none=>[])
theorem looks_ev {s:SI} {e e':Env} (h:∀ t∈looks s,e t=e' t):∀ x∈sxs s.o,ev e x=ev e' x:=fun x hx=>by
 cases x with
 | t n=>exact h n (List.mem_append_left _ (List.mem_flatMap.2 ⟨_,hx,by simp [tmpOf]⟩))
 | c v=>rfl
 | f f=>rfl
theorem aop_to {s:SI} {K K':Env→q00→Prop} {e e':Env} {S:q00} (h:∀ t∈looks s,e t=e' t) (hx:∀ t∈s.x,e t=e' t)
  (hK:∀ u S',(extO s.o=true→Sub S S')→Kept s.x e S S'→K (put e s.d u) S'→K' (put e' s.d u) S') (hh:aop P s K Qp e S):aop P s K' Qp e' S:=by
 have h1:aeff P s.o s.d (KX s.x e S K) Qp e S→aeff P s.o s.d (KX s.x e' S K') Qp e' S:=aeff_to (looks_ev h) fun u S' hsub hk=>by
  obtain ⟨k1,k2⟩:=KX_iff.1 hk
  exact KX_iff.2 ⟨fun t ht b hb=>k1 t ht b (by rw [hx t ht];exact hb),hK u S' hsub k1 k2⟩
 have h2:=hK q06 S (fun _=>Sub.refl S) (Kept.refl _ _ _)
 unfold aop at hh ⊢
 cases hg:s.g with
 | none=>rw [hg] at hh;exact h1 hh
 | some q=>
  obtain ⟨t,want⟩:=q
  have ht:e t=e' t:=h t (List.mem_append_right _ (by rw [hg];simp))
  rw [hg] at hh
  dsimp only at hh ⊢
  rw [← ht]
  split at hh
  ·split at hh
   ·rw [if_pos ‹_›];exact h1 hh
   ·rw [if_neg ‹_›];exact h2 hh
  ·exact h2 hh
  ·exact hh
theorem q93 {s:SI} {K K':Env→q00→Prop} {e:Env} {S:q00} (hK:∀ e' S',K e' S'→K' e' S') (hh:aop P s K Qp e S):aop P s K' Qp e S:=
 aop_to (fun _ _=>rfl) (fun _ _=>rfl) (fun u S' _ _ h=>hK _ _ h) hh
theorem qev_store {S S':q00} {g:SX→AV} {o:SOp} (hl:isL o=false):qev S g o=qev S' g o:=by
 cases o
 case len k x=>
  rcases k with _ | _ | k
  ·rfl
  ·rfl
  ·simp [isL] at hl
 all_goals first
  | rfl
  | simp [isL] at hl
theorem cellsOf_sub {S S':q00} (h:Sub S S') {u:AV} {cs:List AV} (hc:cellsOf S u=some cs):cellsOf S' u=some cs:=by
 unfold cellsOf at hc ⊢
 split at hc
 ·rename_i b off
  cases hb:sget S b with
  | none=>rw [hb] at hc;cases hc
  | some o=>rw [hb] at hc;rw [h b o hb];exact hc
 ·exact hc
 ·cases hc
theorem qev_sub {S S':q00} (h:Sub S S') {g:SX→AV} {o:SOp} {v:AV} (hv:qev S g o=some v):qev S' g o=some v:=by
 by_cases hl:isL o=true
 ·cases o
  case load n ag x=>
   simp only [qev] at hv ⊢
   cases hc:cellsOf S (g x) with
   | none=>rw [hc] at hv;cases hv
   | some cs=>rw [hc] at hv;rw [cellsOf_sub h hc];exact hv
  case lookup K ok z x k=>
   simp only [qev] at hv ⊢
   split at hv
   ·rename_i hk
    rw [if_pos hk]
    split at hv
    ·exact hv
    ·rename_i b hb
     cases hs:sget S b with
     | none=>rw [hs] at hv;cases hv
     | some o=>rw [hs] at hv;rw [h b o hs];exact hv
    ·cases hv
   ·cases hv
  case len k x=>
   rcases k with _ | _ | k
   ·exact hv
   ·exact hv
   ·simp only [qev] at hv ⊢
    split at hv
    ·rename_i b hb
     cases hs:sget S b with
     | none=>rw [hs] at hv;cases hv
     | some o=>rw [hs] at hv;rw [h b o hs];exact hv
    ·cases hv
  all_goals cases hl
 ·rw [← qev_store (by simpa using hl)]
  exact hv
def adr:SOp→Option Nat
 | .load _ _ (.t k) | .lookup _ _ _ (.t k) _ | .len _ (.t k)=>some k
 | _=>none
theorem qev_kept {S S':q00} {e:Env} {o:SOp} {k:Nat} (hk:adr o=some k) (h:∀ b,blk (e k)=some b→sget S' b=sget S b):qev S (ev e) o=qev S' (ev e) o:=by
 cases o<;>simp only [adr] at hk<;>try (cases hk;done)
 case load n ag x=>
  cases x<;>simp only [adr] at hk<;>try (cases hk;done)
  cases hk
  have:cellsOf S (e k)=cellsOf S' (e k):=by
   unfold cellsOf
   cases hv:e k<;>simp only []
   rw [h _ (by rw [hv];rfl)]
  simp only [qev,ev,eget,this]
 case lookup K ok z x y=>
  cases x<;>simp only [adr] at hk<;>try (cases hk;done)
  cases hk
  have e1:ev e (.t k)=e k:=rfl
  simp only [qev,e1]
  cases hv:e k<;>try rfl
  rename_i b
  cases b with
  | none=>rfl
  | some b=>dsimp only;rw [h b (by rw [hv];rfl)]
 case len q x=>
  cases x<;>simp only [adr] at hk<;>try (cases hk;done)
  cases hk
  rcases q with _ | _ | q
  ·rfl
  ·rfl
  ·have e1:ev e (.t k)=e k:=rfl
   simp only [qev,e1]
   cases hv:e k<;>try rfl
   rename_i b
   cases b with
   | none=>rfl
   | some b=>dsimp only;rw [h b (by rw [hv];rfl)]
def Yld (s:SI) (v:AV) (e:Env) (S:q00):Prop:=match s.g with
 | none=>qev S (ev e) s.o=some v
 | some (t,want)=>match e t with
  | .bool b=>if b=want then qev S (ev e) s.o=some v else v=q06
  | .tup []=>v=q06
  | _=>False
theorem Yld.stay {s:SI} {v:AV} {e e':Env} {S S':q00} (h:Yld s v e S) (he:∀ t∈looks s,e t=e' t) (hS:isL s.o=true→Sub S S'∨∃ k,adr s.o=some k∧∀ b,blk (e k)=some b→sget S' b=sget S b):Yld s v e' S':=by
 have h1:qev S (ev e) s.o=some v→qev S' (ev e') s.o=some v:=fun hv=>by
  rw [← qev_congr s.o (looks_ev he)]
  by_cases hl:isL s.o=true
  ·rcases hS hl with h1 | ⟨k,h1,h2⟩
   ·exact qev_sub h1 hv
   ·rw [← qev_kept h1 h2];exact hv
  ·rw [← qev_store (by simpa using hl)];exact hv
 unfold Yld at h ⊢
 cases hg:s.g with
 | none=>rw [hg] at h;exact h1 h
 | some q=>
  obtain ⟨t,want⟩:=q
  have ht:e t=e' t:=he t (List.mem_append_right _ (by rw [hg];simp))
  rw [hg] at h
  dsimp only at h ⊢
  rw [← ht]
  split at h
  ·split at h
   ·rw [if_pos ‹_›];exact h1 h
   ·rw [if_neg ‹_›];exact h
  ·exact h
  ·exact h
theorem Yld.aop {s:SI} {v:AV} {e:Env} {S:q00} (hq:isQ s.o=true) (h:Yld s v e S) {K:Env→q00→Prop} (hK:K (put e s.d v) S):aop P s K Qp e S:=by
 have hx:KX s.x e S K (put e s.d v) S:=KX_iff.2 ⟨Kept.refl _ _ _,hK⟩
 have h1:qev S (ev e) s.o=some v→aeff P s.o s.d (KX s.x e S K) Qp e S:=fun hv=>by
  rw [q5k hq,hv]
  exact hx
 unfold Yld at h
 unfold Go.HL.aop
 cases hg:s.g with
 | none=>rw [hg] at h;exact h1 h
 | some q=>
  obtain ⟨t,want⟩:=q
  rw [hg] at h
  dsimp only at h ⊢
  split at h
  ·rename_i b ht
   rw [ht]
   dsimp only
   split at h
   ·rw [if_pos ‹_›];exact h1 h
   ·rw [if_neg ‹_›];subst h;exact hK
  ·rename_i ht
   rw [ht]
   subst h;exact hK
  ·exact h.elim
theorem Yld.of {s:SI} {e:Env} {S:q00} (hq:isQ s.o=true) {K:Env→q00→Prop} (h:Go.HL.aop P s K Qp e S):∃ v,Yld s v e S∧K (put e s.d v) S:=by
 have hx:∀ v,KX s.x e S K (put e s.d v) S→K (put e s.d v) S:=fun v hk=>(KX_iff.1 hk).2
 have h1:aeff P s.o s.d (KX s.x e S K) Qp e S→∃ v,qev S (ev e) s.o=some v∧K (put e s.d v) S:=fun hh=>by
  rw [q5k hq] at hh
  cases hv:qev S (ev e) s.o with
  | none=>rw [hv] at hh;exact hh.elim
  | some v=>rw [hv] at hh;exact ⟨v,rfl,hx v hh⟩
 unfold Yld
 unfold Go.HL.aop at h
 cases hg:s.g with
 | none=>rw [hg] at h;exact h1 h
 | some q=>
  obtain ⟨t,want⟩:=q
  rw [hg] at h
  dsimp only at h ⊢
  split at h
  ·split at h
   ·rename_i b ht hb
    obtain ⟨v,h2,h3⟩:=h1 h
    exact ⟨v,by rw [ht];dsimp only;rw [if_pos hb];exact h2,h3⟩
   ·rename_i b ht hb
    exact ⟨q06,by rw [ht];dsimp only;rw [if_neg hb],h⟩
  ·rename_i ht
   exact ⟨q06,by rw [ht],h⟩
  ·exact h.elim
variable {md:Region.Mode} {ops:Array Oper} {sis:List SI} {K:Env→q00→Prop}
def unset (sis:List SI) (listed:Array Bool) (t:Nat):Bool:=(List.range sis.length).any fun k=>!listed.getD k true&&(match sis[k]? with
 | some s=>s.d==some t
 | none=>false)
theorem unset_iff {listed:Array Bool} {t:Nat}:unset sis listed t=true↔∃ k s,sis[k]?=some s∧s.d=some t∧listed.getD k true=false:=by
 simp only [unset,List.any_eq_true,List.mem_range,Bool.and_eq_true,Bool.not_eq_true']
 constructor
 ·rintro ⟨k,hk,h1,h2⟩
  rw [List.getElem?_eq_getElem hk] at h2
  exact ⟨k,_,List.getElem?_eq_getElem hk,by simpa using h2,h1⟩
 ·rintro ⟨k,s,h1,h2,h3⟩
  refine ⟨k,(List.getElem?_eq_some_iff.1 h1).1,h3,?_⟩
  rw [h1]
  simp [h2]
def sAt (sis:List SI) (listed:Array Bool) (s:SI):SI:={ s with x:=s.x.filter fun t=>!unset sis listed t }
theorem q7d {listed:Array Bool} {j t:Nat} (h:unset sis listed t=false):unset sis (listed.setIfInBounds j true) t=false:=by
 rw [Bool.eq_false_iff] at h ⊢
 intro hu
 obtain ⟨k,s,h1,h2,h3⟩:=unset_iff.1 hu
 refine h (unset_iff.2 ⟨k,s,h1,h2,?_⟩)
 by_cases hjk:j=k
 ·subst hjk
  rcases Nat.lt_or_ge j listed.size with hlt | hge
  ·simp [hlt] at h3
  ·simp [Array.getElem?_eq_none hge] at h3
 ·rw [getD_set_ne true hjk] at h3;exact h3
theorem unset_set {listed:Array Bool} {j t:Nat} {sj:SI} (hj:sis[j]?=some sj) (hne:sj.d≠some t):unset sis (listed.setIfInBounds j true) t=unset sis listed t:=by
 cases h:unset sis listed t with
 | false=>exact q7d h
 | true=>
  obtain ⟨k,s,h1,h2,h3⟩:=unset_iff.1 h
  have hjk:j≠k:=by rintro rfl;rw [hj] at h1;cases h1;exact hne h2
  exact unset_iff.2 ⟨k,s,h1,h2,by rw [getD_set_ne true hjk];exact h3⟩
theorem sAt_set {listed:Array Bool} {j:Nat} {sj:SI} (hj:sis[j]?=some sj) {s:SI} (h:∀ t∈s.x,sj.d≠some t):sAt sis (listed.setIfInBounds j true) s=sAt sis listed s:=by
 unfold sAt
 congr 1
 exact List.filter_congr fun t ht=>by rw [unset_set hj (h t ht)]
def aAny (P:Program) (md:Region.Mode) (ops:Array Oper) (sis:List SI) (K:Env→q00→Prop) (Qp:AV→q00→Prop):Nat→Array Bool→Env→q00→Prop
 | 0,listed,e,S=>Region.ready md ops listed=[]→K e S
 | n+1,listed,e,S=>(Region.ready md ops listed=[]→K e S) ∧
  ∀ i∈Region.ready md ops listed,∀ s,sis[i]?=some s→aop P (sAt sis listed s) (aAny P md ops sis K Qp n (listed.setIfInBounds i true)) Qp e S
def apart (i j:SI):Bool:=
 (match i.d with
  | some d=>!(looks j).contains d&&j.d != some d
  | none=>true) &&
 (match j.d with
  | some d=>!(looks i).contains d
  | none=>true)
theorem apart_spec {i j:SI} (h:apart i j=true):(∀ d,i.d=some d→d ∉ looks j)∧(∀ d,i.d=some d→j.d≠some d)∧(∀ d,j.d=some d→d ∉ looks i):=by
 refine ⟨fun d hd=>?_,fun d hd=>?_,fun d hd=>?_⟩<;>simp [apart,hd] at h
 ·exact h.1.1
 ·exact h.1.2
 ·exact h.2
theorem put_get {e:Env} {d:Option Nat} {v:AV} {t:Nat} (h:∀ k,d=some k→k≠t):put e d v t=e t:=by
 cases d with
 | none=>rfl
 | some k=>simp [put,q1h,h k rfl]
theorem put_comm {e:Env} {d d':Option Nat} {u v:AV} (h:∀ k,d=some k→d'≠some k):put (put e d u) d' v=put (put e d' v) d u:=by
 cases d with
 | none=>rfl
 | some k=>cases d' with
  | none=>rfl
  | some k'=>
   have hne:k≠k':=fun e=>h k rfl (by rw [e])
   funext t
   simp only [put,q1h]
   by_cases h1:k'=t
   ·rw [if_pos h1,if_pos h1,if_neg (by rw [← h1];exact hne)]
   ·rw [if_neg h1,if_neg h1]
def Waits (md:Region.Mode) (ops:Array Oper) (i:Nat) (r:List Nat):Prop:=∀ j∈r,∀ o,ops[j]?=some o→∃ e∈o.after,Region.binds md e=true∧(e.on=i∨e.on∈r)
theorem Waits.not {i:Nat} {r:List Nat} (h:Waits md ops i r) {listed:Array Bool} (hi:listed.getD i false=false) (hr:∀ j∈r,listed.getD j false=false) {j:Nat} (hj:j∈Region.ready md ops listed):j ∉ r:=fun hm=>by
 obtain ⟨_,o,ho,hall⟩:=mem_ready.1 hj
 obtain ⟨e,he,hb,hor⟩:=h j hm o ho
 have:=hall e he hb
 rcases hor with h1 | h1
 ·rw [h1,hi] at this;cases this
 ·rw [hr _ h1] at this;cases this
theorem q7n {listed:Array Bool} {i:Nat} (h:listed.getD i true=false):listed.getD i false=false:=by
 rcases Nat.lt_or_ge i listed.size with h' | h'
 ·simpa [h'] using h
 ·simp [Array.getElem?_eq_none h'] at h
theorem set_false {listed:Array Bool} {i j:Nat} (h:listed.getD j false=false) (hne:i≠j):(listed.setIfInBounds i true).getD j false=false:=by
 rw [getD_set_ne false hne];exact h
def left:List Bool→Nat
 | []=>0
 | b :: r=>(if b then 0 else 1)+left r
theorem left_set:∀ {l:List Bool} {i:Nat},l[i]?=some false→left (l.set i true)+1=left l
 | [],i,h=>by cases h
 | b :: r,0,h=>by simp at h;subst h;simp [left];omega
 | b :: r,i+1,h=>by
  have:=left_set (l:=r) (i:=i) (by simpa using h)
  simp only [List.set_cons_succ,left]
  omega
theorem q38 {listed:Array Bool} {i:Nat} (h:listed.getD i true=false):left (listed.setIfInBounds i true).toList+1=left listed.toList:=by
 have h1:listed.toList[i]?=some false:=by
  rcases Nat.lt_or_ge i listed.size with h' | h'
  ·simpa [h'] using h
  ·simp [Array.getElem?_eq_none h'] at h
 rw [Array.toList_setIfInBounds]
 exact left_set h1
theorem left_pos {listed:Array Bool} {i:Nat} (h:listed.getD i true=false):0<left listed.toList:=by
 have:=q38 h
 omega
theorem aop_less {s:SI} {x:List Nat} (hx:∀ t∈x,t∈s.x) {K:Env→q00→Prop} {e:Env} {S:q00} (h:aop P s K Qp e S):aop P { s with x:=x } K Qp e S:=by
 have h1:aeff P s.o s.d (KX s.x e S K) Qp e S→aeff P s.o s.d (KX x e S K) Qp e S:=aeff_to (fun _ _=>rfl) fun u S' _ hk=>by
  obtain ⟨k1,k2⟩:=KX_iff.1 hk
  exact KX_iff.2 ⟨fun t ht b hb=>k1 t (hx t ht) b hb,k2⟩
 unfold aop at h ⊢
 dsimp only
 split
 ·rename_i hg
  rw [hg] at h
  exact h1 h
 ·rename_i t want hg
  rw [hg] at h
  dsimp only at h
  split
  ·rename_i b hb
   rw [hb] at h
   dsimp only at h
   split
   ·rw [if_pos ‹_›] at h;exact h1 h
   ·rw [if_neg ‹_›] at h;exact h
  ·rename_i hb
   rw [hb] at h
   exact h
  ·rename_i q1 q2
   split at h
   ·rename_i b hb;exact absurd hb (q1 b)
   ·rename_i hb;exact absurd hb q2
   ·exact h
theorem aAny_first {i:Nat} {si:SI} (hi:sis[i]?=some si) (hq:isQ si.o=true) {r:List Nat} (hw:Waits md ops i r) :
  ∀ (n:Nat) (listed:Array Bool) (e:Env) (S:q00) (v:AV),left listed.toList≤n+1 →
   (∀ j sj,sis[j]?=some sj→j≠i→listed.getD j true=false→j ∉ r→apart si sj=true∧(isL si.o=true→extO sj.o=true∨∃ k,adr si.o=some k∧k∈sj.x∧unset sis listed k=false)) →
   (∀ j∈r,listed.getD j false=false)→i∈Region.ready md ops listed→Yld si v e S →
   aAny P md ops sis K Qp n (listed.setIfInBounds i true) (put e si.d v) S→aAny P md ops sis K Qp (n+1) listed e S:=by
 intro n
 induction n with
 | zero=>
  intro listed e S v hlf hfree hr hrd hy H
  refine ⟨fun h=>(by rw [h] at hrd;cases hrd),fun j hj sj hsj=>?_⟩
  by_cases hji:j=i
  ·subst hji
   rw [hi] at hsj;cases hsj
   exact Yld.aop (s:=sAt sis listed si) hq hy H
  ·have h1:=q38 (mem_ready.1 hrd).1
   have h2:=left_pos (mem_ready.1 (ready_mono hj hji)).1
   omega
 | succ n ih=>
  intro listed e S v hlf hfree hr hrd hy H
  refine ⟨fun h=>(by rw [h] at hrd;cases hrd),fun j hj sj hsj=>?_⟩
  by_cases hji:j=i
  ·subst hji
   rw [hi] at hsj;cases hsj
   exact Yld.aop (s:=sAt sis listed si) hq hy H
  ·obtain ⟨h0,_⟩:=mem_ready.1 hj
   have hi0:=q7n (mem_ready.1 hrd).1
   have hnr:=hw.not hi0 hr hj
   obtain ⟨hap,hL⟩:=hfree j sj hsj hji h0 hnr
   obtain ⟨a1,a2,a3⟩:=apart_spec hap
   have h1:=H.2 j (ready_mono hj hji) sj hsj
   have hX':∀ t∈(sAt sis listed sj).x,put e si.d v t=e t:=fun t ht=>put_get fun k hk e=>by
    have:=(List.mem_filter.1 ht).2
    rw [Bool.not_eq_true',Bool.eq_false_iff] at this
    exact this (unset_iff.2 ⟨i,si,hi,by rw [hk,e],(mem_ready.1 hrd).1⟩)
   have hXs:∀ t∈(sAt sis listed sj).x,t∈(sAt sis (listed.setIfInBounds i true) sj).x:=fun t ht=>by
    obtain ⟨k1,k2⟩:=List.mem_filter.1 ht
    exact List.mem_filter.2 ⟨k1,by rw [Bool.not_eq_true'] at k2 ⊢;exact q7d k2⟩
   have h1':aop P { sAt sis (listed.setIfInBounds i true) sj with x:=(sAt sis listed sj).x } (aAny P md ops sis K Qp n ((listed.setIfInBounds i true).setIfInBounds j true)) Qp (put e si.d v) S:=aop_less hXs h1
   refine aop_to (s:=sAt sis listed sj) (fun t ht=>put_get fun k hk e=>a1 k hk (e ▸ ht)) hX' (fun u S' hsub hkp hk=>?_) h1'
   have hk:aAny P md ops sis K Qp n ((listed.setIfInBounds i true).setIfInBounds j true) (put (put e si.d v) sj.d u) S':=hk
   rw [put_comm a2,Array.setIfInBounds_comm _ _ (Ne.symm hji)] at hk
   refine ih _ _ _ v (by have:=q38 h0;omega) (fun k sk hsk hki hun hkr=>?_) (fun k hk=>?_) (ready_mono hrd (Ne.symm hji)) (hy.stay (fun t ht=>(put_get fun k hk e=>a3 k hk (e ▸ ht)).symm) fun hl=>?_) hk
   ·have hun':listed.getD k true=false:=by
     by_cases hjk:j=k
     ·subst hjk;exact h0
     ·rw [getD_set_ne true hjk] at hun;exact hun
    obtain ⟨q1,q2⟩:=hfree k sk hsk hki hun' hkr
    refine ⟨q1,fun hl=>(q2 hl).imp id fun ⟨m,m1,m2,m3⟩=>⟨m,m1,m2,q7d m3⟩⟩
   ·exact set_false (hr k hk) fun e=>hnr (e ▸ hk)
   ·rcases hL hl with h2 | ⟨k,h2,h3,h4⟩
    ·exact .inl (hsub h2)
    ·have h5:k∈(sAt sis listed sj).x:=List.mem_filter.2 ⟨h3,by rw [h4];rfl⟩
     exact .inr ⟨k,h2,fun b hb=>hkp k h5 b ((congrArg blk (hX' k h5)).trans hb)⟩
theorem ACalls.frame {f:Nat} {args:List AV} {S:q00} {Q:AEnd→q00→Prop} (h:ACalls P f args S Q) {b:Nat} (hb:sget S b=none) (o:AObj) :
  ACalls P f args (supd S b o) fun ae S'=>∃ S1,Q ae S1∧match ae with
   | .ret _=>sget S1 b=none∧S'=supd S1 b o
   | .pan _=>S'=S1:=by
 intro R w vs hs hv
 have hsub:Sub S (supd S b o):=Sub.fresh o hb
 refine (h R w vs (hs.sub hsub) hv).mono fun en w' ⟨R',S1,ae,h1,h2,h3,h4⟩=>?_
 obtain ⟨x,hx,hro⟩:=hs.own b o (by rw [q01,if_pos rfl])
 have hlt:b<w.heap.size:=(Array.getElem?_eq_some_iff.1 hx).1
 obtain ⟨k1,k2⟩:=h4.keep b hlt hb
 have hRb:¬ R' b:=fun hr=>by
  rcases h4.new b hr with h5 | h5 | h5
  ·have:=(hs.ro b h5).1
   rw [q01,if_pos rfl] at this
   cases this
  ·exact h5 hb
  ·omega
 have hstep:Step R (supd S b o) w R' S1 w':=⟨h4.size,h4.os,h4.tape,h4.output,fun k hk hn=>by
   rw [q01] at hn
   split at hn
   ·cases hn
   ·exact h4.keep k hk hn,h4.mono,fun k hk=>by
   rcases h4.new k hk with h5 | h5 | h5
   ·exact .inl h5
   ·refine .inr (.inl fun hn=>h5 ?_)
    rw [q01] at hn
    split at hn
    ·cases hn
    ·exact hn
   ·exact .inr (.inr h5)⟩
 cases ae with
 | pan v=>exact ⟨R',S1,_,h1,⟨S1,h2,rfl⟩,h3,hstep⟩
 | ret v=>
  refine ⟨R',supd S1 b o,_,h1,⟨S1,h2,k2,rfl⟩,⟨fun c o' hc=>?_,fun c hc=>⟨?_,(h3.ro c hc).2⟩⟩,⟨hstep.size,hstep.os,hstep.tape,hstep.output,fun k hk hn=>?_,hstep.mono,hstep.new⟩⟩
  ·rw [q01] at hc
   split at hc
   ·rename_i e
    subst e
    cases hc
    exact ⟨x,k1.trans hx,hro.step h4.mono fun k hk=>(h4.keep k (hs.ro k hk).2 ((hs.sub hsub).ro k hk).1).1⟩
   ·exact h3.own c o' hc
  ·rw [q01]
   split
   ·rename_i e
    subst e
    exact absurd hc hRb
   ·exact (h3.ro c hc).1
  ·obtain ⟨j1,j2⟩:=hstep.keep k hk hn
   refine ⟨j1,?_⟩
   rw [q01] at hn ⊢
   split at hn
   ·cases hn
   ·rw [if_neg ‹_›];exact j2
def isCall:SOp→Bool
 | .call ..=>true
 | _=>false
def isAlloc:SOp→Bool
 | .alloc ..=>true
 | _=>false
theorem aop_frame {s:SI} (hc:isCall s.o=true) {e:Env} {S:q00} (h:aop P s K Qp e S) {b:Nat} (hb:sget S b=none) (o:AObj) :
  aop P s (fun e' S'=>∃ S1,sget S1 b=none∧S'=supd S1 b o∧K e' S1) Qp e (supd S b o):=by
 have h1:aeff P s.o s.d (KX s.x e S K) Qp e S→aeff P s.o s.d (KX s.x e (supd S b o) (fun e' S'=>∃ S1,sget S1 b=none∧S'=supd S1 b o∧K e' S1)) Qp e (supd S b o):=by
  intro hh
  cases ho:s.o with
  | call f xs=>
   rw [ho] at hh
   obtain ⟨fid,fi,ca,Q,h1,h2,h3⟩:=hh
   refine ⟨fid,fi,ca,_,h1,h2.frame hb o,fun ae S' hq=>?_⟩
   obtain ⟨S1,h4,h5⟩:=hq
   have h6:=h3 ae S1 h4
   cases ae with
   | ret v=>
    obtain ⟨h7,rfl⟩:=h5
    obtain ⟨k1,k2⟩:=KX_iff.1 h6
    refine KX_iff.2 ⟨fun t ht c hc=>?_,S1,h7,rfl,k2⟩
    rw [q01,q01,k1 t ht c hc]
   | pan v=>rw [h5];exact h6
  | _=>rw [ho] at hc;cases hc
 unfold aop at h ⊢
 split
 ·rename_i hg
  rw [hg] at h
  exact h1 h
 ·rename_i t want hg
  rw [hg] at h
  dsimp only at h
  split
  ·rename_i v ht
   rw [ht] at h
   dsimp only at h
   split
   ·rw [if_pos ‹_›] at h;exact h1 h
   ·rw [if_neg ‹_›] at h;exact ⟨S,hb,rfl,h⟩
  ·rename_i ht
   rw [ht] at h
   exact ⟨S,hb,rfl,h⟩
  ·rename_i h1 h2
   split at h
   ·rename_i v ht;exact absurd ht (h1 v)
   ·rename_i ht;exact absurd ht h2
   ·exact h
theorem aop_alloc {s:SI} {t:Nat} {zs:List AV} (ho:s.o=.alloc t zs) (hg:s.g=none) (hx:s.x=[]) {K:Env→q00→Prop} {e:Env} {S:q00} :
  aop P s K Qp e S↔∀ b,sget S b=none→K (put e s.d (.ptr b 0)) (supd S b (.cells t zs zs.length)):=by
 unfold aop
 rw [hg,ho,hx]
 exact Iff.rfl
theorem aAny_call {i:Nat} {si:SI} (hi:sis[i]?=some si) (hc:isCall si.o=true) {r:List Nat} (hw:Waits md ops i r) :
  ∀ (n:Nat) (listed:Array Bool) (e:Env) (S:q00),
   (∀ j sj,sis[j]?=some sj→j≠i→listed.getD j true=false→j ∉ r→apart si sj=true∧isAlloc sj.o=true∧sj.g=none∧sj.x=[]) →
   (∀ j sj,sis[j]?=some sj→j≠i→listed.getD j true=false→j ∉ r→∀ t∈si.x,sj.d≠some t) →
   (∀ j∈r,listed.getD j false=false)→i∈Region.ready md ops listed →
   aop P (sAt sis listed si) (aAny P md ops sis K Qp n (listed.setIfInBounds i true)) Qp e S→aAny P md ops sis K Qp (n+1) listed e S:=by
 intro n
 induction n with
 | zero=>
  intro listed e S hfree hX hr hrd H
  refine ⟨fun h=>(by rw [h] at hrd;cases hrd),fun j hj sj hsj=>?_⟩
  by_cases hji:j=i
  ·subst hji
   rw [hi] at hsj;cases hsj
   exact H
  ·obtain ⟨h0,_⟩:=mem_ready.1 hj
   obtain ⟨_,h2,h3,h4⟩:=hfree j sj hsj hji h0 (hw.not (q7n (mem_ready.1 hrd).1) hr hj)
   have h4':(sAt sis listed sj).x=[]:=by simp [sAt,h4]
   cases ho:sj.o with
   | alloc t zs=>
    refine (aop_alloc (s:=sAt sis listed sj) ho h3 h4').2 fun b hb=>?_
    intro hnil
    have:=ready_mono hrd (Ne.symm hji)
    rw [hnil] at this
    cases this
   | _=>rw [ho] at h2;cases h2
 | succ n ih=>
  intro listed e S hfree hX hr hrd H
  refine ⟨fun h=>(by rw [h] at hrd;cases hrd),fun j hj sj hsj=>?_⟩
  by_cases hji:j=i
  ·subst hji
   rw [hi] at hsj;cases hsj
   exact H
  ·obtain ⟨h0,_⟩:=mem_ready.1 hj
   have hnr:=hw.not (q7n (mem_ready.1 hrd).1) hr hj
   obtain ⟨h1,h2,h3,h4⟩:=hfree j sj hsj hji h0 hnr
   obtain ⟨a1,a2,a3⟩:=apart_spec h1
   have hjr:=ready_mono hj hji
   have h4':(sAt sis listed sj).x=[]:=by simp [sAt,h4]
   cases ho:sj.o with
   | alloc t zs=>
    refine (aop_alloc (s:=sAt sis listed sj) ho h3 h4').2 fun b hb=>?_
    have hxi:∀ t∈si.x,sj.d≠some t:=hX j sj hsj hji h0 hnr
    refine ih (listed.setIfInBounds j true) _ _ (fun k sk hsk hki hun hkr=>?_) (fun k sk hsk hki hun hkr=>?_) (fun k hk=>?_) (ready_mono hrd (Ne.symm hji)) ?_
    ·refine hfree k sk hsk hki ?_ hkr
     by_cases hjk:j=k
     ·subst hjk;exact h0
     ·rw [getD_set_ne true hjk] at hun;exact hun
    ·refine hX k sk hsk hki ?_ hkr
     by_cases hjk:j=k
     ·subst hjk;exact h0
     ·rw [getD_set_ne true hjk] at hun;exact hun
    ·exact set_false (hr k hk) fun e=>hnr (e ▸ hk)
    ·rw [sAt_set hsj hxi]
     refine aop_to (s:=sAt sis listed si) (fun t ht=>(put_get fun k hk e=>a3 k hk (e ▸ ht)).symm) (fun t ht=>(put_get fun k hk e=>hxi t (List.mem_filter.1 ht).1 (hk.trans (congrArg some e))).symm) (fun u S' _ _ hk=>?_) (aop_frame (s:=sAt sis listed si) hc H hb (.cells t zs zs.length))
     obtain ⟨S1,k1,rfl,k2⟩:=hk
     have k4:aAny P md ops sis K Qp n ((listed.setIfInBounds i true).setIfInBounds j true) (put (put e si.d u) sj.d (.ptr b 0)) (supd S1 b (.cells t zs zs.length)):=
      (aop_alloc (s:=sAt sis (listed.setIfInBounds i true) sj) ho h3 (by simp [sAt,h4])).1 (k2.2 j hjr sj hsj) b k1
     rw [put_comm a2,Array.setIfInBounds_comm _ _ (Ne.symm hji)] at k4
     exact k4
   | _=>rw [ho] at h2;cases h2
inductive Plan where
 | done
 | go (i:Nat) (p:Plan)
 | alt (i:Nat) (p q:Plan)
 deriving Inhabited
def dwp (P:Program) (sis:List SI) (K:Env→q00→Prop) (Qp:AV→q00→Prop):Plan→Env→q00→Prop
 | .done,e,S=>K e S
 | .go i p,e,S=>match sis[i]? with
  | some s=>aop P s (dwp P sis K Qp p) Qp e S
  | none=>False
 | .alt i p q,e,S=>(match sis[i]? with
  | some s=>aop P s (dwp P sis K Qp p) Qp e S
  | none=>False)∧dwp P sis K Qp q e S
def waitsFor (md:Region.Mode) (ops:Array Oper) (listed:Array Bool) (i:Nat):List Nat:=
 (List.range ops.size).foldl (fun r j=>if (match ops[j]? with
  | some o=>o.after.any fun e=>Region.binds md e&&(e.on==i||r.contains e.on)
  | none=>false) then j :: r else r) []
def waitsOk (md:Region.Mode) (ops:Array Oper) (listed:Array Bool) (i:Nat) (r:List Nat):Bool:=
 r.all fun j=>!listed.getD j false&&(match ops[j]? with
  | some o=>o.after.any fun e=>Region.binds md e&&(e.on==i||r.contains e.on)
  | none=>true)
def xApart (d:Option Nat) (x:List Nat):Bool:=match d with
 | some d=>!x.contains d
 | none=>true
theorem xApart_spec {d:Option Nat} {x:List Nat} (h:xApart d x=true):∀ t∈x,d≠some t:=fun t ht e=>by
 subst e
 simp [xApart] at h
 exact h ht
def quietFirst (sis:List SI) (listed:Array Bool) (si sj:SI):Bool:=apart si sj&&(!isL si.o||extO sj.o||(match adr si.o with
 | some k=>sj.x.contains k&&!unset sis listed k
 | none=>false))
def xSet (sis:List SI) (listed:Array Bool) (i:Nat):Bool:=match sis[i]? with
 | some s=>s.x.all fun t=>!unset sis listed t
 | none=>true
theorem xSet_spec {listed:Array Bool} {i:Nat} {s:SI} (hi:sis[i]?=some s) (h:xSet sis listed i=true):sAt sis listed s=s:=by
 unfold xSet at h
 rw [hi] at h
 unfold sAt
 rw [List.filter_eq_self.2 fun t ht=>List.all_eq_true.1 h t ht]
def callFirst (si sj:SI):Bool:=apart si sj&&isAlloc sj.o&&sj.g.isNone&&sj.x.isEmpty&&xApart sj.d si.x
def others (sis:List SI) (listed:Array Bool) (i:Nat) (r:List Nat) (f:SI→Bool):Bool:=
 (List.range sis.length).all fun j=>j==i||listed.getD j true||r.contains j||(match sis[j]? with
  | some sj=>f sj
  | none=>true)
def firstOk (md:Region.Mode) (ops:Array Oper) (sis:List SI) (listed:Array Bool) (i:Nat):Bool:=match sis[i]? with
 | some si=>let r:=waitsFor md ops listed i
  waitsOk md ops listed i r&&((isQ si.o&&others sis listed i r (quietFirst sis listed si))||(isCall si.o&&others sis listed i r (callFirst si)))
 | none=>false
def q85 (md:Region.Mode) (ops:Array Oper) (sis:List SI):Plan→List Nat→Array Bool→Bool
 | .done,seen,listed=>(Region.ready md ops listed).isEmpty
 | .go i p,seen,listed=>let rd:=Region.ready md ops listed
  rd.contains i&&xSet sis listed i&&((rd.filter fun j=>!seen.contains j)==[i]||(seen.isEmpty&&firstOk md ops sis listed i))&&q85 md ops sis p [] (listed.setIfInBounds i true)
 | .alt i p q,seen,listed=>(Region.ready md ops listed).contains i&&xSet sis listed i&&q85 md ops sis p [] (listed.setIfInBounds i true)&&q85 md ops sis q (i :: seen) listed
theorem others_spec {listed:Array Bool} {i:Nat} {r:List Nat} {f:SI→Bool} (h:others sis listed i r f=true) (j:Nat) (sj:SI) (hj:sis[j]?=some sj) (hne:j≠i) (hun:listed.getD j true=false) (hr:j ∉ r):f sj=true:=by
 simp only [others,List.all_eq_true,List.mem_range] at h
 have h1:=h j (List.getElem?_eq_some_iff.1 hj).1
 simpa [hj,hne,hun,hr] using h1
theorem waitsOk_spec {listed:Array Bool} {i:Nat} {r:List Nat} (h:waitsOk md ops listed i r=true):Waits md ops i r∧∀ j∈r,listed.getD j false=false:=by
 simp only [waitsOk,List.all_eq_true,Bool.and_eq_true,Bool.not_eq_true'] at h
 refine ⟨fun j hj o ho=>?_,fun j hj=>(h j hj).1⟩
 have h1:=(h j hj).2
 rw [ho] at h1
 obtain ⟨e,he,h2⟩:=Array.any_eq_true'.1 h1
 simp only [Bool.and_eq_true,Bool.or_eq_true,beq_iff_eq,List.contains_iff_mem] at h2
 exact ⟨e,he,h2.1,h2.2⟩
theorem first_sound {n i:Nat} {si:SI} (hi:sis[i]?=some si) {listed:Array Bool} (hf:firstOk md ops sis listed i=true) (hrd:i∈Region.ready md ops listed) (hl:left listed.toList≤n+1) {e:Env} {S:q00}
  (h:aop P (sAt sis listed si) (aAny P md ops sis K Qp n (listed.setIfInBounds i true)) Qp e S):aAny P md ops sis K Qp (n+1) listed e S:=by
 unfold firstOk at hf
 rw [hi] at hf
 simp only [Bool.and_eq_true,Bool.or_eq_true] at hf
 obtain ⟨h1,h2⟩:=hf
 obtain ⟨w1,w2⟩:=waitsOk_spec h1
 rcases h2 with ⟨h2,h3⟩ | ⟨h2,h3⟩
 ·obtain ⟨v,hy,hK⟩:=Yld.of (s:=sAt sis listed si) h2 h
  refine aAny_first hi h2 w1 n listed e S v hl (fun j sj hj hne hun hr=>?_) w2 hrd hy hK
  have:=others_spec h3 j sj hj hne hun hr
  simp only [quietFirst,Bool.and_eq_true,Bool.or_eq_true,Bool.not_eq_true'] at this
  refine ⟨this.1,fun hl=>?_⟩
  rcases this.2 with (h | h) | h
  ·rw [hl] at h;cases h
  ·exact .inl h
  ·split at h
   ·rename_i k hk
    simp only [Bool.and_eq_true,Bool.not_eq_true',List.contains_iff_mem] at h
    exact .inr ⟨k,hk,h.1,h.2⟩
   ·cases h
 ·have key:=fun j sj hj hne hun hr=>by
   have:=others_spec h3 j sj hj hne hun hr
   simp only [callFirst,Bool.and_eq_true,Bool.not_eq_true',Option.isNone_iff_eq_none,List.isEmpty_iff] at this
   exact this
  exact aAny_call hi h2 w1 n listed e S (fun j sj hj hne hun hr=>let h:=key j sj hj hne hun hr;⟨h.1.1.1.1,h.1.1.1.2,h.1.1.2,h.1.2⟩) (fun j sj hj hne hun hr=>xApart_spec (key j sj hj hne hun hr).2) w2 hrd h
theorem plan_sound:∀ (p:Plan) (seen:List Nat) (listed:Array Bool) (n:Nat) (e:Env) (S:q00),left listed.toList≤n→q85 md ops sis p seen listed=true→dwp P sis K Qp p e S →
  (seen=[]→aAny P md ops sis K Qp n listed e S) ∧
  ((Region.ready md ops listed=[]→K e S)∧∀ j∈Region.ready md ops listed,j ∉ seen→∀ s,sis[j]?=some s→aop P (sAt sis listed s) (aAny P md ops sis K Qp (n-1) (listed.setIfInBounds j true)) Qp e S):=by
 intro p
 induction p with
 | done=>
  intro seen listed n e S hl hok h
  have hnil:Region.ready md ops listed=[]:=by simpa [q85] using hok
  have hK:K e S:=h
  refine ⟨fun _=>?_,fun _=>hK,fun j hj=>by rw [hnil] at hj;cases hj⟩
  cases n with
  | zero=>exact fun _=>hK
  | succ n=>exact ⟨fun _=>hK,fun j hj=>by rw [hnil] at hj;cases hj⟩
 | go i p ih=>
  intro seen listed n e S hl hok h
  simp only [q85,Bool.and_eq_true,Bool.or_eq_true,beq_iff_eq,List.contains_iff_mem,List.isEmpty_iff] at hok
  obtain ⟨⟨⟨h1,hx⟩,h2⟩,h3⟩:=hok
  cases hs:sis[i]? with
  | none=>simp only [dwp,hs] at h
  | some si=>
   simp only [dwp,hs] at h
   have hun:=(mem_ready.1 h1).1
   have hlr:=q38 hun
   obtain ⟨m,rfl⟩:∃ m,n=m+1:=⟨n-1,by omega⟩
   have hA:aop P (sAt sis listed si) (aAny P md ops sis K Qp m (listed.setIfInBounds i true)) Qp e S:=(xSet_spec hs hx).symm ▸ q93 (fun e' S' hd=>(ih [] _ m e' S' (by omega) h3 hd).1 rfl) h
   have key:∀ (_:seen=[]∧firstOk md ops sis listed i=true),aAny P md ops sis K Qp (m+1) listed e S:=fun hf=>first_sound hs hf.2 h1 hl hA
   have one:(Region.ready md ops listed).filter (fun j=>!seen.contains j)=[i]→∀ j∈Region.ready md ops listed,j ∉ seen→∀ s,sis[j]?=some s→aop P (sAt sis listed s) (aAny P md ops sis K Qp m (listed.setIfInBounds j true)) Qp e S:=fun he j hj hns s hsj=>by
    have:j∈(Region.ready md ops listed).filter (fun j=>!seen.contains j):=List.mem_filter.2 ⟨hj,by simpa using hns⟩
    rw [he] at this
    simp at this
    subst this
    rw [hs] at hsj
    cases hsj
    exact hA
   have hne:Region.ready md ops listed=[]→K e S:=fun hn=>by rw [hn] at h1;cases h1
   refine ⟨fun hseen=>?_,hne,?_⟩
   ·rcases h2 with h2 | h2
    ·exact ⟨hne,fun j hj s hsj=>one h2 j hj (by rw [hseen];simp) s hsj⟩
    ·exact key h2
   ·rcases h2 with h2 | h2
    ·exact one h2
    ·exact fun j hj _ s hsj=>(key h2).2 j hj s hsj
 | alt i p q ihp ihq=>
  intro seen listed n e S hl hok h
  simp only [q85,Bool.and_eq_true,List.contains_iff_mem] at hok
  obtain ⟨⟨⟨h1,hx⟩,h2⟩,h3⟩:=hok
  simp only [dwp] at h
  obtain ⟨hp,hq⟩:=h
  have hun:=(mem_ready.1 h1).1
  have hlr:=q38 hun
  obtain ⟨m,rfl⟩:∃ m,n=m+1:=⟨n-1,by omega⟩
  have hrest:=(ihq (i :: seen) listed (m+1) e S hl h3 hq).2
  cases hs:sis[i]? with
  | none=>simp only [hs] at hp
  | some si=>
   simp only [hs] at hp
   have hA:aop P (sAt sis listed si) (aAny P md ops sis K Qp m (listed.setIfInBounds i true)) Qp e S:=(xSet_spec hs hx).symm ▸ q93 (fun e' S' hd=>(ihp [] _ m e' S' (by omega) h2 hd).1 rfl) hp
   have all:∀ j∈Region.ready md ops listed,j ∉ seen→∀ s,sis[j]?=some s→aop P (sAt sis listed s) (aAny P md ops sis K Qp m (listed.setIfInBounds j true)) Qp e S:=fun j hj hns s hsj=>by
    by_cases hji:j=i
    ·subst hji
     rw [hs] at hsj
     cases hsj
     exact hA
    ·exact hrest.2 j hj (by simp [hji,hns]) s hsj
   exact ⟨fun hseen=>⟨hrest.1,fun j hj s hsj=>all j hj (by rw [hseen];simp) s hsj⟩,hrest.1,all⟩
theorem sisOk_get {N:Nat}:∀ {l:List SI} {lo:List Oper},q3e P N ops l lo=true→∀ (i:Nat) (o:Oper),lo[i]?=some o→∃ s,l[i]?=some s∧siOk P N ops s o=true
 | [],[],_,i,o,h=>by simp at h
 | s :: l,o :: lo,hok,i,o',h=>by
  simp only [q3e,Bool.and_eq_true] at hok
  cases i with
  | zero=>simp at h;subst h;exact ⟨s,rfl,hok.1⟩
  | succ i=>simpa using sisOk_get hok.2 i o' (by simpa using h)
 | [],_ :: _,hok,_,_,_=>by cases hok
 | _ :: _,[],hok,_,_,_=>by cases hok
variable {R:Nat→Prop} {S:q00} {w:World} {a:Act} {N:Nat} {Qc:Exit→Act→World→Prop}
theorem any_sound (hP:Post R S w a N K Qp Qc) (hok:q3e P N ops sis ops.toList=true):∀ (n:Nat) (listed:Array Bool) {R1:Nat→Prop} {S1:q00} {w1:World} {a1:Act} {e1:Env},
  Rel R S w a N R1 S1 w1 e1 a1→left listed.toList≤n→aAny P md ops sis K Qp n listed e1 S1→wpAny P md ops Qc n listed a1 w1
 | 0,listed,R1,S1,w1,a1,e1,hr,hl,h=>by
  have hnil:Region.ready md ops listed=[]:=by
   cases hrd:Region.ready md ops listed with
   | nil=>rfl
   | cons i t=>
    have:=left_pos (mem_ready.1 (show i∈Region.ready md ops listed by rw [hrd];simp)).1
    omega
  exact ⟨hnil,hP.norm _ _ _ _ _ (h hnil) hr⟩
 | n+1,listed,R1,S1,w1,a1,e1,hr,hl,h=>by
  refine ⟨fun hnil=>hP.norm _ _ _ _ _ (h.1 hnil) hr,fun i hi=>?_⟩
  obtain ⟨h0,o,ho,_⟩:=mem_ready.1 hi
  have hlr:=q38 h0
  obtain ⟨s,hs,hsok⟩:=sisOk_get hok i o (by simpa using ho)
  have h1:=q4a (Qc:=Qc) (s:=sAt sis listed s) hr.sim hr.env hr.size hsok (h.2 i hi s hs) (hP.qc hr)
  have hrest:∀ a' w',KC R1 S1 w1 a1 N (aAny P md ops sis K Qp n (listed.setIfInBounds i true)) a' w'→wpAny P md ops Qc n (listed.setIfInBounds i true) a' w':=
   fun a' w' ⟨R',S',e',hK,hr'⟩=>any_sound hP hok n _ (hr.trans hr') (by omega) hK
  unfold wpOp
  simp only [ho]
  split
  ·rename_i hw
   rw [if_pos hw] at h1
   exact .inl (Oper.wp_mono hrest h1)
  ·rename_i hw
   rw [if_neg hw] at h1
   exact hrest _ _ h1
theorem left_new (n:Nat):left (Array.replicate n false).toList=n:=by
 rw [Array.toList_replicate]
 induction n with
 | zero=>rfl
 | succ n ih=>simp [List.replicate_succ,left,ih,Nat.add_comm]
def drawOk (P:Program) (N:Nat) (ops:Array Oper) (sis:List SI) (p:Plan):Bool:=
 P.follows .mixedOrders&&q3e P N ops sis ops.toList&&q85 .any ops sis p [] (Array.replicate ops.size false)
theorem draw_sound (hP:Post R S w a N K Qp Qc) {p:Plan} (hok:drawOk P N ops sis p=true) {e:Env} (hr:Rel R S w a N R S w e a) (h:dwp P sis K Qp p e S) {id:Nat}:(Code.region id ops true).wp P Qc a w:=by
 simp only [drawOk,Bool.and_eq_true] at hok
 obtain ⟨s1,s2⟩:=hr.sim.draw (w':={ w with drawn:=w.drawn+1 }) rfl rfl rfl rfl
 have hr':Rel R S w a N R S { w with drawn:=w.drawn+1 } e a:=⟨s1,hr.env.step hr.sim s2,s2,rfl,hr.size⟩
 refine wp_region_any hok.1.1 (any_sound hP hok.1.2 _ _ hr' (by rw [left_new];exact Nat.le_refl _) ?_)
 exact (plan_sound p [] _ _ e S (by rw [left_new];exact Nat.le_refl _) hok.2 h).1 rfl
end
end Go.HL
