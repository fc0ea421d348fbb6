/- A part of a proof. -/
import Derived.Test.YtadmdlpmikoghaaGreatKmHlM
set_option linter.unusedSimpArgs false
set_option linter.unusedVariables false
namespace Go.HL
def LstN (S0 S:q00) (t sz:Nat) (v:AV) (rows:List (List AV)):Prop:=
 (∀ r∈rows,r.length=sz)∧((v=.nils∧rows=[])∨∃ b cap,v=.own b 0 rows.length cap∧sget S0 b=none∧sget S b=some (.cells t rows.flatten (cap * sz))∧rows.length≤cap∧cap≤maxLen∧0<rows.length)
section
variable {S0 S:q00} {t sz bytes:Nat} {v:AV} {rows xs:List (List AV)} {K:AV→q00→Prop} {QF:AEnd→q00→Prop}
theorem q8z {rows:List (List AV)} (h:∀ r∈rows,r.length=sz):rows.flatten.length=rows.length * sz:=by
 induction rows with
 | nil=>simp
 | cons r l ih=>
  simp only [List.flatten_cons,List.length_append,List.length_cons]
  rw [ih fun r hr=>h r (List.mem_cons_of_mem _ hr),h r (by simp),Nat.succ_mul,Nat.add_comm]
theorem LstN.nil:LstN S0 S t sz .nils []:=⟨fun r hr=>by (cases hr),.inl ⟨rfl,rfl⟩⟩
def q1b (v:AV) (c:Nat):Prop:=∀ b off n cap,v=.own b off n cap→c≠b
theorem LstN.app (hs:Sub S0 S) (h:LstN S0 S t sz v rows) (hx:∀ r∈xs,r.length=sz) (ho:ones xs.flatten=true) (hb:(rows.length+xs.length) * bytes≤140737488355328)
  (hK:∀ v' S',Sub S0 S'→LstN S0 S' t sz v' (rows++xs)→(∀ c o,sget S c=some o→q1b v c→sget S' c=some o∧q1b v' c)→K v' S'):apW S t sz bytes v (.sl sz xs) K:=by
 refine ⟨xs.length,xs.flatten,by simp [appX],ho,?_⟩
 obtain ⟨hr,h⟩:=h
 have hall:∀ r∈rows++xs,r.length=sz:=fun r hm=>(List.mem_append.1 hm).elim (hr r) (hx r)
 rcases h with ⟨rfl,rfl⟩ | ⟨b,cap,rfl,h1,h2,h3,h4,h5⟩
 ·dsimp only
  simp only [List.length_nil,Nat.zero_add] at hb
  refine ⟨hb,?_⟩
  by_cases hm:xs.length=0
  ·rw [if_pos hm]
   have:xs=[]:=List.length_eq_zero_iff.1 hm
   subst this
   exact hK _ _ hs ⟨hall,.inl ⟨rfl,rfl⟩⟩ fun c o hc _=>⟨hc,fun b off n cap h=>by cases h⟩
  ·rw [if_neg hm]
   intro b cap hbn k1 k2
   have hb0:=Sub.none hs hbn
   refine hK _ _ (hs.supd hb0) ⟨hall,.inr ⟨b,cap,by simp,hb0,by rw [q01,if_pos rfl];simp,by simpa using k1,k2,by simp;omega⟩⟩ fun c o hc _=>?_
   have hne:b≠c:=q0e hbn hc
   exact ⟨by rw [q01,if_neg hne];exact hc,fun b' off n cap h=>by cases h;exact Ne.symm hne⟩
 ·have hl:=q8z hr
  refine ⟨_,h2,h3,h4,by rw [hl];exact Nat.le_refl _,hb,fun b' cap' k1 k2 k3=>?_⟩
  have e1:rows.flatten.take (rows.length * sz)=rows.flatten:=List.take_of_length_le (by rw [hl];exact Nat.le_refl _)
  rw [e1]
  have hb0:sget S0 b'=none:=by
   rcases k1 with rfl | k1
   ·exact h1
   ·exact Sub.none hs k1
  have hsub:Sub S0 (supd (sdel S b) b' (.cells t (rows.flatten++xs.flatten) (cap' * sz))):=by
   refine Sub.supd hb0 fun c o hc=>?_
   have hne:b≠c:=by rintro rfl;rw [h1] at hc;cases hc
   rw [q0a,if_neg hne]
   exact hs c o hc
  refine hK _ _ hsub ⟨hall,.inr ⟨b',cap',by simp,hb0,by rw [q01,if_pos rfl];simp,by simpa using k2,k3,by simp;omega⟩⟩ fun c o hc ha=>?_
  have hcb:c≠b:=ha b 0 _ _ rfl
  have hcb':b'≠c:=by
   rcases k1 with rfl | k1
   ·exact Ne.symm hcb
   ·exact q0e k1 hc
  exact ⟨by rw [q01,if_neg hcb',q0a,if_neg (Ne.symm hcb)];exact hc,fun b'' off n cap h=>by cases h;exact Ne.symm hcb'⟩
theorem LstN.upd {S0 S:q00} {v:AV} {rows:List (List AV)} (h:LstN S0 S t sz v rows) {c:Nat} (hc:q1b v c) (o:AObj):LstN S0 (supd S c o) t sz v rows:=by
 obtain ⟨hr,h⟩:=h
 refine ⟨hr,?_⟩
 rcases h with h | ⟨b,cap,rfl,h1,h2,h3⟩
 ·exact .inl h
 ·exact .inr ⟨b,cap,rfl,h1,by rw [q01,if_neg (hc b 0 _ _ rfl)];exact h2,h3⟩
theorem LstN.fresh (h:LstN S0 S t sz v rows) {c:Nat} (hc:sget S c=none):q1b v c:=by
 obtain ⟨hr,h⟩:=h
 rcases h with ⟨rfl,-⟩ | ⟨b,cap,rfl,h1,h2,h3⟩
 ·intro b off n cap h;cases h
 ·intro b' off n cap' h
  cases h
  rintro rfl
  rw [h2] at hc;cases hc
theorem LstN.sub {S1:q00} (h:LstN S0 S t sz v rows) (hs:Sub S S1):LstN S0 S1 t sz v rows:=by
 obtain ⟨hr,h⟩:=h
 refine ⟨hr,?_⟩
 rcases h with h | ⟨b,cap,rfl,h1,h2,h3⟩
 ·exact .inl h
 ·exact .inr ⟨b,cap,rfl,h1,hs _ _ h2,h3⟩
theorem LstN.one (h:LstN S0 S t sz v rows):Go.HL.one v=true:=by
 obtain ⟨hr,h⟩:=h
 rcases h with ⟨rfl,-⟩ | ⟨b,cap,rfl,-⟩<;>rfl
theorem flat_get {rows:List (List AV)} (h:∀ r∈rows,r.length=sz):∀ {i j:Nat} {cs:List AV} {u:AV},rows[i]?=some cs→cs[j]?=some u→rows.flatten[i * sz+j]?=some u:=by
 induction rows with
 | nil=>intro i j cs u hi;simp at hi
 | cons r l ih=>
  intro i j cs u hi hj
  have hr:=h r (by simp)
  cases i with
  | zero=>
   simp at hi;subst hi
   have:=(List.getElem?_eq_some_iff.1 hj).1
   rw [List.flatten_cons,List.getElem?_append_left (by omega),Nat.zero_mul,Nat.zero_add]
   exact hj
  | succ i=>
   simp at hi
   have e1:(i+1) * sz+j=sz+(i * sz+j):=by rw [Nat.succ_mul];omega
   rw [List.flatten_cons,List.getElem?_append_right (by omega),hr,e1,Nat.add_sub_cancel_left]
   exact ih (fun r hm=>h r (List.mem_cons_of_mem _ hm)) hi hj
theorem cell_at {w:World} {b t tot:Nat} {cs:List AV} {R:Nat→Prop} {x:Obj} (hx:w.heap[b]?=some x) (hro:RO R w (.cells t cs tot) x):∃ vs:List Value,RVs R w cs vs∧∀ i,i<cs.length→w.cell? ⟨b,i,none⟩=some (vs.getD i undef):=by
 cases hro with
 | cells _ _ arr vs hv hvs=>
  refine ⟨vs,hvs,fun i hi=>?_⟩
  unfold World.cell?
  dsimp only
  rw [hx]
  have hlen:=hvs.1
  have h3:i<vs.length:=by rw [← hlen];exact hi
  have h4:arr[i]?=some (vs.getD i undef):=by
   have h5:vs[i]?=(arr.toList.take cs.length)[i]?:=by rw [hv]
   rw [List.getElem?_take,if_pos hi] at h5
   rw [List.getD_eq_getElem?_getD,List.getElem?_eq_getElem h3,Option.getD_some]
   rw [List.getElem?_eq_getElem h3] at h5
   simpa using h5.symm
  simp [h4]
theorem row_rv {R R':Nat→Prop} {w:World} {b cap:Nat} {v:Value} (hs:Sim R S w) (hb:sget S b=some (.cells t rows.flatten (cap * sz))) (hr:∀ r∈rows,r.length=sz) (hc:rows.length≤cap)
  (hR:∀ k,R k→R' k) (hRb:R' b) (hv:RV R w (.own b 0 rows.length cap) v):RV R' w (.sl sz rows) v:=by
 cases hv
 obtain ⟨x,hx,hro⟩:=hs.own b _ hb
 obtain ⟨vs,hvs,hcell⟩:=cell_at hx hro
 have hl:=q8z hr
 refine .sl sz rows ⟨b,0,none⟩ rows.length cap (fun i j=>vs.getD (i * sz+j) undef) rfl hc hRb (fun i cs h=>hr cs (List.mem_of_getElem? h)) (fun i j hi hj=>?_) (fun i j cs u h1 h2=>?_)
 ·rw [q4j,Nat.zero_add]
  refine hcell _ ?_
  rw [hl]
  calc i * sz+j<i * sz+sz:=by omega
   _=(i+1) * sz:=by rw [Nat.succ_mul]
   _≤rows.length * sz:=Nat.mul_le_mul_right _ (by omega)
 ·exact (hvs.step hR fun k hk=>rfl).2 _ u (flat_get hr h1 h2)
theorem ShV.lst (hs:Sub S0 S) (h:LstN S0 S t sz v rows):ShV v S (.sl sz rows) S0:=by
 obtain ⟨hr,h⟩:=h
 rcases h with ⟨rfl,rfl⟩ | ⟨b,cap,rfl,h1,h2,h3,h4,h5⟩
 ·intro R w u hS hv
  refine ⟨R,hS.sub hs,?_,(Step.refl _ _ _).sub hs⟩
  cases hv
  exact .sl0 _ _ _
 ·intro R w u hS hv
  have hs1:=hS.sub hs
  refine ⟨fun k=>R k∨k=b,⟨fun c o hc=>?_,fun c hc=>?_⟩,row_rv hS h2 hr h3 (fun k hk=>.inl hk) (.inr rfl) hv,⟨Nat.le_refl _,rfl,rfl,rfl,fun k _ hk=>⟨rfl,?_⟩,fun k hk=>.inl hk,fun k hk=>?_⟩⟩
  ·obtain ⟨y,k1,k2⟩:=hs1.own c o hc
   exact ⟨y,k1,k2.step (fun k hk=>.inl hk) (fun k hk=>rfl)⟩
  ·rcases hc with hc | rfl
   ·exact hs1.ro c hc
   ·exact ⟨h1,hS.lt h2⟩
  ·exact Sub.none hs hk
  ·rcases hk with hk | rfl
   ·exact .inl hk
   ·exact .inr (.inl (by rw [h2];simp))
theorem q5s (hs:Sub S0 S) (h:LstN S0 S t sz v rows) (hQ:QF (.ret (.sl sz rows)) S0):rtW [.tmp v] QF S:=
 rtW_view (vs:=[v]) rfl (ShV.lst hs h) hQ
theorem q2u {rows:List (List AV)} (h:∀ r∈rows,ones r=true):ones rows.flatten=true:=by
 have app:∀ (a b:List AV),ones (a++b)=(ones a&&ones b):=by
  intro a b
  induction a with
  | nil=>rfl
  | cons x a ih=>simp only [List.cons_append,ones,ih,Bool.and_assoc]
 induction rows with
 | nil=>rfl
 | cons r l ih=>rw [List.flatten_cons,app,h r (by simp),ih fun r hr=>h r (List.mem_cons_of_mem _ hr)];rfl
end
end Go.HL
