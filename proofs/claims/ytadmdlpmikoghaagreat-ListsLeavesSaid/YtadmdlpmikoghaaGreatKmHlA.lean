/- A part of a proof. -/
import Derived.WalkKit
import Derived.Maps.AppendAt
import Derived.Orders
import Derived.Deep.OwnRows
set_option linter.unusedSimpArgs false
set_option linter.unusedVariables false
namespace Go.HL
inductive AV where
 | junk
 | bool (b:Bool)
 | int (k:IntKind) (n:Int)
 | str (s:ByteArray)
 | nilp
 | ptr (b off:Nat)
 | rop (cs:List AV)
 | nils
 | sl (sz:Nat) (xs:List (List AV))
 | own (b off n cap:Nat)
 | map (b:Option Nat)
 | func (f:Fn) (first cap:List AV)
 | nilf
 | nili
 | iface (t:Nat) (v:AV)
 | agg (cs:List AV)
 | tup (vs:List AV)
 deriving Inhabited
inductive EK where
 | int (k:IntKind)
 | str
 | bool
 deriving DecidableEq,Inhabited
def ekOk:EK→AV→Bool
 | .int k,.int k' _=>k==k'
 | .str,.str _=>true
 | .bool,.bool _=>true
 | _,_=>false
def q17:List EK→List AV→Bool
 | [],[]=>true
 | k :: ks,x :: xs=>ekOk k x&&q17 ks xs
 | _,_=>false
def q2f:AV→List AV
 | .agg cs=>cs
 | v=>[v]
def q0m (K:Bool×List EK):AV→Bool
 | .agg cs=>K.1&&q17 K.2 cs
 | v=>!K.1&&q17 K.2 [v]
inductive AObj where
 | cells (t:Nat) (cs:List AV) (tot:Nat)
 | map (K:Bool×List EK) (es:List (AV×AV×Nat)) (clock:Nat)
inductive RV (R:Nat→Prop) (w:World):AV→Value→Prop
 | junk (v:Value):RV R w .junk v
 | bool (b:Bool):RV R w (.bool b) (.bool b)
 | int (k:IntKind) (n:Int):RV R w (.int k n) (.int k n)
 | str (s:ByteArray):RV R w (.str s) (.string s)
 | nilp:RV R w .nilp (.pointer none)
 | ptr (b off:Nat):RV R w (.ptr b off) (.pointer (some ⟨b,off,none⟩))
 | rop (a:Addr) (cs:List AV) (f:Nat→Value) (hR:cs≠[]→R a.block) (hc:∀ i,i<cs.length→w.cell? (a.add i)=some (f i))
   (h:∀ i u,cs[i]?=some u→RV R w u (f i)):RV R w (.rop cs) (.pointer (some a))
 | nils:RV R w .nils (.slice none 0 0)
 | sl0 (sz:Nat) (a:Option Addr) (c:Nat):RV R w (.sl sz []) (.slice a 0 c)
 | sl (sz:Nat) (xs:List (List AV)) (a:Addr) (n c:Nat) (f:Nat→Nat→Value) (hxn:xs.length=n) (hn:n≤c) (hR:R a.block) (hl:∀ (i:Nat) (cs:List AV),xs[i]?=some cs→cs.length=sz)
   (hc:∀ i j,i<n→j<sz→w.cell? (a.add (i * sz+j))=some (f i j)) (h:∀ (i j:Nat) (cs:List AV) (u:AV),xs[i]?=some cs→cs[j]?=some u→RV R w u (f i j)):RV R w (.sl sz xs) (.slice (some a) n c)
 | own (b off n cap:Nat):RV R w (.own b off n cap) (.slice (some ⟨b,off,none⟩) n cap)
 | map (b:Option Nat):RV R w (.map b) (.map b)
 | func (f:Fn) (xs ys:List AV) (vs us:Array Value) (hx:xs.length=vs.size) (hy:ys.length=us.size) (h:∀ i u,xs[i]?=some u→RV R w u (vs.getD i undef))
   (h':∀ i u,ys[i]?=some u→RV R w u (us.getD i undef)):RV R w (.func f xs ys) (.func f vs us)
 | nilf:RV R w .nilf .nilFunc
 | nili:RV R w .nili .nilIface
 | iface (t:Nat) (u:AV) (v:Value) (h:RV R w u v):RV R w (.iface t u) (.iface t v)
 | agg (cs:List AV) (vs:Array Value) (hl:cs.length=vs.size) (h:∀ i u,cs[i]?=some u→RV R w u (vs.getD i undef)):RV R w (.agg cs) (.agg vs)
 | tup (cs:List AV) (vs:Array Value) (hl:cs.length=vs.size) (h:∀ i u,cs[i]?=some u→RV R w u (vs.getD i undef)):RV R w (.tup cs) (.tuple vs)
def RVs (R:Nat→Prop) (w:World) (cs:List AV) (vs:List Value):Prop:=cs.length=vs.length∧∀ i u,cs[i]?=some u→RV R w u (vs.getD i undef)
theorem RVs.nil {R:Nat→Prop} {w:World}:RVs R w [] []:=⟨rfl,fun i u h=>by simp at h⟩
theorem RVs.cons {R:Nat→Prop} {w:World} {c:AV} {v:Value} {cs:List AV} {vs:List Value} (h:RV R w c v) (hs:RVs R w cs vs):RVs R w (c :: cs) (v :: vs):=by
 refine ⟨by simp [hs.1],fun i u hi=>?_⟩
 cases i with
 | zero=>simp at hi;subst hi;simpa using h
 | succ i=>simp at hi;simpa using hs.2 i u hi
theorem RVs.head {R:Nat→Prop} {w:World} {c:AV} {v:Value} {cs:List AV} {vs:List Value} (h:RVs R w (c :: cs) (v :: vs)):RV R w c v:=by simpa using h.2 0 c rfl
theorem RVs.tail {R:Nat→Prop} {w:World} {c:AV} {v:Value} {cs:List AV} {vs:List Value} (h:RVs R w (c :: cs) (v :: vs)):RVs R w cs vs:=
 ⟨by simpa using h.1,fun i u hi=>by simpa using h.2 (i+1) u (by simpa using hi)⟩
theorem RVs.drop {R:Nat→Prop} {w:World} {cs:List AV} {vs:List Value} (h:RVs R w cs vs) (n:Nat):RVs R w (cs.drop n) (vs.drop n):=by
 refine ⟨by simp [h.1],fun i u hi=>?_⟩
 rw [List.getElem?_drop] at hi
 have:=h.2 _ _ hi
 simpa [List.getElem?_drop] using this
theorem RVs.take {R:Nat→Prop} {w:World} {cs:List AV} {vs:List Value} (h:RVs R w cs vs) (n:Nat):RVs R w (cs.take n) (vs.take n):=by
 refine ⟨by simp [h.1],fun i u hi=>?_⟩
 rw [List.getElem?_take] at hi
 split at hi
 ·rename_i hlt
  have:=h.2 _ _ hi
  simpa [List.getElem?_take,hlt] using this
 ·cases hi
theorem RVs.append {R:Nat→Prop} {w:World} {cs ds:List AV} {vs us:List Value} (h:RVs R w cs vs) (k:RVs R w ds us):RVs R w (cs++ds) (vs++us):=by
 refine ⟨by simp [h.1,k.1],fun i u hi=>?_⟩
 rcases Nat.lt_or_ge i cs.length with hlt | hge
 ·rw [List.getElem?_append_left hlt] at hi
  have:=h.2 _ _ hi
  simp only [List.getD_eq_getElem?_getD] at this ⊢
  rwa [List.getElem?_append_left (by rw [← h.1];exact hlt)]
 ·rw [List.getElem?_append_right hge] at hi
  have:=k.2 _ _ hi
  simp only [List.getD_eq_getElem?_getD] at this ⊢
  rw [List.getElem?_append_right (by rw [← h.1];exact hge),← h.1]
  exact this
theorem RVs.get {R:Nat→Prop} {w:World} {cs:List AV} {vs:List Value} (h:RVs R w cs vs) {i:Nat} {u:AV} (hi:cs[i]?=some u):∃ v,vs[i]?=some v∧RV R w u v:=by
 have hlt:i<vs.length:=by rw [← h.1];exact (List.getElem?_eq_some_iff.1 hi).1
 refine ⟨vs[i],List.getElem?_eq_getElem hlt,?_⟩
 have:=h.2 i u hi
 simpa [List.getElem?_eq_getElem hlt] using this
theorem RVs.set {R:Nat→Prop} {w:World} {cs:List AV} {vs:List Value} (h:RVs R w cs vs) (i:Nat) {c:AV} {v:Value} (hc:RV R w c v):RVs R w (cs.set i c) (vs.set i v):=by
 refine ⟨by simp [h.1],fun j u hj=>?_⟩
 by_cases e:i=j
 ·subst e
  have hlt:i<cs.length:=by
   have:=(List.getElem?_eq_some_iff.1 hj).1
   simpa using this
  rw [List.getElem?_set_self hlt] at hj
  cases hj
  have:i<vs.length:=h.1 ▸ hlt
  simpa [this] using hc
 ·rw [List.getElem?_set_ne e] at hj
  have:=h.2 _ _ hj
  simp only [List.getD_eq_getElem?_getD] at this ⊢
  rwa [List.getElem?_set_ne e]
theorem RV.agg_iff {R:Nat→Prop} {w:World} {cs:List AV} {v:Value}:RV R w (.agg cs) v↔∃ vs,v=.agg vs∧RVs R w cs vs.toList:=by
 constructor
 ·rintro ⟨⟩
  rename_i vs hl h
  exact ⟨vs,rfl,by simpa using hl,fun i u hi=>by simpa using h i u hi⟩
 ·rintro ⟨vs,rfl,hl,h⟩
  exact .agg _ _ (by simpa using hl) (fun i u hi=>by simpa using h i u hi)
theorem RV.tup_iff {R:Nat→Prop} {w:World} {cs:List AV} {v:Value}:RV R w (.tup cs) v↔∃ vs,v=.tuple vs∧RVs R w cs vs.toList:=by
 constructor
 ·rintro ⟨⟩
  rename_i vs hl h
  exact ⟨vs,rfl,by simpa using hl,fun i u hi=>by simpa using h i u hi⟩
 ·rintro ⟨vs,rfl,hl,h⟩
  exact .tup _ _ (by simpa using hl) (fun i u hi=>by simpa using h i u hi)
theorem RV.step {R R':Nat→Prop} {w w':World} (hR:∀ b,R b→R' b) (hw:∀ b,R b→w'.heap[b]?=w.heap[b]?) {u:AV} {v:Value} (h:RV R w u v):RV R' w' u v:=by
 induction h with
 | junk v=>exact .junk v
 | bool b=>exact .bool b
 | int k n=>exact .int k n
 | str s=>exact .str s
 | nilp=>exact .nilp
 | ptr b off=>exact .ptr b off
 | rop a cs f hRa hc h ih=>
  refine .rop a cs f (fun hne=>hR _ (hRa hne)) (fun i hi=>?_) ih
  have hb:(a.add i).block=a.block:=by unfold Addr.add;split<;>rfl
  have hne:cs≠[]:=by rintro rfl;simp at hi
  rw [World.cell?_of_block (w:=w) (by rw [hb];exact hw _ (hRa hne))]
  exact hc i hi
 | nils=>exact .nils
 | sl0 sz a c=>exact .sl0 sz a c
 | sl sz xs a n c f hxn hn hRa hl hc h ih=>
  refine .sl sz xs a n c f hxn hn (hR _ hRa) hl (fun i j hi hj=>?_) ih
  have hb:(a.add (i * sz+j)).block=a.block:=by unfold Addr.add;split<;>rfl
  rw [World.cell?_of_block (w:=w) (by rw [hb];exact hw _ hRa)]
  exact hc i j hi hj
 | own b off n cap=>exact .own b off n cap
 | map b=>exact .map b
 | func f xs ys vs us hx hy h h' ih ih'=>exact .func f xs ys vs us hx hy ih ih'
 | nilf=>exact .nilf
 | nili=>exact .nili
 | iface t u v h ih=>exact .iface t u v ih
 | agg cs vs hl h ih=>exact .agg cs vs hl ih
 | tup cs vs hl h ih=>exact .tup cs vs hl ih
theorem RVs.step {R R':Nat→Prop} {w w':World} (hR:∀ b,R b→R' b) (hw:∀ b,R b→w'.heap[b]?=w.heap[b]?) {cs:List AV} {vs:List Value} (h:RVs R w cs vs):RVs R' w' cs vs:=
 ⟨h.1,fun i u hi=>(h.2 i u hi).step hR hw⟩
abbrev q00:=Nat→Option AObj
@[reducible] def sget (S:q00) (b:Nat):Option AObj:=S b
def emp:q00:=fun _=>none
def supd (S:q00) (b:Nat) (o:AObj):q00:=fun c=>if b=c then some o else S c
def sdel (S:q00) (b:Nat):q00:=fun c=>if b=c then none else S c
theorem q01 (S:q00) (b:Nat) (x:AObj) (c:Nat):sget (supd S b x) c=if b=c then some x else sget S c:=rfl
theorem q0a (S:q00) (b c:Nat):sget (sdel S b) c=if b=c then none else sget S c:=rfl
def Sub (S' S:q00):Prop:=∀ b o,sget S' b=some o→sget S b=some o
theorem Sub.refl (S:q00):Sub S S:=fun _ _ h=>h
theorem Sub.trans {A B C:q00} (h:Sub A B) (k:Sub B C):Sub A C:=fun b o x=>k b o (h b o x)
theorem Sub.emp (S:q00):Sub emp S:=fun b o h=>by cases h
theorem Sub.fresh {S:q00} {b:Nat} (o:AObj) (hb:sget S b=none):Sub S (supd S b o):=fun c x h=>by
 have:b≠c:=by rintro rfl;rw [hb] at h;cases h
 rw [q01,if_neg this]
 exact h
inductive RO (R:Nat→Prop) (w:World):AObj→Obj→Prop
 | cells (t:Nat) (cs:List AV) (arr:Array Value) (vs:List Value) (hv:arr.toList.take cs.length=vs) (h:RVs R w cs vs):RO R w (.cells t cs arr.size) (.cells arr t (0,0))
 | map (K:Bool×List EK) (es:List (AV×AV×Nat)) (arr:Array MapEntry) (clock:Nat) (hl:es.length=arr.size)
   (h:∀ (i:Nat) (e:AV×AV×Nat) (m:MapEntry),es[i]?=some e→arr[i]?=some m→RV R w e.1 m.key∧RV R w e.2.1 m.val∧m.born=e.2.2)
   (hk:∀ e∈es,q0m K e.1=true):RO R w (.map K es clock) (.map arr clock)
theorem RO.step {R R':Nat→Prop} {w w':World} (hR:∀ b,R b→R' b) (hw:∀ b,R b→w'.heap[b]?=w.heap[b]?) {o:AObj} {x:Obj} (h:RO R w o x):RO R' w' o x:=by
 cases h with
 | cells t cs arr vs hv h=>exact .cells t cs arr vs hv (h.step hR hw)
 | map K es arr clock hl h hk=>exact .map K es arr clock hl (fun i e m he hm=>let ⟨a,b,c⟩:=h i e m he hm;⟨a.step hR hw,b.step hR hw,c⟩) hk
structure Sim (R:Nat→Prop) (S:q00) (w:World):Prop where
 own:∀ b o,sget S b=some o→∃ x,w.heap[b]?=some x∧RO R w o x
 ro:∀ b,R b→sget S b=none∧b<w.heap.size
structure Step (R:Nat→Prop) (S:q00) (w:World) (R':Nat→Prop) (S':q00) (w':World):Prop where
 size:w.heap.size≤w'.heap.size
 os:w'.os=w.os
 tape:w'.tape=w.tape
 output:w'.output=w.output
 keep:∀ k,k<w.heap.size→sget S k=none→w'.heap[k]?=w.heap[k]?∧sget S' k=none
 mono:∀ k,R k→R' k
 new:∀ k,R' k→R k∨sget S k≠none∨w.heap.size≤k
theorem Step.refl (R:Nat→Prop) (S:q00) (w:World):Step R S w R S w:=⟨Nat.le_refl _,rfl,rfl,rfl,fun _ _ h=>⟨rfl,h⟩,fun _ h=>h,fun _ h=>.inl h⟩
theorem Step.trans {R R1 R2:Nat→Prop} {S S1 S2:q00} {w w1 w2:World} (h:Step R S w R1 S1 w1) (k:Step R1 S1 w1 R2 S2 w2):Step R S w R2 S2 w2:=by
 refine ⟨Nat.le_trans h.size k.size,k.os.trans h.os,k.tape.trans h.tape,k.output.trans h.output,fun b hb hn=>?_,fun b hb=>k.mono b (h.mono b hb),fun b hb=>?_⟩
 ·obtain ⟨h1,h2⟩:=h.keep b hb hn
  obtain ⟨k1,k2⟩:=k.keep b (Nat.lt_of_lt_of_le hb h.size) h2
  exact ⟨k1.trans h1,k2⟩
 ·rcases k.new b hb with h1 | h1 | h1
  ·exact h.new b h1
  ·rcases Nat.lt_or_ge b w.heap.size with hlt | hge
   ·refine .inr (.inl fun hn=>h1 (h.keep b hlt hn).2)
   ·exact .inr (.inr hge)
  ·exact .inr (.inr (Nat.le_trans h.size h1))
theorem Sim.rv {R R':Nat→Prop} {S S':q00} {w w':World} (h:Sim R S w) (k:Step R S w R' S' w') {u:AV} {v:Value} (hv:RV R w u v):RV R' w' u v:=
 hv.step k.mono fun b hb=>(k.keep b (h.ro b hb).2 (h.ro b hb).1).1
theorem Sim.rvs {R R':Nat→Prop} {S S':q00} {w w':World} (h:Sim R S w) (k:Step R S w R' S' w') {u:List AV} {v:List Value} (hv:RVs R w u v):RVs R' w' u v:=
 hv.step k.mono fun b hb=>(k.keep b (h.ro b hb).2 (h.ro b hb).1).1
theorem Sim.sub {R:Nat→Prop} {S S':q00} {w:World} (h:Sim R S w) (hs:Sub S' S):Sim R S' w:=
 ⟨fun b o hb=>h.own b o (hs b o hb),fun b hb=>⟨(by
  cases e:sget S' b with
  | none=>rfl
  | some o=>(have:=hs b o e;rw [(h.ro b hb).1] at this;cases this)),(h.ro b hb).2⟩⟩
theorem Step.sub {R R':Nat→Prop} {S S' S'':q00} {w w':World} (h:Step R S w R' S' w') (hs:Sub S'' S'):Step R S w R' S'' w':=
 ⟨h.size,h.os,h.tape,h.output,fun k hk hn=>⟨(h.keep k hk hn).1,(by
  cases e:sget S'' k with
  | none=>rfl
  | some o=>(have:=hs k o e;rw [(h.keep k hk hn).2] at this;cases this))⟩,h.mono,h.new⟩
theorem Sim.lt {R:Nat→Prop} {S:q00} {w:World} (h:Sim R S w) {b:Nat} {o:AObj} (hb:sget S b=some o):b<w.heap.size:=by
 obtain ⟨x,hx,_⟩:=h.own b o hb
 exact (Array.getElem?_eq_some_iff.1 hx).1
theorem Sim.alloc {R:Nat→Prop} {S:q00} {w:World} (h:Sim R S w) {o:AObj} {x:Obj} (ho:RO R w o x) :
  sget S w.heap.size=none∧Sim R (supd S w.heap.size o) (w.alloc x)∧Step R S w R (supd S w.heap.size o) (w.alloc x):=by
 have hold:∀ k,k<w.heap.size→(w.alloc x).heap[k]?=w.heap[k]?:=fun k hk=>heap_alloc_old w x hk
 have hnone:sget S w.heap.size=none:=by
  cases e:sget S w.heap.size with
  | none=>rfl
  | some o=>exact absurd (h.lt e) (Nat.lt_irrefl _)
 refine ⟨hnone,⟨fun b o' hb=>?_,fun b hb=>⟨?_,by have:=(h.ro b hb).2;simp;omega⟩⟩,⟨by simp,rfl,rfl,rfl,fun k hk hn=>⟨hold k hk,?_⟩,fun _ h=>h,fun _ h=>.inl h⟩⟩
 ·by_cases e:w.heap.size=b
  ·subst e
   rw [q01,if_pos rfl] at hb
   cases hb
   exact ⟨x,heap_alloc_new w x,ho.step (fun _ h=>h) fun b hb=>hold b (h.ro b hb).2⟩
  ·rw [q01,if_neg e] at hb
   obtain ⟨y,hy,hr⟩:=h.own b o' hb
   exact ⟨y,(hold b (h.lt hb)).trans hy,hr.step (fun _ h=>h) fun b hb=>hold b (h.ro b hb).2⟩
 ·have:w.heap.size≠b:=by have:=(h.ro b hb).2;omega
  rw [q01,if_neg this]
  exact (h.ro b hb).1
 ·have:w.heap.size≠k:=by omega
  rw [q01,if_neg this]
  exact hn
theorem Sim.set {R:Nat→Prop} {S:q00} {w w':World} (h:Sim R S w) {b:Nat} {o o':AObj} {x:Obj} (hb:sget S b=some o) (hx:w'.heap[b]?=some x) (ho:RO R w o' x)
  (hsz:w'.heap.size=w.heap.size) (hos:w'.os=w.os) (ht:w'.tape=w.tape) (hou:w'.output=w.output) (hold:∀ k,k≠b→w'.heap[k]?=w.heap[k]?) :
  Sim R (supd S b o') w'∧Step R S w R (supd S b o') w':=by
 have hRw:∀ k,R k→w'.heap[k]?=w.heap[k]?:=fun k hk=>hold k (by rintro rfl;rw [(h.ro k hk).1] at hb;cases hb)
 refine ⟨⟨fun c o1 hc=>?_,fun c hc=>⟨?_,by rw [hsz];exact (h.ro c hc).2⟩⟩,⟨by omega,hos,ht,hou,fun k hk hn=>⟨hold k (by rintro rfl;rw [hn] at hb;cases hb),?_⟩,fun _ h=>h,fun _ h=>.inl h⟩⟩
 ·rw [q01] at hc
  split at hc
  ·rename_i e
   subst e
   cases hc
   exact ⟨x,hx,ho.step (fun _ h=>h) hRw⟩
  ·rename_i e
   obtain ⟨y,hy,hr⟩:=h.own c o1 hc
   exact ⟨y,(hold c (fun h=>e h.symm)).trans hy,hr.step (fun _ h=>h) hRw⟩
 ·have:b≠c:=by rintro rfl;rw [(h.ro b hc).1] at hb;cases hb
  rw [q01,if_neg this]
  exact (h.ro c hc).1
 ·have:b≠k:=by rintro rfl;rw [hn] at hb;cases hb
  rw [q01,if_neg this]
  exact hn
theorem Sim.draw {R:Nat→Prop} {S:q00} {w w':World} (h:Sim R S w) (he:w'.heap=w.heap) (hos:w'.os=w.os) (ht:w'.tape=w.tape) (hou:w'.output=w.output):Sim R S w'∧Step R S w R S w':=by
 have hw:∀ b:Nat,w'.heap[b]?=w.heap[b]?:=fun b=>by rw [he]
 exact ⟨⟨fun b o hb=>let ⟨x,hx,hr⟩:=h.own b o hb;⟨x,(hw b).trans hx,hr.step (fun _ h=>h) fun b _=>hw b⟩,fun b hb=>by rw [he];exact h.ro b hb⟩,
  ⟨by rw [he];exact Nat.le_refl _,hos,ht,hou,fun k _ hn=>⟨hw k,hn⟩,fun _ h=>h,fun _ h=>.inl h⟩⟩
abbrev Env:=Nat→AV
@[reducible] def eget (e:Env) (t:Nat):AV:=e t
def lget:List (Nat×AV)→Env
 | [],_=>.junk
 | (k,v) :: r,t=>bif k==t then v else lget r t
theorem q7k {k:Nat} {v:AV} {r:List (Nat×AV)} {t:Nat}:lget ((k,v) :: r) t=if k=t then v else lget r t:=by
 by_cases h:k=t
 ·subst h;simp [lget]
 ·have:(k==t)=false:=by simpa using h
  simp [lget,h,this]
def eupd (e:Env) (d:Nat) (v:AV):Env:=fun t=>bif d==t then v else e t
theorem q1h {e:Env} {d:Nat} {v:AV} {t:Nat}:eupd e d v t=if d=t then v else e t:=by
 by_cases h:d=t
 ·subst h;simp [eupd]
 ·have:(d==t)=false:=by simpa using h
  simp [eupd,h,this]
def q46 (ks:List Nat) (e:Env):List (Nat×AV):=ks.map fun k=>(k,e k)
def REnv (R:Nat→Prop) (w:World) (e:Env) (tmps:Array Value):Prop:=∀ t,RV R w (eget e t) (tmps.getD t undef)
theorem REnv.put {R:Nat→Prop} {w:World} {e:Env} {tmps:Array Value} (h:REnv R w e tmps) {d:Nat} {u:AV} {v:Value} (hv:RV R w u v) (hd:d<tmps.size):REnv R w (eupd e d u) (tmps.setIfInBounds d v):=by
 intro t
 by_cases e1:d=t
 ·subst e1
  simpa [eget,q1h,hd] using hv
 ·simp only [eget,q1h,e1,if_false]
  have:=h t
  simpa [Array.getElem?_setIfInBounds_ne e1] using this
theorem REnv.step {R R':Nat→Prop} {S S':q00} {w w':World} {e:Env} {tmps:Array Value} (h:REnv R w e tmps) (hs:Sim R S w) (k:Step R S w R' S' w'):REnv R' w' e tmps:=fun t=>hs.rv k (h t)
theorem lget_keep (ks:List Nat) (e:Env) (t:Nat):lget (q46 ks e) t=if ks.contains t then e t else .junk:=by
 induction ks with
 | nil=>simp [q46,lget]
 | cons k ks ih=>
  simp only [q46,List.map_cons,q7k,List.contains_cons]
  by_cases h:k=t
  ·subst h;simp
  ·rw [if_neg h]
   have h2:(t==k)=false:=by simp;exact fun e=>h e.symm
   simp only [h2,Bool.false_or]
   exact ih
theorem REnv.keep {R:Nat→Prop} {w:World} {e:Env} {tmps:Array Value} (h:REnv R w e tmps) (ks:List Nat):REnv R w (lget (q46 ks e)) tmps:=fun t=>by
 unfold eget
 rw [lget_keep]
 split
 ·exact h t
 ·exact .junk _
theorem REnv.junk (R:Nat→Prop) (w:World) (tmps:Array Value):REnv R w (lget []) tmps:=fun t=>.junk _
end Go.HL
