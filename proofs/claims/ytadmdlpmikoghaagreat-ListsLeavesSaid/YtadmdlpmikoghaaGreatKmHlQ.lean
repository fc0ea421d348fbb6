/- A part of a proof. -/
import Derived.Test.YtadmdlpmikoghaaGreatKmHlO
set_option linter.unusedSimpArgs false
set_option linter.unusedVariables false
namespace Go.HL
theorem one_aC {v:AV} (ho:one v=true):q08 v=[v]∧notJ v=true:=by
 cases v<;>first | exact ⟨rfl,rfl⟩ | cases ho
inductive FrO (S1 S:q00):AObj→AObj→Prop
 | cells (t tot:Nat) (cs cs':List AV) (h:Frs S1 S cs cs'):FrO S1 S (.cells t cs tot) (.cells t cs' tot)
 | map (K:Bool×List EK) (es es':List (AV×AV×Nat)) (clk:Nat) (hl:es.length=es'.length)
   (h:∀ (i:Nat) (e e':AV×AV×Nat),es[i]?=some e→es'[i]?=some e'→e'.1=e.1∧Fr S1 S e.2.1 e'.2.1∧e'.2.2=e.2.2):FrO S1 S (.map K es clk) (.map K es' clk)
theorem FrO.same {S1 S:q00} (o:AObj):FrO S1 S o o:=by
 cases o with
 | cells t cs tot=>exact .cells t tot cs cs (Frs.same cs)
 | map K es clk=>exact .map K es es clk rfl fun i e e' h1 h2=>by rw [h1] at h2;cases h2;exact ⟨rfl,.same _,rfl⟩
def FrS (S1 S:q00):Prop:=∀ b o',sget S1 b=some o'→∃ o,sget S b=some o∧FrO S1 S o o'
theorem FrS.sub {S1 S:q00} (h:Sub S1 S):FrS S1 S:=fun b o hb=>⟨o,h b o hb,.same o⟩
section
variable {S1 S:q00}
theorem FrS.none (h:FrS S1 S) {b:Nat} (hb:sget S b=Option.none):sget S1 b=Option.none:=by
 cases e:sget S1 b with
 | none=>rfl
 | some o=>obtain ⟨x,hx,-⟩:=h b o e;rw [hb] at hx;cases hx
def frR (R:Nat→Prop) (S1 S:q00):Nat→Prop:=fun k=>R k∨(sget S k≠Option.none∧sget S1 k=Option.none)
theorem FrS.sim (h:FrS S1 S) {R:Nat→Prop} {w:World} (hS:Sim R S w):Sim (frR R S1 S) S1 w∧Step R S w (frR R S1 S) S1 w:=by
 have hR:∀ k,R k→frR R S1 S k:=fun k hk=>.inl hk
 have hO:∀ k,sget S k≠Option.none→sget S1 k=Option.none→frR R S1 S k:=fun k h1 h2=>.inr ⟨h1,h2⟩
 refine ⟨⟨fun b o hb=>?_,fun b hb=>?_⟩,⟨Nat.le_refl _,rfl,rfl,rfl,fun k _ hk=>⟨rfl,h.none hk⟩,hR,fun k hk=>?_⟩⟩
 ·obtain ⟨o',h1,h2⟩:=h b o hb
  obtain ⟨x,hx,hro⟩:=hS.own b o' h1
  refine ⟨x,hx,?_⟩
  cases h2 with
  | cells t tot cs cs' hf=>
   cases hro with
   | cells _ _ arr vs hv h=>
    refine .cells t cs' arr vs (by rw [← hf.1];exact hv) ⟨by rw [← hf.1];exact h.1,fun i u' hu'=>?_⟩
    have hi:=(List.getElem?_eq_some_iff.1 hu').1
    have hu:cs[i]?=some (cs[i]'(by rw [hf.1];exact hi)):=List.getElem?_eq_getElem _
    exact (hf.2 i _ u' hu hu').rv hS hR hO (h.2 i _ hu)
  | map K es es' clk hl hf=>
   cases hro with
   | map _ _ arr _ hl2 h hk=>
    have get:∀ i e',es'[i]?=some e'→∃ e,es[i]?=some e:=fun i e' he=>by
     have hi:=(List.getElem?_eq_some_iff.1 he).1
     exact ⟨_,List.getElem?_eq_getElem (by omega)⟩
    refine .map K es' arr clk (by omega) (fun i e' m he hm=>?_) fun e' he=>?_
    ·obtain ⟨e,h1⟩:=get i e' he
     obtain ⟨k1,k2,k3⟩:=hf i e e' h1 he
     obtain ⟨m1,m2,m3⟩:=h i e m h1 hm
     refine ⟨?_,k2.rv hS hR hO m2,by rw [k3];exact m3⟩
     rw [k1]
     exact m1.step hR fun _ _=>rfl
    ·obtain ⟨i,hi⟩:=List.getElem?_of_mem he
     obtain ⟨e,h1⟩:=get i e' hi
     rw [(hf i e e' h1 hi).1]
     exact hk e (List.mem_of_getElem? h1)
 ·rcases hb with hb | ⟨h1,h2⟩
  ·exact ⟨h.none (hS.ro b hb).1,(hS.ro b hb).2⟩
  ·cases h3:sget S b with
   | none=>exact absurd h3 h1
   | some o=>exact ⟨h2,hS.lt h3⟩
 ·rcases hk with hk | ⟨h1,-⟩
  ·exact .inl hk
  ·exact .inr (.inl h1)
theorem ACalls.frz {P:Program} {f:Nat} {args args':List AV} {Q:AEnd→q00→Prop} (hs:FrS S1 S) (ha:Frs S1 S args args') (h:ACalls P f args' S1 Q):ACalls P f args S Q:=
 fun R w vs hS hv=>by
  obtain ⟨h1,h2⟩:=hs.sim hS
  have hv':RVs (frR R S1 S) w args' vs.toList:=⟨by rw [← ha.1];exact hv.1,fun i u' hu'=>by
   have hi:=(List.getElem?_eq_some_iff.1 hu').1
   have hu:args[i]?=some (args[i]'(by rw [ha.1];exact hi)):=List.getElem?_eq_getElem _
   exact (ha.2 i _ u' hu hu').rv hS (fun k hk=>.inl hk) (fun k k1 k2=>.inr ⟨k1,k2⟩) (hv.2 i _ hu)⟩
  exact (h _ w vs h1 hv').mono fun en w' ⟨R',S',ae,k1,k2,k3,k4⟩=>⟨R',S',ae,k1,k2,k3,h2.trans k4⟩
theorem FrS.shiftE (h:FrS S1 S) {e e':Env} (hl:∀ k,Fr S1 S (e k) (e' k)):Shift e S e' S1:=fun R w tmps hS hE=>
 ⟨_,(h.sim hS).1,fun k=>(hl k).rv hS (fun k hk=>.inl hk) (fun k k1 k2=>.inr ⟨k1,k2⟩) (hE k),(h.sim hS).2⟩
inductive FrE (S1 S:q00):LE→LE→Prop
 | nil:FrE S1 S [] []
 | cons {k:Nat} {v v':AV} {l l':LE} (h:Fr S1 S v v') (hs:FrE S1 S l l'):FrE S1 S ((k,v) :: l) ((k,v') :: l')
theorem FrE.get {l l':LE} (h:FrE S1 S l l') (k:Nat):Fr S1 S (lget l k) (lget l' k):=by
 induction h with
 | nil=>exact .same _
 | cons h hs ih=>
  rw [q7k,q7k]
  split
  ·exact h
  ·exact ih
attribute [local semireducible] LoopP in
theorem LoopP.shift {F:(LE→q00→Prop)→LE→q00→Prop} {l l':LE} (h:Shift (lget l) S (lget l') S1) (hL:LoopP F l' S1):LoopP F l S:=by
 obtain ⟨I,n,⟨l2,S2,h2,hi⟩,hs⟩:=hL
 exact ⟨I,n,⟨l2,S2,h.trans h2,hi⟩,hs⟩
theorem LoopP.frz {F:(LE→q00→Prop)→LE→q00→Prop} {l l':LE} (hs:FrS S1 S) (he:FrE S1 S l l') (hL:LoopP F l' S1):LoopP F l S:=
 hL.shift (hs.shiftE he.get)
end
end Go.HL
