/- A part of a proof. -/
import Derived.Test.YtadmdlpmikoghaaGreatKiHlM
import Derived.Test.YtadmdlpmikoghaaGreatKiHlN
import Derived.Test.YtadmdlpmikoghaaGreatKiHlS2
import Derived.Test.YtadmdlpmikoghaaGreatKiHlS4
import Derived.Test.YtadmdlpmikoghaaGreatKiHlS5
import Derived.Test.YtadmdlpmikoghaaGreatKiHlS12
import Derived.Test.YtadmdlpmikoghaaGreatKiHlS9
import Derived.Test.YtadmdlpmikoghaaGreatKiHlS10
import Derived.Test.YtadmdlpmikoghaaGreatKiHlS14
import Derived.Test.YtadmdlpmikoghaaGreatKiHlS3
import Derived.Test.YtadmdlpmikoghaaGreatKiHlS6
import Derived.Test.YtadmdlpmikoghaaGreatKiHlS13
import Derived.Test.YtadmdlpmikoghaaGreatKiHlS7
import Derived.Test.YtadmdlpmikoghaaGreatKiHlS11
import Derived.Test.YtadmdlpmikoghaaGreatKiHlS8
import Derived.Lib.Bytealg
import Derived.Laws.Externs
set_option linter.defProp false
set_option linter.unusedSimpArgs false
set_option linter.unusedVariables false
namespace Go.HL
open Nat renaming reduceAdd→zA,reduceLeDiff→zB,reduceLT→zC,reduceSub→zD,reduceMul→zE,reduceEqDiff→zF,reduceBEq→zG
open Int renaming reduceAdd→zH,reduceToNat→zI
section
variable {α:Type}
def vl (n:Nat) (v:Nat→α):List α:=(List.range n).map v
theorem q1g {n:Nat} {v:Nat→α}:(vl n v).length=n:=by simp [vl]
theorem vl_get {n:Nat} {v:Nat→α} {i:Nat} (h:i<n):(vl n v)[i]?=some (v i):=by simp [vl,h]
theorem vl_of (xs:List α) (d:α):vl xs.length (fun i=>xs.getD i d)=xs:=by
 apply List.ext_getElem?
 intro i
 by_cases h:i<xs.length
 ·rw [vl_get h];simp [h]
 ·rw [List.getElem?_eq_none_iff.2 (by rw [q1g];omega),List.getElem?_eq_none_iff.2 (by omega)]
structure Rng (n a b:Nat) (v w:Nat→α):Prop where
 perm:(vl n v).Perm (vl n w)
 out:∀ i,i<a∨b≤i→w i=v i
def sw (v:Nat→α) (i j:Nat):Nat→α:=fun k=>if k=j then v i else if k=i then v j else v k
theorem sw_i {v:Nat→α} {i j:Nat}:sw v i j i=v j:=by
 unfold sw
 by_cases h:i=j
 ·rw [if_pos h,h]
 ·rw [if_neg h,if_pos rfl]
theorem sw_j {v:Nat→α} {i j:Nat}:sw v i j j=v i:=if_pos rfl
theorem sw_o {v:Nat→α} {i j k:Nat} (h1:k≠i) (h2:k≠j):sw v i j k=v k:=by unfold sw;rw [if_neg h2,if_neg h1]
theorem vl_set {n:Nat} {v:Nat→α} {i:Nat} {x:α}:(vl n v).set i x=vl n fun k=>if k=i then x else v k:=by
 apply List.ext_getElem?
 intro k
 rw [List.getElem?_set]
 by_cases h:k<n
 ·rw [vl_get h,vl_get h,q1g]
  by_cases e:i=k
  ·subst e;simp [h]
  ·rw [if_neg e,if_neg (Ne.symm e)]
 ·rw [List.getElem?_eq_none_iff.2 (by rw [q1g];omega),List.getElem?_eq_none_iff.2 (by rw [q1g];omega),q1g]
  split
  ·rw [if_neg (by omega)]
  ·rfl
theorem Rng.refl (n a b:Nat) (v:Nat→α):Rng n a b v v:=⟨List.Perm.refl _,fun _ _=>rfl⟩
theorem Rng.trans {n a b:Nat} {u v w:Nat→α} (h:Rng n a b u v) (k:Rng n a b v w):Rng n a b u w:=⟨h.perm.trans k.perm,fun i hi=>(k.out i hi).trans (h.out i hi)⟩
theorem Rng.mono {n a b a' b':Nat} {v w:Nat→α} (h:Rng n a b v w) (ha:a'≤a) (hb:b≤b'):Rng n a' b' v w:=⟨h.perm,fun i hi=>h.out i (by omega)⟩
theorem Rng.sw {n a b i j:Nat} {v:Nat→α} (hi:a≤i) (hi':i<b) (hj:a≤j) (hj':j<b) (hb:b≤n):Rng n a b v (sw v i j):=by
 refine ⟨?_,fun k hk=>sw_o (by omega) (by omega)⟩
 have h:=@List.set_set_perm _ (vl n v) i j (by rw [q1g];omega) (by rw [q1g];omega)
 have e1:(vl n v)[i]'(by rw [q1g];omega)=v i:=by
  have:=vl_get (v:=v) (show i<n by omega)
  rw [List.getElem?_eq_getElem (by rw [q1g];omega)] at this
  exact Option.some.inj this
 have e2:(vl n v)[j]'(by rw [q1g];omega)=v j:=by
  have:=vl_get (v:=v) (show j<n by omega)
  rw [List.getElem?_eq_getElem (by rw [q1g];omega)] at this
  exact Option.some.inj this
 rw [e1,e2,vl_set,vl_set] at h
 exact h.symm
theorem Rng.mem {n a b:Nat} {v w:Nat→α} (h:Rng n a b v w) (hb:b≤n) {i:Nat} (h1:a≤i) (h2:i<b):∃ j,a≤j∧j<b∧w i=v j:=by
 have e:∀ u:Nat→α,vl n u=(List.range' 0 a).map u++((List.range' a (b-a)).map u++(List.range' b (n-b)).map u):=by
  intro u
  rw [← List.map_append,← List.map_append]
  unfold vl
  congr 1
  rw [List.range_eq_range']
  have r2:List.range' a (b-a)++List.range' b (n-b)=List.range' a (n-a):=by
   have:=List.range'_append (s:=a) (m:=b-a) (n:=n-b) (step:=1)
   rw [show a+1 * (b-a)=b by omega,show (b-a)+(n-b)=n-a by omega] at this
   exact this
  have r1:List.range' 0 a++List.range' a (n-a)=List.range' 0 n:=by
   have:=List.range'_append (s:=0) (m:=a) (n:=n-a) (step:=1)
   rw [show 0+1 * a=a by omega,show a+(n-a)=n by omega] at this
   exact this
  rw [r2,r1]
 have hp:=h.perm
 rw [e v,e w] at hp
 have c1:(List.range' 0 a).map w=(List.range' 0 a).map v:=List.map_congr_left fun k hk=>h.out k (.inl (by simp at hk;omega))
 have c2:(List.range' b (n-b)).map w=(List.range' b (n-b)).map v:=List.map_congr_left fun k hk=>h.out k (.inr (by simp at hk;omega))
 rw [c1,c2,List.perm_append_left_iff,List.perm_append_right_iff] at hp
 have hm:w i∈(List.range' a (b-a)).map w:=List.mem_map.2 ⟨i,by simp;omega,rfl⟩
 obtain ⟨j,hj,e⟩:=List.mem_map.1 (hp.mem_iff.2 hm)
 simp at hj
 exact ⟨j,by omega,by omega,e.symm⟩
structure LtOk (lt:α→α→Bool):Prop where
 asy:∀ x y,lt x y=true→lt y x=false
 tr:∀ x y z,lt y x=false→lt z y=false→lt z x=false
variable {lt:α→α→Bool}
def Le (lt:α→α→Bool) (x y:α):Prop:=lt y x=false
theorem Le.refl (h:LtOk lt) (x:α):Le lt x x:=by
 unfold Le
 cases e:lt x x with
 | false=>rfl
 | true=>have:=h.asy x x e;rw [e] at this;exact this
theorem Le.trans (h:LtOk lt) {x y z:α} (h1:Le lt x y) (h2:Le lt y z):Le lt x z:=h.tr x y z h1 h2
theorem Le.of_lt (h:LtOk lt) {x y:α} (h1:lt x y=true):Le lt x y:=h.asy x y h1
def Srt (lt:α→α→Bool) (a b:Nat) (v:Nat→α):Prop:=∀ p q,a≤p→p<q→q<b→Le lt (v p) (v q)
theorem Srt.one {a b:Nat} {v:Nat→α} (h:b≤a+1):Srt lt a b v:=fun p q h1 h2 h3=>by omega
theorem Srt.snoc (h:LtOk lt) {a b:Nat} {v:Nat→α} (hs:Srt lt a b v) (hab:a<b) (hl:Le lt (v (b-1)) (v b)):Srt lt a (b+1) v:=by
 intro p q h1 h2 h3
 by_cases hq:q=b
 ·subst hq
  by_cases hp:p=q-1
  ·rw [hp];exact hl
  ·exact (hs p (q-1) h1 (by omega) (by omega)).trans h hl
 ·exact hs p q h1 h2 (by omega)
theorem Srt.same {a b:Nat} {v w:Nat→α} (hs:Srt lt a b v) (e:∀ i,a≤i→i<b→w i=v i):Srt lt a b w:=fun p q h1 h2 h3=>by rw [e p h1 (by omega),e q (by omega) h3];exact hs p q h1 h2 h3
structure InsI (lt:α→α→Bool) (a i j:Nat) (v:Nat→α):Prop where
 lo:a≤j
 hi:j≤i
 s:∀ p q,a≤p→p<q→q≤i→q≠j→Le lt (v p) (v q)
theorem InsI.start {a i:Nat} {v:Nat→α} (hs:Srt lt a i v) (h:a≤i):InsI lt a i i v:=⟨h,Nat.le_refl _,fun p q h1 h2 h3 h4=>hs p q h1 h2 (by omega)⟩
theorem InsI.stop (h:LtOk lt) {a i j:Nat} {v:Nat→α} (hs:InsI lt a i j v) (hj:j=a∨Le lt (v (j-1)) (v j)):Srt lt a (i+1) v:=by
 intro p q h1 h2 h3
 by_cases hq:q=j
 ·rcases hj with hj | hj
  ·omega
  ·subst hq
   by_cases hp:p=q-1
   ·rw [hp];exact hj
   ·exact (hs.s p (q-1) h1 (by omega) (by have:=hs.hi;omega) (by omega)).trans h hj
 ·exact hs.s p q h1 h2 (by omega) hq
theorem InsI.step (h:LtOk lt) {a i j:Nat} {v:Nat→α} (hs:InsI lt a i j v) (hj:a<j) (hl:lt (v j) (v (j-1))=true):InsI lt a i (j-1) (sw v j (j-1)):=by
 have h0:=hs.hi
 refine ⟨by omega,by omega,fun p q h1 h2 h3 h4=>?_⟩
 by_cases hq:q=j
 ·subst hq
  rw [sw_i]
  by_cases hp:p=q-1
  ·subst hp
   rw [sw_j]
   exact Le.of_lt h hl
  ·rw [sw_o (by omega) hp]
   exact hs.s p (q-1) h1 (by omega) (by omega) (by omega)
 ·rw [sw_o hq h4 (v:=v)]
  by_cases hp:p=j-1
  ·subst hp
   rw [sw_j]
   exact hs.s j q (by omega) (by omega) h3 hq
  ·by_cases hp2:p=j
   ·subst hp2
    rw [sw_i]
    exact hs.s (p-1) q (by omega) (by omega) h3 hq
   ·rw [sw_o hp2 hp]
    exact hs.s p q h1 h2 h3 hq
def Hp (lt:α→α→Bool) (f lo hi:Nat) (v:Nat→α):Prop:=∀ p c,lo≤p→(c=2 * p+1∨c=2 * p+2)→c<hi→Le lt (v (f+c)) (v (f+p))
structure Sif (lt:α→α→Bool) (f lo hi r:Nat) (v:Nat→α):Prop where
 lr:lo≤r
 pp:∀ p c,lo≤p→p≠r→(c=2 * p+1∨c=2 * p+2)→c<hi→Le lt (v (f+c)) (v (f+p))
 gg:∀ q c,lo≤q→(r=2 * q+1∨r=2 * q+2)→(c=2 * r+1∨c=2 * r+2)→c<hi→Le lt (v (f+c)) (v (f+q))
theorem Sif.start {f lo hi:Nat} {v:Nat→α} (h:Hp lt f (lo+1) hi v):Sif lt f lo hi lo v:=⟨Nat.le_refl _,fun p c h1 h2 h3 h4=>h p c (by omega) h3 h4,fun q c h1 h2=>by omega⟩
structure Best (lt:α→α→Bool) (f hi r ch:Nat) (v:Nat→α):Prop where
 cc:ch=2 * r+1∨ch=2 * r+2
 cl:ch<hi
 mm:∀ c,(c=2 * r+1∨c=2 * r+2)→c<hi→Le lt (v (f+c)) (v (f+ch))
theorem Sif.stop (h0:LtOk lt) {f lo hi r ch:Nat} {v:Nat→α} (h:Sif lt f lo hi r v) (hb:Best lt f hi r ch v) (hl:Le lt (v (f+ch)) (v (f+r))):Hp lt f lo hi v:=fun p c h1 h2 h3=>by
 by_cases hp:p=r
 ·subst hp
  exact (hb.mm c h2 h3).trans h0 hl
 ·exact h.pp p c h1 hp h2 h3
theorem Sif.step (h0:LtOk lt) {f lo hi r ch:Nat} {v:Nat→α} (h:Sif lt f lo hi r v) (hb:Best lt f hi r ch v) (hl:lt (v (f+r)) (v (f+ch))=true):Sif lt f lo hi ch (sw v (f+r) (f+ch)):=by
 have h1:=h.lr
 have h2:=hb.cc
 have h3:=hb.cl
 refine ⟨by omega,fun p c a1 a2 a3 a4=>?_,fun q c a1 a2 a3 a4=>?_⟩
 ·by_cases hp:p=r
  ·subst hp
   rw [sw_i]
   by_cases hc:c=ch
   ·subst hc
    rw [sw_j]
    exact Le.of_lt h0 hl
   ·rw [sw_o (by omega) (by omega)]
    exact hb.mm c a3 a4
  ·rw [sw_o (k:=f+p) (by omega) (by omega)]
   by_cases hc:c=r
   ·subst hc
    rw [sw_i]
    exact h.gg p ch a1 a3 h2 h3
   ·rw [sw_o (by omega) (by omega)]
    exact h.pp p c a1 hp a3 a4
 ·have hq:q=r:=by omega
  subst hq
  rw [sw_i,sw_o (by omega) (by omega)]
  exact h.pp ch c (by omega) (by omega) a3 a4
theorem Hp.max (h0:LtOk lt) {f hi:Nat} {v:Nat→α} (h:Hp lt f 0 hi v):∀ i,i<hi→Le lt (v (f+i)) (v f):=by
 intro i
 induction i using Nat.strongRecOn with
 | ind i ih=>
  intro hi'
  by_cases e:i=0
  ·subst e;exact Le.refl h0 _
  ·exact (h ((i-1) / 2) i (Nat.zero_le _) (by omega) hi').trans h0 (ih ((i-1) / 2) (by omega) (by omega))
structure Pop (lt:α→α→Bool) (f m hi:Nat) (v:Nat→α):Prop where
 h:Hp lt f 0 m v
 s:Srt lt (f+m) (f+hi) v
 u:∀ i j,i<m→m≤j→j<hi→Le lt (v (f+i)) (v (f+j))
theorem Pop.pre {f i hi:Nat} {v:Nat→α} (h:Pop lt f (i+1) hi v):Hp lt f 1 i (sw v f (f+i)):=fun p c h1 h2 h3=>by
 rw [sw_o (by omega) (by omega),sw_o (by omega) (by omega)]
 exact h.h p c (Nat.zero_le _) h2 (by omega)
theorem Pop.step (h0:LtOk lt) {n f i hi:Nat} {v w:Nat→α} (hi':i<hi) (hn:f+hi≤n) (h:Pop lt f (i+1) hi v) (hr:Rng n f (f+i) (sw v f (f+i)) w) (hw:Hp lt f 0 i w):Pop lt f i hi w:=by
 have hmax:=h.h.max h0
 have wi:w (f+i)=v f:=by rw [hr.out _ (.inr (Nat.le_refl _)),sw_j]
 have wo:∀ j,i<j→w (f+j)=v (f+j):=fun j hj=>by rw [hr.out _ (.inr (by omega)),sw_o (by omega) (by omega)]
 have wl:∀ k,k<i→∃ m,m≤i∧w (f+k)=v (f+m):=by
  intro k hk
  obtain ⟨j,j1,j2,j3⟩:=hr.mem (by omega) (i:=f+k) (by omega) (by omega)
  rw [j3]
  by_cases e:j=f
  ·subst e;exact ⟨i,Nat.le_refl _,sw_i⟩
  ·exact ⟨j-f,by omega,by rw [sw_o e (by omega)];congr 1;omega⟩
 refine ⟨hw,fun p q h1 h2 h3=>?_,fun k j h1 h2 h3=>?_⟩
 ·have ep:p=f+(p-f):=by omega
  have eq:q=f+(q-f):=by omega
  rw [eq,wo _ (by omega)]
  by_cases hp:p=f+i
  ·rw [hp,wi]
   exact h.u 0 (q-f) (by omega) (by omega) (by omega)
  ·rw [ep,wo _ (by omega)]
   exact h.s _ _ (by omega) (by omega) (by omega)
 ·obtain ⟨m,m1,m2⟩:=wl k h1
  rw [m2]
  by_cases e:j=i
  ·subst e
   rw [wi]
   exact hmax m (by omega)
  ·rw [wo j (by omega)]
   exact h.u m j (by omega) (by omega) h3
structure Cut (lt:α→α→Bool) (a b m:Nat) (v:Nat→α):Prop where
 ca:a≤m
 cb:m<b
 l:∀ k,a≤k→k<m→Le lt (v k) (v m)
 r:∀ k,m<k→k<b→Le lt (v m) (v k)
structure Pdq (lt:α→α→Bool) (A B a b:Nat) (v:Nat→α):Prop where
 pa:A≤a
 ab:a≤b
 pb:b≤B
 l:Srt lt A a v
 r:Srt lt b B v
 lm:∀ i j,A≤i→i<a→a≤j→j<B→Le lt (v i) (v j)
 mr:∀ i j,A≤i→i<b→b≤j→j<B→Le lt (v i) (v j)
theorem Pdq.start {A B:Nat} {v:Nat→α} (h:A≤B):Pdq lt A B A B v:=⟨Nat.le_refl _,h,Nat.le_refl _,Srt.one (by omega),Srt.one (by omega),fun i j h1 h2=>by omega,fun i j h1 h2 h3 h4=>by omega⟩
theorem Pdq.rng {n A B a b:Nat} {v w:Nat→α} (h:Pdq lt A B a b v) (hn:B≤n) (hr:Rng n a b v w):Pdq lt A B a b w:=by
 have h1:=h.pa
 have h2:=h.ab
 have h3:=h.pb
 have lo:∀ i,i<a→w i=v i:=fun i hi=>hr.out i (.inl hi)
 have hi:∀ i,b≤i→w i=v i:=fun i hi=>hr.out i (.inr hi)
 refine ⟨h1,h2,h3,h.l.same fun i _ hi=>lo i hi,h.r.same fun i hi' _=>hi i hi',fun i j a1 a2 a3 a4=>?_,fun i j a1 a2 a3 a4=>?_⟩
 ·rw [lo i a2]
  by_cases e:j<b
  ·obtain ⟨k,k1,k2,k3⟩:=hr.mem (by omega) a3 e
   rw [k3]
   exact h.lm i k a1 a2 k1 (by omega)
  ·rw [hi j (by omega)]
   exact h.lm i j a1 a2 a3 a4
 ·rw [hi j a3]
  by_cases e:a≤i
  ·obtain ⟨k,k1,k2,k3⟩:=hr.mem (by omega) e a2
   rw [k3]
   exact h.mr k j (by omega) k2 a3 a4
  ·rw [lo i (by omega)]
   exact h.mr i j a1 a2 a3 a4
theorem Pdq.done (h0:LtOk lt) {A B a b:Nat} {v:Nat→α} (h:Pdq lt A B a b v) (hs:Srt lt a b v):Srt lt A B v:=by
 have h1:=h.ab
 intro p q a1 a2 a3
 by_cases e1:q<a
 ·exact h.l p q a1 a2 e1
 ·by_cases e2:p<a
  ·exact h.lm p q a1 e2 (by omega) a3
  ·by_cases e3:q<b
   ·exact hs p q (by omega) a2 e3
   ·by_cases e4:p<b
    ·exact h.mr p q a1 e4 (by omega) a3
    ·exact h.r p q (by omega) a2 a3
theorem Pdq.left (h0:LtOk lt) {A B a b m:Nat} {v:Nat→α} (h:Pdq lt A B a b v) (hm:Cut lt a b m v) (hs:Srt lt a m v):Pdq lt A B (m+1) b v:=by
 have h1:=h.pa
 have h2:=hm.ca
 have h3:=hm.cb
 have h4:=h.pb
 have key:∀ i j,a≤i→i<m+1→m≤j→j<b→i<j→Le lt (v i) (v j):=by
  intro i j b1 b2 b3 b4 b5
  have q1:Le lt (v i) (v m):=by
   by_cases e:i=m
   ·rw [e];exact Le.refl h0 _
   ·exact hm.l i b1 (by omega)
  by_cases e:j=m
  ·rw [e];exact q1
  ·exact q1.trans h0 (hm.r j (by omega) b4)
 refine ⟨by omega,by omega,h4,fun p q a1 a2 a3=>?_,h.r,fun i j a1 a2 a3 a4=>?_,h.mr⟩
 ·by_cases e1:q<a
  ·exact h.l p q a1 a2 e1
  ·by_cases e2:p<a
   ·exact h.lm p q a1 e2 (by omega) (by omega)
   ·by_cases e3:q<m
    ·exact hs p q (by omega) a2 e3
    ·exact key p q (by omega) (by omega) (by omega) (by omega) a2
 ·by_cases e1:i<a
  ·exact h.lm i j a1 e1 (by omega) a4
  ·by_cases e2:j<b
   ·exact key i j (by omega) a2 (by omega) e2 (by omega)
   ·exact h.mr i j a1 (by omega) (by omega) a4
theorem Pdq.right (h0:LtOk lt) {A B a b m:Nat} {v:Nat→α} (h:Pdq lt A B a b v) (hm:Cut lt a b m v) (hs:Srt lt (m+1) b v):Pdq lt A B a m v:=by
 have h1:=h.pa
 have h2:=hm.ca
 have h3:=hm.cb
 have h4:=h.pb
 have key:∀ i j,a≤i→i<m+1→m≤j→j<b→i<j→Le lt (v i) (v j):=by
  intro i j b1 b2 b3 b4 b5
  have q1:Le lt (v i) (v m):=by
   by_cases e:i=m
   ·rw [e];exact Le.refl h0 _
   ·exact hm.l i b1 (by omega)
  by_cases e:j=m
  ·rw [e];exact q1
  ·exact q1.trans h0 (hm.r j (by omega) b4)
 refine ⟨h1,h2,by omega,h.l,fun p q a1 a2 a3=>?_,h.lm,fun i j a1 a2 a3 a4=>?_⟩
 ·by_cases e1:b≤p
  ·exact h.r p q e1 a2 a3
  ·by_cases e2:b≤q
   ·exact h.mr p q (by omega) (by omega) e2 a3
   ·by_cases e3:p=m
    ·subst e3;exact hm.r q a2 (by omega)
    ·exact hs p q (by omega) a2 (by omega)
 ·by_cases e1:b≤j
  ·exact h.mr i j a1 (by omega) e1 a4
  ·by_cases e2:i<a
   ·exact h.lm i j a1 e2 (by omega) a4
   ·exact key i j (by omega) (by omega) a3 (by omega) (by omega)
theorem Pdq.same (h0:LtOk lt) {A B a b m:Nat} {v:Nat→α} (h:Pdq lt A B a b v) (ham:a≤m) (hmb:m≤b) (hmin:∀ k,a≤k→k<b→Le lt (v a) (v k)) (hl:∀ k,a≤k→k<m→Le lt (v k) (v a)):Pdq lt A B m b v:=by
 have h1:=h.pa
 have h4:=h.pb
 have key:∀ i j,a≤i→i<m→a≤j→j<b→Le lt (v i) (v j):=fun i j b1 b2 b3 b4=>(hl i b1 b2).trans h0 (hmin j b3 b4)
 refine ⟨by omega,hmb,h4,fun p q a1 a2 a3=>?_,h.r,fun i j a1 a2 a3 a4=>?_,h.mr⟩
 ·by_cases e1:q<a
  ·exact h.l p q a1 a2 e1
  ·by_cases e2:p<a
   ·exact h.lm p q a1 e2 (by omega) (by omega)
   ·exact key p q (by omega) (by omega) (by omega) (by omega)
 ·by_cases e1:i<a
  ·exact h.lm i j a1 e1 (by omega) a4
  ·by_cases e2:j<b
   ·exact key i j (by omega) a2 (by omega) e2
   ·exact h.mr i j a1 (by omega) (by omega) a4
end
section
variable {α:Type} {lt:α→α→Bool}
structure StOk (lt:α→α→Bool):Prop where
 ok:LtOk lt
 tot:∀ x y,lt x y=false→lt y x=false→x=y
theorem StOk.irr (h:StOk lt) (x:α):lt x x=false:=Le.refl h.ok x
theorem StOk.le_lt (h:StOk lt) {x y z:α} (h1:lt y x=false) (h2:lt y z=true):lt x z=true:=by
 cases e:lt x z with
 | true=>rfl
 | false=>
  have:=h.ok.tr z x y e h1
  rw [h2] at this
  cases this
theorem StOk.trans (h:StOk lt) {x y z:α} (h1:lt x y=true) (h2:lt y z=true):lt x z=true:=h.le_lt (h.ok.asy _ _ h1) h2
def Asc (lt:α→α→Bool) (l:List α):Prop:=l.Pairwise fun x y=>lt x y=true
theorem Asc.uniq (h:StOk lt):∀ {l m:List α},Asc lt l→Asc lt m→(∀ x,x∈l↔x∈m)→l=m
 | [],[],_,_,_=>rfl
 | [],b :: m,_,_,hm=>by have:=(hm b).2 (by simp);cases this
 | a :: l,[],_,_,hm=>by have:=(hm a).1 (by simp);cases this
 | a :: l,b :: m,ha,hb,hm=>by
  obtain ⟨ha1,ha2⟩:=List.pairwise_cons.1 ha
  obtain ⟨hb1,hb2⟩:=List.pairwise_cons.1 hb
  have hab:a=b:=by
   rcases List.mem_cons.1 ((hm a).1 (by simp)) with e | e
   ·exact e
   ·rcases List.mem_cons.1 ((hm b).2 (by simp)) with e' | e'
    ·exact e'.symm
    ·have h1:=hb1 a e
     have h2:=ha1 b e'
     rw [h.ok.asy _ _ h2] at h1
     cases h1
  subst hab
  rw [Asc.uniq h (l:=l) (m:=m) ha2 hb2 fun x=>?_]
  constructor
  ·intro hx
   rcases List.mem_cons.1 ((hm x).1 (List.mem_cons_of_mem _ hx)) with e | e
   ·subst e
    have:=ha1 x hx
    rw [h.irr] at this
    cases this
   ·exact e
  ·intro hx
   rcases List.mem_cons.1 ((hm x).2 (List.mem_cons_of_mem _ hx)) with e | e
   ·subst e
    have:=hb1 x hx
    rw [h.irr] at this
    cases this
   ·exact e
variable [DecidableEq α]
def dd (u:Nat→α):Nat→List α
 | 0=>[]
 | i+1=>if 0<i∧u i=u (i-1) then dd u i else dd u i++[u i]
theorem mem_dd {u:Nat→α}:∀ {n:Nat} {z:α},z∈dd u n↔∃ i,i<n∧u i=z
 | 0,z=>by simp [dd]
 | n+1,z=>by
  have ih:=mem_dd (u:=u) (n:=n) (z:=z)
  unfold dd
  split
  ·rename_i h
   rw [ih]
   constructor
   ·rintro ⟨i,h1,h2⟩;exact ⟨i,by omega,h2⟩
   ·rintro ⟨i,h1,h2⟩
    by_cases e:i=n
    ·subst e;exact ⟨i-1,by omega,by rw [← h.2];exact h2⟩
    ·exact ⟨i,by omega,h2⟩
  ·rw [List.mem_append,List.mem_singleton,ih]
   constructor
   ·rintro (⟨i,h1,h2⟩ | h2)
    ·exact ⟨i,by omega,h2⟩
    ·exact ⟨n,by omega,h2.symm⟩
   ·rintro ⟨i,h1,h2⟩
    by_cases e:i=n
    ·subst e;exact .inr h2.symm
    ·exact .inl ⟨i,by omega,h2⟩
theorem dd_asc (h:StOk lt) {u:Nat→α}:∀ {n:Nat},Srt lt 0 n u→Asc lt (dd u n)
 | 0,_=>List.Pairwise.nil
 | n+1,hs=>by
  have ih:=dd_asc h (u:=u) (n:=n) fun p q h1 h2 h3=>hs p q h1 h2 (by omega)
  unfold dd
  split
  ·exact ih
  ·rename_i hne
   refine List.pairwise_append.2 ⟨ih,List.pairwise_singleton _ _,fun z hz y hy=>?_⟩
   rw [List.mem_singleton] at hy
   subst hy
   obtain ⟨i,h1,rfl⟩:=mem_dd.1 hz
   have hn:0<n:=by omega
   have hlt:lt (u (n-1)) (u n)=true:=by
    cases e:lt (u (n-1)) (u n) with
    | true=>rfl
    | false=>exact absurd ⟨hn,(h.tot _ _ e (hs (n-1) n (by omega) (by omega) (by omega))).symm⟩ hne
   by_cases e:i=n-1
   ·rw [e];exact hlt
   ·exact h.le_lt (hs i (n-1) (by omega) (by omega) (by omega)) hlt
def insO (lt:α→α→Bool):List α→α→List α
 | [],x=>[x]
 | y :: r,x=>if lt y x=true then y :: insO lt r x else if y=x then y :: r else x :: y :: r
theorem mem_insO {x z:α}:∀ {l:List α},z∈insO lt l x↔z∈l∨z=x
 | []=>by simp [insO]
 | y :: r=>by
  have ih:=mem_insO (x:=x) (z:=z) (l:=r)
  unfold insO
  split
  ·rw [List.mem_cons,List.mem_cons,ih,or_assoc]
  ·split
   ·rename_i e
    subst e
    simp only [List.mem_cons]
    constructor
    ·exact .inl
    ·rintro (h | h)
     ·exact h
     ·exact .inl h
   ·simp only [List.mem_cons]
    constructor
    ·rintro (h | h)
     ·exact .inr h
     ·exact .inl h
    ·rintro (h | h)
     ·exact .inr h
     ·exact .inl h
theorem insO_len {x:α}:∀ {l:List α},(insO lt l x).length≤l.length+1
 | []=>by simp [insO]
 | y :: r=>by
  have ih:=insO_len (x:=x) (l:=r)
  unfold insO
  split
  ·simp only [List.length_cons];omega
  ·split<;>simp
theorem insO_asc (h:StOk lt) {x:α}:∀ {l:List α},Asc lt l→Asc lt (insO lt l x)
 | [],_=>List.pairwise_singleton _ _
 | y :: r,hl=>by
  obtain ⟨h1,h2⟩:=List.pairwise_cons.1 hl
  have ih:=insO_asc h (x:=x) (l:=r) h2
  unfold insO
  split
  ·rename_i hyx
   refine List.pairwise_cons.2 ⟨fun z hz=>?_,ih⟩
   rcases mem_insO.1 hz with hz | rfl
   ·exact h1 z hz
   ·exact hyx
  ·rename_i hyx
   split
   ·exact hl
   ·rename_i hne
    have hlt:lt x y=true:=by
     cases e:lt x y with
     | true=>rfl
     | false=>exact absurd (h.tot _ _ (by simpa using hyx) e) hne
    refine List.pairwise_cons.2 ⟨fun z hz=>?_,hl⟩
    rcases List.mem_cons.1 hz with rfl | hz
    ·exact hlt
    ·exact h.trans hlt (h1 z hz)
def srtO (lt:α→α→Bool) (l:List α):List α:=l.foldl (insO lt) []
theorem srtO_snoc {l:List α} {x:α}:srtO lt (l++[x])=insO lt (srtO lt l) x:=by
 unfold srtO
 rw [List.foldl_append]
 rfl
theorem srtO_ok (h:StOk lt):∀ (l:List α) (n:Nat),l.length=n→Asc lt (srtO lt l)∧(∀ z,z∈srtO lt l↔z∈l)∧(srtO lt l).length≤l.length:=by
 intro l n
 induction n generalizing l with
 | zero=>
  intro hl
  have:l=[]:=List.length_eq_zero_iff.1 hl
  subst this
  exact ⟨List.Pairwise.nil,fun z=>by simp [srtO],Nat.le_refl _⟩
 | succ n ih=>
  intro hl
  rcases List.eq_nil_or_concat l with rfl | ⟨r,x,e⟩
  ·cases hl
  ·rw [e] at hl ⊢
   simp only [List.concat_eq_append,List.length_append,List.length_singleton] at hl ⊢
   obtain ⟨h1,h2,h3⟩:=ih r (by omega)
   rw [srtO_snoc]
   refine ⟨insO_asc h h1,fun z=>?_,Nat.le_trans insO_len (by omega)⟩
   rw [mem_insO,h2,List.mem_append,List.mem_singleton]
end
structure Rf where
 ty:ByteArray
 rl:ByteArray
inductive Ex where
 | mk (kind:Int) (name over:ByteArray) (kids:List Ex)
structure Rl where
 name:ByteArray
 refs:List Rf
 ex:Ex
structure Ty where
 name:ByteArray
 rels:List Rl
mutual
def exC:Ex→List AV
 | .mk k n o ks=>[.int .i64 k,.str n,.str o,.sl 4 (exsC ks)]
def exsC:List Ex→List (List AV)
 | []=>[]
 | e :: r=>exC e :: exsC r
end
def rfC (r:Rf):List AV:=[.str r.ty,.str r.rl]
def rlC (r:Rl):List AV:=.str r.name :: .sl 2 (r.refs.map rfC) :: exC r.ex
def tyC (t:Ty):List AV:=[.str t.name,.sl 6 (t.rels.map rlC)]
def scA (s:List Ty):AV:=.agg [.sl 2 (s.map tyC)]
theorem exsC_map:∀ (l:List Ex),exsC l=l.map exC
 | []=>rfl
 | e :: r=>by rw [exsC,exsC_map r,List.map_cons]
def Ex.kind:Ex→Int
 | .mk k _ _ _=>k
def Ex.name:Ex→ByteArray
 | .mk _ n _ _=>n
def Ex.over:Ex→ByteArray
 | .mk _ _ o _=>o
def Ex.kids:Ex→List Ex
 | .mk _ _ _ ks=>ks
theorem q0d (e:Ex):exC e=[.int .i64 e.kind,.str e.name,.str e.over,.sl 4 (e.kids.map exC)]:=by
 cases e
 rw [exC,exsC_map]
 rfl
theorem q0u (r:Rl):rlC r=[.str r.name,.sl 2 (r.refs.map rfC),.int .i64 r.ex.kind,.str r.ex.name,.str r.ex.over,.sl 4 (r.ex.kids.map exC)]:=by rw [rlC,q0d]
theorem exC_len (e:Ex):(exC e).length=4:=by rw [q0d];rfl
theorem rlC_len (r:Rl):(rlC r).length=6:=by rw [q0u];rfl
theorem tkW_exC {e:Ex} {K:List AV→Prop}:tkW 4 (exC e) K=K (exC e):=tkW_all (exC_len e)
theorem tkW_rlC {r:Rl} {K:List AV→Prop}:tkW 6 (rlC r) K=K (rlC r):=tkW_all (rlC_len r)
def hwR:=And.intro @tkW_exC @tkW_rlC
inductive OkE:Ex→Prop
 | mk (k:Int) (n o:ByteArray) (ks:List Ex) (hk:ks.length≤1125899906842624) (hn:n.size≤1125899906842624) (ho:o.size≤1125899906842624) (h:∀ e∈ks,OkE e):OkE (.mk k n o ks)
structure OkF (r:Rf):Prop where
 ty:r.ty.size≤1125899906842624
 rl:r.rl.size≤1125899906842624
structure OkR (r:Rl):Prop where
 name:r.name.size≤1125899906842624
 refs:r.refs.length≤1125899906842624
 ref:∀ f∈r.refs,OkF f
 ex:OkE r.ex
structure OkT (t:Ty):Prop where
 name:t.name.size≤1125899906842624
 rels:t.rels.length≤1125899906842624
 rel:∀ r∈t.rels,OkR r
structure OkS (s:List Ty):Prop where
 types:s.length≤1125899906842624
 typ:∀ t∈s,OkT t
theorem OkS.at {s:List Ty} (h:OkS s) {i:Nat} {t:Ty} (ht:s[i]?=some t):OkT t:=h.typ t (List.mem_of_getElem? ht)
theorem OkT.at {t:Ty} (h:OkT t) {i:Nat} {r:Rl} (hr:t.rels[i]?=some r):OkR r:=h.rel r (List.mem_of_getElem? hr)
theorem OkR.at {r:Rl} (h:OkR r) {i:Nat} {f:Rf} (hf:r.refs[i]?=some f):OkF f:=h.ref f (List.mem_of_getElem? hf)
def q0k {α:Type} (p:α→Bool):List α→Option Nat
 | []=>none
 | x :: r=>if p x then some 0 else (q0k p r).map (·+1)
theorem firstI_none {α:Type} {p:α→Bool}:∀ {l:List α},q0k p l=none↔∀ (i:Nat) (x:α),l[i]?=some x→p x=false
 | []=>by simp [q0k]
 | x :: r=>by
  unfold q0k
  constructor
  ·intro h i y hy
   split at h
   ·cases h
   ·rename_i hp
    have h2:q0k p r=none:=by simpa using h
    cases i with
    | zero=>simp at hy;subst hy;simpa using hp
    | succ i=>exact firstI_none.1 h2 i y (by simpa using hy)
  ·intro h
   rw [if_neg (by simp [h 0 x rfl])]
   rw [firstI_none.2 fun i y hy=>h (i+1) y (by simpa using hy)]
   rfl
theorem firstI_some {α:Type} {p:α→Bool}:∀ {l:List α} {i:Nat},q0k p l=some i↔(∃ x,l[i]?=some x∧p x=true)∧∀ (j:Nat) (x:α),j<i→l[j]?=some x→p x=false
 | [],i=>by simp [q0k]
 | x :: r,i=>by
  unfold q0k
  by_cases hp:p x=true
  ·rw [if_pos hp]
   constructor
   ·intro h
    cases h
    exact ⟨⟨x,rfl,hp⟩,fun j y hj=>by omega⟩
   ·rintro ⟨⟨y,hy,hpy⟩,h⟩
    cases i with
    | zero=>rfl
    | succ i=>have:=h 0 x (by omega) rfl;rw [hp] at this;cases this
  ·rw [if_neg hp]
   cases i with
   | zero=>
    constructor
    ·intro h
     cases hf:q0k p r<;>simp [hf] at h
    ·rintro ⟨⟨y,hy,hpy⟩,h⟩
     simp at hy
     subst hy
     exact absurd hpy hp
   | succ i=>
    have hiff:(q0k p r).map (·+1)=some (i+1)↔q0k p r=some i:=by
     cases q0k p r<;>simp
    rw [hiff,firstI_some]
    constructor
    ·rintro ⟨⟨y,hy,hpy⟩,h⟩
     refine ⟨⟨y,by simpa using hy,hpy⟩,fun j z hj hz=>?_⟩
     cases j with
     | zero=>simp at hz;subst hz;simpa using hp
     | succ j=>exact h j z (by omega) (by simpa using hz)
    ·rintro ⟨⟨y,hy,hpy⟩,h⟩
     exact ⟨⟨y,by simpa using hy,hpy⟩,fun j z hj hz=>h (j+1) z (by omega) (by simpa using hz)⟩
def oi:Option Nat→Int
 | some i=>i
 | none=>-1
def typF (s:List Ty) (n:ByteArray):Option Nat:=q0k (fun t=>decide (t.name=n)) s
def q43 (rs:List Rl) (n:ByteArray):Option Nat:=q0k (fun r=>decide (r.name=n)) rs
def relF (s:List Ty) (t:Option Nat) (n:ByteArray):Option Nat:=(t.bind (s[·]?)).bind fun t=>q43 t.rels n
theorem q5d {s:List Ty} {n:ByteArray} {i:Nat} (h:typF s n=some i):i<s.length:=by
 obtain ⟨⟨x,hx,-⟩,-⟩:=firstI_some.1 h
 exact (List.getElem?_eq_some_iff.1 hx).1
theorem relIn_lt {s:List Rl} {n:ByteArray} {i:Nat} (h:q43 s n=some i):i<s.length:=by
 obtain ⟨⟨x,hx,-⟩,-⟩:=firstI_some.1 h
 exact (List.getElem?_eq_some_iff.1 hx).1
def q0o (s:List Ty) (t n:ByteArray):Option (Nat×Nat×Rl):=match typF s t with
 | none=>none
 | some i=>match s[i]? with
  | none=>none
  | some ty=>match q43 ty.rels n with
   | none=>none
   | some k=>(ty.rels[k]?).map fun r=>(i,k,r)
theorem findF_rel {s:List Ty} {t n:ByteArray}:relF s (typF s t) n=(q0o s t n).map fun q=>q.2.1:=by
 unfold relF q0o
 cases h1:typF s t with
 | none=>rfl
 | some i=>
  have hi:=q5d h1
  simp only [Option.bind_some,List.getElem?_eq_getElem hi]
  cases h2:q43 (s[i]).rels n with
  | none=>rfl
  | some k=>simp [List.getElem?_eq_getElem (relIn_lt h2)]
theorem q1u {s:List Ty} {t n:ByteArray} {i k:Nat} {r:Rl} (h:q0o s t n=some (i,k,r)):typF s t=some i∧∃ ty,s[i]?=some ty∧q43 ty.rels n=some k∧ty.rels[k]?=some r:=by
 unfold q0o at h
 split at h
 ·cases h
 ·split at h
  ·cases h
  ·split at h
   ·cases h
   ·rename_i h1 _ ty h2 _ k' h3
    cases h4:ty.rels[k']? with
    | none=>rw [h4] at h;cases h
    | some r'=>rw [h4] at h;simp at h;obtain ⟨rfl,rfl,rfl⟩:=h;exact ⟨h1,ty,h2,h3,h4⟩
def zeroR:List AV:=[.str ⟨#[]⟩,.nils,.int .i64 0,.str ⟨#[]⟩,.str ⟨#[]⟩,.nils]
def q57 (n:Int):Bool:=decide (97≤n)&&decide (n≤122)
def digitN (n:Int):Bool:=decide (48≤n)&&decide (n≤57)
def greatN (n:Int):Bool:=decide (65≤n)&&decide (n≤90)
theorem q3w (n:Int):AFun PG nrx183 [.int .u8 n] (.bool (q57 n)):=by
 intro S
 refine wx183 ?_
 unfold Bx183
 (try simp only [rwp,hwR,zA,zB,zC,zD,zE,zF,zG,zH,zI])
 exact q03 ⟨rfl,rfl⟩
theorem q6i (n:Int):AFun PG nrx184 [.int .u8 n] (.bool (digitN n)):=by
 intro S
 refine wx184 ?_
 unfold Bx184
 (try simp only [rwp,hwR,zA,zB,zC,zD,zE,zF,zG,zH,zI])
 exact q03 ⟨rfl,rfl⟩
def nameN (n:Int):Bool:=q57 n||digitN n||decide (n=95)
theorem c_names_Name_1 (n:Int):AFun PG nrx182 [.int .u8 n] (.bool (nameN n)):=by
 intro S
 refine wx182 ?_
 unfold Bx182
 refine q06 (q3w n) ?_
 (refine q20 (fun hg=>?_) (fun hg=>?_)<;>(try simp only [rwp,hwR,zA,zB,zC,zD,zE,zF,zG,zH,zI,hg,C182_1]))
 ·refine q06 (q6i n) ?_
  (try simp only [rwp,hwR,zA,zB,zC,zD,zE,zF,zG,zH,zI,C182_1])
  exact q03 ⟨by simp [nameN,hg],rfl⟩
 ·exact q03 ⟨by simp [nameN,hg],rfl⟩
theorem q81 {p:Int→Bool} {f:Nat} (hf:∀ b:UInt8,AFun PG f [.int .u8 b.toNat] (.bool (p b.toNat))) {s:ByteArray} (hs:s.size≤1125899906842624) (m:Int):AFun PG nrx181 [.str s,.int .i64 m,.func (.func f) [] []] (.bool (allB p s&&(decide ((0:Int)<s.size)&&decide ((s.size:Int)≤m)))):=by
 intro S
 refine wx181 ?_
 unfold Bx181
 (try simp only [rwp,hwR,zA,zB,zC,zD,zE,zF,zG,zH,zI])
 refine LoopP.intro (fun i:Nat=>[(0,.str s),(1,.int .i64 m),(2,.func (.func f) [] []),(9,.int .i64 s.size),(10,.int .i64 i)]) (fun _=>S) (fun i=>i≤s.size∧∀ j b,j<i→s[j]?=some b→p b.toNat=true) (fun i=>s.size-i) 0 ⟨by omega,by omega⟩ rfl (Sub.refl S) ?_
 rintro i ⟨hi,hn⟩ r hr
 unfold C181_1
 (try simp only [rwp,hwR,zA,zB,zC,zD,zE,zF,zG,zH,zI])
 (refine q04 (fun hlt=>?_) (fun hlt=>?_)<;>(try simp only [hlc] at hlt))
 ·obtain ⟨b,hb⟩:=q3x hlt
  (try simp only [rwp,hwR,zA,zB,zC,zD,zE,zF,zG,zH,zI,hb])
  refine q06 (hf b) ?_
  (try simp only [rwp,hwR,zA,zB,zC,zD,zE,zF,zG,zH,zI])
  (refine q04 (fun hp=>?_) (fun hp=>?_)<;>(try simp only [hlc] at hp))
  ·exact q03 ⟨by simp only [q7k hb hp,Bool.false_and],rfl⟩
  ·(simp (disch:=omega) only [q08])
   refine q0a rfl (hr (i+1) ⟨by omega,fun j c hj hc=>?_⟩ (by omega))
   rcases Nat.lt_succ_iff_lt_or_eq.1 hj with h | rfl
   ·exact hn j c h hc
   ·rw [hb] at hc;cases hc;exact hp
 ·have hall:allB p s=true:=allB_iff.2 fun j c hc=>hn j c (by have:=q6m hc;omega) hc
  exact q03 ⟨by simp only [hall,Bool.true_and],rfl⟩
def q1w:ByteArray:=⟨#[116,121,112,101]⟩
def q0c:ByteArray:=⟨#[114,101,108,97,116,105,111,110]⟩
def q17:ByteArray:=⟨#[100,101,102,105,110,101]⟩
def q0v (s:ByteArray):Bool:=!decide (s=q1w)&&(!decide (s=q0c)&&(!decide (s=q17)&&((allB nameN s&&(decide ((0:Int)<s.size)&&decide ((s.size:Int)≤16)))&&(match s[0]? with
 | some b=>q57 b.toNat
 | none=>false))))
theorem q0w {s:ByteArray} (hs:s.size≤1125899906842624):AFun PG nrx144 [.str s] (.bool (q0v s)):=by
 intro S
 refine wx144 ?_
 unfold Bx144
 (try simp only [rwp,hwR,zA,zB,zC,zD,zE,zF,zG,zH,zI,C144_1])
 (refine q04 (fun e1=>?_) (fun e1=>?_)<;>(try simp only [rwp,hwR,zA,zB,zC,zD,zE,zF,zG,zH,zI,e1]))
 ·have e1:decide (s=q1w)=true:=e1
  exact q03 ⟨by simp only [q0v,e1,Bool.not_true,Bool.false_and],rfl⟩
 (refine q04 (fun e2=>?_) (fun e2=>?_)<;>(try simp only [rwp,hwR,zA,zB,zC,zD,zE,zF,zG,zH,zI,e2]))
 ·have e2:decide (s=q0c)=true:=e2
  exact q03 ⟨by simp only [q0v,e2,Bool.not_true,Bool.false_and,Bool.and_false],rfl⟩
 (refine q04 (fun e3=>?_) (fun e3=>?_)<;>(try simp only [rwp,hwR,zA,zB,zC,zD,zE,zF,zG,zH,zI,e3]))
 ·have e3:decide (s=q17)=true:=e3
  exact q03 ⟨by simp only [q0v,e3,Bool.not_true,Bool.false_and,Bool.and_false],rfl⟩
 have e1:decide (s=q1w)=false:=e1
 have e2:decide (s=q0c)=false:=e2
 have e3:decide (s=q17)=false:=e3
 refine q06 (q81 (fun b=>c_names_Name_1 b.toNat) hs 16) ?_
 (refine q20 (fun hg=>?_) (fun hg=>?_)<;>(try simp only [rwp,hwR,zA,zB,zC,zD,zE,zF,zG,zH,zI,hg]))
 ·have h5:((0:Nat):Int)<s.size:=by
   simp only [Bool.and_eq_true,decide_eq_true_eq] at hg
   omega
  obtain ⟨b,hb⟩:=q3x h5
  (try simp only [rwp,hwR,zA,zB,zC,zD,zE,zF,zG,zH,zI,hb])
  refine q06 (q3w b.toNat) ?_
  exact q03 ⟨by simp only [q0v,e1,e2,e3,hg,hb,Bool.not_false,Bool.true_and],rfl⟩
 ·exact q03 ⟨by simp only [q0v,e1,e2,e3,hg,Bool.false_and,Bool.and_false,Bool.not_true],rfl⟩
def atN (i:Nat) (n:Int):Bool:=q57 n||(!decide ((i:Int)=0)&&(decide (n=95)||digitN n))
theorem q3g {s:ByteArray} (hs:s.size≤1125899906842624):AFun PG nrx78 [.str s] (.bool (q0v s)):=by
 intro S
 refine wx78 ?_
 unfold Bx78
 (try simp only [rwp,hwR,zA,zB,zC,zD,zE,zF,zG,zH,zI,C78_1,C78_2,C78_3,C78_4])
 have hc:(decide ((s.size:Int)=0)||decide (16<(s.size:Int))||decide (s=q1w)||decide (s=q0c)||decide (s=q17))=true→q0v s=false:=by
  intro h
  simp only [Bool.or_eq_true,decide_eq_true_eq] at h
  rcases h with (((h | h) | h) | h) | h
  ·simp only [q0v,decide_eq_false (show ¬ (0:Int)<s.size by omega),Bool.false_and,Bool.and_false]
  ·simp only [q0v,decide_eq_false (show ¬ (s.size:Int)≤16 by omega),Bool.false_and,Bool.and_false]
  ·rw [h];rfl
  ·rw [h];rfl
  ·rw [h];rfl
 (refine q04 (fun h0=>?_) (fun h0=>?_)<;>(try simp only [rwp,hwR,zA,zB,zC,zD,zE,zF,zG,zH,zI,h0]))
 ·exact q03 ⟨by rw [hc h0],rfl⟩
 have h0:(decide ((s.size:Int)=0)||decide (16<(s.size:Int))||decide (s=q1w)||decide (s=q0c)||decide (s=q17))=false:=h0
 simp only [Bool.or_eq_false_iff,decide_eq_false_iff_not] at h0
 obtain ⟨⟨⟨⟨c1,c2⟩,c3⟩,c4⟩,c5⟩:=h0
 refine LoopP.intro (fun i:Nat=>[(0,.str s),(3,.int .i64 i)]) (fun _=>S) (fun i=>i≤s.size∧∀ j b,j<i→s[j]?=some b→atN j b.toNat=true) (fun i=>s.size-i) 0 ⟨by omega,by omega⟩ rfl (Sub.refl S) ?_
 rintro i ⟨hi,hn⟩ r hr
 (try simp only [rwp,hwR,zA,zB,zC,zD,zE,zF,zG,zH,zI,C78_5,C78_6,C78_7,C78_8])
 (refine q04 (fun hlt=>?_) (fun hlt=>?_)<;>(try simp only [hlc] at hlt))
 ·obtain ⟨b,hb⟩:=q3x hlt
  (try simp only [rwp,hwR,zA,zB,zC,zD,zE,zF,zG,zH,zI,hb])
  have fin:atN i b.toNat=true→nameN b.toNat=true:=by
   simp only [atN,nameN,Bool.or_eq_true,Bool.and_eq_true]
   rintro (h | ⟨-,h | h⟩)
   ·exact .inl (.inl h)
   ·exact .inr h
   ·exact .inl (.inr h)
  have bad:atN i b.toNat=false→q0v s=false:=by
   intro h
   by_cases h0:i=0
   ·subst h0
    have:q57 b.toNat=false:=by
     simp only [atN,Bool.or_eq_false_iff] at h
     exact h.1
    simp only [q0v,hb,this,Bool.and_false]
   ·have h5:nameN b.toNat=false:=by
     have:decide ((i:Int)=0)=false:=decide_eq_false (by omega)
     simp only [atN,this,Bool.not_false,Bool.true_and,Bool.or_eq_false_iff] at h
     simp only [nameN,Bool.or_eq_false_iff]
     exact ⟨⟨h.1,h.2.2⟩,h.2.1⟩
    simp only [q0v,q7k hb h5,Bool.false_and,Bool.and_false]
  have good:atN i b.toNat=true→r [(0,.str s),(3,.int .i64 ((i:Int)+1))] S:=fun h=>by
   refine hr (i+1) ⟨by omega,fun j c hj hc=>?_⟩ (by omega)
   rcases Nat.lt_succ_iff_lt_or_eq.1 hj with h1 | rfl
   ·exact hn j c h1 hc
   ·rw [hb] at hc;cases hc;exact h
  have ea:atN i b.toNat=((decide (97≤(b.toNat:Int))&&decide ((b.toNat:Int)≤122))||(!decide ((i:Int)=0)&&(decide ((b.toNat:Int)=95)||(!decide ((b.toNat:Int)<48)&&!decide (57<(b.toNat:Int)))))):=by
   simp only [atN,q57,digitN,← decide_not,Int.not_lt]
  cases h1:decide (97≤(b.toNat:Int))<;>cases h2:decide ((b.toNat:Int)≤122)<;>cases h3:decide ((i:Int)=0)<;>cases h4:decide ((b.toNat:Int)=95)<;>cases h5:decide ((b.toNat:Int)<48)<;>cases h6:decide (57<(b.toNat:Int)) <;>
   simp only [h1,h2,h3,h4,h5,h6,Bool.true_and,Bool.false_and,Bool.and_true,Bool.and_false,Bool.or_true,Bool.true_or,Bool.or_false,Bool.false_or,Bool.not_true,Bool.not_false] at ea <;>
   (try simp only [rwp,hwR,zA,zB,zC,zD,zE,zF,zG,zH,zI,C78_9,C78_10,C78_11,C78_12,h4,h5,h6]) <;>
   first
    | exact q03 ⟨by rw [bad ea],rfl⟩
    | ((simp (disch:=omega) only [q08]);exact q0a rfl (good ea))
 ·refine q03 ⟨?_,rfl⟩
  obtain ⟨b0,hb0⟩:∃ b,s[0]?=some b:=q3x (i:=0) (by omega)
  have h0:=hn 0 b0 (by omega) hb0
  have h0':q57 b0.toNat=true:=by simpa [atN] using h0
  have hall:allB nameN s=true:=allB_iff.2 fun j c hc=>by
   have h8:=hn j c (by have:=q6m hc;omega) hc
   simp only [atN,Bool.or_eq_true,Bool.and_eq_true] at h8
   simp only [nameN,Bool.or_eq_true]
   rcases h8 with h8 | ⟨-,h8 | h8⟩
   ·exact .inl (.inl h8)
   ·exact .inr h8
   ·exact .inl (.inr h8)
  have:q0v s=true:=by
   simp only [q0v,decide_eq_false c3,decide_eq_false c4,decide_eq_false c5,hall,hb0,h0',Bool.not_false,Bool.true_and,Bool.and_true,Bool.and_eq_true,decide_eq_true_eq]
   omega
  rw [this]
theorem AFun.at {P:Program} {f:Nat} {xs:List AV} {v:AV} (h:AFun P f xs v) (S:q00):AFunS P f xs S v:=h S
theorem q2w {α:Type} {p:α→Bool}:∀ {l:List α},(q0k p l).isSome=l.any p
 | []=>rfl
 | x :: r=>by
  unfold q0k
  by_cases h:p x=true
  ·simp [h]
  ·have:=q2w (p:=p) (l:=r)
   simp only [h,if_false,Option.isSome_map,this,List.any_cons,Bool.false_or,Bool.false_eq_true]
theorem oi_some {o:Option Nat}:decide (0≤oi o)=o.isSome:=by
 cases o with
 | none=>rfl
 | some i=>simp [oi]
section
variable {α:Type} {enc:α→List AV} {xs:List α} {S:q00} {g:Nat} {fi ca:List AV} {p:α→Bool}
theorem c_IndexFunc_Ref (hl:∀ x∈xs,(enc x).length=2) (hb:xs.length≤1125899906842624) (hp:∀ x∈xs,AFunS PG g (fi++[.agg (enc x)]++ca) S (.bool (p x))) :
  AFunS PG nrx215 [.sl 2 (xs.map enc),.func (.func g) fi ca] S (.int .i64 (oi (q0k p xs))):=by
 refine wx215 ?_
 unfold Bx215
 (try simp only [rwp,hwR,zA,zB,zC,zD,zE,zF,zG,zH,zI])
 refine LoopP.intro (fun i:Nat=>[(0,.sl 2 (xs.map enc)),(1,.func (.func g) fi ca),(7,.int .i64 xs.length),(8,.int .i64 i)]) (fun _=>S) (fun i=>i≤xs.length∧∀ j x,j<i→xs[j]?=some x→p x=false) (fun i=>xs.length-i) 0 ⟨by omega,by omega⟩ rfl (Sub.refl S) ?_
 rintro i ⟨hi,hn⟩ r hr
 unfold C215_1
 (try simp only [rwp,hwR,zA,zB,zC,zD,zE,zF,zG,zH,zI])
 (refine q04 (fun hlt=>?_) (fun hlt=>?_)<;>(try simp only [hlc] at hlt))
 ·obtain ⟨x,hx⟩:=q0t hlt
  (try simp only [rwp,hwR,zA,zB,zC,zD,zE,zF,zG,zH,zI,hx])
  rw [tkW_all (hl x (List.mem_of_getElem? hx))]
  refine caW_atv (hp x (List.mem_of_getElem? hx)) ?_
  (refine q04 (fun he=>?_) (fun he=>?_)<;>(try simp only [rwp,hwR,zA,zB,zC,zD,zE,zF,zG,zH,zI,he]))
  ·have:q0k p xs=some i:=firstI_some.2 ⟨⟨x,hx,he⟩,hn⟩
   exact q03 ⟨by rw [this];rfl,rfl⟩
  ·(simp (disch:=omega) only [q08])
   refine q0a rfl (hr (i+1) ⟨by omega,fun j u hj hu=>?_⟩ (by omega))
   rcases Nat.lt_succ_iff_lt_or_eq.1 hj with h | rfl
   ·exact hn j u h hu
   ·rw [hx] at hu;cases hu;exact he
 ·have:q0k p xs=none:=firstI_none.2 fun j u hu=>hn j u (by have:=(List.getElem?_eq_some_iff.1 hu).1;omega) hu
  exact q03 ⟨by rw [this];rfl,rfl⟩
theorem q6l (hl:∀ x∈xs,(enc x).length=2) (hb:xs.length≤1125899906842624) (hp:∀ x∈xs,AFunS PG g (fi++[.agg (enc x)]++ca) S (.bool (p x))) :
  AFunS PG nrx207 [.sl 2 (xs.map enc),.func (.func g) fi ca] S (.bool (xs.any p)):=by
 refine wx207 ?_
 unfold Bx207
 refine q1a (c_IndexFunc_Ref hl hb hp) ?_
 (try simp only [rwp,hwR,zA,zB,zC,zD,zE,zF,zG,zH,zI])
 exact q03 ⟨by rw [oi_some,q2w],rfl⟩
theorem c_IndexFunc_Rel (hl:∀ x∈xs,(enc x).length=6) (hb:xs.length≤1125899906842624) (hp:∀ x∈xs,AFunS PG g (fi++[.agg (enc x)]++ca) S (.bool (p x))) :
  AFunS PG nrx205 [.sl 6 (xs.map enc),.func (.func g) fi ca] S (.int .i64 (oi (q0k p xs))):=by
 refine wx205 ?_
 unfold Bx205
 (try simp only [rwp,hwR,zA,zB,zC,zD,zE,zF,zG,zH,zI])
 refine LoopP.intro (fun i:Nat=>[(0,.sl 6 (xs.map enc)),(1,.func (.func g) fi ca),(7,.int .i64 xs.length),(8,.int .i64 i)]) (fun _=>S) (fun i=>i≤xs.length∧∀ j x,j<i→xs[j]?=some x→p x=false) (fun i=>xs.length-i) 0 ⟨by omega,by omega⟩ rfl (Sub.refl S) ?_
 rintro i ⟨hi,hn⟩ r hr
 unfold C205_1
 (try simp only [rwp,hwR,zA,zB,zC,zD,zE,zF,zG,zH,zI])
 (refine q04 (fun hlt=>?_) (fun hlt=>?_)<;>(try simp only [hlc] at hlt))
 ·obtain ⟨x,hx⟩:=q0t hlt
  (try simp only [rwp,hwR,zA,zB,zC,zD,zE,zF,zG,zH,zI,hx])
  rw [tkW_all (hl x (List.mem_of_getElem? hx))]
  refine caW_atv (hp x (List.mem_of_getElem? hx)) ?_
  (refine q04 (fun he=>?_) (fun he=>?_)<;>(try simp only [rwp,hwR,zA,zB,zC,zD,zE,zF,zG,zH,zI,he]))
  ·have:q0k p xs=some i:=firstI_some.2 ⟨⟨x,hx,he⟩,hn⟩
   exact q03 ⟨by rw [this];rfl,rfl⟩
  ·(simp (disch:=omega) only [q08])
   refine q0a rfl (hr (i+1) ⟨by omega,fun j u hj hu=>?_⟩ (by omega))
   rcases Nat.lt_succ_iff_lt_or_eq.1 hj with h | rfl
   ·exact hn j u h hu
   ·rw [hx] at hu;cases hu;exact he
 ·have:q0k p xs=none:=firstI_none.2 fun j u hu=>hn j u (by have:=(List.getElem?_eq_some_iff.1 hu).1;omega) hu
  exact q03 ⟨by rw [this];rfl,rfl⟩
theorem q6k (hl:∀ x∈xs,(enc x).length=6) (hb:xs.length≤1125899906842624) (hp:∀ x∈xs,AFunS PG g (fi++[.agg (enc x)]++ca) S (.bool (p x))) :
  AFunS PG nrx173 [.sl 6 (xs.map enc),.func (.func g) fi ca] S (.bool (xs.any p)):=by
 refine wx173 ?_
 unfold Bx173
 refine q1a (c_IndexFunc_Rel hl hb hp) ?_
 (try simp only [rwp,hwR,zA,zB,zC,zD,zE,zF,zG,zH,zI])
 exact q03 ⟨by rw [oi_some,q2w],rfl⟩
end
def two (p:Ex→Bool):List Ex→Bool
 | [a,b]=>p a&&p b
 | _=>false
theorem two_of {ks:List Ex} (h:(ks.length:Int)=2):∃ a b,ks=[a,b]:=by
 match ks,h with
 | [a,b],_=>exact ⟨a,b,rfl⟩
 | [],h=>simp at h
 | [_],h=>simp at h
 | _ :: _ :: _ :: r,h=>simp at h;omega
theorem two_not {p:Ex→Bool} {ks:List Ex} (h:¬ (ks.length:Int)=2):two p ks=false:=by
 unfold two
 split
 ·exact absurd rfl h
 ·rfl
def mayE:Nat→Ex→Bool
 | 0,_=>false
 | m+1,.mk k n o ks=>
  if k=0 then q0v n&&ks.isEmpty
  else if k=1 then q0v n&&(q0v o&&ks.isEmpty)
  else if k=2∨k=3∨k=4 then two (mayE m) ks
  else false
theorem isEmpty_len {ks:List Ex}:ks.isEmpty=decide ((ks.length:Int)=0):=by
 cases ks with
 | nil=>rfl
 | cons a r=>rw [decide_eq_false (by simp only [List.length_cons];omega)];rfl
def signS (k:Int):ByteArray:=if k=2 then ⟨#[32,43,32]⟩ else if k=3 then ⟨#[32,38,32]⟩ else if k=4 then ⟨#[32,45,32]⟩ else ⟨#[]⟩
theorem c_lang_sign (k:Int):AFun PG nrx214 [.int .i64 k] (.str (signS k)):=by
 intro S
 refine wx214 ?_
 unfold Bx214
 (try simp only [rwp,hwR,zA,zB,zC,zD,zE,zF,zG,zH,zI])
 (refine q04 (fun h1=>?_) (fun h1=>?_)<;>(try simp only [hlc] at h1))
 ·exact q03 ⟨by rw [h1];rfl,rfl⟩
 (refine q04 (fun h2=>?_) (fun h2=>?_)<;>(try simp only [hlc] at h2))
 ·exact q03 ⟨by rw [h2];rfl,rfl⟩
 (refine q04 (fun h3=>?_) (fun h3=>?_)<;>(try simp only [hlc] at h3))
 ·exact q03 ⟨by rw [h3];rfl,rfl⟩
 exact q03 ⟨by simp only [signS,if_neg h1,if_neg h2,if_neg h3],rfl⟩
theorem sign_none {k:Int}:signS k=⟨#[]⟩↔¬ (k=2∨k=3∨k=4):=by
 unfold signS
 constructor
 ·intro h
  split at h
  ·exact absurd h (by decide)
  ·split at h
   ·exact absurd h (by decide)
   ·split at h
    ·exact absurd h (by decide)
    ·omega
 ·intro h
  rw [if_neg (by omega),if_neg (by omega),if_neg (by omega)]
theorem c_lang_may:∀ (m:Nat),m≤1000→∀ (e:Ex),OkE e→AFun PG nrx206 [.agg (exC e),.int .i64 m] (.bool (mayE m e)):=by
 intro m
 induction m with
 | zero=>
  intro hm e he S
  refine wx206 ?_
  unfold Bx206
  have h0:decide (((0:Nat):Int)=0)=true:=rfl
  (try simp only [rwp,hwR,zA,zB,zC,zD,zE,zF,zG,zH,zI,q0d,h0])
  exact q03 ⟨by cases e;rfl,rfl⟩
 | succ m ih=>
  intro hm e he S
  refine wx206 ?_
  unfold Bx206
  have h0:decide (((m+1:Nat):Int)=0)=false:=decide_eq_false (by omega)
  obtain ⟨k,n,o,ks,hk,hn,ho,hks⟩:=he
  (try simp only [rwp,hwR,zA,zB,zC,zD,zE,zF,zG,zH,zI,q0d,Ex.kind,Ex.name,Ex.over,Ex.kids,h0])
  (refine q04 (fun h2=>?_) (fun h2=>?_)<;>(try simp only [hlc] at h2))
  ·have key:mayE (m+1) (.mk k n o ks)=(q0v n&&decide ((ks.length:Int)=0)):=by rw [mayE,if_pos h2,isEmpty_len]
   refine q06 (q0w hn) ?_
   (try simp only [rwp,hwR,zA,zB,zC,zD,zE,zF,zG,zH,zI])
   exact q03 ⟨by rw [key],rfl⟩
  (refine q04 (fun h3=>?_) (fun h3=>?_)<;>(try simp only [hlc] at h3))
  ·have key:mayE (m+1) (.mk k n o ks)=(q0v n&&(q0v o&&decide ((ks.length:Int)=0))):=by rw [mayE,if_neg h2,if_pos h3,isEmpty_len]
   refine q06 (q0w hn) ?_
   (refine q20 (fun hg=>?_) (fun hg=>?_)<;>(try simp only [rwp,hwR,zA,zB,zC,zD,zE,zF,zG,zH,zI,hg,C206_3]))
   ·refine q06 (q0w ho) ?_
    (try simp only [rwp,hwR,zA,zB,zC,zD,zE,zF,zG,zH,zI,C206_3])
    exact q03 ⟨by rw [key,hg];rfl,rfl⟩
   ·exact q03 ⟨by rw [key,hg];rfl,rfl⟩
  ·refine q06 (c_lang_sign k) ?_
   by_cases h4:k=2∨k=3∨k=4
   ·have key:mayE (m+1) (.mk k n o ks)=two (mayE m) ks:=by rw [mayE,if_neg h2,if_neg h3,if_pos h4]
    have hs:decide (signS k=⟨#[]⟩)=false:=decide_eq_false fun h=>sign_none.1 h h4
    (try simp only [rwp,hwR,zA,zB,zC,zD,zE,zF,zG,zH,zI,hs,C206_1])
    (refine q20 (fun hg=>?_) (fun hg=>?_)<;>(try simp only [rwp,hwR,zA,zB,zC,zD,zE,zF,zG,zH,zI,hg,hs]))
    ·obtain ⟨a,b,rfl⟩:=two_of (by simpa using hg)
     have hm1:IntKind.i64.wrap (((m+1:Nat):Int)-1)=(m:Int):=by rw [q08]<;>omega
     (try simp only [rwp,hwR,zA,zB,zC,zD,zE,zF,zG,zH,zI,hm1])
     refine q06 (ih (by omega) a (hks a (by simp))) ?_
     (try simp only [rwp,hwR,zA,zB,zC,zD,zE,zF,zG,zH,zI,C206_2])
     (refine q20 (fun hg=>?_) (fun hg=>?_)<;>(try simp only [rwp,hwR,zA,zB,zC,zD,zE,zF,zG,zH,zI,hg,hm1]))
     ·refine q06 (ih (by omega) b (hks b (by simp))) ?_
      exact q03 ⟨by simp only [key,two,hg,Bool.true_and],rfl⟩
     ·exact q03 ⟨by simp only [key,two,hg,Bool.false_and,Bool.not_true],rfl⟩
    ·(try simp only [rwp,hwR,zA,zB,zC,zD,zE,zF,zG,zH,zI,C206_2])
     exact q03 ⟨by rw [key,two_not (by simpa using hg)],rfl⟩
   ·have key:mayE (m+1) (.mk k n o ks)=false:=by rw [mayE,if_neg h2,if_neg h3,if_neg h4]
    have hs:decide (signS k=⟨#[]⟩)=true:=decide_eq_true (sign_none.2 h4)
    (try simp only [rwp,hwR,zA,zB,zC,zD,zE,zF,zG,zH,zI,hs,C206_1,C206_2])
    exact q03 ⟨by rw [key],rfl⟩
def refB (f:Rf):Bool:=q0v f.ty&&(decide (f.rl=⟨#[]⟩)||q0v f.rl)
def relB (r:Rl):Bool:=q0v r.name&&(r.refs.all refB&&(!r.refs.isEmpty||mayE 12 r.ex))
def typB (t:Ty):Bool:=q0v t.name&&t.rels.all relB
def scB (s:List Ty):Bool:=s.all typB
theorem c_lang_ref {f:Rf} (hf:OkF f):AFun PG nrx209 [.agg (rfC f)] (.bool (refB f)):=by
 intro S
 refine wx209 ?_
 unfold Bx209
 (try simp only [rwp,hwR,zA,zB,zC,zD,zE,zF,zG,zH,zI,rfC])
 refine q06 (q0w hf.ty) ?_
 cases h1:q0v f.ty<;>(try simp only [rwp,hwR,zA,zB,zC,zD,zE,zF,zG,zH,zI,C209_1,C209_2])
 ·exact q03 ⟨by simp only [refB,h1,Bool.false_and],rfl⟩
 (refine q20 (fun hg=>?_) (fun hg=>?_)<;>(try simp only [rwp,hwR,zA,zB,zC,zD,zE,zF,zG,zH,zI,hg,C209_2]))
 ·refine q06 (q0w hf.rl) ?_
  (try simp only [rwp,hwR,zA,zB,zC,zD,zE,zF,zG,zH,zI,C209_2,hg])
  exact q03 ⟨by simp only [refB,h1,hg,Bool.true_and,Bool.false_or],rfl⟩
 ·exact q03 ⟨by simp only [refB,h1,hg,Bool.true_and,Bool.true_or,Bool.not_false],rfl⟩
theorem c_lang_rel_1 {f:Rf} (hf:OkF f):AFun PG nrx208 [.agg (rfC f)] (.bool (!refB f)):=by
 intro S
 refine wx208 ?_
 unfold Bx208
 (try simp only [rwp,hwR,zA,zB,zC,zD,zE,zF,zG,zH,zI,rfC])
 refine q06 (c_lang_ref hf) ?_
 (try simp only [rwp,hwR,zA,zB,zC,zD,zE,zF,zG,zH,zI])
 exact q03 ⟨rfl,rfl⟩
theorem any_not {α:Type} {p:α→Bool} {l:List α}:(!l.any fun x=>!p x)=l.all p:=by
 induction l with
 | nil=>rfl
 | cons x r ih=>simp only [List.any_cons,List.all_cons,Bool.not_or,Bool.not_not,ih]
theorem c_lang_rel {r:Rl} (hr:OkR r):AFun PG nrx175 [.agg (rlC r)] (.bool (relB r)):=by
 intro S
 refine wx175 ?_
 unfold Bx175
 (try simp only [rwp,hwR,zA,zB,zC,zD,zE,zF,zG,zH,zI,q0u])
 (refine q04 (fun h1=>?_) (fun h1=>?_)<;>(try simp only [rwp,hwR,zA,zB,zC,zD,zE,zF,zG,zH,zI,h1]))
 ·have he:r.refs=[]:=by simpa using h1
  refine q06 (q0w hr.name) ?_
  (refine q20 (fun hg=>?_) (fun hg=>?_)<;>(try simp only [rwp,hwR,zA,zB,zC,zD,zE,zF,zG,zH,zI,hg]))
  ·rw [← q0d]
   refine q06 (c_lang_may 12 (by omega) r.ex hr.ex) ?_
   exact q03 ⟨by simp only [relB,hg,he,List.all_nil,List.isEmpty_nil,Bool.true_and,Bool.not_true,Bool.false_or],rfl⟩
  ·exact q03 ⟨by simp only [relB,hg,Bool.false_and,Bool.not_true],rfl⟩
 ·have he:r.refs.isEmpty=false:=by
   cases h2:r.refs with
   | nil=>rw [h2] at h1;simp at h1
   | cons a l=>rfl
  refine q06 (q0w hr.name) ?_
  (refine q20 (fun hg=>?_) (fun hg=>?_)<;>(try simp only [rwp,hwR,zA,zB,zC,zD,zE,zF,zG,zH,zI,hg]))
  ·refine q1a (q6l (enc:=rfC) (p:=fun f=>!refB f) (fun x _=>rfl) hr.refs (fun x hx=>c_lang_rel_1 (hr.ref x hx) S)) ?_
   (try simp only [rwp,hwR,zA,zB,zC,zD,zE,zF,zG,zH,zI])
   exact q03 ⟨by rw [any_not];simp only [relB,hg,he,Bool.true_and,Bool.not_false,Bool.true_or,Bool.and_true],rfl⟩
  ·exact q03 ⟨by simp only [relB,hg,Bool.false_and,Bool.not_true],rfl⟩
theorem c_lang_May_1 {r:Rl} (hr:OkR r):AFun PG nrx174 [.agg (rlC r)] (.bool (!relB r)):=by
 intro S
 refine wx174 ?_
 unfold Bx174
 (try simp only [rwp,hwR,zA,zB,zC,zD,zE,zF,zG,zH,zI,q0u])
 rw [← q0u]
 refine q06 (c_lang_rel hr) ?_
 (try simp only [rwp,hwR,zA,zB,zC,zD,zE,zF,zG,zH,zI])
 exact q03 ⟨rfl,rfl⟩
theorem all_false {α:Type} {p:α→Bool} {l:List α} {i:Nat} {x:α} (h:l[i]?=some x) (hp:p x=false):l.all p=false:=by
 cases hq:l.all p with
 | false=>rfl
 | true=>rw [List.all_eq_true] at hq;rw [hq x (List.mem_of_getElem? h)] at hp;cases hp
theorem all_upto {α:Type} {p:α→Bool} {l:List α} (h:∀ j x,j<l.length→l[j]?=some x→p x=true):l.all p=true:=by
 rw [List.all_eq_true]
 intro x hx
 obtain ⟨i,hi⟩:=List.getElem?_of_mem hx
 exact h i x (List.getElem?_eq_some_iff.1 hi).1 hi
theorem c_lang_May {s:List Ty} (hs:OkS s):AFun PG nrx136 [scA s] (.bool (scB s)):=by
 intro S
 have hb:=hs.types
 refine wx136 ?_
 unfold Bx136
 (try simp only [rwp,hwR,zA,zB,zC,zD,zE,zF,zG,zH,zI,scA])
 refine LoopP.intro (fun i:Nat=>[(6,.sl 2 (s.map tyC)),(7,.int .i64 s.length),(8,.int .i64 i)]) (fun _=>S) (fun i=>i≤s.length∧∀ j t,j<i→s[j]?=some t→typB t=true) (fun i=>s.length-i) 0 ⟨by omega,by omega⟩ rfl (Sub.refl S) ?_
 rintro i ⟨hi,hn⟩ r hr
 unfold C136_1
 (try simp only [rwp,hwR,zA,zB,zC,zD,zE,zF,zG,zH,zI])
 (refine q04 (fun hlt=>?_) (fun hlt=>?_)<;>(try simp only [hlc] at hlt))
 ·obtain ⟨t,ht⟩:=q0t hlt
  have hok:=hs.at ht
  (try simp only [rwp,hwR,zA,zB,zC,zD,zE,zF,zG,zH,zI,ht,tyC])
  refine q06 (q0w hok.name) ?_
  (try simp only [rwp,hwR,zA,zB,zC,zD,zE,zF,zG,zH,zI])
  have next:typB t=true→r [(6,.sl 2 (s.map tyC)),(7,.int .i64 s.length),(8,.int .i64 ((i:Int)+1))] S:=fun h=>by
   refine hr (i+1) ⟨by omega,fun j u hj hu=>?_⟩ (by omega)
   rcases Nat.lt_succ_iff_lt_or_eq.1 hj with h1 | rfl
   ·exact hn j u h1 hu
   ·rw [ht] at hu;cases hu;exact h
  cases h1:q0v t.name<;>(try simp only [rwp,hwR,zA,zB,zC,zD,zE,zF,zG,zH,zI])
  ·exact q03 ⟨by rw [scB,all_false ht (by simp only [typB,h1,Bool.false_and])],rfl⟩
  ·refine q1a (q6k (enc:=rlC) (p:=fun r=>!relB r) (fun x _=>rlC_len x) hok.rels (fun x hx=>c_lang_May_1 (hok.rel x hx) S)) ?_
   (try simp only [rwp,hwR,zA,zB,zC,zD,zE,zF,zG,zH,zI])
   have h2:(t.rels.any fun r=>!relB r)=!t.rels.all relB:=by rw [← any_not,Bool.not_not]
   rw [h2]
   (refine q04 (fun h3=>?_) (fun h3=>?_)<;>(try simp only [rwp,hwR,zA,zB,zC,zD,zE,zF,zG,zH,zI,h3]))
   ·exact q03 ⟨by rw [scB,all_false ht (by simp only [typB,h1,Bool.true_and];simpa using h3)],rfl⟩
   ·(simp (disch:=omega) only [q08])
    exact q0a rfl (next (by simp only [typB,h1,Bool.true_and];simpa using h3))
 ·exact q03 ⟨by rw [scB,all_upto fun j t hj ht=>hn j t (by omega) ht],rfl⟩
mutual
def q1c:Ex→Int→Int
 | .mk _ _ _ ks,m=>if m<ks.length then 0 else q1m ks (m-1)
def q1m:List Ex→Int→Int
 | [],m=>m
 | e :: r,m=>if 0<m then q1m r (q1c e m) else m
end
mutual
theorem q6r:∀ (e:Ex) (m:Int),q1c e m≤max m 0∧(-1≤q1c e m∨m≤q1c e m+1)
 | .mk _ _ _ ks,m=>by
  unfold q1c
  split
  ·omega
  ·have:=weightL_le ks (m-1)
   omega
theorem weightL_le:∀ (l:List Ex) (m:Int),q1m l m≤max m 0∧(-1≤q1m l m∨m≤q1m l m)
 | [],m=>by unfold q1m;omega
 | e :: r,m=>by
  unfold q1m
  split
  ·have h1:=q6r e m
   have h2:=weightL_le r (q1c e m)
   omega
  ·omega
end
theorem q7m {l:List Ex} {m:Int} (h:¬ 0<m):q1m l m=m:=by
 cases l with
 | nil=>rfl
 | cons e r=>rw [q1m,if_neg h]
theorem c_law11_weight:∀ (e:Ex),OkE e→∀ (m:Int),-1125899906842624≤m→m≤1125899906842624→AFun PG nrx90 [.agg (exC e),.int .i64 m] (.int .i64 (q1c e m)):=by
 intro e he
 induction he with
 | mk k n o ks hk hn ho hks ih=>
  intro m hm1 hm2 S
  refine wx90 ?_
  unfold Bx90
  (try simp only [rwp,hwR,zA,zB,zC,zD,zE,zF,zG,zH,zI,q0d,Ex.kind,Ex.name,Ex.over,Ex.kids])
  (refine q04 (fun h1=>?_) (fun h1=>?_)<;>(try simp only [hlc] at h1))
  ·exact q03 ⟨by rw [q1c,if_pos h1],rfl⟩
  (simp (disch:=omega) only [q08])
  refine LoopP.intro (fun p:Nat×Int=>[(1,.int .i64 p.2),(2,.rop [.int .i64 k,.str n,.str o,.sl 4 (ks.map exC)]),(5,.int .i64 p.1)]) (fun _=>S) (fun p=>p.1≤ks.length∧q1m (ks.drop p.1) p.2=q1m ks (m-1)∧-1125899906842626≤p.2∧p.2≤1125899906842624) (fun p=>ks.length-p.1) (0,m-1) ⟨by omega,rfl,by omega,by omega⟩ rfl (Sub.refl S) ?_
  rintro ⟨i,q⟩ ⟨hi,hq,hb1,hb2⟩ r hr
  dsimp only at hi hq hb1 hb2
  (try simp only [rwp,hwR,zA,zB,zC,zD,zE,zF,zG,zH,zI,C90_1,C90_2])
  have fin:∀ v,v=q1m ks (m-1)→v=q1c (.mk k n o ks) m:=fun v hv=>by rw [q1c,if_neg h1,hv]
  (refine q04 (fun h2=>?_) (fun h2=>?_)<;>(try simp only [rwp,hwR,zA,zB,zC,zD,zE,zF,zG,zH,zI,h2]))
  ·simp only [Bool.and_eq_true,decide_eq_true_eq] at h2
   obtain ⟨e,he⟩:=q0t h2.1
   have hem:=List.mem_of_getElem? he
   (try simp only [rwp,hwR,zA,zB,zC,zD,zE,zF,zG,zH,zI,he])
   have hd:ks.drop i=e :: ks.drop (i+1):=by
    have:=(List.getElem?_eq_some_iff.1 he)
    obtain ⟨h3,h4⟩:=this
    rw [← h4]
    exact List.drop_eq_getElem_cons h3
   have hw:=q6r e q
   refine q06 (ih e hem q (by omega) (by omega)) ?_
   (try simp only [rwp,hwR,zA,zB,zC,zD,zE,zF,zG,zH,zI])
   (simp (disch:=omega) only [q08])
   refine q0a rfl (hr (i+1,q1c e q) ⟨by dsimp only;omega,?_,by dsimp only;omega,by dsimp only;omega⟩ (by dsimp only;omega))
   dsimp only
   rw [hd,q1m,if_pos h2.2] at hq
   exact hq
  ·refine q03 ⟨?_,rfl⟩
   rw [fin q]
   simp only [Bool.and_eq_false_iff,decide_eq_false_iff_not] at h2
   rw [← hq]
   rcases h2 with h2 | h2
   ·have:ks.drop i=[]:=List.drop_of_length_le (by omega)
    rw [this];rfl
   ·rw [q7m h2]
def q85 (most:Int):List Rl→Int→Option Int
 | [],n=>some n
 | r :: rs,n=>if 0<n then (if most<r.refs.length∨(100:Int)<r.name.size then none else q85 most rs (q1c r.ex (n-r.refs.length))) else some n
def typsW (most:Int):List Ty→Int→Option Int
 | [],n=>some n
 | t :: ts,n=>if 0<n then (if (100:Int)<t.name.size then none else (q85 most t.rels n).bind (typsW most ts)) else some n
def fewF (s:List Ty) (most:Int):Bool:=match typsW most s (most-s.length) with
 | some n=>decide (0<n)
 | none=>false
mutual
def esz:Ex→Nat
 | .mk _ _ _ ks=>1+eszL ks
def eszL:List Ex→Nat
 | []=>0
 | e :: r=>esz e+eszL r
end
mutual
theorem weightF_esz:∀ (e:Ex) (m:Int),0<q1c e m→q1c e m=m-esz e
 | .mk _ _ _ ks,m,h=>by
  unfold q1c at h ⊢
  unfold esz
  split at h
  ·omega
  ·rw [if_neg ‹_›]
   have:=weightL_esz ks (m-1) h
   omega
theorem weightL_esz:∀ (l:List Ex) (m:Int),0<q1m l m→q1m l m=m-eszL l
 | [],m,h=>by unfold q1m eszL;omega
 | e :: r,m,h=>by
  unfold q1m at h ⊢
  unfold eszL
  split at h
  ·rw [if_pos ‹_›]
   have h1:=weightL_esz r (q1c e m) h
   have h2:0<q1c e m:=by
    rcases Int.lt_or_le 0 (q1c e m) with h3 | h3
    ·exact h3
    ·rw [q7m (by omega)] at h;omega
   have h4:=weightF_esz e m h2
   omega
  ·omega
end
def rsz (r:Rl):Nat:=r.refs.length+esz r.ex
theorem relsW_le {most:Int}:∀ {l:List Rl} {n n':Int},q85 most l n=some n'→0<n'→n'=n-(l.map rsz).sum
 | [],n,n',h,hp=>by simp only [q85,Option.some.injEq] at h;subst h;simp
 | r :: l,n,n',h,hp=>by
  simp only [q85] at h
  split at h
  ·split at h
   ·cases h
   ·have h1:=relsW_le h hp
    have h2:0<q1c r.ex (n-r.refs.length):=by
     have:0≤((l.map rsz).sum:Int):=by exact_mod_cast Nat.zero_le _
     omega
    have h3:=weightF_esz _ _ h2
    simp only [List.map_cons,List.sum_cons,rsz]
    push_cast
    omega
  ·simp only [Option.some.injEq] at h;omega
def tsz (t:Ty):Nat:=(t.rels.map rsz).sum
theorem typsW_le {most:Int}:∀ {l:List Ty} {n n':Int},typsW most l n=some n'→0<n'→n'=n-(l.map tsz).sum
 | [],n,n',h,hp=>by simp only [typsW,Option.some.injEq] at h;subst h;simp
 | t :: l,n,n',h,hp=>by
  simp only [typsW] at h
  split at h
  ·split at h
   ·cases h
   ·cases h1:q85 most t.rels n with
    | none=>rw [h1] at h;cases h
    | some n1=>
     rw [h1] at h
     have h2:=typsW_le (n:=n1) h hp
     have h3:0<n1:=by
      have:0≤((l.map tsz).sum:Int):=by exact_mod_cast Nat.zero_le _
      omega
     have h4:=relsW_le h1 h3
     simp only [List.map_cons,List.sum_cons,tsz]
     push_cast
     have h5:((l.map tsz).sum:Int)=((l.map fun t=>(t.rels.map rsz).sum).sum:Nat):=rfl
     omega
  ·simp only [Option.some.injEq] at h;omega
def ssz (s:List Ty):Nat:=s.length+(s.map tsz).sum
theorem few_size {s:List Ty} {most:Int} (h:fewF s most=true):(ssz s:Int)<most:=by
 unfold fewF at h
 split at h
 ·rename_i n hn
  have h1:0<n:=by simpa using h
  have:=typsW_le hn h1
  unfold ssz
  push_cast
  omega
 ·cases h
theorem q0z {α:Type} {l:List α} {i:Nat} {x:α} (h:l[i]?=some x):l.drop i=x :: l.drop (i+1):=by
 obtain ⟨h1,h2⟩:=List.getElem?_eq_some_iff.1 h
 rw [← h2]
 exact List.drop_eq_getElem_cons h1
theorem q2t {α:Type} {l:List α} {i:Nat} (h:¬ (i:Int)<l.length):l.drop i=[]:=List.drop_of_length_le (by omega)
theorem relsW_stop {most:Int} {l:List Rl} {n:Int} (h:¬ 0<n):q85 most l n=some n:=by
 cases l with
 | nil=>rfl
 | cons e r=>rw [q85,if_neg h]
theorem typsW_stop {most:Int} {l:List Ty} {n:Int} (h:¬ 0<n):typsW most l n=some n:=by
 cases l with
 | nil=>rfl
 | cons e r=>rw [typsW,if_neg h]
theorem c_law11_Few {s:List Ty} (hs:OkS s) {most:Int} (hm0:0≤most) (hm1:most≤1000):AFun PG nrx46 [scA s,.int .i64 most] (.bool (fewF s most)):=by
 intro S
 have hb:=hs.types
 refine wx46 ?_
 unfold Bx46
 (try simp only [rwp,hwR,zA,zB,zC,zD,zE,zF,zG,zH,zI,scA])
 (simp (disch:=omega) only [q08])
 refine LoopP.intro (fun p:Nat×Int=>[(1,.int .i64 most),(2,.rop [.sl 2 (s.map tyC)]),(5,.int .i64 p.2),(6,.int .i64 p.1)]) (fun _=>S) (fun p=>p.1≤s.length∧typsW most (s.drop p.1) p.2=typsW most s (most-s.length)∧p.2≤most∧-1125899906842624≤p.2) (fun p=>s.length-p.1) (0,most-s.length) ⟨by omega,rfl,by dsimp only;omega,by dsimp only;omega⟩ rfl (Sub.refl S) ?_
 rintro ⟨i,n⟩ ⟨hi,hn,hn1,hn2⟩ k hk
 dsimp only at hi hn hn1 hn2
 (try simp only [rwp,hwR,zA,zB,zC,zD,zE,zF,zG,zH,zI,C46_1,C46_2])
 (refine q04 (fun h1=>?_) (fun h1=>?_)<;>(try simp only [rwp,hwR,zA,zB,zC,zD,zE,zF,zG,zH,zI,h1]))
 ·simp only [Bool.and_eq_true,decide_eq_true_eq] at h1
  obtain ⟨t,ht⟩:=q0t h1.1
  have hok:=hs.at ht
  have hb1:=hok.rels
  have hb2:=hok.name
  rw [q0z ht,typsW,if_pos h1.2] at hn
  (try simp only [rwp,hwR,zA,zB,zC,zD,zE,zF,zG,zH,zI,ht,tyC])
  (refine q04 (fun h2=>?_) (fun h2=>?_)<;>(try simp only [hlc] at h2))
  ·rw [if_pos h2] at hn
   exact q03 ⟨by rw [fewF,← hn],rfl⟩
  rw [if_neg h2] at hn
  refine LoopP.intro (fun p:Nat×Int=>[(1,.int .i64 most),(2,.rop [.sl 2 (s.map tyC)]),(5,.int .i64 p.2),(6,.int .i64 i),(7,.int .i64 p.1)]) (fun _=>S) (fun p=>p.1≤t.rels.length∧q85 most (t.rels.drop p.1) p.2=q85 most t.rels n∧p.2≤most∧-1125899906842624≤p.2) (fun p=>t.rels.length-p.1) (0,n) ⟨by omega,rfl,by dsimp only;omega,by dsimp only;omega⟩ rfl (Sub.refl S) ?_
  rintro ⟨j,q⟩ ⟨hj,hq,hq1,hq2⟩ k2 hk2
  dsimp only at hj hq hq1 hq2
  (try simp only [rwp,hwR,zA,zB,zC,zD,zE,zF,zG,zH,zI,C46_3,C46_4,ht,tyC])
  (refine q04 (fun h3=>?_) (fun h3=>?_)<;>(try simp only [rwp,hwR,zA,zB,zC,zD,zE,zF,zG,zH,zI,h3]))
  ·simp only [Bool.and_eq_true,decide_eq_true_eq] at h3
   obtain ⟨r,hr⟩:=q0t h3.1
   have hokr:=hok.at hr
   have hb3:=hokr.refs
   have hb4:=hokr.name
   rw [q0z hr,q85,if_pos h3.2] at hq
   (try simp only [rwp,hwR,zA,zB,zC,zD,zE,zF,zG,zH,zI,hr,q0u,C46_5])
   (refine q04 (fun h4=>?_) (fun h4=>?_)<;>(try simp only [rwp,hwR,zA,zB,zC,zD,zE,zF,zG,zH,zI,h4]))
   ·rw [if_pos (by simpa using h4)] at hq
    rw [← hq] at hn
    exact q03 ⟨by rw [fewF,← hn];rfl,rfl⟩
   have h4':¬ (most<r.refs.length∨(100:Int)<r.name.size):=by simpa using h4
   rw [if_neg h4'] at hq
   (simp (disch:=omega) only [q08])
   rw [← q0d]
   have hw:=q6r r.ex (q-r.refs.length)
   refine q06 (c_law11_weight r.ex hokr.ex (q-r.refs.length) (by omega) (by omega)) ?_
   (try simp only [rwp,hwR,zA,zB,zC,zD,zE,zF,zG,zH,zI])
   exact q0a rfl (hk2 (j+1,q1c r.ex (q-r.refs.length)) ⟨by dsimp only;omega,hq,by dsimp only;omega,by dsimp only;omega⟩ (by dsimp only;omega))
  ·have hend:q85 most (t.rels.drop j) q=some q:=by
    simp only [Bool.and_eq_false_iff,decide_eq_false_iff_not] at h3
    rcases h3 with h3 | h3
    ·rw [q2t h3];rfl
    ·exact relsW_stop h3
   rw [hend] at hq
   rw [← hq] at hn
   (simp (disch:=omega) only [q08])
   exact q0a rfl (hk (i+1,q) ⟨by dsimp only;omega,by dsimp only;rw [← hn];rfl,hq1,hq2⟩ (by dsimp only;omega))
 ·have hend:typsW most (s.drop i) n=some n:=by
   simp only [Bool.and_eq_false_iff,decide_eq_false_iff_not] at h1
   rcases h1 with h1 | h1
   ·rw [q2t h1];rfl
   ·exact typsW_stop h1
  rw [hend] at hn
  exact q03 ⟨by rw [fewF,← hn],rfl⟩
theorem q5k {α:Type} {p:α→Bool} {x:α}:∀ {l:List α},q0k p (l++[x])=match q0k p l with
  | some i=>some i
  | none=>if p x then some l.length else none
 | []=>by
  simp only [List.nil_append,q0k,List.length_nil]
  split<;>rfl
 | y :: r=>by
  have ih:=q5k (p:=p) (x:=x) (l:=r)
  simp only [List.cons_append,q0k,ih]
  by_cases hy:p y=true
  ·simp [hy]
  ·simp only [hy,if_false,Bool.false_eq_true]
   cases q0k p r with
   | some i=>rfl
   | none=>
    by_cases hx:p x=true<;>simp [hx]
theorem q14 {α:Type} {l:List α} {i:Nat} {x:α} (h:l[i]?=some x):l.take (i+1)=l.take i++[x]:=by
 rw [List.take_add_one,h];rfl
theorem typF_snoc {ts:List Ty} {t:Ty} {n:ByteArray}:typF (ts++[t]) n=match typF ts n with
  | some i=>some i
  | none=>if t.name=n then some ts.length else none:=by
 unfold typF
 rw [q5k]
 cases q0k (fun t=>decide (t.name=n)) ts with
 | some i=>rfl
 | none=>by_cases h:t.name=n<;>simp [h]
theorem relIn_snoc {ts:List Rl} {t:Rl} {n:ByteArray}:q43 (ts++[t]) n=match q43 ts n with
  | some i=>some i
  | none=>if t.name=n then some ts.length else none:=by
 unfold q43
 rw [q5k]
 cases q0k (fun t=>decide (t.name=n)) ts with
 | some i=>rfl
 | none=>by_cases h:t.name=n<;>simp [h]
abbrev MS:Bool×List EK:=(false,[.str])
abbrev iv (i:Nat):AV:=.int .i64 (i:Int)
structure IxB (S:q00) (b1 b2:Nat) (B:Nat→Nat) (ts:List Ty):Prop where
 typs:KMap MS AV.str S b1 (fun n=>(typF ts n).map iv)
 rels:KMap MS AV.str S b2 (fun n=>(typF ts n).map fun i=>.map (some (B i)))
 each:∀ n i t,typF ts n=some i→ts[i]?=some t→KMap MS AV.str S (B i) (fun m=>(q43 t.rels m).map iv)
def IxS (S:q00) (b1 b2:Nat) (s:List Ty):Prop:=∃ B,IxB S b1 b2 B s
abbrev ixP (s:List Ty) (b1 b2:Nat):AV:=.rop [.sl 2 (s.map tyC),.map (some b1),.map (some b2)]
theorem IxS.sub {S S':q00} {b1 b2:Nat} {s:List Ty} (h:IxS S b1 b2 s) (hs:Sub S S'):IxS S' b1 b2 s:=by
 obtain ⟨B,h1,h2,h3⟩:=h
 exact ⟨B,h1.sub hs,h2.sub hs,fun n i t hn ht=>(h3 n i t hn ht).sub hs⟩
theorem q37 {s:List Ty} (hs:OkS s) (S:q00):ACalls PG nrx91 [scA s] S fun ae S'=>∃ b1 b2,ae=.ret (ixP s b1 b2)∧IxS S' b1 b2 s∧Sub S S':=by
 have hb:=hs.types
 refine wx91 ?_
 unfold Bx91
 (try simp only [rwp,hwR,zA,zB,zC,zD,zE,zF,zG,zH,zI,scA])
 refine KMap.mm (enc:=AV.str) fun b1 hb1 m1=>?_
 refine KMap.mm (enc:=AV.str) fun b2 hb2 m2=>?_
 have hne:b2≠b1:=fun e=>m1.is (e ▸ hb2)
 have m1:=m1.fresh hb2 (.map MS [] 0)
 have hsub:Sub S (supd (supd S b1 (.map MS [] 0)) b2 (.map MS [] 0)):=(Sub.fresh _ hb1).trans (Sub.fresh _ hb2)
 (try simp only [rwp,hwR,zA,zB,zC,zD,zE,zF,zG,zH,zI])
 have hb2':sget S b2=none:=by rw [q01,if_neg (Ne.symm hne)] at hb2;exact hb2
 generalize supd (supd S b1 (.map MS [] 0)) b2 (.map MS [] 0)=S0 at m1 m2 hsub
 refine LoopP.introS (fun i:Nat=>[(3,ixP s b1 b2),(18,.sl 2 (s.map tyC)),(19,.int .i64 s.length),(20,.int .i64 i)]) (fun i S'=>i≤s.length∧Sub S S'∧∃ B,IxB S' b1 b2 B (s.take i)∧∀ n j,typF (s.take i) n=some j→B j≠b1∧B j≠b2) (fun i=>s.length-i) 0 ⟨by omega,hsub,fun _=>0,?_,fun n j h=>by cases h⟩ rfl ?_
 ·rw [List.take_zero]
  exact ⟨m1,m2,fun n i t h=>by cases h⟩
 rintro i S1 ⟨hi,hsub1,B,I,hB⟩ r hr
 (try simp only [rwp,hwR,zA,zB,zC,zD,zE,zF,zG,zH,zI,C91_1])
 (refine q04 (fun hlt=>?_) (fun hlt=>?_)<;>(try simp only [hlc] at hlt))
 ·obtain ⟨t,ht⟩:=q0t hlt
  have hok:=hs.at ht
  have hbr:=hok.rels
  (try simp only [rwp,hwR,zA,zB,zC,zD,zE,zF,zG,zH,zI,ht])
  refine alst rfl ?_
  (try simp only [rwp,hwR,zA,zB,zC,zD,zE,zF,zG,zH,zI,tyC])
  rw [I.typs.lk q2e]
  have hlen:(s.take i).length=i:=by simp;omega
  have htk:=q14 ht
  cases hq:typF (s.take i) t.name with
  | some j=>
   (try simp only [rwp,hwR,zA,zB,zC,zD,zE,zF,zG,zH,zI])
   (simp (disch:=omega) only [q08])
   refine q0a rfl (hr (i+1) S1 ⟨by omega,hsub1,B,?_⟩ (by omega))
   rw [htk]
   have hsame:∀ n,typF (s.take i++[t]) n=typF (s.take i) n:=fun n=>by
    rw [typF_snoc]
    cases h:typF (s.take i) n with
    | some k=>rfl
    | none=>
     have:¬ t.name=n:=by rintro rfl;rw [hq] at h;cases h
     simp [this]
   refine ⟨⟨I.typs.cong fun n=>by rw [hsame],I.rels.cong fun n=>by rw [hsame],fun n k u hn hu=>?_⟩,fun n k hn=>hB n k (by rw [← hsame];exact hn)⟩
   rw [hsame] at hn
   have hk:=q5d hn
   rw [List.getElem?_append_left hk] at hu
   exact I.each n k u hn hu
  | none=>
   (try simp only [rwp,hwR,zA,zB,zC,zD,zE,zF,zG,zH,zI])
   refine I.typs.mu q2e t.name fun es clk k1=>?_
   have hs2:=hsub1.supd (o:=.map MS es clk) hb1
   have k2:=I.rels.upd (Ne.symm hne) (.map MS es clk)
   have k3:=fun n j u hn hu=>(I.each n j u hn hu).upd (Ne.symm (hB n j hn).1) (.map MS es clk)
   generalize supd S1 b1 (.map MS es clk)=S2 at k1 k2 k3 hs2
   refine KMap.mm (enc:=AV.str) fun b hbf k4=>?_
   have hb':=Sub.none hs2 hbf
   have hs3:=hs2.supd (o:=.map MS [] 0) hb'
   have d1:b≠b1:=fun e=>k1.is (e ▸ hbf)
   have d2:b≠b2:=fun e=>k2.is (e ▸ hbf)
   have d3:∀ n j,typF (s.take i) n=some j→B j≠b:=fun n j hn e=>by
    have hj:=q5d hn
    exact (k3 n j _ hn (List.getElem?_eq_getElem hj)).is (e ▸ hbf)
   have k1:=k1.fresh hbf (.map MS [] 0)
   have k2:=k2.fresh hbf (.map MS [] 0)
   have k3:=fun n j u hn hu=>(k3 n j u hn hu).fresh hbf (.map MS [] 0)
   generalize supd S2 b (.map MS [] 0)=S3 at k1 k2 k3 k4 hs3
   refine k2.mu q2e t.name fun es2 clk2 k2=>?_
   have hs4:=hs3.supd (o:=.map MS es2 clk2) hb2'
   have k1:=k1.upd hne (.map MS es2 clk2)
   have k3:=fun n j u hn hu=>(k3 n j u hn hu).upd (Ne.symm (hB n j hn).2) (.map MS es2 clk2)
   have k4:=k4.upd (Ne.symm d2) (.map MS es2 clk2)
   generalize supd S3 b2 (.map MS es2 clk2)=S4 at k1 k2 k3 k4 hs4
   have e1:∀ n,typF (s.take i++[t]) n=if n=t.name then some i else typF (s.take i) n:=fun n=>by
    rw [typF_snoc,hlen]
    by_cases h:n=t.name
    ·subst h;simp [hq]
    ·rw [if_neg h,if_neg (Ne.symm h)]
     cases typF (s.take i) n<;>rfl
   have k1:KMap MS AV.str S4 b1 (fun n=>(typF (s.take i++[t]) n).map iv):=k1.cong fun n=>by
    rw [e1]
    by_cases h:n=t.name<;>simp [h]
   have k2:KMap MS AV.str S4 b2 (fun n=>(typF (s.take i++[t]) n).map fun j=>.map (some (if j=i then b else B j))):=k2.cong fun n=>by
    rw [e1]
    by_cases h:n=t.name
    ·simp [h]
    ·simp only [if_neg h]
     cases hc:typF (s.take i) n with
     | none=>rfl
     | some j=>
      have:=q5d hc
      simp [show ¬ j=i by omega]
   (try simp only [rwp,hwR,zA,zB,zC,zD,zE,zF,zG,zH,zI])
   refine LoopP.introS (fun k:Nat=>[(3,ixP s b1 b2),(5,.rop [.str t.name,.sl 6 (t.rels.map rlC)]),(18,.sl 2 (s.map tyC)),(19,.int .i64 s.length),(20,.int .i64 i),(51,.sl 6 (t.rels.map rlC)),(52,.int .i64 t.rels.length),(53,.int .i64 k)]) (fun k S'=>k≤t.rels.length∧Sub S S'∧KMap MS AV.str S' b1 (fun n=>(typF (s.take i++[t]) n).map iv)∧KMap MS AV.str S' b2 (fun n=>(typF (s.take i++[t]) n).map fun j=>.map (some (if j=i then b else B j))) ∧
    (∀ n j u,typF (s.take i) n=some j→(s.take i)[j]?=some u→KMap MS AV.str S' (B j) (fun m=>(q43 u.rels m).map iv))∧KMap MS AV.str S' b (fun m=>(q43 (t.rels.take k) m).map iv)) (fun k=>t.rels.length-k) 0 ⟨by omega,hs4,k1,k2,k3,k4⟩ rfl ?_
   rintro k S5 ⟨hk,hs5,k1,k2,k3,k4⟩ r2 hr2
   (try simp only [rwp,hwR,zA,zB,zC,zD,zE,zF,zG,zH,zI,C91_2])
   (refine q04 (fun hlt2=>?_) (fun hlt2=>?_)<;>(try simp only [hlc] at hlt2))
   ·obtain ⟨q,hqr⟩:=q0t hlt2
    have hlk:(t.rels.take k).length=k:=by simp;omega
    have htq:=q14 hqr
    (try simp only [rwp,hwR,zA,zB,zC,zD,zE,zF,zG,zH,zI,hqr])
    refine alst rfl ?_
    (try simp only [rwp,hwR,zA,zB,zC,zD,zE,zF,zG,zH,zI,q0u])
    rw [k2.lk q2e,e1,if_pos rfl]
    simp only [Option.map_some,if_true,q4d]
    rw [k4.lk q2e]
    cases hrq:q43 (t.rels.take k) q.name with
    | some m=>
     (try simp only [rwp,hwR,zA,zB,zC,zD,zE,zF,zG,zH,zI])
     (simp (disch:=omega) only [q08])
     refine q0a rfl (hr2 (k+1) S5 ⟨by omega,hs5,k1,k2,k3,k4.cong fun n=>?_⟩ (by omega))
     rw [htq,relIn_snoc]
     cases h:q43 (t.rels.take k) n with
     | some m=>rfl
     | none=>
      have:¬ q.name=n:=by rintro rfl;rw [hrq] at h;cases h
      simp [this]
    | none=>
     (try simp only [rwp,hwR,zA,zB,zC,zD,zE,zF,zG,zH,zI])
     rw [k2.lk q2e,e1,if_pos rfl]
     simp only [Option.map_some,if_true,q4d]
     refine k4.mu q2e q.name fun es3 clk3 k4=>?_
     (try simp only [rwp,hwR,zA,zB,zC,zD,zE,zF,zG,zH,zI])
     (simp (disch:=omega) only [q08])
     refine q0a rfl (hr2 (k+1) _ ⟨by omega,hs5.supd hb',k1.upd d1 _,k2.upd d2 _,fun n j u hn hu=>(k3 n j u hn hu).upd (Ne.symm (d3 n j hn)) _,k4.cong fun n=>?_⟩ (by omega))
     rw [htq,relIn_snoc,hlk]
     by_cases h:n=q.name
     ·subst h;simp [hrq]
     ·simp only [if_neg h,if_neg (Ne.symm h)]
      cases q43 (t.rels.take k) n<;>rfl
   ·have hend:t.rels.take k=t.rels:=List.take_of_length_le (by omega)
    rw [hend] at k4
    (simp (disch:=omega) only [q08])
    refine q0a rfl (hr (i+1) S5 ⟨by omega,hs5,fun j=>if j=i then b else B j,?_⟩ (by omega))
    rw [htk]
    refine ⟨⟨k1,k2,fun n j u hn hu=>?_⟩,fun n j hn=>?_⟩
    ·rw [e1] at hn
     split at hn
     ·cases hn
      rw [List.getElem?_append_right (by omega),hlen,Nat.sub_self] at hu
      simp at hu
      subst hu
      simp only [if_true]
      exact k4
     ·have hj:=q5d hn
      rw [List.getElem?_append_left hj] at hu
      simp only [if_neg (show ¬ j=i by omega)]
      exact k3 n j u hn hu
    ·rw [e1] at hn
     split at hn
     ·cases hn;simp only [if_true];exact ⟨d1,d2⟩
     ·have hj:=q5d hn
      simp only [if_neg (show ¬ j=i by omega)]
      exact hB n j hn
 ·have hend:s.take i=s:=List.take_of_length_le (by omega)
  rw [hend] at I
  exact q03 ⟨b1,b2,rfl,⟨B,I⟩,hsub1⟩
def fiN (s:List Ty) (t n:ByteArray):Nat×Nat:=((typF s t).getD 0,(relF s (typF s t) n).getD 0)
def fiB (s:List Ty) (t n:ByteArray):Bool:=(relF s (typF s t) n).isSome
theorem q6d {s:List Ty} {t n:ByteArray}:fiB s t n=(q0o s t n).isSome:=by
 unfold fiB
 rw [findF_rel]
 cases q0o s t n<;>rfl
theorem q6c {s:List Ty} {t n:ByteArray} {i k:Nat} {r:Rl} (h:q0o s t n=some (i,k,r)):fiN s t n=(i,k):=by
 obtain ⟨h1,-⟩:=q1u h
 unfold fiN
 rw [findF_rel,h,h1]
 rfl
theorem q1s {s:List Ty} {S:q00} {b1 b2:Nat} (I:IxS S b1 b2 s) (t n:ByteArray):AFunS PG nrx96 [ixP s b1 b2,.str t,.str n] S (.tup [q1e (fiN s t n),.bool (fiB s t n)]):=by
 obtain ⟨B,I⟩:=I
 refine wx96 ?_
 unfold Bx96
 intro b hb
 have hS:∀ o,Sub S (supd S b o):=fun o=>Sub.fresh o hb
 (try simp only [rwp,hwR,zA,zB,zC,zD,zE,zF,zG,zH,zI])
 rw [(I.typs.fresh hb _).lk q2e]
 cases hq:typF s t with
 | none=>
  (try simp only [rwp,hwR,zA,zB,zC,zD,zE,zF,zG,zH,zI])
  rw [(I.rels.fresh hb _).lk q2e,hq]
  (try simp only [rwp,hwR,zA,zB,zC,zD,zE,zF,zG,zH,zI])
  refine q1h S (by rw [q2f hb];exact Sub.refl S) ?_
  (try simp only [rwp,hwR,zA,zB,zC,zD,zE,zF,zG,zH,zI])
  simp [q1e,fiN,fiB,hq,relF]
 | some i=>
  have hi:=q5d hq
  (try simp only [rwp,hwR,zA,zB,zC,zD,zE,zF,zG,zH,zI])
  rw [(I.rels.fresh hb _).lk q2e,hq]
  (try simp only [rwp,hwR,zA,zB,zC,zD,zE,zF,zG,zH,zI])
  rw [((I.each t i s[i] hq (List.getElem?_eq_getElem hi)).fresh hb _).lk q2e]
  have hr:relF s (typF s t) n=q43 s[i].rels n:=by simp [relF,hq,List.getElem?_eq_getElem hi]
  rw [hq] at hr
  cases hk:q43 s[i].rels n with
  | none=>
   (try simp only [rwp,hwR,zA,zB,zC,zD,zE,zF,zG,zH,zI])
   refine q1h S (by rw [q2f hb];exact Sub.refl S) ?_
   (try simp only [rwp,hwR,zA,zB,zC,zD,zE,zF,zG,zH,zI])
   simp [q1e,fiN,fiB,hq,hr,hk]
  | some k=>
   (try simp only [rwp,hwR,zA,zB,zC,zD,zE,zF,zG,zH,zI])
   refine q1h S (by rw [q2f hb];exact Sub.refl S) ?_
   (try simp only [rwp,hwR,zA,zB,zC,zD,zE,zF,zG,zH,zI])
   simp [q1e,fiN,fiB,hq,hr,hk]
theorem q52 {s:List Ty} {b1 b2 i k:Nat} {t:Ty} {r:Rl} (ht:s[i]?=some t) (hr:t.rels[k]?=some r):AFun PG nrx97 [ixP s b1 b2,q1e (i,k)] (.agg (rlC r)):=by
 intro S
 refine wx97 ?_
 unfold Bx97
 (try simp only [rwp,hwR,zA,zB,zC,zD,zE,zF,zG,zH,zI,q1e])
 intro b hb
 (try simp only [rwp,hwR,zA,zB,zC,zD,zE,zF,zG,zH,zI,ht,hr,tyC,q0u])
 refine q1h S (by rw [q2f hb];exact Sub.refl S) ?_
 (try simp only [rwp,hwR,zA,zB,zC,zD,zE,zF,zG,zH,zI])<;>exact ⟨by rw [q0u],rfl⟩
theorem c_rules_Find {s:List Ty} (hs:OkS s) (t n:ByteArray) (S:q00):ACalls PG nrx48 [scA s,.str t,.str n] S fun ae S'=>ae=.ret (match q0o s t n with
  | some (_,_,r)=>.tup [.agg (rlC r),.bool true]
  | none=>.tup [.agg zeroR,.bool false])∧S'=S:=by
 refine wx48 ?_
 unfold Bx48
 (try simp only [rwp,hwR,zA,zB,zC,zD,zE,zF,zG,zH,zI,scA])
 intro b hb
 (try simp only [rwp,hwR,zA,zB,zC,zD,zE,zF,zG,zH,zI])
 refine q10 (q37 hs _) ?_
 rintro _ S1 ⟨b1,b2,rfl,I,hsub⟩
 have hsb:=hsub b _ (by rw [q01,if_pos rfl])
 have hS1:Sub S S1:=(Sub.fresh _ hb).trans hsub
 dsimp only
 refine q1a (q1s I t n) ?_
 (try simp only [rwp,hwR,zA,zB,zC,zD,zE,zF,zG,zH,zI,q1e])
 rw [q6d]
 cases hq:q0o s t n with
 | none=>
  (try simp only [rwp,hwR,zA,zB,zC,zD,zE,zF,zG,zH,zI,objAt_some.2 hsb])
  refine q1h S (hS1.supd hb) ?_
  (try simp only [rwp,hwR,zA,zB,zC,zD,zE,zF,zG,zH,zI])
  exact rfl
 | some q=>
  obtain ⟨i,k,r⟩:=q
  obtain ⟨h1,ty,h2,h3,h4⟩:=q1u hq
  rw [q6c hq]
  (try simp only [rwp,hwR,zA,zB,zC,zD,zE,zF,zG,zH,zI])
  refine q06 (q52 h2 h4) ?_
  (try simp only [rwp,hwR,zA,zB,zC,zD,zE,zF,zG,zH,zI,objAt_some.2 hsb,q0u])
  refine q1h S (hS1.supd hb) ?_
  (try simp only [rwp,hwR,zA,zB,zC,zD,zE,zF,zG,zH,zI,q0u])
mutual
/-- The leaves of an expression, from the left, and whether they are left out. -/
def q0s:Ex→Bool→List (Ex×Bool)
 | .mk k n o ks,out=>if ks.isEmpty then [(.mk k n o ks,out)] else q2i k 0 ks out
def q2i:Int→Nat→List Ex→Bool→List (Ex×Bool)
 | _,_,[],_=>[]
 | k,i,e :: r,out=>q0s e (out||(decide (k=4)&&decide ((i:Int)=1)))++q2i k (i+1) r out
end
def q21 {α:Type} (f:α→Ex→Bool→Bool×α):List (Ex×Bool)→α→Bool×α
 | [],a=>(true,a)
 | (e,o) :: r,a=>match f a e o with
  | (true,a')=>q21 f r a'
  | (false,a')=>(false,a')
theorem foldA_app {α:Type} {f:α→Ex→Bool→Bool×α}:∀ {l r:List (Ex×Bool)} {a:α},q21 f (l++r) a=match q21 f l a with
  | (true,a')=>q21 f r a'
  | (false,a')=>(false,a')
 | [],r,a=>rfl
 | (e,o) :: l,r,a=>by
  simp only [List.cons_append,q21]
  cases f a e o with
  | mk b a'=>cases b with
   | true=>exact foldA_app
   | false=>rfl
theorem foldA_snoc {α:Type} {f:α→Ex→Bool→Bool×α} {l:List (Ex×Bool)} {p:Ex×Bool} {a:α} (h:(q21 f l a).1=true):q21 f (l++[p]) a=f (q21 f l a).2 p.1 p.2:=by
 rw [foldA_app]
 cases hq:q21 f l a with
 | mk b a'=>
  rw [hq] at h
  dsimp only at h
  subst h
  obtain ⟨e,o⟩:=p
  simp only [q21]
  cases hf:f a' e o with
  | mk c a2=>cases c<;>rfl
theorem foldA_stop {α:Type} {f:α→Ex→Bool→Bool×α} {l r:List (Ex×Bool)} {a:α} (h:(q21 f l a).1=false):q21 f (l++r) a=q21 f l a:=by
 rw [foldA_app]
 cases hq:q21 f l a with
 | mk b a'=>
  rw [hq] at h
  dsimp only at h
  subst h
  rfl
theorem q6h {α:Type} (I:α→q00→Prop) (f:α→Ex→Bool→Bool×α) {g:Nat} {fi ca:List AV} (T:List (Ex×Bool)) (a0:α)
  (hcb:∀ l1 p l2,T=l1++p :: l2→(q21 f l1 a0).1=true→∀ (S:q00),OkE p.1→I (q21 f l1 a0).2 S→ACalls PG g (fi++[.agg (exC p.1),.bool p.2]++ca) S fun ae S'=>ae=.ret (.bool (f (q21 f l1 a0).2 p.1 p.2).1)∧I (f (q21 f l1 a0).2 p.1 p.2).2 S') :
  ∀ (e:Ex),OkE e→∀ (out:Bool) (l0 l2:List (Ex×Bool)),T=l0++q0s e out++l2→(q21 f l0 a0).1=true→∀ (S:q00),I (q21 f l0 a0).2 S →
   ACalls PG nrx176 [.agg (exC e),.bool out,.func (.func g) fi ca] S fun ae S'=>ae=.ret (.bool (q21 f (l0++q0s e out) a0).1)∧I (q21 f (l0++q0s e out) a0).2 S':=by
 intro e he
 induction he with
 | mk k n o ks hk hn ho hks ih=>
  intro out l0 l2 hT hl0 S hI
  refine wx176 ?_
  unfold Bx176
  (try simp only [rwp,hwR,zA,zB,zC,zD,zE,zF,zG,zH,zI,q0d,Ex.kind,Ex.name,Ex.over,Ex.kids])
  have hok:OkE (.mk k n o ks):=.mk k n o ks hk hn ho hks
  by_cases hnil:ks=[]
  ·subst hnil
   refine LoopP.introS (fun _:Unit=>[(1,.bool out),(2,.func (.func g) fi ca),(3,.rop [.int .i64 k,.str n,.str o,.sl 4 []]),(10,.sl 4 []),(11,.int .i64 0),(12,.int .i64 0)]) (fun _ S'=>S'=S) (fun _=>0) () rfl rfl ?_
   rintro _ S rfl r hr
   (try simp only [rwp,hwR,zA,zB,zC,zD,zE,zF,zG,zH,zI,C176_1,show decide ((0:Int)<0)=false from rfl,show decide (((0:Nat):Int)>0)=false from rfl,show decide (((0:Nat):Int)<((0:Nat):Int))=false from rfl,show decide ((0:Int)<((0:Nat):Int))=false from rfl])
   have hl:q0s (.mk k n o []) out=[(.mk k n o [],out)]:=by simp [q0s]
   rw [hl] at hT ⊢
   have h1:=hcb l0 (.mk k n o [],out) l2 (by rw [hT];simp) hl0 S hok hI
   rw [q0d] at h1
   refine caW_ofv h1 ?_
   rintro _ S' ⟨rfl,hI'⟩
   (try simp only [rwp,hwR,zA,zB,zC,zD,zE,zF,zG,zH,zI])
   rw [foldA_snoc hl0]
   exact q03 ⟨rfl,hI'⟩
  ·have hl:q0s (.mk k n o ks) out=q2i k 0 ks out:=by
    cases ks with
    | nil=>exact absurd rfl hnil
    | cons x r=>simp [q0s]
   rw [hl] at hT ⊢
   generalize hL:l0++q2i k 0 ks out=L at hT ⊢
   refine LoopP.introS (fun p:Nat×List (Ex×Bool)=>[(1,.bool out),(2,.func (.func g) fi ca),(3,.rop [.int .i64 k,.str n,.str o,.sl 4 (ks.map exC)]),(10,.sl 4 (ks.map exC)),(11,.int .i64 ks.length),(12,.int .i64 p.1)])
    (fun p S'=>p.1≤ks.length∧(q21 f p.2 a0).1=true∧I (q21 f p.2 a0).2 S'∧p.2++q2i k p.1 (ks.drop p.1) out=L) (fun p=>ks.length-p.1) (0,l0) ⟨by omega,hl0,hI,hL⟩ rfl ?_
   rintro ⟨i,lp⟩ S1 ⟨hi,hlp,hI1,hf1⟩ r hr
   dsimp only at hi hlp hI1 hf1
   (try simp only [rwp,hwR,zA,zB,zC,zD,zE,zF,zG,zH,zI,C176_1])
   (refine q04 (fun hlt=>?_) (fun hlt=>?_)<;>(try simp only [hlc] at hlt))
   ·obtain ⟨x,hx⟩:=q0t hlt
    rw [q0z hx,q2i] at hf1
    (try simp only [rwp,hwR,zA,zB,zC,zD,zE,zF,zG,zH,zI,hx])
    refine alst rfl ?_
    (try simp only [rwp,hwR,zA,zB,zC,zD,zE,zF,zG,zH,zI,q0d,q15])
    rw [← q0d]
    have fin:∀ o2,o2=(out||(decide (k=4)&&decide ((i:Int)=1)))→C176_4 (fun ae S'=>ae=.ret (.bool (q21 f L a0).1)∧I (q21 f L a0).2 S') r (.bool out) (.func (.func g) fi ca) (.rop [.int .i64 k,.str n,.str o,.sl 4 (ks.map exC)]) (.sl 4 (ks.map exC)) (.int .i64 ks.length) (.int .i64 i) (.agg (exC x)) (.bool o2) S1:=by
     intro o2 ho2
     unfold C176_4
     rw [← ho2,← List.append_assoc] at hf1
     refine q10 (ih x (List.mem_of_getElem? hx) o2 lp (q2i k (i+1) (ks.drop (i+1)) out++l2) (by rw [hT,← hf1];simp) hlp S1 hI1) ?_
     rintro _ S' ⟨rfl,h2⟩
     (try simp only [rwp,hwR,zA,zB,zC,zD,zE,zF,zG,zH,zI])
     cases hq:(q21 f (lp++q0s x o2) a0).1 with
     | false=>
      (try simp only [rwp,hwR,zA,zB,zC,zD,zE,zF,zG,zH,zI])
      rw [← hf1,foldA_stop hq]
      exact q03 ⟨by rw [hq],h2⟩
     | true=>
      (try simp only [rwp,hwR,zA,zB,zC,zD,zE,zF,zG,zH,zI])
      (simp (disch:=omega) only [q08])
      exact q0a rfl (hr (i+1,lp++q0s x o2) S' ⟨by dsimp only;omega,hq,h2,hf1⟩ (by dsimp only;omega))
    cases a1':out<;>cases a2':decide (k=4)<;>cases a3':decide ((i:Int)=1) <;>
     (try simp only [rwp,hwR,zA,zB,zC,zD,zE,zF,zG,zH,zI,C176_2,C176_3,a1',a2',a3'])<;>(rw [a1'] at fin;exact fin _ (by rw [a2',a3'];rfl))
   ·have h0:decide ((0:Int)<ks.length)=true:=by
     rw [decide_eq_true_eq]
     have:ks.length≠0:=fun h=>hnil (List.length_eq_zero_iff.1 h)
     omega
    rw [q2t hlt] at hf1
    have hf2:lp=L:=by rw [← hf1];simp [q2i]
    subst hf2
    (try simp only [rwp,hwR,zA,zB,zC,zD,zE,zF,zG,zH,zI,h0])
    exact q03 ⟨by rw [hlp],hI1⟩
def q5f (s:List Ty) (refs:List Rf) (name:ByteArray):List (Nat×Nat):=refs.filterMap fun f=>if f.rl=⟨#[]⟩ then (q0o s f.ty name).map fun q=>(q.1,q.2.1) else none
def nodeC (p:Nat×Nat):List AV:=[.int .i64 p.1,.int .i64 p.2]
theorem take_fm {α β:Type} {g:α→Option β} {l:List α} {i:Nat} {x:α} (h:l[i]?=some x):(l.take (i+1)).filterMap g=(l.take i).filterMap g++(g x).toList:=by
 rw [q14 h,List.filterMap_append]
 cases hg:g x<;>simp [hg]
theorem fm_le {α β:Type} {g:α→Option β} {l:List α} {i:Nat}:((l.take i).filterMap g).length≤l.length:=by
 have h1:=List.length_filterMap_le g (l.take i)
 have h2:(l.take i).length≤l.length:=by simp;omega
 omega
theorem q80 {s:List Ty} {S:q00} {b1 b2:Nat} (I:IxS S b1 b2 s) {r:Rl} (hr:OkR r) (hn:r.refs.length≤1000000) (name:ByteArray) :
  AFunS PG nrx180 [ixP s b1 b2,.agg (rlC r),.str name] S (.sl 2 ((q5f s r.refs name).map nodeC)):=by
 refine wx180 ?_
 unfold Bx180
 (try simp only [rwp,hwR,zA,zB,zC,zD,zE,zF,zG,zH,zI,q0u])
 let g:Rf→Option (Nat×Nat):=fun f=>if f.rl=⟨#[]⟩ then (q0o s f.ty name).map fun q=>(q.1,q.2.1) else none
 refine LoopP.introS (fun p:Nat×AV=>[(0,ixP s b1 b2),(2,.str name),(7,p.2),(13,.sl 2 (r.refs.map rfC)),(14,.int .i64 r.refs.length),(15,.int .i64 p.1)])
  (fun p S'=>p.1≤r.refs.length∧Sub S S'∧LstN S S' 163 2 p.2 (((r.refs.take p.1).filterMap g).map nodeC)) (fun p=>r.refs.length-p.1) (0,.nils) ⟨by omega,Sub.refl S,.nil⟩ rfl ?_
 rintro ⟨i,v⟩ S1 ⟨hi,hs,hv⟩ k hk
 dsimp only at hi hv
 (try simp only [rwp,hwR,zA,zB,zC,zD,zE,zF,zG,zH,zI,C180_1])
 (refine q04 (fun hlt=>?_) (fun hlt=>?_)<;>(try simp only [hlc] at hlt))
 ·obtain ⟨f,hf⟩:=q0t hlt
  (try simp only [rwp,hwR,zA,zB,zC,zD,zE,zF,zG,zH,zI,hf,rfC])
  refine q1a (q1s (I.sub hs) f.ty name) ?_
  have htk:=take_fm (g:=g) hf
  have hle:=fm_le (g:=g) (l:=r.refs) (i:=i)
  (try simp only [rwp,hwR,zA,zB,zC,zD,zE,zF,zG,zH,zI,q1e,q6d])
  have skip:g f=none→k [(0,ixP s b1 b2),(2,.str name),(7,v),(13,.sl 2 (r.refs.map rfC)),(14,.int .i64 r.refs.length),(15,.int .i64 ((i:Int)+1))] S1:=fun hg=>by
   refine hk (i+1,v) S1 ⟨by dsimp only;omega,hs,?_⟩ (by dsimp only;omega)
   dsimp only
   rw [htk,hg]
   simpa using hv
  cases hq:q0o s f.ty name with
  | none=>
   (try simp only [rwp,hwR,zA,zB,zC,zD,zE,zF,zG,zH,zI,C180_2])
   (simp (disch:=omega) only [q08])
   exact q0a rfl (skip (by simp only [g,hq];split<;>rfl))
  | some q=>
   obtain ⟨a,b,q⟩:=q
   rw [q6c hq]
   (try simp only [rwp,hwR,zA,zB,zC,zD,zE,zF,zG,zH,zI,C180_2])
   (refine q04 (fun he=>?_) (fun he=>?_)<;>(try simp only [rwp,hwR,zA,zB,zC,zD,zE,zF,zG,zH,zI,he]))
   ·have hg:g f=some (a,b):=by simp only [g,hq];rw [if_pos (by simpa using he)];rfl
    refine hv.app hs (xs:=[nodeC (a,b)]) (fun r hr=>by simp at hr;subst hr;rfl) rfl (by simp only [List.length_map,List.length_cons,List.length_nil];omega) ?_
    intro v' S' h1 h2 _
    (simp (disch:=omega) only [q08])
    refine q0a rfl (hk (i+1,v') S' ⟨by dsimp only;omega,h1,?_⟩ (by dsimp only;omega))
    dsimp only
    rw [htk,hg]
    simpa using h2
   ·(simp (disch:=omega) only [q08])
    exact q0a rfl (skip (by simp only [g,hq];rw [if_neg (by simpa using he)]))
 ·have hend:r.refs.take i=r.refs:=List.take_of_length_le (by omega)
  rw [hend] at hv
  exact q6y hs hv ⟨rfl,rfl⟩
def atomF (s:List Ty) (t:ByteArray) (e:Ex):Int:=match q0o s t e.name with
 | none=>6
 | some (_,_,r)=>if e.kind=0 then 0 else if r.refs.length=0 then 10 else if (q5f s r.refs e.over).length=0 then 6 else 0
def OkN (s:List Ty):Prop:=∀ t∈s,∀ r∈t.rels,rsz r≤1000
theorem findF_mem {s:List Ty} {t n:ByteArray} {i k:Nat} {r:Rl} (h:q0o s t n=some (i,k,r)):∃ ty∈s,r∈ty.rels:=by
 obtain ⟨h1,ty,h2,h3,h4⟩:=q1u h
 exact ⟨ty,List.mem_of_getElem? h2,List.mem_of_getElem? h4⟩
theorem c_rules_atom {s:List Ty} (hs:OkS s) (hN:OkN s) {S:q00} {b1 b2:Nat} (I:IxS S b1 b2 s) (t:ByteArray) (e:Ex):AFunS PG nrx178 [ixP s b1 b2,.str t,.agg (exC e)] S (.int .i64 (atomF s t e)):=by
 refine wx178 ?_
 unfold Bx178
 (try simp only [rwp,hwR,zA,zB,zC,zD,zE,zF,zG,zH,zI,q0d])
 refine q1a (q1s I t e.name) ?_
 (try simp only [rwp,hwR,zA,zB,zC,zD,zE,zF,zG,zH,zI,q1e,q6d])
 cases hq:q0o s t e.name with
 | none=>
  (try simp only [rwp,hwR,zA,zB,zC,zD,zE,zF,zG,zH,zI])
  exact q03 ⟨by rw [atomF,hq],rfl⟩
 | some q=>
  obtain ⟨i,k,r⟩:=q
  obtain ⟨h1,ty,h2,h3,h4⟩:=q1u hq
  have hr:=(hs.at h2).at h4
  have hn:r.refs.length≤1000000:=by
   have:=hN ty (List.mem_of_getElem? h2) r (List.mem_of_getElem? h4)
   unfold rsz at this
   omega
  have key:atomF s t e=if e.kind=0 then 0 else if r.refs.length=0 then 10 else if (q5f s r.refs e.over).length=0 then 6 else 0:=by rw [atomF,hq]
  rw [q6c hq]
  (try simp only [rwp,hwR,zA,zB,zC,zD,zE,zF,zG,zH,zI])
  (refine q04 (fun he=>?_) (fun he=>?_)<;>(try simp only [hlc] at he))
  ·exact q03 ⟨by rw [key,if_pos he],rfl⟩
  refine q06 (q52 h2 h4) ?_
  (try simp only [rwp,hwR,zA,zB,zC,zD,zE,zF,zG,zH,zI,q0u])
  (refine q04 (fun hl=>?_) (fun hl=>?_)<;>(try simp only [hlc] at hl))
  ·exact q03 ⟨by rw [key,if_neg he,if_pos (by omega)],rfl⟩
  refine q06 (q52 h2 h4) ?_
  (try simp only [rwp,hwR,zA,zB,zC,zD,zE,zF,zG,zH,zI])
  refine q1a (q80 I hr hn e.over) ?_
  (try simp only [rwp,hwR,zA,zB,zC,zD,zE,zF,zG,zH,zI])
  (refine q04 (fun h0=>?_) (fun h0=>?_)<;>(try simp only [hlc] at h0))
  ·exact q03 ⟨by rw [key,if_neg he,if_neg (by omega),if_pos (by omega)],rfl⟩
  ·exact q03 ⟨by rw [key,if_neg he,if_neg (by omega),if_neg (by omega)],rfl⟩
def firstZ (f:Ex→Int):List (Ex×Bool)→Int
 | []=>0
 | (e,_) :: r=>if f e=0 then firstZ f r else f e
def refOkF (s:List Ty) (f:Rf):Bool:=(typF s f.ty).isSome&&(decide (f.rl=⟨#[]⟩)||(q0o s f.ty f.rl).isSome)
def q32 (s:List Ty) (t:ByteArray) (r:Rl):Int:=if r.refs.all (refOkF s) then (if r.refs.length=0 then firstZ (atomF s t) (q0s r.ex false) else 0) else 6
theorem c_rules_names_1 {s:List Ty} (hs:OkS s) (hN:OkN s) {S:q00} {b1 b2:Nat} (I:IxS S b1 b2 s) (t:ByteArray) (e:Ex) (o:Bool) {b:Nat} (hb:sget S b=none) (a:Int) :
  ACalls PG nrx177 [.agg (exC e),.bool o,.rop [ixP s b1 b2],.rop [.str t],.ptr b 0] (supd S b (.cells 30 [.int .i64 a] 1)) fun ae S'=>ae=.ret (.bool (decide (atomF s t e=0)))∧S'=supd S b (.cells 30 [.int .i64 (atomF s t e)] 1):=by
 refine wx177 ?_
 unfold Bx177
 (try simp only [rwp,hwR,zA,zB,zC,zD,zE,zF,zG,zH,zI,q0d])
 rw [← q0d]
 refine q1a ((c_rules_atom hs hN I t e).frame hb _) ?_
 (try simp only [rwp,hwR,zA,zB,zC,zD,zE,zF,zG,zH,zI])
 exact q03 ⟨rfl,rfl⟩
theorem foldA_first {f:Ex→Int}:∀ {l:List (Ex×Bool)} {a:Int},a=0→(q21 (fun (_:Int) e (_:Bool)=>(decide (f e=0),f e)) l a).2=firstZ f l
 | [],a,h=>h
 | (e,o) :: r,a,h=>by
  simp only [q21,firstZ]
  by_cases he:f e=0
  ·simp only [he,decide_true,if_true]
   exact foldA_first rfl
  ·simp only [he,decide_false,if_false]
theorem c_rules_names {s:List Ty} (hs:OkS s) (hN:OkN s) {S:q00} {b1 b2:Nat} (I:IxS S b1 b2 s) (t:ByteArray) {r:Rl} (hr:OkR r):AFunS PG nrx140 [ixP s b1 b2,.str t,.agg (rlC r)] S (.int .i64 (q32 s t r)):=by
 have hb:=hr.refs
 refine wx140 ?_
 unfold Bx140
 (try simp only [rwp,hwR,zA,zB,zC,zD,zE,zF,zG,zH,zI,q0u])
 intro b hbf
 (try simp only [rwp,hwR,zA,zB,zC,zD,zE,zF,zG,zH,zI])
 refine LoopP.intro (fun i:Nat=>[(3,.rop [ixP s b1 b2]),(4,.rop [.str t]),(5,.rop [.str r.name,.sl 2 (r.refs.map rfC),.int .i64 r.ex.kind,.str r.ex.name,.str r.ex.over,.sl 4 (r.ex.kids.map exC)]),(7,.ptr b 0),(15,.sl 2 (r.refs.map rfC)),(16,.int .i64 r.refs.length),(17,.int .i64 i)])
  (fun _=>supd S b (.cells 30 [.int .i64 0] 1)) (fun i=>i≤r.refs.length∧∀ j f,j<i→r.refs[j]?=some f→refOkF s f=true) (fun i=>r.refs.length-i) 0 ⟨by omega,by omega⟩ rfl (Sub.refl _) ?_
 rintro i ⟨hi,hn⟩ k hk
 (try simp only [rwp,hwR,zA,zB,zC,zD,zE,zF,zG,zH,zI,C140_1])
 (refine q04 (fun hlt=>?_) (fun hlt=>?_)<;>(try simp only [hlc] at hlt))
 ·obtain ⟨f,hf⟩:=q0t hlt
  have next:refOkF s f=true→k [(3,.rop [ixP s b1 b2]),(4,.rop [.str t]),(5,.rop [.str r.name,.sl 2 (r.refs.map rfC),.int .i64 r.ex.kind,.str r.ex.name,.str r.ex.over,.sl 4 (r.ex.kids.map exC)]),(7,.ptr b 0),(15,.sl 2 (r.refs.map rfC)),(16,.int .i64 r.refs.length),(17,.int .i64 ((i:Int)+1))] (supd S b (.cells 30 [.int .i64 0] 1)):=fun h=>by
   refine hk (i+1) ⟨by omega,fun j u hj hu=>?_⟩ (by omega)
   rcases Nat.lt_succ_iff_lt_or_eq.1 hj with h1 | rfl
   ·exact hn j u h1 hu
   ·rw [hf] at hu;cases hu;exact h
  have bad:refOkF s f=false→q32 s t r=6:=fun h=>by rw [q32,all_false hf h];rfl
  obtain ⟨B,J⟩:=I
  (try simp only [rwp,hwR,zA,zB,zC,zD,zE,zF,zG,zH,zI,hf,rfC])
  rw [(J.typs.fresh hbf _).lk q2e]
  have e1:∀ z:Prop,True:=fun _=>trivial
  refine (show ∀ x:Bool,x=(typF s f.ty).isSome→exW 0 (q1q true (.int .i64 0) ((typF s f.ty).map iv)) _ from ?_) _ rfl
  intro x hx
  have hv:∃ u,q1q true (.int .i64 0) ((typF s f.ty).map iv)=.tup [u,.bool x]:=by
   rw [hx]
   cases typF s f.ty with
   | none=>exact ⟨_,rfl⟩
   | some j=>exact ⟨_,rfl⟩
  obtain ⟨u,hu⟩:=hv
  rw [hu]
  (try simp only [rwp,hwR,zA,zB,zC,zD,zE,zF,zG,zH,zI])
  refine q1a ((q1s ⟨B,J⟩ f.ty f.rl).frame hbf _) ?_
  (try simp only [rwp,hwR,zA,zB,zC,zD,zE,zF,zG,zH,zI,q1e,q6d])
  have ea:refOkF s f=(x&&(decide (f.rl=⟨#[]⟩)||(q0o s f.ty f.rl).isSome)):=by rw [refOkF,hx]
  cases x<;>cases a2:decide (f.rl=⟨#[]⟩)<;>cases a3:(q0o s f.ty f.rl).isSome<;>rw [a2,a3] at ea <;>
   (try simp only [rwp,hwR,zA,zB,zC,zD,zE,zF,zG,zH,zI,C140_2,C140_3,C140_4,a2,a3]) <;>
   first
    | exact rtW_sub (Sub.fresh _ hbf) ⟨by rw [bad ea],rfl⟩
    | ((simp (disch:=omega) only [q08]);exact q0a rfl (next ea))
 ·have hall:r.refs.all (refOkF s)=true:=all_upto fun j f hj hf=>hn j f (by omega) hf
  (refine q04 (fun h0=>?_) (fun h0=>?_)<;>(try simp only [hlc] at h0))
  ·rw [← q0d]
   have hc:=q6h (fun (a:Int) S'=>S'=supd S b (.cells 30 [.int .i64 a] 1)) (fun (_:Int) e (_:Bool)=>(decide (atomF s t e=0),atomF s t e)) (g:=nrx177) (fi:=[]) (ca:=[.rop [ixP s b1 b2],.rop [.str t],.ptr b 0]) (q0s r.ex false) 0
    (fun l1 p l2 _ _ S' _ h=>by
     subst h
     exact c_rules_names_1 hs hN I t p.1 p.2 hbf _) r.ex hr.ex false [] [] (by simp) rfl _ rfl
   rw [List.nil_append] at hc
   refine q10 hc ?_
   rintro _ S' ⟨rfl,rfl⟩
   (try simp only [rwp,hwR,zA,zB,zC,zD,zE,zF,zG,zH,zI])
   refine rtW_sub (Sub.fresh _ hbf) ⟨?_,rfl⟩
   rw [q32,hall,if_pos rfl,if_pos (by omega),foldA_first rfl]
  ·refine rtW_sub (Sub.fresh _ hbf) ⟨?_,rfl⟩
   rw [q32,hall,if_pos rfl,if_neg (by omega)]
def q88 {α:Type} (f:α→Nat→Rl→Int×α):Nat→List Rl→α→Option (Nat×Int)×α
 | _,[],a=>(none,a)
 | k,r :: rs,a=>if (f a k r).1=0 then q88 f (k+1) rs (f a k r).2 else (some (k,(f a k r).1),(f a k r).2)
def q56 {α:Type} (f:α→Nat→Nat→Ty→Rl→Int×α):Nat→List Ty→α→Option (Nat×Nat×Int)×α
 | _,[],a=>(none,a)
 | i,t :: ts,a=>match q88 (fun a k r=>f a i k t r) 0 t.rels a with
  | (some (k,e),a')=>(some (i,k,e),a')
  | (none,a')=>q56 f (i+1) ts a'
def flA (t r e:Int):AV:=.agg [.int .i64 t,.int .i64 r,.int .i64 e]
def flO:Option (Nat×Nat×Int)→AV
 | some (i,k,e)=>flA i k e
 | none=>flA 0 0 0
theorem q4l {α:Type} (I:α→q00→Prop) (f:α→Nat→Nat→Ty→Rl→Int×α) {s:List Ty} (hs:OkS s) {b1 b2 g:Nat} {fi ca:List AV}
  (hcb:∀ i k t r a S,s[i]?=some t→t.rels[k]?=some r→I a S→ACalls PG g (fi++[q1e (i,k),.agg (tyC t),.agg (rlC r)]++ca) S fun ae S'=>ae=.ret (.int .i64 (f a i k t r).1)∧I (f a i k t r).2 S') (a0:α) (S:q00) (hI:I a0 S) :
  ACalls PG nrx94 [ixP s b1 b2,.func (.func g) fi ca] S fun ae S'=>ae=.ret (flO (q56 f 0 s a0).1)∧I (q56 f 0 s a0).2 S':=by
 have hb:=hs.types
 refine wx94 ?_
 unfold Bx94
 intro b hbf
 (try simp only [rwp,hwR,zA,zB,zC,zD,zE,zF,zG,zH,zI])
 refine LoopP.introS (fun p:Nat×α=>[(1,.func (.func g) fi ca),(4,.ptr b 0),(14,.sl 2 (s.map tyC)),(15,.int .i64 s.length),(16,.int .i64 p.1)])
  (fun p S'=>p.1≤s.length∧(∃ S1,S'=supd S1 b (.cells 88 [.int .i64 0,.int .i64 0,.int .i64 0] 3)∧sget S1 b=none∧I p.2 S1)∧q56 f p.1 (s.drop p.1) p.2=q56 f 0 s a0) (fun p=>s.length-p.1) (0,a0) ⟨by omega,⟨S,rfl,hbf,hI⟩,rfl⟩ rfl ?_
 rintro ⟨i,a⟩ _ ⟨hi,⟨S1,rfl,hb1,hI1⟩,hf⟩ q hq
 dsimp only at hi hf hI1
 (try simp only [rwp,hwR,zA,zB,zC,zD,zE,zF,zG,zH,zI,C94_1])
 (refine q04 (fun hlt=>?_) (fun hlt=>?_)<;>(try simp only [hlc] at hlt))
 ·obtain ⟨t,ht⟩:=q0t hlt
  have hok:=hs.at ht
  have hbt:=hok.rels
  rw [q0z ht,q56] at hf
  (try simp only [rwp,hwR,zA,zB,zC,zD,zE,zF,zG,zH,zI,ht,tyC])
  refine alst rfl ?_
  (try simp only [rwp,hwR,zA,zB,zC,zD,zE,zF,zG,zH,zI])
  refine LoopP.introS (fun p:Nat×α=>[(1,.func (.func g) fi ca),(4,.ptr b 0),(5,.int .i64 i),(6,.rop [.str t.name,.sl 6 (t.rels.map rlC)]),(14,.sl 2 (s.map tyC)),(15,.int .i64 s.length),(16,.int .i64 i),(22,.sl 6 (t.rels.map rlC)),(23,.int .i64 t.rels.length),(24,.int .i64 p.1)])
   (fun p S'=>p.1≤t.rels.length∧(∃ S1,S'=supd S1 b (.cells 88 [.int .i64 0,.int .i64 0,.int .i64 0] 3)∧sget S1 b=none∧I p.2 S1)∧q88 (fun a k r=>f a i k t r) p.1 (t.rels.drop p.1) p.2=q88 (fun a k r=>f a i k t r) 0 t.rels a) (fun p=>t.rels.length-p.1) (0,a) ⟨by omega,⟨S1,rfl,hb1,hI1⟩,rfl⟩ rfl ?_
  rintro ⟨k,a2⟩ _ ⟨hk,⟨S2,rfl,hb2,hI2⟩,hf2⟩ q2 hq2
  dsimp only at hk hf2 hI2
  (try simp only [rwp,hwR,zA,zB,zC,zD,zE,zF,zG,zH,zI,C94_2])
  (refine q04 (fun hlt2=>?_) (fun hlt2=>?_)<;>(try simp only [hlc] at hlt2))
  ·obtain ⟨r,hr⟩:=q0t hlt2
   rw [q0z hr,q88] at hf2
   (try simp only [rwp,hwR,zA,zB,zC,zD,zE,zF,zG,zH,zI,hr])
   refine alst rfl ?_
   (try simp only [rwp,hwR,zA,zB,zC,zD,zE,zF,zG,zH,zI,q0u])
   have h1:=ACalls.frame (hcb i k t r a2 S2 ht hr hI2) hb2 (.cells 88 [.int .i64 0,.int .i64 0,.int .i64 0] 3)
   simp only [q1e,q0u,tyC] at h1
   refine caW_ofv h1 ?_
   rintro _ S3 ⟨S4,⟨rfl,hI4⟩,hb4,rfl⟩
   (try simp only [rwp,hwR,zA,zB,zC,zD,zE,zF,zG,zH,zI])
   (refine q04 (fun he=>?_) (fun he=>?_)<;>(try simp only [hlc] at he))
   ·rw [if_neg he] at hf2
    rw [← hf2] at hf
    refine q1h S4 (Sub.fresh _ hb4) ?_
    (try simp only [rwp,hwR,zA,zB,zC,zD,zE,zF,zG,zH,zI])
    rw [← hf]
    exact ⟨rfl,hI4⟩
   ·rw [if_pos he] at hf2
    (simp (disch:=omega) only [q08])
    exact q0a rfl (hq2 (k+1,(f a2 i k t r).2) _ ⟨by dsimp only;omega,⟨S4,rfl,hb4,hI4⟩,hf2⟩ (by dsimp only;omega))
  ·rw [q2t hlt2,q88] at hf2
   rw [← hf2] at hf
   (simp (disch:=omega) only [q08])
   exact q0a rfl (hq (i+1,a2) _ ⟨by dsimp only;omega,⟨S2,rfl,hb2,hI2⟩,hf⟩ (by dsimp only;omega))
 ·rw [q2t hlt,q56] at hf
  (try simp only [rwp,hwR,zA,zB,zC,zD,zE,zF,zG,zH,zI])
  refine q1h S1 (Sub.fresh _ hb1) ?_
  (try simp only [rwp,hwR,zA,zB,zC,zD,zE,zF,zG,zH,zI])
  rw [← hf]
  exact ⟨rfl,hI1⟩
def q4j (s:List Ty) (f:Nat→Nat→Ty→Rl→Int):Option (Nat×Nat×Int):=(q56 (fun (_:Unit) i k t r=>(f i k t r,())) 0 s ()).1
theorem q3v {f:Nat→Nat→Ty→Rl→Int} {s:List Ty} (hs:OkS s) {b1 b2 g:Nat} {fi ca:List AV} {S:q00}
  (hcb:∀ i k t r,s[i]?=some t→t.rels[k]?=some r→AFunS PG g (fi++[q1e (i,k),.agg (tyC t),.agg (rlC r)]++ca) S (.int .i64 (f i k t r))) :
  AFunS PG nrx94 [ixP s b1 b2,.func (.func g) fi ca] S (flO (q4j s f)):=
 q4l (fun (_:Unit) S'=>S'=S) (fun _ i k t r=>(f i k t r,())) hs (fun i k t r a S' h1 h2 h=>by subst h;exact hcb i k t r h1 h2) () S rfl
def longI (s:List Ty):Option Nat:=q0k (fun t=>decide ((16:Int)<t.rels.length)) s
def dupB (ts:List Ty) (t:Ty):Bool:=(typF ts t.name).isSome
def dupI:List Ty→List Ty→Option Nat
 | _,[]=>none
 | ts,t :: r=>if dupB ts t then some ts.length else dupI (ts++[t]) r
def szF (s:List Ty):AV:=if (16:Int)<s.length then flA 0 (-1) 2 else match longI s with
 | some i=>flA i (-1) 2
 | none=>match dupI [] s with
  | some i=>flA i (-1) 7
  | none=>flA 0 0 0
theorem c_rules_sizes {s:List Ty} (hs:OkS s):AFun PG nrx137 [scA s] (szF s):=by
 intro S
 have hb:=hs.types
 refine wx137 ?_
 unfold Bx137
 (try simp only [rwp,hwR,zA,zB,zC,zD,zE,zF,zG,zH,zI,scA])
 intro b2 hb2
 (try simp only [rwp,hwR,zA,zB,zC,zD,zE,zF,zG,zH,zI])
 intro b3 hb3
 have hne:b2≠b3:=by
  rintro rfl
  rw [q01,if_pos rfl] at hb3
  cases hb3
 have hne':b3≠b2:=Ne.symm hne
 have hb3':sget S b3=none:=by rw [q01,if_neg hne] at hb3;exact hb3
 have hS2:Sub S (supd (supd S b2 (.cells 88 [.int .i64 0,.int .i64 0,.int .i64 0] 3)) b3 (.cells 88 [.int .i64 0,.int .i64 (-1),.int .i64 2] 3)):=(Sub.fresh _ hb2).supd hb3'
 (try simp only [rwp,hwR,zA,zB,zC,zD,zE,zF,zG,zH,zI,if_neg hne,if_neg hne'])
 (refine q04 (fun h1=>?_) (fun h1=>?_)<;>(try simp only [hlc] at h1))
 ·refine q1h S (hS2.supd hb2) ?_
  (try simp only [rwp,hwR,zA,zB,zC,zD,zE,zF,zG,zH,zI])
  rw [szF,if_pos h1];rfl
 refine LoopP.introS (fun i:Nat=>[(1,.rop [.sl 2 (s.map tyC)]),(2,.ptr b2 0),(3,.ptr b3 0),(14,.int .i64 s.length),(15,.int .i64 i)])
  (fun i S'=>i≤s.length∧Sub S S'∧q0f S' b2=some (88,[.int .i64 0,.int .i64 0,.int .i64 0],3)∧(∃ v:Int,q0f S' b3=some (88,[.int .i64 v,.int .i64 (-1),.int .i64 2],3))∧∀ j t,j<i→s[j]?=some t→decide ((16:Int)<t.rels.length)=false) (fun i=>s.length-i) 0
  ⟨by omega,hS2,by rw [q0e hne',q0g],⟨0,q0g⟩,by omega⟩ rfl ?_
 rintro i S1 ⟨hi,hs1,h2,⟨v,h3⟩,hn⟩ r hr
 (try simp only [rwp,hwR,zA,zB,zC,zD,zE,zF,zG,zH,zI,C137_1,h3])
 (refine q04 (fun hlt=>?_) (fun hlt=>?_)<;>(try simp only [hlc] at hlt))
 ·obtain ⟨t,ht⟩:=q0t hlt
  have hbt:=(hs.at ht).rels
  (try simp only [rwp,hwR,zA,zB,zC,zD,zE,zF,zG,zH,zI,ht,tyC])
  (refine q04 (fun hl=>?_) (fun hl=>?_)<;>(try simp only [hlc] at hl))
  ·(try simp only [rwp,hwR,zA,zB,zC,zD,zE,zF,zG,zH,zI,if_neg hne',h2])
   refine q1h S ((hs1.supd hb3').supd hb2) ?_
   (try simp only [rwp,hwR,zA,zB,zC,zD,zE,zF,zG,zH,zI])
   have:longI s=some i:=firstI_some.2 ⟨⟨t,ht,by simpa using hl⟩,hn⟩
   rw [szF,if_neg h1,this];rfl
  ·(simp (disch:=omega) only [q08])
   refine q0a rfl (hr (i+1) _ ⟨by omega,hs1.supd hb3',by rw [q0e hne'];exact h2,⟨_,q0g⟩,fun j u hj hu=>?_⟩ (by omega))
   rcases Nat.lt_succ_iff_lt_or_eq.1 hj with h | rfl
   ·exact hn j u h hu
   ·rw [ht] at hu;cases hu;simpa using hl
 ·have hln:longI s=none:=firstI_none.2 fun j u hu=>hn j u (by have:=(List.getElem?_eq_some_iff.1 hu).1;omega) hu
  have hs2:=hs1.supd (o:=.cells 88 [.int .i64 v,.int .i64 (-1),.int .i64 7] 3) hb3'
  have h2':q0f (supd S1 b3 (.cells 88 [.int .i64 v,.int .i64 (-1),.int .i64 7] 3)) b2=some (88,[.int .i64 0,.int .i64 0,.int .i64 0],3):=by rw [q0e hne'];exact h2
  have h3':q0f (supd S1 b3 (.cells 88 [.int .i64 v,.int .i64 (-1),.int .i64 7] 3)) b3=some (88,[.int .i64 v,.int .i64 (-1),.int .i64 7],3):=q0g
  clear h2 h3 hr r
  generalize supd S1 b3 (.cells 88 [.int .i64 v,.int .i64 (-1),.int .i64 7] 3)=S2 at hs2 h2' h3' ⊢
  refine KMap.mm (enc:=AV.str) fun b4 hb4 k4=>?_
  have d2:b4≠b2:=fun e=>q64 h2' (e ▸ hb4)
  have d3:b4≠b3:=fun e=>q64 h3' (e ▸ hb4)
  have hb4':=Sub.none hs2 hb4
  refine LoopP.introS (fun i:Nat=>[(1,.rop [.sl 2 (s.map tyC)]),(2,.ptr b2 0),(3,.ptr b3 0),(4,.map (some b4)),(34,.int .i64 s.length),(35,.int .i64 i)])
   (fun i S'=>i≤s.length∧Sub S S'∧q0f S' b2=some (88,[.int .i64 0,.int .i64 0,.int .i64 0],3)∧(∃ v:Int,q0f S' b3=some (88,[.int .i64 v,.int .i64 (-1),.int .i64 7],3)) ∧
    KMap MS AV.str S' b4 (fun n=>if (typF (s.take i) n).isSome then some (.bool true) else none)∧dupI [] s=dupI (s.take i) (s.drop i)) (fun i=>s.length-i) 0
   ⟨by omega,hs2.supd hb4',by rw [q0e d2];exact h2',⟨v,by rw [q0e d3];exact h3'⟩,k4,rfl⟩ rfl ?_
  clear k4 h2' h3' hs2 hb4
  rintro i S3 ⟨hi,hs3,h2,⟨v,h3⟩,hm,hd⟩ r hr
  (try simp only [rwp,hwR,zA,zB,zC,zD,zE,zF,zG,zH,zI,C137_2,h3])
  (refine q04 (fun hlt2=>?_) (fun hlt2=>?_)<;>(try simp only [hlc] at hlt2))
  ·obtain ⟨t,ht⟩:=q0t hlt2
   have hlen:(s.take i).length=i:=by simp;omega
   rw [q0z ht,dupI,hlen] at hd
   (try simp only [rwp,hwR,zA,zB,zC,zD,zE,zF,zG,zH,zI,ht,tyC])
   have hm':=hm.upd (Ne.symm d3) (.cells 88 [.int .i64 i,.int .i64 (-1),.int .i64 7] 3)
   rw [hm'.lk q2e]
   cases hq:(typF (s.take i) t.name).isSome with
   | true=>
    rw [show dupB (s.take i) t=true from hq,if_pos rfl] at hd
    (try simp only [rwp,hwR,zA,zB,zC,zD,zE,zF,zG,zH,zI,if_neg hne',h2,if_true])
    refine q1h S ((hs3.supd hb3').supd hb2) ?_
    (try simp only [rwp,hwR,zA,zB,zC,zD,zE,zF,zG,zH,zI])
    rw [szF,if_neg h1,hln,hd];rfl
   | false=>
    rw [show dupB (s.take i) t=false from hq,if_neg (by simp)] at hd
    (try simp only [rwp,hwR,zA,zB,zC,zD,zE,zF,zG,zH,zI,Bool.false_eq_true,if_false])
    refine hm'.mu q2e t.name fun es clk k=>?_
    (simp (disch:=omega) only [q08])
    refine q0a rfl (hr (i+1) _ ⟨by omega,(hs3.supd hb3').supd hb4',by rw [q0e d2,q0e hne'];exact h2,⟨i,by rw [q0e d3];exact q0g⟩,k.cong fun n=>?_,?_⟩ (by omega))
    ·rw [q14 ht,typF_snoc]
     by_cases hn:n=t.name
     ·subst hn
      cases h:typF (s.take i) t.name<;>simp
     ·simp only [if_neg hn,if_neg (Ne.symm hn)]
      cases typF (s.take i) n<;>rfl
    ·rw [q14 ht];exact hd
  ·rw [q2t hlt2,dupI] at hd
   (try simp only [rwp,hwR,zA,zB,zC,zD,zE,zF,zG,zH,zI,h2])
   refine q1h S (hs3.supd hb2) ?_
   (try simp only [rwp,hwR,zA,zB,zC,zD,zE,zF,zG,zH,zI])
   rw [szF,if_neg h1,hln,hd];rfl
def q7n (s:List Ty) (i k:Nat) (t:Ty) (r:Rl):Int:=if fiN s t.name r.name=(i,k) then 0 else 7
def errA:AV→Int
 | .agg [_,_,.int _ e]=>e
 | _=>0
def q3m (s:List Ty):AV:=
 if s.length=0∨scB s=false then flA 0 (-1) 1
 else if errA (szF s)≠0 then szF s
 else match q4j s (q7n s) with
  | some (i,k,e)=>flA i k e
  | none=>flO (q4j s fun _ _ t r=>q32 s t.name r)
theorem c_rules_plain_1 {s:List Ty} {S:q00} {b1 b2:Nat} (I:IxS S b1 b2 s) {i k:Nat} {t:Ty} {r:Rl}:AFunS PG nrx138 [q1e (i,k),.agg (tyC t),.agg (rlC r),.rop [ixP s b1 b2]] S (.int .i64 (q7n s i k t r)):=by
 refine wx138 ?_
 unfold Bx138
 (try simp only [rwp,hwR,zA,zB,zC,zD,zE,zF,zG,zH,zI,q1e,tyC,q0u])
 refine q1a (q1s I t.name r.name) ?_
 (try simp only [rwp,hwR,zA,zB,zC,zD,zE,zF,zG,zH,zI,q1e,eqW_def])
 have h1:∀ a b c d:Nat,(decide ((a:Int)=(b:Int))&&decide ((c:Int)=(d:Int)))=decide ((a,c)=(b,d)):=fun a b c d=>by
  rw [Bool.eq_iff_iff]
  simp only [Bool.and_eq_true,decide_eq_true_eq,Prod.mk.injEq]
  omega
 rw [h1]
 (refine q04 (fun h=>?_) (fun h=>?_)<;>(try simp only [hlc] at h))
 ·exact q03 ⟨by rw [q7n,if_neg (show ¬ fiN s t.name r.name=(i,k) from h)],rfl⟩
 ·exact q03 ⟨by rw [q7n,if_pos (show fiN s t.name r.name=(i,k) from h)],rfl⟩
theorem c_rules_plain_2 {s:List Ty} (hs:OkS s) (hN:OkN s) {S:q00} {b1 b2:Nat} (I:IxS S b1 b2 s) {i k:Nat} {t:Ty} {r:Rl} (hr:OkR r):AFunS PG nrx139 [q1e (i,k),.agg (tyC t),.agg (rlC r),.rop [ixP s b1 b2]] S (.int .i64 (q32 s t.name r)):=by
 refine wx139 ?_
 unfold Bx139
 (try simp only [rwp,hwR,zA,zB,zC,zD,zE,zF,zG,zH,zI,q1e,tyC,q0u])
 rw [← q0u]
 refine q1a (c_rules_names hs hN I t.name hr) ?_
 exact q03 ⟨rfl,rfl⟩
theorem szF_fl (s:List Ty):∃ t r e,szF s=flA t r e:=by
 unfold szF
 split
 ·exact ⟨_,_,_,rfl⟩
 ·split
  ·exact ⟨_,_,_,rfl⟩
  ·split
   ·exact ⟨_,_,_,rfl⟩
   ·exact ⟨_,_,_,rfl⟩
theorem eachR_err {α:Type} {f:α→Nat→Rl→Int×α}:∀ {l:List Rl} {k:Nat} {a:α} {q:Nat×Int},(q88 f k l a).1=some q→q.2≠0
 | [],k,a,q,h=>by cases h
 | r :: l,k,a,q,h=>by
  unfold q88 at h
  split at h
  ·exact eachR_err h
  ·cases h;assumption
theorem eachT_err {α:Type} {f:α→Nat→Nat→Ty→Rl→Int×α}:∀ {l:List Ty} {i:Nat} {a:α} {q:Nat×Nat×Int},(q56 f i l a).1=some q→q.2.2≠0
 | [],i,a,q,h=>by cases h
 | t :: l,i,a,q,h=>by
  unfold q56 at h
  split at h
  ·rename_i k e a' hq
   cases h
   exact eachR_err (q:=(k,e)) (by rw [hq])
  ·exact eachT_err h
theorem q6f {f:Nat→Nat→Ty→Rl→Int} {s:List Ty} {q:Nat×Nat×Int} (h:q4j s f=some q):q.2.2≠0:=eachT_err h
theorem c_rules_plain {s:List Ty} (hs:OkS s) (hN:OkN s) {S:q00} {b1 b2:Nat} (I:IxS S b1 b2 s):AFunS PG nrx92 [ixP s b1 b2] S (q3m s):=by
 refine wx92 ?_
 unfold Bx92
 (try simp only [rwp,hwR,zA,zB,zC,zD,zE,zF,zG,zH,zI])
 intro b hb
 (try simp only [rwp,hwR,zA,zB,zC,zD,zE,zF,zG,zH,zI])
 have low:∀ v,v=(decide (s.length=0)||!scB s)→C92_1 (fun ae S'=>ae=.ret (q3m s)∧S'=S) (.rop [ixP s b1 b2]) (.ptr b 0) (.bool v) (supd S b (.cells 88 [.int .i64 0,.int .i64 0,.int .i64 0] 3)):=by
  intro v hv
  unfold C92_1
  cases v with
  | true=>
   have h:s.length=0∨scB s=false:=by
    have:=hv.symm
    simpa using this
   (try simp only [rwp,hwR,zA,zB,zC,zD,zE,zF,zG,zH,zI])
   refine q1h S (Sub.fresh _ hb) ?_
   (try simp only [rwp,hwR,zA,zB,zC,zD,zE,zF,zG,zH,zI])
   rw [q3m,if_pos h];rfl
  | false=>
   have h:¬ (s.length=0∨scB s=false):=by
    have:=hv.symm
    simpa using this
   (try simp only [rwp,hwR,zA,zB,zC,zD,zE,zF,zG,zH,zI])
   refine q06 (c_rules_sizes hs) ?_
   obtain ⟨ft,fr,fe,hsz⟩:=szF_fl s
   rw [hsz]
   (try simp only [rwp,hwR,zA,zB,zC,zD,zE,zF,zG,zH,zI,flA])
   intro b3 hb3
   have hne:b≠b3:=by
    rintro rfl
    rw [q01,if_pos rfl] at hb3
    cases hb3
   have hne':b3≠b:=Ne.symm hne
   have hb3':sget S b3=none:=by rw [q01,if_neg hne] at hb3;exact hb3
   (try simp only [rwp,hwR,zA,zB,zC,zD,zE,zF,zG,zH,zI,if_neg hne,if_neg hne',C92_2,C92_3])
   have key:q3m s=if fe≠0 then flA ft fr fe else match q4j s (q7n s) with
     | some (i,k,e)=>flA i k e
     | none=>flO (q4j s fun _ _ t r=>q32 s t.name r):=by
    rw [q3m,if_neg h,hsz];rfl
   have ret:∀ x y z:Int,q3m s=flA x y z→rtW [.cell (.ptr b 0) 3 true] (fun ae S'=>ae=.ret (q3m s)∧S'=S) (supd (supd (supd S b (.cells 88 [.int .i64 0,.int .i64 0,.int .i64 0] 3)) b3 (.cells 88 [.int .i64 x,.int .i64 y,.int .i64 z] 3)) b (.cells 88 [.int .i64 x,.int .i64 y,.int .i64 z] 3)):=by
    intro x y z hp
    refine q1h S (((Sub.fresh _ hb).supd hb3').supd hb) ?_
    (try simp only [rwp,hwR,zA,zB,zC,zD,zE,zF,zG,zH,zI])
    rw [hp];rfl
   have fr2:∀ {f:Nat} {args:List AV} {u:AV} {x y z:Int},AFunS PG f args S u→AFunS PG f args (supd (supd S b (.cells 88 [.int .i64 0,.int .i64 0,.int .i64 0] 3)) b3 (.cells 88 [.int .i64 x,.int .i64 y,.int .i64 z] 3)) u:=fun h=>(h.frame hb _).frame hb3 _
   (refine q04 (fun h0=>?_) (fun h0=>?_)<;>(try simp only [hlc] at h0))
   ·subst h0
    rw [if_neg (by simp)] at key
    have h1:=q3v (b1:=b1) (b2:=b2) (g:=nrx138) (fi:=[]) (ca:=[.rop [ixP s b1 b2]]) (f:=q7n s) hs (S:=S) fun i k t r ht hr=>c_rules_plain_1 I
    refine q1a (fr2 h1) ?_
    cases hq:q4j s (q7n s) with
    | some q=>
     obtain ⟨i,k,e⟩:=q
     have he:=q6f hq
     rw [hq] at key
     dsimp only at key he
     (try simp only [rwp,hwR,zA,zB,zC,zD,zE,zF,zG,zH,zI,flO,flA,if_neg hne,if_neg hne'])
     (refine q04 (fun h2=>?_) (fun h2=>?_)<;>(try simp only [hlc] at h2))
     ·exact absurd h2 he
     ·exact ret _ _ _ key
    | none=>
     rw [hq] at key
     dsimp only at key
     (try simp only [rwp,hwR,zA,zB,zC,zD,zE,zF,zG,zH,zI,flO,flA,if_neg hne,if_neg hne',decide_true])
     have h2:=q3v (b1:=b1) (b2:=b2) (g:=nrx139) (fi:=[]) (ca:=[.rop [ixP s b1 b2]]) (f:=fun _ _ t r=>q32 s t.name r) hs (S:=S) fun i k t r ht hr=>c_rules_plain_2 hs hN I ((hs.at ht).at hr)
     refine q1a (fr2 h2) ?_
     cases hq2:q4j s (fun _ _ t r=>q32 s t.name r) with
     | some q=>
      obtain ⟨i,k,e⟩:=q
      rw [hq2] at key
      (try simp only [rwp,hwR,zA,zB,zC,zD,zE,zF,zG,zH,zI,flO,flA,if_neg hne,if_neg hne'])
      exact ret _ _ _ key
     | none=>
      rw [hq2] at key
      (try simp only [rwp,hwR,zA,zB,zC,zD,zE,zF,zG,zH,zI,flO,flA,if_neg hne,if_neg hne'])
      exact ret _ _ _ key
   ·rw [if_pos h0] at key
    (refine q04 (fun h00=>?_) (fun h00=>?_)<;>(try simp only [hlc] at h00))
    ·exact absurd h00 h0
    ·exact ret _ _ _ key
 (refine q20 (fun hg=>?_) (fun hg=>?_)<;>(try simp only [rwp,hwR,zA,zB,zC,zD,zE,zF,zG,zH,zI,hg]))
 ·refine q06 (c_lang_May hs) ?_
  (try simp only [rwp,hwR,zA,zB,zC,zD,zE,zF,zG,zH,zI])
  exact low _ (by rw [show decide (s.length=0)=decide ((s.length:Int)=0) from by simp,hg];rfl)
 ·exact low _ (by rw [show decide (s.length=0)=decide ((s.length:Int)=0) from by simp,hg];rfl)
abbrev Ln:Type:=(Nat×Nat)×Bool
def q5h (n:Ln):List AV:=[.int .i64 n.1.1,.int .i64 n.1.2,.bool n.2]
def q3t (s:List Ty) (t:ByteArray) (e:Ex) (o:Bool):List Ln:=match q0o s t e.name with
 | none=>[]
 | some (i,k,r)=>((i,k),o) :: (if e.kind=1 then (q5f s r.refs e.over).map fun p=>(p,o) else [])
def q2p (s:List Ty) (f:Rf):Option Ln:=if f.rl=⟨#[]⟩ then none else (q0o s f.ty f.rl).map fun q=>((q.1,q.2.1),false)
def q1j (s:List Ty) (t:ByteArray) (r:Rl):List Ln:=if r.refs.length=0 then (q0s r.ex false).flatMap fun p=>q3t s t p.1 p.2 else r.refs.filterMap (q2p s)
def LI (S S':q00) (b:Nat) (rows:List (List AV)):Prop:=Sub S S'∧∃ v,q0f S' b=some (224,[v],1)∧q0l v b∧LstN S S' 227 3 v rows
theorem LI.app {S S':q00} {b:Nat} {rows:List (List AV)} {v:AV} {K:q00→Prop} (hb:sget S b=none) (hs:Sub S S') (hv:q0f S' b=some (224,[v],1)) (ha:q0l v b) (hl:LstN S S' 227 3 v rows) {new:List AV} (hn:new.length=3) (ho:ones new=true)
  (hlen:rows.length≤4000000) (hK:∀ S2,LI S S2 b (rows++[new])→K S2):apW S' 227 3 24 v (.sl 3 [new]) fun v' S1=>soW (q0f S1 b) S1 1 b 0 v' K:=by
 refine hl.app hs (xs:=[new]) (fun r hr=>by simp at hr;subst hr;exact hn) (by simpa using ho) (by simp only [List.length_cons,List.length_nil];omega) ?_
 intro v' S1 h1 h2 h3
 obtain ⟨k1,k2⟩:=h3 b _ (objAt_some.1 hv) ha
 rw [objAt_some.2 k1,soW_one h2.one]
 exact hK _ ⟨h1.supd hb,v',q0g,k2,h2.upd k2 _⟩
mutual
theorem q73:∀ (e:Ex) (o:Bool),(q0s e o).length≤esz e
 | .mk k n o' ks,o=>by
  unfold q0s esz
  split
  ·simp
  ·have:=leavesL_le ks k 0 o
   omega
theorem leavesL_le:∀ (l:List Ex) (k:Int) (i:Nat) (o:Bool),(q2i k i l o).length≤eszL l
 | [],k,i,o=>by simp [q2i,eszL]
 | e :: r,k,i,o=>by
  have h1:=q73 e (o||(decide (k=4)&&decide ((i:Int)=1)))
  have h2:=leavesL_le r k (i+1) o
  simp only [q2i,eszL,List.length_append]
  omega
end
theorem overF_le {s:List Ty} {refs:List Rf} {n:ByteArray}:(q5f s refs n).length≤refs.length:=List.length_filterMap_le _ _
theorem leafF_le {s:List Ty} (hN:OkN s) {t:ByteArray} {e:Ex} {o:Bool}:(q3t s t e o).length≤1001:=by
 unfold q3t
 split
 ·simp
 ·rename_i i k r hq
  obtain ⟨ty,h1,h2⟩:=findF_mem hq
  have h3:=hN ty h1 r h2
  have h4:=overF_le (s:=s) (refs:=r.refs) (n:=e.over)
  unfold rsz at h3
  simp only [List.length_cons]
  split
  ·simp only [List.length_map];omega
  ·simp
theorem flat_le {α β:Type} {f:α→List β} {n:Nat} (h:∀ x,(f x).length≤n):∀ {l:List α},(l.flatMap f).length≤l.length * n
 | []=>by simp
 | x :: l=>by
  have:=flat_le h (l:=l)
  have:=h x
  simp only [List.flatMap_cons,List.length_append,List.length_cons,Nat.succ_mul]
  omega
theorem q5j {s:List Ty} {t:ByteArray}:∀ {l:List (Ex×Bool)} {a:List Ln},q21 (fun (a:List Ln) e o=>(true,a++q3t s t e o)) l a=(true,a++l.flatMap fun p=>q3t s t p.1 p.2)
 | [],a=>by simp [q21]
 | (e,o) :: r,a=>by
  simp only [q21]
  rw [q5j]
  simp [List.flatMap_cons]
theorem c_rules_leans_1 {s:List Ty} (hs:OkS s) (hN:OkN s) {S:q00} {b1 b2:Nat} (I:IxS S b1 b2 s) {t:Ty} {e:Ex} {o:Bool} {b:Nat} (hb:sget S b=none) {a:List Ln} (hlen:a.length≤2000000) (hf:(q0o s t.name e.name).isSome=true) {S':q00} (hI:LI S S' b (a.map q5h)) :
  ACalls PG nrx179 [.agg (exC e),.bool o,.rop [ixP s b1 b2],.rop (tyC t),.ptr b 0] S' fun ae S2=>ae=.ret (.bool true)∧LI S S2 b ((a++q3t s t.name e o).map q5h):=by
 cases hq:q0o s t.name e.name with
 | none=>rw [hq] at hf;cases hf
 | some q=>
  obtain ⟨i,k,r⟩:=q
  obtain ⟨h1,ty,h2,h3,h4⟩:=q1u hq
  have hr:=(hs.at h2).at h4
  have hn0:=hN ty (List.mem_of_getElem? h2) r (List.mem_of_getElem? h4)
  have hn:r.refs.length≤1000000:=by unfold rsz at hn0;omega
  refine wx179 ?_
  unfold Bx179
  obtain ⟨hs',v,hv,ha,hl⟩:=hI
  (try simp only [rwp,hwR,zA,zB,zC,zD,zE,zF,zG,zH,zI,q0d,tyC])
  refine q1a (q1s (I.sub hs') t.name e.name) ?_
  rw [q6c hq]
  (try simp only [rwp,hwR,zA,zB,zC,zD,zE,zF,zG,zH,zI,q1e,q07 hv])
  refine LI.app hb hs' hv ha hl (new:=q5h ((i,k),o)) rfl rfl (by simp;omega) ?_
  clear hv ha hl hs' S'
  intro S1 hI1
  (refine q04 (fun he=>?_) (fun he=>?_)<;>(try simp only [hlc] at he))
  ·refine q06 (q52 h2 h4) ?_
   (try simp only [rwp,hwR,zA,zB,zC,zD,zE,zF,zG,zH,zI])
   refine q1a (q80 (I.sub hI1.1) hr hn e.over) ?_
   (try simp only [rwp,hwR,zA,zB,zC,zD,zE,zF,zG,zH,zI])
   have hov:(q5f s r.refs e.over).length≤1000:=by
    have:=overF_le (s:=s) (refs:=r.refs) (n:=e.over)
    unfold rsz at hn0
    omega
   refine LoopP.introS (fun j:Nat=>[(1,.bool o),(4,.ptr b 0),(36,.sl 2 ((q5f s r.refs e.over).map nodeC)),(37,.int .i64 (q5f s r.refs e.over).length),(38,.int .i64 j)])
    (fun j S'=>j≤(q5f s r.refs e.over).length∧LI S S' b ((a++((i,k),o) :: ((q5f s r.refs e.over).take j).map fun p=>(p,o)).map q5h)) (fun j=>(q5f s r.refs e.over).length-j) 0 ⟨by omega,by simpa using hI1⟩ rfl ?_
   rintro j S2 ⟨hj,hI2⟩ w hw
   (try simp only [rwp,hwR,zA,zB,zC,zD,zE,zF,zG,zH,zI,C179_1])
   (refine q04 (fun hlt=>?_) (fun hlt=>?_)<;>(try simp only [hlc] at hlt))
   ·obtain ⟨p,hp⟩:=q0t hlt
    obtain ⟨hs2,v2,hv2,ha2,hl2⟩:=hI2
    (try simp only [rwp,hwR,zA,zB,zC,zD,zE,zF,zG,zH,zI,hp,nodeC,q07 hv2])
    refine LI.app hb hs2 hv2 ha2 hl2 (new:=q5h (p,o)) rfl rfl (by simp;omega) ?_
    intro S3 hI3
    (simp (disch:=omega) only [q08])
    refine q0a rfl (hw (j+1) S3 ⟨by omega,?_⟩ (by omega))
    rw [q14 hp]
    simpa using hI3
   ·have hend:(q5f s r.refs e.over).take j=q5f s r.refs e.over:=List.take_of_length_le (by omega)
    rw [hend] at hI2
    refine q03 ⟨rfl,?_⟩
    rw [q3t,hq]
    simpa [he] using hI2
  ·refine q03 ⟨rfl,?_⟩
   rw [q3t,hq]
   simpa [he] using hI1
theorem c_rules_leans {s:List Ty} (hs:OkS s) (hN:OkN s) {S:q00} {b1 b2:Nat} (I:IxS S b1 b2 s) {t:Ty} {r:Rl} (hr:OkR r) (hrs:rsz r≤1000) (hf:r.refs.length=0→∀ p∈q0s r.ex false,(q0o s t.name p.1.name).isSome=true) :
  AFunS PG nrx142 [ixP s b1 b2,.agg (tyC t),.agg (rlC r)] S (.sl 3 ((q1j s t.name r).map q5h)):=by
 have hn:r.refs.length≤1000:=by unfold rsz at hrs;omega
 refine wx142 ?_
 unfold Bx142
 (try simp only [rwp,hwR,zA,zB,zC,zD,zE,zF,zG,zH,zI,tyC,q0u])
 intro b hb
 refine LoopP.introS (fun j:Nat=>[(3,.rop [ixP s b1 b2]),(4,.rop (tyC t)),(5,.rop [.str r.name,.sl 2 (r.refs.map rfC),.int .i64 r.ex.kind,.str r.ex.name,.str r.ex.over,.sl 4 (r.ex.kids.map exC)]),(7,.ptr b 0),(13,.sl 2 (r.refs.map rfC)),(14,.int .i64 r.refs.length),(15,.int .i64 j)])
  (fun j S'=>j≤r.refs.length∧LI S S' b (((r.refs.take j).filterMap (q2p s)).map q5h)) (fun j=>r.refs.length-j) 0
  ⟨by omega,Sub.fresh _ hb,.nils,q0g,fun _ _ _ _ h=>(by cases h),.nil⟩ rfl ?_
 rintro j S1 ⟨hj,hI⟩ q hq
 (try simp only [rwp,hwR,zA,zB,zC,zD,zE,zF,zG,zH,zI,C142_1])
 (refine q04 (fun hlt=>?_) (fun hlt=>?_)<;>(try simp only [hlc] at hlt))
 ·obtain ⟨f,hfj⟩:=q0t hlt
  have htk:=take_fm (g:=q2p s) hfj
  have hle:=fm_le (g:=q2p s) (l:=r.refs) (i:=j)
  (try simp only [rwp,hwR,zA,zB,zC,zD,zE,zF,zG,zH,zI,hfj,rfC])
  refine q1a (q1s (I.sub hI.1) f.ty f.rl) ?_
  (try simp only [rwp,hwR,zA,zB,zC,zD,zE,zF,zG,zH,zI,q1e,q6d])
  have skip:q2p s f=none→q [(3,.rop [ixP s b1 b2]),(4,.rop (tyC t)),(5,.rop [.str r.name,.sl 2 (r.refs.map rfC),.int .i64 r.ex.kind,.str r.ex.name,.str r.ex.over,.sl 4 (r.ex.kids.map exC)]),(7,.ptr b 0),(13,.sl 2 (r.refs.map rfC)),(14,.int .i64 r.refs.length),(15,.int .i64 ((j:Int)+1))] S1:=fun h=>by
   refine hq (j+1) S1 ⟨by omega,?_⟩ (by omega)
   rw [htk,h]
   simpa using hI
  cases hg:q0o s f.ty f.rl with
  | none=>
   (try simp only [rwp,hwR,zA,zB,zC,zD,zE,zF,zG,zH,zI,C142_2])
   (simp (disch:=omega) only [q08])
   exact q0a rfl (skip (by simp only [q2p,hg];split<;>rfl))
  | some w=>
   obtain ⟨i,k,w⟩:=w
   rw [q6c hg]
   (try simp only [rwp,hwR,zA,zB,zC,zD,zE,zF,zG,zH,zI,C142_2])
   (refine q04 (fun he=>?_) (fun he=>?_)<;>(try simp only [rwp,hwR,zA,zB,zC,zD,zE,zF,zG,zH,zI,he]))
   ·have he':¬ f.rl=⟨#[]⟩:=by simpa using he
    have hgf:q2p s f=some ((i,k),false):=by simp only [q2p,hg];rw [if_neg he'];rfl
    obtain ⟨hs1,v,hv,ha,hl⟩:=hI
    (try simp only [rwp,hwR,zA,zB,zC,zD,zE,zF,zG,zH,zI,q07 hv])
    refine LI.app hb hs1 hv ha hl (new:=q5h ((i,k),false)) rfl rfl (by simp only [List.length_map];omega) ?_
    intro S2 hI2
    (simp (disch:=omega) only [q08])
    refine q0a rfl (hq (j+1) S2 ⟨by omega,?_⟩ (by omega))
    rw [htk,hgf]
    simpa using hI2
   ·(simp (disch:=omega) only [q08])
    exact q0a rfl (skip (by simp only [q2p,hg];rw [if_pos (by simpa using he)]))
 ·have hend:r.refs.take j=r.refs:=List.take_of_length_le (by omega)
  rw [hend] at hI
  (refine q04 (fun h0=>?_) (fun h0=>?_)<;>(try simp only [hlc] at h0))
  ·obtain ⟨hs1,v,hv,ha,hl⟩:=hI
   (try simp only [rwp,hwR,zA,zB,zC,zD,zE,zF,zG,zH,zI,q07 hv])
   refine q6y hs1 hl ⟨?_,rfl⟩
   rw [q1j,if_neg (by omega)]
  ·have h00:r.refs.length=0:=by omega
   have hnil:r.refs=[]:=List.length_eq_zero_iff.1 h00
   rw [hnil] at hI
   have hI:LI S S1 b (([]:List Ln).map q5h):=hI
   rw [← q0d]
   have hc:=q6h (fun (a:List Ln) S'=>LI S S' b (a.map q5h)) (fun (a:List Ln) e o=>(true,a++q3t s t.name e o)) (g:=nrx179) (fi:=[]) (ca:=[.rop [ixP s b1 b2],.rop (tyC t),.ptr b 0]) (q0s r.ex false) []
    (fun l1 p l2 hT _ S' _ hI'=>by
     rw [q5j] at hI' ⊢
     have hl1:l1.length≤1000:=by
      have h1:=q73 r.ex false
      rw [hT] at h1
      simp only [List.length_append] at h1
      unfold rsz at hrs
      omega
     have hl2:=flat_le (f:=fun p:Ex×Bool=>q3t s t.name p.1 p.2) (n:=1001) (fun _=>leafF_le hN) (l:=l1)
     exact c_rules_leans_1 hs hN I hb (by simp only [List.nil_append];omega) (hf h00 p (by rw [hT];simp)) hI') r.ex hr.ex false [] [] (by simp) rfl S1 hI
   rw [List.nil_append,q5j] at hc
   refine q10 hc ?_
   rintro _ S2 ⟨rfl,hs2,v,hv,ha,hl⟩
   (try simp only [rwp,hwR,zA,zB,zC,zD,zE,zF,zG,zH,zI,q07 hv])
   refine q6y hs2 hl ⟨?_,rfl⟩
   rw [q1j,if_pos h00,List.nil_append]
abbrev Lv:Type:=List (List Nat)
def getL (lv:Lv) (p:Nat×Nat):Nat:=(((lv[p.1]?).getD [])[p.2]?).getD 0
def setL (lv:Lv) (p:Nat×Nat) (v:Nat):Lv:=lv.set p.1 (((lv[p.1]?).getD []).set p.2 v)
abbrev Rw:Type:=(Nat×Nat)×List Ln
def q42 (s:List Ty) (i:Nat) (tn:ByteArray):Nat→List Rl→List Rw
 | _,[]=>[]
 | k,r :: rs=>((i,k),q1j s tn r) :: q42 s i tn (k+1) rs
def q5y (s:List Ty):Nat→List Ty→List Rw
 | _,[]=>[]
 | i,t :: ts=>q42 s i t.name 0 t.rels++q5y s (i+1) ts
def q38 (s:List Ty):List Rw:=q5y s 0 s
def q0y (N:Nat) (n:Nat×Nat):List Ln→Lv×Bool→Lv×Bool
 | [],a=>a
 | l :: r,a=>if getL a.1 n<getL a.1 l.1+l.2.toNat∧getL a.1 n≤N then q0y N n r (setL a.1 n (getL a.1 l.1+l.2.toNat),true) else q0y N n r a
def q1k (N:Nat):List Rw→Lv×Bool→Lv×Bool
 | [],a=>a
 | w :: r,a=>q1k N r (q0y N w.1 w.2 a)
def q69 (N:Nat) (w:List Rw):Nat→Lv→Lv
 | 0,lv=>lv
 | f+1,lv=>if (q1k N w (lv,false)).2=true then q69 N w f (q1k N w (lv,false)).1 else (q1k N w (lv,false)).1
def zeroL (s:List Ty):Lv:=s.map fun t=>List.replicate t.rels.length 0
def q0p (s:List Ty):Nat:=(s.map fun t=>t.rels.length).sum
def levF (s:List Ty):Lv:=q69 (q0p s) (q38 s) 70000 (zeroL s)
def Shp (lv:Lv) (s:List Ty):Prop:=lv.map List.length=s.map fun t=>t.rels.length
def In (lv:Lv) (p:Nat×Nat):Prop:=∃ l,lv[p.1]?=some l∧p.2<l.length
theorem q5x (s:List Ty):Shp (zeroL s) s:=by
 unfold Shp zeroL
 rw [List.map_map]
 exact List.map_congr_left fun t ht=>by simp
theorem setL_len {lv:Lv} {p:Nat×Nat} {v:Nat}:(setL lv p v).map List.length=lv.map List.length:=by
 apply List.ext_getElem?
 intro i
 unfold setL
 rw [List.getElem?_map,List.getElem?_map,List.getElem?_set]
 by_cases h:p.1=i
 ·subst h
  simp only [if_true]
  cases hl:lv[p.1]? with
  | none=>
   have:=List.getElem?_eq_none_iff.1 hl
   rw [if_neg (by omega)]
  | some l=>
   have:=(List.getElem?_eq_some_iff.1 hl).1
   rw [if_pos this]
   simp
 ·rw [if_neg h]
theorem shp_set {lv:Lv} {s:List Ty} (h:Shp lv s) (p:Nat×Nat) (v:Nat):Shp (setL lv p v) s:=by
 unfold Shp
 rw [setL_len]
 exact h
theorem in_of {lv:Lv} {s:List Ty} (h:Shp lv s) {i k:Nat} {t:Ty} (ht:s[i]?=some t) (hk:k<t.rels.length):In lv (i,k):=by
 have h1:=congrArg (fun l=>l[i]?) h
 simp only [List.getElem?_map,ht,Option.map_some] at h1
 cases hl:lv[i]? with
 | none=>rw [hl] at h1;cases h1
 | some l=>
  rw [hl] at h1
  simp only [Option.map_some,Option.some.injEq] at h1
  exact ⟨l,hl,by dsimp only;omega⟩
theorem in_set {lv:Lv} {p q:Nat×Nat} {v:Nat} (h:In lv q):In (setL lv p v) q:=by
 obtain ⟨l,h1,h2⟩:=h
 unfold In setL
 rw [List.getElem?_set]
 by_cases hp:p.1=q.1
 ·rw [if_pos hp,if_pos (by have:=(List.getElem?_eq_some_iff.1 h1).1;omega),hp,h1]
  exact ⟨_,rfl,by simpa using h2⟩
 ·rw [if_neg hp];exact ⟨l,h1,h2⟩
theorem getL_set {lv:Lv} {p q:Nat×Nat} {v:Nat} (h:In lv p):getL (setL lv p v) q=if q=p then v else getL lv q:=by
 obtain ⟨l,h1,h2⟩:=h
 have h3:=(List.getElem?_eq_some_iff.1 h1).1
 unfold getL setL
 rw [List.getElem?_set]
 obtain ⟨a,b⟩:=p
 obtain ⟨c,d⟩:=q
 dsimp only at h1 h2 h3 ⊢
 by_cases hac:a=c
 ·subst hac
  rw [if_pos rfl,if_pos h3,h1]
  simp only [Option.getD_some]
  rw [List.getElem?_set]
  by_cases hbd:b=d
  ·subst hbd;simp [h2]
  ·rw [if_neg hbd,if_neg (by rw [Prod.mk.injEq];omega)]
 ·rw [if_neg hac,if_neg (by rw [Prod.mk.injEq];omega)]
def phiR (N:Nat) (l:List Nat):Nat:=(l.map fun v=>min v (N+1)).sum
def phi (N:Nat) (lv:Lv):Nat:=(lv.map (phiR N)).sum
theorem sum_set:∀ {l:List Nat} {i:Nat} {u v:Nat},l[i]?=some u→(l.set i v).sum+u=l.sum+v
 | [],i,u,v,h=>by simp at h
 | x :: l,0,u,v,h=>by simp at h;subst h;simp only [List.set_cons_zero,List.sum_cons];omega
 | x :: l,i+1,u,v,h=>by
  simp at h
  have:=sum_set (v:=v) h
  simp only [List.set_cons_succ,List.sum_cons]
  omega
theorem phi_set {N:Nat} {lv:Lv} {p:Nat×Nat} {v:Nat} (h:In lv p):phi N (setL lv p v)+min (getL lv p) (N+1)=phi N lv+min v (N+1):=by
 obtain ⟨l,h1,h2⟩:=h
 have e1:getL lv p=l[p.2]:=by
  unfold getL
  rw [h1]
  simp [List.getElem?_eq_getElem h2]
 have h3:(l.map fun v=>min v (N+1))[p.2]?=some (min l[p.2] (N+1)):=by simp [List.getElem?_eq_getElem h2]
 have h4:=sum_set (v:=min v (N+1)) h3
 have h5:(lv.map (phiR N))[p.1]?=some (phiR N l):=by rw [List.getElem?_map,h1];rfl
 have h6:=sum_set (v:=phiR N (l.set p.2 v)) h5
 unfold phi setL
 rw [h1,Option.getD_some,List.map_set,e1]
 have h7:phiR N (l.set p.2 v)+min l[p.2] (N+1)=phiR N l+min v (N+1):=by
  unfold phiR
  rw [List.map_set]
  exact h4
 omega
theorem phi_le {N:Nat} {lv:Lv}:phi N lv≤(lv.map List.length).sum * (N+1):=by
 have key:∀ l:List Nat,phiR N l≤l.length * (N+1):=by
  intro l
  induction l with
  | nil=>simp [phiR]
  | cons x l ih=>
   simp only [phiR,List.map_cons,List.sum_cons,List.length_cons,Nat.succ_mul] at ih ⊢
   omega
 induction lv with
 | nil=>simp [phi]
 | cons l lv ih=>
  have:=key l
  simp only [phi,List.map_cons,List.sum_cons,Nat.add_mul] at ih ⊢
  omega
theorem phi_shp {N:Nat} {lv:Lv} {s:List Ty} (h:Shp lv s):phi N lv≤q0p s * (N+1):=by
 have:=phi_le (N:=N) (lv:=lv)
 unfold Shp at h
 rw [h] at this
 exact this
def Bdd (N:Nat) (lv:Lv):Prop:=∀ p,getL lv p≤phi N lv
def RwOk (s:List Ty) (w:List Rw):Prop:=∀ x∈w,∃ t,s[x.1.1]?=some t∧x.1.2<t.rels.length
theorem raiseN_step {N:Nat} {lv:Lv} {n m:Nat×Nat} {o:Bool} (hin:In lv n) (hb:Bdd N lv) (h:getL lv n<getL lv m+o.toNat∧getL lv n≤N) :
  Bdd N (setL lv n (getL lv m+o.toNat))∧phi N lv<phi N (setL lv n (getL lv m+o.toNat)):=by
 have h1:=phi_set (N:=N) (v:=getL lv m+o.toNat) hin
 have h2:phi N lv<phi N (setL lv n (getL lv m+o.toNat)):=by omega
 refine ⟨fun p=>?_,h2⟩
 rw [getL_set hin]
 have ho:o.toNat≤1:=by cases o<;>decide
 split
 ·have:=hb m
  omega
 ·have:=hb p
  omega
theorem q5e {N:Nat} {n:Nat×Nat} {s:List Ty}:∀ {l:List Ln} {a:Lv×Bool},Shp a.1 s→In a.1 n→Bdd N a.1→Shp (q0y N n l a).1 s∧Bdd N (q0y N n l a).1∧phi N a.1≤phi N (q0y N n l a).1∧(a.2=true→(q0y N n l a).2=true)∧(a.2=false→(q0y N n l a).2=true→phi N a.1<phi N (q0y N n l a).1)∧((q0y N n l a).2=false→(q0y N n l a).1=a.1)
 | [],a,h1,h2,h3=>⟨h1,h3,Nat.le_refl _,fun h=>h,fun h h'=>(by rw [show q0y N n [] a=a from rfl,h] at h';cases h'),fun _=>rfl⟩
 | l :: r,a,h1,h2,h3=>by
  unfold q0y
  split
  ·rename_i hc
   obtain ⟨k1,k2⟩:=raiseN_step h2 h3 hc
   obtain ⟨j1,j2,j3,j4,j5,j6⟩:=q5e (l:=r) (a:=(setL a.1 n (getL a.1 l.1+l.2.toNat),true)) (shp_set h1 _ _) (in_set h2) k1
   dsimp only at j3 j4 j5 j6
   exact ⟨j1,j2,by omega,fun _=>j4 rfl,fun _ _=>by omega,fun h=>by rw [j4 rfl] at h;cases h⟩
  ·exact q5e h1 h2 h3
theorem q30 {N:Nat} {s:List Ty}:∀ {w:List Rw} {a:Lv×Bool},RwOk s w→Shp a.1 s→Bdd N a.1→Shp (q1k N w a).1 s∧Bdd N (q1k N w a).1∧phi N a.1≤phi N (q1k N w a).1∧(a.2=true→(q1k N w a).2=true)∧(a.2=false→(q1k N w a).2=true→phi N a.1<phi N (q1k N w a).1)∧((q1k N w a).2=false→(q1k N w a).1=a.1)
 | [],a,_,h1,h3=>⟨h1,h3,Nat.le_refl _,fun h=>h,fun h h'=>(by rw [show q1k N [] a=a from rfl,h] at h';cases h'),fun _=>rfl⟩
 | x :: w,a,hw,h1,h3=>by
  obtain ⟨t,ht,hk⟩:=hw x (by simp)
  obtain ⟨k1,k2,k3,k4,k5,k6⟩:=q5e (N:=N) (n:=x.1) (l:=x.2) h1 (in_of h1 ht hk) h3
  obtain ⟨j1,j2,j3,j4,j5,j6⟩:=q30 (w:=w) (fun y hy=>hw y (List.mem_cons_of_mem _ hy)) k1 k2
  unfold q1k
  refine ⟨j1,j2,by omega,fun h=>j4 (k4 h),fun h h'=>?_,fun h=>?_⟩
  ·cases hr:(q0y N x.1 x.2 a).2 with
   | true=>have:=k5 h hr;omega
   | false=>have:=j5 hr h';omega
  ·have:=j6 h
   rw [this]
   cases hr:(q0y N x.1 x.2 a).2 with
   | true=>rw [j4 hr] at h;cases h
   | false=>exact k6 hr
theorem q53 {N:Nat} {s:List Ty}:Bdd N (zeroL s):=fun p=>by
 have:getL (zeroL s) p=0:=by
  unfold getL zeroL
  rw [List.getElem?_map]
  cases s[p.1]? with
  | none=>simp
  | some t=>
   simp only [Option.map_some,Option.getD_some,List.getElem?_replicate]
   split<;>rfl
 omega
theorem q75 {N:Nat} {s:List Ty} {w:List Rw} (hw:RwOk s w):∀ {f g:Nat} {lv:Lv},Shp lv s→Bdd N lv→q0p s * (N+1)<f+phi N lv→q0p s * (N+1)<g+phi N lv→q69 N w f lv=q69 N w g lv
 | 0,g,lv,h1,h2,h3,_=>by have:=phi_shp (N:=N) h1;omega
 | f+1,0,lv,h1,h2,_,h4=>by have:=phi_shp (N:=N) h1;omega
 | f+1,g+1,lv,h1,h2,h3,h4=>by
  obtain ⟨k1,k2,k3,k4,k5,k6⟩:=q30 (N:=N) (a:=(lv,false)) hw h1 h2
  unfold q69
  split
  ·rename_i hr
   have:=k5 rfl hr
   exact q75 hw k1 k2 (by dsimp only at this;omega) (by dsimp only at this;omega)
  ·rfl
theorem rowsR_ok {s:List Ty} {i:Nat} {t:Ty} (ht:s[i]?=some t):∀ {l:List Rl} {k:Nat},k+l.length=t.rels.length→∀ x∈q42 s i t.name k l,∃ t,s[x.1.1]?=some t∧x.1.2<t.rels.length
 | [],k,h,x,hx=>by cases hx
 | r :: l,k,h,x,hx=>by
  simp only [q42,List.mem_cons] at hx
  rcases hx with rfl | hx
  ·exact ⟨t,ht,by simp only [List.length_cons] at h;dsimp only;omega⟩
  ·exact rowsR_ok ht (by simp only [List.length_cons] at h;omega) x hx
theorem rowsT_ok {s:List Ty}:∀ {l:List Ty} {i:Nat},s.drop i=l→∀ x∈q5y s i l,∃ t,s[x.1.1]?=some t∧x.1.2<t.rels.length
 | [],i,h,x,hx=>by cases hx
 | t :: l,i,h,x,hx=>by
  have ht:s[i]?=some t:=by
   have:=List.getElem?_drop (xs:=s) (i:=i) (j:=0)
   rw [h] at this
   simpa using this.symm
  have hd:s.drop (i+1)=l:=by
   have:=q0z ht
   rw [h] at this
   simpa using this.symm
  simp only [q5y,List.mem_append] at hx
  rcases hx with hx | hx
  ·exact rowsR_ok ht (by simp) x hx
  ·exact rowsT_ok hd x hx
theorem q6z (s:List Ty):RwOk s (q38 s):=rowsT_ok (by simp)
theorem rowsR_len {s:List Ty} {i:Nat} {n:ByteArray}:∀ {l:List Rl} {k:Nat},(q42 s i n k l).length=l.length
 | [],k=>rfl
 | r :: l,k=>by simp [q42,rowsR_len]
theorem rowsT_len {s:List Ty}:∀ {l:List Ty} {i:Nat},(q5y s i l).length=q0p l
 | [],i=>rfl
 | t :: l,i=>by simp [q5y,rowsT_len,rowsR_len,q0p]
theorem rows_len (s:List Ty):(q38 s).length=q0p s:=rowsT_len
def q1i:List Rw→Nat×Nat→Option (List Ln)
 | [],_=>none
 | w :: r,p=>if p=w.1 then some w.2 else q1i r p
def upR:List Rw→Nat×Nat→List Ln→List Rw
 | [],p,l=>[(p,l)]
 | w :: r,p,l=>if p=w.1 then (p,l) :: r else w :: upR r p l
theorem lookR_up {a:List Rw} {p q:Nat×Nat} {l:List Ln}:q1i (upR a p l) q=if q=p then some l else q1i a q:=by
 induction a with
 | nil=>simp [upR,q1i]
 | cons w r ih=>
  unfold upR
  split
  ·rename_i h
   unfold q1i
   subst h
   split<;>rfl
  ·rename_i h
   simp only [q1i,ih]
   by_cases hq:q=w.1
   ·subst hq
    simp [Ne.symm h]
   ·simp [hq]
theorem upR_len {a:List Rw} {p:Nat×Nat} {l:List Ln}:(upR a p l).length=if (q1i a p).isSome then a.length else a.length+1:=by
 induction a with
 | nil=>rfl
 | cons w r ih=>
  unfold upR q1i
  by_cases h:p=w.1
  ·simp [h]
  ·simp only [h,if_false,List.length_cons,ih]
   split<;>rfl
def lnsA (l:List Ln):AV:=.sl 3 (l.map q5h)
def OnM (S0 S:q00) (b:Nat) (a:List Rw):Prop:=Sub S0 S∧KMapL MN q1e S b (fun p=>(q1i a p).map lnsA) a.length
def FoundS (s:List Ty):Prop:=∀ t∈s,∀ r∈t.rels,r.refs.length=0→∀ p∈q0s r.ex false,(q0o s t.name p.1.name).isSome=true
theorem q8a {s:List Ty} (hs:OkS s) (hN:OkN s) (hF:FoundS s) {S:q00} {b1 b2:Nat} (I:IxS S b1 b2 s) {bo:Nat} (hbo:sget S bo=none) {i k:Nat} {t:Ty} {r:Rl} (ht:s[i]?=some t) (hr:t.rels[k]?=some r) {a:List Rw} {S':q00} (hI:OnM S S' bo a) :
  ACalls PG nrx141 [q1e (i,k),.agg (tyC t),.agg (rlC r),.rop [ixP s b1 b2],.rop [.map (some bo)]] S' fun ae S2=>ae=.ret (.int .i64 0)∧OnM S S2 bo (upR a (i,k) (q1j s t.name r)):=by
 have hm:=List.mem_of_getElem? ht
 have hmr:=List.mem_of_getElem? hr
 refine wx141 ?_
 unfold Bx141
 (try simp only [rwp,hwR,zA,zB,zC,zD,zE,zF,zG,zH,zI,q1e,tyC,q0u])
 rw [← q0u]
 refine q1a (c_rules_leans hs hN (I.sub hI.1) ((hs.at ht).at hr) (hN t hm r hmr) (hF t hm r hmr)) ?_
 (try simp only [rwp,hwR,zA,zB,zC,zD,zE,zF,zG,zH,zI])
 refine hI.2.mu ke_node (i,k) fun es clk h=>?_
 refine q03 ⟨rfl,hI.1.supd hbo,h.cong (fun p=>?_) ?_⟩
 ·rw [lookR_up]
  by_cases hp:p=(i,k)
  ·simp only [hp,if_true,Option.map_some];rfl
  ·simp only [hp,if_false]
 ·rw [upR_len]
  simp
structure LvI (s:List Ty) (N:Nat) (w:List Rw) (S0:q00) (bo bf bm:Nat) (a:Lv×Bool) (S:q00):Prop where
 sub:Sub S0 S
 on:KMapL MN q1e S bo (fun p=>(q1i w p).map lnsA) N
 of:∃ o,KMap MN q1e S bf o∧∀ p,q1q false (.int .i64 0) (o p)=.int .i64 (getL a.1 p)
 more:q0f S bm=some (4,[.bool a.2],1)
 shp:Shp a.1 s
 bdd:Bdd N a.1
theorem lookR_none {s:List Ty} {i:Nat} {n:ByteArray}:∀ {l:List Rl} {k m:Nat},m<k→q1i (q42 s i n k l) (i,m)=none
 | [],k,m,h=>rfl
 | r :: l,k,m,h=>by
  unfold q42 q1i
  rw [if_neg (by rw [Prod.mk.injEq];omega)]
  exact lookR_none (by omega)
theorem q5g {s:List Ty} {i j m:Nat} {n:ByteArray} (h:j≠i):∀ {l:List Rl} {k:Nat},q1i (q42 s i n k l) (j,m)=none
 | [],k=>rfl
 | r :: l,k=>by
  unfold q42 q1i
  rw [if_neg (by rw [Prod.mk.injEq];omega)]
  exact q5g h
theorem q4b {a b:List Rw} {p:Nat×Nat}:q1i (a++b) p=match q1i a p with
  | some l=>some l
  | none=>q1i b p:=by
 induction a with
 | nil=>rfl
 | cons w r ih=>
  simp only [List.cons_append,q1i,ih]
  by_cases h:p=w.1<;>simp [h]
theorem lookR_rel {s:List Ty} {i:Nat} {n:ByteArray}:∀ {l:List Rl} {k m:Nat} {r:Rl},l[m]?=some r→q1i (q42 s i n k l) (i,k+m)=some (q1j s n r)
 | [],k,m,r,h=>by simp at h
 | x :: l,k,0,r,h=>by
  simp at h;subst h
  unfold q42 q1i
  simp
 | x :: l,k,m+1,r,h=>by
  simp at h
  unfold q42 q1i
  rw [if_neg (by rw [Prod.mk.injEq];omega)]
  have:=lookR_rel (s:=s) (i:=i) (n:=n) (k:=k+1) h
  rw [show k+(m+1)=k+1+m by omega]
  exact this
theorem lookR_typ {s:List Ty}:∀ {l:List Ty} {j m:Nat} {t:Ty} {k:Nat} {r:Rl},l[m]?=some t→t.rels[k]?=some r→q1i (q5y s j l) (j+m,k)=some (q1j s t.name r)
 | [],j,m,t,k,r,h,_=>by simp at h
 | x :: l,j,0,t,k,r,h,hr=>by
  simp at h;subst h
  unfold q5y
  rw [q4b,Nat.add_zero]
  have:=lookR_rel (s:=s) (i:=j) (n:=x.name) (k:=0) hr
  rw [Nat.zero_add] at this
  rw [this]
 | x :: l,j,m+1,t,k,r,h,hr=>by
  simp at h
  unfold q5y
  rw [q4b,q5g (by omega)]
  have:=lookR_typ (s:=s) (j:=j+1) h hr
  rw [show j+(m+1)=j+1+m by omega]
  exact this
theorem lookR_at {s:List Ty} {i k:Nat} {t:Ty} {r:Rl} (ht:s[i]?=some t) (hr:t.rels[k]?=some r):q1i (q38 s) (i,k)=some (q1j s t.name r):=by
 have:=lookR_typ (s:=s) (j:=0) ht hr
 rw [Nat.zero_add] at this
 exact this
theorem q89 {s:List Ty} {N:Nat} (hN:q0p s≤1000) (hNN:N≤1000) {S0:q00} {bo bf bm:Nat} (d1:bf≠bo) (d2:bm≠bo) (d3:bm≠bf) (hf0:sget S0 bf=none) (hm0:sget S0 bm=none) {i k:Nat} {t:Ty} {r:Rl} (ht:s[i]?=some t) (hr:t.rels[k]?=some r)
  (hlen:(q1j s t.name r).length≤4000000) {a:Lv×Bool} {S:q00} (hI:LvI s N (q38 s) S0 bo bf bm a S) :
  ACalls PG nrx143 [q1e (i,k),.agg (tyC t),.agg (rlC r),.rop [.map (some bo)],.rop [.map (some bf)],.ptr bm 0] S fun ae S2=>ae=.ret (.int .i64 0)∧LvI s N (q38 s) S0 bo bf bm (q0y N (i,k) (q1j s t.name r) a) S2:=by
 refine wx143 ?_
 unfold Bx143
 (try simp only [rwp,hwR,zA,zB,zC,zD,zE,zF,zG,zH,zI,q1e,tyC,q0u])
 rw [hI.on.k.lkn,lookR_at ht hr]
 (try simp only [rwp,hwR,zA,zB,zC,zD,zE,zF,zG,zH,zI,lnsA])
 generalize hL:q1j s t.name r=L at hlen
 refine LoopP.introS (fun p:Nat×Lv×Bool=>[(3,.rop [.map (some bo)]),(4,.rop [.map (some bf)]),(5,.ptr bm 0),(6,.rop [.int .i64 i,.int .i64 k]),(15,.sl 3 (L.map q5h)),(16,.int .i64 L.length),(17,.int .i64 p.1)])
  (fun p S'=>p.1≤L.length∧LvI s N (q38 s) S0 bo bf bm p.2 S'∧q0y N (i,k) (L.drop p.1) p.2=q0y N (i,k) L a) (fun p=>L.length-p.1) (0,a) ⟨by omega,hI,rfl⟩ rfl ?_
 clear hI
 rintro ⟨j,lv,mo⟩ S1 ⟨hj,hI,hra⟩ q hq
 dsimp only at hj hI hra
 (try simp only [rwp,hwR,zA,zB,zC,zD,zE,zF,zG,zH,zI,C143_1])
 (refine q04 (fun hlt=>?_) (fun hlt=>?_)<;>(try simp only [hlc] at hlt))
 ·obtain ⟨l,hl⟩:=q0t hlt
  rw [q0z hl,q0y] at hra
  dsimp only at hra
  obtain ⟨o,hof,hoq⟩:=hI.of
  have hphi:=phi_shp (N:=N) hI.shp
  dsimp only at hphi
  have hM:q0p s * (N+1)≤1000 * 1001:=Nat.mul_le_mul hN (by omega)
  have bd:=fun p=>hI.bdd p
  dsimp only at bd hoq
  have hbl:=bd l.1
  have hbl2:getL lv (l.1.1,l.1.2)≤phi N lv:=bd l.1
  have hin:In lv (i,k):=in_of hI.shp ht (List.getElem?_eq_some_iff.1 hr).1
  (try simp only [rwp,hwR,zA,zB,zC,zD,zE,zF,zG,zH,zI,hl,q5h,q15])
  rw [hof.lkn,hoq]
  (try simp only [rwp,hwR,zA,zB,zC,zD,zE,zF,zG,zH,zI])
  have low:∀ m:Nat,m=getL lv l.1+l.2.toNat→C143_2 (fun ae S2=>ae=.ret (.int .i64 0)∧LvI s N (q38 s) S0 bo bf bm (q0y N (i,k) L a) S2) q (.rop [.map (some bo)]) (.rop [.map (some bf)]) (.ptr bm 0) (.rop [.int .i64 i,.int .i64 k]) (.int .i64 m) (.sl 3 (L.map q5h)) (.int .i64 L.length) (.int .i64 j) S1:=by
   intro m hm
   unfold C143_2
   rw [← hm] at hra
   (try simp only [rwp,hwR,zA,zB,zC,zD,zE,zF,zG,zH,zI])
   rw [hof.lkn,hoq]
   (try simp only [rwp,hwR,zA,zB,zC,zD,zE,zF,zG,zH,zI])
   have keep:¬ (getL lv (i,k)<m∧getL lv (i,k)≤N)→q [(3,.rop [.map (some bo)]),(4,.rop [.map (some bf)]),(5,.ptr bm 0),(6,.rop [.int .i64 i,.int .i64 k]),(15,.sl 3 (L.map q5h)),(16,.int .i64 L.length),(17,.int .i64 ((j:Int)+1))] S1:=fun h=>by
    rw [if_neg h] at hra
    exact hq (j+1,lv,mo) S1 ⟨by dsimp only;omega,hI,hra⟩ (by dsimp only;omega)
   (refine q20 (fun hg=>?_) (fun hg=>?_)<;>(try simp only [rwp,hwR,zA,zB,zC,zD,zE,zF,zG,zH,zI,hg]))
   ·have h1:getL lv (i,k)<m:=by simpa using hg
    rw [hof.lkn,hoq,hI.on.ln]
    (try simp only [rwp,hwR,zA,zB,zC,zD,zE,zF,zG,zH,zI,C143_3])
    (refine q04 (fun h2=>?_) (fun h2=>?_)<;>(try simp only [hlc] at h2))
    ·have h3:getL lv (i,k)<m∧getL lv (i,k)≤N:=⟨h1,by omega⟩
     rw [if_pos h3] at hra
     rw [hm] at h3
     obtain ⟨k1,k2⟩:=raiseN_step (N:=N) (m:=l.1) (o:=l.2) hin hI.bdd h3
     rw [← hm] at k1 k2
     refine hof.mu ke_node (i,k) fun es clk h4=>?_
     have h5:q0f (supd S1 bf (.map MN es clk)) bm=some (4,[.bool mo],1):=by rw [q0e (Ne.symm d3)];exact hI.more
     (try simp only [rwp,hwR,zA,zB,zC,zD,zE,zF,zG,zH,zI,h5])
     (simp (disch:=omega) only [q08])
     refine q0a rfl (hq (j+1,setL lv (i,k) m,true) _ ⟨by dsimp only;omega,⟨(hI.sub.supd hf0).supd hm0,(hI.on.upd d1 _).upd d2 _,⟨_,h4.upd d3 _,fun p=>?_⟩,q0g,shp_set hI.shp _ _,k1⟩,hra⟩ (by dsimp only;omega))
     dsimp only
     rw [getL_set hin]
     by_cases hp:p=(i,k)
     ·simp only [hp,if_true];rfl
     ·simp only [hp,if_false];exact hoq p
    ·(simp (disch:=omega) only [q08])
     exact q0a rfl (keep (fun h=>h2 (by omega)))
   ·have h1:¬ getL lv (i,k)<m:=by simpa using hg
    (try simp only [rwp,hwR,zA,zB,zC,zD,zE,zF,zG,zH,zI,C143_3])
    (simp (disch:=omega) only [q08])
    exact q0a rfl (keep (fun h=>h1 h.1))
  cases ho:l.2 with
  | true=>
   (try simp only [rwp,hwR,zA,zB,zC,zD,zE,zF,zG,zH,zI])
   rw [q08 (by omega) (by omega)]
   exact low (getL lv l.1+1) (by rw [ho];rfl)
  | false=>
   (try simp only [rwp,hwR,zA,zB,zC,zD,zE,zF,zG,zH,zI])
   exact low (getL lv l.1) (by rw [ho];rfl)
 ·rw [q2t hlt] at hra
  refine q03 ⟨rfl,?_⟩
  rw [← hra]
  exact hI
theorem eachR_fold {α:Type} {s:List Ty} {i:Nat} {n:ByteArray} {f:α→Nat→Rl→Int×α} {g:Rw→α→α} (hg:∀ a k r,f a k r=(0,g ((i,k),q1j s n r) a)):∀ {l:List Rl} {k:Nat} {a:α},q88 f k l a=(none,(q42 s i n k l).foldl (fun a w=>g w a) a)
 | [],k,a=>rfl
 | r :: l,k,a=>by
  simp only [q88,q42,List.foldl_cons,hg,if_true]
  exact eachR_fold hg
theorem q7b {α:Type} {s:List Ty} {f:α→Nat→Nat→Ty→Rl→Int×α} {g:Rw→α→α} (hg:∀ a i k t r,f a i k t r=(0,g ((i,k),q1j s t.name r) a)):∀ {l:List Ty} {i:Nat} {a:α},q56 f i l a=(none,(q5y s i l).foldl (fun a w=>g w a) a)
 | [],i,a=>rfl
 | t :: l,i,a=>by
  unfold q56
  rw [eachR_fold (s:=s) (i:=i) (n:=t.name) (g:=g) (fun a k r=>hg a i k t r)]
  simp only [q5y,List.foldl_append]
  exact q7b hg
theorem roundF_fold {N:Nat}:∀ {w:List Rw} {a:Lv×Bool},w.foldl (fun a x=>q0y N x.1 x.2 a) a=q1k N w a
 | [],a=>rfl
 | x :: w,a=>roundF_fold (w:=w)
def upAll (w:List Rw) (a:List Rw):List Rw:=w.foldl (fun a x=>upR a x.1 x.2) a
theorem upR_new {a:List Rw} {p:Nat×Nat} {l:List Ln} (h:q1i a p=none):upR a p l=a++[(p,l)]:=by
 induction a with
 | nil=>rfl
 | cons w r ih=>
  unfold q1i at h
  split at h
  ·cases h
  ·unfold upR
   rw [if_neg ‹_›,ih h]
   rfl
def nodupR:List Rw→Prop
 | []=>True
 | w :: r=>q1i r w.1=none∧nodupR r
theorem lookR_snoc {a:List Rw} {p:Nat×Nat} {w:Rw} (h:q1i a p=none) (hp:p≠w.1):q1i (a++[w]) p=none:=by
 rw [q4b,h]
 simp [q1i,hp]
theorem upAll_app:∀ {w:List Rw} {a:List Rw},nodupR w→(∀ x∈w,q1i a x.1=none)→upAll w a=a++w
 | [],a,_,_=>by simp [upAll]
 | x :: w,a,hd,h=>by
  have h1:=upR_new (l:=x.2) (h x (by simp))
  have ih:=upAll_app (w:=w) (a:=a++[x]) hd.2 fun y hy=>lookR_snoc (h y (List.mem_cons_of_mem _ hy)) fun e=>by
   have h2:=hd.1
   have:∀ {r:List Rw} {y:Rw},y∈r→q1i r y.1≠none:=by
    intro r y hy
    induction r with
    | nil=>cases hy
    | cons z r ih=>
     unfold q1i
     split
     ·simp
     ·rename_i hne
      rcases List.mem_cons.1 hy with rfl | hy
      ·exact absurd rfl hne
      ·exact ih hy
   exact this hy (by rw [e];exact h2)
  simp only [upAll,List.foldl_cons] at ih ⊢
  rw [h1,ih,List.append_assoc]
  rfl
theorem nodup_app {a b:List Rw} (ha:nodupR a) (hb:nodupR b) (h:∀ x∈a,q1i b x.1=none):nodupR (a++b):=by
 induction a with
 | nil=>exact hb
 | cons x a ih=>
  refine ⟨?_,ih ha.2 fun y hy=>h y (List.mem_cons_of_mem _ hy)⟩
  show q1i (a++b) x.1=none
  rw [q4b,ha.1]
  exact h x (by simp)
theorem rowsR_key {s:List Ty} {i:Nat} {n:ByteArray}:∀ {l:List Rl} {k:Nat} {x:Rw},x∈q42 s i n k l→x.1.1=i
 | [],k,x,h=>by cases h
 | r :: l,k,x,h=>by
  simp only [q42,List.mem_cons] at h
  rcases h with rfl | h
  ·rfl
  ·exact rowsR_key h
theorem lookT_less {s:List Ty}:∀ {l:List Ty} {i:Nat} {p:Nat×Nat},p.1<i→q1i (q5y s i l) p=none
 | [],i,p,h=>rfl
 | t :: l,i,(a,b),h=>by
  unfold q5y
  rw [q4b,q5g (by dsimp only at h;omega)]
  exact lookT_less (by dsimp only at h ⊢;omega)
theorem nodup_R {s:List Ty} {i:Nat} {n:ByteArray}:∀ {l:List Rl} {k:Nat},nodupR (q42 s i n k l)
 | [],k=>trivial
 | r :: l,k=>⟨lookR_none (by omega),nodup_R⟩
theorem nodup_T {s:List Ty}:∀ {l:List Ty} {i:Nat},nodupR (q5y s i l)
 | [],i=>trivial
 | t :: l,i=>nodup_app nodup_R nodup_T fun x hx=>lookT_less (by have:=rowsR_key hx;omega)
theorem rows_all (s:List Ty):upAll (q38 s) []=q38 s:=upAll_app nodup_T fun _ _=>rfl
theorem leans_len {s:List Ty} (hN:OkN s) {t:ByteArray} {r:Rl} (hr:rsz r≤1000):(q1j s t r).length≤4000000:=by
 unfold q1j
 unfold rsz at hr
 split
 ·have h1:=q73 r.ex false
  have h2:=flat_le (f:=fun p:Ex×Bool=>q3t s t p.1 p.2) (n:=1001) (fun _=>leafF_le hN) (l:=q0s r.ex false)
  omega
 ·have:=List.length_filterMap_le (q2p s) r.refs
  omega
theorem q5b {s:List Ty} (hs:OkS s) (hN:OkN s) (hF:FoundS s) (hM:q0p s≤256) {S:q00} {b1 b2:Nat} (I:IxS S b1 b2 s) :
  ACalls PG nrx93 [ixP s b1 b2] S fun ae S'=>∃ bf o,ae=.ret (.tup [.map (some bf),.int .i64 (q0p s)])∧KMap MN q1e S' bf o∧(∀ p,q1q false (.int .i64 0) (o p)=.int .i64 (getL (levF s) p))∧Sub S S':=by
 refine wx93 ?_
 unfold Bx93
 (try simp only [rwp,hwR,zA,zB,zC,zD,zE,zF,zG,zH,zI])
 refine KMap.mm (enc:=q1e) fun bf hbf kf=>?_
 have hsf:Sub S (supd S bf (.map MN [] 0)):=Sub.fresh _ hbf
 have I:=I.sub hsf
 generalize supd S bf (.map MN [] 0)=Sf at kf hsf I ⊢
 refine KMapL.mm (enc:=q1e) fun bo hbo ko=>?_
 have d1:bf≠bo:=fun e=>kf.is (e ▸ hbo)
 have hs1:Sub Sf (supd Sf bo (.map MN [] 0)):=Sub.fresh _ hbo
 generalize supd Sf bo (.map MN [] 0)=S1 at ko hs1 ⊢
 refine alst2 rfl rfl rfl rfl rfl rfl ?_
 (try simp only [rwp,hwR,zA,zB,zC,zD,zE,zF,zG,zH,zI])
 have h1:=q4l (b1:=b1) (b2:=b2) (g:=nrx141) (fi:=[]) (ca:=[.rop [ixP s b1 b2],.rop [.map (some bo)]]) (fun (a:List Rw) S'=>OnM Sf S' bo a) (fun a i k t r=>(0,upR a (i,k) (q1j s t.name r))) hs
  (fun i k t r a S' ht hr hI=>q8a hs hN hF I hbo ht hr hI) [] S1 ⟨hs1,ko⟩
 have e1:q56 (fun (a:List Rw) i k t r=>((0:Int),upR a (i,k) (q1j s t.name r))) 0 s []=(none,q38 s):=by
  rw [q7b (s:=s) (g:=fun w a=>upR a w.1 w.2) (fun a i k t r=>rfl)]
  exact congrArg (Prod.mk none) (rows_all s)
 rw [e1] at h1
 refine q10 h1 ?_
 rintro _ S2 ⟨rfl,hs2,ko⟩
 clear h1 e1 hs1
 dsimp only
 have ko:KMapL MN q1e S2 bo (fun p=>(q1i (q38 s) p).map lnsA) (q0p s):=ko.cong (fun _=>rfl) (rows_len s)
 have kf:=kf.sub hs2
 have hs3:=hsf.trans hs2
 intro bm hbm
 have m1:bm≠bo:=fun e=>ko.k.is (e ▸ hbm)
 have m2:bm≠bf:=fun e=>kf.is (e ▸ hbm)
 (try simp only [rwp,hwR,zA,zB,zC,zD,zE,zF,zG,zH,zI])
 have hphi0:∀ lv,Shp lv s→phi (q0p s) lv≤q0p s * (q0p s+1):=fun lv h=>phi_shp h
 have hMM:q0p s * (q0p s+1)≤256 * 257:=Nat.mul_le_mul hM (by omega)
 refine LoopP.introS (fun p:Nat×Lv×Bool=>[(1,.rop [ixP s b1 b2]),(4,.rop [.map (some bf)]),(5,.rop [.map (some bo)]),(6,.ptr p.1 0)])
  (fun p S'=>sget S p.1=none∧p.1≠bo∧p.1≠bf∧LvI s (q0p s) (q38 s) S bo bf p.1 p.2 S'∧(p.2.2=true→∀ F,q0p s * (q0p s+1)<F+phi (q0p s) p.2.1→q69 (q0p s) (q38 s) F p.2.1=levF s)∧(p.2.2=false→p.2.1=levF s))
  (fun p=>2 * (q0p s * (q0p s+1)-phi (q0p s) p.2.1)+p.2.2.toNat) (bm,zeroL s,true)
  ⟨Sub.none hs3 hbm,m1,m2,⟨hs3.supd (Sub.none hs3 hbm),ko.fresh hbm _,⟨_,kf.fresh hbm _,fun p=>?_⟩,q0g,q5x s,q53⟩,fun _ F hF2=>q75 (q6z s) (q5x s) q53 hF2 (by omega),fun h=>by cases h⟩ rfl ?_
 ·have h0:getL (zeroL s) p=0:=by
   have:=q53 (N:=0) (s:=s) p
   unfold getL zeroL
   rw [List.getElem?_map]
   cases s[p.1]? with
   | none=>simp
   | some t=>
    simp only [Option.map_some,Option.getD_some,List.getElem?_replicate]
    split<;>rfl
  rw [h0]
  rfl
 rintro ⟨cm,lv,mo⟩ S3 ⟨hcm,m1,m2,hI,hy,hn⟩ q hq
 dsimp only at hcm m1 m2 hI hy hn
 (try simp only [rwp,hwR,zA,zB,zC,zD,zE,zF,zG,zH,zI,C93_1,q07 hI.more])
 cases mo with
 | false=>
  (try simp only [rwp,hwR,zA,zB,zC,zD,zE,zF,zG,zH,zI])
  obtain ⟨o,ho1,ho2⟩:=hI.of
  rw [hI.on.ln]
  refine rtW_two ⟨bf,o,rfl,ho1,fun p=>?_,hI.sub⟩
  rw [ho2,hn rfl]
 | true=>
  (try simp only [rwp,hwR,zA,zB,zC,zD,zE,zF,zG,zH,zI,hI.more])
  have hI2:LvI s (q0p s) (q38 s) S bo bf cm (lv,false) (supd S3 cm (.cells 4 [.bool false] 1)):=by
   obtain ⟨o,ho1,ho2⟩:=hI.of
   exact ⟨hI.sub.supd hcm,hI.on.upd m1 _,⟨o,ho1.upd m2 _,ho2⟩,q0g,hI.shp,hI.bdd⟩
  have h2:=q4l (b1:=b1) (b2:=b2) (g:=nrx143) (fi:=[]) (ca:=[.rop [.map (some bo)],.rop [.map (some bf)],.ptr cm 0]) (fun (a:Lv×Bool) S'=>LvI s (q0p s) (q38 s) S bo bf cm a S') (fun a i k t r=>(0,q0y (q0p s) (i,k) (q1j s t.name r) a)) hs
   (fun i k t r a S' ht hr hI=>q89 (by omega) (by omega) d1 m1 m2 hbf hcm ht hr (leans_len hN (hN t (List.mem_of_getElem? ht) r (List.mem_of_getElem? hr))) hI) (lv,false) _ hI2
  have e2:q56 (fun (a:Lv×Bool) i k t r=>((0:Int),q0y (q0p s) (i,k) (q1j s t.name r) a)) 0 s (lv,false)=(none,q1k (q0p s) (q38 s) (lv,false)):=by
   rw [q7b (s:=s) (g:=fun w a=>q0y (q0p s) w.1 w.2 a) (fun a i k t r=>rfl)]
   exact congrArg (Prod.mk none) roundF_fold
  rw [e2] at h2
  refine q10 h2 ?_
  rintro _ S4 ⟨rfl,hI3⟩
  obtain ⟨k1,k2,k3,k4,k5,k6⟩:=q30 (N:=q0p s) (a:=(lv,false)) (q6z s) hI2.shp hI2.bdd
  generalize hR:q1k (q0p s) (q38 s) (lv,false)=R at hI3 k1 k2 k3 k4 k5 k6
  obtain ⟨lv2,mo2⟩:=R
  dsimp only at hI3 k1 k2 k3 k4 k5 k6
  (try simp only [rwp,hwR,zA,zB,zC,zD,zE,zF,zG,zH,zI,q07 hI3.more])
  intro dm hdm
  have hdm':=Sub.none hI3.sub hdm
  have n1:dm≠bo:=fun e=>hI3.on.k.is (e ▸ hdm)
  have n2:dm≠bf:=fun e=>by
   obtain ⟨o,ho1,-⟩:=hI3.of
   exact ho1.is (e ▸ hdm)
  (try simp only [rwp,hwR,zA,zB,zC,zD,zE,zF,zG,zH,zI])
  have hi:=fun F=>show q69 (q0p s) (q38 s) (F+1) lv=if mo2=true then q69 (q0p s) (q38 s) F lv2 else lv2 by rw [q69,hR]
  have hp1:=hphi0 lv hI.shp
  have hp2:=hphi0 lv2 k1
  refine q0a rfl (hq (dm,lv2,mo2) _ ⟨hdm',n1,n2,?_,fun h F hF2=>?_,fun h=>?_⟩ ?_)
  ·obtain ⟨o,ho1,ho2⟩:=hI3.of
   exact ⟨hI3.sub.supd hdm',hI3.on.fresh hdm _,⟨o,ho1.fresh hdm _,ho2⟩,q0g,k1,k2⟩
  ·dsimp only at h hF2 ⊢
   subst h
   have:=k5 rfl rfl
   have h3:=hy rfl (q0p s * (q0p s+1)+1+1) (by omega)
   rw [hi,if_pos rfl] at h3
   exact (q75 (q6z s) k1 k2 hF2 (by omega)).trans h3
  ·dsimp only at h ⊢
   subst h
   have h3:=hy rfl (q0p s * (q0p s+1)+1+1) (by omega)
   rw [hi,if_neg (by simp)] at h3
   exact h3
  ·dsimp only
   cases mo2 with
   | false=>simp only [Bool.toNat_false,Bool.toNat_true];omega
   | true=>have:=k5 rfl rfl;omega
set_option maxRecDepth 4000
theorem mul_at {QF:AEnd→q00→Prop} {S:q00} (n:Nat) (hn:n≤16):Bx191 QF (.int .u64 1) (.int .u64 n) S=rtW [.tmp (.int .u64 0),.tmp (.int .u64 n)] QF S:=by
 rcases n with _|_|_|_|_|_|_|_|_|_|_|_|_|_|_|_|_|n
 all_goals first | omega | kernel_rfl
theorem c_bits_Mul (n:Nat) (hn:n≤16):AFun PG nrx153 [.int .u64 1,.int .u64 n] (.tup [.int .u64 0,.int .u64 n]):=by
 intro S
 refine wx153 ?_
 unfold Bx153
 (try simp only [rwp,hwR,zA,zB,zC,zD,zE,zF,zG,zH,zI])
 refine q06 (v:=.tup [.int .u64 0,.int .u64 n]) (fun S=>wx191 (by rw [mul_at n hn];exact rtW_two ⟨rfl,rfl⟩)) ?_
 (try simp only [rwp,hwR,zA,zB,zC,zD,zE,zF,zG,zH,zI])
 exact rtW_two ⟨rfl,rfl⟩
theorem wrapu64 {n:Nat} (h:n≤16):IntKind.u64.wrap (n:Int)=(n:Int):=by
 rcases n with _|_|_|_|_|_|_|_|_|_|_|_|_|_|_|_|_|n
 all_goals first | omega | decide
theorem q79 {z:AV}:∀ {m n off:Nat},off+m≤n→q1d (List.replicate n z) off (List.replicate m z)=List.replicate n z
 | 0,n,off,h=>rfl
 | m+1,n,off,h=>by
  rw [List.replicate_succ,q1d]
  have:(List.replicate n z).set off z=List.replicate n z:=by
   apply List.ext_getElem?
   intro i
   rw [List.getElem?_set]
   by_cases hi:off=i
   ·subst hi
    rw [if_pos rfl,if_pos (by simp;omega),List.getElem?_replicate,if_pos (by omega)]
   ·rw [if_neg hi]
  rw [this]
  exact q79 (by omega)
theorem c_slices_Repeat {n:Nat} (hn:n≤16) (S:q00):ACalls PG nrx108 [.sl 1 [[.int .i64 0]],.int .i64 n] S fun ae S'=>∃ b,ae=.ret (.own b 0 n n)∧sget S b=none∧S'=supd S b (.cells 3 (List.replicate n (.int .i64 0)) n):=by
 refine wx108 ?_
 unfold Bx108
 (try simp only [rwp,hwR,zA,zB,zC,zD,zE,zF,zG,zH,zI,show decide ((n:Int)<0)=false from decide_eq_false (by omega),C108_1])
 rw [wrapu64 hn,show IntKind.u64.wrap (((1:Nat):Int))=1 from by decide]
 refine q06 (c_bits_Mul n hn) ?_
 have h1:decide ((9223372036854775807:Int)<(n:Int))=false:=decide_eq_false (by omega)
 (try simp only [rwp,hwR,zA,zB,zC,zD,zE,zF,zG,zH,zI,show decide ((0:Int)<0)=false from rfl,h1,C108_2,C108_3])
 rw [q08 (by omega) (by omega)]
 refine ⟨n,rfl,rfl,by omega,fun b hb=>?_⟩
 refine ⟨b,0,n,n,3,List.replicate n (.int .i64 0),n,1,[.int .i64 0],rfl,by rw [q01,if_pos rfl],rfl,by simp;omega,?_,?_⟩
 ·rcases n with _ | n
  ·rfl
  ·simp [ones,one,Nat.min_eq_left]
 have e1:List.take (min 1 n * 1) [AV.int .i64 0]=List.replicate (min 1 n) (.int .i64 0):=by
  rcases n with _ | n
  ·rfl
  ·simp [Nat.min_eq_left]
 rw [e1,q79 (by omega),q0q]
 refine LoopP.introS (fun k:Nat=>[(7,.own b 0 n n),(8,.int .i64 k)]) (fun k S'=>S'=supd S b (.cells 3 (List.replicate n (.int .i64 0)) n)∧k≤n∧(n≠0→1≤k)) (fun k=>n-k) (min 1 n) ⟨rfl,by omega,by omega⟩ rfl ?_
 rintro k _ ⟨rfl,hk,hk1⟩ r hr
 (try simp only [rwp,hwR,zA,zB,zC,zD,zE,zF,zG,zH,zI,C108_4])
 (refine q04 (fun hlt=>?_) (fun hlt=>?_)<;>(try simp only [hlc] at hlt))
 ·have hk0:=hk1 (by omega)
  refine ⟨by omega,by omega,by omega,by omega,?_⟩
  have hne:¬ n=k:=by omega
  simp only [if_neg hne,Nat.mul_one,Nat.sub_zero,if_neg (show ¬ n=0 by omega)]
  refine ⟨b,k,n-k,n-k,3,List.replicate n (.int .i64 0),n,k,List.replicate k (.int .i64 0),rfl,by rw [q01,if_pos rfl],?_,by simp;omega,?_,?_⟩
  ·simp only [appX]
   rw [q01,if_pos rfl]
   simp [List.take_replicate,Nat.min_eq_left hk];omega
  ·have:∀ m,ones (List.replicate m (AV.int .i64 0))=true:=by
    intro m
    induction m with
    | zero=>rfl
    | succ m ih=>rw [List.replicate_succ];simp [ones,one,ih]
   rw [List.take_replicate]
   exact this _
  ·rw [List.take_replicate,q79 (by omega),q0q]
   (try simp only [rwp,hwR,zA,zB,zC,zD,zE,zF,zG,zH,zI])
   rw [show (k:Int)+((min k (n-k):Nat):Int)=((k+min k (n-k):Nat):Int) from by omega,q08 (by omega) (by omega)]
   exact q0a rfl (hr (k+min k (n-k)) _ ⟨rfl,by omega,by omega⟩ (by omega))
 ·exact q03 ⟨b,rfl,hb,rfl⟩
def q1l (bs:List Nat) (lv:Lv):List (List AV):=List.zipWith (fun b (l:List Nat)=>[AV.own b 0 l.length l.length]) bs lv
structure LvO (S0 S:q00) (v:AV) (bs:List Nat) (lv:Lv):Prop where
 sub:Sub S0 S
 len:bs.length=lv.length
 lst:LstN S0 S 174 1 v (q1l bs lv)
 inn:∀ (i b:Nat) (l:List Nat),bs[i]?=some b→lv[i]?=some l→q0f S b=some (3,l.map iv,l.length)∧sget S0 b=none∧q0l v b
 nod:bs.Nodup
def lvC (lv:Lv):List (List AV):=lv.map fun l=>[.sl 1 (l.map fun x=>[iv x])]
theorem flat_one {l:List Nat}:(l.map fun x=>[iv x]).flatten=l.map iv:=by
 induction l with
 | nil=>rfl
 | cons x l ih=>simp [ih]
theorem lvRows_get {bs:List Nat} {lv:Lv} {i:Nat}:(q1l bs lv)[i]?=match bs[i]?,lv[i]? with
  | some b,some l=>some [.own b 0 l.length l.length]
  | _,_=>none:=by
 unfold q1l
 rw [List.getElem?_zipWith]
 cases bs[i]?<;>cases lv[i]?<;>rfl
theorem ShV.lv {S0 S:q00} {v:AV} {bs:List Nat} {lv:Lv} (h:LvO S0 S v bs lv):ShV v S (.sl 1 (lvC lv)) S0:=by
 obtain ⟨hs,hlen,⟨hr,hl⟩,hin,hnd⟩:=h
 have hrl:(q1l bs lv).length=lv.length:=by simp [q1l,hlen]
 rcases hl with ⟨rfl,h0⟩ | ⟨b,cap,rfl,h1,h2,h3,h4,h5⟩
 ·intro R w u hS hv
  have:lv=[]:=by
   rw [h0] at hrl
   exact List.length_eq_zero_iff.1 hrl.symm
  subst this
  refine ⟨R,hS.sub hs,?_,(Step.refl _ _ _).sub hs⟩
  cases hv
  exact .sl0 _ _ _
 ·intro R w u hS hv
  have hs1:=hS.sub hs
  let R':Nat→Prop:=fun k=>R k∨k=b∨k∈bs
  have hRR:∀ k,R k→R' k:=fun k h=>.inl h
  have hbn:∀ k∈bs,sget S0 k=none∧k<w.heap.size:=fun k hk=>by
   obtain ⟨i,hi⟩:=List.getElem?_of_mem hk
   have hi2:=(List.getElem?_eq_some_iff.1 hi).1
   obtain ⟨o1,o2,o3⟩:=hin i k lv[i] hi (List.getElem?_eq_getElem (by omega))
   exact ⟨o2,hS.lt (objAt_some.1 o1)⟩
  refine ⟨R',⟨fun c o hc=>?_,fun c hc=>?_⟩,?_,⟨Nat.le_refl _,rfl,rfl,rfl,fun k _ hk=>⟨rfl,Sub.none hs hk⟩,hRR,fun k hk=>?_⟩⟩
  ·obtain ⟨y,k1,k2⟩:=hs1.own c o hc
   exact ⟨y,k1,k2.step hRR (fun k hk=>rfl)⟩
  ·rcases hc with hc | rfl | hc
   ·exact hs1.ro c hc
   ·exact ⟨h1,hS.lt h2⟩
   ·exact hbn c hc
  ·cases hv
   obtain ⟨x,hx,hro⟩:=hS.own b _ h2
   obtain ⟨vs,hvs,hcell⟩:=cell_at hx hro
   have hfl:=q29 hr
   rw [hrl] at *
   refine .sl 1 (lvC lv) ⟨b,0,none⟩ lv.length cap (fun i j=>vs.getD (i * 1+j) undef) (by simp [lvC]) h3 (.inr (.inl rfl)) (fun i cs h=>?_) (fun i j hi hj=>?_) (fun i j cs u h1' h2'=>?_)
   ·simp only [lvC,List.getElem?_map] at h
    cases hli:lv[i]? with
    | none=>rw [hli] at h;cases h
    | some l=>rw [hli] at h;cases h;rfl
   ·rw [q3i,Nat.zero_add]
    exact hcell _ (by rw [hfl];omega)
   ·simp only [lvC,List.getElem?_map] at h1'
    cases hli:lv[i]? with
    | none=>rw [hli] at h1';cases h1'
    | some l=>
     rw [hli] at h1'
     cases h1'
     have hil:=(List.getElem?_eq_some_iff.1 hli).1
     have hbi:bs[i]?=some bs[i]:=List.getElem?_eq_getElem (by omega)
     cases j with
     | succ j=>simp at h2'
     | zero=>
      simp at h2'
      subst h2'
      obtain ⟨o1,o2,o3⟩:=hin i _ l hbi hli
      have hrow:(q1l bs lv)[i]?=some [.own bs[i] 0 l.length l.length]:=by rw [lvRows_get,hbi,hli]
      have hval:=hvs.2 (i * 1+0) (.own bs[i] 0 l.length l.length) (q6b hr hrow rfl)
      refine row_rv (rows:=l.map fun x=>[iv x]) (cap:=l.length) (t:=3) hS ?_ (fun r hr=>?_) (by simp) hRR (.inr (.inr (List.mem_of_getElem? hbi))) (by simpa using hval)
      ·rw [flat_one,Nat.mul_one];exact objAt_some.1 o1
      ·obtain ⟨x,-,rfl⟩:=List.mem_map.1 hr;rfl
  ·rcases hk with hk | rfl | hk
   ·exact .inl hk
   ·exact .inr (.inl (by rw [h2];simp))
   ·obtain ⟨i,hi⟩:=List.getElem?_of_mem hk
    have hi2:=(List.getElem?_eq_some_iff.1 hi).1
    obtain ⟨o1,-,-⟩:=hin i k lv[i] hi (List.getElem?_eq_getElem (by omega))
    exact .inr (.inl (q64 o1))
theorem eachR_none {α:Type} {f:α→Nat→Rl→Int×α} {g:Nat→Rl→Int} (hg:∀ a k r,(f a k r).1=g k r):∀ {l:List Rl} {k:Nat} {a:α},(q88 f k l a).1=none→∀ (m:Nat) (r:Rl),l[m]?=some r→g (k+m) r=0
 | [],k,a,h,m,r,hr=>by simp at hr
 | x :: l,k,a,h,m,r,hr=>by
  unfold q88 at h
  split at h
  ·rename_i h0
   rw [hg] at h0
   cases m with
   | zero=>simp at hr;subst hr;exact h0
   | succ m=>
    simp at hr
    have:=eachR_none hg h m r hr
    rw [show k+(m+1)=k+1+m by omega]
    exact this
  ·cases h
theorem eachT_none {α:Type} {f:α→Nat→Nat→Ty→Rl→Int×α} {g:Nat→Nat→Ty→Rl→Int} (hg:∀ a i k t r,(f a i k t r).1=g i k t r):∀ {l:List Ty} {i:Nat} {a:α},(q56 f i l a).1=none→∀ (m:Nat) (t:Ty) (k:Nat) (r:Rl),l[m]?=some t→t.rels[k]?=some r→g (i+m) k t r=0
 | [],i,a,h,m,t,k,r,ht,_=>by simp at ht
 | x :: l,i,a,h,m,t,k,r,ht,hr=>by
  unfold q56 at h
  split at h
  ·cases h
  ·rename_i a' hq
   cases m with
   | zero=>
    simp at ht;subst ht
    have:=eachR_none (g:=fun k r=>g i k x r) (fun a k r=>hg a i k x r) (k:=0) (a:=a) (by rw [hq]) k r hr
    simpa using this
   | succ m=>
    simp at ht
    have:=eachT_none hg h m t k r ht hr
    rw [show i+(m+1)=i+1+m by omega]
    exact this
theorem q7c {s:List Ty} {f:Nat→Nat→Ty→Rl→Int} (h:q4j s f=none) {i k:Nat} {t:Ty} {r:Rl} (ht:s[i]?=some t) (hr:t.rels[k]?=some r):f i k t r=0:=by
 have:=eachT_none (f:=fun (_:Unit) i k t r=>(f i k t r,())) (g:=f) (fun _ _ _ _ _=>rfl) h i t k r ht hr
 simpa using this
structure GoodS (s:List Ty):Prop where
 some:s.length≠0
 may:scB s=true
 size:szF s=flA 0 0 0
 once:∀ {i k:Nat} {t:Ty} {r:Rl},s[i]?=.some t→t.rels[k]?=.some r→fiN s t.name r.name=(i,k)
 name:∀ {i k:Nat} {t:Ty} {r:Rl},s[i]?=.some t→t.rels[k]?=.some r→q32 s t.name r=0
theorem q34 {a b c:Int}:errA (flA a b c)=c:=rfl
theorem szF_ok {s:List Ty} (h:errA (szF s)=0):szF s=flA 0 0 0∧s.length≤16∧(∀ t∈s,t.rels.length≤16)∧dupI [] s=none:=by
 unfold szF at h ⊢
 split at h
 ·rw [q34] at h;omega
 ·rename_i h1
  rw [if_neg h1]
  split at h
  ·rw [q34] at h;omega
  ·rename_i h2
   split at h
   ·rw [q34] at h;omega
   ·rename_i h3
    refine ⟨rfl,by omega,fun t ht=>?_,by first | rfl | assumption⟩
    obtain ⟨i,hi⟩:=List.getElem?_of_mem ht
    have:=firstI_none.1 h2 i t hi
    simp only [decide_eq_false_iff_not] at this
    omega
theorem plain_good {s:List Ty} (h:errA (q3m s)=0):GoodS s:=by
 unfold q3m at h
 split at h
 ·rw [q34] at h;omega
 ·rename_i h1
  split at h
  ·rename_i h2;exact absurd h h2
  ·rename_i h2
   have h2:errA (szF s)=0:=by omega
   split at h
   ·rename_i i k e hq
    have:=q6f hq
    rw [q34] at h
    exact absurd h this
   ·rename_i hq
    have hn:q4j s (fun _ _ t r=>q32 s t.name r)=none:=by
     cases hq2:q4j s (fun _ _ t r=>q32 s t.name r) with
     | none=>rfl
     | some q=>
      obtain ⟨i,k,e⟩:=q
      have:=q6f hq2
      rw [hq2] at h
      exact absurd h this
    refine ⟨fun h=>h1 (.inl h),?_,(szF_ok h2).1,fun ht hr=>?_,fun ht hr=>q7c hn ht hr⟩
    ·cases hb:scB s with
     | true=>rfl
     | false=>exact absurd (.inr hb) h1
    ·have:=q7c hq ht hr
     unfold q7n at this
     split at this
     ·assumption
     ·omega
theorem firstZ_zero {f:Ex→Int}:∀ {l:List (Ex×Bool)},firstZ f l=0→∀ p∈l,f p.1=0
 | [],h,p,hp=>by cases hp
 | (e,o) :: r,h,p,hp=>by
  unfold firstZ at h
  split at h
  ·rename_i h0
   rcases List.mem_cons.1 hp with rfl | hp
   ·exact h0
   ·exact firstZ_zero h p hp
  ·rename_i h0;exact absurd h h0
theorem GoodS.found {s:List Ty} (h:GoodS s):FoundS s:=by
 intro t ht r hr h0 p hp
 obtain ⟨i,hi⟩:=List.getElem?_of_mem ht
 obtain ⟨k,hk⟩:=List.getElem?_of_mem hr
 have:=h.name hi hk
 unfold q32 at this
 split at this
 ·try rw [if_pos h0] at this
  have h2:=firstZ_zero this p hp
  unfold atomF at h2
  split at h2
  ·omega
  ·rename_i q hq;rw [hq];rfl
 ·omega
theorem GoodS.sizes {s:List Ty} (h:GoodS s):s.length≤16∧(∀ t∈s,t.rels.length≤16)∧dupI [] s=none:=(szF_ok (by rw [h.size];rfl)).2
theorem manyF_le {s:List Ty} (h1:s.length≤16) (h2:∀ t∈s,t.rels.length≤16):q0p s≤256:=by
 have key:∀ l:List Ty,(∀ t∈l,t.rels.length≤16)→q0p l≤l.length * 16:=by
  intro l
  induction l with
  | nil=>intro _;simp [q0p]
  | cons t l ih=>
   intro h
   have:=ih fun u hu=>h u (List.mem_cons_of_mem _ hu)
   have:=h t (by simp)
   simp only [q0p,List.map_cons,List.sum_cons,List.length_cons] at *
   omega
 have:=key s h2
 omega
theorem GoodS.many {s:List Ty} (h:GoodS s):q0p s≤256:=manyF_le h.sizes.1 h.sizes.2.1
def cycF (s:List Ty) (i k:Nat) (_:Ty) (_:Rl):Int:=if q0p s<getL (levF s) (i,k) then 11 else 0
def chkF (s:List Ty):AV:=if errA (q3m s)≠0 then q3m s else flO (q4j s (cycF s))
theorem plainF_fl (s:List Ty):∃ t r e,q3m s=flA t r e:=by
 unfold q3m
 split
 ·exact ⟨_,_,_,rfl⟩
 ·split
  ·exact szF_fl s
  ·split
   ·exact ⟨_,_,_,rfl⟩
   ·cases q4j s (fun _ _ t r=>q32 s t.name r) with
    | none=>exact ⟨_,_,_,rfl⟩
    | some q=>exact ⟨_,_,_,rfl⟩
theorem c_rules_Check_1 {s:List Ty} {S:q00} {bf:Nat} {o:Nat×Nat→Option AV} (h1:KMap MN q1e S bf o) (h2:∀ p,q1q false (.int .i64 0) (o p)=.int .i64 (getL (levF s) p)) {i k:Nat} {t:Ty} {r:Rl} :
  AFunS PG nrx95 [q1e (i,k),.agg (tyC t),.agg (rlC r),.rop [.map (.some bf)],.rop [.int .i64 (q0p s)]] S (.int .i64 (cycF s i k t r)):=by
 refine wx95 ?_
 unfold Bx95
 (try simp only [rwp,hwR,zA,zB,zC,zD,zE,zF,zG,zH,zI,q1e,tyC,q0u])
 rw [h1.lkn,h2]
 (try simp only [rwp,hwR,zA,zB,zC,zD,zE,zF,zG,zH,zI])
 (refine q04 (fun h=>?_) (fun h=>?_)<;>(try simp only [hlc] at h))
 ·exact q03 ⟨by rw [cycF,if_pos (by omega)],rfl⟩
 ·exact q03 ⟨by rw [cycF,if_neg (by omega)],rfl⟩
theorem c_rules_Check {s:List Ty} (hs:OkS s) (hN:OkN s):AFun PG nrx47 [scA s] (chkF s):=by
 intro S
 refine wx47 ?_
 unfold Bx47
 (try simp only [rwp,hwR,zA,zB,zC,zD,zE,zF,zG,zH,zI,scA])
 intro b hb
 (try simp only [rwp,hwR,zA,zB,zC,zD,zE,zF,zG,zH,zI])
 refine q10 (q37 hs _) ?_
 rintro _ S1 ⟨b1,b2,rfl,I,hsub⟩
 have hsb:=objAt_some.2 (hsub b _ (by rw [q01,if_pos rfl]))
 have hS1:Sub S S1:=(Sub.fresh _ hb).trans hsub
 dsimp only
 refine q1a (c_rules_plain hs hN I) ?_
 obtain ⟨ft,fr,fe,hp⟩:=plainF_fl s
 rw [hp]
 (try simp only [rwp,hwR,zA,zB,zC,zD,zE,zF,zG,zH,zI,flA])
 (refine q04 (fun h0=>?_) (fun h0=>?_)<;>(try simp only [hlc] at h0))
 ·(try simp only [rwp,hwR,zA,zB,zC,zD,zE,zF,zG,zH,zI,hsb])
  refine q1h S (hS1.supd hb) ?_
  (try simp only [rwp,hwR,zA,zB,zC,zD,zE,zF,zG,zH,zI])
  rw [chkF,hp,q34,if_pos h0];rfl
 ·have hgood:GoodS s:=plain_good (by rw [hp,q34];omega)
  refine q10 (q5b hs hN hgood.found hgood.many I) ?_
  rintro _ S2 ⟨bf,o,rfl,hm,ho,hsub2⟩
  (try simp only [rwp,hwR,zA,zB,zC,zD,zE,zF,zG,zH,zI])
  refine alst2 rfl rfl rfl rfl rfl rfl ?_
  (try simp only [rwp,hwR,zA,zB,zC,zD,zE,zF,zG,zH,zI])
  have h1:=q3v (b1:=b1) (b2:=b2) (g:=nrx95) (fi:=[]) (ca:=[.rop [.map (.some bf)],.rop [.int .i64 (q0p s)]]) (f:=cycF s) hs (S:=S2) fun i k t r ht hr=>c_rules_Check_1 hm ho
  refine q1a h1 ?_
  have hsb2:=objAt_some.2 (hsub2 b _ (objAt_some.1 hsb))
  have fin:∀ x y z:Int,flO (q4j s (cycF s))=flA x y z→rtW [.cell (.ptr b 0) 3 true] (fun ae S'=>ae=.ret (chkF s)∧S'=S) (supd S2 b (.cells 88 [.int .i64 x,.int .i64 y,.int .i64 z] 3)):=by
   intro x y z h
   refine q1h S ((hS1.trans hsub2).supd hb) ?_
   (try simp only [rwp,hwR,zA,zB,zC,zD,zE,zF,zG,zH,zI])
   rw [chkF,hp,q34,if_neg (by omega),h];rfl
  cases hq:q4j s (cycF s) with
  | none=>
   rw [hq] at fin
   (try simp only [rwp,hwR,zA,zB,zC,zD,zE,zF,zG,zH,zI,flO,flA,hsb2])
   exact fin _ _ _ rfl
  | some q=>
   obtain ⟨i,k,e⟩:=q
   rw [hq] at fin
   (try simp only [rwp,hwR,zA,zB,zC,zD,zE,zF,zG,zH,zI,flO,flA,hsb2])
   exact fin _ _ _ rfl
set_option maxRecDepth 4000
theorem ShV.two {v v':AV} {S S':q00} (h:ShV v S v' S') (b:Bool):ShV (.tup [v,.bool b]) S (.tup [v',.bool b]) S':=by
 intro R w u hS hv
 cases hv with
 | tup _ vs hl h2=>
  obtain ⟨R',h1,h3,h4⟩:=h R w _ hS (h2 0 v rfl)
  refine ⟨R',h1,.tup _ _ hl fun i u hi=>?_,h4⟩
  match i,hi with
  | 0,hi=>simp at hi;subst hi;exact h3
  | 1,hi=>simp at hi;subst hi;exact (h2 1 _ rfl).step h4.mono fun _ _=>rfl
theorem shp_len {lv:Lv} {s:List Ty} (h:Shp lv s):lv.length=s.length:=by
 have:=congrArg List.length h
 simpa using this
theorem shp_row {lv:Lv} {s:List Ty} (h:Shp lv s) {i:Nat} {t:Ty} (ht:s[i]?=some t):∃ l,lv[i]?=some l∧l.length=t.rels.length:=by
 have h1:=congrArg (fun l=>l[i]?) h
 simp only [List.getElem?_map,ht,Option.map_some] at h1
 cases hl:lv[i]? with
 | none=>rw [hl] at h1;cases h1
 | some l=>rw [hl] at h1;exact ⟨l,rfl,by simpa using h1⟩
theorem iterF_shp {N:Nat} {s:List Ty} {w:List Rw} (hw:RwOk s w):∀ {f:Nat} {lv:Lv},Shp lv s→Bdd N lv→Shp (q69 N w f lv) s∧Bdd N (q69 N w f lv)
 | 0,lv,h1,h2=>⟨h1,h2⟩
 | f+1,lv,h1,h2=>by
  obtain ⟨k1,k2,-⟩:=q30 (N:=N) (a:=(lv,false)) hw h1 h2
  unfold q69
  split
  ·exact iterF_shp hw k1 k2
  ·exact ⟨k1,k2⟩
theorem q72 (s:List Ty):Shp (levF s) s:=(iterF_shp (q6z s) (q5x s) (q53 (N:=q0p s))).1
theorem lev_bdd (s:List Ty):Bdd (q0p s) (levF s):=(iterF_shp (q6z s) (q5x s) q53).2
theorem fillA_row {l:List Nat} {k n x:Nat} (hl:l[k]?=some x) (hn:l.length=n):q1d ((l.take k).map iv++List.replicate (n-k) (.int .i64 0)) k [iv x]=(l.take (k+1)).map iv++List.replicate (n-(k+1)) (.int .i64 0):=by
 have hk:=(List.getElem?_eq_some_iff.1 hl).1
 have e1:((l.take k).map iv).length=k:=by simp;omega
 simp only [q1d]
 rw [List.set_append_right _ _ (by omega),e1,Nat.sub_self,q14 hl,List.map_append,List.append_assoc]
 congr 1
 obtain ⟨m,hm⟩:∃ m,n-k=m+1:=⟨n-k-1,by omega⟩
 rw [hm,show n-(k+1)=m by omega]
 rfl
theorem LvO.nil (S:q00) {S':q00} (h:Sub S S'):LvO S S' .nils [] []:=⟨h,rfl,LstN.nil,fun i b l h=>by simp at h,List.nodup_nil⟩
theorem LvO.fresh {S0 S:q00} {v:AV} {bs:List Nat} {lv:Lv} (h:LvO S0 S v bs lv) {c:Nat} (hc:sget S c=none) (o:AObj):LvO S0 (supd S c o) v bs lv:=by
 obtain ⟨hs,hl,h1,h2,h3⟩:=h
 refine ⟨hs.supd (Sub.none hs hc),hl,h1.upd (h1.fresh hc) o,fun i b l k1 k2=>?_,h3⟩
 obtain ⟨o1,o2,o3⟩:=h2 i b l k1 k2
 refine ⟨?_,o2,o3⟩
 rw [q0e (fun e=>by rw [objAt_some.1 (e ▸ o1)] at hc;cases hc)]
 exact o1
theorem q2u {s:List Ty} (h:errA (chkF s)=0):GoodS s:=by
 unfold chkF at h
 split at h
 ·rename_i h1;exact absurd h h1
 ·rename_i h1;exact plain_good (by omega)
theorem chkF_fl (s:List Ty):∃ t r e,chkF s=flA t r e:=by
 unfold chkF
 split
 ·exact plainF_fl s
 ·cases q4j s (cycF s) with
  | none=>exact ⟨_,_,_,rfl⟩
  | some q=>exact ⟨_,_,_,rfl⟩
structure FillI (S0 S:q00) (v:AV) (bs:List Nat) (lv:Lv) (b:Nat) (l:List Nat) (n k:Nat) (bf:Nat) (o:Nat×Nat→Option AV):Prop where
 sub:Sub S0 S
 lst:LstN S0 S 174 1 v (q1l bs lv++[[.own b 0 n n]])
 inn:∀ (i c:Nat) (l:List Nat),bs[i]?=some c→lv[i]?=some l→q0f S c=some (3,l.map iv,l.length)∧sget S0 c=none∧q0l v c
 row:q0f S b=some (3,(l.take k).map iv++List.replicate (n-k) (.int .i64 0),n)
 map:KMap MN q1e S bf o
theorem lvRows_snoc {bs:List Nat} {lv:Lv} {b:Nat} {l:List Nat} (h:bs.length=lv.length):q1l (bs++[b]) (lv++[l])=q1l bs lv++[[.own b 0 l.length l.length]]:=by
 unfold q1l
 rw [List.zipWith_append h]
 rfl
def lvlF (s:List Ty):AV:=if errA (chkF s)=0 then .tup [.sl 1 (lvC (levF s)),.bool true] else .tup [.nils,.bool false]
theorem q5c {s:List Ty} (hs:OkS s) (hN:OkN s):AFun PG nrx56 [scA s] (lvlF s):=by
 intro S
 refine wx56 ?_
 unfold Bx56
 (try simp only [rwp,hwR,zA,zB,zC,zD,zE,zF,zG,zH,zI,scA])
 refine q06 (c_rules_Check hs hN) ?_
 obtain ⟨ft,fr,fe,hp⟩:=chkF_fl s
 rw [hp]
 (try simp only [rwp,hwR,zA,zB,zC,zD,zE,zF,zG,zH,zI,flA])
 (refine q04 (fun h0=>?_) (fun h0=>?_)<;>(try simp only [hlc] at h0))
 ·refine rtW_two ⟨?_,rfl⟩
  rw [lvlF,hp,q34,if_neg (by omega)]
 have hgood:GoodS s:=q2u (by rw [hp,q34];omega)
 refine q10 (q37 hs _) ?_
 rintro _ S1 ⟨b1,b2,rfl,I,hsub1⟩
 dsimp only
 refine q10 (q5b hs hN hgood.found hgood.many I) ?_
 rintro _ S2 ⟨bf,o,rfl,hm,ho,hsub2⟩
 have hsub:=hsub1.trans hsub2
 (try simp only [rwp,hwR,zA,zB,zC,zD,zE,zF,zG,zH,zI])
 have hlv:(levF s).length=s.length:=shp_len (q72 s)
 refine LoopP.introS (fun p:Nat×AV×List Nat=>[(5,.map (some bf)),(7,p.2.1),(23,.sl 2 (s.map tyC)),(24,.int .i64 s.length),(25,.int .i64 p.1)])
  (fun p S'=>p.1≤s.length∧LvO S S' p.2.1 p.2.2 ((levF s).take p.1)∧KMap MN q1e S' bf o∧q0l p.2.1 bf) (fun p=>s.length-p.1) (0,.nils,[]) ⟨by omega,LvO.nil S hsub,hm,fun b off n cap h=>by cases h⟩ rfl ?_
 rintro ⟨i,v,bs⟩ S3 ⟨hi,hL,hM,hA⟩ q hq
 dsimp only at hi hL hM hA
 (try simp only [rwp,hwR,zA,zB,zC,zD,zE,zF,zG,zH,zI,C56_1])
 have hsz:=hgood.sizes
 (refine q04 (fun hlt=>?_) (fun hlt=>?_)<;>(try simp only [hlc] at hlt))
 ·obtain ⟨t,ht⟩:=q0t hlt
  have htn:=hsz.2.1 t (List.mem_of_getElem? ht)
  obtain ⟨l,hl,hll⟩:=shp_row (q72 s) ht
  (try simp only [rwp,hwR,zA,zB,zC,zD,zE,zF,zG,zH,zI,ht])
  refine alst rfl ?_
  (try simp only [rwp,hwR,zA,zB,zC,zD,zE,zF,zG,zH,zI,tyC])
  refine q10 (c_slices_Repeat htn _) ?_
  rintro _ S4 ⟨b,rfl,hb,rfl⟩
  have hb0:=Sub.none hL.sub hb
  have hL0:=hL
  have hbbf:b≠bf:=fun e=>hM.is (e ▸ hb)
  have hL:=hL.fresh hb (.cells 3 (List.replicate t.rels.length (.int .i64 0)) t.rels.length)
  have hM:=hM.fresh hb (.cells 3 (List.replicate t.rels.length (.int .i64 0)) t.rels.length)
  have hbo:q0f (supd S3 b (.cells 3 (List.replicate t.rels.length (.int .i64 0)) t.rels.length)) b=some (3,List.replicate t.rels.length (.int .i64 0),t.rels.length):=q0g
  have hba:q0l v b:=hL0.lst.fresh hb
  have hbn:∀ (j c:Nat),bs[j]?=some c→c≠b:=by
   intro j c hj
   have hj1:=(List.getElem?_eq_some_iff.1 hj).1
   have hj2:j<((levF s).take i).length:=by rw [← hL0.len];exact hj1
   have:=objAt_some.1 (hL0.inn j c _ hj (List.getElem?_eq_getElem hj2)).1
   rintro rfl
   rw [this] at hb
   cases hb
  generalize supd S3 b (.cells 3 (List.replicate t.rels.length (.int .i64 0)) t.rels.length)=S4 at hL hM hbo
  (try simp only [rwp,hwR,zA,zB,zC,zD,zE,zF,zG,zH,zI])
  have hlen:((levF s).take i).length=i:=by simp;omega
  have hrl:(q1l bs ((levF s).take i)).length=i:=by simp [q1l,hL.len,hlen]
  refine LstN.app (rows:=q1l bs ((levF s).take i)) (xs:=[[.own b 0 t.rels.length t.rels.length]]) hL.sub hL.lst (by simp) rfl (by rw [hrl];simp;omega) ?_
  intro v' S5 hs5 hl5 keep
  (try simp only [rwp,hwR,zA,zB,zC,zD,zE,zF,zG,zH,zI])
  have hbS:sget S4 b=some (.cells 3 (List.replicate t.rels.length (.int .i64 0)) t.rels.length):=objAt_some.1 hbo
  have hbv':q0l v' b:=(keep b _ hbS hba).2
  refine LoopP.introS (fun k:Nat=>[(5,.map (some bf)),(7,v'),(8,.int .i64 i),(23,.sl 2 (s.map tyC)),(24,.int .i64 s.length),(25,.int .i64 i),(40,.int .i64 t.rels.length),(41,.int .i64 k)])
   (fun k S'=>k≤t.rels.length∧FillI S S' v' bs ((levF s).take i) b l t.rels.length k bf o) (fun k=>t.rels.length-k) 0 ⟨by omega,hs5,hl5,fun j c l' hj hl'=>?_,?_,?_⟩ rfl ?_
  ·obtain ⟨o1,o2,o3⟩:=hL.inn j c l' hj hl'
   obtain ⟨k1,k2⟩:=keep c _ (objAt_some.1 o1) o3
   exact ⟨objAt_some.2 k1,o2,k2⟩
  ·rw [List.take_zero]
   exact objAt_some.2 (keep b _ hbS hba).1
  ·obtain ⟨es,clk,m1,m2,m3⟩:=hM
   exact ⟨es,clk,mapObj_some.2 (keep bf _ (mapObj_some.1 m1) hA).1,m2,m3⟩
  have hAf:q0l v' bf:=by
   obtain ⟨es,clk,m1,m2,m3⟩:=hM
   exact (keep bf _ (mapObj_some.1 m1) hA).2
  rintro k S6 ⟨hk,hF⟩ q2 hq2
  (try simp only [rwp,hwR,zA,zB,zC,zD,zE,zF,zG,zH,zI,C56_2])
  (refine q04 (fun hlt2=>?_) (fun hlt2=>?_)<;>(try simp only [hlc] at hlt2))
  ·obtain ⟨x,hx⟩:=q0t (l:=l) (i:=k) (by omega)
   have hbx:=lev_bdd s
   have hv:getL (levF s) (i,k)=x:=by simp [getL,hl,hx]
   obtain ⟨hr0,h9 | ⟨bl,cap,rfl,g1,g2,g3,g4,g5⟩⟩:=hF.lst
   ·have:=h9.2;simp at this
   have hll6:(q1l bs ((levF s).take i)++[[AV.own b 0 t.rels.length t.rels.length]]).length=i+1:=by simp [hrl]
   have hd:List.drop (i * 1) (q1l bs ((levF s).take i)++[[AV.own b 0 t.rels.length t.rels.length]]).flatten=[AV.own b 0 t.rels.length t.rels.length]:=by
    rw [List.flatten_append,List.drop_append_of_le_length (by rw [q29 (sz:=1) (fun r hr=>hr0 r (List.mem_append_left _ hr)),hrl];exact Nat.le_refl _),List.drop_of_length_le (by rw [q29 (sz:=1) (fun r hr=>hr0 r (List.mem_append_left _ hr)),hrl];exact Nat.le_refl _)]
    rfl
   (try simp only [rwp,hwR,zA,zB,zC,zD,zE,zF,zG,zH,zI,q07 (objAt_some.2 g2),hd])
   rw [hF.map.lkn,ho,hv]
   (try simp only [rwp,hwR,zA,zB,zC,zD,zE,zF,zG,zH,zI,hF.row])
   refine ⟨by omega,by omega,by simp;omega,?_⟩
   have hfr:=fillA_row hx hll
   simp only [q1d,iv] at hfr
   simp only [Nat.mul_one]
   rw [hfr]
   (simp (disch:=omega) only [q08])
   refine q0a rfl (hq2 (k+1) _ ⟨by omega,hF.sub.supd hb0,hF.lst.upd hbv' _,fun j c l' hj hl'=>?_,q0g,hF.map.upd hbbf _⟩ (by omega))
   obtain ⟨o1,o2,o3⟩:=hF.inn j c l' hj hl'
   exact ⟨by rw [q0e (Ne.symm (hbn j c hj))];exact o1,o2,o3⟩
  ·have:k=t.rels.length:=by omega
   subst this
   have hrow:=hF.row
   rw [List.take_of_length_le (by omega),Nat.sub_self,List.replicate_zero,List.append_nil,← hll] at hrow
   have hlst:=hF.lst
   rw [← hll,← lvRows_snoc hL0.len,← q14 hl] at hlst
   (simp (disch:=omega) only [q08])
   refine q0a rfl (hq (i+1,v',bs++[b]) S6 ⟨by dsimp only;omega,⟨hF.sub,?_,hlst,fun j c l' hj hl'=>?_,?_⟩,hF.map,hAf⟩ (by dsimp only;omega))
   ·have:=hL0.len
    simp only [List.length_append,List.length_cons,List.length_nil,List.length_take] at this hlen ⊢
    omega
   ·rw [q14 hl] at hl'
    by_cases hjb:j<bs.length
    ·rw [List.getElem?_append_left hjb] at hj
     rw [List.getElem?_append_left (by rw [← hL0.len];exact hjb)] at hl'
     exact hF.inn j c l' hj hl'
    ·rw [List.getElem?_append_right (by omega)] at hj
     rw [List.getElem?_append_right (by rw [← hL0.len];omega),← hL0.len] at hl'
     obtain ⟨m,hm⟩:∃ m,j-bs.length=m:=⟨_,rfl⟩
     rw [hm] at hj hl'
     cases m with
     | succ m=>simp at hj
     | zero=>
      simp at hj hl'
      subst hj;subst hl'
      exact ⟨hrow,hb0,hbv'⟩
   ·refine List.nodup_append.2 ⟨hL0.nod,by simp,fun x hx y hy e=>?_⟩
    simp at hy
    subst hy
    obtain ⟨j,hj⟩:=List.getElem?_of_mem hx
    exact hbn j x hj e
 ·have hend:(levF s).take i=levF s:=List.take_of_length_le (by omega)
  rw [hend] at hL
  refine rtW_view (vs:=[v,.bool true]) rfl ((ShV.lv hL).two true) ⟨?_,rfl⟩
  rw [lvlF,hp,q34,if_pos (by omega)]
set_option maxRecDepth 4000
set_option maxRecDepth 4000
theorem firstI_take {α:Type} {p:α→Bool}:∀ {l:List α} {i:Nat},(q0k p (l.take i)).isSome=match q0k p l with
  | some j=>decide (j<i)
  | none=>false
 | [],i=>by simp [q0k]
 | x :: l,0=>by
  rw [List.take_zero]
  cases q0k p (x :: l)<;>simp [q0k]
 | x :: l,i+1=>by
  rw [List.take_succ_cons]
  unfold q0k
  by_cases h:p x=true
  ·simp [h]
  ·simp only [h,if_false,Bool.false_eq_true]
   have:=firstI_take (p:=p) (l:=l) (i:=i)
   cases h2:q0k p l with
   | none=>rw [h2] at this;simpa using this
   | some j=>rw [h2] at this;simpa using this
theorem firstI_at {α:Type} {p:α→Bool} {l:List α} {i:Nat} {x:α} (h:l[i]?=some x) (hp:p x=true):∃ j,q0k p l=some j∧j≤i:=by
 cases hq:q0k p l with
 | none=>rw [firstI_none.1 hq i x h] at hp;cases hp
 | some j=>
  obtain ⟨-,h2⟩:=firstI_some.1 hq
  refine ⟨j,rfl,?_⟩
  rcases Nat.lt_or_ge i j with h3 | h3
  ·rw [h2 i x h3 h] at hp;cases hp
  ·exact h3
theorem dupB_oi {s:List Ty} {i:Nat} {t:Ty} (h:s[i]?=some t):decide (oi (typF s t.name)<(i:Int))=dupB (s.take i) t:=by
 obtain ⟨j,h1,h2⟩:=firstI_at (p:=fun u:Ty=>decide (u.name=t.name)) h (by simp)
 have h3:=firstI_take (p:=fun u:Ty=>decide (u.name=t.name)) (l:=s) (i:=i)
 rw [h1] at h3
 unfold dupB typF
 rw [h3,h1]
 simp only [oi]
 simp
theorem dup_all:∀ {r ts:List Ty},dupI ts r=none→∀ (m:Nat) (t:Ty),r[m]?=some t→dupB (ts++r.take m) t=false
 | [],ts,h,m,t,ht=>by simp at ht
 | x :: r,ts,h,m,t,ht=>by
  unfold dupI at h
  split at h
  ·cases h
  ·rename_i h0
   cases m with
   | zero=>simp at ht;subst ht;simpa using h0
   | succ m=>
    simp at ht
    have:=dup_all h m t ht
    simpa using this
theorem dup_typ {s:List Ty} (h:dupI [] s=none) {i:Nat} {t:Ty} (ht:s[i]?=some t):typF s t.name=some i:=by
 have h1:=dup_all h i t ht
 rw [List.nil_append,← dupB_oi ht] at h1
 obtain ⟨j,h2,h3⟩:=firstI_at (p:=fun u:Ty=>decide (u.name=t.name)) ht (by simp)
 have h4:typF s t.name=some j:=h2
 rw [h4] at h1 ⊢
 simp [oi] at h1
 congr 1
 omega
set_option maxRecDepth 4000
theorem esz_kid {k:Int} {n o:ByteArray} {ks:List Ex} {x:Ex} (h:x∈ks):esz x≤esz (.mk k n o ks):=by
 have:∀ l:List Ex,x∈l→esz x≤eszL l:=by
  intro l
  induction l with
  | nil=>intro h;cases h
  | cons y l ih=>
   intro h
   rw [eszL]
   rcases List.mem_cons.1 h with rfl | h
   ·omega
   ·have:=ih h;omega
 have:=this ks h
 rw [esz]
 omega
set_option maxRecDepth 4000
theorem good_typ {s:List Ty} (h:GoodS s) {i:Nat} {t:Ty} (ht:s[i]?=some t):typF s t.name=some i:=dup_typ h.sizes.2.2 ht
set_option maxRecDepth 4000
theorem LvO.cell {S0 S:q00} {v:AV} {bs:List Nat} {lv:Lv} (h:LvO S0 S v bs lv) {i j:Nat} (hin:In lv (i,j)):∃ bl cap b l,v=.own bl 0 lv.length cap∧i<lv.length∧q0f S bl=some (174,(q1l bs lv).flatten,cap * 1)∧(q1l bs lv).flatten.drop i=.own b 0 l.length l.length :: (q1l bs lv).flatten.drop (i+1) ∧
  bs[i]?=some b∧lv[i]?=some l∧q0f S b=some (3,l.map iv,l.length)∧b≠bl∧l[j]?=some (getL lv (i,j)):=by
 obtain ⟨l,h1,h2⟩:=hin
 dsimp only at h1 h2
 have hil:=(List.getElem?_eq_some_iff.1 h1).1
 obtain ⟨hs,hlen,⟨hr,hl⟩,hi,hnd⟩:=h
 have hrl:(q1l bs lv).length=lv.length:=by simp [q1l,hlen]
 obtain ⟨b,hb⟩:∃ b,bs[i]?=some b:=⟨_,List.getElem?_eq_getElem (by omega)⟩
 obtain ⟨o1,o2,o3⟩:=hi i b l hb h1
 have hrow:(q1l bs lv)[i]?=some [.own b 0 l.length l.length]:=by rw [lvRows_get,hb,h1]
 rcases hl with ⟨rfl,h0⟩ | ⟨bl,cap,rfl,k1,k2,k3,k4,k5⟩
 ·rw [h0] at hrow;simp at hrow
 ·refine ⟨bl,cap,b,l,by rw [hrl],hil,objAt_some.2 k2,?_,hb,h1,o1,o3 bl 0 _ _ rfl,?_⟩
  ·have h3:=q6b hr hrow (j:=0) rfl
   rw [Nat.mul_one,Nat.add_zero] at h3
   exact q0z h3
  ·unfold getL
   rw [h1]
   simp [List.getElem?_eq_getElem h2]
theorem LvO.rd {S0 S:q00} {v:AV} {bs:List Nat} {lv:Lv} (h:LvO S0 S v bs lv) {i j:Nat} (hin:In lv (i,j)) {K:AV→Prop} (hK:K (.int .i64 (getL lv (i,j)))) :
  iaW 1 v (.int .i64 i) (fun a=>ldW S 1 false a fun r=>iaW 1 r (.int .i64 j) fun c=>ldW S 1 false c K):=by
 obtain ⟨bl,cap,b,l,rfl,h1,h2,h3,h4,h5,h6,h7,h8⟩:=h.cell hin
 have hj:=(List.getElem?_eq_some_iff.1 h8).1
 have hd:(l.map iv).drop j=iv (getL lv (i,j)) :: (l.map iv).drop (j+1):=q0z (by rw [List.getElem?_map,h8];rfl)
 rw [iaW_own]
 refine ⟨by omega,by omega,?_⟩
 rw [ldW_ptr,q07 h2,q66,Int.toNat_natCast,Nat.mul_one,Nat.zero_add,h3,mkW_one,iaW_own]
 refine ⟨by omega,by omega,?_⟩
 rw [ldW_ptr,q07 h6,q66,Int.toNat_natCast,Nat.mul_one,Nat.zero_add,hd,mkW_one]
 exact hK
theorem LvO.app {S0 S:q00} {v:AV} {bs:List Nat} {lv:Lv} (h:LvO S0 S v bs lv) {b:Nat} (hb:sget S b=none) (l:List Nat) (hlen:lv.length≤1000000) {K:AV→q00→Prop} (hK:∀ v' S',LvO S0 S' v' (bs++[b]) (lv++[l])→K v' S') :
  apW (supd S b (.cells 3 (l.map iv) l.length)) 174 1 24 v (.sl 1 [[.own b 0 l.length l.length]]) K:=by
 have hb0:=Sub.none h.sub hb
 have hba:q0l v b:=h.lst.fresh hb
 have hbn:∀ (j c:Nat),bs[j]?=some c→c≠b:=by
  intro j c hj
  have hj1:=(List.getElem?_eq_some_iff.1 hj).1
  have hj2:j<lv.length:=by rw [← h.len];exact hj1
  have:=objAt_some.1 (h.inn j c _ hj (List.getElem?_eq_getElem hj2)).1
  rintro rfl
  rw [this] at hb
  cases hb
 have hL:=h.fresh hb (.cells 3 (l.map iv) l.length)
 have hrl:(q1l bs lv).length=lv.length:=by simp [q1l,h.len]
 have hbo:sget (supd S b (.cells 3 (l.map iv) l.length)) b=some (.cells 3 (l.map iv) l.length):=by rw [q01,if_pos rfl]
 refine LstN.app (rows:=q1l bs lv) (xs:=[[.own b 0 l.length l.length]]) hL.sub hL.lst (by simp) rfl (by rw [hrl];simp;omega) ?_
 intro v' S5 hs5 hl5 keep
 obtain ⟨q1,q2⟩:=keep b _ hbo hba
 rw [← lvRows_snoc h.len] at hl5
 refine hK v' S5 ⟨hs5,by simp [h.len],hl5,fun j c l' hj hl'=>?_,?_⟩
 ·by_cases hjb:j<bs.length
  ·rw [List.getElem?_append_left hjb] at hj
   rw [List.getElem?_append_left (by rw [← h.len];exact hjb)] at hl'
   obtain ⟨o1,o2,o3⟩:=hL.inn j c l' hj hl'
   obtain ⟨k1,k2⟩:=keep c _ (objAt_some.1 o1) o3
   exact ⟨objAt_some.2 k1,o2,k2⟩
  ·rw [List.getElem?_append_right (by omega)] at hj
   rw [List.getElem?_append_right (by rw [← h.len];omega),← h.len] at hl'
   obtain ⟨m,hm⟩:∃ m,j-bs.length=m:=⟨_,rfl⟩
   rw [hm] at hj hl'
   cases m with
   | succ m=>simp at hj
   | zero=>
    simp at hj hl'
    subst hj;subst hl'
    exact ⟨objAt_some.2 q1,hb0,q2⟩
 ·refine List.nodup_append.2 ⟨h.nod,by simp,fun x hx y hy e=>?_⟩
  simp at hy
  subst hy
  obtain ⟨j,hj⟩:=List.getElem?_of_mem hx
  exact hbn j x hj e
set_option maxRecDepth 4000
theorem sum_mem:∀ {l:List Nat} {x:Nat},x∈l→x≤l.sum
 | [],x,h=>by cases h
 | y :: l,x,h=>by
  rw [List.sum_cons]
  rcases List.mem_cons.1 h with rfl | h
  ·omega
  ·have:=sum_mem h;omega
theorem few_N {s:List Ty} {most:Int} (h:fewF s most=true) (hm:most≤1000):OkN s:=by
 have h1:=few_size h
 intro t ht r hr
 have h2:rsz r≤tsz t:=by
  unfold tsz
  exact sum_mem (List.mem_map_of_mem hr)
 have h3:tsz t≤(s.map tsz).sum:=sum_mem (List.mem_map_of_mem ht)
 unfold ssz at h1
 omega
set_option maxRecDepth 4000
structure Ob where
 ty:ByteArray
 id:ByteArray
 deriving DecidableEq
structure Nd where
 o:Ob
 rl:ByteArray
 deriving DecidableEq
structure Tu where
 o:Ob
 rl:ByteArray
 s:Nd
 deriving DecidableEq
def obC (o:Ob):List AV:=[.str o.ty,.str o.id]
def ndC (n:Nd):List AV:=[.str n.o.ty,.str n.o.id,.str n.rl]
def tuC (t:Tu):List AV:=[.str t.o.ty,.str t.o.id,.str t.rl,.str t.s.o.ty,.str t.s.o.id,.str t.s.rl]
structure OkO (o:Ob):Prop where
 ty:o.ty.size≤1125899906842624
 id:o.id.size≤1125899906842624
structure OkD (n:Nd):Prop where
 o:OkO n.o
 rl:n.rl.size≤1125899906842624
structure OkU (t:Tu):Prop where
 o:OkO t.o
 rl:t.rl.size≤1125899906842624
 s:OkD t.s
theorem c_names_great (n:Int):AFun PG nrx201 [.int .u8 n] (.bool (greatN n)):=by
 intro S
 refine wx201 ?_
 unfold Bx201
 (try simp only [rwp,zA,zB,zC,zD,zE,zF,zG,zH,zI])
 exact q03 ⟨rfl,rfl⟩
theorem q7h (s:ByteArray) (c:Int):AFun PG 216 [.str s,.int .u8 c] (.int .i64 (Lib.indexByte s.data.toList c.toNat.toUInt8)):=by
 intro S R w vs hs hv
 obtain ⟨l⟩:=vs
 match l,hv with
 | [],hv=>cases hv.1
 | [_],hv=>cases hv.1
 | _ :: _ :: _ :: _,hv=>cases hv.1
 | [a,b],hv=>
  have h1:RV R w (.str s) a:=hv.head
  have h2:RV R w (.int .u8 c) b:=hv.tail.head
  cases h1
  cases h2
  refine .inr ⟨_,w,?_,R,S,.ret (.int .i64 (Lib.indexByte s.data.toList c.toNat.toUInt8)),.int _ _,⟨rfl,rfl⟩,hs,Step.refl _ _ _⟩
  rw [run_callFunc_extern Go.Proofs.Tryz.func216 (by kernel_rfl) (by kernel_rfl) (by kernel_rfl) (e:=Extern.BytealgIndexByte.indexByte) (by kernel_rfl),Lib.run_indexByteString]
  rfl
theorem c_IndexByte0 (s:ByteArray) (c:Int):AFun PG nrx213 [.str s,.int .u8 c] (.int .i64 (Lib.indexByte s.data.toList c.toNat.toUInt8)):=by
 intro S
 refine wx213 ?_
 unfold Bx213
 refine q06 (q7h s c) ?_
 exact q03 ⟨rfl,rfl⟩
theorem c_IndexByte (s:ByteArray) (c:Int):AFun PG nrx202 [.str s,.int .u8 c] (.int .i64 (Lib.indexByte s.data.toList c.toNat.toUInt8)):=by
 intro S
 refine wx202 ?_
 unfold Bx202
 refine q06 (c_IndexByte0 s c) ?_
 exact q03 ⟨rfl,rfl⟩
def signN (n:Int):Bool:=decide (n=95)||(decide (n=46)||decide (n=45))
theorem sign_idx {b:UInt8}:decide ((0:Int)≤Lib.indexByte [95,46,45] b.toNat.toUInt8)=signN b.toNat:=by
 have key:∀ n:Fin 256,decide ((0:Int)≤Lib.indexByte [95,46,45] n.1.toUInt8)=signN n.1:=by decide +kernel
 exact key ⟨b.toNat,b.toNat_lt⟩
def idN (n:Int):Bool:=q57 n||(greatN n||(digitN n||signN n))
theorem c_names_ID_1 (b:UInt8):AFun PG nrx200 [.int .u8 b.toNat] (.bool (idN b.toNat)):=by
 intro S
 refine wx200 ?_
 unfold Bx200
 refine q06 (q3w b.toNat) ?_
 cases h1:q57 b.toNat
 ·(try simp only [rwp,zA,zB,zC,zD,zE,zF,zG,zH,zI])
  refine q06 (c_names_great b.toNat) ?_
  cases h2:greatN b.toNat
  ·(try simp only [rwp,zA,zB,zC,zD,zE,zF,zG,zH,zI,C200_1])
   refine q06 (q6i b.toNat) ?_
   cases h3:digitN b.toNat
   ·(try simp only [rwp,zA,zB,zC,zD,zE,zF,zG,zH,zI,C200_2])
    refine q06 (c_IndexByte _ _) ?_
    (try simp only [rwp,zA,zB,zC,zD,zE,zF,zG,zH,zI])
    exact q03 ⟨by rw [sign_idx];simp [idN,h1,h2,h3],rfl⟩
   ·(try simp only [rwp,zA,zB,zC,zD,zE,zF,zG,zH,zI,C200_2])
    exact q03 ⟨by simp [idN,h1,h2,h3],rfl⟩
  ·(try simp only [rwp,zA,zB,zC,zD,zE,zF,zG,zH,zI,C200_1,C200_2])
   exact q03 ⟨by simp [idN,h1,h2],rfl⟩
 ·(try simp only [rwp,zA,zB,zC,zD,zE,zF,zG,zH,zI,C200_1,C200_2])
  exact q03 ⟨by simp [idN,h1],rfl⟩
def idB (s:ByteArray):Bool:=allB idN s&&(decide ((0:Int)<s.size)&&decide ((s.size:Int)≤24))
theorem c_names_ID {s:ByteArray} (hs:s.size≤1125899906842624):AFun PG nrx168 [.str s] (.bool (idB s)):=by
 intro S
 refine wx168 ?_
 unfold Bx168
 refine q06 (q81 c_names_ID_1 hs 24) ?_
 exact q03 ⟨rfl,rfl⟩
theorem nb1:∀ a b c d e:Bool,(!(a&&b)&&!c&&!d&&!e)=!((a&&b)||(c||(d||e))):=by decide
theorem nb2:∀ z a b c d e:Bool,(!z&&!(a&&b)&&!c&&!d&&!e)=!(z||((a&&b)||(c||(d||e)))):=by decide
theorem c_ref10_ID {s:ByteArray} (hs:s.size≤1125899906842624):AFun PG nrx79 [.str s] (.bool (idB s)):=by
 intro S
 refine wx79 ?_
 unfold Bx79
 (try simp only [rwp,zA,zB,zC,zD,zE,zF,zG,zH,zI,C79_1])
 (refine q04 (fun h0=>?_) (fun h0=>?_)<;>(try simp only [rwp,zA,zB,zC,zD,zE,zF,zG,zH,zI,h0]))
 ·simp only [Bool.or_eq_true,decide_eq_true_eq] at h0
  refine q03 ⟨?_,rfl⟩
  have:idB s=false:=by
   rcases h0 with h | h
   ·simp only [idB,decide_eq_false (show ¬ (0:Int)<s.size by omega),Bool.false_and,Bool.and_false]
   ·simp only [idB,decide_eq_false (show ¬ (s.size:Int)≤24 by omega),Bool.and_false]
  rw [this]
 ·simp only [Bool.or_eq_false_iff,decide_eq_false_iff_not] at h0
  refine LoopP.intro (fun i:Nat=>[(0,.str s),(3,.int .i64 i)]) (fun _=>S) (fun i=>i≤s.size∧∀ j b,j<i→s[j]?=some b→idN b.toNat=true) (fun i=>s.size-i) 0 ⟨by omega,by omega⟩ rfl (Sub.refl S) ?_
  rintro i ⟨hi,hn⟩ r hr
  (try simp only [rwp,zA,zB,zC,zD,zE,zF,zG,zH,zI,C79_2])
  (refine q04 (fun hlt=>?_) (fun hlt=>?_)<;>(try simp only [hlc] at hlt))
  ·obtain ⟨b,hb⟩:=q3x hlt
   (try simp only [rwp,zA,zB,zC,zD,zE,zF,zG,zH,zI,hb])
   have good:idN b.toNat=true→r [(0,.str s),(3,.int .i64 ((i:Int)+1))] S:=fun h=>by
    refine hr (i+1) ⟨by omega,fun j c hj hc=>?_⟩ (by omega)
    rcases Nat.lt_succ_iff_lt_or_eq.1 hj with h1 | rfl
    ·exact hn j c h1 hc
    ·rw [hb] at hc;cases hc;exact h
   have bad:idN b.toNat=false→idB s=false:=fun h=>by simp only [idB,q7k hb h,Bool.false_and]
   cases a1:(decide (97≤(b.toNat:Int))&&decide ((b.toNat:Int)≤122))<;>cases a2:decide (65≤(b.toNat:Int))<;>(try simp only [rwp,zA,zB,zC,zD,zE,zF,zG,zH,zI,C79_3,C79_4,C79_5,C79_6,C79_7,C79_8,C79_9,C79_10,a1,a2])
   all_goals have key:idN b.toNat=((decide (97≤(b.toNat:Int))&&decide ((b.toNat:Int)≤122))||((decide (65≤(b.toNat:Int))&&decide ((b.toNat:Int)≤90))||((decide (48≤(b.toNat:Int))&&decide ((b.toNat:Int)≤57))||(decide ((b.toNat:Int)=95)||(decide ((b.toNat:Int)=46)||decide ((b.toNat:Int)=45)))))):=rfl
   all_goals rw [a1,a2] at key
   ·simp only [Bool.false_or,Bool.false_and] at key
    (refine q04 (fun h9=>?_) (fun h9=>?_)<;>(try simp only [rwp,zA,zB,zC,zD,zE,zF,zG,zH,zI,h9]))
    ·exact q03 ⟨by rw [bad (key.trans (Eq.mp (Bool.not_eq_true' _) ((nb1 _ _ _ _ _).symm.trans h9)))],rfl⟩
    ·(simp (disch:=omega) only [q08]);exact q0a rfl (good (key.trans (Eq.mp (Bool.not_eq_false' _) ((nb1 _ _ _ _ _).symm.trans h9))))
   ·simp only [Bool.false_or,Bool.true_and] at key
    (refine q04 (fun h9=>?_) (fun h9=>?_)<;>(try simp only [rwp,zA,zB,zC,zD,zE,zF,zG,zH,zI,h9]))
    ·exact q03 ⟨by rw [bad (key.trans (Eq.mp (Bool.not_eq_true' _) ((nb2 _ _ _ _ _ _).symm.trans h9)))],rfl⟩
    ·(simp (disch:=omega) only [q08]);exact q0a rfl (good (key.trans (Eq.mp (Bool.not_eq_false' _) ((nb2 _ _ _ _ _ _).symm.trans h9))))
   ·(simp (disch:=omega) only [q08]);exact q0a rfl (good key)
   ·(simp (disch:=omega) only [q08]);exact q0a rfl (good key)
  ·have hall:allB idN s=true:=allB_iff.2 fun j c hc=>hn j c (by have:=q6m hc;omega) hc
   refine q03 ⟨?_,rfl⟩
   rw [idB,hall,decide_eq_true (show (0:Int)<s.size by omega),decide_eq_true (show (s.size:Int)≤24 by omega)]
   rfl
def obB (o:Ob):Bool:=q0v o.ty&&idB o.id
def tuB (t:Tu):Bool:=obB t.o&&(obB t.s.o&&(q0v t.rl&&(decide (t.s.rl=⟨#[]⟩)||q0v t.s.rl)))
def q84 (o:Ob):ByteArray:=if obB o then o.ty++⟨#[58]⟩++o.id else ⟨#[]⟩
def showN (n:Nd):ByteArray:=if obB n.o then (if n.rl=⟨#[]⟩ then q84 n.o else if q0v n.rl then q84 n.o++⟨#[35]⟩++n.rl else ⟨#[]⟩) else ⟨#[]⟩
def showT (t:Tu):ByteArray:=if tuB t then q84 t.o++⟨#[35]⟩++t.rl++⟨#[64]⟩++showN t.s else ⟨#[]⟩
theorem q3c {a b:ByteArray}:(a++b).size=a.size+b.size:=by simp
theorem app_ne {a b:ByteArray} (h:0<a.size∨0<b.size):¬ a++b=⟨#[]⟩:=fun e=>by
 have:=congrArg ByteArray.size e
 rw [q3c] at this
 have:(ByteArray.mk #[]).size=0:=rfl
 omega
theorem q3h {o:Ob} (ho:OkO o):AFun PG nrx124 [.agg (obC o)] (.str (q84 o)):=by
 intro S
 refine wx124 ?_
 unfold Bx124
 (try simp only [rwp,zA,zB,zC,zD,zE,zF,zG,zH,zI,rwb,reduceIte,obC])
 refine q06 (q0w ho.ty) ?_
 have h1:=ho.ty
 have h2:=ho.id
 cases a1:q0v o.ty
 ·(try simp only [rwp,zA,zB,zC,zD,zE,zF,zG,zH,zI,rwb,reduceIte,C124_1])
  exact q03 ⟨by simp [q84,obB,a1],rfl⟩
 ·(try simp only [rwp,zA,zB,zC,zD,zE,zF,zG,zH,zI,rwb,reduceIte])
  refine q06 (c_names_ID ho.id) ?_
  cases a2:idB o.id
  ·(try simp only [rwp,zA,zB,zC,zD,zE,zF,zG,zH,zI,rwb,reduceIte,C124_1])
   exact q03 ⟨by simp [q84,obB,a1,a2],rfl⟩
  ·(try simp only [rwp,zA,zB,zC,zD,zE,zF,zG,zH,zI,rwb,reduceIte,C124_1,ByteArray.size_append])
   refine ⟨?_,?_,q03 ⟨by simp [q84,obB,a1,a2],rfl⟩⟩
   ·have:(ByteArray.mk #[58]).size=1:=rfl
    omega
   ·have:(ByteArray.mk #[58]).size=1:=rfl
    omega
theorem showO_le {o:Ob} (ho:OkO o):(q84 o).size≤2251799813685249:=by
 have h1:=ho.ty
 have h2:=ho.id
 unfold q84
 split
 ·rw [q3c,q3c]
  have:(ByteArray.mk #[58]).size=1:=rfl
  omega
 ·exact Nat.zero_le _
theorem showO_nil {o:Ob}:decide (q84 o=⟨#[]⟩)=!obB o:=by
 unfold q84
 cases h:obB o
 ·rfl
 ·rw [if_pos rfl]
  refine decide_eq_false (app_ne (.inl ?_))
  rw [q3c]
  have:(ByteArray.mk #[58]).size=1:=rfl
  omega
theorem q5m {n:Nd} (hn:OkD n):AFun PG nrx125 [.agg (ndC n)] (.str (showN n)):=by
 intro S
 refine wx125 ?_
 unfold Bx125
 (try simp only [rwp,zA,zB,zC,zD,zE,zF,zG,zH,zI,rwb,reduceIte,ndC])
 have q:=q3h hn.o
 simp only [obC] at q
 have h1:=showO_le hn.o
 have h2:=hn.rl
 refine q06 q ?_
 (try simp only [rwp,zA,zB,zC,zD,zE,zF,zG,zH,zI,rwb,reduceIte])
 rw [showO_nil]
 cases a1:obB n.o
 ·(try simp only [rwp,zA,zB,zC,zD,zE,zF,zG,zH,zI,rwb,reduceIte,C125_1])
  exact q03 ⟨by simp [showN,q84,a1],rfl⟩
 ·cases a2:decide (n.rl=⟨#[]⟩)
  ·(try simp only [rwp,zA,zB,zC,zD,zE,zF,zG,zH,zI,rwb,reduceIte,C125_1,a2])
   have a2:=of_decide_eq_false a2
   refine q06 (q0w hn.rl) ?_
   cases a3:q0v n.rl
   ·(try simp only [rwp,zA,zB,zC,zD,zE,zF,zG,zH,zI,rwb,reduceIte])
    exact q03 ⟨by simp [showN,a1,a2,a3],rfl⟩
   ·(try simp only [rwp,zA,zB,zC,zD,zE,zF,zG,zH,zI,rwb,reduceIte,ByteArray.size_append])
    have:(ByteArray.mk #[35]).size=1:=rfl
    exact ⟨by omega,by omega,q03 ⟨by simp [showN,a1,a2,a3],rfl⟩⟩
  ·(try simp only [rwp,zA,zB,zC,zD,zE,zF,zG,zH,zI,rwb,reduceIte,C125_1,a2])
   have a2:=of_decide_eq_true a2
   exact q03 ⟨by simp [showN,a1,a2],rfl⟩
theorem showN_le {n:Nd} (hn:OkD n):(showN n).size≤4503599627370496:=by
 have h1:=showO_le hn.o
 have h2:=hn.rl
 have:(ByteArray.mk #[35]).size=1:=rfl
 unfold showN
 repeat' split
 ·omega
 ·rw [q3c,q3c];omega
 ·exact Nat.zero_le _
 ·exact Nat.zero_le _
theorem showN_nil {n:Nd}:decide (showN n=⟨#[]⟩)=!(obB n.o&&(decide (n.rl=⟨#[]⟩)||q0v n.rl)):=by
 unfold showN
 cases h1:obB n.o
 ·rfl
 ·rw [if_pos rfl]
  by_cases h2:n.rl=⟨#[]⟩
  ·rw [if_pos h2,showO_nil,h1,decide_eq_true h2];rfl
  ·rw [if_neg h2,decide_eq_false h2]
   cases h3:q0v n.rl
   ·rfl
   ·rw [if_pos rfl]
    refine decide_eq_false (app_ne (.inl ?_))
    rw [q3c]
    have:(ByteArray.mk #[35]).size=1:=rfl
    omega
theorem tuB_eq (t:Tu):tuB t=(obB t.o&&((obB t.s.o&&(decide (t.s.rl=⟨#[]⟩)||q0v t.s.rl))&&q0v t.rl)):=by
 unfold tuB
 cases obB t.o<;>cases obB t.s.o<;>cases q0v t.rl<;>simp
theorem showT_nil {t:Tu}:decide (showT t=⟨#[]⟩)=!tuB t:=by
 unfold showT
 cases h1:tuB t
 ·rfl
 ·rw [if_pos rfl]
  refine decide_eq_false (app_ne (.inl ?_))
  rw [q3c]
  have:(ByteArray.mk #[64]).size=1:=rfl
  omega
theorem q7g {t:Tu} (ht:OkU t):AFun PG nrx98 [.agg (tuC t)] (.str (showT t)):=by
 intro S
 refine wx98 ?_
 unfold Bx98
 (try simp only [rwp,zA,zB,zC,zD,zE,zF,zG,zH,zI,rwb,reduceIte,tuC])
 have q1:=q3h ht.o
 have q2:=q5m ht.s
 simp only [obC] at q1
 simp only [ndC] at q2
 have h1:=showO_le ht.o
 have h2:=showN_le ht.s
 have h3:=ht.rl
 refine q06 q1 ?_
 (try simp only [rwp,zA,zB,zC,zD,zE,zF,zG,zH,zI,rwb,reduceIte])
 refine q06 q2 ?_
 (try simp only [rwp,zA,zB,zC,zD,zE,zF,zG,zH,zI,rwb,reduceIte])
 have e:=tuB_eq t
 rw [showO_nil,showN_nil]
 cases a1:obB t.o
 ·(try simp only [rwp,zA,zB,zC,zD,zE,zF,zG,zH,zI,rwb,reduceIte,C98_1,C98_2])
  exact q03 ⟨by simp [showT,e,a1],rfl⟩
 ·cases a2:(obB t.s.o&&(decide (t.s.rl=⟨#[]⟩)||q0v t.s.rl))
  ·(try simp only [rwp,zA,zB,zC,zD,zE,zF,zG,zH,zI,rwb,reduceIte,C98_1,C98_2])
   exact q03 ⟨by simp only [showT,e,a1,a2];rfl,rfl⟩
  ·(try simp only [rwp,zA,zB,zC,zD,zE,zF,zG,zH,zI,rwb,reduceIte,C98_1])
   refine q06 (q0w ht.rl) ?_
   cases a3:q0v t.rl
   ·(try simp only [rwp,zA,zB,zC,zD,zE,zF,zG,zH,zI,rwb,reduceIte,C98_2])
    exact q03 ⟨by simp only [showT,e,a1,a2,a3];rfl,rfl⟩
   ·(try simp only [rwp,zA,zB,zC,zD,zE,zF,zG,zH,zI,rwb,reduceIte,C98_2,ByteArray.size_append])
    have:(ByteArray.mk #[35]).size=1:=rfl
    have:(ByteArray.mk #[64]).size=1:=rfl
    exact ⟨by omega,by omega,by omega,by omega,q03 ⟨by simp only [showT,e,a1,a2,a3];rfl,rfl⟩⟩
end Go.HL
