/- A part of a proof. -/
import Derived.Test.YtadmdlpmikoghaaGreatKeHlN
import Derived.Test.YtadmdlpmikoghaaGreatKeHlS2
import Derived.Test.YtadmdlpmikoghaaGreatKeHlS4
import Derived.Test.YtadmdlpmikoghaaGreatKeHlS5
import Derived.Test.YtadmdlpmikoghaaGreatKeHlS12
import Derived.Test.YtadmdlpmikoghaaGreatKeHlS9
import Derived.Test.YtadmdlpmikoghaaGreatKeHlS10
import Derived.Test.YtadmdlpmikoghaaGreatKeHlS14
import Derived.Test.YtadmdlpmikoghaaGreatKeHlS3
import Derived.Test.YtadmdlpmikoghaaGreatKeHlS6
import Derived.Test.YtadmdlpmikoghaaGreatKeHlS13
import Derived.Test.YtadmdlpmikoghaaGreatKeHlS7
set_option linter.defProp false
set_option linter.unusedSimpArgs false
set_option linter.unusedVariables false
namespace Go.HL
open List renaming length_map→lA,mem_of_getElem?→lB,getElem?_map→lC,length_cons→lD,getElem?_eq_getElem→lE,take_of_length_le→lF,replicate→lG,length_append→lH,range'→lI,length_nil→lJ,map_append→lK,getElem?_of_mem→lL,mem_cons_of_mem→lM,mem_cons→lN,mem_singleton→lO,length_singleton→lP,nil_append→lQ,length_take→lR,getElem?_set→lT,append_nil→lU,append_assoc→lW,flatten_append→lX,mem_append_left→lY
open Nat renaming reduceAdd→zA,reduceLeDiff→zB,reduceLT→zC,reduceSub→zD,reduceMul→zE,reduceEqDiff→zF,reduceBEq→zG
open Int renaming reduceAdd→zH,reduceToNat→zI
section
variable {α:Type}
def vl (n:Nat) (v:Nat->α):List α:=(List.range n).map v
theorem q1p {n:Nat} {v:Nat->α}:(vl n v).length=n:=by simp [vl]
theorem y70 {n:Nat} {v:Nat->α} {i:Nat} (h:i<n):(vl n v)[i]?=some (v i):=by simp [vl,h]
theorem xge (xs:List α) (d:α):vl xs.length (fun i=>xs.getD i d)=xs:=by
 apply List.ext_getElem?
 intro i;by_cases h:i<xs.length
 ·rw [y70 h];simp [h]
 ·rw [List.getElem?_eq_none_iff.2 (by rw [q1p];omega),List.getElem?_eq_none_iff.2 (by omega)]
structure Rng (n a b:Nat) (v w:Nat->α):Prop where
 perm:(vl n v).Perm (vl n w)
 out:∀ i,i<a\/b<=i->w i=v i
def sw (v:Nat->α) (i j:Nat):Nat->α:=fun k=>if k=j then v i else if k=i then v j else v k
theorem yo9 {v:Nat->α} {i j:Nat}:sw v i j i=v j:=by
 unfold sw;by_cases h:i=j
 ·rw [if_pos h,h]
 ·rw [if_neg h,if_pos rfl]
theorem yx6 {v:Nat->α} {i j:Nat}:sw v i j j=v i:=if_pos rfl
theorem y0o {v:Nat->α} {i j k:Nat} (h1:k≠i) (h2:k≠j):sw v i j k=v k:=by unfold sw;rw [if_neg h2,if_neg h1]
theorem yrv {n:Nat} {v:Nat->α} {i:Nat} {x:α}:(vl n v).set i x=vl n fun k=>if k=i then x else v k:=by
 apply List.ext_getElem?
 intro k;rw [lT];by_cases h:k<n
 ·rw [y70 h,y70 h,q1p];by_cases e:i=k
  ·subst e;simp [h]
  ·rw [if_neg e,if_neg (Ne.symm e)]
 ·rw [List.getElem?_eq_none_iff.2 (by rw [q1p];omega),List.getElem?_eq_none_iff.2 (by rw [q1p];omega),q1p]
  split
  ·rw [if_neg (by omega)]
  ·rfl
theorem Rng.refl (n a b:Nat) (v:Nat->α):Rng n a b v v:=⟨List.Perm.refl _,fun _ _=>rfl⟩
theorem Rng.trans {n a b:Nat} {u v w:Nat->α} (h:Rng n a b u v) (k:Rng n a b v w):Rng n a b u w:=⟨h.perm.trans k.perm,fun i hi=>(k.out i hi).trans (h.out i hi)⟩
theorem Rng.mono {n a b a' b':Nat} {v w:Nat->α} (h:Rng n a b v w) (ha:a'<=a) (hb:b<=b'):Rng n a' b' v w:=⟨h.perm,fun i hi=>h.out i (by omega)⟩
theorem Rng.sw {n a b i j:Nat} {v:Nat->α} (hi:a<=i) (hi':i<b) (hj:a<=j) (hj':j<b) (hb:b<=n):Rng n a b v (sw v i j):=by
 refine ⟨?_,fun k hk=>y0o (by omega) (by omega)⟩
 have h:=@List.set_set_perm _ (vl n v) i j (by rw [q1p];omega) (by rw [q1p];omega)
 have e1:(vl n v)[i]'(by rw [q1p];omega)=v i:=by
  have:=y70 (v:=v) (show i<n by omega)
  rw [lE (by rw [q1p];omega)] at this
  exact Option.some.inj this
 have e2:(vl n v)[j]'(by rw [q1p];omega)=v j:=by
  have:=y70 (v:=v) (show j<n by omega)
  rw [lE (by rw [q1p];omega)] at this
  exact Option.some.inj this
 rw [e1,e2,yrv,yrv] at h;exact h.symm
theorem Rng.mem {n a b:Nat} {v w:Nat->α} (h:Rng n a b v w) (hb:b<=n) {i:Nat} (h1:a<=i) (h2:i<b):∃ j,a<=j/\j<b/\w i=v j:=by
 have e:∀ u:Nat->α,vl n u=(lI 0 a).map u++((lI a (b-a)).map u++(lI b (n-b)).map u):=by
  intro u;rw [<- lK,<- lK];unfold vl
  congr 1
  rw [List.range_eq_range'];have r2:lI a (b-a)++lI b (n-b)=lI a (n-a):=by
   have:=List.range'_append (s:=a) (m:=b-a) (n:=n-b) (step:=1);rw [show a+1 * (b-a)=b by omega,show (b-a)+(n-b)=n-a by omega] at this
   exact this
  have r1:lI 0 a++lI a (n-a)=lI 0 n:=by
   have:=List.range'_append (s:=0) (m:=a) (n:=n-a) (step:=1);rw [show 0+1 * a=a by omega,show a+(n-a)=n by omega] at this
   exact this
  rw [r2,r1]
 have hp:=h.perm;rw [e v,e w] at hp;have c1:(lI 0 a).map w=(lI 0 a).map v:=List.map_congr_left fun k hk=>h.out k (.inl (by simp at hk;omega))
 have c2:(lI b (n-b)).map w=(lI b (n-b)).map v:=List.map_congr_left fun k hk=>h.out k (.inr (by simp at hk;omega))
 rw [c1,c2,List.perm_append_left_iff,List.perm_append_right_iff] at hp;have hm:w i∈(lI a (b-a)).map w:=List.mem_map.2 ⟨i,by simp;omega,rfl⟩
 obtain ⟨j,hj,e⟩:=List.mem_map.1 (hp.mem_iff.2 hm);simp at hj;exact ⟨j,by omega,by omega,e.symm⟩
structure y0m (lt:α->α->Bool):Prop where
 asy:∀ x y,lt x y=true->lt y x=false
 tr:∀ x y z,lt y x=false->lt z y=false->lt z x=false
variable {lt:α->α->Bool}
def Le (lt:α->α->Bool) (x y:α):Prop:=lt y x=false
theorem Le.refl (h:y0m lt) (x:α):Le lt x x:=by
 unfold Le;cases e:lt x x with
 | false=>rfl
 | true=>have:=h.asy x x e;rw [e] at this;exact this
theorem Le.trans (h:y0m lt) {x y z:α} (h1:Le lt x y) (h2:Le lt y z):Le lt x z:=h.tr x y z h1 h2
theorem Le.of_lt (h:y0m lt) {x y:α} (h1:lt x y=true):Le lt x y:=h.asy x y h1
def Srt (lt:α->α->Bool) (a b:Nat) (v:Nat->α):Prop:=∀ p q,a<=p->p<q->q<b->Le lt (v p) (v q)
theorem Srt.one {a b:Nat} {v:Nat->α} (h:b<=a+1):Srt lt a b v:=fun p q h1 h2 h3=>by omega
theorem Srt.snoc (h:y0m lt) {a b:Nat} {v:Nat->α} (hs:Srt lt a b v) (hab:a<b) (hl:Le lt (v (b-1)) (v b)):Srt lt a (b+1) v:=by
 intro p q h1 h2 h3;by_cases hq:q=b
 ·subst hq;by_cases hp:p=q-1
  ·rw [hp];exact hl
  ·exact (hs p (q-1) h1 (by omega) (by omega)).trans h hl
 ·exact hs p q h1 h2 (by omega)
theorem Srt.same {a b:Nat} {v w:Nat->α} (hs:Srt lt a b v) (e:∀ i,a<=i->i<b->w i=v i):Srt lt a b w:=fun p q h1 h2 h3=>by rw [e p h1 (by omega),e q (by omega) h3];exact hs p q h1 h2 h3
structure InsI (lt:α->α->Bool) (a i j:Nat) (v:Nat->α):Prop where
 lo:a<=j
 hi:j<=i
 s:∀ p q,a<=p->p<q->q<=i->q≠j->Le lt (v p) (v q)
theorem InsI.start {a i:Nat} {v:Nat->α} (hs:Srt lt a i v) (h:a<=i):InsI lt a i i v:=⟨h,Nat.le_refl _,fun p q h1 h2 h3 h4=>hs p q h1 h2 (by omega)⟩
theorem InsI.stop (h:y0m lt) {a i j:Nat} {v:Nat->α} (hs:InsI lt a i j v) (hj:j=a\/Le lt (v (j-1)) (v j)):Srt lt a (i+1) v:=by
 intro p q h1 h2 h3;by_cases hq:q=j
 ·rcases hj with hj | hj
  ·omega
  ·subst hq;by_cases hp:p=q-1
   ·rw [hp];exact hj
   ·exact (hs.s p (q-1) h1 (by omega) (by have:=hs.hi;omega) (by omega)).trans h hj
 ·exact hs.s p q h1 h2 (by omega) hq
theorem InsI.step (h:y0m lt) {a i j:Nat} {v:Nat->α} (hs:InsI lt a i j v) (hj:a<j) (hl:lt (v j) (v (j-1))=true):InsI lt a i (j-1) (sw v j (j-1)):=by
 have h0:=hs.hi;refine ⟨by omega,by omega,fun p q h1 h2 h3 h4=>?_⟩
 by_cases hq:q=j
 ·subst hq;rw [yo9];by_cases hp:p=q-1
  ·subst hp;rw [yx6];exact Le.of_lt h hl
  ·rw [y0o (by omega) hp]
   exact hs.s p (q-1) h1 (by omega) (by omega) (by omega)
 ·rw [y0o hq h4 (v:=v)];by_cases hp:p=j-1
  ·subst hp;rw [yx6];exact hs.s j q (by omega) (by omega) h3 hq
  ·by_cases hp2:p=j
   ·subst hp2;rw [yo9];exact hs.s (p-1) q (by omega) (by omega) h3 hq
   ·rw [y0o hp2 hp];exact hs.s p q h1 h2 h3 hq
def Hp (lt:α->α->Bool) (f lo hi:Nat) (v:Nat->α):Prop:=∀ p c,lo<=p->(c=2 * p+1\/c=2 * p+2)->c<hi->Le lt (v (f+c)) (v (f+p))
structure Sif (lt:α->α->Bool) (f lo hi r:Nat) (v:Nat->α):Prop where
 lr:lo<=r
 pp:∀ p c,lo<=p->p≠r->(c=2 * p+1\/c=2 * p+2)->c<hi->Le lt (v (f+c)) (v (f+p))
 gg:∀ q c,lo<=q->(r=2 * q+1\/r=2 * q+2)->(c=2 * r+1\/c=2 * r+2)->c<hi->Le lt (v (f+c)) (v (f+q))
theorem Sif.start {f lo hi:Nat} {v:Nat->α} (h:Hp lt f (lo+1) hi v):Sif lt f lo hi lo v:=⟨Nat.le_refl _,fun p c h1 h2 h3 h4=>h p c (by omega) h3 h4,fun q c h1 h2=>by omega⟩
theorem Sif.stop0 {f lo hi r:Nat} {v:Nat->α} (h:Sif lt f lo hi r v) (hr:hi<=2 * r+1):Hp lt f lo hi v:=fun p c h1 h2 h3=>by
 by_cases hp:p=r
 ·omega
 ·exact h.pp p c h1 hp h2 h3
structure xih (lt:α->α->Bool) (f hi r ch:Nat) (v:Nat->α):Prop where
 cc:ch=2 * r+1\/ch=2 * r+2
 cl:ch<hi
 mm:∀ c,(c=2 * r+1\/c=2 * r+2)->c<hi->Le lt (v (f+c)) (v (f+ch))
theorem Sif.stop (h0:y0m lt) {f lo hi r ch:Nat} {v:Nat->α} (h:Sif lt f lo hi r v) (hb:xih lt f hi r ch v) (hl:Le lt (v (f+ch)) (v (f+r))):Hp lt f lo hi v:=fun p c h1 h2 h3=>by
 by_cases hp:p=r
 ·subst hp;exact (hb.mm c h2 h3).trans h0 hl
 ·exact h.pp p c h1 hp h2 h3
theorem Sif.step (h0:y0m lt) {f lo hi r ch:Nat} {v:Nat->α} (h:Sif lt f lo hi r v) (hb:xih lt f hi r ch v) (hl:lt (v (f+r)) (v (f+ch))=true):Sif lt f lo hi ch (sw v (f+r) (f+ch)):=by
 have h1:=h.lr;have h2:=hb.cc;have h3:=hb.cl;refine ⟨by omega,fun p c a1 a2 a3 a4=>?_,fun q c a1 a2 a3 a4=>?_⟩
 ·by_cases hp:p=r
  ·subst hp;rw [yo9];by_cases hc:c=ch
   ·subst hc;rw [yx6];exact Le.of_lt h0 hl
   ·rw [y0o (by omega) (by omega)]
    exact hb.mm c a3 a4
  ·rw [y0o (k:=f+p) (by omega) (by omega)]
   by_cases hc:c=r
   ·subst hc;rw [yo9];exact h.gg p ch a1 a3 h2 h3
   ·rw [y0o (by omega) (by omega)]
    exact h.pp p c a1 hp a3 a4
 ·have hq:q=r:=by omega
  subst hq;rw [yo9,y0o (by omega) (by omega)]
  exact h.pp ch c (by omega) (by omega) a3 a4
theorem Hp.max (h0:y0m lt) {f hi:Nat} {v:Nat->α} (h:Hp lt f 0 hi v):∀ i,i<hi->Le lt (v (f+i)) (v f):=by
 intro i
 induction i using Nat.strongRecOn with
 | ind i ih=>
  intro hi';by_cases e:i=0
  ·subst e;exact Le.refl h0 _
  ·exact (h ((i-1) / 2) i (Nat.zero_le _) (by omega) hi').trans h0 (ih ((i-1) / 2) (by omega) (by omega))
structure Pop (lt:α->α->Bool) (f m hi:Nat) (v:Nat->α):Prop where
 h:Hp lt f 0 m v
 s:Srt lt (f+m) (f+hi) v
 u:∀ i j,i<m->m<=j->j<hi->Le lt (v (f+i)) (v (f+j))
theorem Pop.pre {f i hi:Nat} {v:Nat->α} (h:Pop lt f (i+1) hi v):Hp lt f 1 i (sw v f (f+i)):=fun p c h1 h2 h3=>by
 rw [y0o (by omega) (by omega),y0o (by omega) (by omega)]
 exact h.h p c (Nat.zero_le _) h2 (by omega)
theorem Pop.step (h0:y0m lt) {n f i hi:Nat} {v w:Nat->α} (hi':i<hi) (hn:f+hi<=n) (h:Pop lt f (i+1) hi v) (hr:Rng n f (f+i) (sw v f (f+i)) w) (hw:Hp lt f 0 i w):Pop lt f i hi w:=by
 have hmax:=h.h.max h0;have wi:w (f+i)=v f:=by rw [hr.out _ (.inr (Nat.le_refl _)),yx6]
 have wo:∀ j,i<j->w (f+j)=v (f+j):=fun j hj=>by rw [hr.out _ (.inr (by omega)),y0o (by omega) (by omega)]
 have wl:∀ k,k<i->∃ m,m<=i/\w (f+k)=v (f+m):=by
  intro k hk;obtain ⟨j,j1,j2,j3⟩:=hr.mem (by omega) (i:=f+k) (by omega) (by omega)
  rw [j3];by_cases e:j=f
  ·subst e;exact ⟨i,Nat.le_refl _,yo9⟩
  ·exact ⟨j-f,by omega,by rw [y0o e (by omega)];congr 1;omega⟩
 refine ⟨hw,fun p q h1 h2 h3=>?_,fun k j h1 h2 h3=>?_⟩
 ·have ep:p=f+(p-f):=by omega
  have eq:q=f+(q-f):=by omega
  rw [eq,wo _ (by omega)]
  by_cases hp:p=f+i
  ·rw [hp,wi];exact h.u 0 (q-f) (by omega) (by omega) (by omega)
  ·rw [ep,wo _ (by omega)]
   exact h.s _ _ (by omega) (by omega) (by omega)
 ·obtain ⟨m,m1,m2⟩:=wl k h1;rw [m2];by_cases e:j=i
  ·subst e;rw [wi];exact hmax m (by omega)
  ·rw [wo j (by omega)]
   exact h.u m j (by omega) (by omega) h3
structure Par (lt:α->α->Bool) (a b i j:Nat) (v:Nat->α):Prop where
 i1:a<i
 j1:j<b
 ij:i<=j+1
 l:∀ k,a<k->k<i->lt (v k) (v a)=true
 r:∀ k,j<k->k<b->Le lt (v a) (v k)
theorem Par.swap {a b i j:Nat} {v:Nat->α} (h:Par lt a b i j v) (hij:i<=j) (h1:Le lt (v a) (v i)) (h2:lt (v j) (v a)=true):Par lt a b (i+1) (j-1) (sw v i j)/\i<j:=by
 have hi:=h.i1;have hne:i≠j:=by rintro rfl;unfold Le at h1;rw [h1] at h2;cases h2
 have ea:sw v i j a=v a:=y0o (by omega) (by omega)
 refine ⟨⟨by omega,by have:=h.j1;omega,by omega,fun k k1 k2=>?_,fun k k1 k2=>?_⟩,by omega⟩
 ·rw [ea];by_cases e:k=i
  ·subst e;rw [yo9];exact h2
  ·rw [y0o e (by omega)];exact h.l k k1 (by omega)
 ·rw [ea];by_cases e:k=j
  ·subst e;rw [yx6];exact h1
  ·rw [y0o (by omega) e];exact h.r k (by omega) k2
structure Cut (lt:α->α->Bool) (a b m:Nat) (v:Nat->α):Prop where
 ca:a<=m
 cb:m<b
 l:∀ k,a<=k->k<m->Le lt (v k) (v m)
 r:∀ k,m<k->k<b->Le lt (v m) (v k)
theorem Par.cut (h0:y0m lt) {a b i j:Nat} {v:Nat->α} (h:Par lt a b i j v) (hij:j<i):Cut lt a b j (sw v j a):=by
 have h1:=h.i1;have h2:=h.ij;have h3:=h.j1;have ej:sw v j a j=v a:=yo9;refine ⟨by omega,h3,fun k k1 k2=>?_,fun k k1 k2=>?_⟩
 ·rw [ej];by_cases e:k=a
  ·subst e;rw [yx6];exact Le.of_lt h0 (h.l j k2 hij)
  ·rw [y0o (by omega) e]
   exact Le.of_lt h0 (h.l k (by omega) (by omega))
 ·rw [ej,y0o (by omega) (by omega)]
  exact h.r k k1 k2
structure ParE (lt:α->α->Bool) (a b i j:Nat) (v:Nat->α):Prop where
 i1:a<i
 j1:j<b
 ij:i<=j+1
 l:∀ k,a<k->k<i->Le lt (v k) (v a)
 r:∀ k,j<k->k<b->lt (v a) (v k)=true
theorem ParE.swap {a b i j:Nat} {v:Nat->α} (h:ParE lt a b i j v) (hij:i<=j) (h1:lt (v a) (v i)=true) (h2:Le lt (v j) (v a)):ParE lt a b (i+1) (j-1) (sw v i j)/\i<j:=by
 have hi:=h.i1;have hne:i≠j:=by rintro rfl;unfold Le at h2;rw [h2] at h1;cases h1
 have ea:sw v i j a=v a:=y0o (by omega) (by omega)
 refine ⟨⟨by omega,by have:=h.j1;omega,by omega,fun k k1 k2=>?_,fun k k1 k2=>?_⟩,by omega⟩
 ·rw [ea];by_cases e:k=i
  ·subst e;rw [yo9];exact h2
  ·rw [y0o e (by omega)];exact h.l k k1 (by omega)
 ·rw [ea];by_cases e:k=j
  ·subst e;rw [yx6];exact h1
  ·rw [y0o (by omega) e];exact h.r k (by omega) k2
structure Pdq (lt:α->α->Bool) (A B a b:Nat) (v:Nat->α):Prop where
 pa:A<=a
 ab:a<=b
 pb:b<=B
 l:Srt lt A a v
 r:Srt lt b B v
 lm:∀ i j,A<=i->i<a->a<=j->j<B->Le lt (v i) (v j)
 mr:∀ i j,A<=i->i<b->b<=j->j<B->Le lt (v i) (v j)
theorem Pdq.start {A B:Nat} {v:Nat->α} (h:A<=B):Pdq lt A B A B v:=⟨Nat.le_refl _,h,Nat.le_refl _,Srt.one (by omega),Srt.one (by omega),fun i j h1 h2=>by omega,fun i j h1 h2 h3 h4=>by omega⟩
theorem Pdq.rng {n A B a b:Nat} {v w:Nat->α} (h:Pdq lt A B a b v) (hn:B<=n) (hr:Rng n a b v w):Pdq lt A B a b w:=by
 have h1:=h.pa;have h2:=h.ab;have h3:=h.pb;have lo:∀ i,i<a->w i=v i:=fun i hi=>hr.out i (.inl hi)
 have hi:∀ i,b<=i->w i=v i:=fun i hi=>hr.out i (.inr hi)
 refine ⟨h1,h2,h3,h.l.same fun i _ hi=>lo i hi,h.r.same fun i hi' _=>hi i hi',fun i j a1 a2 a3 a4=>?_,fun i j a1 a2 a3 a4=>?_⟩
 ·rw [lo i a2];by_cases e:j<b
  ·obtain ⟨k,k1,k2,k3⟩:=hr.mem (by omega) a3 e
   rw [k3];exact h.lm i k a1 a2 k1 (by omega)
  ·rw [hi j (by omega)]
   exact h.lm i j a1 a2 a3 a4
 ·rw [hi j a3];by_cases e:a<=i
  ·obtain ⟨k,k1,k2,k3⟩:=hr.mem (by omega) e a2
   rw [k3];exact h.mr k j (by omega) k2 a3 a4
  ·rw [lo i (by omega)]
   exact h.mr i j a1 a2 a3 a4
theorem Pdq.done (h0:y0m lt) {A B a b:Nat} {v:Nat->α} (h:Pdq lt A B a b v) (hs:Srt lt a b v):Srt lt A B v:=by
 have h1:=h.ab;intro p q a1 a2 a3;by_cases e1:q<a
 ·exact h.l p q a1 a2 e1
 ·by_cases e2:p<a
  ·exact h.lm p q a1 e2 (by omega) a3
  ·by_cases e3:q<b
   ·exact hs p q (by omega) a2 e3
   ·by_cases e4:p<b
    ·exact h.mr p q a1 e4 (by omega) a3
    ·exact h.r p q (by omega) a2 a3
theorem Pdq.left (h0:y0m lt) {A B a b m:Nat} {v:Nat->α} (h:Pdq lt A B a b v) (hm:Cut lt a b m v) (hs:Srt lt a m v):Pdq lt A B (m+1) b v:=by
 have h1:=h.pa;have h2:=hm.ca;have h3:=hm.cb;have h4:=h.pb;have key:∀ i j,a<=i->i<m+1->m<=j->j<b->i<j->Le lt (v i) (v j):=by
  intro i j b1 b2 b3 b4 b5;have q1:Le lt (v i) (v m):=by
   by_cases e:i=m
   ·rw [e];exact Le.refl h0 _
   ·exact hm.l i b1 (by omega)
  by_cases e:j=m
  ·rw [e];exact q1
  ·exact q1.trans h0 (hm.r j (by omega) b4)
 refine ⟨by omega,by omega,h4,fun p q a1 a2 a3=>?_,h.r,fun i j a1 a2 a3 a4=>?_,h.mr⟩
 ·by_cases e1:q<a
  ·exact h.l p q a1 a2 e1
  ·by_cases e2:p<a
   ·exact h.lm p q a1 e2 (by omega) (by omega)
   ·by_cases e3:q<m
    ·exact hs p q (by omega) a2 e3
    ·exact key p q (by omega) (by omega) (by omega) (by omega) a2
 ·by_cases e1:i<a
  ·exact h.lm i j a1 e1 (by omega) a4
  ·by_cases e2:j<b
   ·exact key i j (by omega) a2 (by omega) e2 (by omega)
   ·exact h.mr i j a1 (by omega) (by omega) a4
theorem Pdq.right (h0:y0m lt) {A B a b m:Nat} {v:Nat->α} (h:Pdq lt A B a b v) (hm:Cut lt a b m v) (hs:Srt lt (m+1) b v):Pdq lt A B a m v:=by
 have h1:=h.pa;have h2:=hm.ca;have h3:=hm.cb;have h4:=h.pb;have key:∀ i j,a<=i->i<m+1->m<=j->j<b->i<j->Le lt (v i) (v j):=by
  intro i j b1 b2 b3 b4 b5;have q1:Le lt (v i) (v m):=by
   by_cases e:i=m
   ·rw [e];exact Le.refl h0 _
   ·exact hm.l i b1 (by omega)
  by_cases e:j=m
  ·rw [e];exact q1
  ·exact q1.trans h0 (hm.r j (by omega) b4)
 refine ⟨h1,h2,by omega,h.l,fun p q a1 a2 a3=>?_,h.lm,fun i j a1 a2 a3 a4=>?_⟩
 ·by_cases e1:b<=p
  ·exact h.r p q e1 a2 a3
  ·by_cases e2:b<=q
   ·exact h.mr p q (by omega) (by omega) e2 a3
   ·by_cases e3:p=m
    ·subst e3;exact hm.r q a2 (by omega)
    ·exact hs p q (by omega) a2 (by omega)
 ·by_cases e1:b<=j
  ·exact h.mr i j a1 (by omega) e1 a4
  ·by_cases e2:i<a
   ·exact h.lm i j a1 e2 (by omega) a4
   ·exact key i j (by omega) (by omega) a3 (by omega) (by omega)
theorem Pdq.same (h0:y0m lt) {A B a b m:Nat} {v:Nat->α} (h:Pdq lt A B a b v) (ham:a<=m) (hmb:m<=b) (hmin:∀ k,a<=k->k<b->Le lt (v a) (v k)) (hl:∀ k,a<=k->k<m->Le lt (v k) (v a)):Pdq lt A B m b v:=by
 have h1:=h.pa;have h4:=h.pb;have key:∀ i j,a<=i->i<m->a<=j->j<b->Le lt (v i) (v j):=fun i j b1 b2 b3 b4=>(hl i b1 b2).trans h0 (hmin j b3 b4)
 refine ⟨by omega,hmb,h4,fun p q a1 a2 a3=>?_,h.r,fun i j a1 a2 a3 a4=>?_,h.mr⟩
 ·by_cases e1:q<a
  ·exact h.l p q a1 a2 e1
  ·by_cases e2:p<a
   ·exact h.lm p q a1 e2 (by omega) (by omega)
   ·exact key p q (by omega) (by omega) (by omega) (by omega)
 ·by_cases e1:i<a
  ·exact h.lm i j a1 e1 (by omega) a4
  ·by_cases e2:j<b
   ·exact key i j (by omega) a2 (by omega) e2
   ·exact h.mr i j a1 (by omega) (by omega) a4
end
section
variable {α:Type} {lt:α->α->Bool}
structure StOk (lt:α->α->Bool):Prop where
 ok:y0m lt
 tot:∀ x y,lt x y=false->lt y x=false->x=y
theorem StOk.irr (h:StOk lt) (x:α):lt x x=false:=Le.refl h.ok x
theorem StOk.le_lt (h:StOk lt) {x y z:α} (h1:lt y x=false) (h2:lt y z=true):lt x z=true:=by
 cases e:lt x z with
 | true=>rfl
 | false=>
  have:=h.ok.tr z x y e h1;rw [h2] at this;cases this
theorem StOk.trans (h:StOk lt) {x y z:α} (h1:lt x y=true) (h2:lt y z=true):lt x z=true:=h.le_lt (h.ok.asy _ _ h1) h2
def Asc (lt:α->α->Bool) (l:List α):Prop:=l.Pairwise fun x y=>lt x y=true
theorem Asc.uniq (h:StOk lt):∀ {l m:List α},Asc lt l->Asc lt m->(∀ x,x∈l↔x∈m)->l=m
 | [],[],_,_,_=>rfl
 | [],b :: m,_,_,hm=>by have:=(hm b).2 (by simp);cases this
 | a :: l,[],_,_,hm=>by have:=(hm a).1 (by simp);cases this
 | a :: l,b :: m,ha,hb,hm=>by
  obtain ⟨ha1,ha2⟩:=List.pairwise_cons.1 ha;obtain ⟨hb1,hb2⟩:=List.pairwise_cons.1 hb;have hab:a=b:=by
   rcases List.mem_cons.1 ((hm a).1 (by simp)) with e | e
   ·exact e
   ·rcases List.mem_cons.1 ((hm b).2 (by simp)) with e' | e'
    ·exact e'.symm
    ·have h1:=hb1 a e;have h2:=ha1 b e';rw [h.ok.asy _ _ h2] at h1;cases h1
  subst hab;rw [Asc.uniq h (l:=l) (m:=m) ha2 hb2 fun x=>?_]
  constructor
  ·intro hx;rcases List.mem_cons.1 ((hm x).1 (lM _ hx)) with e | e
   ·subst e;have:=ha1 x hx;rw [h.irr] at this;cases this
   ·exact e
  ·intro hx;rcases List.mem_cons.1 ((hm x).2 (lM _ hx)) with e | e
   ·subst e;have:=hb1 x hx;rw [h.irr] at this;cases this
   ·exact e
variable [DecidableEq α]
def dd (u:Nat->α):Nat->List α
 | 0=>[]
 | i+1=>if 0<i/\u i=u (i-1) then dd u i else dd u i++[u i]
theorem mem_dd {u:Nat->α}:∀ {n:Nat} {z:α},z∈dd u n↔∃ i,i<n/\u i=z
 | 0,z=>by simp [dd]
 | n+1,z=>by
  have ih:=mem_dd (u:=u) (n:=n) (z:=z);unfold dd;split
  ·rename_i h
   rw [ih];constructor
   ·rintro ⟨i,h1,h2⟩;exact ⟨i,by omega,h2⟩
   ·rintro ⟨i,h1,h2⟩;by_cases e:i=n
    ·subst e;exact ⟨i-1,by omega,by rw [<- h.2];exact h2⟩
    ·exact ⟨i,by omega,h2⟩
  ·rw [List.mem_append,lO,ih];constructor
   ·rintro (⟨i,h1,h2⟩ | h2)
    ·exact ⟨i,by omega,h2⟩
    ·exact ⟨n,by omega,h2.symm⟩
   ·rintro ⟨i,h1,h2⟩;by_cases e:i=n
    ·subst e;exact .inr h2.symm
    ·exact .inl ⟨i,by omega,h2⟩
theorem yuq (h:StOk lt) {u:Nat->α}:∀ {n:Nat},Srt lt 0 n u->Asc lt (dd u n)
 | 0,_=>List.Pairwise.nil
 | n+1,hs=>by
  have ih:=yuq h (u:=u) (n:=n) fun p q h1 h2 h3=>hs p q h1 h2 (by omega)
  unfold dd;split
  ·exact ih
  ·rename_i hne
   refine List.pairwise_append.2 ⟨ih,List.pairwise_singleton _ _,fun z hz y hy=>?_⟩
   rw [lO] at hy;subst hy;obtain ⟨i,h1,rfl⟩:=mem_dd.1 hz;have hn:0<n:=by omega
   have hlt:lt (u (n-1)) (u n)=true:=by
    cases e:lt (u (n-1)) (u n) with
    | true=>rfl
    | false=>exact absurd ⟨hn,(h.tot _ _ e (hs (n-1) n (by omega) (by omega) (by omega))).symm⟩ hne
   by_cases e:i=n-1
   ·rw [e];exact hlt
   ·exact h.le_lt (hs i (n-1) (by omega) (by omega) (by omega)) hlt
def y3o (lt:α->α->Bool):List α->α->List α
 | [],x=>[x]
 | y :: r,x=>if lt y x=true then y :: y3o lt r x else if y=x then y :: r else x :: y :: r
theorem mem_insO {x z:α}:∀ {l:List α},z∈y3o lt l x↔z∈l\/z=x
 | []=>by simp [y3o]
 | y :: r=>by
  have ih:=mem_insO (x:=x) (z:=z) (l:=r);unfold y3o;split
  ·rw [lN,lN,ih,or_assoc]
  ·split
   ·rename_i e
    subst e;simp only [lN];constructor
    ·exact .inl
    ·rintro (h | h)
     ·exact h
     ·exact .inl h
   ·simp only [lN];constructor
    ·rintro (h | h)
     ·exact .inr h
     ·exact .inl h
    ·rintro (h | h)
     ·exact .inr h
     ·exact .inl h
theorem ye1 {x:α}:∀ {l:List α},(y3o lt l x).length<=l.length+1
 | []=>by simp [y3o]
 | y :: r=>by
  have ih:=ye1 (x:=x) (l:=r);unfold y3o;split
  ·simp only [lD];omega
  ·split<;>simp
theorem ye2 (h:StOk lt) {x:α}:∀ {l:List α},Asc lt l->Asc lt (y3o lt l x)
 | [],_=>List.pairwise_singleton _ _
 | y :: r,hl=>by
  obtain ⟨h1,h2⟩:=List.pairwise_cons.1 hl;have ih:=ye2 h (x:=x) (l:=r) h2;unfold y3o;split
  ·rename_i hyx
   refine List.pairwise_cons.2 ⟨fun z hz=>?_,ih⟩
   rcases mem_insO.1 hz with hz | rfl
   ·exact h1 z hz
   ·exact hyx
  ·rename_i hyx
   split
   ·exact hl
   ·rename_i hne
    have hlt:lt x y=true:=by
     cases e:lt x y with
     | true=>rfl
     | false=>exact absurd (h.tot _ _ (by simpa using hyx) e) hne
    refine List.pairwise_cons.2 ⟨fun z hz=>?_,hl⟩
    rcases List.mem_cons.1 hz with rfl | hz
    ·exact hlt
    ·exact h.trans hlt (h1 z hz)
theorem ybb {x:α}:∀ {k:Nat} {l:List α},(∀ y∈l.take k,lt y x=true)->y3o lt l x=l.take k++y3o lt (l.drop k) x
 | 0,l,_=>by simp
 | k+1,[],_=>by simp
 | k+1,y :: r,h=>by
  have ih:=ybb (x:=x) (k:=k) (l:=r) fun z hz=>h z (by simp [hz])
  have hy:=h y (by simp)
  rw [List.take_succ_cons,List.drop_succ_cons,List.cons_append,<- ih]
  conv=>lhs;unfold y3o
  rw [if_pos hy]
def y2m (lt:α->α->Bool) (l:List α):List α:=l.foldl (y3o lt) []
theorem y75 {l:List α} {x:α}:y2m lt (l++[x])=y3o lt (y2m lt l) x:=by
 unfold y2m;rw [List.foldl_append];rfl
theorem q7v (h:StOk lt):∀ (l:List α) (n:Nat),l.length=n->Asc lt (y2m lt l)/\(∀ z,z∈y2m lt l↔z∈l)/\(y2m lt l).length<=l.length:=by
 intro l n
 induction n generalizing l with
 | zero=>
  intro hl;have:l=[]:=List.length_eq_zero_iff.1 hl;subst this;exact ⟨List.Pairwise.nil,fun z=>by simp [y2m],Nat.le_refl _⟩
 | succ n ih=>
  intro hl;rcases List.eq_nil_or_concat l with rfl | ⟨r,x,e⟩
  ·cases hl
  ·rw [e] at hl ⊢;simp only [List.concat_eq_append,lH,lP] at hl ⊢;obtain ⟨h1,h2,h3⟩:=ih r (by omega)
   rw [y75];refine ⟨ye2 h h1,fun z=>?_,Nat.le_trans ye1 (by omega)⟩
   rw [mem_insO,h2,List.mem_append,lO]
end
structure Rf where
 ty:ByteArray
 rl:ByteArray
inductive Ex where
 | mk (kind:Int) (name over:ByteArray) (kids:List Ex)
structure Rl where
 name:ByteArray
 refs:List Rf
 ex:Ex
structure Ty where
 name:ByteArray
 rels:List Rl
mutual
def exC:Ex->List AV
 | .mk k n o ks=>[.int .i64 k,.str n,.str o,.sl 4 (xdn ks)]
def xdn:List Ex->List (List AV)
 | []=>[]
 | e :: r=>exC e :: xdn r
end
def rfC (r:Rf):List AV:=[.str r.ty,.str r.rl]
def rlC (r:Rl):List AV:=.str r.name :: .sl 2 (r.refs.map rfC) :: exC r.ex
def tyC (t:Ty):List AV:=[.str t.name,.sl 6 (t.rels.map rlC)]
def scA (s:List Ty):AV:=.agg [.sl 2 (s.map tyC)]
theorem yef:∀ (l:List Ex),xdn l=l.map exC
 | []=>rfl
 | e :: r=>by rw [xdn,yef r,List.map_cons]
def Ex.kind:Ex->Int
 | .mk k _ _ _=>k
def Ex.name:Ex->ByteArray
 | .mk _ n _ _=>n
def Ex.over:Ex->ByteArray
 | .mk _ _ o _=>o
def Ex.kids:Ex->List Ex
 | .mk _ _ _ ks=>ks
theorem q0e (e:Ex):exC e=[.int .i64 e.kind,.str e.name,.str e.over,.sl 4 (e.kids.map exC)]:=by
 cases e
 rw [exC,yef];rfl
theorem q0o (r:Rl):rlC r=[.str r.name,.sl 2 (r.refs.map rfC),.int .i64 r.ex.kind,.str r.ex.name,.str r.ex.over,.sl 4 (r.ex.kids.map exC)]:=by rw [rlC,q0e]
theorem ylj (e:Ex):(exC e).length=4:=by rw [q0e];rfl
theorem y5e (r:Rl):(rlC r).length=6:=by rw [q0o];rfl
theorem yx3 {e:Ex} {K:List AV->Prop}:tkW 4 (exC e) K=K (exC e):=y0v (ylj e)
theorem yx2 {r:Rl} {K:List AV->Prop}:tkW 6 (rlC r) K=K (rlC r):=y0v (y5e r)
def hwR:=And.intro @yx3 @yx2
inductive OkE:Ex->Prop
 | mk (k:Int) (n o:ByteArray) (ks:List Ex) (hk:ks.length<=1125899906842624) (hn:n.size<=1125899906842624) (ho:o.size<=1125899906842624) (h:∀ e∈ks,OkE e):OkE (.mk k n o ks)
structure OkF (r:Rf):Prop where
 ty:r.ty.size<=1125899906842624
 rl:r.rl.size<=1125899906842624
structure OkR (r:Rl):Prop where
 name:r.name.size<=1125899906842624
 refs:r.refs.length<=1125899906842624
 ref:∀ f∈r.refs,OkF f
 ex:OkE r.ex
structure OkT (t:Ty):Prop where
 name:t.name.size<=1125899906842624
 rels:t.rels.length<=1125899906842624
 rel:∀ r∈t.rels,OkR r
structure OkS (s:List Ty):Prop where
 types:s.length<=1125899906842624
 typ:∀ t∈s,OkT t
theorem OkS.at {s:List Ty} (h:OkS s) {i:Nat} {t:Ty} (ht:s[i]?=some t):OkT t:=h.typ t (lB ht)
theorem OkT.at {t:Ty} (h:OkT t) {i:Nat} {r:Rl} (hr:t.rels[i]?=some r):OkR r:=h.rel r (lB hr)
theorem OkR.at {r:Rl} (h:OkR r) {i:Nat} {f:Rf} (hf:r.refs[i]?=some f):OkF f:=h.ref f (lB hf)
def q0w {α:Type} (p:α->Bool):List α->Option Nat
 | []=>none
 | x :: r=>if p x then some 0 else (q0w p r).map (·+1)
theorem firstI_none {α:Type} {p:α->Bool}:∀ {l:List α},q0w p l=none↔∀ (i:Nat) (x:α),l[i]?=some x->p x=false
 | []=>by simp [q0w]
 | x :: r=>by
  unfold q0w;constructor
  ·intro h i y hy;split at h
   ·cases h
   ·rename_i hp
    have h2:q0w p r=none:=by simpa using h
    cases i with
    | zero=>simp at hy;subst hy;simpa using hp
    | succ i=>exact firstI_none.1 h2 i y (by simpa using hy)
  ·intro h;rw [if_neg (by simp [h 0 x rfl])]
   rw [firstI_none.2 fun i y hy=>h (i+1) y (by simpa using hy)]
   rfl
theorem firstI_some {α:Type} {p:α->Bool}:∀ {l:List α} {i:Nat},q0w p l=some i↔(∃ x,l[i]?=some x/\p x=true)/\∀ (j:Nat) (x:α),j<i->l[j]?=some x->p x=false
 | [],i=>by simp [q0w]
 | x :: r,i=>by
  unfold q0w;by_cases hp:p x=true
  ·rw [if_pos hp];constructor
   ·intro h;cases h;exact ⟨⟨x,rfl,hp⟩,fun j y hj=>by omega⟩
   ·rintro ⟨⟨y,hy,hpy⟩,h⟩;cases i with
    | zero=>rfl
    | succ i=>have:=h 0 x (by omega) rfl;rw [hp] at this;cases this
  ·rw [if_neg hp];cases i with
   | zero=>
    constructor
    ·intro h;cases hf:q0w p r<;>simp [hf] at h
    ·rintro ⟨⟨y,hy,hpy⟩,h⟩;simp at hy;subst hy;exact absurd hpy hp
   | succ i=>
    have hiff:(q0w p r).map (·+1)=some (i+1)↔q0w p r=some i:=by
     cases q0w p r<;>simp
    rw [hiff,firstI_some];constructor
    ·rintro ⟨⟨y,hy,hpy⟩,h⟩;refine ⟨⟨y,by simpa using hy,hpy⟩,fun j z hj hz=>?_⟩
     cases j with
     | zero=>simp at hz;subst hz;simpa using hp
     | succ j=>exact h j z (by omega) (by simpa using hz)
    ·rintro ⟨⟨y,hy,hpy⟩,h⟩;exact ⟨⟨y,by simpa using hy,hpy⟩,fun j z hj hz=>h (j+1) z (by omega) (by simpa using hz)⟩
def oi:Option Nat->Int
 | some i=>i
 | none=>-1
def y04 (s:List Ty) (n:ByteArray):Option Nat:=q0w (fun t=>decide (t.name=n)) s
def q44 (rs:List Rl) (n:ByteArray):Option Nat:=q0w (fun r=>decide (r.name=n)) rs
def y5g (s:List Ty) (t:Option Nat) (n:ByteArray):Option Nat:=(t.bind (s[·]?)).bind fun t=>q44 t.rels n
theorem q4d {s:List Ty} {n:ByteArray} {i:Nat} (h:y04 s n=some i):i<s.length:=by
 obtain ⟨⟨x,hx,-⟩,-⟩:=firstI_some.1 h;exact (List.getElem?_eq_some_iff.1 hx).1
theorem yp0 {s:List Rl} {n:ByteArray} {i:Nat} (h:q44 s n=some i):i<s.length:=by
 obtain ⟨⟨x,hx,-⟩,-⟩:=firstI_some.1 h;exact (List.getElem?_eq_some_iff.1 hx).1
theorem q34 {s:List Ty} (hs:OkS s) (n:ByteArray):AFun PG x6p [scA s,.str n] (.int .i64 (oi (y04 s n))):=by
 intro S;have hb:=hs.types;refine xkz ?_;unfold xjh;(try simp only [rwp,hwR,zA,zB,zC,zD,zE,zF,zG,zH,zI,scA]);refine LoopP.intro (fun i:Nat=>[(1,.str n),(2,.rop [.sl 2 (s.map tyC)]),(5,.int .i64 i)]) (fun _=>S) (fun i=>i<=s.length/\∀ j t,j<i->s[j]?=some t->decide (t.name=n)=false) (fun i=>s.length-i) 0 ⟨by omega,by omega⟩ rfl (Sub.refl S) ?_
 rintro i ⟨hi,hn⟩ r hr;unfold xa4;(try simp only [rwp,hwR,zA,zB,zC,zD,zE,zF,zG,zH,zI])
 (refine q02 (fun hlt=>?_) (fun hlt=>?_)<;>(try simp only [hlc] at hlt))
 ·obtain ⟨t,ht⟩:=q0c hlt;(try simp only [rwp,hwR,zA,zB,zC,zD,zE,zF,zG,zH,zI,ht,tyC])
  (refine q02 (fun he=>?_) (fun he=>?_)<;>(try simp only [hlc] at he))
  ·have:y04 s n=some i:=firstI_some.2 ⟨⟨t,ht,by simpa using he⟩,hn⟩
   exact q04 ⟨by rw [this];rfl,rfl⟩
  ·(simp (disch:=omega) only [q05])
   refine q09 rfl (hr (i+1) ⟨by omega,fun j u hj hu=>?_⟩ (by omega))
   rcases Nat.lt_succ_iff_lt_or_eq.1 hj with h | rfl
   ·exact hn j u h hu
   ·rw [ht] at hu;cases hu;simpa using he
 ·have:y04 s n=none:=firstI_none.2 fun j u hu=>hn j u (by have:=(List.getElem?_eq_some_iff.1 hu).1;omega) hu
  exact q04 ⟨by rw [this];rfl,rfl⟩
theorem q6k {s:List Ty} (hs:OkS s) (t:Option Nat) (ht:∀ i,t=some i->i<s.length) (n:ByteArray):AFun PG yb3 [scA s,.int .i64 (oi t),.str n] (.int .i64 (oi (y5g s t n))):=by
 intro S;refine xky ?_;unfold xjg;(try simp only [rwp,hwR,zA,zB,zC,zD,zE,zF,zG,zH,zI,scA]);cases t with
 | none=>
  (refine q02 (fun hlt=>?_) (fun hlt=>?_)<;>(try simp only [hlc] at hlt))
  ·exact q04 ⟨rfl,rfl⟩
  ·simp [oi] at hlt
 | some k=>
  have hk:=ht k rfl;obtain ⟨ty,hty⟩:∃ ty,s[k]?=some ty:=⟨_,lE hk⟩;have hrel:y5g s (some k) n=q44 ty.rels n:=by simp [y5g,hty]
  have hb:=(hs.at hty).rels
  (refine q02 (fun hlt=>?_) (fun hlt=>?_)<;>(try simp only [hlc] at hlt))
  ·simp [oi] at hlt;omega
  simp only [oi];refine LoopP.intro (fun i:Nat=>[(1,.int .i64 k),(2,.str n),(3,.rop [.sl 2 (s.map tyC)]),(7,.int .i64 i)]) (fun _=>S) (fun i=>i<=ty.rels.length/\∀ j r,j<i->ty.rels[j]?=some r->decide (r.name=n)=false) (fun i=>ty.rels.length-i) 0 ⟨by omega,by omega⟩ rfl (Sub.refl S) ?_
  rintro i ⟨hi,hn⟩ r hr;unfold xa3;(try simp only [rwp,hwR,zA,zB,zC,zD,zE,zF,zG,zH,zI,hty,tyC])
  (refine q02 (fun hlt=>?_) (fun hlt=>?_)<;>(try simp only [hlc] at hlt))
  ·obtain ⟨r,hr'⟩:=q0c hlt;(try simp only [rwp,hwR,zA,zB,zC,zD,zE,zF,zG,zH,zI,hr',q0o])
   (refine q02 (fun he=>?_) (fun he=>?_)<;>(try simp only [hlc] at he))
   ·have:y5g s (some k) n=some i:=by rw [hrel];exact firstI_some.2 ⟨⟨r,hr',by simpa using he⟩,hn⟩
    exact q04 ⟨by rw [this],rfl⟩
   ·(simp (disch:=omega) only [q05])
    refine q09 rfl (hr (i+1) ⟨by omega,fun j u hj hu=>?_⟩ (by omega))
    rcases Nat.lt_succ_iff_lt_or_eq.1 hj with h | rfl
    ·exact hn j u h hu
    ·rw [hr'] at hu;cases hu;simpa using he
  ·have:y5g s (some k) n=none:=by rw [hrel];exact firstI_none.2 fun j u hu=>hn j u (by have:=(List.getElem?_eq_some_iff.1 hu).1;omega) hu
   exact q04 ⟨by rw [this],rfl⟩
def q0h (s:List Ty) (t n:ByteArray):Option (Nat×Nat×Rl):=match y04 s t with
 | none=>none
 | some i=>match s[i]? with
  | none=>none
  | some ty=>match q44 ty.rels n with
   | none=>none
   | some k=>(ty.rels[k]?).map fun r=>(i,k,r)
theorem q78 {s:List Ty} {t n:ByteArray}:y5g s (y04 s t) n=(q0h s t n).map fun q=>q.2.1:=by
 unfold y5g q0h;cases h1:y04 s t with
 | none=>rfl
 | some i=>
  have hi:=q4d h1;simp only [Option.bind_some,lE hi];cases h2:q44 (s[i]).rels n with
  | none=>rfl
  | some k=>simp [lE (yp0 h2)]
theorem q11 {s:List Ty} {t n:ByteArray} {i k:Nat} {r:Rl} (h:q0h s t n=some (i,k,r)):y04 s t=some i/\∃ ty,s[i]?=some ty/\q44 ty.rels n=some k/\ty.rels[k]?=some r:=by
 unfold q0h at h;split at h
 ·cases h
 ·split at h
  ·cases h
  ·split at h
   ·cases h
   ·rename_i h1 _ ty h2 _ k' h3
    cases h4:ty.rels[k']? with
    | none=>rw [h4] at h;cases h
    | some r'=>rw [h4] at h;simp at h;obtain ⟨rfl,rfl,rfl⟩:=h;exact ⟨h1,ty,h2,h3,h4⟩
def yoh:List AV:=[.str ⟨#[]⟩,.nils,.int .i64 0,.str ⟨#[]⟩,.str ⟨#[]⟩,.nils]
theorem y92 {s:List Ty} (hs:OkS s) (t n:ByteArray):AFun PG x7a [scA s,.str t,.str n] (match q0h s t n with
  | some (_,_,r)=>.tup [.agg (rlC r),.bool true]
  | none=>.tup [.agg yoh,.bool false]):=by
 intro S;refine xlm ?_;unfold xk3;(try simp only [rwp,hwR,zA,zB,zC,zD,zE,zF,zG,zH,zI,scA]);intro b hb;have hS:∀ o,Sub S (supd S b o):=fun o=>Sub.fresh o hb
 refine q06 (q34 hs t) ?_;(try simp only [rwp,hwR,zA,zB,zC,zD,zE,zF,zG,zH,zI]);refine q06 (q6k hs (y04 s t) (fun i h=>q4d h) n) ?_
 (try simp only [rwp,hwR,zA,zB,zC,zD,zE,zF,zG,zH,zI]);have hf:y5g s (y04 s t) n=(q0h s t n).map fun q=>q.2.1:=q78
 cases hq:q0h s t n with
 | none=>
  rw [hq] at hf
  (refine q02 (fun hlt=>?_) (fun hlt=>?_)<;>(try simp only [hlc] at hlt))
  ·refine q1d S (hS _) ?_;(try simp only [rwp,hwR,zA,zB,zC,zD,zE,zF,zG,zH,zI])<;>(first | rfl | exact ⟨rfl,rfl⟩)
  ·rw [hf] at hlt;simp [oi] at hlt
 | some q=>
  obtain ⟨i,k,r⟩:=q;obtain ⟨h1,ty,h2,-,h3⟩:=q11 hq;rw [hq] at hf;have hf':oi (y5g s (y04 s t) n)=(k:Int):=by rw [hf];rfl
  have h1':oi (y04 s t)=(i:Int):=by rw [h1];rfl
  rw [hf',h1']
  (refine q02 (fun hlt=>?_) (fun hlt=>?_)<;>(try simp only [hlc] at hlt))
  ·omega
  ·(try simp only [rwp,hwR,zA,zB,zC,zD,zE,zF,zG,zH,zI,h2,h3,tyC,q0o]);refine q1d S (hS _) ?_;(try simp only [rwp,hwR,zA,zB,zC,zD,zE,zF,zG,zH,zI,q0o])<;>(first | rfl | exact ⟨rfl,rfl⟩)
def q61 (n:Int):Bool:=decide (97<=n)&&decide (n<=122)
def y1x (n:Int):Bool:=decide (48<=n)&&decide (n<=57)
def yl8 (n:Int):Bool:=decide (65<=n)&&decide (n<=90)
theorem q4i (n:Int):AFun PG ysx [.int .u8 n] (.bool (q61 n)):=by
 intro S;refine xeh ?_;unfold xbk;(try simp only [rwp,hwR,zA,zB,zC,zD,zE,zF,zG,zH,zI]);exact q04 ⟨rfl,rfl⟩
theorem q7f (n:Int):AFun PG ysw [.int .u8 n] (.bool (y1x n)):=by
 intro S;refine xeg ?_;unfold xbj;(try simp only [rwp,hwR,zA,zB,zC,zD,zE,zF,zG,zH,zI]);exact q04 ⟨rfl,rfl⟩
def y2r (n:Int):Bool:=q61 n||y1x n||decide (n=95)
theorem y2y (n:Int):AFun PG ysy [.int .u8 n] (.bool (y2r n)):=by
 intro S;refine xei ?_;unfold xbl;refine q06 (q4i n) ?_
 (refine q1l (fun hg=>?_) (fun hg=>?_)<;>(try simp only [rwp,hwR,zA,zB,zC,zD,zE,zF,zG,zH,zI,hg,yfh]))
 ·refine q06 (q7f n) ?_;(try simp only [rwp,hwR,zA,zB,zC,zD,zE,zF,zG,zH,zI,yfh]);exact q04 ⟨by simp [y2r,hg],rfl⟩
 ·exact q04 ⟨by simp [y2r,hg],rfl⟩
theorem q93 {p:Int->Bool} {f:Nat} (hf:∀ b:UInt8,AFun PG f [.int .u8 b.toNat] (.bool (p b.toNat))) {s:ByteArray} (hs:s.size<=1125899906842624) (m:Int):AFun PG ysz [.str s,.int .i64 m,.func (.func f) [] []] (.bool (yog p s&&(decide ((0:Int)<s.size)&&decide ((s.size:Int)<=m)))):=by
 intro S;refine xej ?_;unfold xbm;(try simp only [rwp,hwR,zA,zB,zC,zD,zE,zF,zG,zH,zI]);refine LoopP.intro (fun i:Nat=>[(0,.str s),(1,.int .i64 m),(2,.func (.func f) [] []),(9,.int .i64 s.size),(10,.int .i64 i)]) (fun _=>S) (fun i=>i<=s.size/\∀ j b,j<i->s[j]?=some b->p b.toNat=true) (fun i=>s.size-i) 0 ⟨by omega,by omega⟩ rfl (Sub.refl S) ?_
 rintro i ⟨hi,hn⟩ r hr;unfold yvb;(try simp only [rwp,hwR,zA,zB,zC,zD,zE,zF,zG,zH,zI])
 (refine q02 (fun hlt=>?_) (fun hlt=>?_)<;>(try simp only [hlc] at hlt))
 ·obtain ⟨b,hb⟩:=q4j hlt;(try simp only [rwp,hwR,zA,zB,zC,zD,zE,zF,zG,zH,zI,hb]);refine q06 (hf b) ?_;(try simp only [rwp,hwR,zA,zB,zC,zD,zE,zF,zG,zH,zI])
  (refine q02 (fun hp=>?_) (fun hp=>?_)<;>(try simp only [hlc] at hp))
  ·exact q04 ⟨by simp only [q8o hb hp,Bool.false_and],rfl⟩
  ·(simp (disch:=omega) only [q05])
   refine q09 rfl (hr (i+1) ⟨by omega,fun j c hj hc=>?_⟩ (by omega))
   rcases Nat.lt_succ_iff_lt_or_eq.1 hj with h | rfl
   ·exact hn j c h hc
   ·rw [hb] at hc;cases hc;exact hp
 ·have hall:yog p s=true:=allB_iff.2 fun j c hc=>hn j c (by have:=q7j hc;omega) hc
  exact q04 ⟨by simp only [hall,Bool.true_and],rfl⟩
def q2b:ByteArray:=⟨#[116,121,112,101]⟩
def q0d:ByteArray:=⟨#[114,101,108,97,116,105,111,110]⟩
def q1g:ByteArray:=⟨#[100,101,102,105,110,101]⟩
def q0v (s:ByteArray):Bool:=!decide (s=q2b)&&(!decide (s=q0d)&&(!decide (s=q1g)&&((yog y2r s&&(decide ((0:Int)<s.size)&&decide ((s.size:Int)<=16)))&&(match s[0]? with
 | some b=>q61 b.toNat
 | none=>false))))
theorem q16 {s:ByteArray} (hs:s.size<=1125899906842624):AFun PG ytq [.str s] (.bool (q0v s)):=by
 intro S;refine xfc ?_;unfold xcf;(try simp only [rwp,hwR,zA,zB,zC,zD,zE,zF,zG,zH,zI,yfo])
 (refine q02 (fun e1=>?_) (fun e1=>?_)<;>(try simp only [rwp,hwR,zA,zB,zC,zD,zE,zF,zG,zH,zI,e1]))
 ·have e1:decide (s=q2b)=true:=e1;exact q04 ⟨by simp only [q0v,e1,Bool.not_true,Bool.false_and],rfl⟩
 (refine q02 (fun e2=>?_) (fun e2=>?_)<;>(try simp only [rwp,hwR,zA,zB,zC,zD,zE,zF,zG,zH,zI,e2]))
 ·have e2:decide (s=q0d)=true:=e2;exact q04 ⟨by simp only [q0v,e2,Bool.not_true,Bool.false_and,Bool.and_false],rfl⟩
 (refine q02 (fun e3=>?_) (fun e3=>?_)<;>(try simp only [rwp,hwR,zA,zB,zC,zD,zE,zF,zG,zH,zI,e3]))
 ·have e3:decide (s=q1g)=true:=e3;exact q04 ⟨by simp only [q0v,e3,Bool.not_true,Bool.false_and,Bool.and_false],rfl⟩
 have e1:decide (s=q2b)=false:=e1;have e2:decide (s=q0d)=false:=e2;have e3:decide (s=q1g)=false:=e3;refine q06 (q93 (fun b=>y2y b.toNat) hs 16) ?_
 (refine q1l (fun hg=>?_) (fun hg=>?_)<;>(try simp only [rwp,hwR,zA,zB,zC,zD,zE,zF,zG,zH,zI,hg]))
 ·have h5:((0:Nat):Int)<s.size:=by
   simp only [Bool.and_eq_true,decide_eq_true_eq] at hg;omega
  obtain ⟨b,hb⟩:=q4j h5;(try simp only [rwp,hwR,zA,zB,zC,zD,zE,zF,zG,zH,zI,hb]);refine q06 (q4i b.toNat) ?_;exact q04 ⟨by simp only [q0v,e1,e2,e3,hg,hb,Bool.not_false,Bool.true_and],rfl⟩
 ·exact q04 ⟨by simp only [q0v,e1,e2,e3,hg,Bool.false_and,Bool.and_false,Bool.not_true],rfl⟩
def atN (i:Nat) (n:Int):Bool:=q61 n||(!decide ((i:Int)=0)&&(decide (n=95)||y1x n))
theorem q0z {s:ByteArray} (hs:s.size<=1125899906842624):AFun PG x6m [.str s] (.bool (q0v s)):=by
 intro S;refine xkv ?_;unfold xjd;(try simp only [rwp,hwR,zA,zB,zC,zD,zE,zF,zG,zH,zI,x1q,x1p,x1o,x1n]);have hc:(decide ((s.size:Int)=0)||decide (16<(s.size:Int))||decide (s=q2b)||decide (s=q0d)||decide (s=q1g))=true->q0v s=false:=by
  intro h;simp only [Bool.or_eq_true,decide_eq_true_eq] at h;rcases h with (((h | h) | h) | h) | h
  ·simp only [q0v,decide_eq_false (show ¬ (0:Int)<s.size by omega),Bool.false_and,Bool.and_false]
  ·simp only [q0v,decide_eq_false (show ¬ (s.size:Int)<=16 by omega),Bool.false_and,Bool.and_false]
  ·rw [h];rfl
  ·rw [h];rfl
  ·rw [h];rfl
 (refine q02 (fun h0=>?_) (fun h0=>?_)<;>(try simp only [rwp,hwR,zA,zB,zC,zD,zE,zF,zG,zH,zI,h0]))
 ·exact q04 ⟨by rw [hc h0],rfl⟩
 have h0:(decide ((s.size:Int)=0)||decide (16<(s.size:Int))||decide (s=q2b)||decide (s=q0d)||decide (s=q1g))=false:=h0;simp only [Bool.or_eq_false_iff,decide_eq_false_iff_not] at h0;obtain ⟨⟨⟨⟨c1,c2⟩,c3⟩,c4⟩,c5⟩:=h0;refine LoopP.intro (fun i:Nat=>[(0,.str s),(3,.int .i64 i)]) (fun _=>S) (fun i=>i<=s.size/\∀ j b,j<i->s[j]?=some b->atN j b.toNat=true) (fun i=>s.size-i) 0 ⟨by omega,by omega⟩ rfl (Sub.refl S) ?_
 rintro i ⟨hi,hn⟩ r hr;(try simp only [rwp,hwR,zA,zB,zC,zD,zE,zF,zG,zH,zI,x9x,x1m,x1l,x1k])
 (refine q02 (fun hlt=>?_) (fun hlt=>?_)<;>(try simp only [hlc] at hlt))
 ·obtain ⟨b,hb⟩:=q4j hlt;(try simp only [rwp,hwR,zA,zB,zC,zD,zE,zF,zG,zH,zI,hb]);have fin:atN i b.toNat=true->y2r b.toNat=true:=by
   simp only [atN,y2r,Bool.or_eq_true,Bool.and_eq_true];rintro (h | ⟨-,h | h⟩)
   ·exact .inl (.inl h)
   ·exact .inr h
   ·exact .inl (.inr h)
  have bad:atN i b.toNat=false->q0v s=false:=by
   intro h;by_cases h0:i=0
   ·subst h0;have:q61 b.toNat=false:=by
     simp only [atN,Bool.or_eq_false_iff] at h;exact h.1
    simp only [q0v,hb,this,Bool.and_false]
   ·have h5:y2r b.toNat=false:=by
     have:decide ((i:Int)=0)=false:=decide_eq_false (by omega)
     simp only [atN,this,Bool.not_false,Bool.true_and,Bool.or_eq_false_iff] at h;simp only [y2r,Bool.or_eq_false_iff];exact ⟨⟨h.1,h.2.2⟩,h.2.1⟩
    simp only [q0v,q8o hb h5,Bool.false_and,Bool.and_false]
  have good:atN i b.toNat=true->r [(0,.str s),(3,.int .i64 ((i:Int)+1))] S:=fun h=>by
   refine hr (i+1) ⟨by omega,fun j c hj hc=>?_⟩ (by omega)
   rcases Nat.lt_succ_iff_lt_or_eq.1 hj with h1 | rfl
   ·exact hn j c h1 hc
   ·rw [hb] at hc;cases hc;exact h
  have ea:atN i b.toNat=((decide (97<=(b.toNat:Int))&&decide ((b.toNat:Int)<=122))||(!decide ((i:Int)=0)&&(decide ((b.toNat:Int)=95)||(!decide ((b.toNat:Int)<48)&&!decide (57<(b.toNat:Int)))))):=by
   simp only [atN,q61,y1x,<- decide_not,Int.not_lt]
  cases h1:decide (97<=(b.toNat:Int))<;>cases h2:decide ((b.toNat:Int)<=122)<;>cases h3:decide ((i:Int)=0)<;>cases h4:decide ((b.toNat:Int)=95)<;>cases h5:decide ((b.toNat:Int)<48)<;>cases h6:decide (57<(b.toNat:Int)) <;>
   simp only [h1,h2,h3,h4,h5,h6,Bool.true_and,Bool.false_and,Bool.and_true,Bool.and_false,Bool.or_true,Bool.true_or,Bool.or_false,Bool.false_or,Bool.not_true,Bool.not_false] at ea <;>
   (try simp only [rwp,hwR,zA,zB,zC,zD,zE,zF,zG,zH,zI,x1j,ymz,ymy,ymx,h4,h5,h6]) <;>
   first
    | exact q04 ⟨by rw [bad ea],rfl⟩
    | ((simp (disch:=omega) only [q05]);exact q09 rfl (good ea))
 ·refine q04 ⟨?_,rfl⟩;obtain ⟨b0,hb0⟩:∃ b,s[0]?=some b:=q4j (i:=0) (by omega)
  have h0:=hn 0 b0 (by omega) hb0
  have h0':q61 b0.toNat=true:=by simpa [atN] using h0
  have hall:yog y2r s=true:=allB_iff.2 fun j c hc=>by
   have h8:=hn j c (by have:=q7j hc;omega) hc
   simp only [atN,Bool.or_eq_true,Bool.and_eq_true] at h8;simp only [y2r,Bool.or_eq_true];rcases h8 with h8 | ⟨-,h8 | h8⟩
   ·exact .inl (.inl h8)
   ·exact .inr h8
   ·exact .inl (.inr h8)
  have:q0v s=true:=by
   simp only [q0v,decide_eq_false c3,decide_eq_false c4,decide_eq_false c5,hall,hb0,h0',Bool.not_false,Bool.true_and,Bool.and_true,Bool.and_eq_true,decide_eq_true_eq];omega
  rw [this]
theorem AFun.at {P:Program} {f:Nat} {xs:List AV} {v:AV} (h:AFun P f xs v) (S:q00):AFunS P f xs S v:=h S
theorem q3j {α:Type} {p:α->Bool}:∀ {l:List α},(q0w p l).isSome=l.any p
 | []=>rfl
 | x :: r=>by
  unfold q0w;by_cases h:p x=true
  ·simp [h]
  ·have:=q3j (p:=p) (l:=r);simp only [h,if_false,Option.isSome_map,this,List.any_cons,Bool.false_or,Bool.false_eq_true]
theorem y5l {o:Option Nat}:decide (0<=oi o)=o.isSome:=by
 cases o with
 | none=>rfl
 | some i=>simp [oi]
section
variable {α:Type} {enc:α->List AV} {xs:List α} {S:q00} {g:Nat} {fi ca:List AV} {p:α->Bool}
theorem y2c (hl:∀ x∈xs,(enc x).length=2) (hb:xs.length<=1125899906842624) (hp:∀ x∈xs,AFunS PG g (fi++[.agg (enc x)]++ca) S (.bool (p x))) :
  AFunS PG ys5 [.sl 2 (xs.map enc),.func (.func g) fi ca] S (.int .i64 (oi (q0w p xs))):=by
 refine xdq ?_;unfold xat;(try simp only [rwp,hwR,zA,zB,zC,zD,zE,zF,zG,zH,zI]);refine LoopP.intro (fun i:Nat=>[(0,.sl 2 (xs.map enc)),(1,.func (.func g) fi ca),(7,.int .i64 xs.length),(8,.int .i64 i)]) (fun _=>S) (fun i=>i<=xs.length/\∀ j x,j<i->xs[j]?=some x->p x=false) (fun i=>xs.length-i) 0 ⟨by omega,by omega⟩ rfl (Sub.refl S) ?_
 rintro i ⟨hi,hn⟩ r hr;unfold yv1;(try simp only [rwp,hwR,zA,zB,zC,zD,zE,zF,zG,zH,zI])
 (refine q02 (fun hlt=>?_) (fun hlt=>?_)<;>(try simp only [hlc] at hlt))
 ·obtain ⟨x,hx⟩:=q0c hlt;(try simp only [rwp,hwR,zA,zB,zC,zD,zE,zF,zG,zH,zI,hx]);rw [y0v (hl x (lB hx))];refine y6a (hp x (lB hx)) ?_
  (refine q02 (fun he=>?_) (fun he=>?_)<;>(try simp only [rwp,hwR,zA,zB,zC,zD,zE,zF,zG,zH,zI,he]))
  ·have:q0w p xs=some i:=firstI_some.2 ⟨⟨x,hx,he⟩,hn⟩;exact q04 ⟨by rw [this];rfl,rfl⟩
  ·(simp (disch:=omega) only [q05])
   refine q09 rfl (hr (i+1) ⟨by omega,fun j u hj hu=>?_⟩ (by omega))
   rcases Nat.lt_succ_iff_lt_or_eq.1 hj with h | rfl
   ·exact hn j u h hu
   ·rw [hx] at hu;cases hu;exact he
 ·have:q0w p xs=none:=firstI_none.2 fun j u hu=>hn j u (by have:=(List.getElem?_eq_some_iff.1 hu).1;omega) hu
  exact q04 ⟨by rw [this];rfl,rfl⟩
theorem q7i (hl:∀ x∈xs,(enc x).length=2) (hb:xs.length<=1125899906842624) (hp:∀ x∈xs,AFunS PG g (fi++[.agg (enc x)]++ca) S (.bool (p x))) :
  AFunS PG ysd [.sl 2 (xs.map enc),.func (.func g) fi ca] S (.bool (xs.any p)):=by
 refine xdx ?_;unfold xb0;refine q13 (y2c hl hb hp) ?_;(try simp only [rwp,hwR,zA,zB,zC,zD,zE,zF,zG,zH,zI]);exact q04 ⟨by rw [y5l,q3j],rfl⟩
theorem y2b (hl:∀ x∈xs,(enc x).length=6) (hb:xs.length<=1125899906842624) (hp:∀ x∈xs,AFunS PG g (fi++[.agg (enc x)]++ca) S (.bool (p x))) :
  AFunS PG ysf [.sl 6 (xs.map enc),.func (.func g) fi ca] S (.int .i64 (oi (q0w p xs))):=by
 refine xdy ?_;unfold xb1;(try simp only [rwp,hwR,zA,zB,zC,zD,zE,zF,zG,zH,zI]);refine LoopP.intro (fun i:Nat=>[(0,.sl 6 (xs.map enc)),(1,.func (.func g) fi ca),(7,.int .i64 xs.length),(8,.int .i64 i)]) (fun _=>S) (fun i=>i<=xs.length/\∀ j x,j<i->xs[j]?=some x->p x=false) (fun i=>xs.length-i) 0 ⟨by omega,by omega⟩ rfl (Sub.refl S) ?_
 rintro i ⟨hi,hn⟩ r hr;unfold yv2;(try simp only [rwp,hwR,zA,zB,zC,zD,zE,zF,zG,zH,zI])
 (refine q02 (fun hlt=>?_) (fun hlt=>?_)<;>(try simp only [hlc] at hlt))
 ·obtain ⟨x,hx⟩:=q0c hlt;(try simp only [rwp,hwR,zA,zB,zC,zD,zE,zF,zG,zH,zI,hx]);rw [y0v (hl x (lB hx))];refine y6a (hp x (lB hx)) ?_
  (refine q02 (fun he=>?_) (fun he=>?_)<;>(try simp only [rwp,hwR,zA,zB,zC,zD,zE,zF,zG,zH,zI,he]))
  ·have:q0w p xs=some i:=firstI_some.2 ⟨⟨x,hx,he⟩,hn⟩;exact q04 ⟨by rw [this];rfl,rfl⟩
  ·(simp (disch:=omega) only [q05])
   refine q09 rfl (hr (i+1) ⟨by omega,fun j u hj hu=>?_⟩ (by omega))
   rcases Nat.lt_succ_iff_lt_or_eq.1 hj with h | rfl
   ·exact hn j u h hu
   ·rw [hx] at hu;cases hu;exact he
 ·have:q0w p xs=none:=firstI_none.2 fun j u hu=>hn j u (by have:=(List.getElem?_eq_some_iff.1 hu).1;omega) hu
  exact q04 ⟨by rw [this];rfl,rfl⟩
theorem q7h (hl:∀ x∈xs,(enc x).length=6) (hb:xs.length<=1125899906842624) (hp:∀ x∈xs,AFunS PG g (fi++[.agg (enc x)]++ca) S (.bool (p x))) :
  AFunS PG yt5 [.sl 6 (xs.map enc),.func (.func g) fi ca] S (.bool (xs.any p)):=by
 refine xer ?_;unfold xbu;refine q13 (y2b hl hb hp) ?_;(try simp only [rwp,hwR,zA,zB,zC,zD,zE,zF,zG,zH,zI]);exact q04 ⟨by rw [y5l,q3j],rfl⟩
end
def two (p:Ex->Bool):List Ex->Bool
 | [a,b]=>p a&&p b
 | _=>false
theorem yrx {ks:List Ex} (h:(ks.length:Int)=2):∃ a b,ks=[a,b]:=by
 match ks,h with
 | [a,b],_=>exact ⟨a,b,rfl⟩
 | [],h=>simp at h
 | [_],h=>simp at h
 | _ :: _ :: _ :: r,h=>simp at h;omega
theorem yir {p:Ex->Bool} {ks:List Ex} (h:¬ (ks.length:Int)=2):two p ks=false:=by
 unfold two;split
 ·exact absurd rfl h
 ·rfl
def y0i:Nat->Ex->Bool
 | 0,_=>false
 | m+1,.mk k n o ks=>
  if k=0 then q0v n&&ks.isEmpty
  else if k=1 then q0v n&&(q0v o&&ks.isEmpty)
  else if k=2\/k=3\/k=4 then two (y0i m) ks
  else false
theorem q6g {ks:List Ex}:ks.isEmpty=decide ((ks.length:Int)=0):=by
 cases ks with
 | nil=>rfl
 | cons a r=>rw [decide_eq_false (by simp only [lD];omega)];rfl
def ygk (k:Int):ByteArray:=if k=2 then ⟨#[32,43,32]⟩ else if k=3 then ⟨#[32,38,32]⟩ else if k=4 then ⟨#[32,45,32]⟩ else ⟨#[]⟩
theorem ybz (k:Int):AFun PG ys6 [.int .i64 k] (.str (ygk k)):=by
 intro S;refine xdr ?_;unfold xau;(try simp only [rwp,hwR,zA,zB,zC,zD,zE,zF,zG,zH,zI])
 (refine q02 (fun h1=>?_) (fun h1=>?_)<;>(try simp only [hlc] at h1))
 ·exact q04 ⟨by rw [h1];rfl,rfl⟩
 (refine q02 (fun h2=>?_) (fun h2=>?_)<;>(try simp only [hlc] at h2))
 ·exact q04 ⟨by rw [h2];rfl,rfl⟩
 (refine q02 (fun h3=>?_) (fun h3=>?_)<;>(try simp only [hlc] at h3))
 ·exact q04 ⟨by rw [h3];rfl,rfl⟩
 exact q04 ⟨by simp only [ygk,if_neg h1,if_neg h2,if_neg h3],rfl⟩
theorem sign_none {k:Int}:ygk k=⟨#[]⟩↔¬ (k=2\/k=3\/k=4):=by
 unfold ygk;constructor
 ·intro h;split at h
  ·exact absurd h (by decide)
  ·split at h
   ·exact absurd h (by decide)
   ·split at h
    ·exact absurd h (by decide)
    ·omega
 ·intro h;rw [if_neg (by omega),if_neg (by omega),if_neg (by omega)]
theorem y28:∀ (m:Nat),m<=1000->∀ (e:Ex),OkE e->AFun PG ysa [.agg (exC e),.int .i64 m] (.bool (y0i m e)):=by
 intro m
 induction m with
 | zero=>
  intro hm e he S;refine x2j ?_;unfold x20;have h0:decide (((0:Nat):Int)=0)=true:=rfl;(try simp only [rwp,hwR,zA,zB,zC,zD,zE,zF,zG,zH,zI,q0e,h0,yf9,yf8]);exact q04 ⟨by cases e;rfl,rfl⟩
 | succ m ih=>
  intro hm e he S;refine x2j ?_;unfold x20;have h0:decide (((m+1:Nat):Int)=0)=false:=decide_eq_false (by omega)
  obtain ⟨k,n,o,ks,hk,hn,ho,hks⟩:=he;(try simp only [rwp,hwR,zA,zB,zC,zD,zE,zF,zG,zH,zI,q0e,Ex.kind,Ex.name,Ex.over,Ex.kids,h0,yf9,yf8])
  (refine q02 (fun h1=>?_) (fun h1=>?_)<;>(try simp only [hlc] at h1))
  ·refine q04 ⟨?_,rfl⟩;simp only [Bool.or_eq_true,decide_eq_true_eq,Bool.false_or] at h1;have:y0i (m+1) (.mk k n o ks)=false:=by
    unfold y0i;rw [if_neg (by omega),if_neg (by omega),if_neg (by omega)]
   rw [this]
  simp only [Bool.or_eq_false_iff,decide_eq_false_iff_not,Bool.false_or] at h1
  (refine q02 (fun h2=>?_) (fun h2=>?_)<;>(try simp only [hlc] at h2))
  ·refine q06 (q0z hn) ?_;(try simp only [rwp,hwR,zA,zB,zC,zD,zE,zF,zG,zH,zI]);refine q06 (q0z ho) ?_;have key:y0i (m+1) (.mk k n o ks)=(q0v n&&(ks.isEmpty&&(decide (k=0)||q0v o))):=by
    unfold y0i;by_cases h:k=0
    ·rw [if_pos h,decide_eq_true h];simp
    ·rw [if_neg h,if_pos (by omega),decide_eq_false h];cases q0v n<;>cases q0v o<;>cases ks.isEmpty<;>rfl
   rw [q6g] at key;(try simp only [rwp,hwR,zA,zB,zC,zD,zE,zF,zG,zH,zI]);cases a1:q0v n<;>cases a2:decide ((ks.length:Int)=0)<;>cases a3:decide (k=0)<;>rw [a1,a2,a3] at key <;>
    (try simp only [rwp,hwR,zA,zB,zC,zD,zE,zF,zG,zH,zI,yn9,yn8,yn7,a3])<;>exact q04 ⟨by rw [key];rfl,rfl⟩
  ·have key:y0i (m+1) (.mk k n o ks)=two (y0i m) ks:=by rw [y0i,if_neg (by omega),if_neg (by omega),if_pos (by omega)]
   (refine q02 (fun h3=>?_) (fun h3=>?_)<;>(try simp only [hlc] at h3))
   ·exact q04 ⟨by rw [key,yir h3],rfl⟩
   ·obtain ⟨a,b,rfl⟩:=yrx h3;have hm1:IntKind.i64.wrap (((m+1:Nat):Int)-1)=(m:Int):=by rw [q05]<;>omega
    (try simp only [rwp,hwR,zA,zB,zC,zD,zE,zF,zG,zH,zI,hm1]);refine q06 (ih (by omega) a (hks a (by simp))) ?_
    (refine q1l (fun hg=>?_) (fun hg=>?_)<;>(try simp only [rwp,hwR,zA,zB,zC,zD,zE,zF,zG,zH,zI,hg,hm1]))
    ·refine q06 (ih (by omega) b (hks b (by simp))) ?_
     exact q04 ⟨by simp only [key,two,hg,Bool.true_and],rfl⟩
    ·exact q04 ⟨by simp only [key,two,hg,Bool.false_and,Bool.not_true],rfl⟩
theorem yhq:∀ (m:Nat),m<=1000->∀ (e:Ex),OkE e->AFun PG yse [.agg (exC e),.int .i64 m] (.bool (y0i m e)):=by
 intro m
 induction m with
 | zero=>
  intro hm e he S;refine x2k ?_;unfold x21;have h0:decide (((0:Nat):Int)=0)=true:=rfl;(try simp only [rwp,hwR,zA,zB,zC,zD,zE,zF,zG,zH,zI,q0e,h0]);exact q04 ⟨by cases e;rfl,rfl⟩
 | succ m ih=>
  intro hm e he S;refine x2k ?_;unfold x21;have h0:decide (((m+1:Nat):Int)=0)=false:=decide_eq_false (by omega)
  obtain ⟨k,n,o,ks,hk,hn,ho,hks⟩:=he;(try simp only [rwp,hwR,zA,zB,zC,zD,zE,zF,zG,zH,zI,q0e,Ex.kind,Ex.name,Ex.over,Ex.kids,h0])
  (refine q02 (fun h2=>?_) (fun h2=>?_)<;>(try simp only [hlc] at h2))
  ·have key:y0i (m+1) (.mk k n o ks)=(q0v n&&decide ((ks.length:Int)=0)):=by rw [y0i,if_pos h2,q6g]
   refine q06 (q16 hn) ?_;(try simp only [rwp,hwR,zA,zB,zC,zD,zE,zF,zG,zH,zI]);exact q04 ⟨by rw [key],rfl⟩
  (refine q02 (fun h3=>?_) (fun h3=>?_)<;>(try simp only [hlc] at h3))
  ·have key:y0i (m+1) (.mk k n o ks)=(q0v n&&(q0v o&&decide ((ks.length:Int)=0))):=by rw [y0i,if_neg h2,if_pos h3,q6g]
   refine q06 (q16 hn) ?_
   (refine q1l (fun hg=>?_) (fun hg=>?_)<;>(try simp only [rwp,hwR,zA,zB,zC,zD,zE,zF,zG,zH,zI,hg,yfa]))
   ·refine q06 (q16 ho) ?_;(try simp only [rwp,hwR,zA,zB,zC,zD,zE,zF,zG,zH,zI,yfa]);exact q04 ⟨by rw [key,hg];rfl,rfl⟩
   ·exact q04 ⟨by rw [key,hg];rfl,rfl⟩
  ·refine q06 (ybz k) ?_;by_cases h4:k=2\/k=3\/k=4
   ·have key:y0i (m+1) (.mk k n o ks)=two (y0i m) ks:=by rw [y0i,if_neg h2,if_neg h3,if_pos h4]
    have hs:decide (ygk k=⟨#[]⟩)=false:=decide_eq_false fun h=>sign_none.1 h h4
    (try simp only [rwp,hwR,zA,zB,zC,zD,zE,zF,zG,zH,zI,hs,yfb])
    (refine q1l (fun hg=>?_) (fun hg=>?_)<;>(try simp only [rwp,hwR,zA,zB,zC,zD,zE,zF,zG,zH,zI,hg,hs]))
    ·obtain ⟨a,b,rfl⟩:=yrx (by simpa using hg)
     have hm1:IntKind.i64.wrap (((m+1:Nat):Int)-1)=(m:Int):=by rw [q05]<;>omega
     (try simp only [rwp,hwR,zA,zB,zC,zD,zE,zF,zG,zH,zI,hm1]);refine q06 (ih (by omega) a (hks a (by simp))) ?_
     (try simp only [rwp,hwR,zA,zB,zC,zD,zE,zF,zG,zH,zI,y9t])
     (refine q1l (fun hg=>?_) (fun hg=>?_)<;>(try simp only [rwp,hwR,zA,zB,zC,zD,zE,zF,zG,zH,zI,hg,hm1]))
     ·refine q06 (ih (by omega) b (hks b (by simp))) ?_
      exact q04 ⟨by simp only [key,two,hg,Bool.true_and],rfl⟩
     ·exact q04 ⟨by simp only [key,two,hg,Bool.false_and,Bool.not_true],rfl⟩
    ·(try simp only [rwp,hwR,zA,zB,zC,zD,zE,zF,zG,zH,zI,y9t]);exact q04 ⟨by rw [key,yir (by simpa using hg)],rfl⟩
   ·have key:y0i (m+1) (.mk k n o ks)=false:=by rw [y0i,if_neg h2,if_neg h3,if_neg h4]
    have hs:decide (ygk k=⟨#[]⟩)=true:=decide_eq_true (sign_none.2 h4);(try simp only [rwp,hwR,zA,zB,zC,zD,zE,zF,zG,zH,zI,hs,yfb,y9t]);exact q04 ⟨by rw [key],rfl⟩
def yih (f:Rf):Bool:=q0v f.ty&&(decide (f.rl=⟨#[]⟩)||q0v f.rl)
def y5h (r:Rl):Bool:=q0v r.name&&(r.refs.all yih&&(!r.refs.isEmpty||y0i 12 r.ex))
def yiq (t:Ty):Bool:=q0v t.name&&t.rels.all y5h
def scB (s:List Ty):Bool:=s.all yiq
theorem yhp {f:Rf} (hf:OkF f):AFun PG ysb [.agg (rfC f)] (.bool (yih f)):=by
 intro S;refine xdv ?_;unfold xay;(try simp only [rwp,hwR,zA,zB,zC,zD,zE,zF,zG,zH,zI,rfC]);refine q06 (q16 hf.ty) ?_;cases h1:q0v f.ty<;>(try simp only [rwp,hwR,zA,zB,zC,zD,zE,zF,zG,zH,zI,yna,y9s])
 ·exact q04 ⟨by simp only [yih,h1,Bool.false_and],rfl⟩
 (refine q1l (fun hg=>?_) (fun hg=>?_)<;>(try simp only [rwp,hwR,zA,zB,zC,zD,zE,zF,zG,zH,zI,hg,y9s]))
 ·refine q06 (q16 hf.rl) ?_;(try simp only [rwp,hwR,zA,zB,zC,zD,zE,zF,zG,zH,zI,y9s,hg]);exact q04 ⟨by simp only [yih,h1,hg,Bool.true_and,Bool.false_or],rfl⟩
 ·exact q04 ⟨by simp only [yih,h1,hg,Bool.true_and,Bool.true_or,Bool.not_false],rfl⟩
theorem y95 {f:Rf} (hf:OkF f):AFun PG ysc [.agg (rfC f)] (.bool (!yih f)):=by
 intro S;refine xdw ?_;unfold xaz;(try simp only [rwp,hwR,zA,zB,zC,zD,zE,zF,zG,zH,zI,rfC]);refine q06 (yhp hf) ?_;(try simp only [rwp,hwR,zA,zB,zC,zD,zE,zF,zG,zH,zI]);exact q04 ⟨rfl,rfl⟩
theorem ymh {α:Type} {p:α->Bool} {l:List α}:(!l.any fun x=>!p x)=l.all p:=by
 induction l with
 | nil=>rfl
 | cons x r ih=>simp only [List.any_cons,List.all_cons,Bool.not_or,Bool.not_not,ih]
theorem yho {r:Rl} (hr:OkR r):AFun PG yt3 [.agg (rlC r)] (.bool (y5h r)):=by
 intro S;refine xep ?_;unfold xbs;(try simp only [rwp,hwR,zA,zB,zC,zD,zE,zF,zG,zH,zI,q0o])
 (refine q02 (fun h1=>?_) (fun h1=>?_)<;>(try simp only [rwp,hwR,zA,zB,zC,zD,zE,zF,zG,zH,zI,h1]))
 ·have he:r.refs=[]:=by simpa using h1
  refine q06 (q16 hr.name) ?_
  (refine q1l (fun hg=>?_) (fun hg=>?_)<;>(try simp only [rwp,hwR,zA,zB,zC,zD,zE,zF,zG,zH,zI,hg]))
  ·rw [<- q0e];refine q06 (yhq 12 (by omega) r.ex hr.ex) ?_
   exact q04 ⟨by simp only [y5h,hg,he,List.all_nil,List.isEmpty_nil,Bool.true_and,Bool.not_true,Bool.false_or],rfl⟩
  ·exact q04 ⟨by simp only [y5h,hg,Bool.false_and,Bool.not_true],rfl⟩
 ·have he:r.refs.isEmpty=false:=by
   cases h2:r.refs with
   | nil=>rw [h2] at h1;simp at h1
   | cons a l=>rfl
  refine q06 (q16 hr.name) ?_
  (refine q1l (fun hg=>?_) (fun hg=>?_)<;>(try simp only [rwp,hwR,zA,zB,zC,zD,zE,zF,zG,zH,zI,hg]))
  ·refine q13 (q7i (enc:=rfC) (p:=fun f=>!yih f) (fun x _=>rfl) hr.refs (fun x hx=>y95 (hr.ref x hx) S)) ?_
   (try simp only [rwp,hwR,zA,zB,zC,zD,zE,zF,zG,zH,zI]);exact q04 ⟨by rw [ymh];simp only [y5h,hg,he,Bool.true_and,Bool.not_false,Bool.true_or,Bool.and_true],rfl⟩
  ·exact q04 ⟨by simp only [y5h,hg,Bool.false_and,Bool.not_true],rfl⟩
theorem y96 {r:Rl} (hr:OkR r):AFun PG yt4 [.agg (rlC r)] (.bool (!y5h r)):=by
 intro S;refine xeq ?_;unfold xbt;(try simp only [rwp,hwR,zA,zB,zC,zD,zE,zF,zG,zH,zI,q0o]);rw [<- q0o];refine q06 (yho hr) ?_;(try simp only [rwp,hwR,zA,zB,zC,zD,zE,zF,zG,zH,zI]);exact q04 ⟨rfl,rfl⟩
theorem q3d {α:Type} {p:α->Bool} {l:List α} {i:Nat} {x:α} (h:l[i]?=some x) (hp:p x=false):l.all p=false:=by
 cases hq:l.all p with
 | false=>rfl
 | true=>rw [List.all_eq_true] at hq;rw [hq x (lB h)] at hp;cases hp
theorem q5y {α:Type} {p:α->Bool} {l:List α} (h:∀ j x,j<l.length->l[j]?=some x->p x=true):l.all p=true:=by
 rw [List.all_eq_true];intro x hx;obtain ⟨i,hi⟩:=lL hx;exact h i x (List.getElem?_eq_some_iff.1 hi).1 hi
theorem yhr {s:List Ty} (hs:OkS s):AFun PG ytu [scA s] (.bool (scB s)):=by
 intro S;have hb:=hs.types;refine xfk ?_;unfold xcn;(try simp only [rwp,hwR,zA,zB,zC,zD,zE,zF,zG,zH,zI,scA]);refine LoopP.intro (fun i:Nat=>[(6,.sl 2 (s.map tyC)),(7,.int .i64 s.length),(8,.int .i64 i)]) (fun _=>S) (fun i=>i<=s.length/\∀ j t,j<i->s[j]?=some t->yiq t=true) (fun i=>s.length-i) 0 ⟨by omega,by omega⟩ rfl (Sub.refl S) ?_
 rintro i ⟨hi,hn⟩ r hr;unfold yw6;(try simp only [rwp,hwR,zA,zB,zC,zD,zE,zF,zG,zH,zI])
 (refine q02 (fun hlt=>?_) (fun hlt=>?_)<;>(try simp only [hlc] at hlt))
 ·obtain ⟨t,ht⟩:=q0c hlt;have hok:=hs.at ht;(try simp only [rwp,hwR,zA,zB,zC,zD,zE,zF,zG,zH,zI,ht,tyC]);refine q06 (q16 hok.name) ?_;(try simp only [rwp,hwR,zA,zB,zC,zD,zE,zF,zG,zH,zI]);have next:yiq t=true->r [(6,.sl 2 (s.map tyC)),(7,.int .i64 s.length),(8,.int .i64 ((i:Int)+1))] S:=fun h=>by
   refine hr (i+1) ⟨by omega,fun j u hj hu=>?_⟩ (by omega)
   rcases Nat.lt_succ_iff_lt_or_eq.1 hj with h1 | rfl
   ·exact hn j u h1 hu
   ·rw [ht] at hu;cases hu;exact h
  cases h1:q0v t.name<;>(try simp only [rwp,hwR,zA,zB,zC,zD,zE,zF,zG,zH,zI])
  ·exact q04 ⟨by rw [scB,q3d ht (by simp only [yiq,h1,Bool.false_and])],rfl⟩
  ·refine q13 (q7h (enc:=rlC) (p:=fun r=>!y5h r) (fun x _=>y5e x) hok.rels (fun x hx=>y96 (hok.rel x hx) S)) ?_
   (try simp only [rwp,hwR,zA,zB,zC,zD,zE,zF,zG,zH,zI]);have h2:(t.rels.any fun r=>!y5h r)=!t.rels.all y5h:=by rw [<- ymh,Bool.not_not]
   rw [h2]
   (refine q02 (fun h3=>?_) (fun h3=>?_)<;>(try simp only [rwp,hwR,zA,zB,zC,zD,zE,zF,zG,zH,zI,h3]))
   ·exact q04 ⟨by rw [scB,q3d ht (by simp only [yiq,h1,Bool.true_and];simpa using h3)],rfl⟩
   ·(simp (disch:=omega) only [q05])
    exact q09 rfl (next (by simp only [yiq,h1,Bool.true_and];simpa using h3))
 ·exact q04 ⟨by rw [scB,q5y fun j t hj ht=>hn j t (by omega) ht],rfl⟩
theorem yh6 {α:Type} {l:List α}:(!l.isEmpty)=decide ((0:Int)<l.length):=by
 cases l with
 | nil=>rfl
 | cons a r=>rw [decide_eq_true (by simp only [lD];omega)];rfl
theorem y2x {r:Rl} (hr:OkR r):AFun PG ysv [.agg (rlC r)] (.bool (y5h r)):=by
 intro S;have hb:=hr.refs;refine xef ?_;unfold xbi;(try simp only [rwp,hwR,zA,zB,zC,zD,zE,zF,zG,zH,zI,q0o]);refine q06 (q0z hr.name) ?_;(try simp only [rwp,hwR,zA,zB,zC,zD,zE,zF,zG,zH,zI]);cases h1:q0v r.name<;>(try simp only [rwp,hwR,zA,zB,zC,zD,zE,zF,zG,zH,zI])
 ·exact q04 ⟨by simp only [y5h,h1,Bool.false_and],rfl⟩
 refine LoopP.intro (fun i:Nat=>[(1,.rop [.str r.name,.sl 2 (r.refs.map rfC),.int .i64 r.ex.kind,.str r.ex.name,.str r.ex.over,.sl 4 (r.ex.kids.map exC)]),(4,.int .i64 i)]) (fun _=>S) (fun i=>i<=r.refs.length/\∀ j t,j<i->r.refs[j]?=some t->yih t=true) (fun i=>r.refs.length-i) 0 ⟨by omega,by omega⟩ rfl (Sub.refl S) ?_
 rintro i ⟨hi,hn⟩ k hk;(try simp only [rwp,hwR,zA,zB,zC,zD,zE,zF,zG,zH,zI,yva])
 (refine q02 (fun hlt=>?_) (fun hlt=>?_)<;>(try simp only [hlc] at hlt))
 ·obtain ⟨f,hf⟩:=q0c hlt;have hok:=hr.at hf;(try simp only [rwp,hwR,zA,zB,zC,zD,zE,zF,zG,zH,zI,hf,rfC]);refine q06 (q0z hok.ty) ?_;(try simp only [rwp,hwR,zA,zB,zC,zD,zE,zF,zG,zH,zI,hf,rfC]);refine q06 (q0z hok.rl) ?_;have bad:yih f=false->y5h r=false:=fun h=>by rw [y5h,q3d hf h];simp
  have next:yih f=true->k [(1,.rop [.str r.name,.sl 2 (r.refs.map rfC),.int .i64 r.ex.kind,.str r.ex.name,.str r.ex.over,.sl 4 (r.ex.kids.map exC)]),(4,.int .i64 ((i:Int)+1))] S:=fun h=>by
   refine hk (i+1) ⟨by omega,fun j u hj hu=>?_⟩ (by omega)
   rcases Nat.lt_succ_iff_lt_or_eq.1 hj with h1 | rfl
   ·exact hn j u h1 hu
   ·rw [hf] at hu;cases hu;exact h
  have ea:yih f=(q0v f.ty&&(decide (f.rl=⟨#[]⟩)||q0v f.rl)):=rfl;cases a1:q0v f.ty<;>cases a2:q0v f.rl<;>cases a3:decide (f.rl=⟨#[]⟩)<;>rw [a1,a2,a3] at ea <;>
   (try simp only [rwp,hwR,zA,zB,zC,zD,zE,zF,zG,zH,zI,yng,ynf,hf,rfC,a3]) <;>
   first
    | exact q04 ⟨by rw [bad ea],rfl⟩
    | ((simp (disch:=omega) only [q05]);exact q09 rfl (next ea))
 ·have hall:r.refs.all yih=true:=q5y fun j t hj ht=>hn j t (by omega) ht
  have e1:y5h r=(decide ((0:Int)<r.refs.length)||y0i 12 r.ex):=by simp only [y5h,h1,hall,Bool.true_and,yh6]
  (refine q1l (fun hg=>?_) (fun hg=>?_)<;>(try simp only [rwp,hwR,zA,zB,zC,zD,zE,zF,zG,zH,zI,hg]))
  ·rw [<- q0e];refine q06 (y28 12 (by omega) r.ex hr.ex) ?_
   exact q04 ⟨by rw [e1,hg];rfl,rfl⟩
  ·exact q04 ⟨by rw [e1,hg];rfl,rfl⟩
theorem ybw {s:List Ty} (hs:OkS s):AFun PG yto [scA s] (.bool (scB s)):=by
 intro S;have hb:=hs.types;refine xfa ?_;unfold xcd;(try simp only [rwp,hwR,zA,zB,zC,zD,zE,zF,zG,zH,zI,scA]);refine LoopP.intro (fun i:Nat=>[(1,.rop [.sl 2 (s.map tyC)]),(3,.int .i64 i)]) (fun _=>S) (fun i=>i<=s.length/\∀ j t,j<i->s[j]?=some t->yiq t=true) (fun i=>s.length-i) 0 ⟨by omega,by omega⟩ rfl (Sub.refl S) ?_
 rintro i ⟨hi,hn⟩ k hk;(try simp only [rwp,hwR,zA,zB,zC,zD,zE,zF,zG,zH,zI,yvz])
 (refine q02 (fun hlt=>?_) (fun hlt=>?_)<;>(try simp only [hlc] at hlt))
 ·obtain ⟨t,ht⟩:=q0c hlt;have hok:=hs.at ht;have hb2:=hok.rels;(try simp only [rwp,hwR,zA,zB,zC,zD,zE,zF,zG,zH,zI,ht,tyC]);refine q06 (q0z hok.name) ?_;(try simp only [rwp,hwR,zA,zB,zC,zD,zE,zF,zG,zH,zI]);cases h1:q0v t.name<;>(try simp only [rwp,hwR,zA,zB,zC,zD,zE,zF,zG,zH,zI])
  ·exact q04 ⟨by rw [scB,q3d ht (by simp only [yiq,h1,Bool.false_and])],rfl⟩
  refine LoopP.intro (fun j:Nat=>[(1,.rop [.sl 2 (s.map tyC)]),(3,.int .i64 i),(5,.int .i64 j)]) (fun _=>S) (fun j=>j<=t.rels.length/\∀ m r,m<j->t.rels[m]?=some r->y5h r=true) (fun j=>t.rels.length-j) 0 ⟨by omega,by omega⟩ rfl (Sub.refl S) ?_
  rintro j ⟨hj,hnj⟩ k2 hk2;(try simp only [rwp,hwR,zA,zB,zC,zD,zE,zF,zG,zH,zI,yvy,ht,tyC])
  (refine q02 (fun hlt2=>?_) (fun hlt2=>?_)<;>(try simp only [hlc] at hlt2))
  ·obtain ⟨r,hr⟩:=q0c hlt2;(try simp only [rwp,hwR,zA,zB,zC,zD,zE,zF,zG,zH,zI,hr]);refine q06 (y2x (hok.at hr)) ?_;cases h2:y5h r<;>(try simp only [rwp,hwR,zA,zB,zC,zD,zE,zF,zG,zH,zI])
   ·exact q04 ⟨by rw [scB,q3d ht (by simp only [yiq,q3d hr h2,Bool.and_false])],rfl⟩
   ·(simp (disch:=omega) only [q05])
    refine q09 rfl (hk2 (j+1) ⟨by omega,fun m u hm hu=>?_⟩ (by omega))
    rcases Nat.lt_succ_iff_lt_or_eq.1 hm with h3 | rfl
    ·exact hnj m u h3 hu
    ·rw [hr] at hu;cases hu;exact h2
  ·(simp (disch:=omega) only [q05])
   refine q09 rfl (hk (i+1) ⟨by omega,fun m u hm hu=>?_⟩ (by omega))
   rcases Nat.lt_succ_iff_lt_or_eq.1 hm with h3 | rfl
   ·exact hn m u h3 hu
   ·rw [ht] at hu;cases hu;simp only [yiq,h1,Bool.true_and];exact q5y fun m r hm hr=>hnj m r (by omega) hr
 ·exact q04 ⟨by rw [scB,q5y fun j t hj ht=>hn j t (by omega) ht],rfl⟩
mutual
def q1k:Ex->Int->Int
 | .mk _ _ _ ks,m=>if m<ks.length then 0 else q1z ks (m-1)
def q1z:List Ex->Int->Int
 | [],m=>m
 | e :: r,m=>if 0<m then q1z r (q1k e m) else m
end
mutual
theorem q7q:∀ (e:Ex) (m:Int),q1k e m<=max m 0/\(-1<=q1k e m\/m<=q1k e m+1)
 | .mk _ _ _ ks,m=>by
  unfold q1k;split
  ·omega
  ·have:=y32 ks (m-1);omega
theorem y32:∀ (l:List Ex) (m:Int),q1z l m<=max m 0/\(-1<=q1z l m\/m<=q1z l m)
 | [],m=>by unfold q1z;omega
 | e :: r,m=>by
  unfold q1z;split
  ·have h1:=q7q e m;have h2:=y32 r (q1k e m);omega
  ·omega
end
theorem q8q {l:List Ex} {m:Int} (h:¬ 0<m):q1z l m=m:=by
 cases l with
 | nil=>rfl
 | cons e r=>rw [q1z,if_neg h]
theorem y2z:∀ (e:Ex),OkE e->∀ (m:Int),-1125899906842624<=m->m<=1125899906842624->AFun PG x6c [.agg (exC e),.int .i64 m] (.int .i64 (q1k e m)):=by
 intro e he
 induction he with
 | mk k n o ks hk hn ho hks ih=>
  intro m hm1 hm2 S;refine xkl ?_;unfold xj3;(try simp only [rwp,hwR,zA,zB,zC,zD,zE,zF,zG,zH,zI,q0e,Ex.kind,Ex.name,Ex.over,Ex.kids])
  (refine q02 (fun h1=>?_) (fun h1=>?_)<;>(try simp only [hlc] at h1))
  ·exact q04 ⟨by rw [q1k,if_pos h1],rfl⟩
  (simp (disch:=omega) only [q05])
  refine LoopP.intro (fun p:Nat×Int=>[(1,.int .i64 p.2),(2,.rop [.int .i64 k,.str n,.str o,.sl 4 (ks.map exC)]),(5,.int .i64 p.1)]) (fun _=>S) (fun p=>p.1<=ks.length/\q1z (ks.drop p.1) p.2=q1z ks (m-1)/\-1125899906842626<=p.2/\p.2<=1125899906842624) (fun p=>ks.length-p.1) (0,m-1) ⟨by omega,rfl,by omega,by omega⟩ rfl (Sub.refl S) ?_
  rintro ⟨i,q⟩ ⟨hi,hq,hb1,hb2⟩ r hr;dsimp only at hi hq hb1 hb2;(try simp only [rwp,hwR,zA,zB,zC,zD,zE,zF,zG,zH,zI,x9t,x15]);have fin:∀ v,v=q1z ks (m-1)->v=q1k (.mk k n o ks) m:=fun v hv=>by rw [q1k,if_neg h1,hv]
  (refine q02 (fun h2=>?_) (fun h2=>?_)<;>(try simp only [rwp,hwR,zA,zB,zC,zD,zE,zF,zG,zH,zI,h2]))
  ·simp only [Bool.and_eq_true,decide_eq_true_eq] at h2;obtain ⟨e,he⟩:=q0c h2.1;have hem:=lB he;(try simp only [rwp,hwR,zA,zB,zC,zD,zE,zF,zG,zH,zI,he]);have hd:ks.drop i=e :: ks.drop (i+1):=by
    have:=(List.getElem?_eq_some_iff.1 he);obtain ⟨h3,h4⟩:=this;rw [<- h4];exact List.drop_eq_getElem_cons h3
   have hw:=q7q e q;refine q06 (ih e hem q (by omega) (by omega)) ?_
   (try simp only [rwp,hwR,zA,zB,zC,zD,zE,zF,zG,zH,zI])
   (simp (disch:=omega) only [q05])
   refine q09 rfl (hr (i+1,q1k e q) ⟨by dsimp only;omega,?_,by dsimp only;omega,by dsimp only;omega⟩ (by dsimp only;omega))
   dsimp only;rw [hd,q1z,if_pos h2.2] at hq;exact hq
  ·refine q04 ⟨?_,rfl⟩;rw [fin q];simp only [Bool.and_eq_false_iff,decide_eq_false_iff_not] at h2;rw [<- hq];rcases h2 with h2 | h2
   ·have:ks.drop i=[]:=List.drop_of_length_le (by omega)
    rw [this];rfl
   ·rw [q8q h2]
def q97 (most:Int):List Rl->Int->Option Int
 | [],n=>some n
 | r :: rs,n=>if 0<n then (if most<r.refs.length\/(100:Int)<r.name.size then none else q97 most rs (q1k r.ex (n-r.refs.length))) else some n
def y0s (most:Int):List Ty->Int->Option Int
 | [],n=>some n
 | t :: ts,n=>if 0<n then (if (100:Int)<t.name.size then none else (q97 most t.rels n).bind (y0s most ts)) else some n
def yq8 (s:List Ty) (most:Int):Bool:=match y0s most s (most-s.length) with
 | some n=>decide (0<n)
 | none=>false
mutual
def esz:Ex->Nat
 | .mk _ _ _ ks=>1+yei ks
def yei:List Ex->Nat
 | []=>0
 | e :: r=>esz e+yei r
end
mutual
theorem y0q:∀ (e:Ex) (m:Int),0<q1k e m->q1k e m=m-esz e
 | .mk _ _ _ ks,m,h=>by
  unfold q1k at h ⊢;unfold esz;split at h
  ·omega
  ·rw [if_neg ‹_›];have:=y0p ks (m-1) h;omega
theorem y0p:∀ (l:List Ex) (m:Int),0<q1z l m->q1z l m=m-yei l
 | [],m,h=>by unfold q1z yei;omega
 | e :: r,m,h=>by
  unfold q1z at h ⊢;unfold yei;split at h
  ·rw [if_pos ‹_›];have h1:=y0p r (q1k e m) h;have h2:0<q1k e m:=by
    rcases Int.lt_or_le 0 (q1k e m) with h3 | h3
    ·exact h3
    ·rw [q8q (by omega)] at h;omega
   have h4:=y0q e m h2;omega
  ·omega
end
def rsz (r:Rl):Nat:=r.refs.length+esz r.ex
theorem ycy {most:Int}:∀ {l:List Rl} {n n':Int},q97 most l n=some n'->0<n'->n'=n-(l.map rsz).sum
 | [],n,n',h,hp=>by simp only [q97,Option.some.injEq] at h;subst h;simp
 | r :: l,n,n',h,hp=>by
  simp only [q97] at h;split at h
  ·split at h
   ·cases h
   ·have h1:=ycy h hp;have h2:0<q1k r.ex (n-r.refs.length):=by
     have:0<=((l.map rsz).sum:Int):=by exact_mod_cast Nat.zero_le _
     omega
    have h3:=y0q _ _ h2;simp only [List.map_cons,List.sum_cons,rsz]
    push_cast
    omega
  ·simp only [Option.some.injEq] at h;omega
def tsz (t:Ty):Nat:=(t.rels.map rsz).sum
theorem ycj {most:Int}:∀ {l:List Ty} {n n':Int},y0s most l n=some n'->0<n'->n'=n-(l.map tsz).sum
 | [],n,n',h,hp=>by simp only [y0s,Option.some.injEq] at h;subst h;simp
 | t :: l,n,n',h,hp=>by
  simp only [y0s] at h;split at h
  ·split at h
   ·cases h
   ·cases h1:q97 most t.rels n with
    | none=>rw [h1] at h;cases h
    | some n1=>
     rw [h1] at h;have h2:=ycj (n:=n1) h hp;have h3:0<n1:=by
      have:0<=((l.map tsz).sum:Int):=by exact_mod_cast Nat.zero_le _
      omega
     have h4:=ycy h1 h3;simp only [List.map_cons,List.sum_cons,tsz]
     push_cast
     have h5:((l.map tsz).sum:Int)=((l.map fun t=>(t.rels.map rsz).sum).sum:Nat):=rfl
     omega
  ·simp only [Option.some.injEq] at h;omega
def ssz (s:List Ty):Nat:=s.length+(s.map tsz).sum
theorem yq7 {s:List Ty} {most:Int} (h:yq8 s most=true):(ssz s:Int)<most:=by
 unfold yq8 at h;split at h
 ·rename_i n hn
  have h1:0<n:=by simpa using h
  have:=ycj hn h1;unfold ssz
  push_cast
  omega
 ·cases h
theorem q0i {α:Type} {l:List α} {i:Nat} {x:α} (h:l[i]?=some x):l.drop i=x :: l.drop (i+1):=by
 obtain ⟨h1,h2⟩:=List.getElem?_eq_some_iff.1 h;rw [<- h2];exact List.drop_eq_getElem_cons h1
theorem q12 {α:Type} {l:List α} {i:Nat} (h:¬ (i:Int)<l.length):l.drop i=[]:=List.drop_of_length_le (by omega)
theorem ygq {most:Int} {l:List Rl} {n:Int} (h:¬ 0<n):q97 most l n=some n:=by
 cases l with
 | nil=>rfl
 | cons e r=>rw [q97,if_neg h]
theorem yg9 {most:Int} {l:List Ty} {n:Int} (h:¬ 0<n):y0s most l n=some n:=by
 cases l with
 | nil=>rfl
 | cons e r=>rw [y0s,if_neg h]
theorem yby {s:List Ty} (hs:OkS s) {most:Int} (hm0:0<=most) (hm1:most<=1000):AFun PG x74 [scA s,.int .i64 most] (.bool (yq8 s most)):=by
 intro S;have hb:=hs.types;refine xlg ?_;unfold xjx;(try simp only [rwp,hwR,zA,zB,zC,zD,zE,zF,zG,zH,zI,scA])
 (simp (disch:=omega) only [q05])
 refine LoopP.intro (fun p:Nat×Int=>[(1,.int .i64 most),(2,.rop [.sl 2 (s.map tyC)]),(5,.int .i64 p.2),(6,.int .i64 p.1)]) (fun _=>S) (fun p=>p.1<=s.length/\y0s most (s.drop p.1) p.2=y0s most s (most-s.length)/\p.2<=most/\-1125899906842624<=p.2) (fun p=>s.length-p.1) (0,most-s.length) ⟨by omega,rfl,by dsimp only;omega,by dsimp only;omega⟩ rfl (Sub.refl S) ?_
 rintro ⟨i,n⟩ ⟨hi,hn,hn1,hn2⟩ k hk;dsimp only at hi hn hn1 hn2;(try simp only [rwp,hwR,zA,zB,zC,zD,zE,zF,zG,zH,zI,xal,x1w])
 (refine q02 (fun h1=>?_) (fun h1=>?_)<;>(try simp only [rwp,hwR,zA,zB,zC,zD,zE,zF,zG,zH,zI,h1]))
 ·simp only [Bool.and_eq_true,decide_eq_true_eq] at h1;obtain ⟨t,ht⟩:=q0c h1.1;have hok:=hs.at ht;have hb1:=hok.rels;have hb2:=hok.name;rw [q0i ht,y0s,if_pos h1.2] at hn;(try simp only [rwp,hwR,zA,zB,zC,zD,zE,zF,zG,zH,zI,ht,tyC])
  (refine q02 (fun h2=>?_) (fun h2=>?_)<;>(try simp only [hlc] at h2))
  ·rw [if_pos h2] at hn;exact q04 ⟨by rw [yq8,<- hn],rfl⟩
  rw [if_neg h2] at hn;refine LoopP.intro (fun p:Nat×Int=>[(1,.int .i64 most),(2,.rop [.sl 2 (s.map tyC)]),(5,.int .i64 p.2),(6,.int .i64 i),(7,.int .i64 p.1)]) (fun _=>S) (fun p=>p.1<=t.rels.length/\q97 most (t.rels.drop p.1) p.2=q97 most t.rels n/\p.2<=most/\-1125899906842624<=p.2) (fun p=>t.rels.length-p.1) (0,n) ⟨by omega,rfl,by dsimp only;omega,by dsimp only;omega⟩ rfl (Sub.refl S) ?_
  rintro ⟨j,q⟩ ⟨hj,hq,hq1,hq2⟩ k2 hk2;dsimp only at hj hq hq1 hq2;(try simp only [rwp,hwR,zA,zB,zC,zD,zE,zF,zG,zH,zI,xak,x1v,ht,tyC])
  (refine q02 (fun h3=>?_) (fun h3=>?_)<;>(try simp only [rwp,hwR,zA,zB,zC,zD,zE,zF,zG,zH,zI,h3]))
  ·simp only [Bool.and_eq_true,decide_eq_true_eq] at h3;obtain ⟨r,hr⟩:=q0c h3.1;have hokr:=hok.at hr;have hb3:=hokr.refs;have hb4:=hokr.name;rw [q0i hr,q97,if_pos h3.2] at hq;(try simp only [rwp,hwR,zA,zB,zC,zD,zE,zF,zG,zH,zI,hr,q0o,x1u])
   (refine q02 (fun h4=>?_) (fun h4=>?_)<;>(try simp only [rwp,hwR,zA,zB,zC,zD,zE,zF,zG,zH,zI,h4]))
   ·rw [if_pos (by simpa using h4)] at hq
    rw [<- hq] at hn;exact q04 ⟨by rw [yq8,<- hn];rfl,rfl⟩
   have h4':¬ (most<r.refs.length\/(100:Int)<r.name.size):=by simpa using h4
   rw [if_neg h4'] at hq
   (simp (disch:=omega) only [q05])
   rw [<- q0e];have hw:=q7q r.ex (q-r.refs.length);refine q06 (y2z r.ex hokr.ex (q-r.refs.length) (by omega) (by omega)) ?_
   (try simp only [rwp,hwR,zA,zB,zC,zD,zE,zF,zG,zH,zI]);exact q09 rfl (hk2 (j+1,q1k r.ex (q-r.refs.length)) ⟨by dsimp only;omega,hq,by dsimp only;omega,by dsimp only;omega⟩ (by dsimp only;omega))
  ·have hend:q97 most (t.rels.drop j) q=some q:=by
    simp only [Bool.and_eq_false_iff,decide_eq_false_iff_not] at h3;rcases h3 with h3 | h3
    ·rw [q12 h3];rfl
    ·exact ygq h3
   rw [hend] at hq;rw [<- hq] at hn
   (simp (disch:=omega) only [q05])
   exact q09 rfl (hk (i+1,q) ⟨by dsimp only;omega,by dsimp only;rw [<- hn];rfl,hq1,hq2⟩ (by dsimp only;omega))
 ·have hend:y0s most (s.drop i) n=some n:=by
   simp only [Bool.and_eq_false_iff,decide_eq_false_iff_not] at h1;rcases h1 with h1 | h1
   ·rw [q12 h1];rfl
   ·exact yg9 h1
  rw [hend] at hn;exact q04 ⟨by rw [yq8,<- hn],rfl⟩
theorem q6i {α:Type} {p:α->Bool} {x:α}:∀ {l:List α},q0w p (l++[x])=match q0w p l with
  | some i=>some i
  | none=>if p x then some l.length else none
 | []=>by
  simp only [lQ,q0w,lJ];split<;>rfl
 | y :: r=>by
  have ih:=q6i (p:=p) (x:=x) (l:=r);simp only [List.cons_append,q0w,ih];by_cases hy:p y=true
  ·simp [hy]
  ·simp only [hy,if_false,Bool.false_eq_true];cases q0w p r with
   | some i=>rfl
   | none=>
    by_cases hx:p x=true<;>simp [hx]
theorem q0t {α:Type} {l:List α} {i:Nat} {x:α} (h:l[i]?=some x):l.take (i+1)=l.take i++[x]:=by
 rw [List.take_add_one,h];rfl
theorem y0u {ts:List Ty} {t:Ty} {n:ByteArray}:y04 (ts++[t]) n=match y04 ts n with
  | some i=>some i
  | none=>if t.name=n then some ts.length else none:=by
 unfold y04;rw [q6i];cases q0w (fun t=>decide (t.name=n)) ts with
 | some i=>rfl
 | none=>by_cases h:t.name=n<;>simp [h]
theorem y3c {ts:List Rl} {t:Rl} {n:ByteArray}:q44 (ts++[t]) n=match q44 ts n with
  | some i=>some i
  | none=>if t.name=n then some ts.length else none:=by
 unfold q44;rw [q6i];cases q0w (fun t=>decide (t.name=n)) ts with
 | some i=>rfl
 | none=>by_cases h:t.name=n<;>simp [h]
abbrev MS:Bool×List EK:=(false,[.str])
abbrev iv (i:Nat):AV:=.int .i64 (i:Int)
structure IxB (S:q00) (b1 b2:Nat) (B:Nat->Nat) (ts:List Ty):Prop where
 typs:KMap MS AV.str S b1 (fun n=>(y04 ts n).map iv)
 rels:KMap MS AV.str S b2 (fun n=>(y04 ts n).map fun i=>.map (some (B i)))
 each:∀ n i t,y04 ts n=some i->ts[i]?=some t->KMap MS AV.str S (B i) (fun m=>(q44 t.rels m).map iv)
def IxS (S:q00) (b1 b2:Nat) (s:List Ty):Prop:=∃ B,IxB S b1 b2 B s
abbrev ixP (s:List Ty) (b1 b2:Nat):AV:=.rop [.sl 2 (s.map tyC),.map (some b1),.map (some b2)]
theorem IxS.sub {S S':q00} {b1 b2:Nat} {s:List Ty} (h:IxS S b1 b2 s) (hs:Sub S S'):IxS S' b1 b2 s:=by
 obtain ⟨B,h1,h2,h3⟩:=h;exact ⟨B,h1.sub hs,h2.sub hs,fun n i t hn ht=>(h3 n i t hn ht).sub hs⟩
theorem q3u {s:List Ty} (hs:OkS s) (S:q00):ACalls PG x6b [scA s] S fun ae S'=>∃ b1 b2,ae=.ret (ixP s b1 b2)/\IxS S' b1 b2 s/\Sub S S':=by
 have hb:=hs.types;refine xkk ?_;unfold xj2;(try simp only [rwp,hwR,zA,zB,zC,zD,zE,zF,zG,zH,zI,scA]);refine KMap.mm (enc:=AV.str) fun b1 hb1 m1=>?_
 refine KMap.mm (enc:=AV.str) fun b2 hb2 m2=>?_
 have hne:b2≠b1:=fun e=>m1.is (e ▸ hb2)
 have m1:=m1.fresh hb2 (.map MS [] 0);have hsub:Sub S (supd (supd S b1 (.map MS [] 0)) b2 (.map MS [] 0)):=(Sub.fresh _ hb1).trans (Sub.fresh _ hb2);(try simp only [rwp,hwR,zA,zB,zC,zD,zE,zF,zG,zH,zI]);have hb2':y01 S b2=none:=by rw [q01,if_neg (Ne.symm hne)] at hb2;exact hb2
 generalize supd (supd S b1 (.map MS [] 0)) b2 (.map MS [] 0)=S0 at m1 m2 hsub;refine LoopP.introS (fun i:Nat=>[(3,ixP s b1 b2),(18,.sl 2 (s.map tyC)),(19,.int .i64 s.length),(20,.int .i64 i)]) (fun i S'=>i<=s.length/\Sub S S'/\∃ B,IxB S' b1 b2 B (s.take i)/\∀ n j,y04 (s.take i) n=some j->B j≠b1/\B j≠b2) (fun i=>s.length-i) 0 ⟨by omega,hsub,fun _=>0,?_,fun n j h=>by cases h⟩ rfl ?_
 ·rw [List.take_zero];exact ⟨m1,m2,fun n i t h=>by cases h⟩
 rintro i S1 ⟨hi,hsub1,B,I,hB⟩ r hr;(try simp only [rwp,hwR,zA,zB,zC,zD,zE,zF,zG,zH,zI,x9s])
 (refine q02 (fun hlt=>?_) (fun hlt=>?_)<;>(try simp only [hlc] at hlt))
 ·obtain ⟨t,ht⟩:=q0c hlt;have hok:=hs.at ht;have hbr:=hok.rels;(try simp only [rwp,hwR,zA,zB,zC,zD,zE,zF,zG,zH,zI,ht]);refine yuz rfl ?_;(try simp only [rwp,hwR,zA,zB,zC,zD,zE,zF,zG,zH,zI,tyC]);rw [I.typs.lk q2z];have hlen:(s.take i).length=i:=by simp;omega
  have htk:=q0t ht;cases hq:y04 (s.take i) t.name with
  | some j=>
   (try simp only [rwp,hwR,zA,zB,zC,zD,zE,zF,zG,zH,zI])
   (simp (disch:=omega) only [q05])
   refine q09 rfl (hr (i+1) S1 ⟨by omega,hsub1,B,?_⟩ (by omega))
   rw [htk];have hsame:∀ n,y04 (s.take i++[t]) n=y04 (s.take i) n:=fun n=>by
    rw [y0u];cases h:y04 (s.take i) n with
    | some k=>rfl
    | none=>
     have:¬ t.name=n:=by rintro rfl;rw [hq] at h;cases h
     simp [this]
   refine ⟨⟨I.typs.cong fun n=>by rw [hsame],I.rels.cong fun n=>by rw [hsame],fun n k u hn hu=>?_⟩,fun n k hn=>hB n k (by rw [<- hsame];exact hn)⟩
   rw [hsame] at hn;have hk:=q4d hn;rw [List.getElem?_append_left hk] at hu;exact I.each n k u hn hu
  | none=>
   (try simp only [rwp,hwR,zA,zB,zC,zD,zE,zF,zG,zH,zI]);refine I.typs.mu q2z t.name fun es clk k1=>?_
   have hs2:=hsub1.supd (o:=.map MS es clk) hb1;have k2:=I.rels.upd (Ne.symm hne) (.map MS es clk);have k3:=fun n j u hn hu=>(I.each n j u hn hu).upd (Ne.symm (hB n j hn).1) (.map MS es clk)
   generalize supd S1 b1 (.map MS es clk)=S2 at k1 k2 k3 hs2;refine KMap.mm (enc:=AV.str) fun b hbf k4=>?_
   have hb':=Sub.none hs2 hbf;have hs3:=hs2.supd (o:=.map MS [] 0) hb';have d1:b≠b1:=fun e=>k1.is (e ▸ hbf)
   have d2:b≠b2:=fun e=>k2.is (e ▸ hbf)
   have d3:∀ n j,y04 (s.take i) n=some j->B j≠b:=fun n j hn e=>by
    have hj:=q4d hn;exact (k3 n j _ hn (lE hj)).is (e ▸ hbf)
   have k1:=k1.fresh hbf (.map MS [] 0);have k2:=k2.fresh hbf (.map MS [] 0);have k3:=fun n j u hn hu=>(k3 n j u hn hu).fresh hbf (.map MS [] 0)
   generalize supd S2 b (.map MS [] 0)=S3 at k1 k2 k3 k4 hs3;refine k2.mu q2z t.name fun es2 clk2 k2=>?_
   have hs4:=hs3.supd (o:=.map MS es2 clk2) hb2';have k1:=k1.upd hne (.map MS es2 clk2);have k3:=fun n j u hn hu=>(k3 n j u hn hu).upd (Ne.symm (hB n j hn).2) (.map MS es2 clk2)
   have k4:=k4.upd (Ne.symm d2) (.map MS es2 clk2);generalize supd S3 b2 (.map MS es2 clk2)=S4 at k1 k2 k3 k4 hs4;have e1:∀ n,y04 (s.take i++[t]) n=if n=t.name then some i else y04 (s.take i) n:=fun n=>by
    rw [y0u,hlen];by_cases h:n=t.name
    ·subst h;simp [hq]
    ·rw [if_neg h,if_neg (Ne.symm h)];cases y04 (s.take i) n<;>rfl
   have k1:KMap MS AV.str S4 b1 (fun n=>(y04 (s.take i++[t]) n).map iv):=k1.cong fun n=>by
    rw [e1];by_cases h:n=t.name<;>simp [h]
   have k2:KMap MS AV.str S4 b2 (fun n=>(y04 (s.take i++[t]) n).map fun j=>.map (some (if j=i then b else B j))):=k2.cong fun n=>by
    rw [e1];by_cases h:n=t.name
    ·simp [h]
    ·simp only [if_neg h];cases hc:y04 (s.take i) n with
     | none=>rfl
     | some j=>
      have:=q4d hc;simp [show ¬ j=i by omega]
   (try simp only [rwp,hwR,zA,zB,zC,zD,zE,zF,zG,zH,zI]);refine LoopP.introS (fun k:Nat=>[(3,ixP s b1 b2),(5,.rop [.str t.name,.sl 6 (t.rels.map rlC)]),(18,.sl 2 (s.map tyC)),(19,.int .i64 s.length),(20,.int .i64 i),(51,.sl 6 (t.rels.map rlC)),(52,.int .i64 t.rels.length),(53,.int .i64 k)]) (fun k S'=>k<=t.rels.length/\Sub S S'/\KMap MS AV.str S' b1 (fun n=>(y04 (s.take i++[t]) n).map iv)/\KMap MS AV.str S' b2 (fun n=>(y04 (s.take i++[t]) n).map fun j=>.map (some (if j=i then b else B j))) /\
    (∀ n j u,y04 (s.take i) n=some j->(s.take i)[j]?=some u->KMap MS AV.str S' (B j) (fun m=>(q44 u.rels m).map iv))/\KMap MS AV.str S' b (fun m=>(q44 (t.rels.take k) m).map iv)) (fun k=>t.rels.length-k) 0 ⟨by omega,hs4,k1,k2,k3,k4⟩ rfl ?_
   rintro k S5 ⟨hk,hs5,k1,k2,k3,k4⟩ r2 hr2;(try simp only [rwp,hwR,zA,zB,zC,zD,zE,zF,zG,zH,zI,x9r])
   (refine q02 (fun hlt2=>?_) (fun hlt2=>?_)<;>(try simp only [hlc] at hlt2))
   ·obtain ⟨q,hqr⟩:=q0c hlt2;have hlk:(t.rels.take k).length=k:=by simp;omega
    have htq:=q0t hqr;(try simp only [rwp,hwR,zA,zB,zC,zD,zE,zF,zG,zH,zI,hqr]);refine yuz rfl ?_;(try simp only [rwp,hwR,zA,zB,zC,zD,zE,zF,zG,zH,zI,q0o]);rw [k2.lk q2z,e1,if_pos rfl];simp only [Option.map_some,if_true,q52];rw [k4.lk q2z];cases hrq:q44 (t.rels.take k) q.name with
    | some m=>
     (try simp only [rwp,hwR,zA,zB,zC,zD,zE,zF,zG,zH,zI])
     (simp (disch:=omega) only [q05])
     refine q09 rfl (hr2 (k+1) S5 ⟨by omega,hs5,k1,k2,k3,k4.cong fun n=>?_⟩ (by omega))
     rw [htq,y3c];cases h:q44 (t.rels.take k) n with
     | some m=>rfl
     | none=>
      have:¬ q.name=n:=by rintro rfl;rw [hrq] at h;cases h
      simp [this]
    | none=>
     (try simp only [rwp,hwR,zA,zB,zC,zD,zE,zF,zG,zH,zI]);rw [k2.lk q2z,e1,if_pos rfl];simp only [Option.map_some,if_true,q52];refine k4.mu q2z q.name fun es3 clk3 k4=>?_
     (try simp only [rwp,hwR,zA,zB,zC,zD,zE,zF,zG,zH,zI])
     (simp (disch:=omega) only [q05])
     refine q09 rfl (hr2 (k+1) _ ⟨by omega,hs5.supd hb',k1.upd d1 _,k2.upd d2 _,fun n j u hn hu=>(k3 n j u hn hu).upd (Ne.symm (d3 n j hn)) _,k4.cong fun n=>?_⟩ (by omega))
     rw [htq,y3c,hlk];by_cases h:n=q.name
     ·subst h;simp [hrq]
     ·simp only [if_neg h,if_neg (Ne.symm h)];cases q44 (t.rels.take k) n<;>rfl
   ·have hend:t.rels.take k=t.rels:=lF (by omega)
    rw [hend] at k4
    (simp (disch:=omega) only [q05])
    refine q09 rfl (hr (i+1) S5 ⟨by omega,hs5,fun j=>if j=i then b else B j,?_⟩ (by omega))
    rw [htk];refine ⟨⟨k1,k2,fun n j u hn hu=>?_⟩,fun n j hn=>?_⟩
    ·rw [e1] at hn;split at hn
     ·cases hn
      rw [List.getElem?_append_right (by omega),hlen,Nat.sub_self] at hu
      simp at hu;subst hu;simp only [if_true];exact k4
     ·have hj:=q4d hn;rw [List.getElem?_append_left hj] at hu;simp only [if_neg (show ¬ j=i by omega)]
      exact k3 n j u hn hu
    ·rw [e1] at hn;split at hn
     ·cases hn;simp only [if_true];exact ⟨d1,d2⟩
     ·have hj:=q4d hn;simp only [if_neg (show ¬ j=i by omega)]
      exact hB n j hn
 ·have hend:s.take i=s:=lF (by omega)
  rw [hend] at I;exact q04 ⟨b1,b2,rfl,⟨B,I⟩,hsub1⟩
def fiN (s:List Ty) (t n:ByteArray):Nat×Nat:=((y04 s t).getD 0,(y5g s (y04 s t) n).getD 0)
def fiB (s:List Ty) (t n:ByteArray):Bool:=(y5g s (y04 s t) n).isSome
theorem q7a {s:List Ty} {t n:ByteArray}:fiB s t n=(q0h s t n).isSome:=by
 unfold fiB;rw [q78];cases q0h s t n<;>rfl
theorem q79 {s:List Ty} {t n:ByteArray} {i k:Nat} {r:Rl} (h:q0h s t n=some (i,k,r)):fiN s t n=(i,k):=by
 obtain ⟨h1,-⟩:=q11 h;unfold fiN;rw [q78,h,h1];rfl
theorem q25 {s:List Ty} {S:q00} {b1 b2:Nat} (I:IxS S b1 b2 s) (t n:ByteArray):AFunS PG x68 [ixP s b1 b2,.str t,.str n] S (.tup [q1m (fiN s t n),.bool (fiB s t n)]):=by
 obtain ⟨B,I⟩:=I;refine xkf ?_;unfold xix;intro b hb;have hS:∀ o,Sub S (supd S b o):=fun o=>Sub.fresh o hb
 (try simp only [rwp,hwR,zA,zB,zC,zD,zE,zF,zG,zH,zI]);rw [(I.typs.fresh hb _).lk q2z];cases hq:y04 s t with
 | none=>
  (try simp only [rwp,hwR,zA,zB,zC,zD,zE,zF,zG,zH,zI]);rw [(I.rels.fresh hb _).lk q2z,hq];(try simp only [rwp,hwR,zA,zB,zC,zD,zE,zF,zG,zH,zI]);refine q1d S (by rw [q30 hb];exact Sub.refl S) ?_
  (try simp only [rwp,hwR,zA,zB,zC,zD,zE,zF,zG,zH,zI]);simp [q1m,fiN,fiB,hq,y5g]
 | some i=>
  have hi:=q4d hq;(try simp only [rwp,hwR,zA,zB,zC,zD,zE,zF,zG,zH,zI]);rw [(I.rels.fresh hb _).lk q2z,hq];(try simp only [rwp,hwR,zA,zB,zC,zD,zE,zF,zG,zH,zI]);rw [((I.each t i s[i] hq (lE hi)).fresh hb _).lk q2z];have hr:y5g s (y04 s t) n=q44 s[i].rels n:=by simp [y5g,hq,lE hi]
  rw [hq] at hr;cases hk:q44 s[i].rels n with
  | none=>
   (try simp only [rwp,hwR,zA,zB,zC,zD,zE,zF,zG,zH,zI]);refine q1d S (by rw [q30 hb];exact Sub.refl S) ?_
   (try simp only [rwp,hwR,zA,zB,zC,zD,zE,zF,zG,zH,zI]);simp [q1m,fiN,fiB,hq,hr,hk]
  | some k=>
   (try simp only [rwp,hwR,zA,zB,zC,zD,zE,zF,zG,zH,zI]);refine q1d S (by rw [q30 hb];exact Sub.refl S) ?_
   (try simp only [rwp,hwR,zA,zB,zC,zD,zE,zF,zG,zH,zI]);simp [q1m,fiN,fiB,hq,hr,hk]
theorem q5x {s:List Ty} {b1 b2 i k:Nat} {t:Ty} {r:Rl} (ht:s[i]?=some t) (hr:t.rels[k]?=some r):AFun PG x67 [ixP s b1 b2,q1m (i,k)] (.agg (rlC r)):=by
 intro S;refine xke ?_;unfold xiw;(try simp only [rwp,hwR,zA,zB,zC,zD,zE,zF,zG,zH,zI,q1m]);intro b hb;(try simp only [rwp,hwR,zA,zB,zC,zD,zE,zF,zG,zH,zI,ht,hr,tyC,q0o]);refine q1d S (by rw [q30 hb];exact Sub.refl S) ?_
 (try simp only [rwp,hwR,zA,zB,zC,zD,zE,zF,zG,zH,zI])<;>exact ⟨by rw [q0o],rfl⟩
theorem y8y {s:List Ty} (hs:OkS s) (t n:ByteArray) (S:q00):ACalls PG x72 [scA s,.str t,.str n] S fun ae S'=>ae=.ret (match q0h s t n with
  | some (_,_,r)=>.tup [.agg (rlC r),.bool true]
  | none=>.tup [.agg yoh,.bool false])/\S'=S:=by
 refine xle ?_;unfold xjv;(try simp only [rwp,hwR,zA,zB,zC,zD,zE,zF,zG,zH,zI,scA]);intro b hb;(try simp only [rwp,hwR,zA,zB,zC,zD,zE,zF,zG,zH,zI]);refine q0k (q3u hs _) ?_;rintro _ S1 ⟨b1,b2,rfl,I,hsub⟩;have hsb:=hsub b _ (by rw [q01,if_pos rfl])
 have hS1:Sub S S1:=(Sub.fresh _ hb).trans hsub;dsimp only;refine q13 (q25 I t n) ?_;(try simp only [rwp,hwR,zA,zB,zC,zD,zE,zF,zG,zH,zI,q1m]);rw [q7a];cases hq:q0h s t n with
 | none=>
  (try simp only [rwp,hwR,zA,zB,zC,zD,zE,zF,zG,zH,zI,objAt_some.2 hsb]);refine q1d S (hS1.supd hb) ?_;(try simp only [rwp,hwR,zA,zB,zC,zD,zE,zF,zG,zH,zI]);exact rfl
 | some q=>
  obtain ⟨i,k,r⟩:=q;obtain ⟨h1,ty,h2,h3,h4⟩:=q11 hq;rw [q79 hq];(try simp only [rwp,hwR,zA,zB,zC,zD,zE,zF,zG,zH,zI]);refine q06 (q5x h2 h4) ?_;(try simp only [rwp,hwR,zA,zB,zC,zD,zE,zF,zG,zH,zI,objAt_some.2 hsb,q0o]);refine q1d S (hS1.supd hb) ?_;(try simp only [rwp,hwR,zA,zB,zC,zD,zE,zF,zG,zH,zI,q0o])
mutual
/-- The leaves of an expression, from the left, and whether they are left out. -/
def q0g:Ex->Bool->List (Ex×Bool)
 | .mk k n o ks,out=>if ks.isEmpty then [(.mk k n o ks,out)] else q10 k 0 ks out
def q10:Int->Nat->List Ex->Bool->List (Ex×Bool)
 | _,_,[],_=>[]
 | k,i,e :: r,out=>q0g e (out||(decide (k=4)&&decide ((i:Int)=1)))++q10 k (i+1) r out
end
def q2g {α:Type} (f:α->Ex->Bool->Bool×α):List (Ex×Bool)->α->Bool×α
 | [],a=>(true,a)
 | (e,o) :: r,a=>match f a e o with
  | (true,a')=>q2g f r a'
  | (false,a')=>(false,a')
theorem y1m {α:Type} {f:α->Ex->Bool->Bool×α}:∀ {l r:List (Ex×Bool)} {a:α},q2g f (l++r) a=match q2g f l a with
  | (true,a')=>q2g f r a'
  | (false,a')=>(false,a')
 | [],r,a=>rfl
 | (e,o) :: l,r,a=>by
  simp only [List.cons_append,q2g];cases f a e o with
  | mk b a'=>cases b with
   | true=>exact y1m
   | false=>rfl
theorem yha {α:Type} {f:α->Ex->Bool->Bool×α} {l:List (Ex×Bool)} {p:Ex×Bool} {a:α} (h:(q2g f l a).1=true):q2g f (l++[p]) a=f (q2g f l a).2 p.1 p.2:=by
 rw [y1m];cases hq:q2g f l a with
 | mk b a'=>
  rw [hq] at h;dsimp only at h;subst h;obtain ⟨e,o⟩:=p;simp only [q2g];cases hf:f a' e o with
  | mk c a2=>cases c<;>rfl
theorem yh9 {α:Type} {f:α->Ex->Bool->Bool×α} {l r:List (Ex×Bool)} {a:α} (h:(q2g f l a).1=false):q2g f (l++r) a=q2g f l a:=by
 rw [y1m];cases hq:q2g f l a with
 | mk b a'=>
  rw [hq] at h;dsimp only at h;subst h;rfl
theorem q7e {α:Type} (I:α->q00->Prop) (f:α->Ex->Bool->Bool×α) {g:Nat} {fi ca:List AV} (T:List (Ex×Bool)) (a0:α)
  (hcb:∀ l1 p l2,T=l1++p :: l2->(q2g f l1 a0).1=true->∀ (S:q00),OkE p.1->I (q2g f l1 a0).2 S->ACalls PG g (fi++[.agg (exC p.1),.bool p.2]++ca) S fun ae S'=>ae=.ret (.bool (f (q2g f l1 a0).2 p.1 p.2).1)/\I (f (q2g f l1 a0).2 p.1 p.2).2 S') :
  ∀ (e:Ex),OkE e->∀ (out:Bool) (l0 l2:List (Ex×Bool)),T=l0++q0g e out++l2->(q2g f l0 a0).1=true->∀ (S:q00),I (q2g f l0 a0).2 S ->
   ACalls PG yt2 [.agg (exC e),.bool out,.func (.func g) fi ca] S fun ae S'=>ae=.ret (.bool (q2g f (l0++q0g e out) a0).1)/\I (q2g f (l0++q0g e out) a0).2 S':=by
 intro e he
 induction he with
 | mk k n o ks hk hn ho hks ih=>
  intro out l0 l2 hT hl0 S hI;refine xeo ?_;unfold xbr;(try simp only [rwp,hwR,zA,zB,zC,zD,zE,zF,zG,zH,zI,q0e,Ex.kind,Ex.name,Ex.over,Ex.kids]);have hok:OkE (.mk k n o ks):=.mk k n o ks hk hn ho hks;by_cases hnil:ks=[]
  ·subst hnil;refine LoopP.introS (fun _:Unit=>[(1,.bool out),(2,.func (.func g) fi ca),(3,.rop [.int .i64 k,.str n,.str o,.sl 4 []]),(10,.sl 4 []),(11,.int .i64 0),(12,.int .i64 0)]) (fun _ S'=>S'=S) (fun _=>0) () rfl rfl ?_
   rintro _ S rfl r hr;(try simp only [rwp,hwR,zA,zB,zC,zD,zE,zF,zG,zH,zI,ynk,show decide ((0:Int)<0)=false from rfl,show decide (((0:Nat):Int)>0)=false from rfl,show decide (((0:Nat):Int)<((0:Nat):Int))=false from rfl,show decide ((0:Int)<((0:Nat):Int))=false from rfl])
   have hl:q0g (.mk k n o []) out=[(.mk k n o [],out)]:=by simp [q0g]
   rw [hl] at hT ⊢;have h1:=hcb l0 (.mk k n o [],out) l2 (by rw [hT];simp) hl0 S hok hI
   rw [q0e] at h1;refine y69 h1 ?_;rintro _ S' ⟨rfl,hI'⟩;(try simp only [rwp,hwR,zA,zB,zC,zD,zE,zF,zG,zH,zI]);rw [yha hl0];exact q04 ⟨rfl,hI'⟩
  ·have hl:q0g (.mk k n o ks) out=q10 k 0 ks out:=by
    cases ks with
    | nil=>exact absurd rfl hnil
    | cons x r=>simp [q0g]
   rw [hl] at hT ⊢;generalize hL:l0++q10 k 0 ks out=L at hT ⊢;refine LoopP.introS (fun p:Nat×List (Ex×Bool)=>[(1,.bool out),(2,.func (.func g) fi ca),(3,.rop [.int .i64 k,.str n,.str o,.sl 4 (ks.map exC)]),(10,.sl 4 (ks.map exC)),(11,.int .i64 ks.length),(12,.int .i64 p.1)])
    (fun p S'=>p.1<=ks.length/\(q2g f p.2 a0).1=true/\I (q2g f p.2 a0).2 S'/\p.2++q10 k p.1 (ks.drop p.1) out=L) (fun p=>ks.length-p.1) (0,l0) ⟨by omega,hl0,hI,hL⟩ rfl ?_
   rintro ⟨i,lp⟩ S1 ⟨hi,hlp,hI1,hf1⟩ r hr;dsimp only at hi hlp hI1 hf1;(try simp only [rwp,hwR,zA,zB,zC,zD,zE,zF,zG,zH,zI,ynk])
   (refine q02 (fun hlt=>?_) (fun hlt=>?_)<;>(try simp only [hlc] at hlt))
   ·obtain ⟨x,hx⟩:=q0c hlt;rw [q0i hx,q10] at hf1;(try simp only [rwp,hwR,zA,zB,zC,zD,zE,zF,zG,zH,zI,hx]);refine yuz rfl ?_;(try simp only [rwp,hwR,zA,zB,zC,zD,zE,zF,zG,zH,zI,q0e,q1e]);rw [<- q0e];have fin:∀ o2,o2=(out||(decide (k=4)&&decide ((i:Int)=1)))->yfj (fun ae S'=>ae=.ret (.bool (q2g f L a0).1)/\I (q2g f L a0).2 S') r (.bool out) (.func (.func g) fi ca) (.rop [.int .i64 k,.str n,.str o,.sl 4 (ks.map exC)]) (.sl 4 (ks.map exC)) (.int .i64 ks.length) (.int .i64 i) (.agg (exC x)) (.bool o2) S1:=by
     intro o2 ho2;unfold yfj;rw [<- ho2,<- lW] at hf1;refine q0k (ih x (lB hx) o2 lp (q10 k (i+1) (ks.drop (i+1)) out++l2) (by rw [hT,<- hf1];simp) hlp S1 hI1) ?_
     rintro _ S' ⟨rfl,h2⟩;(try simp only [rwp,hwR,zA,zB,zC,zD,zE,zF,zG,zH,zI]);cases hq:(q2g f (lp++q0g x o2) a0).1 with
     | false=>
      (try simp only [rwp,hwR,zA,zB,zC,zD,zE,zF,zG,zH,zI]);rw [<- hf1,yh9 hq];exact q04 ⟨by rw [hq],h2⟩
     | true=>
      (try simp only [rwp,hwR,zA,zB,zC,zD,zE,zF,zG,zH,zI])
      (simp (disch:=omega) only [q05])
      exact q09 rfl (hr (i+1,lp++q0g x o2) S' ⟨by dsimp only;omega,hq,h2,hf1⟩ (by dsimp only;omega))
    cases a1':out<;>cases a2':decide (k=4)<;>cases a3':decide ((i:Int)=1) <;>
     (try simp only [rwp,hwR,zA,zB,zC,zD,zE,zF,zG,zH,zI,ynj,yni,a1',a2',a3'])<;>(rw [a1'] at fin;exact fin _ (by rw [a2',a3'];rfl))
   ·have h0:decide ((0:Int)<ks.length)=true:=by
     rw [decide_eq_true_eq];have:ks.length≠0:=fun h=>hnil (List.length_eq_zero_iff.1 h)
     omega
    rw [q12 hlt] at hf1;have hf2:lp=L:=by rw [<- hf1];simp [q10]
    subst hf2;(try simp only [rwp,hwR,zA,zB,zC,zD,zE,zF,zG,zH,zI,h0]);exact q04 ⟨by rw [hlp],hI1⟩
def q26 (s:List Ty) (refs:List Rf) (name:ByteArray):List (Nat×Nat):=refs.filterMap fun f=>if f.rl=⟨#[]⟩ then (q0h s f.ty name).map fun q=>(q.1,q.2.1) else none
def yk8 (p:Nat×Nat):List AV:=[.int .i64 p.1,.int .i64 p.2]
theorem y56 {α β:Type} {g:α->Option β} {l:List α} {i:Nat} {x:α} (h:l[i]?=some x):(l.take (i+1)).filterMap g=(l.take i).filterMap g++(g x).toList:=by
 rw [q0t h,List.filterMap_append];cases hg:g x<;>simp [hg]
theorem yq4 {α β:Type} {g:α->Option β} {l:List α} {i:Nat}:((l.take i).filterMap g).length<=l.length:=by
 have h1:=List.length_filterMap_le g (l.take i);have h2:(l.take i).length<=l.length:=by simp;omega
 omega
theorem q92 {s:List Ty} {S:q00} {b1 b2:Nat} (I:IxS S b1 b2 s) {r:Rl} (hr:OkR r) (hn:r.refs.length<=1000000) (name:ByteArray) :
  AFunS PG yt0 [ixP s b1 b2,.agg (rlC r),.str name] S (.sl 2 ((q26 s r.refs name).map yk8)):=by
 refine xek ?_;unfold xbn;(try simp only [rwp,hwR,zA,zB,zC,zD,zE,zF,zG,zH,zI,q0o])
 let g:Rf->Option (Nat×Nat):=fun f=>if f.rl=⟨#[]⟩ then (q0h s f.ty name).map fun q=>(q.1,q.2.1) else none
 refine LoopP.introS (fun p:Nat×AV=>[(0,ixP s b1 b2),(2,.str name),(7,p.2),(13,.sl 2 (r.refs.map rfC)),(14,.int .i64 r.refs.length),(15,.int .i64 p.1)])
  (fun p S'=>p.1<=r.refs.length/\Sub S S'/\LstN S S' 163 2 p.2 (((r.refs.take p.1).filterMap g).map yk8)) (fun p=>r.refs.length-p.1) (0,.nils) ⟨by omega,Sub.refl S,.nil⟩ rfl ?_
 rintro ⟨i,v⟩ S1 ⟨hi,hs,hv⟩ k hk;dsimp only at hi hv;(try simp only [rwp,hwR,zA,zB,zC,zD,zE,zF,zG,zH,zI,yvc])
 (refine q02 (fun hlt=>?_) (fun hlt=>?_)<;>(try simp only [hlc] at hlt))
 ·obtain ⟨f,hf⟩:=q0c hlt;(try simp only [rwp,hwR,zA,zB,zC,zD,zE,zF,zG,zH,zI,hf,rfC]);refine q13 (q25 (I.sub hs) f.ty name) ?_;have htk:=y56 (g:=g) hf;have hle:=yq4 (g:=g) (l:=r.refs) (i:=i);(try simp only [rwp,hwR,zA,zB,zC,zD,zE,zF,zG,zH,zI,q1m,q7a]);have skip:g f=none->k [(0,ixP s b1 b2),(2,.str name),(7,v),(13,.sl 2 (r.refs.map rfC)),(14,.int .i64 r.refs.length),(15,.int .i64 ((i:Int)+1))] S1:=fun hg=>by
   refine hk (i+1,v) S1 ⟨by dsimp only;omega,hs,?_⟩ (by dsimp only;omega)
   dsimp only;rw [htk,hg];simpa using hv
  cases hq:q0h s f.ty name with
  | none=>
   (try simp only [rwp,hwR,zA,zB,zC,zD,zE,zF,zG,zH,zI,yfi])
   (simp (disch:=omega) only [q05])
   exact q09 rfl (skip (by simp only [g,hq];split<;>rfl))
  | some q=>
   obtain ⟨a,b,q⟩:=q;rw [q79 hq];(try simp only [rwp,hwR,zA,zB,zC,zD,zE,zF,zG,zH,zI,yfi])
   (refine q02 (fun he=>?_) (fun he=>?_)<;>(try simp only [rwp,hwR,zA,zB,zC,zD,zE,zF,zG,zH,zI,he]))
   ·have hg:g f=some (a,b):=by simp only [g,hq];rw [if_pos (by simpa using he)];rfl
    refine hv.app hs (xs:=[yk8 (a,b)]) (fun r hr=>by simp at hr;subst hr;rfl) rfl (by simp only [lA,lD,lJ];omega) ?_
    intro v' S' h1 h2 _
    (simp (disch:=omega) only [q05])
    refine q09 rfl (hk (i+1,v') S' ⟨by dsimp only;omega,h1,?_⟩ (by dsimp only;omega))
    dsimp only;rw [htk,hg];simpa using h2
   ·(simp (disch:=omega) only [q05])
    exact q09 rfl (skip (by simp only [g,hq];rw [if_neg (by simpa using he)]))
 ·have hend:r.refs.take i=r.refs:=lF (by omega)
  rw [hend] at hv;exact q3o hs hv ⟨rfl,rfl⟩
def q4t (s:List Ty) (t:ByteArray) (e:Ex):Int:=match q0h s t e.name with
 | none=>6
 | some (_,_,r)=>if e.kind=0 then 0 else if r.refs.length=0 then 10 else if (q26 s r.refs e.over).length=0 then 6 else 0
def OkN (s:List Ty):Prop:=∀ t∈s,∀ r∈t.rels,rsz r<=1000
theorem yle {s:List Ty} {t n:ByteArray} {i k:Nat} {r:Rl} (h:q0h s t n=some (i,k,r)):∃ ty∈s,r∈ty.rels:=by
 obtain ⟨h1,ty,h2,h3,h4⟩:=q11 h;exact ⟨ty,lB h2,lB h4⟩
theorem y8x {s:List Ty} (hs:OkS s) (hN:OkN s) {S:q00} {b1 b2:Nat} (I:IxS S b1 b2 s) (t:ByteArray) (e:Ex):AFunS PG yt1 [ixP s b1 b2,.str t,.agg (exC e)] S (.int .i64 (q4t s t e)):=by
 refine xem ?_;unfold xbp;(try simp only [rwp,hwR,zA,zB,zC,zD,zE,zF,zG,zH,zI,q0e]);refine q13 (q25 I t e.name) ?_;(try simp only [rwp,hwR,zA,zB,zC,zD,zE,zF,zG,zH,zI,q1m,q7a]);cases hq:q0h s t e.name with
 | none=>
  (try simp only [rwp,hwR,zA,zB,zC,zD,zE,zF,zG,zH,zI]);exact q04 ⟨by rw [q4t,hq],rfl⟩
 | some q=>
  obtain ⟨i,k,r⟩:=q;obtain ⟨h1,ty,h2,h3,h4⟩:=q11 hq;have hr:=(hs.at h2).at h4;have hn:r.refs.length<=1000000:=by
   have:=hN ty (lB h2) r (lB h4);unfold rsz at this;omega
  have key:q4t s t e=if e.kind=0 then 0 else if r.refs.length=0 then 10 else if (q26 s r.refs e.over).length=0 then 6 else 0:=by rw [q4t,hq]
  rw [q79 hq];(try simp only [rwp,hwR,zA,zB,zC,zD,zE,zF,zG,zH,zI])
  (refine q02 (fun he=>?_) (fun he=>?_)<;>(try simp only [hlc] at he))
  ·exact q04 ⟨by rw [key,if_pos he],rfl⟩
  refine q06 (q5x h2 h4) ?_;(try simp only [rwp,hwR,zA,zB,zC,zD,zE,zF,zG,zH,zI,q0o])
  (refine q02 (fun hl=>?_) (fun hl=>?_)<;>(try simp only [hlc] at hl))
  ·exact q04 ⟨by rw [key,if_neg he,if_pos (by omega)],rfl⟩
  refine q06 (q5x h2 h4) ?_;(try simp only [rwp,hwR,zA,zB,zC,zD,zE,zF,zG,zH,zI]);refine q13 (q92 I hr hn e.over) ?_;(try simp only [rwp,hwR,zA,zB,zC,zD,zE,zF,zG,zH,zI])
  (refine q02 (fun h0=>?_) (fun h0=>?_)<;>(try simp only [hlc] at h0))
  ·exact q04 ⟨by rw [key,if_neg he,if_neg (by omega),if_pos (by omega)],rfl⟩
  ·exact q04 ⟨by rw [key,if_neg he,if_neg (by omega),if_neg (by omega)],rfl⟩
def q3h (f:Ex->Int):List (Ex×Bool)->Int
 | []=>0
 | (e,_) :: r=>if f e=0 then q3h f r else f e
def q39 (s:List Ty) (f:Rf):Bool:=(y04 s f.ty).isSome&&(decide (f.rl=⟨#[]⟩)||(q0h s f.ty f.rl).isSome)
def q1q (s:List Ty) (t:ByteArray) (r:Rl):Int:=if r.refs.all (q39 s) then (if r.refs.length=0 then q3h (q4t s t) (q0g r.ex false) else 0) else 6
theorem y24 {s:List Ty} (hs:OkS s) (hN:OkN s) {S:q00} {b1 b2:Nat} (I:IxS S b1 b2 s) (t:ByteArray) (e:Ex) (o:Bool) {b:Nat} (hb:y01 S b=none) (a:Int) :
  ACalls PG yjr [.agg (exC e),.bool o,.rop [ixP s b1 b2],.rop [.str t],.ptr b 0] (supd S b (.cells 30 [.int .i64 a] 1)) fun ae S'=>ae=.ret (.bool (decide (q4t s t e=0)))/\S'=supd S b (.cells 30 [.int .i64 (q4t s t e)] 1):=by
 refine xen ?_;unfold xbq;(try simp only [rwp,hwR,zA,zB,zC,zD,zE,zF,zG,zH,zI,q0e]);rw [<- q0e];refine q13 ((y8x hs hN I t e).frame hb _) ?_;(try simp only [rwp,hwR,zA,zB,zC,zD,zE,zF,zG,zH,zI]);exact q04 ⟨rfl,rfl⟩
theorem y1l {f:Ex->Int}:∀ {l:List (Ex×Bool)} {a:Int},a=0->(q2g (fun (_:Int) e (_:Bool)=>(decide (f e=0),f e)) l a).2=q3h f l
 | [],a,h=>h
 | (e,o) :: r,a,h=>by
  simp only [q2g,q3h];by_cases he:f e=0
  ·simp only [he,decide_true,if_true];exact y1l rfl
  ·simp only [he,decide_false,if_false]
theorem y6d {s:List Ty} (hs:OkS s) (hN:OkN s) {S:q00} {b1 b2:Nat} (I:IxS S b1 b2 s) (t:ByteArray) {r:Rl} (hr:OkR r):AFunS PG yts [ixP s b1 b2,.str t,.agg (rlC r)] S (.int .i64 (q1q s t r)):=by
 have hb:=hr.refs;refine xfg ?_;unfold xcj;(try simp only [rwp,hwR,zA,zB,zC,zD,zE,zF,zG,zH,zI,q0o]);intro b hbf;(try simp only [rwp,hwR,zA,zB,zC,zD,zE,zF,zG,zH,zI]);refine LoopP.intro (fun i:Nat=>[(3,.rop [ixP s b1 b2]),(4,.rop [.str t]),(5,.rop [.str r.name,.sl 2 (r.refs.map rfC),.int .i64 r.ex.kind,.str r.ex.name,.str r.ex.over,.sl 4 (r.ex.kids.map exC)]),(7,.ptr b 0),(15,.sl 2 (r.refs.map rfC)),(16,.int .i64 r.refs.length),(17,.int .i64 i)])
  (fun _=>supd S b (.cells 30 [.int .i64 0] 1)) (fun i=>i<=r.refs.length/\∀ j f,j<i->r.refs[j]?=some f->q39 s f=true) (fun i=>r.refs.length-i) 0 ⟨by omega,by omega⟩ rfl (Sub.refl _) ?_
 rintro i ⟨hi,hn⟩ k hk;(try simp only [rwp,hwR,zA,zB,zC,zD,zE,zF,zG,zH,zI,yw3])
 (refine q02 (fun hlt=>?_) (fun hlt=>?_)<;>(try simp only [hlc] at hlt))
 ·obtain ⟨f,hf⟩:=q0c hlt;have next:q39 s f=true->k [(3,.rop [ixP s b1 b2]),(4,.rop [.str t]),(5,.rop [.str r.name,.sl 2 (r.refs.map rfC),.int .i64 r.ex.kind,.str r.ex.name,.str r.ex.over,.sl 4 (r.ex.kids.map exC)]),(7,.ptr b 0),(15,.sl 2 (r.refs.map rfC)),(16,.int .i64 r.refs.length),(17,.int .i64 ((i:Int)+1))] (supd S b (.cells 30 [.int .i64 0] 1)):=fun h=>by
   refine hk (i+1) ⟨by omega,fun j u hj hu=>?_⟩ (by omega)
   rcases Nat.lt_succ_iff_lt_or_eq.1 hj with h1 | rfl
   ·exact hn j u h1 hu
   ·rw [hf] at hu;cases hu;exact h
  have bad:q39 s f=false->q1q s t r=6:=fun h=>by rw [q1q,q3d hf h];rfl
  obtain ⟨B,J⟩:=I;(try simp only [rwp,hwR,zA,zB,zC,zD,zE,zF,zG,zH,zI,hf,rfC]);rw [(J.typs.fresh hbf _).lk q2z];have e1:∀ z:Prop,True:=fun _=>trivial
  refine (show ∀ x:Bool,x=(y04 s f.ty).isSome->exW 0 (q23 true (.int .i64 0) ((y04 s f.ty).map iv)) _ from ?_) _ rfl
  intro x hx;have hv:∃ u,q23 true (.int .i64 0) ((y04 s f.ty).map iv)=.tup [u,.bool x]:=by
   rw [hx];cases y04 s f.ty with
   | none=>exact ⟨_,rfl⟩
   | some j=>exact ⟨_,rfl⟩
  obtain ⟨u,hu⟩:=hv;rw [hu];(try simp only [rwp,hwR,zA,zB,zC,zD,zE,zF,zG,zH,zI]);refine q13 ((q25 ⟨B,J⟩ f.ty f.rl).frame hbf _) ?_;(try simp only [rwp,hwR,zA,zB,zC,zD,zE,zF,zG,zH,zI,q1m,q7a]);have ea:q39 s f=(x&&(decide (f.rl=⟨#[]⟩)||(q0h s f.ty f.rl).isSome)):=by rw [q39,hx]
  cases x<;>cases a2:decide (f.rl=⟨#[]⟩)<;>cases a3:(q0h s f.ty f.rl).isSome<;>rw [a2,a3] at ea <;>
   (try simp only [rwp,hwR,zA,zB,zC,zD,zE,zF,zG,zH,zI,ynu,ynt,yns,a2,a3]) <;>
   first
    | exact q7z (Sub.fresh _ hbf) ⟨by rw [bad ea],rfl⟩
    | ((simp (disch:=omega) only [q05]);exact q09 rfl (next ea))
 ·have hall:r.refs.all (q39 s)=true:=q5y fun j f hj hf=>hn j f (by omega) hf
  (refine q02 (fun h0=>?_) (fun h0=>?_)<;>(try simp only [hlc] at h0))
  ·rw [<- q0e];have hc:=q7e (fun (a:Int) S'=>S'=supd S b (.cells 30 [.int .i64 a] 1)) (fun (_:Int) e (_:Bool)=>(decide (q4t s t e=0),q4t s t e)) (g:=yjr) (fi:=[]) (ca:=[.rop [ixP s b1 b2],.rop [.str t],.ptr b 0]) (q0g r.ex false) 0
    (fun l1 p l2 _ _ S' _ h=>by
     subst h;exact y24 hs hN I t p.1 p.2 hbf _) r.ex hr.ex false [] [] (by simp) rfl _ rfl
   rw [lQ] at hc;refine q0k hc ?_;rintro _ S' ⟨rfl,rfl⟩;(try simp only [rwp,hwR,zA,zB,zC,zD,zE,zF,zG,zH,zI]);refine q7z (Sub.fresh _ hbf) ⟨?_,rfl⟩;rw [q1q,hall,if_pos rfl,if_pos (by omega),y1l rfl]
  ·refine q7z (Sub.fresh _ hbf) ⟨?_,rfl⟩;rw [q1q,hall,if_pos rfl,if_neg (by omega)]
def q2x {α:Type} (f:α->Nat->Rl->Int×α):Nat->List Rl->α->Option (Nat×Int)×α
 | _,[],a=>(none,a)
 | k,r :: rs,a=>if (f a k r).1=0 then q2x f (k+1) rs (f a k r).2 else (some (k,(f a k r).1),(f a k r).2)
def q2w {α:Type} (f:α->Nat->Nat->Ty->Rl->Int×α):Nat->List Ty->α->Option (Nat×Nat×Int)×α
 | _,[],a=>(none,a)
 | i,t :: ts,a=>match q2x (fun a k r=>f a i k t r) 0 t.rels a with
  | (some (k,e),a')=>(some (i,k,e),a')
  | (none,a')=>q2w f (i+1) ts a'
def flA (t r e:Int):AV:=.agg [.int .i64 t,.int .i64 r,.int .i64 e]
def flO:Option (Nat×Nat×Int)->AV
 | some (i,k,e)=>flA i k e
 | none=>flA 0 0 0
theorem q59 {α:Type} (I:α->q00->Prop) (f:α->Nat->Nat->Ty->Rl->Int×α) {s:List Ty} (hs:OkS s) {b1 b2 g:Nat} {fi ca:List AV}
  (hcb:∀ i k t r a S,s[i]?=some t->t.rels[k]?=some r->I a S->ACalls PG g (fi++[q1m (i,k),.agg (tyC t),.agg (rlC r)]++ca) S fun ae S'=>ae=.ret (.int .i64 (f a i k t r).1)/\I (f a i k t r).2 S') (a0:α) (S:q00) (hI:I a0 S) :
  ACalls PG yyg [ixP s b1 b2,.func (.func g) fi ca] S fun ae S'=>ae=.ret (flO (q2w f 0 s a0).1)/\I (q2w f 0 s a0).2 S':=by
 have hb:=hs.types;refine xkh ?_;unfold xiz;intro b hbf;(try simp only [rwp,hwR,zA,zB,zC,zD,zE,zF,zG,zH,zI]);refine LoopP.introS (fun p:Nat×α=>[(1,.func (.func g) fi ca),(4,.ptr b 0),(14,.sl 2 (s.map tyC)),(15,.int .i64 s.length),(16,.int .i64 p.1)])
  (fun p S'=>p.1<=s.length/\(∃ S1,S'=supd S1 b (.cells 88 [.int .i64 0,.int .i64 0,.int .i64 0] 3)/\y01 S1 b=none/\I p.2 S1)/\q2w f p.1 (s.drop p.1) p.2=q2w f 0 s a0) (fun p=>s.length-p.1) (0,a0) ⟨by omega,⟨S,rfl,hbf,hI⟩,rfl⟩ rfl ?_
 rintro ⟨i,a⟩ _ ⟨hi,⟨S1,rfl,hb1,hI1⟩,hf⟩ q hq;dsimp only at hi hf hI1;(try simp only [rwp,hwR,zA,zB,zC,zD,zE,zF,zG,zH,zI,x9p])
 (refine q02 (fun hlt=>?_) (fun hlt=>?_)<;>(try simp only [hlc] at hlt))
 ·obtain ⟨t,ht⟩:=q0c hlt;have hok:=hs.at ht;have hbt:=hok.rels;rw [q0i ht,q2w] at hf;(try simp only [rwp,hwR,zA,zB,zC,zD,zE,zF,zG,zH,zI,ht,tyC]);refine yuz rfl ?_;(try simp only [rwp,hwR,zA,zB,zC,zD,zE,zF,zG,zH,zI]);refine LoopP.introS (fun p:Nat×α=>[(1,.func (.func g) fi ca),(4,.ptr b 0),(5,.int .i64 i),(6,.rop [.str t.name,.sl 6 (t.rels.map rlC)]),(14,.sl 2 (s.map tyC)),(15,.int .i64 s.length),(16,.int .i64 i),(22,.sl 6 (t.rels.map rlC)),(23,.int .i64 t.rels.length),(24,.int .i64 p.1)])
   (fun p S'=>p.1<=t.rels.length/\(∃ S1,S'=supd S1 b (.cells 88 [.int .i64 0,.int .i64 0,.int .i64 0] 3)/\y01 S1 b=none/\I p.2 S1)/\q2x (fun a k r=>f a i k t r) p.1 (t.rels.drop p.1) p.2=q2x (fun a k r=>f a i k t r) 0 t.rels a) (fun p=>t.rels.length-p.1) (0,a) ⟨by omega,⟨S1,rfl,hb1,hI1⟩,rfl⟩ rfl ?_
  rintro ⟨k,a2⟩ _ ⟨hk,⟨S2,rfl,hb2,hI2⟩,hf2⟩ q2 hq2;dsimp only at hk hf2 hI2;(try simp only [rwp,hwR,zA,zB,zC,zD,zE,zF,zG,zH,zI,x9o])
  (refine q02 (fun hlt2=>?_) (fun hlt2=>?_)<;>(try simp only [hlc] at hlt2))
  ·obtain ⟨r,hr⟩:=q0c hlt2;rw [q0i hr,q2x] at hf2;(try simp only [rwp,hwR,zA,zB,zC,zD,zE,zF,zG,zH,zI,hr]);refine yuz rfl ?_;(try simp only [rwp,hwR,zA,zB,zC,zD,zE,zF,zG,zH,zI,q0o]);have h1:=ACalls.frame (hcb i k t r a2 S2 ht hr hI2) hb2 (.cells 88 [.int .i64 0,.int .i64 0,.int .i64 0] 3);simp only [q1m,q0o,tyC] at h1;refine y69 h1 ?_;rintro _ S3 ⟨S4,⟨rfl,hI4⟩,hb4,rfl⟩;(try simp only [rwp,hwR,zA,zB,zC,zD,zE,zF,zG,zH,zI])
   (refine q02 (fun he=>?_) (fun he=>?_)<;>(try simp only [hlc] at he))
   ·rw [if_neg he] at hf2;rw [<- hf2] at hf;refine q1d S4 (Sub.fresh _ hb4) ?_;(try simp only [rwp,hwR,zA,zB,zC,zD,zE,zF,zG,zH,zI]);rw [<- hf];exact ⟨rfl,hI4⟩
   ·rw [if_pos he] at hf2
    (simp (disch:=omega) only [q05])
    exact q09 rfl (hq2 (k+1,(f a2 i k t r).2) _ ⟨by dsimp only;omega,⟨S4,rfl,hb4,hI4⟩,hf2⟩ (by dsimp only;omega))
  ·rw [q12 hlt2,q2x] at hf2;rw [<- hf2] at hf
   (simp (disch:=omega) only [q05])
   exact q09 rfl (hq (i+1,a2) _ ⟨by dsimp only;omega,⟨S2,rfl,hb2,hI2⟩,hf⟩ (by dsimp only;omega))
 ·rw [q12 hlt,q2w] at hf;(try simp only [rwp,hwR,zA,zB,zC,zD,zE,zF,zG,zH,zI]);refine q1d S1 (Sub.fresh _ hb1) ?_;(try simp only [rwp,hwR,zA,zB,zC,zD,zE,zF,zG,zH,zI]);rw [<- hf];exact ⟨rfl,hI1⟩
def q2y (s:List Ty) (f:Nat->Nat->Ty->Rl->Int):Option (Nat×Nat×Int):=(q2w (fun (_:Unit) i k t r=>(f i k t r,())) 0 s ()).1
theorem q4h {f:Nat->Nat->Ty->Rl->Int} {s:List Ty} (hs:OkS s) {b1 b2 g:Nat} {fi ca:List AV} {S:q00}
  (hcb:∀ i k t r,s[i]?=some t->t.rels[k]?=some r->AFunS PG g (fi++[q1m (i,k),.agg (tyC t),.agg (rlC r)]++ca) S (.int .i64 (f i k t r))) :
  AFunS PG yyg [ixP s b1 b2,.func (.func g) fi ca] S (flO (q2y s f)):=
 q59 (fun (_:Unit) S'=>S'=S) (fun _ i k t r=>(f i k t r,())) hs (fun i k t r a S' h1 h2 h=>by subst h;exact hcb i k t r h1 h2) () S rfl
def yh0 (s:List Ty):Option Nat:=q0w (fun t=>decide ((16:Int)<t.rels.length)) s
def x2e (ts:List Ty) (t:Ty):Bool:=(y04 ts t.name).isSome
def y8s:List Ty->List Ty->Option Nat
 | _,[]=>none
 | ts,t :: r=>if x2e ts t then some ts.length else y8s (ts++[t]) r
def szF (s:List Ty):AV:=if (16:Int)<s.length then flA 0 (-1) 2 else match yh0 s with
 | some i=>flA i (-1) 2
 | none=>match y8s [] s with
  | some i=>flA i (-1) 7
  | none=>flA 0 0 0
theorem y6b {s:List Ty} (hs:OkS s):AFun PG ytt [scA s] (szF s):=by
 intro S;have hb:=hs.types;refine xfj ?_;unfold xcm;(try simp only [rwp,hwR,zA,zB,zC,zD,zE,zF,zG,zH,zI,scA]);intro b2 hb2;(try simp only [rwp,hwR,zA,zB,zC,zD,zE,zF,zG,zH,zI]);intro b3 hb3;have hne:b2≠b3:=by
  rintro rfl;rw [q01,if_pos rfl] at hb3;cases hb3
 have hne':b3≠b2:=Ne.symm hne;have hb3':y01 S b3=none:=by rw [q01,if_neg hne] at hb3;exact hb3
 have hS2:Sub S (supd (supd S b2 (.cells 88 [.int .i64 0,.int .i64 0,.int .i64 0] 3)) b3 (.cells 88 [.int .i64 0,.int .i64 (-1),.int .i64 2] 3)):=(Sub.fresh _ hb2).supd hb3';(try simp only [rwp,hwR,zA,zB,zC,zD,zE,zF,zG,zH,zI,if_neg hne,if_neg hne'])
 (refine q02 (fun h1=>?_) (fun h1=>?_)<;>(try simp only [hlc] at h1))
 ·refine q1d S (hS2.supd hb2) ?_;(try simp only [rwp,hwR,zA,zB,zC,zD,zE,zF,zG,zH,zI]);rw [szF,if_pos h1];rfl
 refine LoopP.introS (fun i:Nat=>[(1,.rop [.sl 2 (s.map tyC)]),(2,.ptr b2 0),(3,.ptr b3 0),(14,.int .i64 s.length),(15,.int .i64 i)])
  (fun i S'=>i<=s.length/\Sub S S'/\q0m S' b2=some (88,[.int .i64 0,.int .i64 0,.int .i64 0],3)/\(∃ v:Int,q0m S' b3=some (88,[.int .i64 v,.int .i64 (-1),.int .i64 2],3))/\∀ j t,j<i->s[j]?=some t->decide ((16:Int)<t.rels.length)=false) (fun i=>s.length-i) 0
  ⟨by omega,hS2,by rw [q0j hne',q0f],⟨0,q0f⟩,by omega⟩ rfl ?_
 rintro i S1 ⟨hi,hs1,h2,⟨v,h3⟩,hn⟩ r hr;(try simp only [rwp,hwR,zA,zB,zC,zD,zE,zF,zG,zH,zI,yw5,h3])
 (refine q02 (fun hlt=>?_) (fun hlt=>?_)<;>(try simp only [hlc] at hlt))
 ·obtain ⟨t,ht⟩:=q0c hlt;have hbt:=(hs.at ht).rels;(try simp only [rwp,hwR,zA,zB,zC,zD,zE,zF,zG,zH,zI,ht,tyC])
  (refine q02 (fun hl=>?_) (fun hl=>?_)<;>(try simp only [hlc] at hl))
  ·(try simp only [rwp,hwR,zA,zB,zC,zD,zE,zF,zG,zH,zI,if_neg hne',h2]);refine q1d S ((hs1.supd hb3').supd hb2) ?_;(try simp only [rwp,hwR,zA,zB,zC,zD,zE,zF,zG,zH,zI]);have:yh0 s=some i:=firstI_some.2 ⟨⟨t,ht,by simpa using hl⟩,hn⟩
   rw [szF,if_neg h1,this];rfl
  ·(simp (disch:=omega) only [q05])
   refine q09 rfl (hr (i+1) _ ⟨by omega,hs1.supd hb3',by rw [q0j hne'];exact h2,⟨_,q0f⟩,fun j u hj hu=>?_⟩ (by omega))
   rcases Nat.lt_succ_iff_lt_or_eq.1 hj with h | rfl
   ·exact hn j u h hu
   ·rw [ht] at hu;cases hu;simpa using hl
 ·have hln:yh0 s=none:=firstI_none.2 fun j u hu=>hn j u (by have:=(List.getElem?_eq_some_iff.1 hu).1;omega) hu
  have hs2:=hs1.supd (o:=.cells 88 [.int .i64 v,.int .i64 (-1),.int .i64 7] 3) hb3';have h2':q0m (supd S1 b3 (.cells 88 [.int .i64 v,.int .i64 (-1),.int .i64 7] 3)) b2=some (88,[.int .i64 0,.int .i64 0,.int .i64 0],3):=by rw [q0j hne'];exact h2
  have h3':q0m (supd S1 b3 (.cells 88 [.int .i64 v,.int .i64 (-1),.int .i64 7] 3)) b3=some (88,[.int .i64 v,.int .i64 (-1),.int .i64 7],3):=q0f;clear h2 h3 hr r;generalize supd S1 b3 (.cells 88 [.int .i64 v,.int .i64 (-1),.int .i64 7] 3)=S2 at hs2 h2' h3' ⊢;refine KMap.mm (enc:=AV.str) fun b4 hb4 k4=>?_
  have d2:b4≠b2:=fun e=>q73 h2' (e ▸ hb4)
  have d3:b4≠b3:=fun e=>q73 h3' (e ▸ hb4)
  have hb4':=Sub.none hs2 hb4;refine LoopP.introS (fun i:Nat=>[(1,.rop [.sl 2 (s.map tyC)]),(2,.ptr b2 0),(3,.ptr b3 0),(4,.map (some b4)),(34,.int .i64 s.length),(35,.int .i64 i)])
   (fun i S'=>i<=s.length/\Sub S S'/\q0m S' b2=some (88,[.int .i64 0,.int .i64 0,.int .i64 0],3)/\(∃ v:Int,q0m S' b3=some (88,[.int .i64 v,.int .i64 (-1),.int .i64 7],3)) /\
    KMap MS AV.str S' b4 (fun n=>if (y04 (s.take i) n).isSome then some (.bool true) else none)/\y8s [] s=y8s (s.take i) (s.drop i)) (fun i=>s.length-i) 0
   ⟨by omega,hs2.supd hb4',by rw [q0j d2];exact h2',⟨v,by rw [q0j d3];exact h3'⟩,k4,rfl⟩ rfl ?_
  clear k4 h2' h3' hs2 hb4;rintro i S3 ⟨hi,hs3,h2,⟨v,h3⟩,hm,hd⟩ r hr;(try simp only [rwp,hwR,zA,zB,zC,zD,zE,zF,zG,zH,zI,yw4,h3])
  (refine q02 (fun hlt2=>?_) (fun hlt2=>?_)<;>(try simp only [hlc] at hlt2))
  ·obtain ⟨t,ht⟩:=q0c hlt2;have hlen:(s.take i).length=i:=by simp;omega
   rw [q0i ht,y8s,hlen] at hd;(try simp only [rwp,hwR,zA,zB,zC,zD,zE,zF,zG,zH,zI,ht,tyC]);have hm':=hm.upd (Ne.symm d3) (.cells 88 [.int .i64 i,.int .i64 (-1),.int .i64 7] 3);rw [hm'.lk q2z];cases hq:(y04 (s.take i) t.name).isSome with
   | true=>
    rw [show x2e (s.take i) t=true from hq,if_pos rfl] at hd
    (try simp only [rwp,hwR,zA,zB,zC,zD,zE,zF,zG,zH,zI,if_neg hne',h2,if_true]);refine q1d S ((hs3.supd hb3').supd hb2) ?_;(try simp only [rwp,hwR,zA,zB,zC,zD,zE,zF,zG,zH,zI]);rw [szF,if_neg h1,hln,hd];rfl
   | false=>
    rw [show x2e (s.take i) t=false from hq,if_neg (by simp)] at hd
    (try simp only [rwp,hwR,zA,zB,zC,zD,zE,zF,zG,zH,zI,Bool.false_eq_true,if_false]);refine hm'.mu q2z t.name fun es clk k=>?_
    (simp (disch:=omega) only [q05])
    refine q09 rfl (hr (i+1) _ ⟨by omega,(hs3.supd hb3').supd hb4',by rw [q0j d2,q0j hne'];exact h2,⟨i,by rw [q0j d3];exact q0f⟩,k.cong fun n=>?_,?_⟩ (by omega))
    ·rw [q0t ht,y0u];by_cases hn:n=t.name
     ·subst hn;cases h:y04 (s.take i) t.name<;>simp
     ·simp only [if_neg hn,if_neg (Ne.symm hn)];cases y04 (s.take i) n<;>rfl
    ·rw [q0t ht];exact hd
  ·rw [q12 hlt2,y8s] at hd;(try simp only [rwp,hwR,zA,zB,zC,zD,zE,zF,zG,zH,zI,h2]);refine q1d S (hs3.supd hb2) ?_;(try simp only [rwp,hwR,zA,zB,zC,zD,zE,zF,zG,zH,zI]);rw [szF,if_neg h1,hln,hd];rfl
def q4l (s:List Ty) (i k:Nat) (t:Ty) (r:Rl):Int:=if fiN s t.name r.name=(i,k) then 0 else 7
def y0a:AV->Int
 | .agg [_,_,.int _ e]=>e
 | _=>0
def q2n (s:List Ty):AV:=
 if s.length=0\/scB s=false then flA 0 (-1) 1
 else if y0a (szF s)≠0 then szF s
 else match q2y s (q4l s) with
  | some (i,k,e)=>flA i k e
  | none=>flO (q2y s fun _ _ t r=>q1q s t.name r)
theorem y23 {s:List Ty} {S:q00} {b1 b2:Nat} (I:IxS S b1 b2 s) {i k:Nat} {t:Ty} {r:Rl}:AFunS PG yjv [q1m (i,k),.agg (tyC t),.agg (rlC r),.rop [ixP s b1 b2]] S (.int .i64 (q4l s i k t r)):=by
 refine xfi ?_;unfold xcl;(try simp only [rwp,hwR,zA,zB,zC,zD,zE,zF,zG,zH,zI,q1m,tyC,q0o]);refine q13 (q25 I t.name r.name) ?_;(try simp only [rwp,hwR,zA,zB,zC,zD,zE,zF,zG,zH,zI,q1m,ybm]);have h1:∀ a b c d:Nat,(decide ((a:Int)=(b:Int))&&decide ((c:Int)=(d:Int)))=decide ((a,c)=(b,d)):=fun a b c d=>by
  rw [Bool.eq_iff_iff];simp only [Bool.and_eq_true,decide_eq_true_eq,Prod.mk.injEq];omega
 rw [h1]
 (refine q02 (fun h=>?_) (fun h=>?_)<;>(try simp only [hlc] at h))
 ·exact q04 ⟨by rw [q4l,if_neg (show ¬ fiN s t.name r.name=(i,k) from h)],rfl⟩
 ·exact q04 ⟨by rw [q4l,if_pos (show fiN s t.name r.name=(i,k) from h)],rfl⟩
theorem y22 {s:List Ty} (hs:OkS s) (hN:OkN s) {S:q00} {b1 b2:Nat} (I:IxS S b1 b2 s) {i k:Nat} {t:Ty} {r:Rl} (hr:OkR r):AFunS PG yju [q1m (i,k),.agg (tyC t),.agg (rlC r),.rop [ixP s b1 b2]] S (.int .i64 (q1q s t.name r)):=by
 refine xfh ?_;unfold xck;(try simp only [rwp,hwR,zA,zB,zC,zD,zE,zF,zG,zH,zI,q1m,tyC,q0o]);rw [<- q0o];refine q13 (y6d hs hN I t.name hr) ?_;exact q04 ⟨rfl,rfl⟩
theorem ys0 (s:List Ty):∃ t r e,szF s=flA t r e:=by
 unfold szF;split
 ·exact ⟨_,_,_,rfl⟩
 ·split
  ·exact ⟨_,_,_,rfl⟩
  ·split
   ·exact ⟨_,_,_,rfl⟩
   ·exact ⟨_,_,_,rfl⟩
theorem y8r {α:Type} {f:α->Nat->Rl->Int×α}:∀ {l:List Rl} {k:Nat} {a:α} {q:Nat×Int},(q2x f k l a).1=some q->q.2≠0
 | [],k,a,q,h=>by cases h
 | r :: l,k,a,q,h=>by
  unfold q2x at h;split at h
  ·exact y8r h
  ·cases h;assumption
theorem y8q {α:Type} {f:α->Nat->Nat->Ty->Rl->Int×α}:∀ {l:List Ty} {i:Nat} {a:α} {q:Nat×Nat×Int},(q2w f i l a).1=some q->q.2.2≠0
 | [],i,a,q,h=>by cases h
 | t :: l,i,a,q,h=>by
  unfold q2w at h;split at h
  ·rename_i k e a' hq
   cases h
   exact y8r (q:=(k,e)) (by rw [hq])
  ·exact y8q h
theorem q7c {f:Nat->Nat->Ty->Rl->Int} {s:List Ty} {q:Nat×Nat×Int} (h:q2y s f=some q):q.2.2≠0:=y8q h
theorem y6c {s:List Ty} (hs:OkS s) (hN:OkN s) {S:q00} {b1 b2:Nat} (I:IxS S b1 b2 s):AFunS PG x6a [ixP s b1 b2] S (q2n s):=by
 refine xkj ?_;unfold xj1;(try simp only [rwp,hwR,zA,zB,zC,zD,zE,zF,zG,zH,zI]);intro b hb;(try simp only [rwp,hwR,zA,zB,zC,zD,zE,zF,zG,zH,zI]);have low:∀ v,v=(decide (s.length=0)||!scB s)->yrp (fun ae S'=>ae=.ret (q2n s)/\S'=S) (.rop [ixP s b1 b2]) (.ptr b 0) (.bool v) (supd S b (.cells 88 [.int .i64 0,.int .i64 0,.int .i64 0] 3)):=by
  intro v hv;unfold yrp;cases v with
  | true=>
   have h:s.length=0\/scB s=false:=by
    have:=hv.symm;simpa using this
   (try simp only [rwp,hwR,zA,zB,zC,zD,zE,zF,zG,zH,zI]);refine q1d S (Sub.fresh _ hb) ?_;(try simp only [rwp,hwR,zA,zB,zC,zD,zE,zF,zG,zH,zI]);rw [q2n,if_pos h];rfl
  | false=>
   have h:¬ (s.length=0\/scB s=false):=by
    have:=hv.symm;simpa using this
   (try simp only [rwp,hwR,zA,zB,zC,zD,zE,zF,zG,zH,zI]);refine q06 (y6b hs) ?_;obtain ⟨ft,fr,fe,hsz⟩:=ys0 s;rw [hsz];(try simp only [rwp,hwR,zA,zB,zC,zD,zE,zF,zG,zH,zI,flA]);intro b3 hb3;have hne:b≠b3:=by
    rintro rfl;rw [q01,if_pos rfl] at hb3;cases hb3
   have hne':b3≠b:=Ne.symm hne;have hb3':y01 S b3=none:=by rw [q01,if_neg hne] at hb3;exact hb3
   (try simp only [rwp,hwR,zA,zB,zC,zD,zE,zF,zG,zH,zI,if_neg hne,if_neg hne',x14,x13]);have key:q2n s=if fe≠0 then flA ft fr fe else match q2y s (q4l s) with
     | some (i,k,e)=>flA i k e
     | none=>flO (q2y s fun _ _ t r=>q1q s t.name r):=by
    rw [q2n,if_neg h,hsz];rfl
   have ret:∀ x y z:Int,q2n s=flA x y z->rtW [.cell (.ptr b 0) 3 true] (fun ae S'=>ae=.ret (q2n s)/\S'=S) (supd (supd (supd S b (.cells 88 [.int .i64 0,.int .i64 0,.int .i64 0] 3)) b3 (.cells 88 [.int .i64 x,.int .i64 y,.int .i64 z] 3)) b (.cells 88 [.int .i64 x,.int .i64 y,.int .i64 z] 3)):=by
    intro x y z hp;refine q1d S (((Sub.fresh _ hb).supd hb3').supd hb) ?_;(try simp only [rwp,hwR,zA,zB,zC,zD,zE,zF,zG,zH,zI]);rw [hp];rfl
   have fr2:∀ {f:Nat} {args:List AV} {u:AV} {x y z:Int},AFunS PG f args S u->AFunS PG f args (supd (supd S b (.cells 88 [.int .i64 0,.int .i64 0,.int .i64 0] 3)) b3 (.cells 88 [.int .i64 x,.int .i64 y,.int .i64 z] 3)) u:=fun h=>(h.frame hb _).frame hb3 _
   (refine q02 (fun h0=>?_) (fun h0=>?_)<;>(try simp only [hlc] at h0))
   ·subst h0;rw [if_neg (by simp)] at key
    have h1:=q4h (b1:=b1) (b2:=b2) (g:=yjv) (fi:=[]) (ca:=[.rop [ixP s b1 b2]]) (f:=q4l s) hs (S:=S) fun i k t r ht hr=>y23 I
    refine q13 (fr2 h1) ?_;cases hq:q2y s (q4l s) with
    | some q=>
     obtain ⟨i,k,e⟩:=q;have he:=q7c hq;rw [hq] at key;dsimp only at key he;(try simp only [rwp,hwR,zA,zB,zC,zD,zE,zF,zG,zH,zI,flO,flA,if_neg hne,if_neg hne'])
     (refine q02 (fun h2=>?_) (fun h2=>?_)<;>(try simp only [hlc] at h2))
     ·exact absurd h2 he
     ·exact ret _ _ _ key
    | none=>
     rw [hq] at key;dsimp only at key;(try simp only [rwp,hwR,zA,zB,zC,zD,zE,zF,zG,zH,zI,flO,flA,if_neg hne,if_neg hne',decide_true]);have h2:=q4h (b1:=b1) (b2:=b2) (g:=yju) (fi:=[]) (ca:=[.rop [ixP s b1 b2]]) (f:=fun _ _ t r=>q1q s t.name r) hs (S:=S) fun i k t r ht hr=>y22 hs hN I ((hs.at ht).at hr)
     refine q13 (fr2 h2) ?_;cases hq2:q2y s (fun _ _ t r=>q1q s t.name r) with
     | some q=>
      obtain ⟨i,k,e⟩:=q;rw [hq2] at key;(try simp only [rwp,hwR,zA,zB,zC,zD,zE,zF,zG,zH,zI,flO,flA,if_neg hne,if_neg hne']);exact ret _ _ _ key
     | none=>
      rw [hq2] at key;(try simp only [rwp,hwR,zA,zB,zC,zD,zE,zF,zG,zH,zI,flO,flA,if_neg hne,if_neg hne']);exact ret _ _ _ key
   ·rw [if_pos h0] at key
    (refine q02 (fun h00=>?_) (fun h00=>?_)<;>(try simp only [hlc] at h00))
    ·exact absurd h00 h0
    ·exact ret _ _ _ key
 (refine q1l (fun hg=>?_) (fun hg=>?_)<;>(try simp only [rwp,hwR,zA,zB,zC,zD,zE,zF,zG,zH,zI,hg]))
 ·refine q06 (yhr hs) ?_;(try simp only [rwp,hwR,zA,zB,zC,zD,zE,zF,zG,zH,zI]);exact low _ (by rw [show decide (s.length=0)=decide ((s.length:Int)=0) from by simp,hg];rfl)
 ·exact low _ (by rw [show decide (s.length=0)=decide ((s.length:Int)=0) from by simp,hg];rfl)
abbrev Ln:Type:=(Nat×Nat)×Bool
def q2v (n:Ln):List AV:=[.int .i64 n.1.1,.int .i64 n.1.2,.bool n.2]
def q3r (s:List Ty) (t:ByteArray) (e:Ex) (o:Bool):List Ln:=match q0h s t e.name with
 | none=>[]
 | some (i,k,r)=>((i,k),o) :: (if e.kind=1 then (q26 s r.refs e.over).map fun p=>(p,o) else [])
def q1s (s:List Ty) (f:Rf):Option Ln:=if f.rl=⟨#[]⟩ then none else (q0h s f.ty f.rl).map fun q=>((q.1,q.2.1),false)
def q1c (s:List Ty) (t:ByteArray) (r:Rl):List Ln:=if r.refs.length=0 then (q0g r.ex false).flatMap fun p=>q3r s t p.1 p.2 else r.refs.filterMap (q1s s)
def LI (S S':q00) (b:Nat) (rows:List (List AV)):Prop:=Sub S S'/\∃ v,q0m S' b=some (224,[v],1)/\q0u v b/\LstN S S' 227 3 v rows
theorem LI.app {S S':q00} {b:Nat} {rows:List (List AV)} {v:AV} {K:q00->Prop} (hb:y01 S b=none) (hs:Sub S S') (hv:q0m S' b=some (224,[v],1)) (ha:q0u v b) (hl:LstN S S' 227 3 v rows) {new:List AV} (hn:new.length=3) (ho:y06 new=true)
  (hlen:rows.length<=4000000) (hK:∀ S2,LI S S2 b (rows++[new])->K S2):apW S' 227 3 24 v (.sl 3 [new]) fun v' S1=>soW (q0m S1 b) S1 1 b 0 v' K:=by
 refine hl.app hs (xs:=[new]) (fun r hr=>by simp at hr;subst hr;exact hn) (by simpa using ho) (by simp only [lD,lJ];omega) ?_
 intro v' S1 h1 h2 h3;obtain ⟨k1,k2⟩:=h3 b _ (objAt_some.1 hv) ha;rw [objAt_some.2 k1,yxg h2.one];exact hK _ ⟨h1.supd hb,v',q0f,k2,h2.upd k2 _⟩
mutual
theorem q5p:∀ (e:Ex) (o:Bool),(q0g e o).length<=esz e
 | .mk k n o' ks,o=>by
  unfold q0g esz;split
  ·simp
  ·have:=y3l ks k 0 o;omega
theorem y3l:∀ (l:List Ex) (k:Int) (i:Nat) (o:Bool),(q10 k i l o).length<=yei l
 | [],k,i,o=>by simp [q10,yei]
 | e :: r,k,i,o=>by
  have h1:=q5p e (o||(decide (k=4)&&decide ((i:Int)=1)));have h2:=y3l r k (i+1) o;simp only [q10,yei,lH];omega
end
theorem yde {s:List Ty} {refs:List Rf} {n:ByteArray}:(q26 s refs n).length<=refs.length:=List.length_filterMap_le _ _
theorem y5s {s:List Ty} (hN:OkN s) {t:ByteArray} {e:Ex} {o:Bool}:(q3r s t e o).length<=1001:=by
 unfold q3r;split
 ·simp
 ·rename_i i k r hq
  obtain ⟨ty,h1,h2⟩:=yle hq;have h3:=hN ty h1 r h2;have h4:=yde (s:=s) (refs:=r.refs) (n:=e.over);unfold rsz at h3;simp only [lD];split
  ·simp only [lA];omega
  ·simp
theorem y5w {α β:Type} {f:α->List β} {n:Nat} (h:∀ x,(f x).length<=n):∀ {l:List α},(l.flatMap f).length<=l.length * n
 | []=>by simp
 | x :: l=>by
  have:=y5w h (l:=l);have:=h x;simp only [List.flatMap_cons,lH,lD,Nat.succ_mul];omega
theorem q6h {s:List Ty} {t:ByteArray}:∀ {l:List (Ex×Bool)} {a:List Ln},q2g (fun (a:List Ln) e o=>(true,a++q3r s t e o)) l a=(true,a++l.flatMap fun p=>q3r s t p.1 p.2)
 | [],a=>by simp [q2g]
 | (e,o) :: r,a=>by
  simp only [q2g];rw [q6h];simp [List.flatMap_cons]
theorem y25 {s:List Ty} (hs:OkS s) (hN:OkN s) {S:q00} {b1 b2:Nat} (I:IxS S b1 b2 s) {t:Ty} {e:Ex} {o:Bool} {b:Nat} (hb:y01 S b=none) {a:List Ln} (hlen:a.length<=2000000) (hf:(q0h s t.name e.name).isSome=true) {S':q00} (hI:LI S S' b (a.map q2v)) :
  ACalls PG yjq [.agg (exC e),.bool o,.rop [ixP s b1 b2],.rop (tyC t),.ptr b 0] S' fun ae S2=>ae=.ret (.bool true)/\LI S S2 b ((a++q3r s t.name e o).map q2v):=by
 cases hq:q0h s t.name e.name with
 | none=>rw [hq] at hf;cases hf
 | some q=>
  obtain ⟨i,k,r⟩:=q;obtain ⟨h1,ty,h2,h3,h4⟩:=q11 hq;have hr:=(hs.at h2).at h4;have hn0:=hN ty (lB h2) r (lB h4);have hn:r.refs.length<=1000000:=by unfold rsz at hn0;omega
  refine xel ?_;unfold xbo;obtain ⟨hs',v,hv,ha,hl⟩:=hI;(try simp only [rwp,hwR,zA,zB,zC,zD,zE,zF,zG,zH,zI,q0e,tyC]);refine q13 (q25 (I.sub hs') t.name e.name) ?_;rw [q79 hq];(try simp only [rwp,hwR,zA,zB,zC,zD,zE,zF,zG,zH,zI,q1m,q08 hv]);refine LI.app hb hs' hv ha hl (new:=q2v ((i,k),o)) rfl rfl (by simp;omega) ?_
  clear hv ha hl hs' S';intro S1 hI1
  (refine q02 (fun he=>?_) (fun he=>?_)<;>(try simp only [hlc] at he))
  ·refine q06 (q5x h2 h4) ?_;(try simp only [rwp,hwR,zA,zB,zC,zD,zE,zF,zG,zH,zI]);refine q13 (q92 (I.sub hI1.1) hr hn e.over) ?_;(try simp only [rwp,hwR,zA,zB,zC,zD,zE,zF,zG,zH,zI]);have hov:(q26 s r.refs e.over).length<=1000:=by
    have:=yde (s:=s) (refs:=r.refs) (n:=e.over);unfold rsz at hn0;omega
   refine LoopP.introS (fun j:Nat=>[(1,.bool o),(4,.ptr b 0),(36,.sl 2 ((q26 s r.refs e.over).map yk8)),(37,.int .i64 (q26 s r.refs e.over).length),(38,.int .i64 j)])
    (fun j S'=>j<=(q26 s r.refs e.over).length/\LI S S' b ((a++((i,k),o) :: ((q26 s r.refs e.over).take j).map fun p=>(p,o)).map q2v)) (fun j=>(q26 s r.refs e.over).length-j) 0 ⟨by omega,by simpa using hI1⟩ rfl ?_
   rintro j S2 ⟨hj,hI2⟩ w hw;(try simp only [rwp,hwR,zA,zB,zC,zD,zE,zF,zG,zH,zI,yvd])
   (refine q02 (fun hlt=>?_) (fun hlt=>?_)<;>(try simp only [hlc] at hlt))
   ·obtain ⟨p,hp⟩:=q0c hlt;obtain ⟨hs2,v2,hv2,ha2,hl2⟩:=hI2;(try simp only [rwp,hwR,zA,zB,zC,zD,zE,zF,zG,zH,zI,hp,yk8,q08 hv2]);refine LI.app hb hs2 hv2 ha2 hl2 (new:=q2v (p,o)) rfl rfl (by simp;omega) ?_
    intro S3 hI3
    (simp (disch:=omega) only [q05])
    refine q09 rfl (hw (j+1) S3 ⟨by omega,?_⟩ (by omega))
    rw [q0t hp];simpa using hI3
   ·have hend:(q26 s r.refs e.over).take j=q26 s r.refs e.over:=lF (by omega)
    rw [hend] at hI2;refine q04 ⟨rfl,?_⟩;rw [q3r,hq];simpa [he] using hI2
  ·refine q04 ⟨rfl,?_⟩;rw [q3r,hq];simpa [he] using hI1
theorem y6e {s:List Ty} (hs:OkS s) (hN:OkN s) {S:q00} {b1 b2:Nat} (I:IxS S b1 b2 s) {t:Ty} {r:Rl} (hr:OkR r) (hrs:rsz r<=1000) (hf:r.refs.length=0->∀ p∈q0g r.ex false,(q0h s t.name p.1.name).isSome=true) :
  AFunS PG ytr [ixP s b1 b2,.agg (tyC t),.agg (rlC r)] S (.sl 3 ((q1c s t.name r).map q2v)):=by
 have hn:r.refs.length<=1000:=by unfold rsz at hrs;omega
 refine xfe ?_;unfold xch;(try simp only [rwp,hwR,zA,zB,zC,zD,zE,zF,zG,zH,zI,tyC,q0o]);intro b hb;refine LoopP.introS (fun j:Nat=>[(3,.rop [ixP s b1 b2]),(4,.rop (tyC t)),(5,.rop [.str r.name,.sl 2 (r.refs.map rfC),.int .i64 r.ex.kind,.str r.ex.name,.str r.ex.over,.sl 4 (r.ex.kids.map exC)]),(7,.ptr b 0),(13,.sl 2 (r.refs.map rfC)),(14,.int .i64 r.refs.length),(15,.int .i64 j)])
  (fun j S'=>j<=r.refs.length/\LI S S' b (((r.refs.take j).filterMap (q1s s)).map q2v)) (fun j=>r.refs.length-j) 0
  ⟨by omega,Sub.fresh _ hb,.nils,q0f,fun _ _ _ _ h=>(by cases h),.nil⟩ rfl ?_
 rintro j S1 ⟨hj,hI⟩ q hq;(try simp only [rwp,hwR,zA,zB,zC,zD,zE,zF,zG,zH,zI,yw2])
 (refine q02 (fun hlt=>?_) (fun hlt=>?_)<;>(try simp only [hlc] at hlt))
 ·obtain ⟨f,hfj⟩:=q0c hlt;have htk:=y56 (g:=q1s s) hfj;have hle:=yq4 (g:=q1s s) (l:=r.refs) (i:=j);(try simp only [rwp,hwR,zA,zB,zC,zD,zE,zF,zG,zH,zI,hfj,rfC]);refine q13 (q25 (I.sub hI.1) f.ty f.rl) ?_;(try simp only [rwp,hwR,zA,zB,zC,zD,zE,zF,zG,zH,zI,q1m,q7a]);have skip:q1s s f=none->q [(3,.rop [ixP s b1 b2]),(4,.rop (tyC t)),(5,.rop [.str r.name,.sl 2 (r.refs.map rfC),.int .i64 r.ex.kind,.str r.ex.name,.str r.ex.over,.sl 4 (r.ex.kids.map exC)]),(7,.ptr b 0),(13,.sl 2 (r.refs.map rfC)),(14,.int .i64 r.refs.length),(15,.int .i64 ((j:Int)+1))] S1:=fun h=>by
   refine hq (j+1) S1 ⟨by omega,?_⟩ (by omega)
   rw [htk,h];simpa using hI
  cases hg:q0h s f.ty f.rl with
  | none=>
   (try simp only [rwp,hwR,zA,zB,zC,zD,zE,zF,zG,zH,zI,yfr])
   (simp (disch:=omega) only [q05])
   exact q09 rfl (skip (by simp only [q1s,hg];split<;>rfl))
  | some w=>
   obtain ⟨i,k,w⟩:=w;rw [q79 hg];(try simp only [rwp,hwR,zA,zB,zC,zD,zE,zF,zG,zH,zI,yfr])
   (refine q02 (fun he=>?_) (fun he=>?_)<;>(try simp only [rwp,hwR,zA,zB,zC,zD,zE,zF,zG,zH,zI,he]))
   ·have he':¬ f.rl=⟨#[]⟩:=by simpa using he
    have hgf:q1s s f=some ((i,k),false):=by simp only [q1s,hg];rw [if_neg he'];rfl
    obtain ⟨hs1,v,hv,ha,hl⟩:=hI;(try simp only [rwp,hwR,zA,zB,zC,zD,zE,zF,zG,zH,zI,q08 hv]);refine LI.app hb hs1 hv ha hl (new:=q2v ((i,k),false)) rfl rfl (by simp only [lA];omega) ?_
    intro S2 hI2
    (simp (disch:=omega) only [q05])
    refine q09 rfl (hq (j+1) S2 ⟨by omega,?_⟩ (by omega))
    rw [htk,hgf];simpa using hI2
   ·(simp (disch:=omega) only [q05])
    exact q09 rfl (skip (by simp only [q1s,hg];rw [if_pos (by simpa using he)]))
 ·have hend:r.refs.take j=r.refs:=lF (by omega)
  rw [hend] at hI
  (refine q02 (fun h0=>?_) (fun h0=>?_)<;>(try simp only [hlc] at h0))
  ·obtain ⟨hs1,v,hv,ha,hl⟩:=hI;(try simp only [rwp,hwR,zA,zB,zC,zD,zE,zF,zG,zH,zI,q08 hv]);refine q3o hs1 hl ⟨?_,rfl⟩;rw [q1c,if_neg (by omega)]
  ·have h00:r.refs.length=0:=by omega
   have hnil:r.refs=[]:=List.length_eq_zero_iff.1 h00;rw [hnil] at hI;have hI:LI S S1 b (([]:List Ln).map q2v):=hI;rw [<- q0e];have hc:=q7e (fun (a:List Ln) S'=>LI S S' b (a.map q2v)) (fun (a:List Ln) e o=>(true,a++q3r s t.name e o)) (g:=yjq) (fi:=[]) (ca:=[.rop [ixP s b1 b2],.rop (tyC t),.ptr b 0]) (q0g r.ex false) []
    (fun l1 p l2 hT _ S' _ hI'=>by
     rw [q6h] at hI' ⊢;have hl1:l1.length<=1000:=by
      have h1:=q5p r.ex false;rw [hT] at h1;simp only [lH] at h1;unfold rsz at hrs;omega
     have hl2:=y5w (f:=fun p:Ex×Bool=>q3r s t.name p.1 p.2) (n:=1001) (fun _=>y5s hN) (l:=l1)
     exact y25 hs hN I hb (by simp only [lQ];omega) (hf h00 p (by rw [hT];simp)) hI') r.ex hr.ex false [] [] (by simp) rfl S1 hI
   rw [lQ,q6h] at hc;refine q0k hc ?_;rintro _ S2 ⟨rfl,hs2,v,hv,ha,hl⟩;(try simp only [rwp,hwR,zA,zB,zC,zD,zE,zF,zG,zH,zI,q08 hv]);refine q3o hs2 hl ⟨?_,rfl⟩;rw [q1c,if_pos h00,lQ]
abbrev Lv:Type:=List (List Nat)
def y02 (lv:Lv) (p:Nat×Nat):Nat:=(((lv[p.1]?).getD [])[p.2]?).getD 0
def y2n (lv:Lv) (p:Nat×Nat) (v:Nat):Lv:=lv.set p.1 (((lv[p.1]?).getD []).set p.2 v)
abbrev Rw:Type:=(Nat×Nat)×List Ln
def q38 (s:List Ty) (i:Nat) (tn:ByteArray):Nat->List Rl->List Rw
 | _,[]=>[]
 | k,r :: rs=>((i,k),q1c s tn r) :: q38 s i tn (k+1) rs
def q43 (s:List Ty):Nat->List Ty->List Rw
 | _,[]=>[]
 | i,t :: ts=>q38 s i t.name 0 t.rels++q43 s (i+1) ts
def q2c (s:List Ty):List Rw:=q43 s 0 s
def q15 (N:Nat) (n:Nat×Nat):List Ln->Lv×Bool->Lv×Bool
 | [],a=>a
 | l :: r,a=>if y02 a.1 n<y02 a.1 l.1+l.2.toNat/\y02 a.1 n<=N then q15 N n r (y2n a.1 n (y02 a.1 l.1+l.2.toNat),true) else q15 N n r a
def q18 (N:Nat):List Rw->Lv×Bool->Lv×Bool
 | [],a=>a
 | w :: r,a=>q18 N r (q15 N w.1 w.2 a)
def q51 (N:Nat) (w:List Rw):Nat->Lv->Lv
 | 0,lv=>lv
 | f+1,lv=>if (q18 N w (lv,false)).2=true then q51 N w f (q18 N w (lv,false)).1 else (q18 N w (lv,false)).1
def q68 (s:List Ty):Lv:=s.map fun t=>lG t.rels.length 0
def q0n (s:List Ty):Nat:=(s.map fun t=>t.rels.length).sum
def y05 (s:List Ty):Lv:=q51 (q0n s) (q2c s) 70000 (q68 s)
def Shp (lv:Lv) (s:List Ty):Prop:=lv.map List.length=s.map fun t=>t.rels.length
def In (lv:Lv) (p:Nat×Nat):Prop:=∃ l,lv[p.1]?=some l/\p.2<l.length
theorem q5i (s:List Ty):Shp (q68 s) s:=by
 unfold Shp q68;rw [List.map_map];exact List.map_congr_left fun t ht=>by simp
theorem yow {lv:Lv} {p:Nat×Nat} {v:Nat}:(y2n lv p v).map List.length=lv.map List.length:=by
 apply List.ext_getElem?
 intro i;unfold y2n;rw [lC,lC,lT];by_cases h:p.1=i
 ·subst h;simp only [if_true];cases hl:lv[p.1]? with
  | none=>
   have:=List.getElem?_eq_none_iff.1 hl;rw [if_neg (by omega)]
  | some l=>
   have:=(List.getElem?_eq_some_iff.1 hl).1;rw [if_pos this];simp
 ·rw [if_neg h]
theorem yax {lv:Lv} {s:List Ty} (h:Shp lv s) (p:Nat×Nat) (v:Nat):Shp (y2n lv p v) s:=by
 unfold Shp;rw [yow];exact h
theorem yq0 {lv:Lv} {s:List Ty} (h:Shp lv s) {i k:Nat} {t:Ty} (ht:s[i]?=some t) (hk:k<t.rels.length):In lv (i,k):=by
 have h1:=congrArg (fun l=>l[i]?) h
 simp only [lC,ht,Option.map_some] at h1;cases hl:lv[i]? with
 | none=>rw [hl] at h1;cases h1
 | some l=>
  rw [hl] at h1;simp only [Option.map_some,Option.some.injEq] at h1;exact ⟨l,hl,by dsimp only;omega⟩
theorem x87 {lv:Lv} {p q:Nat×Nat} {v:Nat} (h:In lv q):In (y2n lv p v) q:=by
 obtain ⟨l,h1,h2⟩:=h;unfold In y2n;rw [lT];by_cases hp:p.1=q.1
 ·rw [if_pos hp,if_pos (by have:=(List.getElem?_eq_some_iff.1 h1).1;omega),hp,h1]
  exact ⟨_,rfl,by simpa using h2⟩
 ·rw [if_neg hp];exact ⟨l,h1,h2⟩
theorem ye6 {lv:Lv} {p q:Nat×Nat} {v:Nat} (h:In lv p):y02 (y2n lv p v) q=if q=p then v else y02 lv q:=by
 obtain ⟨l,h1,h2⟩:=h;have h3:=(List.getElem?_eq_some_iff.1 h1).1;unfold y02 y2n;rw [lT];obtain ⟨a,b⟩:=p;obtain ⟨c,d⟩:=q;dsimp only at h1 h2 h3 ⊢;by_cases hac:a=c
 ·subst hac;rw [if_pos rfl,if_pos h3,h1];simp only [Option.getD_some];rw [lT];by_cases hbd:b=d
  ·subst hbd;simp [h2]
  ·rw [if_neg hbd,if_neg (by rw [Prod.mk.injEq];omega)]
 ·rw [if_neg hac,if_neg (by rw [Prod.mk.injEq];omega)]
def yob (N:Nat) (l:List Nat):Nat:=(l.map fun v=>min v (N+1)).sum
def phi (N:Nat) (lv:Lv):Nat:=(lv.map (yob N)).sum
theorem yap:∀ {l:List Nat} {i:Nat} {u v:Nat},l[i]?=some u->(l.set i v).sum+u=l.sum+v
 | [],i,u,v,h=>by simp at h
 | x :: l,0,u,v,h=>by simp at h;subst h;simp only [List.set_cons_zero,List.sum_cons];omega
 | x :: l,i+1,u,v,h=>by
  simp at h;have:=yap (v:=v) h;simp only [List.set_cons_succ,List.sum_cons];omega
theorem yxy {N:Nat} {lv:Lv} {p:Nat×Nat} {v:Nat} (h:In lv p):phi N (y2n lv p v)+min (y02 lv p) (N+1)=phi N lv+min v (N+1):=by
 obtain ⟨l,h1,h2⟩:=h;have e1:y02 lv p=l[p.2]:=by
  unfold y02;rw [h1];simp [lE h2]
 have h3:(l.map fun v=>min v (N+1))[p.2]?=some (min l[p.2] (N+1)):=by simp [lE h2]
 have h4:=yap (v:=min v (N+1)) h3;have h5:(lv.map (yob N))[p.1]?=some (yob N l):=by rw [lC,h1];rfl
 have h6:=yap (v:=yob N (l.set p.2 v)) h5;unfold phi y2n;rw [h1,Option.getD_some,List.map_set,e1];have h7:yob N (l.set p.2 v)+min l[p.2] (N+1)=yob N l+min v (N+1):=by
  unfold yob;rw [List.map_set];exact h4
 omega
theorem x60 {N:Nat} {lv:Lv}:phi N lv<=(lv.map List.length).sum * (N+1):=by
 have key:∀ l:List Nat,yob N l<=l.length * (N+1):=by
  intro l
  induction l with
  | nil=>simp [yob]
  | cons x l ih=>
   simp only [yob,List.map_cons,List.sum_cons,lD,Nat.succ_mul] at ih ⊢;omega
 induction lv with
 | nil=>simp [phi]
 | cons l lv ih=>
  have:=key l;simp only [phi,List.map_cons,List.sum_cons,Nat.add_mul] at ih ⊢;omega
theorem q83 {N:Nat} {lv:Lv} {s:List Ty} (h:Shp lv s):phi N lv<=q0n s * (N+1):=by
 have:=x60 (N:=N) (lv:=lv);unfold Shp at h;rw [h] at this;exact this
def Bdd (N:Nat) (lv:Lv):Prop:=∀ p,y02 lv p<=phi N lv
def x2i (s:List Ty) (w:List Rw):Prop:=∀ x∈w,∃ t,s[x.1.1]?=some t/\x.1.2<t.rels.length
theorem q6c {N:Nat} {lv:Lv} {n m:Nat×Nat} {o:Bool} (hin:In lv n) (hb:Bdd N lv) (h:y02 lv n<y02 lv m+o.toNat/\y02 lv n<=N) :
  Bdd N (y2n lv n (y02 lv m+o.toNat))/\phi N lv<phi N (y2n lv n (y02 lv m+o.toNat)):=by
 have h1:=yxy (N:=N) (v:=y02 lv m+o.toNat) hin;have h2:phi N lv<phi N (y2n lv n (y02 lv m+o.toNat)):=by omega
 refine ⟨fun p=>?_,h2⟩
 rw [ye6 hin];have ho:o.toNat<=1:=by cases o<;>decide
 split
 ·have:=hb m;omega
 ·have:=hb p;omega
theorem q6d {N:Nat} {n:Nat×Nat} {s:List Ty}:∀ {l:List Ln} {a:Lv×Bool},Shp a.1 s->In a.1 n->Bdd N a.1->Shp (q15 N n l a).1 s/\Bdd N (q15 N n l a).1/\phi N a.1<=phi N (q15 N n l a).1/\(a.2=true->(q15 N n l a).2=true)/\(a.2=false->(q15 N n l a).2=true->phi N a.1<phi N (q15 N n l a).1)/\((q15 N n l a).2=false->(q15 N n l a).1=a.1)
 | [],a,h1,h2,h3=>⟨h1,h3,Nat.le_refl _,fun h=>h,fun h h'=>(by rw [show q15 N n [] a=a from rfl,h] at h';cases h'),fun _=>rfl⟩
 | l :: r,a,h1,h2,h3=>by
  unfold q15;split
  ·rename_i hc
   obtain ⟨k1,k2⟩:=q6c h2 h3 hc;obtain ⟨j1,j2,j3,j4,j5,j6⟩:=q6d (l:=r) (a:=(y2n a.1 n (y02 a.1 l.1+l.2.toNat),true)) (yax h1 _ _) (x87 h2) k1;dsimp only at j3 j4 j5 j6;exact ⟨j1,j2,by omega,fun _=>j4 rfl,fun _ _=>by omega,fun h=>by rw [j4 rfl] at h;cases h⟩
  ·exact q6d h1 h2 h3
theorem q33 {N:Nat} {s:List Ty}:∀ {w:List Rw} {a:Lv×Bool},x2i s w->Shp a.1 s->Bdd N a.1->Shp (q18 N w a).1 s/\Bdd N (q18 N w a).1/\phi N a.1<=phi N (q18 N w a).1/\(a.2=true->(q18 N w a).2=true)/\(a.2=false->(q18 N w a).2=true->phi N a.1<phi N (q18 N w a).1)/\((q18 N w a).2=false->(q18 N w a).1=a.1)
 | [],a,_,h1,h3=>⟨h1,h3,Nat.le_refl _,fun h=>h,fun h h'=>(by rw [show q18 N [] a=a from rfl,h] at h';cases h'),fun _=>rfl⟩
 | x :: w,a,hw,h1,h3=>by
  obtain ⟨t,ht,hk⟩:=hw x (by simp)
  obtain ⟨k1,k2,k3,k4,k5,k6⟩:=q6d (N:=N) (n:=x.1) (l:=x.2) h1 (yq0 h1 ht hk) h3;obtain ⟨j1,j2,j3,j4,j5,j6⟩:=q33 (w:=w) (fun y hy=>hw y (lM _ hy)) k1 k2
  unfold q18;refine ⟨j1,j2,by omega,fun h=>j4 (k4 h),fun h h'=>?_,fun h=>?_⟩
  ·cases hr:(q15 N x.1 x.2 a).2 with
   | true=>have:=k5 h hr;omega
   | false=>have:=j5 hr h';omega
  ·have:=j6 h;rw [this];cases hr:(q15 N x.1 x.2 a).2 with
   | true=>rw [j4 hr] at h;cases h
   | false=>exact k6 hr
theorem q4k {N:Nat} {s:List Ty}:Bdd N (q68 s):=fun p=>by
 have:y02 (q68 s) p=0:=by
  unfold y02 q68;rw [lC];cases s[p.1]? with
  | none=>simp
  | some t=>
   simp only [Option.map_some,Option.getD_some,List.getElem?_replicate];split<;>rfl
 omega
theorem q87 {N:Nat} {s:List Ty} {w:List Rw} (hw:x2i s w):∀ {f g:Nat} {lv:Lv},Shp lv s->Bdd N lv->q0n s * (N+1)<f+phi N lv->q0n s * (N+1)<g+phi N lv->q51 N w f lv=q51 N w g lv
 | 0,g,lv,h1,h2,h3,_=>by have:=q83 (N:=N) h1;omega
 | f+1,0,lv,h1,h2,_,h4=>by have:=q83 (N:=N) h1;omega
 | f+1,g+1,lv,h1,h2,h3,h4=>by
  obtain ⟨k1,k2,k3,k4,k5,k6⟩:=q33 (N:=N) (a:=(lv,false)) hw h1 h2;unfold q51;split
  ·rename_i hr
   have:=k5 rfl hr;exact q87 hw k1 k2 (by dsimp only at this;omega) (by dsimp only at this;omega)
  ·rfl
theorem yct {s:List Ty} {i:Nat} {t:Ty} (ht:s[i]?=some t):∀ {l:List Rl} {k:Nat},k+l.length=t.rels.length->∀ x∈q38 s i t.name k l,∃ t,s[x.1.1]?=some t/\x.1.2<t.rels.length
 | [],k,h,x,hx=>by cases hx
 | r :: l,k,h,x,hx=>by
  simp only [q38,lN] at hx;rcases hx with rfl | hx
  ·exact ⟨t,ht,by simp only [lD] at h;dsimp only;omega⟩
  ·exact yct ht (by simp only [lD] at h;omega) x hx
theorem ycq {s:List Ty}:∀ {l:List Ty} {i:Nat},s.drop i=l->∀ x∈q43 s i l,∃ t,s[x.1.1]?=some t/\x.1.2<t.rels.length
 | [],i,h,x,hx=>by cases hx
 | t :: l,i,h,x,hx=>by
  have ht:s[i]?=some t:=by
   have:=List.getElem?_drop (xs:=s) (i:=i) (j:=0);rw [h] at this;simpa using this.symm
  have hd:s.drop (i+1)=l:=by
   have:=q0i ht;rw [h] at this;simpa using this.symm
  simp only [q43,List.mem_append] at hx;rcases hx with hx | hx
  ·exact yct ht (by simp) x hx
  ·exact ycq hd x hx
theorem q4w (s:List Ty):x2i s (q2c s):=ycq (by simp)
theorem y7n {s:List Ty} {i:Nat} {n:ByteArray}:∀ {l:List Rl} {k:Nat},(q38 s i n k l).length=l.length
 | [],k=>rfl
 | r :: l,k=>by simp [q38,y7n]
theorem y7m {s:List Ty}:∀ {l:List Ty} {i:Nat},(q43 s i l).length=q0n l
 | [],i=>rfl
 | t :: l,i=>by simp [q43,y7m,y7n,q0n]
theorem y5d (s:List Ty):(q2c s).length=q0n s:=y7m
def q1u:List Rw->Nat×Nat->Option (List Ln)
 | [],_=>none
 | w :: r,p=>if p=w.1 then some w.2 else q1u r p
def upR:List Rw->Nat×Nat->List Ln->List Rw
 | [],p,l=>[(p,l)]
 | w :: r,p,l=>if p=w.1 then (p,l) :: r else w :: upR r p l
theorem yps {a:List Rw} {p q:Nat×Nat} {l:List Ln}:q1u (upR a p l) q=if q=p then some l else q1u a q:=by
 induction a with
 | nil=>simp [upR,q1u]
 | cons w r ih=>
  unfold upR;split
  ·rename_i h
   unfold q1u;subst h;split<;>rfl
  ·rename_i h
   simp only [q1u,ih];by_cases hq:q=w.1
   ·subst hq;simp [Ne.symm h]
   ·simp [hq]
theorem yx0 {a:List Rw} {p:Nat×Nat} {l:List Ln}:(upR a p l).length=if (q1u a p).isSome then a.length else a.length+1:=by
 induction a with
 | nil=>rfl
 | cons w r ih=>
  unfold upR q1u;by_cases h:p=w.1
  ·simp [h]
  ·simp only [h,if_false,lD,ih];split<;>rfl
def xdl (l:List Ln):AV:=.sl 3 (l.map q2v)
def OnM (S0 S:q00) (b:Nat) (a:List Rw):Prop:=Sub S0 S/\KMapL MN q1m S b (fun p=>(q1u a p).map xdl) a.length
def yms (s:List Ty):Prop:=∀ t∈s,∀ r∈t.rels,r.refs.length=0->∀ p∈q0g r.ex false,(q0h s t.name p.1.name).isSome=true
theorem q9d {s:List Ty} (hs:OkS s) (hN:OkN s) (hF:yms s) {S:q00} {b1 b2:Nat} (I:IxS S b1 b2 s) {bo:Nat} (hbo:y01 S bo=none) {i k:Nat} {t:Ty} {r:Rl} (ht:s[i]?=some t) (hr:t.rels[k]?=some r) {a:List Rw} {S':q00} (hI:OnM S S' bo a) :
  ACalls PG yjt [q1m (i,k),.agg (tyC t),.agg (rlC r),.rop [ixP s b1 b2],.rop [.map (some bo)]] S' fun ae S2=>ae=.ret (.int .i64 0)/\OnM S S2 bo (upR a (i,k) (q1c s t.name r)):=by
 have hm:=lB ht;have hmr:=lB hr;refine xff ?_;unfold xci;(try simp only [rwp,hwR,zA,zB,zC,zD,zE,zF,zG,zH,zI,q1m,tyC,q0o]);rw [<- q0o];refine q13 (y6e hs hN (I.sub hI.1) ((hs.at ht).at hr) (hN t hm r hmr) (hF t hm r hmr)) ?_;(try simp only [rwp,hwR,zA,zB,zC,zD,zE,zF,zG,zH,zI]);refine hI.2.mu yb9 (i,k) fun es clk h=>?_
 refine q04 ⟨rfl,hI.1.supd hbo,h.cong (fun p=>?_) ?_⟩
 ·rw [yps];by_cases hp:p=(i,k)
  ·simp only [hp,if_true,Option.map_some];rfl
  ·simp only [hp,if_false]
 ·rw [yx0];simp
structure LvI (s:List Ty) (N:Nat) (w:List Rw) (S0:q00) (bo bf bm:Nat) (a:Lv×Bool) (S:q00):Prop where
 sub:Sub S0 S
 on:KMapL MN q1m S bo (fun p=>(q1u w p).map xdl) N
 of:∃ o,KMap MN q1m S bf o/\∀ p,q23 false (.int .i64 0) (o p)=.int .i64 (y02 a.1 p)
 more:q0m S bm=some (4,[.bool a.2],1)
 shp:Shp a.1 s
 bdd:Bdd N a.1
theorem y3k {s:List Ty} {i:Nat} {n:ByteArray}:∀ {l:List Rl} {k m:Nat},m<k->q1u (q38 s i n k l) (i,m)=none
 | [],k,m,h=>rfl
 | r :: l,k,m,h=>by
  unfold q38 q1u;rw [if_neg (by rw [Prod.mk.injEq];omega)]
  exact y3k (by omega)
theorem q6e {s:List Ty} {i j m:Nat} {n:ByteArray} (h:j≠i):∀ {l:List Rl} {k:Nat},q1u (q38 s i n k l) (j,m)=none
 | [],k=>rfl
 | r :: l,k=>by
  unfold q38 q1u;rw [if_neg (by rw [Prod.mk.injEq];omega)]
  exact q6e h
theorem q4z {a b:List Rw} {p:Nat×Nat}:q1u (a++b) p=match q1u a p with
  | some l=>some l
  | none=>q1u b p:=by
 induction a with
 | nil=>rfl
 | cons w r ih=>
  simp only [List.cons_append,q1u,ih];by_cases h:p=w.1<;>simp [h]
theorem y8b {s:List Ty} {i:Nat} {n:ByteArray}:∀ {l:List Rl} {k m:Nat} {r:Rl},l[m]?=some r->q1u (q38 s i n k l) (i,k+m)=some (q1c s n r)
 | [],k,m,r,h=>by simp at h
 | x :: l,k,0,r,h=>by
  simp at h;subst h;unfold q38 q1u;simp
 | x :: l,k,m+1,r,h=>by
  simp at h;unfold q38 q1u;rw [if_neg (by rw [Prod.mk.injEq];omega)]
  have:=y8b (s:=s) (i:=i) (n:=n) (k:=k+1) h;rw [show k+(m+1)=k+1+m by omega]
  exact this
theorem y8a {s:List Ty}:∀ {l:List Ty} {j m:Nat} {t:Ty} {k:Nat} {r:Rl},l[m]?=some t->t.rels[k]?=some r->q1u (q43 s j l) (j+m,k)=some (q1c s t.name r)
 | [],j,m,t,k,r,h,_=>by simp at h
 | x :: l,j,0,t,k,r,h,hr=>by
  simp at h;subst h;unfold q43;rw [q4z,Nat.add_zero];have:=y8b (s:=s) (i:=j) (n:=x.name) (k:=0) hr;rw [Nat.zero_add] at this;rw [this]
 | x :: l,j,m+1,t,k,r,h,hr=>by
  simp at h;unfold q43;rw [q4z,q6e (by omega)]
  have:=y8a (s:=s) (j:=j+1) h hr;rw [show j+(m+1)=j+1+m by omega]
  exact this
theorem yds {s:List Ty} {i k:Nat} {t:Ty} {r:Rl} (ht:s[i]?=some t) (hr:t.rels[k]?=some r):q1u (q2c s) (i,k)=some (q1c s t.name r):=by
 have:=y8a (s:=s) (j:=0) ht hr;rw [Nat.zero_add] at this;exact this
theorem q9c {s:List Ty} {N:Nat} (hN:q0n s<=1000) (hNN:N<=1000) {S0:q00} {bo bf bm:Nat} (d1:bf≠bo) (d2:bm≠bo) (d3:bm≠bf) (hf0:y01 S0 bf=none) (hm0:y01 S0 bm=none) {i k:Nat} {t:Ty} {r:Rl} (ht:s[i]?=some t) (hr:t.rels[k]?=some r)
  (hlen:(q1c s t.name r).length<=4000000) {a:Lv×Bool} {S:q00} (hI:LvI s N (q2c s) S0 bo bf bm a S) :
  ACalls PG yjs [q1m (i,k),.agg (tyC t),.agg (rlC r),.rop [.map (some bo)],.rop [.map (some bf)],.ptr bm 0] S fun ae S2=>ae=.ret (.int .i64 0)/\LvI s N (q2c s) S0 bo bf bm (q15 N (i,k) (q1c s t.name r) a) S2:=by
 refine xfd ?_;unfold xcg;(try simp only [rwp,hwR,zA,zB,zC,zD,zE,zF,zG,zH,zI,q1m,tyC,q0o]);rw [hI.on.k.lkn,yds ht hr];(try simp only [rwp,hwR,zA,zB,zC,zD,zE,zF,zG,zH,zI,xdl]);generalize hL:q1c s t.name r=L at hlen;refine LoopP.introS (fun p:Nat×Lv×Bool=>[(3,.rop [.map (some bo)]),(4,.rop [.map (some bf)]),(5,.ptr bm 0),(6,.rop [.int .i64 i,.int .i64 k]),(15,.sl 3 (L.map q2v)),(16,.int .i64 L.length),(17,.int .i64 p.1)])
  (fun p S'=>p.1<=L.length/\LvI s N (q2c s) S0 bo bf bm p.2 S'/\q15 N (i,k) (L.drop p.1) p.2=q15 N (i,k) L a) (fun p=>L.length-p.1) (0,a) ⟨by omega,hI,rfl⟩ rfl ?_
 clear hI;rintro ⟨j,lv,mo⟩ S1 ⟨hj,hI,hra⟩ q hq;dsimp only at hj hI hra;(try simp only [rwp,hwR,zA,zB,zC,zD,zE,zF,zG,zH,zI,yw1])
 (refine q02 (fun hlt=>?_) (fun hlt=>?_)<;>(try simp only [hlc] at hlt))
 ·obtain ⟨l,hl⟩:=q0c hlt;rw [q0i hl,q15] at hra;dsimp only at hra;obtain ⟨o,hof,hoq⟩:=hI.of;have hphi:=q83 (N:=N) hI.shp;dsimp only at hphi;have hM:q0n s * (N+1)<=1000 * 1001:=Nat.mul_le_mul hN (by omega)
  have bd:=fun p=>hI.bdd p
  dsimp only at bd hoq;have hbl:=bd l.1;have hbl2:y02 lv (l.1.1,l.1.2)<=phi N lv:=bd l.1;have hin:In lv (i,k):=yq0 hI.shp ht (List.getElem?_eq_some_iff.1 hr).1;(try simp only [rwp,hwR,zA,zB,zC,zD,zE,zF,zG,zH,zI,hl,q2v,q1e]);rw [hof.lkn,hoq];(try simp only [rwp,hwR,zA,zB,zC,zD,zE,zF,zG,zH,zI]);have low:∀ m:Nat,m=y02 lv l.1+l.2.toNat->yfq (fun ae S2=>ae=.ret (.int .i64 0)/\LvI s N (q2c s) S0 bo bf bm (q15 N (i,k) L a) S2) q (.rop [.map (some bo)]) (.rop [.map (some bf)]) (.ptr bm 0) (.rop [.int .i64 i,.int .i64 k]) (.int .i64 m) (.sl 3 (L.map q2v)) (.int .i64 L.length) (.int .i64 j) S1:=by
   intro m hm;unfold yfq;rw [<- hm] at hra;(try simp only [rwp,hwR,zA,zB,zC,zD,zE,zF,zG,zH,zI]);rw [hof.lkn,hoq];(try simp only [rwp,hwR,zA,zB,zC,zD,zE,zF,zG,zH,zI]);have keep:¬ (y02 lv (i,k)<m/\y02 lv (i,k)<=N)->q [(3,.rop [.map (some bo)]),(4,.rop [.map (some bf)]),(5,.ptr bm 0),(6,.rop [.int .i64 i,.int .i64 k]),(15,.sl 3 (L.map q2v)),(16,.int .i64 L.length),(17,.int .i64 ((j:Int)+1))] S1:=fun h=>by
    rw [if_neg h] at hra;exact hq (j+1,lv,mo) S1 ⟨by dsimp only;omega,hI,hra⟩ (by dsimp only;omega)
   (refine q1l (fun hg=>?_) (fun hg=>?_)<;>(try simp only [rwp,hwR,zA,zB,zC,zD,zE,zF,zG,zH,zI,hg]))
   ·have h1:y02 lv (i,k)<m:=by simpa using hg
    rw [hof.lkn,hoq,hI.on.ln];(try simp only [rwp,hwR,zA,zB,zC,zD,zE,zF,zG,zH,zI,yfp])
    (refine q02 (fun h2=>?_) (fun h2=>?_)<;>(try simp only [hlc] at h2))
    ·have h3:y02 lv (i,k)<m/\y02 lv (i,k)<=N:=⟨h1,by omega⟩
     rw [if_pos h3] at hra;rw [hm] at h3;obtain ⟨k1,k2⟩:=q6c (N:=N) (m:=l.1) (o:=l.2) hin hI.bdd h3;rw [<- hm] at k1 k2;refine hof.mu yb9 (i,k) fun es clk h4=>?_
     have h5:q0m (supd S1 bf (.map MN es clk)) bm=some (4,[.bool mo],1):=by rw [q0j (Ne.symm d3)];exact hI.more
     (try simp only [rwp,hwR,zA,zB,zC,zD,zE,zF,zG,zH,zI,h5])
     (simp (disch:=omega) only [q05])
     refine q09 rfl (hq (j+1,y2n lv (i,k) m,true) _ ⟨by dsimp only;omega,⟨(hI.sub.supd hf0).supd hm0,(hI.on.upd d1 _).upd d2 _,⟨_,h4.upd d3 _,fun p=>?_⟩,q0f,yax hI.shp _ _,k1⟩,hra⟩ (by dsimp only;omega))
     dsimp only;rw [ye6 hin];by_cases hp:p=(i,k)
     ·simp only [hp,if_true];rfl
     ·simp only [hp,if_false];exact hoq p
    ·(simp (disch:=omega) only [q05])
     exact q09 rfl (keep (fun h=>h2 (by omega)))
   ·have h1:¬ y02 lv (i,k)<m:=by simpa using hg
    (try simp only [rwp,hwR,zA,zB,zC,zD,zE,zF,zG,zH,zI,yfp])
    (simp (disch:=omega) only [q05])
    exact q09 rfl (keep (fun h=>h1 h.1))
  cases ho:l.2 with
  | true=>
   (try simp only [rwp,hwR,zA,zB,zC,zD,zE,zF,zG,zH,zI]);rw [q05 (by omega) (by omega)]
   exact low (y02 lv l.1+1) (by rw [ho];rfl)
  | false=>
   (try simp only [rwp,hwR,zA,zB,zC,zD,zE,zF,zG,zH,zI]);exact low (y02 lv l.1) (by rw [ho];rfl)
 ·rw [q12 hlt] at hra;refine q04 ⟨rfl,?_⟩;rw [<- hra];exact hI
theorem y45 {α:Type} {s:List Ty} {i:Nat} {n:ByteArray} {f:α->Nat->Rl->Int×α} {g:Rw->α->α} (hg:∀ a k r,f a k r=(0,g ((i,k),q1c s n r) a)):∀ {l:List Rl} {k:Nat} {a:α},q2x f k l a=(none,(q38 s i n k l).foldl (fun a w=>g w a) a)
 | [],k,a=>rfl
 | r :: l,k,a=>by
  simp only [q2x,q38,List.foldl_cons,hg,if_true];exact y45 hg
theorem q8e {α:Type} {s:List Ty} {f:α->Nat->Nat->Ty->Rl->Int×α} {g:Rw->α->α} (hg:∀ a i k t r,f a i k t r=(0,g ((i,k),q1c s t.name r) a)):∀ {l:List Ty} {i:Nat} {a:α},q2w f i l a=(none,(q43 s i l).foldl (fun a w=>g w a) a)
 | [],i,a=>rfl
 | t :: l,i,a=>by
  unfold q2w;rw [y45 (s:=s) (i:=i) (n:=t.name) (g:=g) (fun a k r=>hg a i k t r)]
  simp only [q43,List.foldl_append];exact q8e hg
theorem y12 {N:Nat}:∀ {w:List Rw} {a:Lv×Bool},w.foldl (fun a x=>q15 N x.1 x.2 a) a=q18 N w a
 | [],a=>rfl
 | x :: w,a=>y12 (w:=w)
def yok (w:List Rw) (a:List Rw):List Rw:=w.foldl (fun a x=>upR a x.1 x.2) a
theorem ywz {a:List Rw} {p:Nat×Nat} {l:List Ln} (h:q1u a p=none):upR a p l=a++[(p,l)]:=by
 induction a with
 | nil=>rfl
 | cons w r ih=>
  unfold q1u at h;split at h
  ·cases h
  ·unfold upR;rw [if_neg ‹_›,ih h];rfl
def y1a:List Rw->Prop
 | []=>True
 | w :: r=>q1u r w.1=none/\y1a r
theorem ygz {a:List Rw} {p:Nat×Nat} {w:Rw} (h:q1u a p=none) (hp:p≠w.1):q1u (a++[w]) p=none:=by
 rw [q4z,h];simp [q1u,hp]
theorem y71:∀ {w:List Rw} {a:List Rw},y1a w->(∀ x∈w,q1u a x.1=none)->yok w a=a++w
 | [],a,_,_=>by simp [yok]
 | x :: w,a,hd,h=>by
  have h1:=ywz (l:=x.2) (h x (by simp))
  have ih:=y71 (w:=w) (a:=a++[x]) hd.2 fun y hy=>ygz (h y (lM _ hy)) fun e=>by
   have h2:=hd.1;have:∀ {r:List Rw} {y:Rw},y∈r->q1u r y.1≠none:=by
    intro r y hy
    induction r with
    | nil=>cases hy
    | cons z r ih=>
     unfold q1u;split
     ·simp
     ·rename_i hne
      rcases List.mem_cons.1 hy with rfl | hy
      ·exact absurd rfl hne
      ·exact ih hy
   exact this hy (by rw [e];exact h2)
  simp only [yok,List.foldl_cons] at ih ⊢;rw [h1,ih,lW];rfl
theorem yk4 {a b:List Rw} (ha:y1a a) (hb:y1a b) (h:∀ x∈a,q1u b x.1=none):y1a (a++b):=by
 induction a with
 | nil=>exact hb
 | cons x a ih=>
  refine ⟨?_,ih ha.2 fun y hy=>h y (lM _ hy)⟩
  show q1u (a++b) x.1=none;rw [q4z,ha.1];exact h x (by simp)
theorem y7o {s:List Ty} {i:Nat} {n:ByteArray}:∀ {l:List Rl} {k:Nat} {x:Rw},x∈q38 s i n k l->x.1.1=i
 | [],k,x,h=>by cases h
 | r :: l,k,x,h=>by
  simp only [q38,lN] at h;rcases h with rfl | h
  ·rfl
  ·exact y7o h
theorem y3j {s:List Ty}:∀ {l:List Ty} {i:Nat} {p:Nat×Nat},p.1<i->q1u (q43 s i l) p=none
 | [],i,p,h=>rfl
 | t :: l,i,(a,b),h=>by
  unfold q43;rw [q4z,q6e (by dsimp only at h;omega)]
  exact y3j (by dsimp only at h ⊢;omega)
theorem yk6 {s:List Ty} {i:Nat} {n:ByteArray}:∀ {l:List Rl} {k:Nat},y1a (q38 s i n k l)
 | [],k=>trivial
 | r :: l,k=>⟨y3k (by omega),yk6⟩
theorem yk5 {s:List Ty}:∀ {l:List Ty} {i:Nat},y1a (q43 s i l)
 | [],i=>trivial
 | t :: l,i=>yk4 yk6 yk5 fun x hx=>y3j (by have:=y7o hx;omega)
theorem yoy (s:List Ty):yok (q2c s) []=q2c s:=y71 yk5 fun _ _=>rfl
theorem y8d {s:List Ty} (hN:OkN s) {t:ByteArray} {r:Rl} (hr:rsz r<=1000):(q1c s t r).length<=4000000:=by
 unfold q1c;unfold rsz at hr;split
 ·have h1:=q5p r.ex false;have h2:=y5w (f:=fun p:Ex×Bool=>q3r s t p.1 p.2) (n:=1001) (fun _=>y5s hN) (l:=q0g r.ex false)
  omega
 ·have:=List.length_filterMap_le (q1s s) r.refs;omega
theorem q64 {s:List Ty} (hs:OkS s) (hN:OkN s) (hF:yms s) (hM:q0n s<=256) {S:q00} {b1 b2:Nat} (I:IxS S b1 b2 s) :
  ACalls PG x69 [ixP s b1 b2] S fun ae S'=>∃ bf o,ae=.ret (.tup [.map (some bf),.int .i64 (q0n s)])/\KMap MN q1m S' bf o/\(∀ p,q23 false (.int .i64 0) (o p)=.int .i64 (y02 (y05 s) p))/\Sub S S':=by
 refine xki ?_;unfold xj0;(try simp only [rwp,hwR,zA,zB,zC,zD,zE,zF,zG,zH,zI]);refine KMap.mm (enc:=q1m) fun bf hbf kf=>?_
 have hsf:Sub S (supd S bf (.map MN [] 0)):=Sub.fresh _ hbf;have I:=I.sub hsf;generalize supd S bf (.map MN [] 0)=Sf at kf hsf I ⊢;refine KMapL.mm (enc:=q1m) fun bo hbo ko=>?_
 have d1:bf≠bo:=fun e=>kf.is (e ▸ hbo)
 have hs1:Sub Sf (supd Sf bo (.map MN [] 0)):=Sub.fresh _ hbo;generalize supd Sf bo (.map MN [] 0)=S1 at ko hs1 ⊢;refine x9m rfl rfl rfl rfl rfl rfl ?_;(try simp only [rwp,hwR,zA,zB,zC,zD,zE,zF,zG,zH,zI]);have h1:=q59 (b1:=b1) (b2:=b2) (g:=yjt) (fi:=[]) (ca:=[.rop [ixP s b1 b2],.rop [.map (some bo)]]) (fun (a:List Rw) S'=>OnM Sf S' bo a) (fun a i k t r=>(0,upR a (i,k) (q1c s t.name r))) hs
  (fun i k t r a S' ht hr hI=>q9d hs hN hF I hbo ht hr hI) [] S1 ⟨hs1,ko⟩
 have e1:q2w (fun (a:List Rw) i k t r=>((0:Int),upR a (i,k) (q1c s t.name r))) 0 s []=(none,q2c s):=by
  rw [q8e (s:=s) (g:=fun w a=>upR a w.1 w.2) (fun a i k t r=>rfl)]
  exact congrArg (Prod.mk none) (yoy s)
 rw [e1] at h1;refine q0k h1 ?_;rintro _ S2 ⟨rfl,hs2,ko⟩;clear h1 e1 hs1;dsimp only;have ko:KMapL MN q1m S2 bo (fun p=>(q1u (q2c s) p).map xdl) (q0n s):=ko.cong (fun _=>rfl) (y5d s)
 have kf:=kf.sub hs2;have hs3:=hsf.trans hs2;intro bm hbm;have m1:bm≠bo:=fun e=>ko.k.is (e ▸ hbm)
 have m2:bm≠bf:=fun e=>kf.is (e ▸ hbm)
 (try simp only [rwp,hwR,zA,zB,zC,zD,zE,zF,zG,zH,zI]);have hphi0:∀ lv,Shp lv s->phi (q0n s) lv<=q0n s * (q0n s+1):=fun lv h=>q83 h
 have hMM:q0n s * (q0n s+1)<=256 * 257:=Nat.mul_le_mul hM (by omega)
 refine LoopP.introS (fun p:Nat×Lv×Bool=>[(1,.rop [ixP s b1 b2]),(4,.rop [.map (some bf)]),(5,.rop [.map (some bo)]),(6,.ptr p.1 0)])
  (fun p S'=>y01 S p.1=none/\p.1≠bo/\p.1≠bf/\LvI s (q0n s) (q2c s) S bo bf p.1 p.2 S'/\(p.2.2=true->∀ F,q0n s * (q0n s+1)<F+phi (q0n s) p.2.1->q51 (q0n s) (q2c s) F p.2.1=y05 s)/\(p.2.2=false->p.2.1=y05 s))
  (fun p=>2 * (q0n s * (q0n s+1)-phi (q0n s) p.2.1)+p.2.2.toNat) (bm,q68 s,true)
  ⟨Sub.none hs3 hbm,m1,m2,⟨hs3.supd (Sub.none hs3 hbm),ko.fresh hbm _,⟨_,kf.fresh hbm _,fun p=>?_⟩,q0f,q5i s,q4k⟩,fun _ F hF2=>q87 (q4w s) (q5i s) q4k hF2 (by omega),fun h=>by cases h⟩ rfl ?_
 ·have h0:y02 (q68 s) p=0:=by
   have:=q4k (N:=0) (s:=s) p;unfold y02 q68;rw [lC];cases s[p.1]? with
   | none=>simp
   | some t=>
    simp only [Option.map_some,Option.getD_some,List.getElem?_replicate];split<;>rfl
  rw [h0];rfl
 rintro ⟨cm,lv,mo⟩ S3 ⟨hcm,m1,m2,hI,hy,hn⟩ q hq;dsimp only at hcm m1 m2 hI hy hn;(try simp only [rwp,hwR,zA,zB,zC,zD,zE,zF,zG,zH,zI,x9q,q08 hI.more]);cases mo with
 | false=>
  (try simp only [rwp,hwR,zA,zB,zC,zD,zE,zF,zG,zH,zI]);obtain ⟨o,ho1,ho2⟩:=hI.of;rw [hI.on.ln];refine q3n ⟨bf,o,rfl,ho1,fun p=>?_,hI.sub⟩
  rw [ho2,hn rfl]
 | true=>
  (try simp only [rwp,hwR,zA,zB,zC,zD,zE,zF,zG,zH,zI,hI.more]);have hI2:LvI s (q0n s) (q2c s) S bo bf cm (lv,false) (supd S3 cm (.cells 4 [.bool false] 1)):=by
   obtain ⟨o,ho1,ho2⟩:=hI.of;exact ⟨hI.sub.supd hcm,hI.on.upd m1 _,⟨o,ho1.upd m2 _,ho2⟩,q0f,hI.shp,hI.bdd⟩
  have h2:=q59 (b1:=b1) (b2:=b2) (g:=yjs) (fi:=[]) (ca:=[.rop [.map (some bo)],.rop [.map (some bf)],.ptr cm 0]) (fun (a:Lv×Bool) S'=>LvI s (q0n s) (q2c s) S bo bf cm a S') (fun a i k t r=>(0,q15 (q0n s) (i,k) (q1c s t.name r) a)) hs
   (fun i k t r a S' ht hr hI=>q9c (by omega) (by omega) d1 m1 m2 hbf hcm ht hr (y8d hN (hN t (lB ht) r (lB hr))) hI) (lv,false) _ hI2
  have e2:q2w (fun (a:Lv×Bool) i k t r=>((0:Int),q15 (q0n s) (i,k) (q1c s t.name r) a)) 0 s (lv,false)=(none,q18 (q0n s) (q2c s) (lv,false)):=by
   rw [q8e (s:=s) (g:=fun w a=>q15 (q0n s) w.1 w.2 a) (fun a i k t r=>rfl)]
   exact congrArg (Prod.mk none) y12
  rw [e2] at h2;refine q0k h2 ?_;rintro _ S4 ⟨rfl,hI3⟩;obtain ⟨k1,k2,k3,k4,k5,k6⟩:=q33 (N:=q0n s) (a:=(lv,false)) (q4w s) hI2.shp hI2.bdd;generalize hR:q18 (q0n s) (q2c s) (lv,false)=R at hI3 k1 k2 k3 k4 k5 k6;obtain ⟨lv2,mo2⟩:=R;dsimp only at hI3 k1 k2 k3 k4 k5 k6;(try simp only [rwp,hwR,zA,zB,zC,zD,zE,zF,zG,zH,zI,q08 hI3.more]);intro dm hdm;have hdm':=Sub.none hI3.sub hdm;have n1:dm≠bo:=fun e=>hI3.on.k.is (e ▸ hdm)
  have n2:dm≠bf:=fun e=>by
   obtain ⟨o,ho1,-⟩:=hI3.of;exact ho1.is (e ▸ hdm)
  (try simp only [rwp,hwR,zA,zB,zC,zD,zE,zF,zG,zH,zI]);have hi:=fun F=>show q51 (q0n s) (q2c s) (F+1) lv=if mo2=true then q51 (q0n s) (q2c s) F lv2 else lv2 by rw [q51,hR]
  have hp1:=hphi0 lv hI.shp;have hp2:=hphi0 lv2 k1;refine q09 rfl (hq (dm,lv2,mo2) _ ⟨hdm',n1,n2,?_,fun h F hF2=>?_,fun h=>?_⟩ ?_)
  ·obtain ⟨o,ho1,ho2⟩:=hI3.of;exact ⟨hI3.sub.supd hdm',hI3.on.fresh hdm _,⟨o,ho1.fresh hdm _,ho2⟩,q0f,k1,k2⟩
  ·dsimp only at h hF2 ⊢;subst h;have:=k5 rfl rfl;have h3:=hy rfl (q0n s * (q0n s+1)+1+1) (by omega)
   rw [hi,if_pos rfl] at h3;exact (q87 (q4w s) k1 k2 hF2 (by omega)).trans h3
  ·dsimp only at h ⊢;subst h;have h3:=hy rfl (q0n s * (q0n s+1)+1+1) (by omega)
   rw [hi,if_neg (by simp)] at h3
   exact h3
  ·dsimp only;cases mo2 with
   | false=>simp only [Bool.toNat_false,Bool.toNat_true];omega
   | true=>have:=k5 rfl rfl;omega
set_option maxRecDepth 4000
theorem x7m {QF:AEnd->q00->Prop} {S:q00} (n:Nat) (hn:n<=16):xbf QF (.int .u64 1) (.int .u64 n) S=rtW [.tmp (.int .u64 0),.tmp (.int .u64 n)] QF S:=by
 rcases n with _|_|_|_|_|_|_|_|_|_|_|_|_|_|_|_|_|n
 all_goals first | omega | kernel_rfl
theorem yhu (n:Nat) (hn:n<=16):AFun PG ytl [.int .u64 1,.int .u64 n] (.tup [.int .u64 0,.int .u64 n]):=by
 intro S;refine xf7 ?_;unfold xca;(try simp only [rwp,hwR,zA,zB,zC,zD,zE,zF,zG,zH,zI]);refine q06 (v:=.tup [.int .u64 0,.int .u64 n]) (fun S=>xec (by rw [x7m n hn];exact q3n ⟨rfl,rfl⟩)) ?_
 (try simp only [rwp,hwR,zA,zB,zC,zD,zE,zF,zG,zH,zI]);exact q3n ⟨rfl,rfl⟩
theorem ywy {n:Nat} (h:n<=16):IntKind.u64.wrap (n:Int)=(n:Int):=by
 rcases n with _|_|_|_|_|_|_|_|_|_|_|_|_|_|_|_|_|n
 all_goals first | omega | decide
theorem q8c {z:AV}:∀ {m n off:Nat},off+m<=n->q1i (lG n z) off (lG m z)=lG n z
 | 0,n,off,h=>rfl
 | m+1,n,off,h=>by
  rw [List.replicate_succ,q1i];have:(lG n z).set off z=lG n z:=by
   apply List.ext_getElem?
   intro i;rw [lT];by_cases hi:off=i
   ·subst hi;rw [if_pos rfl,if_pos (by simp;omega),List.getElem?_replicate,if_pos (by omega)]
   ·rw [if_neg hi]
  rw [this];exact q8c (by omega)
theorem y21 {n:Nat} (hn:n<=16) (S:q00):ACalls PG yuf [.sl 1 [[.int .i64 0]],.int .i64 n] S fun ae S'=>∃ b,ae=.ret (.own b 0 n n)/\y01 S b=none/\S'=supd S b (.cells 3 (lG n (.int .i64 0)) n):=by
 refine xg8 ?_;unfold xdb;(try simp only [rwp,hwR,zA,zB,zC,zD,zE,zF,zG,zH,zI,show decide ((n:Int)<0)=false from decide_eq_false (by omega),ywl])
 rw [ywy hn,show IntKind.u64.wrap (((1:Nat):Int))=1 from by decide]
 refine q06 (yhu n hn) ?_;have h1:decide ((9223372036854775807:Int)<(n:Int))=false:=decide_eq_false (by omega)
 (try simp only [rwp,hwR,zA,zB,zC,zD,zE,zF,zG,zH,zI,show decide ((0:Int)<0)=false from rfl,h1,yo4,ywk])
 rw [q05 (by omega) (by omega)]
 refine ⟨n,rfl,rfl,by omega,fun b hb=>?_⟩
 refine ⟨b,0,n,n,3,lG n (.int .i64 0),n,1,[.int .i64 0],rfl,by rw [q01,if_pos rfl],rfl,by simp;omega,?_,?_⟩
 ·rcases n with _ | n
  ·rfl
  ·simp [y06,one,Nat.min_eq_left]
 have e1:List.take (min 1 n * 1) [AV.int .i64 0]=lG (min 1 n) (.int .i64 0):=by
  rcases n with _ | n
  ·rfl
  ·simp [Nat.min_eq_left]
 rw [e1,q8c (by omega),q0q]
 refine LoopP.introS (fun k:Nat=>[(7,.own b 0 n n),(8,.int .i64 k)]) (fun k S'=>S'=supd S b (.cells 3 (lG n (.int .i64 0)) n)/\k<=n/\(n≠0->1<=k)) (fun k=>n-k) (min 1 n) ⟨rfl,by omega,by omega⟩ rfl ?_
 rintro k _ ⟨rfl,hk,hk1⟩ r hr;(try simp only [rwp,hwR,zA,zB,zC,zD,zE,zF,zG,zH,zI,ywj])
 (refine q02 (fun hlt=>?_) (fun hlt=>?_)<;>(try simp only [hlc] at hlt))
 ·have hk0:=hk1 (by omega)
  refine ⟨by omega,by omega,by omega,by omega,?_⟩
  have hne:¬ n=k:=by omega
  simp only [if_neg hne,Nat.mul_one,Nat.sub_zero,if_neg (show ¬ n=0 by omega)]
  refine ⟨b,k,n-k,n-k,3,lG n (.int .i64 0),n,k,lG k (.int .i64 0),rfl,by rw [q01,if_pos rfl],?_,by simp;omega,?_,?_⟩
  ·simp only [y9h];rw [q01,if_pos rfl];simp [List.take_replicate,Nat.min_eq_left hk];omega
  ·have:∀ m,y06 (lG m (AV.int .i64 0))=true:=by
    intro m
    induction m with
    | zero=>rfl
    | succ m ih=>rw [List.replicate_succ];simp [y06,one,ih]
   rw [List.take_replicate];exact this _
  ·rw [List.take_replicate,q8c (by omega),q0q]
   (try simp only [rwp,hwR,zA,zB,zC,zD,zE,zF,zG,zH,zI]);rw [show (k:Int)+((min k (n-k):Nat):Int)=((k+min k (n-k):Nat):Int) from by omega,q05 (by omega) (by omega)]
   exact q09 rfl (hr (k+min k (n-k)) _ ⟨rfl,by omega,by omega⟩ (by omega))
 ·exact q04 ⟨b,rfl,hb,rfl⟩
def q1r (bs:List Nat) (lv:Lv):List (List AV):=List.zipWith (fun b (l:List Nat)=>[AV.own b 0 l.length l.length]) bs lv
structure LvO (S0 S:q00) (v:AV) (bs:List Nat) (lv:Lv):Prop where
 sub:Sub S0 S
 len:bs.length=lv.length
 lst:LstN S0 S 174 1 v (q1r bs lv)
 inn:∀ (i b:Nat) (l:List Nat),bs[i]?=some b->lv[i]?=some l->q0m S b=some (3,l.map iv,l.length)/\y01 S0 b=none/\q0u v b
 nod:bs.Nodup
def lvC (lv:Lv):List (List AV):=lv.map fun l=>[.sl 1 (l.map fun x=>[iv x])]
theorem yq5 {l:List Nat}:(l.map fun x=>[iv x]).flatten=l.map iv:=by
 induction l with
 | nil=>rfl
 | cons x l ih=>simp [ih]
theorem q5n {bs:List Nat} {lv:Lv} {i:Nat}:(q1r bs lv)[i]?=match bs[i]?,lv[i]? with
  | some b,some l=>some [.own b 0 l.length l.length]
  | _,_=>none:=by
 unfold q1r;rw [List.getElem?_zipWith];cases bs[i]?<;>cases lv[i]?<;>rfl
theorem ShV.lv {S0 S:q00} {v:AV} {bs:List Nat} {lv:Lv} (h:LvO S0 S v bs lv):ShV v S (.sl 1 (lvC lv)) S0:=by
 obtain ⟨hs,hlen,⟨hr,hl⟩,hin,hnd⟩:=h;have hrl:(q1r bs lv).length=lv.length:=by simp [q1r,hlen]
 rcases hl with ⟨rfl,h0⟩ | ⟨b,cap,rfl,h1,h2,h3,h4,h5⟩
 ·intro R w u hS hv;have:lv=[]:=by
   rw [h0] at hrl;exact List.length_eq_zero_iff.1 hrl.symm
  subst this;refine ⟨R,hS.sub hs,?_,(Step.refl _ _ _).sub hs⟩;cases hv;exact .sl0 _ _ _
 ·intro R w u hS hv;have hs1:=hS.sub hs
  let R':Nat->Prop:=fun k=>R k\/k=b\/k∈bs
  have hRR:∀ k,R k->R' k:=fun k h=>.inl h
  have hbn:∀ k∈bs,y01 S0 k=none/\k<w.heap.size:=fun k hk=>by
   obtain ⟨i,hi⟩:=lL hk;have hi2:=(List.getElem?_eq_some_iff.1 hi).1;obtain ⟨o1,o2,o3⟩:=hin i k lv[i] hi (lE (by omega))
   exact ⟨o2,hS.lt (objAt_some.1 o1)⟩
  refine ⟨R',⟨fun c o hc=>?_,fun c hc=>?_⟩,?_,⟨Nat.le_refl _,rfl,rfl,rfl,fun k _ hk=>⟨rfl,Sub.none hs hk⟩,hRR,fun k hk=>?_⟩⟩
  ·obtain ⟨y,k1,k2⟩:=hs1.own c o hc;exact ⟨y,k1,k2.step hRR (fun k hk=>rfl)⟩
  ·rcases hc with hc | rfl | hc
   ·exact hs1.ro c hc
   ·exact ⟨h1,hS.lt h2⟩
   ·exact hbn c hc
  ·cases hv
   obtain ⟨x,hx,hro⟩:=hS.own b _ h2;obtain ⟨vs,hvs,hcell⟩:=ybt hx hro;have hfl:=q1t hr;rw [hrl] at *;refine .sl 1 (lvC lv) ⟨b,0,none⟩ lv.length cap (fun i j=>vs.getD (i * 1+j) undef) (by simp [lvC]) h3 (.inr (.inl rfl)) (fun i cs h=>?_) (fun i j hi hj=>?_) (fun i j cs u h1' h2'=>?_)
   ·simp only [lvC,lC] at h;cases hli:lv[i]? with
    | none=>rw [hli] at h;cases h
    | some l=>rw [hli] at h;cases h;rfl
   ·rw [q46,Nat.zero_add];exact hcell _ (by rw [hfl];omega)
   ·simp only [lvC,lC] at h1';cases hli:lv[i]? with
    | none=>rw [hli] at h1';cases h1'
    | some l=>
     rw [hli] at h1';cases h1';have hil:=(List.getElem?_eq_some_iff.1 hli).1;have hbi:bs[i]?=some bs[i]:=lE (by omega)
     cases j with
     | succ j=>simp at h2'
     | zero=>
      simp at h2';subst h2';obtain ⟨o1,o2,o3⟩:=hin i _ l hbi hli;have hrow:(q1r bs lv)[i]?=some [.own bs[i] 0 l.length l.length]:=by rw [q5n,hbi,hli]
      have hval:=hvs.2 (i * 1+0) (.own bs[i] 0 l.length l.length) (q77 hr hrow rfl);refine yj5 (rows:=l.map fun x=>[iv x]) (cap:=l.length) (t:=3) hS ?_ (fun r hr=>?_) (by simp) hRR (.inr (.inr (lB hbi))) (by simpa using hval)
      ·rw [yq5,Nat.mul_one];exact objAt_some.1 o1
      ·obtain ⟨x,-,rfl⟩:=List.mem_map.1 hr;rfl
  ·rcases hk with hk | rfl | hk
   ·exact .inl hk
   ·exact .inr (.inl (by rw [h2];simp))
   ·obtain ⟨i,hi⟩:=lL hk;have hi2:=(List.getElem?_eq_some_iff.1 hi).1;obtain ⟨o1,-,-⟩:=hin i k lv[i] hi (lE (by omega))
    exact .inr (.inl (q73 o1))
theorem y44 {α:Type} {f:α->Nat->Rl->Int×α} {g:Nat->Rl->Int} (hg:∀ a k r,(f a k r).1=g k r):∀ {l:List Rl} {k:Nat} {a:α},(q2x f k l a).1=none->∀ (m:Nat) (r:Rl),l[m]?=some r->g (k+m) r=0
 | [],k,a,h,m,r,hr=>by simp at hr
 | x :: l,k,a,h,m,r,hr=>by
  unfold q2x at h;split at h
  ·rename_i h0
   rw [hg] at h0;cases m with
   | zero=>simp at hr;subst hr;exact h0
   | succ m=>
    simp at hr;have:=y44 hg h m r hr;rw [show k+(m+1)=k+1+m by omega]
    exact this
  ·cases h
theorem y42 {α:Type} {f:α->Nat->Nat->Ty->Rl->Int×α} {g:Nat->Nat->Ty->Rl->Int} (hg:∀ a i k t r,(f a i k t r).1=g i k t r):∀ {l:List Ty} {i:Nat} {a:α},(q2w f i l a).1=none->∀ (m:Nat) (t:Ty) (k:Nat) (r:Rl),l[m]?=some t->t.rels[k]?=some r->g (i+m) k t r=0
 | [],i,a,h,m,t,k,r,ht,_=>by simp at ht
 | x :: l,i,a,h,m,t,k,r,ht,hr=>by
  unfold q2w at h;split at h
  ·cases h
  ·rename_i a' hq
   cases m with
   | zero=>
    simp at ht;subst ht;have:=y44 (g:=fun k r=>g i k x r) (fun a k r=>hg a i k x r) (k:=0) (a:=a) (by rw [hq]) k r hr
    simpa using this
   | succ m=>
    simp at ht;have:=y42 hg h m t k r ht hr;rw [show i+(m+1)=i+1+m by omega]
    exact this
theorem q8f {s:List Ty} {f:Nat->Nat->Ty->Rl->Int} (h:q2y s f=none) {i k:Nat} {t:Ty} {r:Rl} (ht:s[i]?=some t) (hr:t.rels[k]?=some r):f i k t r=0:=by
 have:=y42 (f:=fun (_:Unit) i k t r=>(f i k t r,())) (g:=f) (fun _ _ _ _ _=>rfl) h i t k r ht hr
 simpa using this
structure GoodS (s:List Ty):Prop where
 some:s.length≠0
 may:scB s=true
 size:szF s=flA 0 0 0
 once:∀ {i k:Nat} {t:Ty} {r:Rl},s[i]?=.some t->t.rels[k]?=.some r->fiN s t.name r.name=(i,k)
 name:∀ {i k:Nat} {t:Ty} {r:Rl},s[i]?=.some t->t.rels[k]?=.some r->q1q s t.name r=0
theorem q1w {a b c:Int}:y0a (flA a b c)=c:=rfl
theorem yrz {s:List Ty} (h:y0a (szF s)=0):szF s=flA 0 0 0/\s.length<=16/\(∀ t∈s,t.rels.length<=16)/\y8s [] s=none:=by
 unfold szF at h ⊢;split at h
 ·rw [q1w] at h;omega
 ·rename_i h1
  rw [if_neg h1];split at h
  ·rw [q1w] at h;omega
  ·rename_i h2
   split at h
   ·rw [q1w] at h;omega
   ·rename_i h3
    refine ⟨rfl,by omega,fun t ht=>?_,by first | rfl | assumption⟩
    obtain ⟨i,hi⟩:=lL ht;have:=firstI_none.1 h2 i t hi;simp only [decide_eq_false_iff_not] at this;omega
theorem q81 {s:List Ty} (h:y0a (q2n s)=0):GoodS s:=by
 unfold q2n at h;split at h
 ·rw [q1w] at h;omega
 ·rename_i h1
  split at h
  ·rename_i h2;exact absurd h h2
  ·rename_i h2
   have h2:y0a (szF s)=0:=by omega
   split at h
   ·rename_i i k e hq
    have:=q7c hq;rw [q1w] at h;exact absurd h this
   ·rename_i hq
    have hn:q2y s (fun _ _ t r=>q1q s t.name r)=none:=by
     cases hq2:q2y s (fun _ _ t r=>q1q s t.name r) with
     | none=>rfl
     | some q=>
      obtain ⟨i,k,e⟩:=q;have:=q7c hq2;rw [hq2] at h;exact absurd h this
    refine ⟨fun h=>h1 (.inl h),?_,(yrz h2).1,fun ht hr=>?_,fun ht hr=>q8f hn ht hr⟩
    ·cases hb:scB s with
     | true=>rfl
     | false=>exact absurd (.inr hb) h1
    ·have:=q8f hq ht hr;unfold q4l at this;split at this
     ·assumption
     ·omega
theorem y1r {f:Ex->Int}:∀ {l:List (Ex×Bool)},q3h f l=0->∀ p∈l,f p.1=0
 | [],h,p,hp=>by cases hp
 | (e,o) :: r,h,p,hp=>by
  unfold q3h at h;split at h
  ·rename_i h0
   rcases List.mem_cons.1 hp with rfl | hp
   ·exact h0
   ·exact y1r h p hp
  ·rename_i h0;exact absurd h h0
theorem GoodS.found {s:List Ty} (h:GoodS s):yms s:=by
 intro t ht r hr h0 p hp;obtain ⟨i,hi⟩:=lL ht;obtain ⟨k,hk⟩:=lL hr;have:=h.name hi hk;unfold q1q at this;split at this
 ·try rw [if_pos h0] at this
  have h2:=y1r this p hp;unfold q4t at h2;split at h2
  ·omega
  ·rename_i q hq;rw [hq];rfl
 ·omega
theorem GoodS.sizes {s:List Ty} (h:GoodS s):s.length<=16/\(∀ t∈s,t.rels.length<=16)/\y8s [] s=none:=(yrz (by rw [h.size];rfl)).2
theorem ydq {s:List Ty} (h1:s.length<=16) (h2:∀ t∈s,t.rels.length<=16):q0n s<=256:=by
 have key:∀ l:List Ty,(∀ t∈l,t.rels.length<=16)->q0n l<=l.length * 16:=by
  intro l
  induction l with
  | nil=>intro _;simp [q0n]
  | cons t l ih=>
   intro h;have:=ih fun u hu=>h u (lM _ hu)
   have:=h t (by simp)
   simp only [q0n,List.map_cons,List.sum_cons,lD] at *;omega
 have:=key s h2;omega
theorem GoodS.many {s:List Ty} (h:GoodS s):q0n s<=256:=ydq h.sizes.1 h.sizes.2.1
def y65 (s:List Ty) (i k:Nat) (_:Ty) (_:Rl):Int:=if q0n s<y02 (y05 s) (i,k) then 11 else 0
def y08 (s:List Ty):AV:=if y0a (q2n s)≠0 then q2n s else flO (q2y s (y65 s))
theorem y17 (s:List Ty):∃ t r e,q2n s=flA t r e:=by
 unfold q2n;split
 ·exact ⟨_,_,_,rfl⟩
 ·split
  ·exact ys0 s
  ·split
   ·exact ⟨_,_,_,rfl⟩
   ·cases q2y s (fun _ _ t r=>q1q s t.name r) with
    | none=>exact ⟨_,_,_,rfl⟩
    | some q=>exact ⟨_,_,_,rfl⟩
theorem y26 {s:List Ty} {S:q00} {bf:Nat} {o:Nat×Nat->Option AV} (h1:KMap MN q1m S bf o) (h2:∀ p,q23 false (.int .i64 0) (o p)=.int .i64 (y02 (y05 s) p)) {i k:Nat} {t:Ty} {r:Rl} :
  AFunS PG yyf [q1m (i,k),.agg (tyC t),.agg (rlC r),.rop [.map (.some bf)],.rop [.int .i64 (q0n s)]] S (.int .i64 (y65 s i k t r)):=by
 refine xkg ?_;unfold xiy;(try simp only [rwp,hwR,zA,zB,zC,zD,zE,zF,zG,zH,zI,q1m,tyC,q0o]);rw [h1.lkn,h2];(try simp only [rwp,hwR,zA,zB,zC,zD,zE,zF,zG,zH,zI])
 (refine q02 (fun h=>?_) (fun h=>?_)<;>(try simp only [hlc] at h))
 ·exact q04 ⟨by rw [y65,if_pos (by omega)],rfl⟩
 ·exact q04 ⟨by rw [y65,if_neg (by omega)],rfl⟩
theorem y6f {s:List Ty} (hs:OkS s) (hN:OkN s):AFun PG x73 [scA s] (y08 s):=by
 intro S;refine xlf ?_;unfold xjw;(try simp only [rwp,hwR,zA,zB,zC,zD,zE,zF,zG,zH,zI,scA]);intro b hb;(try simp only [rwp,hwR,zA,zB,zC,zD,zE,zF,zG,zH,zI]);refine q0k (q3u hs _) ?_;rintro _ S1 ⟨b1,b2,rfl,I,hsub⟩;have hsb:=objAt_some.2 (hsub b _ (by rw [q01,if_pos rfl]))
 have hS1:Sub S S1:=(Sub.fresh _ hb).trans hsub;dsimp only;refine q13 (y6c hs hN I) ?_;obtain ⟨ft,fr,fe,hp⟩:=y17 s;rw [hp];(try simp only [rwp,hwR,zA,zB,zC,zD,zE,zF,zG,zH,zI,flA])
 (refine q02 (fun h0=>?_) (fun h0=>?_)<;>(try simp only [hlc] at h0))
 ·(try simp only [rwp,hwR,zA,zB,zC,zD,zE,zF,zG,zH,zI,hsb]);refine q1d S (hS1.supd hb) ?_;(try simp only [rwp,hwR,zA,zB,zC,zD,zE,zF,zG,zH,zI]);rw [y08,hp,q1w,if_pos h0];rfl
 ·have hgood:GoodS s:=q81 (by rw [hp,q1w];omega)
  refine q0k (q64 hs hN hgood.found hgood.many I) ?_;rintro _ S2 ⟨bf,o,rfl,hm,ho,hsub2⟩;(try simp only [rwp,hwR,zA,zB,zC,zD,zE,zF,zG,zH,zI]);refine x9m rfl rfl rfl rfl rfl rfl ?_;(try simp only [rwp,hwR,zA,zB,zC,zD,zE,zF,zG,zH,zI]);have h1:=q4h (b1:=b1) (b2:=b2) (g:=yyf) (fi:=[]) (ca:=[.rop [.map (.some bf)],.rop [.int .i64 (q0n s)]]) (f:=y65 s) hs (S:=S2) fun i k t r ht hr=>y26 hm ho
  refine q13 h1 ?_;have hsb2:=objAt_some.2 (hsub2 b _ (objAt_some.1 hsb));have fin:∀ x y z:Int,flO (q2y s (y65 s))=flA x y z->rtW [.cell (.ptr b 0) 3 true] (fun ae S'=>ae=.ret (y08 s)/\S'=S) (supd S2 b (.cells 88 [.int .i64 x,.int .i64 y,.int .i64 z] 3)):=by
   intro x y z h;refine q1d S ((hS1.trans hsub2).supd hb) ?_;(try simp only [rwp,hwR,zA,zB,zC,zD,zE,zF,zG,zH,zI]);rw [y08,hp,q1w,if_neg (by omega),h];rfl
  cases hq:q2y s (y65 s) with
  | none=>
   rw [hq] at fin;(try simp only [rwp,hwR,zA,zB,zC,zD,zE,zF,zG,zH,zI,flO,flA,hsb2]);exact fin _ _ _ rfl
  | some q=>
   obtain ⟨i,k,e⟩:=q;rw [hq] at fin;(try simp only [rwp,hwR,zA,zB,zC,zD,zE,zF,zG,zH,zI,flO,flA,hsb2]);exact fin _ _ _ rfl
set_option maxRecDepth 4000
theorem ShV.two {v v':AV} {S S':q00} (h:ShV v S v' S') (b:Bool):ShV (.tup [v,.bool b]) S (.tup [v',.bool b]) S':=by
 intro R w u hS hv;cases hv with
 | tup _ vs hl h2=>
  obtain ⟨R',h1,h3,h4⟩:=h R w _ hS (h2 0 v rfl);refine ⟨R',h1,.tup _ _ hl fun i u hi=>?_,h4⟩
  match i,hi with
  | 0,hi=>simp at hi;subst hi;exact h3
  | 1,hi=>simp at hi;subst hi;exact (h2 1 _ rfl).step h4.mono fun _ _=>rfl
theorem y58 {lv:Lv} {s:List Ty} (h:Shp lv s):lv.length=s.length:=by
 have:=congrArg List.length h;simpa using this
theorem q7x {lv:Lv} {s:List Ty} (h:Shp lv s) {i:Nat} {t:Ty} (ht:s[i]?=some t):∃ l,lv[i]?=some l/\l.length=t.rels.length:=by
 have h1:=congrArg (fun l=>l[i]?) h
 simp only [lC,ht,Option.map_some] at h1;cases hl:lv[i]? with
 | none=>rw [hl] at h1;cases h1
 | some l=>rw [hl] at h1;exact ⟨l,rfl,by simpa using h1⟩
theorem y1h {N:Nat} {s:List Ty} {w:List Rw} (hw:x2i s w):∀ {f:Nat} {lv:Lv},Shp lv s->Bdd N lv->Shp (q51 N w f lv) s/\Bdd N (q51 N w f lv)
 | 0,lv,h1,h2=>⟨h1,h2⟩
 | f+1,lv,h1,h2=>by
  obtain ⟨k1,k2,-⟩:=q33 (N:=N) (a:=(lv,false)) hw h1 h2;unfold q51;split
  ·exact y1h hw k1 k2
  ·exact ⟨k1,k2⟩
theorem q45 (s:List Ty):Shp (y05 s) s:=(y1h (q4w s) (q5i s) (q4k (N:=q0n s))).1
theorem yyv (s:List Ty):Bdd (q0n s) (y05 s):=(y1h (q4w s) (q5i s) q4k).2
theorem ylf {l:List Nat} {k n x:Nat} (hl:l[k]?=some x) (hn:l.length=n):q1i ((l.take k).map iv++lG (n-k) (.int .i64 0)) k [iv x]=(l.take (k+1)).map iv++lG (n-(k+1)) (.int .i64 0):=by
 have hk:=(List.getElem?_eq_some_iff.1 hl).1;have e1:((l.take k).map iv).length=k:=by simp;omega
 simp only [q1i];rw [List.set_append_right _ _ (by omega),e1,Nat.sub_self,q0t hl,lK,lW]
 congr 1
 obtain ⟨m,hm⟩:∃ m,n-k=m+1:=⟨n-k-1,by omega⟩
 rw [hm,show n-(k+1)=m by omega]
 rfl
theorem LvO.nil (S:q00) {S':q00} (h:Sub S S'):LvO S S' .nils [] []:=⟨h,rfl,LstN.nil,fun i b l h=>by simp at h,List.nodup_nil⟩
theorem LvO.fresh {S0 S:q00} {v:AV} {bs:List Nat} {lv:Lv} (h:LvO S0 S v bs lv) {c:Nat} (hc:y01 S c=none) (o:AObj):LvO S0 (supd S c o) v bs lv:=by
 obtain ⟨hs,hl,h1,h2,h3⟩:=h;refine ⟨hs.supd (Sub.none hs hc),hl,h1.upd (h1.fresh hc) o,fun i b l k1 k2=>?_,h3⟩
 obtain ⟨o1,o2,o3⟩:=h2 i b l k1 k2;refine ⟨?_,o2,o3⟩;rw [q0j (fun e=>by rw [objAt_some.1 (e ▸ o1)] at hc;cases hc)]
 exact o1
theorem q28 {s:List Ty} (h:y0a (y08 s)=0):GoodS s:=by
 unfold y08 at h;split at h
 ·rename_i h1;exact absurd h h1
 ·rename_i h1;exact q81 (by omega)
theorem ylv (s:List Ty):∃ t r e,y08 s=flA t r e:=by
 unfold y08;split
 ·exact y17 s
 ·cases q2y s (y65 s) with
  | none=>exact ⟨_,_,_,rfl⟩
  | some q=>exact ⟨_,_,_,rfl⟩
structure xid (S0 S:q00) (v:AV) (bs:List Nat) (lv:Lv) (b:Nat) (l:List Nat) (n k:Nat) (bf:Nat) (o:Nat×Nat->Option AV):Prop where
 sub:Sub S0 S
 lst:LstN S0 S 174 1 v (q1r bs lv++[[.own b 0 n n]])
 inn:∀ (i c:Nat) (l:List Nat),bs[i]?=some c->lv[i]?=some l->q0m S c=some (3,l.map iv,l.length)/\y01 S0 c=none/\q0u v c
 row:q0m S b=some (3,(l.take k).map iv++lG (n-k) (.int .i64 0),n)
 map:KMap MN q1m S bf o
theorem y1e {bs:List Nat} {lv:Lv} {b:Nat} {l:List Nat} (h:bs.length=lv.length):q1r (bs++[b]) (lv++[l])=q1r bs lv++[[.own b 0 l.length l.length]]:=by
 unfold q1r;rw [List.zipWith_append h];rfl
def ypr (s:List Ty):AV:=if y0a (y08 s)=0 then .tup [.sl 1 (lvC (y05 s)),.bool true] else .tup [.nils,.bool false]
theorem q65 {s:List Ty} (hs:OkS s) (hN:OkN s):AFun PG x6x [scA s] (ypr s):=by
 intro S;refine xl8 ?_;unfold xjq;(try simp only [rwp,hwR,zA,zB,zC,zD,zE,zF,zG,zH,zI,scA]);refine q06 (y6f hs hN) ?_;obtain ⟨ft,fr,fe,hp⟩:=ylv s;rw [hp];(try simp only [rwp,hwR,zA,zB,zC,zD,zE,zF,zG,zH,zI,flA])
 (refine q02 (fun h0=>?_) (fun h0=>?_)<;>(try simp only [hlc] at h0))
 ·refine q3n ⟨?_,rfl⟩;rw [ypr,hp,q1w,if_neg (by omega)]
 have hgood:GoodS s:=q28 (by rw [hp,q1w];omega)
 refine q0k (q3u hs _) ?_;rintro _ S1 ⟨b1,b2,rfl,I,hsub1⟩;dsimp only;refine q0k (q64 hs hN hgood.found hgood.many I) ?_;rintro _ S2 ⟨bf,o,rfl,hm,ho,hsub2⟩;have hsub:=hsub1.trans hsub2;(try simp only [rwp,hwR,zA,zB,zC,zD,zE,zF,zG,zH,zI]);have hlv:(y05 s).length=s.length:=y58 (q45 s);refine LoopP.introS (fun p:Nat×AV×List Nat=>[(5,.map (some bf)),(7,p.2.1),(23,.sl 2 (s.map tyC)),(24,.int .i64 s.length),(25,.int .i64 p.1)])
  (fun p S'=>p.1<=s.length/\LvO S S' p.2.1 p.2.2 ((y05 s).take p.1)/\KMap MN q1m S' bf o/\q0u p.2.1 bf) (fun p=>s.length-p.1) (0,.nils,[]) ⟨by omega,LvO.nil S hsub,hm,fun b off n cap h=>by cases h⟩ rfl ?_
 rintro ⟨i,v,bs⟩ S3 ⟨hi,hL,hM,hA⟩ q hq;dsimp only at hi hL hM hA;(try simp only [rwp,hwR,zA,zB,zC,zD,zE,zF,zG,zH,zI,xae]);have hsz:=hgood.sizes
 (refine q02 (fun hlt=>?_) (fun hlt=>?_)<;>(try simp only [hlc] at hlt))
 ·obtain ⟨t,ht⟩:=q0c hlt;have htn:=hsz.2.1 t (lB ht);obtain ⟨l,hl,hll⟩:=q7x (q45 s) ht;(try simp only [rwp,hwR,zA,zB,zC,zD,zE,zF,zG,zH,zI,ht]);refine yuz rfl ?_;(try simp only [rwp,hwR,zA,zB,zC,zD,zE,zF,zG,zH,zI,tyC]);refine q0k (y21 htn _) ?_;rintro _ S4 ⟨b,rfl,hb,rfl⟩;have hb0:=Sub.none hL.sub hb;have hL0:=hL;have hbbf:b≠bf:=fun e=>hM.is (e ▸ hb)
  have hL:=hL.fresh hb (.cells 3 (lG t.rels.length (.int .i64 0)) t.rels.length);have hM:=hM.fresh hb (.cells 3 (lG t.rels.length (.int .i64 0)) t.rels.length);have hbo:q0m (supd S3 b (.cells 3 (lG t.rels.length (.int .i64 0)) t.rels.length)) b=some (3,lG t.rels.length (.int .i64 0),t.rels.length):=q0f;have hba:q0u v b:=hL0.lst.fresh hb;have hbn:∀ (j c:Nat),bs[j]?=some c->c≠b:=by
   intro j c hj;have hj1:=(List.getElem?_eq_some_iff.1 hj).1;have hj2:j<((y05 s).take i).length:=by rw [<- hL0.len];exact hj1
   have:=objAt_some.1 (hL0.inn j c _ hj (lE hj2)).1;rintro rfl;rw [this] at hb;cases hb
  generalize supd S3 b (.cells 3 (lG t.rels.length (.int .i64 0)) t.rels.length)=S4 at hL hM hbo;(try simp only [rwp,hwR,zA,zB,zC,zD,zE,zF,zG,zH,zI]);have hlen:((y05 s).take i).length=i:=by simp;omega
  have hrl:(q1r bs ((y05 s).take i)).length=i:=by simp [q1r,hL.len,hlen]
  refine LstN.app (rows:=q1r bs ((y05 s).take i)) (xs:=[[.own b 0 t.rels.length t.rels.length]]) hL.sub hL.lst (by simp) rfl (by rw [hrl];simp;omega) ?_
  intro v' S5 hs5 hl5 keep;(try simp only [rwp,hwR,zA,zB,zC,zD,zE,zF,zG,zH,zI]);have hbS:y01 S4 b=some (.cells 3 (lG t.rels.length (.int .i64 0)) t.rels.length):=objAt_some.1 hbo;have hbv':q0u v' b:=(keep b _ hbS hba).2;refine LoopP.introS (fun k:Nat=>[(5,.map (some bf)),(7,v'),(8,.int .i64 i),(23,.sl 2 (s.map tyC)),(24,.int .i64 s.length),(25,.int .i64 i),(40,.int .i64 t.rels.length),(41,.int .i64 k)])
   (fun k S'=>k<=t.rels.length/\xid S S' v' bs ((y05 s).take i) b l t.rels.length k bf o) (fun k=>t.rels.length-k) 0 ⟨by omega,hs5,hl5,fun j c l' hj hl'=>?_,?_,?_⟩ rfl ?_
  ·obtain ⟨o1,o2,o3⟩:=hL.inn j c l' hj hl';obtain ⟨k1,k2⟩:=keep c _ (objAt_some.1 o1) o3;exact ⟨objAt_some.2 k1,o2,k2⟩
  ·rw [List.take_zero];exact objAt_some.2 (keep b _ hbS hba).1
  ·obtain ⟨es,clk,m1,m2,m3⟩:=hM;exact ⟨es,clk,mapObj_some.2 (keep bf _ (mapObj_some.1 m1) hA).1,m2,m3⟩
  have hAf:q0u v' bf:=by
   obtain ⟨es,clk,m1,m2,m3⟩:=hM;exact (keep bf _ (mapObj_some.1 m1) hA).2
  rintro k S6 ⟨hk,hF⟩ q2 hq2;(try simp only [rwp,hwR,zA,zB,zC,zD,zE,zF,zG,zH,zI,xad])
  (refine q02 (fun hlt2=>?_) (fun hlt2=>?_)<;>(try simp only [hlc] at hlt2))
  ·obtain ⟨x,hx⟩:=q0c (l:=l) (i:=k) (by omega)
   have hbx:=yyv s;have hv:y02 (y05 s) (i,k)=x:=by simp [y02,hl,hx]
   obtain ⟨hr0,h9 | ⟨bl,cap,rfl,g1,g2,g3,g4,g5⟩⟩:=hF.lst
   ·have:=h9.2;simp at this
   have hll6:(q1r bs ((y05 s).take i)++[[AV.own b 0 t.rels.length t.rels.length]]).length=i+1:=by simp [hrl]
   have hd:List.drop (i * 1) (q1r bs ((y05 s).take i)++[[AV.own b 0 t.rels.length t.rels.length]]).flatten=[AV.own b 0 t.rels.length t.rels.length]:=by
    rw [lX,List.drop_append_of_le_length (by rw [q1t (sz:=1) (fun r hr=>hr0 r (lY _ hr)),hrl];exact Nat.le_refl _),List.drop_of_length_le (by rw [q1t (sz:=1) (fun r hr=>hr0 r (lY _ hr)),hrl];exact Nat.le_refl _)]
    rfl
   (try simp only [rwp,hwR,zA,zB,zC,zD,zE,zF,zG,zH,zI,q08 (objAt_some.2 g2),hd]);rw [hF.map.lkn,ho,hv];(try simp only [rwp,hwR,zA,zB,zC,zD,zE,zF,zG,zH,zI,hF.row]);refine ⟨by omega,by omega,by simp;omega,?_⟩
   have hfr:=ylf hx hll;simp only [q1i,iv] at hfr;simp only [Nat.mul_one];rw [hfr]
   (simp (disch:=omega) only [q05])
   refine q09 rfl (hq2 (k+1) _ ⟨by omega,hF.sub.supd hb0,hF.lst.upd hbv' _,fun j c l' hj hl'=>?_,q0f,hF.map.upd hbbf _⟩ (by omega))
   obtain ⟨o1,o2,o3⟩:=hF.inn j c l' hj hl';exact ⟨by rw [q0j (Ne.symm (hbn j c hj))];exact o1,o2,o3⟩
  ·have:k=t.rels.length:=by omega
   subst this;have hrow:=hF.row;rw [lF (by omega),Nat.sub_self,List.replicate_zero,lU,<- hll] at hrow
   have hlst:=hF.lst;rw [<- hll,<- y1e hL0.len,<- q0t hl] at hlst
   (simp (disch:=omega) only [q05])
   refine q09 rfl (hq (i+1,v',bs++[b]) S6 ⟨by dsimp only;omega,⟨hF.sub,?_,hlst,fun j c l' hj hl'=>?_,?_⟩,hF.map,hAf⟩ (by dsimp only;omega))
   ·have:=hL0.len;simp only [lH,lD,lJ,lR] at this hlen ⊢;omega
   ·rw [q0t hl] at hl';by_cases hjb:j<bs.length
    ·rw [List.getElem?_append_left hjb] at hj;rw [List.getElem?_append_left (by rw [<- hL0.len];exact hjb)] at hl'
     exact hF.inn j c l' hj hl'
    ·rw [List.getElem?_append_right (by omega)] at hj
     rw [List.getElem?_append_right (by rw [<- hL0.len];omega),<- hL0.len] at hl'
     obtain ⟨m,hm⟩:∃ m,j-bs.length=m:=⟨_,rfl⟩;rw [hm] at hj hl';cases m with
     | succ m=>simp at hj
     | zero=>
      simp at hj hl';subst hj;subst hl';exact ⟨hrow,hb0,hbv'⟩
   ·refine List.nodup_append.2 ⟨hL0.nod,by simp,fun x hx y hy e=>?_⟩
    simp at hy;subst hy;obtain ⟨j,hj⟩:=lL hx;exact hbn j x hj e
 ·have hend:(y05 s).take i=y05 s:=lF (by omega)
  rw [hend] at hL;refine q9h (vs:=[v,.bool true]) rfl ((ShV.lv hL).two true) ⟨?_,rfl⟩;rw [ypr,hp,q1w,if_pos (by omega)]
set_option maxRecDepth 4000
theorem y3v {f:Ex->Int}:∀ {l r:List (Ex×Bool)},q3h f (l++r)=if q3h f l=0 then q3h f r else q3h f l
 | [],r=>rfl
 | (e,o) :: l,r=>by
  simp only [List.cons_append,q3h];by_cases h:f e=0
  ·simp only [h,if_true];exact y3v
  ·simp only [if_neg h]
theorem overF_nil {s:List Ty} {refs:List Rf} {n:ByteArray}:(q26 s refs n).length=0↔∀ f∈refs,¬ (f.rl=⟨#[]⟩/\(q0h s f.ty n).isSome=true):=by
 rw [List.length_eq_zero_iff];unfold q26;rw [List.filterMap_eq_nil_iff];refine forall_congr' fun f=>forall_congr' fun _=>?_
 by_cases h:f.rl=⟨#[]⟩
 ·simp only [h,if_true,true_and];cases q0h s f.ty n<;>simp
 ·simp [h]
theorem yjn {o:Option Nat}:decide (oi o<0)=o.isNone:=by
 cases o with
 | none=>rfl
 | some i=>exact decide_eq_false (by simp [oi])
theorem ys4 {o:Option Nat}:decide (0<=oi o)=o.isSome:=by
 cases o with
 | none=>rfl
 | some i=>exact decide_eq_true (by simp [oi])
theorem q29 {s:List Ty} (hs:OkS s) (t n:ByteArray):AFun PG yb3 [scA s,.int .i64 (oi (y04 s t)),.str n] (.int .i64 (oi ((q0h s t n).map fun q=>q.2.1))):=by
 rw [<- q78];exact q6k hs (y04 s t) (fun i h=>q4d h) n
theorem y91 {s:List Ty} (hs:OkS s) {t:ByteArray} {ti:Nat} (ht:y04 s t=some ti):∀ (e:Ex),OkE e->∀ out:Bool,AFun PG ysu [scA s,.int .i64 ti,.agg (exC e)] (.int .i64 (q3h (q4t s t) (q0g e out))):=by
 intro e he
 induction he with
 | mk k n o ks hk hn ho hks ih=>
  intro out S;have hrelT:∀ m:ByteArray,AFun PG yb3 [scA s,.int .i64 ti,.str m] (.int .i64 (oi ((q0h s t m).map fun q=>q.2.1))):=fun m=>by
   have:=q29 hs t m;rw [ht] at this;exact this
  refine xee ?_;unfold xbh;(try simp only [rwp,hwR,zA,zB,zC,zD,zE,zF,zG,zH,zI,q0e,Ex.kind,Ex.name,Ex.over,Ex.kids,scA]);refine LoopP.introS (fun i:Nat=>[(1,.int .i64 ti),(3,.rop [.sl 2 (s.map tyC)]),(5,.rop [.int .i64 k,.str n,.str o,.sl 4 (ks.map exC)]),(7,.int .i64 i)])
   (fun i S'=>S'=S/\i<=ks.length/\q3h (q4t s t) (q10 k i (ks.drop i) out)=q3h (q4t s t) (q10 k 0 ks out)) (fun i=>ks.length-i) 0 ⟨rfl,by omega,rfl⟩ rfl ?_
  rintro i S' ⟨rfl,hi,hf⟩ q hq;(try simp only [rwp,hwR,zA,zB,zC,zD,zE,zF,zG,zH,zI,yv9])
  (refine q02 (fun hlt=>?_) (fun hlt=>?_)<;>(try simp only [hlc] at hlt))
  ·obtain ⟨x,hx⟩:=q0c hlt;rw [q0i hx,q10,y3v] at hf;have hwhole:q0g (.mk k n o ks) out=q10 k 0 ks out:=by
    cases ks with
    | nil=>simp at hx
    | cons x r=>simp [q0g]
   (try simp only [rwp,hwR,zA,zB,zC,zD,zE,zF,zG,zH,zI,hx]);refine q06 (ih x (lB hx) (out||(decide (k=4)&&decide ((i:Int)=1)))) ?_;(try simp only [rwp,hwR,zA,zB,zC,zD,zE,zF,zG,zH,zI])
   (refine q02 (fun h0=>?_) (fun h0=>?_)<;>(try simp only [hlc] at h0))
   ·rw [if_neg h0] at hf;exact q04 ⟨by rw [hwhole,<- hf],rfl⟩
   ·rw [if_pos (by omega)] at hf
    (simp (disch:=omega) only [q05])
    exact q09 rfl (hq (i+1) _ ⟨rfl,by omega,hf⟩ (by omega))
  ·rw [q12 hlt] at hf
   (refine q02 (fun h0=>?_) (fun h0=>?_)<;>(try simp only [hlc] at h0))
   ·have hwhole:q0g (.mk k n o ks) out=q10 k 0 ks out:=by
     cases ks with
     | nil=>simp at h0
     | cons x r=>simp [q0g]
    exact q04 ⟨by rw [hwhole,<- hf];rfl,rfl⟩
   ·have hnil:ks=[]:=List.length_eq_zero_iff.1 (by omega)
    subst hnil;have hl:q3h (q4t s t) (q0g (.mk k n o []) out)=q4t s t (.mk k n o []):=by
     simp only [q0g,List.isEmpty_nil,if_true,q3h];split
     ·rename_i h;exact h.symm
     ·rfl
    rw [hl];refine q06 (hrelT n) ?_;(try simp only [rwp,hwR,zA,zB,zC,zD,zE,zF,zG,zH,zI,yjn]);cases hq2:q0h s t n with
    | none=>
     (try simp only [rwp,hwR,zA,zB,zC,zD,zE,zF,zG,zH,zI,Option.map_none,Option.isNone_none]);exact q04 ⟨by rw [q4t,Ex.name,hq2],rfl⟩
    | some w=>
     obtain ⟨a,b,r⟩:=w;obtain ⟨h1,ty,h2,h3,h4⟩:=q11 hq2;rw [ht] at h1;cases h1;have hok:=(hs.at h2).at h4;have key:q4t s t (.mk k n o [])=if k=0 then 0 else if r.refs.length=0 then 10 else if (q26 s r.refs o).length=0 then 6 else 0:=by rw [q4t,Ex.name,hq2];rfl
     rw [key];(try simp only [rwp,hwR,zA,zB,zC,zD,zE,zF,zG,zH,zI,Option.map_some,Option.isNone_some,oi])
     (refine q02 (fun hk0=>?_) (fun hk0=>?_)<;>(try simp only [hlc] at hk0))
     ·exact q04 ⟨by rw [if_pos hk0],rfl⟩
     rw [if_neg hk0];(try simp only [rwp,hwR,zA,zB,zC,zD,zE,zF,zG,zH,zI,h2,h4,tyC,q0o])
     (refine q02 (fun hr0=>?_) (fun hr0=>?_)<;>(try simp only [hlc] at hr0))
     ·exact q04 ⟨by rw [if_pos (by omega)],rfl⟩
     rw [if_neg (by omega)]
     have hrf:=hok.refs;refine LoopP.introS (fun j:Nat=>[(3,.rop [.sl 2 (s.map tyC)]),(5,.rop [.int .i64 k,.str n,.str o,.sl 4 []]),(10,.sl 2 (r.refs.map rfC)),(11,.int .i64 j)])
      (fun j S2=>S2=S'/\j<=r.refs.length/\∀ m f,m<j->r.refs[m]?=some f->¬ (f.rl=⟨#[]⟩/\(q0h s f.ty o).isSome=true)) (fun j=>r.refs.length-j) 0 ⟨rfl,by omega,by omega⟩ rfl ?_
     rintro j S2 ⟨rfl,hj,hn2⟩ q2 hq3;(try simp only [rwp,hwR,zA,zB,zC,zD,zE,zF,zG,zH,zI,yv8])
     (refine q02 (fun hlt2=>?_) (fun hlt2=>?_)<;>(try simp only [hlc] at hlt2))
     ·obtain ⟨f,hfj⟩:=q0c hlt2;(try simp only [rwp,hwR,zA,zB,zC,zD,zE,zF,zG,zH,zI,hfj,rfC]);refine q06 (q34 hs f.ty) ?_;(try simp only [rwp,hwR,zA,zB,zC,zD,zE,zF,zG,zH,zI]);refine q06 (q29 hs f.ty o) ?_;(try simp only [rwp,hwR,zA,zB,zC,zD,zE,zF,zG,zH,zI,hfj,rfC,ys4]);have next:¬ (f.rl=⟨#[]⟩/\(q0h s f.ty o).isSome=true)->q2 [(3,.rop [.sl 2 (s.map tyC)]),(5,.rop [.int .i64 k,.str n,.str o,.sl 4 []]),(10,.sl 2 (r.refs.map rfC)),(11,.int .i64 ((j:Int)+1))] S2:=fun h=>by
       refine hq3 (j+1) S2 ⟨rfl,by omega,fun m u hm hu=>?_⟩ (by omega)
       rcases Nat.lt_succ_iff_lt_or_eq.1 hm with h1 | rfl
       ·exact hn2 m u h1 hu
       ·rw [hfj] at hu;cases hu;exact h
      (refine q02 (fun hcb=>?_) (fun hcb=>?_)<;>(try simp only [hlc] at hcb))
      ·have hh:f.rl=⟨#[]⟩/\(q0h s f.ty o).isSome=true:=by simpa using hcb
       have h0:¬ (q26 s r.refs o).length=0:=fun h=>overF_nil.1 h f (lB hfj) hh
       exact q04 ⟨by rw [if_neg h0],rfl⟩
      ·(simp (disch:=omega) only [q05])
       exact q09 rfl (next fun hh=>by simp [hh.1,hh.2] at hcb)
     ·have h0:(q26 s r.refs o).length=0:=overF_nil.2 fun f hf=>by
       obtain ⟨m,hm⟩:=lL hf;exact hn2 m f (by have:=(List.getElem?_eq_some_iff.1 hm).1;omega) hm
      exact q04 ⟨by rw [if_pos h0],rfl⟩
theorem yp1 {s:List Ty} (f:Rf):q39 s f=!(decide (oi (y04 s f.ty)<0)||(!decide (f.rl=⟨#[]⟩)&&decide (oi ((q0h s f.ty f.rl).map fun q=>q.2.1)<0))):=by
 rw [yjn,yjn,q39];cases y04 s f.ty<;>cases q0h s f.ty f.rl<;>cases decide (f.rl=⟨#[]⟩)<;>rfl
theorem y6i {s:List Ty} (hs:OkS s) {t:ByteArray} {ti:Nat} (ht:y04 s t=some ti) {r:Rl} (hr:OkR r):AFun PG ytn [scA s,.int .i64 ti,.agg (rlC r)] (.int .i64 (q1q s t r)):=by
 intro S;have hb:=hr.refs;refine xf9 ?_;unfold xcc;(try simp only [rwp,hwR,zA,zB,zC,zD,zE,zF,zG,zH,zI,q0o,scA])
 (refine q02 (fun h0=>?_) (fun h0=>?_)<;>(try simp only [hlc] at h0))
 ·refine q06 (by simpa only [scA,q0e] using y91 hs ht r.ex hr.ex false) ?_
  have hnil:r.refs=[]:=List.length_eq_zero_iff.1 (by omega)
  exact q04 ⟨by rw [q1q,hnil];rfl,rfl⟩
 refine LoopP.introS (fun j:Nat=>[(3,.rop [.sl 2 (s.map tyC)]),(5,.rop [.str r.name,.sl 2 (r.refs.map rfC),.int .i64 r.ex.kind,.str r.ex.name,.str r.ex.over,.sl 4 (r.ex.kids.map exC)]),(7,.int .i64 j)])
  (fun j S2=>S2=S/\j<=r.refs.length/\∀ m f,m<j->r.refs[m]?=some f->q39 s f=true) (fun j=>r.refs.length-j) 0 ⟨rfl,by omega,by omega⟩ rfl ?_
 rintro j S2 ⟨rfl,hj,hn⟩ q hq;(try simp only [rwp,hwR,zA,zB,zC,zD,zE,zF,zG,zH,zI,yvx])
 (refine q02 (fun hlt=>?_) (fun hlt=>?_)<;>(try simp only [hlc] at hlt))
 ·obtain ⟨f,hf⟩:=q0c hlt;(try simp only [rwp,hwR,zA,zB,zC,zD,zE,zF,zG,zH,zI,hf,rfC]);refine q06 (q34 hs f.ty) ?_;(try simp only [rwp,hwR,zA,zB,zC,zD,zE,zF,zG,zH,zI,hf,rfC]);refine q06 (q29 hs f.ty f.rl) ?_;have ea:=yp1 (s:=s) f;have next:q39 s f=true->q [(3,.rop [.sl 2 (s.map tyC)]),(5,.rop [.str r.name,.sl 2 (r.refs.map rfC),.int .i64 r.ex.kind,.str r.ex.name,.str r.ex.over,.sl 4 (r.ex.kids.map exC)]),(7,.int .i64 ((j:Int)+1))] S2:=fun h=>by
   refine hq (j+1) S2 ⟨rfl,by omega,fun m u hm hu=>?_⟩ (by omega)
   rcases Nat.lt_succ_iff_lt_or_eq.1 hm with h1 | rfl
   ·exact hn m u h1 hu
   ·rw [hf] at hu;cases hu;exact h
  have bad:q39 s f=false->q1q s t r=6:=fun h=>by rw [q1q,q3d hf h];rfl
  (try simp only [rwp,hwR,zA,zB,zC,zD,zE,zF,zG,zH,zI,hf,rfC]);cases a1:decide (oi (y04 s f.ty)<0)<;>cases a2:decide (f.rl=⟨#[]⟩)<;>cases a3:decide (oi ((q0h s f.ty f.rl).map fun q=>q.2.1)<0)<;>rw [a1,a2,a3] at ea <;>
   (try simp only [rwp,hwR,zA,zB,zC,zD,zE,zF,zG,zH,zI,ynr,ynq,a1,a2,a3,hf,rfC]) <;>
   first
    | exact q04 ⟨by rw [bad ea],rfl⟩
    | ((simp (disch:=omega) only [q05]);exact q09 rfl (next ea))
 ·have hall:r.refs.all (q39 s)=true:=q5y fun j f hj hf=>hn j f (by omega) hf
  exact q04 ⟨by rw [q1q,hall,if_pos rfl,if_neg (by omega)],rfl⟩
end Go.HL
