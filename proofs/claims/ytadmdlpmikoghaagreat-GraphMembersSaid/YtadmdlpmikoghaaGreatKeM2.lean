/- A part of a proof. -/
import Derived.Test.YtadmdlpmikoghaaGreatKeM1
import Derived.Test.YtadmdlpmikoghaaGreatKeHlS11
import Derived.Test.YtadmdlpmikoghaaGreatKeHlS8
import Derived.Lib.Bytealg
import Derived.Laws.Externs
import Derived.Test.YtadmdlpmikoghaaGreatKeHlS1
import Derived.Test.YtadmdlpmikoghaaGreatKeHlQ
import Derived.Defers
import Derived.Recover
set_option maxRecDepth 4000
set_option linter.unusedSimpArgs false
set_option linter.unusedVariables false
namespace Go.HL
open List renaming length_map→lA,mem_of_getElem?→lB,getElem?_map→lC,length_cons→lD,getElem?_eq_getElem→lE,take_of_length_le→lF,replicate→lG,length_append→lH,range'→lI,length_nil→lJ,map_append→lK,getElem?_of_mem→lL,mem_cons_of_mem→lM,mem_cons→lN,length_singleton→lP,nil_append→lQ,length_take→lR,length_filter_le→lS,getElem?_set→lT,append_nil→lU,append_assoc→lW,flatten_append→lX,mem_append_left→lY,getElem?_cons_zero→lZ,take_append_of_le_length→lc
open Nat renaming reduceAdd→zA,reduceLeDiff→zB,reduceLT→zC,reduceSub→zD,reduceMul→zE,reduceEqDiff→zF,reduceBEq→zG
open Int renaming reduceAdd→zH,reduceToNat→zI
theorem y1s {α:Type} {p:α->Bool}:∀ {l:List α} {i:Nat},(q0w p (l.take i)).isSome=match q0w p l with
  | some j=>decide (j<i)
  | none=>false
 | [],i=>by simp [q0w]
 | x :: l,0=>by
  rw [List.take_zero];cases q0w p (x :: l)<;>simp [q0w]
 | x :: l,i+1=>by
  rw [List.take_succ_cons];unfold q0w;by_cases h:p x=true
  ·simp [h]
  ·simp only [h,if_false,Bool.false_eq_true];have:=y1s (p:=p) (l:=l) (i:=i);cases h2:q0w p l with
   | none=>rw [h2] at this;simpa using this
   | some j=>rw [h2] at this;simpa using this
theorem y1t {α:Type} {p:α->Bool} {l:List α} {i:Nat} {x:α} (h:l[i]?=some x) (hp:p x=true):∃ j,q0w p l=some j/\j<=i:=by
 cases hq:q0w p l with
 | none=>rw [firstI_none.1 hq i x h] at hp;cases hp
 | some j=>
  obtain ⟨-,h2⟩:=firstI_some.1 hq;refine ⟨j,rfl,?_⟩;rcases Nat.lt_or_ge i j with h3 | h3
  ·rw [h2 i x h3 h] at hp;cases hp
  ·exact h3
theorem yls {s:List Ty} {i:Nat} {t:Ty} (h:s[i]?=some t):decide (oi (y04 s t.name)<(i:Int))=x2e (s.take i) t:=by
 obtain ⟨j,h1,h2⟩:=y1t (p:=fun u:Ty=>decide (u.name=t.name)) h (by simp)
 have h3:=y1s (p:=fun u:Ty=>decide (u.name=t.name)) (l:=s) (i:=i)
 rw [h1] at h3;unfold x2e y04;rw [h3,h1];simp only [oi];simp
theorem ylr:∀ {r ts:List Ty},y8s ts r=none->∀ (m:Nat) (t:Ty),r[m]?=some t->x2e (ts++r.take m) t=false
 | [],ts,h,m,t,ht=>by simp at ht
 | x :: r,ts,h,m,t,ht=>by
  unfold y8s at h;split at h
  ·cases h
  ·rename_i h0
   cases m with
   | zero=>simp at ht;subst ht;simpa using h0
   | succ m=>
    simp at ht;have:=ylr h m t ht;simpa using this
theorem ybp {s:List Ty} (h:y8s [] s=none) {i:Nat} {t:Ty} (ht:s[i]?=some t):y04 s t.name=some i:=by
 have h1:=ylr h i t ht;rw [lQ,<- yls ht] at h1;obtain ⟨j,h2,h3⟩:=y1t (p:=fun u:Ty=>decide (u.name=t.name)) ht (by simp)
 have h4:y04 s t.name=some j:=h2;rw [h4] at h1 ⊢;simp [oi] at h1
 congr 1
 omega
theorem yxq {s:List Ty} {i:Nat} {t:Ty} (ht:s[i]?=some t) (n:ByteArray):y5g s (some i) n=q44 t.rels n:=by simp [y5g,ht]
def q5g (s:List Ty) (i k:Nat) (_:Ty) (r:Rl):Int:=if oi (y5g s (some i) r.name)<k then 7 else 0
theorem yca {s:List Ty} (h:y8s [] s=none) {i k:Nat} {t:Ty} {r:Rl} (ht:s[i]?=some t) (hr:t.rels[k]?=some r):q5g s i k t r=q4l s i k t r:=by
 obtain ⟨m,h1,h2⟩:=y1t (p:=fun u:Rl=>decide (u.name=r.name)) hr (by simp)
 have h3:q44 t.rels r.name=some m:=h1;unfold q5g q4l fiN;rw [ybp h ht,yxq ht,h3];by_cases hk:m=k
 ·subst hk;rw [if_neg (show ¬ (oi (some m)<(m:Int)) by simp only [oi];omega)];simp
 ·rw [if_pos (show oi (some m)<(k:Int) by simp only [oi];omega),if_neg (by simp [hk])]
theorem y46 {α:Type} {f g:α->Nat->Rl->Int×α}:∀ {l:List Rl} {k:Nat} {a:α},(∀ a m r,l[m]?=some r->f a (k+m) r=g a (k+m) r)->q2x f k l a=q2x g k l a
 | [],k,a,h=>rfl
 | x :: l,k,a,h=>by
  unfold q2x;have h0:=h a 0 x rfl;rw [Nat.add_zero] at h0;have ih:=fun a=>y46 (f:=f) (g:=g) (l:=l) (k:=k+1) (a:=a) fun a m r hr=>by
   have:=h a (m+1) r (by simpa using hr)
   rw [show k+1+m=k+(m+1) by omega]
   exact this
  rw [h0,ih]
theorem y43 {α:Type} {f g:α->Nat->Nat->Ty->Rl->Int×α}:∀ {l:List Ty} {i:Nat} {a:α},(∀ a m k t r,l[m]?=some t->t.rels[k]?=some r->f a (i+m) k t r=g a (i+m) k t r)->q2w f i l a=q2w g i l a
 | [],i,a,h=>rfl
 | x :: l,i,a,h=>by
  unfold q2w;rw [y46 (g:=fun a k r=>g a i k x r) fun a m r hr=>by
   have:=h a 0 m x r rfl hr;rw [Nat.add_zero] at this;rw [Nat.zero_add];exact this]
  cases hq:q2x (fun a k r=>g a i k x r) 0 x.rels a with
  | mk o a'=>
   cases o with
   | some q=>rfl
   | none=>
    dsimp only;exact y43 fun a m k t r ht hr=>by
     have:=h a (m+1) k t r (by simpa using ht) hr
     rw [show i+1+m=i+(m+1) by omega]
     exact this
theorem yhh {s:List Ty} {f g:Nat->Nat->Ty->Rl->Int} (h:∀ i k t r,s[i]?=some t->t.rels[k]?=some r->f i k t r=g i k t r):q2y s f=q2y s g:=by
 unfold q2y;rw [y43 (g:=fun (_:Unit) i k t r=>(g i k t r,())) fun a m k t r ht hr=>by
  rw [Nat.zero_add,h m k t r ht hr]]
theorem y6h {s:List Ty} (hs:OkS s):AFun PG yui [scA s] (q2n s):=by
 intro S;have hb:=hs.types;refine xgc ?_;unfold xdf;(try simp only [rwp,hwR,zA,zB,zC,zD,zE,zF,zG,zH,zI,scA]);intro b hbf;(try simp only [rwp,hwR,zA,zB,zC,zD,zE,zF,zG,zH,zI]);refine q06 (by simpa only [scA] using ybw hs) ?_
 have ret:∀ x y z:Int,q2n s=flA x y z->rtW [.cell (.ptr b 0) 3 true] (fun ae S'=>ae=.ret (q2n s)/\S'=S) (supd S b (.cells 88 [.int .i64 x,.int .i64 y,.int .i64 z] 3)):=by
  intro x y z hp;refine q1d S (Sub.fresh _ hbf) ?_;(try simp only [rwp,hwR,zA,zB,zC,zD,zE,zF,zG,zH,zI]);rw [hp];rfl
 have low:∀ v,v=(!scB s||decide (s.length=0))->yg7 (fun ae S'=>ae=.ret (q2n s)/\S'=S) (.rop [.sl 2 (s.map tyC)]) (.ptr b 0) (.bool v) (supd S b (.cells 88 [.int .i64 0,.int .i64 0,.int .i64 0] 3)):=by
  intro v hv;unfold yg7;cases v with
  | true=>
   have h:s.length=0\/scB s=false:=by
    have:=hv.symm;simpa [or_comm] using this
   (try simp only [rwp,hwR,zA,zB,zC,zD,zE,zF,zG,zH,zI]);refine ret _ _ _ ?_;rw [q2n,if_pos h]
  | false=>
   have h:¬ (s.length=0\/scB s=false):=by
    have:=hv.symm;simp at this;simpa using And.symm this
   have hp1:q2n s=if y0a (szF s)≠0 then szF s else match q2y s (q4l s) with
    | some (i,k,e)=>flA i k e
    | none=>flO (q2y s fun _ _ t r=>q1q s t.name r):=by rw [q2n,if_neg h]<;>rfl
   (try simp only [rwp,hwR,zA,zB,zC,zD,zE,zF,zG,zH,zI])
   (refine q02 (fun hl=>?_) (fun hl=>?_)<;>(try simp only [hlc] at hl))
   ·refine ret _ _ _ ?_;rw [hp1,szF,if_pos hl];rfl
   have hsz1:szF s=match yh0 s with
    | some i=>flA i (-1) 2
    | none=>match y8s [] s with
     | some i=>flA i (-1) 7
     | none=>flA 0 0 0:=by rw [szF,if_neg hl]<;>rfl
   refine LoopP.introS (fun i:Nat=>[(1,.rop [.sl 2 (s.map tyC)]),(2,.ptr b 0),(4,.int .i64 i)])
    (fun i S'=>S'=supd S b (.cells 88 [.int .i64 0,.int .i64 0,.int .i64 0] 3)/\i<=s.length/\∀ j t,j<i->s[j]?=some t->decide ((16:Int)<t.rels.length)=false) (fun i=>s.length-i) 0 ⟨rfl,by omega,by omega⟩ rfl ?_
   rintro i _ ⟨rfl,hi,hn⟩ q hq;(try simp only [rwp,hwR,zA,zB,zC,zD,zE,zF,zG,zH,zI,yww])
   (refine q02 (fun hlt=>?_) (fun hlt=>?_)<;>(try simp only [hlc] at hlt))
   ·obtain ⟨t,ht⟩:=q0c hlt;(try simp only [rwp,hwR,zA,zB,zC,zD,zE,zF,zG,zH,zI,ht,tyC])
    (refine q02 (fun h16=>?_) (fun h16=>?_)<;>(try simp only [hlc] at h16))
    ·refine ret _ _ _ ?_;have:yh0 s=some i:=firstI_some.2 ⟨⟨t,ht,by simpa using h16⟩,hn⟩
     rw [hp1,hsz1,this];rfl
    ·(simp (disch:=omega) only [q05])
     refine q09 rfl (hq (i+1) _ ⟨rfl,by omega,fun j u hj hu=>?_⟩ (by omega))
     rcases Nat.lt_succ_iff_lt_or_eq.1 hj with h1 | rfl
     ·exact hn j u h1 hu
     ·rw [ht] at hu;cases hu;simpa using h16
   have hlong:yh0 s=none:=firstI_none.2 fun j u hu=>hn j u (by have:=(List.getElem?_eq_some_iff.1 hu).1;omega) hu
   rw [hlong] at hsz1;dsimp only at hsz1;clear hq q hn hi i hlt;refine LoopP.introS (fun i:Nat=>[(1,.rop [.sl 2 (s.map tyC)]),(2,.ptr b 0),(5,.int .i64 i)])
    (fun i S'=>S'=supd S b (.cells 88 [.int .i64 0,.int .i64 0,.int .i64 0] 3)/\i<=s.length/\y8s [] s=y8s (s.take i) (s.drop i)) (fun i=>s.length-i) 0 ⟨rfl,by omega,rfl⟩ rfl ?_
   rintro i _ ⟨rfl,hi,hd⟩ q hq;(try simp only [rwp,hwR,zA,zB,zC,zD,zE,zF,zG,zH,zI,ywv])
   (refine q02 (fun hlt=>?_) (fun hlt=>?_)<;>(try simp only [hlc] at hlt))
   ·obtain ⟨t,ht⟩:=q0c hlt;have hlen:(s.take i).length=i:=by simp;omega
    rw [q0i ht,y8s,hlen] at hd;(try simp only [rwp,hwR,zA,zB,zC,zD,zE,zF,zG,zH,zI,ht,tyC]);refine q06 (by simpa only [scA] using q34 hs t.name) ?_
    (try simp only [rwp,hwR,zA,zB,zC,zD,zE,zF,zG,zH,zI,yls ht])
    (refine q02 (fun hdu=>?_) (fun hdu=>?_)<;>(try simp only [hlc] at hdu))
    ·rw [hdu,if_pos rfl] at hd;rw [hd] at hsz1;refine ret _ _ _ ?_;rw [hp1,hsz1];rfl
    ·rw [hdu,if_neg (by simp),<- q0t ht] at hd
     (simp (disch:=omega) only [q05])
     exact q09 rfl (hq (i+1) _ ⟨rfl,by omega,hd⟩ (by omega))
   rw [q12 hlt,y8s] at hd;rw [hd] at hsz1;dsimp only at hsz1;clear hq q hi i hlt;rw [hsz1,q1w,if_neg (by simp)] at hp1
   have hag:q2y s (q4l s)=q2y s (q5g s):=yhh fun i k t r ht hr=>(yca hd ht hr).symm
   rw [hag] at hp1;refine LoopP.introS (fun i:Nat=>[(1,.rop [.sl 2 (s.map tyC)]),(2,.ptr b 0),(6,.int .i64 i)])
    (fun i S'=>S'=supd S b (.cells 88 [.int .i64 0,.int .i64 0,.int .i64 0] 3)/\i<=s.length/\(q2w (fun (_:Unit) i k t r=>(q5g s i k t r,())) i (s.drop i) ()).1=q2y s (q5g s)) (fun i=>s.length-i) 0 ⟨rfl,by omega,rfl⟩ rfl ?_
   rintro i _ ⟨rfl,hi,hf⟩ q hq;(try simp only [rwp,hwR,zA,zB,zC,zD,zE,zF,zG,zH,zI,ywu])
   (refine q02 (fun hlt=>?_) (fun hlt=>?_)<;>(try simp only [hlc] at hlt))
   ·obtain ⟨t,ht⟩:=q0c hlt;have hok:=hs.at ht;have hbt:=hok.rels;rw [q0i ht,q2w] at hf;(try simp only [rwp,hwR,zA,zB,zC,zD,zE,zF,zG,zH,zI,ht,tyC]);refine LoopP.introS (fun k:Nat=>[(1,.rop [.sl 2 (s.map tyC)]),(2,.ptr b 0),(6,.int .i64 i),(7,.int .i64 k)])
     (fun k S'=>S'=supd S b (.cells 88 [.int .i64 0,.int .i64 0,.int .i64 0] 3)/\k<=t.rels.length/\q2x (fun (_:Unit) k r=>(q5g s i k t r,())) k (t.rels.drop k) ()=q2x (fun (_:Unit) k r=>(q5g s i k t r,())) 0 t.rels ()) (fun k=>t.rels.length-k) 0 ⟨rfl,by omega,rfl⟩ rfl ?_
    rintro k _ ⟨rfl,hk,hf2⟩ q2 hq2;(try simp only [rwp,hwR,zA,zB,zC,zD,zE,zF,zG,zH,zI,ywr,ht,tyC])
    (refine q02 (fun hlt2=>?_) (fun hlt2=>?_)<;>(try simp only [hlc] at hlt2))
    ·obtain ⟨r,hr⟩:=q0c hlt2;rw [q0i hr,q2x] at hf2;(try simp only [rwp,hwR,zA,zB,zC,zD,zE,zF,zG,zH,zI,ht,hr,q0o,tyC]);have hc:AFun PG yb3 [scA s,.int .i64 (i:Int),.str r.name] (.int .i64 (oi (y5g s (some i) r.name))):=q6k hs (some i) (fun j hj=>by cases hj;omega) r.name
     refine q06 hc ?_;(try simp only [rwp,hwR,zA,zB,zC,zD,zE,zF,zG,zH,zI])
     (refine q02 (fun hag2=>?_) (fun hag2=>?_)<;>(try simp only [hlc] at hag2))
     ·have he:q5g s i k t r=7:=by rw [q5g,if_pos hag2]
      rw [he,if_neg (by decide)] at hf2
      rw [<- hf2] at hf;refine ret _ _ _ ?_;rw [hp1,<- hf]
     ·have he:q5g s i k t r=0:=by rw [q5g,if_neg (by omega)]
      rw [he,if_pos rfl] at hf2
      (simp (disch:=omega) only [q05])
      exact q09 rfl (hq2 (k+1) _ ⟨rfl,by omega,hf2⟩ (by omega))
    ·rw [q12 hlt2,q2x] at hf2;rw [<- hf2] at hf
     (simp (disch:=omega) only [q05])
     exact q09 rfl (hq (i+1) _ ⟨rfl,by omega,hf⟩ (by omega))
   rw [q12 hlt,q2w] at hf;rw [<- hf] at hp1;dsimp only at hp1;clear hq q hi i hlt hf;refine LoopP.introS (fun i:Nat=>[(1,.rop [.sl 2 (s.map tyC)]),(2,.ptr b 0),(8,.int .i64 i)])
    (fun i S'=>S'=supd S b (.cells 88 [.int .i64 0,.int .i64 0,.int .i64 0] 3)/\i<=s.length/\(q2w (fun (_:Unit) i k (t:Ty) r=>(q1q s t.name r,())) i (s.drop i) ()).1=q2y s fun _ _ t r=>q1q s t.name r) (fun i=>s.length-i) 0 ⟨rfl,by omega,rfl⟩ rfl ?_
   rintro i _ ⟨rfl,hi,hf⟩ q hq;(try simp only [rwp,hwR,zA,zB,zC,zD,zE,zF,zG,zH,zI,ywt])
   (refine q02 (fun hlt=>?_) (fun hlt=>?_)<;>(try simp only [hlc] at hlt))
   ·obtain ⟨t,ht⟩:=q0c hlt;have hok:=hs.at ht;have hbt:=hok.rels;have hT:=ybp hd ht;rw [q0i ht,q2w] at hf;(try simp only [rwp,hwR,zA,zB,zC,zD,zE,zF,zG,zH,zI,ht,tyC]);refine LoopP.introS (fun k:Nat=>[(1,.rop [.sl 2 (s.map tyC)]),(2,.ptr b 0),(8,.int .i64 i),(9,.int .i64 k)])
     (fun k S'=>S'=supd S b (.cells 88 [.int .i64 0,.int .i64 0,.int .i64 0] 3)/\k<=t.rels.length/\q2x (fun (_:Unit) k r=>(q1q s t.name r,())) k (t.rels.drop k) ()=q2x (fun (_:Unit) k r=>(q1q s t.name r,())) 0 t.rels ()) (fun k=>t.rels.length-k) 0 ⟨rfl,by omega,rfl⟩ rfl ?_
    rintro k _ ⟨rfl,hk,hf2⟩ q2 hq2;(try simp only [rwp,hwR,zA,zB,zC,zD,zE,zF,zG,zH,zI,yws,ht,tyC])
    (refine q02 (fun hlt2=>?_) (fun hlt2=>?_)<;>(try simp only [hlc] at hlt2))
    ·obtain ⟨r,hr⟩:=q0c hlt2;have hok2:=hok.at hr;rw [q0i hr,q2x] at hf2;(try simp only [rwp,hwR,zA,zB,zC,zD,zE,zF,zG,zH,zI,ht,hr,q0o,tyC]);refine q06 (by simpa only [scA,q0o] using y6i hs hT hok2) ?_
     (try simp only [rwp,hwR,zA,zB,zC,zD,zE,zF,zG,zH,zI])
     (refine q02 (fun hne=>?_) (fun hne=>?_)<;>(try simp only [hlc] at hne))
     ·rw [if_neg hne] at hf2;rw [<- hf2] at hf;refine ret _ _ _ ?_;rw [hp1,<- hf];rfl
     ·rw [if_pos (by omega)] at hf2
      (simp (disch:=omega) only [q05])
      exact q09 rfl (hq2 (k+1) _ ⟨rfl,by omega,hf2⟩ (by omega))
    ·rw [q12 hlt2,q2x] at hf2;rw [<- hf2] at hf
     (simp (disch:=omega) only [q05])
     exact q09 rfl (hq (i+1) _ ⟨rfl,by omega,hf⟩ (by omega))
   rw [q12 hlt,q2w] at hf;rw [<- hf] at hp1;(try simp only [rwp,hwR,zA,zB,zC,zD,zE,zF,zG,zH,zI]);exact ret _ _ _ hp1
 (try simp only [rwp,hwR,zA,zB,zC,zD,zE,zF,zG,zH,zI]);cases hsc:scB s with
 | false=>
  (try simp only [rwp,hwR,zA,zB,zC,zD,zE,zF,zG,zH,zI]);exact low true (by rw [hsc];rfl)
 | true=>
  (try simp only [rwp,hwR,zA,zB,zC,zD,zE,zF,zG,zH,zI]);exact low _ (by rw [hsc];simp)
set_option maxRecDepth 4000
abbrev lfF (s:List Ty) (t:ByteArray) (p:Ex×Bool):List Ln:=q3r s t p.1 p.2
theorem xi4 {s:List Ty} (hN:OkN s) {t:ByteArray} (e:Ex) (o:Bool):((q0g e o).flatMap (lfF s t)).length<=esz e * 1001:=by
 have h1:=y5w (f:=lfF s t) (n:=1001) (fun _=>y5s hN) (l:=q0g e o)
 have h2:=Nat.mul_le_mul_right 1001 (q5p e o);omega
theorem ylm {k:Int} {n o:ByteArray} {ks:List Ex} {x:Ex} (h:x∈ks):esz x<=esz (.mk k n o ks):=by
 have:∀ l:List Ex,x∈l->esz x<=yei l:=by
  intro l
  induction l with
  | nil=>intro h;cases h
  | cons y l ih=>
   intro h;rw [yei];rcases List.mem_cons.1 h with rfl | h
   ·omega
   ·have:=ih h;omega
 have:=this ks h;rw [esz];omega
theorem y1f {k:Int} {out:Bool}:∀ {l:List Ex} {i m:Nat} {x:Ex},l[m]?=some x->∀ p∈q0g x (out||(decide (k=4)&&decide (((i+m:Nat):Int)=1))),p∈q10 k i l out
 | [],i,m,x,h,p,hp=>by simp at h
 | y :: l,i,0,x,h,p,hp=>by
  simp at h;subst h;rw [q10];exact lY _ hp
 | y :: l,i,m+1,x,h,p,hp=>by
  simp at h;rw [q10];refine List.mem_append_right _ (y1f (i:=i+1) (m:=m) h p ?_);rw [show i+1+m=i+(m+1) by omega]
  exact hp
theorem yjf {s:List Ty} {refs:List Rf} {n:ByteArray} {j:Nat} {f:Rf} (h:refs[j]?=some f):q26 s (refs.take (j+1)) n=q26 s (refs.take j) n++(if f.rl=⟨#[]⟩ then (q0h s f.ty n).map fun q=>(q.1,q.2.1) else none).toList:=by
 unfold q26;exact y56 h
theorem yje {s:List Ty} {refs:List Rf} {n:ByteArray} {j:Nat}:(q26 s (refs.take j) n).length<=refs.length:=by
 unfold q26;exact yq4
theorem y6g {s:List Ty} (hs:OkS s) {t n:ByteArray} {i k:Nat} {r:Rl} (h:q0h s t n=some (i,k,r)):oi (y04 s t)=i:=by
 obtain ⟨h1,-⟩:=q11 h;rw [h1];rfl
theorem y6j {s:List Ty} (hs:OkS s) (hN:OkN s) {t:ByteArray} {ti:Nat} (ht:y04 s t=some ti):∀ (e:Ex),OkE e->esz e<=1000->∀ out:Bool,(∀ p∈q0g e out,(q0h s t p.1.name).isSome=true) ->
  AFun PG ysl [scA s,.int .i64 ti,.agg (exC e),.bool out] (.sl 3 (((q0g e out).flatMap (lfF s t)).map q2v)):=by
 intro e he
 induction he with
 | mk k n o ks hk hn ho hks ih=>
  intro hsz out hfd S;have hrelT:∀ m:ByteArray,AFun PG yb3 [scA s,.int .i64 ti,.str m] (.int .i64 (oi ((q0h s t m).map fun q=>q.2.1))):=fun m=>by
   have:=q29 hs t m;rw [ht] at this;exact this
  have hle:=xi4 hN (t:=t) (.mk k n o ks) out;refine xe4 ?_;unfold xb7;(try simp only [rwp,hwR,zA,zB,zC,zD,zE,zF,zG,zH,zI,q0e,Ex.kind,Ex.name,Ex.over,Ex.kids,scA]);refine LoopP.introS (fun p:Nat×AV=>[(1,.int .i64 ti),(3,.bool out),(4,.rop [.sl 2 (s.map tyC)]),(6,.rop [.int .i64 k,.str n,.str o,.sl 4 (ks.map exC)]),(9,p.2),(10,.int .i64 p.1)])
   (fun p S'=>p.1<=ks.length/\Sub S S'/\∃ rows:List Ln,LstN S S' 253 3 p.2 (rows.map q2v)/\rows++(q10 k p.1 (ks.drop p.1) out).flatMap (lfF s t)=(q10 k 0 ks out).flatMap (lfF s t)) (fun p=>ks.length-p.1) (0,.nils) ⟨by omega,Sub.refl S,[],.nil,rfl⟩ rfl ?_
  rintro ⟨i,v⟩ S1 ⟨hi,hs1,rows,hl,hf⟩ q hq;dsimp only at hi hl hf;(try simp only [rwp,hwR,zA,zB,zC,zD,zE,zF,zG,zH,zI,yv5])
  (refine q02 (fun hlt=>?_) (fun hlt=>?_)<;>(try simp only [hlc] at hlt))
  ·obtain ⟨x,hx⟩:=q0c hlt;rw [q0i hx,q10,List.flatMap_append,<- lW] at hf;have hwhole:q0g (.mk k n o ks) out=q10 k 0 ks out:=by
    cases ks with
    | nil=>simp at hx
    | cons x r=>simp [q0g]
   rw [hwhole] at hle hfd ⊢;have hlen:=congrArg List.length hf;simp only [lH] at hlen;have fin:∀ o2,o2=(out||(decide (k=4)&&decide ((i:Int)=1)))->yfc (fun ae S'=>ae=.ret (.sl 3 (((q10 k 0 ks out).flatMap (lfF s t)).map q2v))/\S'=S) q (.int .i64 ti) (.bool out) (.rop [.sl 2 (s.map tyC)]) (.rop [.int .i64 k,.str n,.str o,.sl 4 (ks.map exC)]) (.int .i64 i) v (.agg [.sl 2 (s.map tyC)]) (.int .i64 ti) (.agg (exC x)) (.bool o2) S1:=by
    intro o2 ho2;unfold yfc;rw [<- ho2] at hf hlen;have hkid:=ylm (k:=k) (n:=n) (o:=o) (lB hx);refine q06 (by simpa only [scA] using ih x (lB hx) (by omega) o2 (fun p hp=>hfd p (y1f (i:=0) hx p (by rw [Nat.zero_add,<- ho2];exact hp)))) ?_
    refine hl.app hs1 (xs:=((q0g x o2).flatMap (lfF s t)).map q2v) (fun r hr=>by obtain ⟨y,-,rfl⟩:=List.mem_map.1 hr;rfl) (q2q fun r hr=>by obtain ⟨y,-,rfl⟩:=List.mem_map.1 hr;rfl) (by simp only [lA];omega) ?_
    intro v' S2 h1 h2 _;(try simp only [rwp,hwR,zA,zB,zC,zD,zE,zF,zG,zH,zI])
    (simp (disch:=omega) only [q05])
    refine q09 rfl (hq (i+1,v') S2 ⟨by dsimp only;omega,h1,_,?_,hf⟩ (by dsimp only;omega))
    rw [lK];exact h2
   cases a1:out<;>cases a2:decide (k=4)<;>cases a3:decide ((i:Int)=1) <;>
    (try simp only [rwp,hwR,zA,zB,zC,zD,zE,zF,zG,zH,zI,ynd,ync,ynb,a1,a2,a3,hx])<;>(rw [a1] at fin;exact fin _ (by rw [a2,a3];rfl))
  ·rw [q12 hlt] at hf;have hrows:rows=(q10 k 0 ks out).flatMap (lfF s t):=by rw [<- hf];simp [q10]
   (refine q02 (fun h0=>?_) (fun h0=>?_)<;>(try simp only [hlc] at h0))
   ·have hwhole:q0g (.mk k n o ks) out=q10 k 0 ks out:=by
     cases ks with
     | nil=>simp at h0
     | cons x r=>simp [q0g]
    refine q3o hs1 hl ⟨?_,rfl⟩;rw [hwhole,hrows]
   ·have hnil:ks=[]:=List.length_eq_zero_iff.1 (by omega)
    subst hnil;have hle1:q0g (.mk k n o []) out=[(.mk k n o [],out)]:=by simp [q0g]
    rw [hle1] at hfd ⊢;have hrows:rows=[]:=by rw [hrows];rfl
    subst hrows;have hfd:=hfd _ (List.mem_singleton.2 rfl);cases hq2:q0h s t n with
    | none=>simp only [Ex.name,hq2] at hfd;cases hfd
    | some w=>
     obtain ⟨a,b,r⟩:=w;obtain ⟨h1,ty,h2,h3,h4⟩:=q11 hq2;rw [ht] at h1;cases h1;have hok:=(hs.at h2).at h4;have hn0:=hN ty (lB h2) r (lB h4);have hrl:r.refs.length<=1000:=by unfold rsz at hn0;omega
     have hr1:=hrelT n;rw [hq2] at hr1;have hr1:AFun PG yb3 [scA s,.int .i64 ti,.str n] (.int .i64 b):=hr1;refine q06 (by simpa only [scA] using hr1) ?_
     (try simp only [rwp,hwR,zA,zB,zC,zD,zE,zF,zG,zH,zI]);refine hl.app hs1 (xs:=[q2v ((ti,b),out)]) (fun r hr=>by simp at hr;subst hr;rfl) rfl (by simp) ?_
     intro v1 S2 hs2 hl2 _;(try simp only [rwp,hwR,zA,zB,zC,zD,zE,zF,zG,zH,zI,h2,h4,tyC,q0o]);have hval:q3r s t (.mk k n o []) out=((ti,b),out) :: (if k=1 then (q26 s r.refs o).map fun p=>(p,out) else []):=by rw [q3r,Ex.name,hq2];rfl
     have hgoal:([(Ex.mk k n o [],out)].flatMap (lfF s t))=((ti,b),out) :: (if k=1 then (q26 s r.refs o).map fun p=>(p,out) else []):=by
      rw [<- hval];simp
     rw [hgoal];refine LoopP.introS (fun p:Nat×AV=>[(3,.bool out),(4,.rop [.sl 2 (s.map tyC)]),(6,.rop [.int .i64 k,.str n,.str o,.sl 4 []]),(9,p.2),(12,.sl 2 (r.refs.map rfC)),(13,.int .i64 p.1)])
      (fun p S'=>p.1<=r.refs.length/\(p.1≠0->k=1)/\Sub S S'/\LstN S S' 253 3 p.2 ((((ti,b),out) :: (q26 s (r.refs.take p.1) o).map fun p=>(p,out)).map q2v)) (fun p=>r.refs.length-p.1) (0,v1) ⟨by omega,fun h=>absurd rfl h,hs2,by simpa [q26] using hl2⟩ rfl ?_
     rintro ⟨j,v2⟩ S3 ⟨hj,hj0,hs3,hl3⟩ q2 hq3;dsimp only at hj hj0 hl3;(try simp only [rwp,hwR,zA,zB,zC,zD,zE,zF,zG,zH,zI,yv4]);have stop:(k=1->q26 s (r.refs.take j) o=q26 s r.refs o)->rtW [.tmp v2] (fun ae S'=>ae=.ret (.sl 3 ((((ti,b),out) :: (if k=1 then (q26 s r.refs o).map fun p=>(p,out) else [])).map q2v))/\S'=S) S3:=fun h=>by
      refine q3o hs3 hl3 ⟨?_,rfl⟩;by_cases hk1:k=1
      ·rw [if_pos hk1,h hk1]
      ·rw [if_neg hk1];have:j=0:=by
        rcases Nat.eq_zero_or_pos j with h0 | h0
        ·exact h0
        ·exact absurd (hj0 (by omega)) hk1
       subst this;rfl
     cases a1:decide ((j:Int)<r.refs.length) with
     | false=>
      (try simp only [rwp,hwR,zA,zB,zC,zD,zE,zF,zG,zH,zI,y9w]);refine stop fun _=>?_
      rw [lF (by have:=of_decide_eq_false a1;omega)]
     | true=>
      have hjl:=of_decide_eq_true a1;cases a2:decide (k=1) with
      | false=>
       (try simp only [rwp,hwR,zA,zB,zC,zD,zE,zF,zG,zH,zI,y9w]);exact stop fun h=>absurd h (of_decide_eq_false a2)
      | true=>
       obtain ⟨f,hfj⟩:=q0c hjl;(try simp only [rwp,hwR,zA,zB,zC,zD,zE,zF,zG,zH,zI,y9w,hfj,rfC]);refine q06 (by simpa only [scA] using q34 hs f.ty) ?_
       (try simp only [rwp,hwR,zA,zB,zC,zD,zE,zF,zG,zH,zI]);refine q06 (by simpa only [scA] using q29 hs f.ty o) ?_
       (try simp only [rwp,hwR,zA,zB,zC,zD,zE,zF,zG,zH,zI,hfj,rfC,ys4]);have hsn:=yjf (s:=s) (n:=o) hfj;have hol:=yje (s:=s) (refs:=r.refs) (n:=o) (j:=j);have skip:(if f.rl=⟨#[]⟩ then (q0h s f.ty o).map fun q=>(q.1,q.2.1) else none)=none->q2 [(3,.bool out),(4,.rop [.sl 2 (s.map tyC)]),(6,.rop [.int .i64 k,.str n,.str o,.sl 4 []]),(9,v2),(12,.sl 2 (r.refs.map rfC)),(13,.int .i64 ((j:Int)+1))] S3:=fun h=>by
        refine hq3 (j+1,v2) S3 ⟨by dsimp only;omega,fun _=>of_decide_eq_true a2,hs3,?_⟩ (by dsimp only;omega)
        dsimp only;rw [hsn,h];simpa using hl3
       cases hg:q0h s f.ty o with
       | none=>
        have hsk:=skip (by rw [hg];simp)
        cases a3:decide (f.rl=⟨#[]⟩)<;>(try simp only [rwp,hwR,zA,zB,zC,zD,zE,zF,zG,zH,zI,y9v,a3,Option.map_none,Option.isSome_none])<;>(simp (disch:=omega) only [q05])<;>exact q09 rfl hsk
       | some w=>
        obtain ⟨x,y,w⟩:=w;(try simp only [rwp,hwR,zA,zB,zC,zD,zE,zF,zG,zH,zI,y6g hs hg,Option.map_some,Option.isSome_some]);cases a3:decide (f.rl=⟨#[]⟩) with
        | false=>
         (try simp only [rwp,hwR,zA,zB,zC,zD,zE,zF,zG,zH,zI,y9v])
         (simp (disch:=omega) only [q05])
         exact q09 rfl (skip (by rw [if_neg (of_decide_eq_false a3)]))
        | true=>
         (try simp only [rwp,hwR,zA,zB,zC,zD,zE,zF,zG,zH,zI,y9v]);refine hl3.app hs3 (xs:=[q2v ((x,y),out)]) (fun r hr=>by simp at hr;subst hr;rfl) rfl (by simp;omega) ?_
         intro v4 S4 hs4 hl4 _
         (simp (disch:=omega) only [q05])
         refine q09 rfl (hq3 (j+1,v4) S4 ⟨by dsimp only;omega,fun _=>of_decide_eq_true a2,hs4,?_⟩ (by dsimp only;omega))
         dsimp only;rw [hsn,if_pos (of_decide_eq_true a3),hg];simpa using hl4
set_option maxRecDepth 4000
theorem yla {s:List Ty} (h:GoodS s) {i k:Nat} {t:Ty} {r:Rl} (ht:s[i]?=some t) (hr:t.rels[k]?=some r):∀ f∈r.refs,q39 s f=true:=by
 have:=h.name ht hr;unfold q1q at this;split at this
 ·rename_i h;exact List.all_eq_true.1 h
 ·omega
theorem y5u {s:List Ty} (h:GoodS s) {i:Nat} {t:Ty} (ht:s[i]?=some t):y04 s t.name=some i:=ybp h.sizes.2.2 ht
theorem ygs {s:List Ty} {f:Rf} (h:q39 s f=true):q1s s f=if f.rl=⟨#[]⟩ then none else some (((y04 s f.ty).getD 0,((q0h s f.ty f.rl).map fun q=>q.2.1).getD 0),false):=by
 unfold q1s;by_cases h0:f.rl=⟨#[]⟩
 ·rw [if_pos h0,if_pos h0]
 ·rw [if_neg h0,if_neg h0];unfold q39 at h;simp only [h0,decide_false,Bool.false_or,Bool.and_eq_true] at h;cases hq:q0h s f.ty f.rl with
  | none=>rw [hq] at h;cases h.2
  | some q=>
   obtain ⟨i,k,w⟩:=q;obtain ⟨h1,-⟩:=q11 hq;rw [h1];rfl
theorem ybv {s:List Ty} (hs:OkS s) (hN:OkN s) (hg:GoodS s) {i k:Nat} {t:Ty} {r:Rl} (ht:s[i]?=some t) (hr:t.rels[k]?=some r):AFun PG yt9 [scA s,.int .i64 i,.agg (rlC r)] (.sl 3 ((q1c s t.name r).map q2v)):=by
 intro S;have hok:=(hs.at ht).at hr;have hm:=lB ht;have hmr:=lB hr;have hn:=hN t hm r hmr;have hrl:r.refs.length<=1000:=by unfold rsz at hn;omega
 have hez:esz r.ex<=1000:=by unfold rsz at hn;omega
 have hrf:=yla hg ht hr;refine xev ?_;unfold xby;(try simp only [rwp,hwR,zA,zB,zC,zD,zE,zF,zG,zH,zI,q0o,scA])
 (refine q02 (fun h0=>?_) (fun h0=>?_)<;>(try simp only [hlc] at h0))
 ·refine q06 (by simpa only [scA,q0e] using y6j hs hN (y5u hg ht) r.ex hok.ex hez false (hg.found t hm r hmr (by omega))) ?_
  exact q04 ⟨by rw [q1c,if_pos (by omega)],rfl⟩
 refine LoopP.introS (fun p:Nat×AV=>[(3,.rop [.sl 2 (s.map tyC)]),(5,.rop [.str r.name,.sl 2 (r.refs.map rfC),.int .i64 r.ex.kind,.str r.ex.name,.str r.ex.over,.sl 4 (r.ex.kids.map exC)]),(7,p.2),(8,.int .i64 p.1)])
  (fun p S'=>p.1<=r.refs.length/\Sub S S'/\LstN S S' 253 3 p.2 (((r.refs.take p.1).filterMap (q1s s)).map q2v)) (fun p=>r.refs.length-p.1) (0,.nils) ⟨by omega,Sub.refl S,.nil⟩ rfl ?_
 rintro ⟨j,v⟩ S1 ⟨hj,hs1,hl⟩ q hq;dsimp only at hj hl;(try simp only [rwp,hwR,zA,zB,zC,zD,zE,zF,zG,zH,zI,yvf])
 (refine q02 (fun hlt=>?_) (fun hlt=>?_)<;>(try simp only [hlc] at hlt))
 ·obtain ⟨f,hf⟩:=q0c hlt;have hfo:=hrf f (lB hf);have htk:=y56 (g:=q1s s) hf;have hle:=yq4 (g:=q1s s) (l:=r.refs) (i:=j);have hrl2:=ygs hfo;(try simp only [rwp,hwR,zA,zB,zC,zD,zE,zF,zG,zH,zI,hf,rfC]);cases a1:decide (f.rl=⟨#[]⟩) with
  | true=>
   rw [if_pos (of_decide_eq_true a1)] at hrl2;(try simp only [rwp,hwR,zA,zB,zC,zD,zE,zF,zG,zH,zI])
   (simp (disch:=omega) only [q05])
   refine q09 rfl (hq (j+1,v) S1 ⟨by dsimp only;omega,hs1,?_⟩ (by dsimp only;omega))
   dsimp only;rw [htk,hrl2];simpa using hl
  | false=>
   rw [if_neg (of_decide_eq_false a1)] at hrl2;unfold q39 at hfo;rw [a1,Bool.false_or,Bool.and_eq_true] at hfo;obtain ⟨q1,hq1⟩:=Option.isSome_iff_exists.1 hfo.2;obtain ⟨x,y,w⟩:=q1;obtain ⟨k1,-⟩:=q11 hq1;rw [k1,hq1] at hrl2;have hrl2:q1s s f=some ((x,y),false):=hrl2;(try simp only [rwp,hwR,zA,zB,zC,zD,zE,zF,zG,zH,zI,hf,rfC]);refine q06 (by simpa only [scA] using q34 hs f.ty) ?_
   (try simp only [rwp,hwR,zA,zB,zC,zD,zE,zF,zG,zH,zI,hf,rfC]);refine q06 (by simpa only [scA] using q29 hs f.ty f.rl) ?_
   (try simp only [rwp,hwR,zA,zB,zC,zD,zE,zF,zG,zH,zI,k1,hq1,Option.map_some,oi]);refine hl.app hs1 (xs:=[q2v ((x,y),false)]) (fun r hr=>by simp at hr;subst hr;rfl) rfl (by simp only [lA,lD,lJ];omega) ?_
   intro v' S2 h1 h2 _;(try simp only [rwp,hwR,zA,zB,zC,zD,zE,zF,zG,zH,zI])
   (simp (disch:=omega) only [q05])
   refine q09 rfl (hq (j+1,v') S2 ⟨by dsimp only;omega,h1,?_⟩ (by dsimp only;omega))
   dsimp only;rw [htk,hrl2];simpa using h2
 ·have hend:r.refs.take j=r.refs:=lF (by omega)
  rw [hend] at hl;exact q3o hs1 hl ⟨by rw [q1c,if_neg (by omega)],rfl⟩
def rwC (w:Rw):List AV:=[.int .i64 w.1.1,.int .i64 w.1.2,.sl 3 (w.2.map q2v)]
theorem y8z {s:List Ty} (hs:OkS s) (hN:OkN s) (hg:GoodS s):AFun PG yu8 [scA s] (.sl 3 ((q2c s).map rwC)):=by
 intro S;have hb:=hs.types;have hsz:=hg.sizes;have hall:(q2c s).length<=256:=by rw [y5d];exact hg.many
 refine xfz ?_;unfold xd2;(try simp only [rwp,hwR,zA,zB,zC,zD,zE,zF,zG,zH,zI,scA]);refine LoopP.introS (fun p:Nat×AV=>[(1,.rop [.sl 2 (s.map tyC)]),(3,p.2),(4,.int .i64 p.1)])
  (fun p S'=>p.1<=s.length/\Sub S S'/\∃ w:List Rw,LstN S S' 251 3 p.2 (w.map rwC)/\w++q43 s p.1 (s.drop p.1)=q2c s) (fun p=>s.length-p.1) (0,.nils) ⟨by omega,Sub.refl S,[],.nil,rfl⟩ rfl ?_
 rintro ⟨i,v⟩ S1 ⟨hi,hs1,w,hl,hf⟩ q hq;dsimp only at hi hl hf;(try simp only [rwp,hwR,zA,zB,zC,zD,zE,zF,zG,zH,zI,ywe])
 (refine q02 (fun hlt=>?_) (fun hlt=>?_)<;>(try simp only [hlc] at hlt))
 ·obtain ⟨t,ht⟩:=q0c hlt;have hbt:=(hs.at ht).rels;rw [q0i ht,q43,<- lW] at hf;refine LoopP.introS (fun p:Nat×AV=>[(1,.rop [.sl 2 (s.map tyC)]),(3,p.2),(4,.int .i64 i),(5,.int .i64 p.1)])
   (fun p S'=>p.1<=t.rels.length/\Sub S S'/\∃ u:List Rw,LstN S S' 251 3 p.2 (u.map rwC)/\u++q38 s i t.name p.1 (t.rels.drop p.1)=w++q38 s i t.name 0 t.rels) (fun p=>t.rels.length-p.1) (0,v) ⟨by omega,hs1,w,hl,rfl⟩ rfl ?_
  rintro ⟨k,v2⟩ S2 ⟨hk,hs2,u,hl2,hf2⟩ q2 hq2;dsimp only at hk hl2 hf2;(try simp only [rwp,hwR,zA,zB,zC,zD,zE,zF,zG,zH,zI,ywd,ht,tyC])
  (refine q02 (fun hlt2=>?_) (fun hlt2=>?_)<;>(try simp only [hlc] at hlt2))
  ·obtain ⟨r,hr⟩:=q0c hlt2;rw [q0i hr,q38] at hf2;(try simp only [rwp,hwR,zA,zB,zC,zD,zE,zF,zG,zH,zI,ht,hr,tyC,q0o]);refine q06 (by simpa only [scA,q0o] using ybv hs hN hg ht hr) ?_
   have hul:u.length<=256:=by
    have h1:=congrArg List.length hf;have h2:=congrArg List.length hf2;simp only [lH,lD] at h1 h2;omega
   (try simp only [rwp,hwR,zA,zB,zC,zD,zE,zF,zG,zH,zI]);refine hl2.app hs2 (xs:=[rwC ((i,k),q1c s t.name r)]) (fun r hr=>by simp at hr;subst hr;rfl) rfl (by simp only [lA,lD,lJ];omega) ?_
   intro v' S3 h1 h2 _;(try simp only [rwp,hwR,zA,zB,zC,zD,zE,zF,zG,zH,zI])
   (simp (disch:=omega) only [q05])
   refine q09 rfl (hq2 (k+1,v') S3 ⟨by dsimp only;omega,h1,u++[((i,k),q1c s t.name r)],by simpa using h2,?_⟩ (by dsimp only;omega))
   rw [lW];exact hf2
  ·rw [q12 hlt2,q38,lU] at hf2
   (simp (disch:=omega) only [q05])
   refine q09 rfl (hq (i+1,v2) S2 ⟨by dsimp only;omega,hs2,u,hl2,?_⟩ (by dsimp only;omega))
   rw [hf2];exact hf
 ·rw [q12 hlt,q43,lU] at hf;exact q3o hs1 hl ⟨by rw [hf],rfl⟩
set_option maxRecDepth 4000
theorem LvO.cell {S0 S:q00} {v:AV} {bs:List Nat} {lv:Lv} (h:LvO S0 S v bs lv) {i j:Nat} (hin:In lv (i,j)):∃ bl cap b l,v=.own bl 0 lv.length cap/\i<lv.length/\q0m S bl=some (174,(q1r bs lv).flatten,cap * 1)/\(q1r bs lv).flatten.drop i=.own b 0 l.length l.length :: (q1r bs lv).flatten.drop (i+1) /\
  bs[i]?=some b/\lv[i]?=some l/\q0m S b=some (3,l.map iv,l.length)/\b≠bl/\l[j]?=some (y02 lv (i,j)):=by
 obtain ⟨l,h1,h2⟩:=hin;dsimp only at h1 h2;have hil:=(List.getElem?_eq_some_iff.1 h1).1;obtain ⟨hs,hlen,⟨hr,hl⟩,hi,hnd⟩:=h;have hrl:(q1r bs lv).length=lv.length:=by simp [q1r,hlen]
 obtain ⟨b,hb⟩:∃ b,bs[i]?=some b:=⟨_,lE (by omega)⟩
 obtain ⟨o1,o2,o3⟩:=hi i b l hb h1;have hrow:(q1r bs lv)[i]?=some [.own b 0 l.length l.length]:=by rw [q5n,hb,h1]
 rcases hl with ⟨rfl,h0⟩ | ⟨bl,cap,rfl,k1,k2,k3,k4,k5⟩
 ·rw [h0] at hrow;simp at hrow
 ·refine ⟨bl,cap,b,l,by rw [hrl],hil,objAt_some.2 k2,?_,hb,h1,o1,o3 bl 0 _ _ rfl,?_⟩
  ·have h3:=q77 hr hrow (j:=0) rfl;rw [Nat.mul_one,Nat.add_zero] at h3;exact q0i h3
  ·unfold y02;rw [h1];simp [lE h2]
theorem LvO.rd {S0 S:q00} {v:AV} {bs:List Nat} {lv:Lv} (h:LvO S0 S v bs lv) {i j:Nat} (hin:In lv (i,j)) {K:AV->Prop} (hK:K (.int .i64 (y02 lv (i,j)))) :
  iaW 1 v (.int .i64 i) (fun a=>ldW S 1 false a fun r=>iaW 1 r (.int .i64 j) fun c=>ldW S 1 false c K):=by
 obtain ⟨bl,cap,b,l,rfl,h1,h2,h3,h4,h5,h6,h7,h8⟩:=h.cell hin;have hj:=(List.getElem?_eq_some_iff.1 h8).1;have hd:(l.map iv).drop j=iv (y02 lv (i,j)) :: (l.map iv).drop (j+1):=q0i (by rw [lC,h8];rfl)
 rw [q88];refine ⟨by omega,by omega,?_⟩
 rw [q85,q08 h2,q5q,Int.toNat_natCast,Nat.mul_one,Nat.zero_add,h3,y5n,q88];refine ⟨by omega,by omega,?_⟩
 rw [q85,q08 h6,q5q,Int.toNat_natCast,Nat.mul_one,Nat.zero_add,hd,y5n];exact hK
theorem ygy {bs:List Nat} {lv:Lv} {p:Nat×Nat} {x:Nat}:q1r bs (y2n lv p x)=q1r bs lv:=by
 apply List.ext_getElem?
 intro i;rw [q5n,q5n];unfold y2n;rw [lT];by_cases h:p.1=i
 ·subst h;rw [if_pos rfl];cases hl:lv[p.1]? with
  | none=>rw [if_neg (by have:=List.getElem?_eq_none_iff.1 hl;omega)]
  | some l=>
   rw [if_pos (List.getElem?_eq_some_iff.1 hl).1];cases bs[p.1]?<;>simp
 ·rw [if_neg h]
theorem LvO.wr {S0 S:q00} {v:AV} {bs:List Nat} {lv:Lv} (h:LvO S0 S v bs lv) {i j x:Nat} (hin:In lv (i,j)) {K:q00->Prop} (hK:∀ S',LvO S0 S' v bs (y2n lv (i,j) x)->K S') :
  iaW 1 v (.int .i64 i) (fun a=>ldW S 1 false a fun r=>iaW 1 r (.int .i64 j) fun c=>stW S 1 c (.int .i64 x) K):=by
 obtain ⟨bl,cap,b,l,rfl,h1,h2,h3,h4,h5,h6,h7,h8⟩:=h.cell hin;have hj:=(List.getElem?_eq_some_iff.1 h8).1;rw [q88];refine ⟨by omega,by omega,?_⟩
 rw [q85,q08 h2,q5q,Int.toNat_natCast,Nat.mul_one,Nat.zero_add,h3,y5n,q88];refine ⟨by omega,by omega,?_⟩
 rw [q69,h6,Int.toNat_natCast,Nat.mul_one,Nat.zero_add,q35];refine ⟨rfl,by simp;omega,rfl,hK _ ?_⟩
 obtain ⟨hs,hlen,hlst,hi,hnd⟩:=h;have hb0:=(hi i b l h4 h5).2.1;have hbv:=(hi i b l h4 h5).2.2;have hset:q1i (l.map iv) j (q0a (.int .i64 x))=(l.set j x).map iv:=by
  show (l.map iv).set j (iv x)=_;rw [List.map_set]
 rw [hset];refine ⟨hs.supd hb0,?_,?_,fun m c l' k1 k2=>?_,hnd⟩
 ·unfold y2n;rw [List.length_set];exact hlen
 ·rw [ygy];exact hlst.upd hbv _
 ·unfold y2n at k2;rw [lT,h5,if_pos h1] at k2;dsimp only [Option.getD_some] at k2;by_cases hmi:i=m
  ·subst hmi;rw [if_pos rfl] at k2;rw [h4] at k1;cases k1;cases k2;exact ⟨by rw [List.length_set];exact q0f,hb0,hbv⟩
  ·rw [if_neg hmi] at k2;have hne:b≠c:=by
    rintro rfl;have e1:=(List.getElem?_eq_some_iff.1 h4).1;exact hmi ((List.getElem?_inj e1 hnd).1 (by rw [h4,k1]))
   obtain ⟨o1,o2,o3⟩:=hi m c l' k1 k2;exact ⟨by rw [q0j hne];exact o1,o2,o3⟩
theorem LvO.app {S0 S:q00} {v:AV} {bs:List Nat} {lv:Lv} (h:LvO S0 S v bs lv) {b:Nat} (hb:y01 S b=none) (l:List Nat) (hlen:lv.length<=1000000) {K:AV->q00->Prop} (hK:∀ v' S',LvO S0 S' v' (bs++[b]) (lv++[l])->K v' S') :
  apW (supd S b (.cells 3 (l.map iv) l.length)) 174 1 24 v (.sl 1 [[.own b 0 l.length l.length]]) K:=by
 have hb0:=Sub.none h.sub hb;have hba:q0u v b:=h.lst.fresh hb;have hbn:∀ (j c:Nat),bs[j]?=some c->c≠b:=by
  intro j c hj;have hj1:=(List.getElem?_eq_some_iff.1 hj).1;have hj2:j<lv.length:=by rw [<- h.len];exact hj1
  have:=objAt_some.1 (h.inn j c _ hj (lE hj2)).1;rintro rfl;rw [this] at hb;cases hb
 have hL:=h.fresh hb (.cells 3 (l.map iv) l.length);have hrl:(q1r bs lv).length=lv.length:=by simp [q1r,h.len]
 have hbo:y01 (supd S b (.cells 3 (l.map iv) l.length)) b=some (.cells 3 (l.map iv) l.length):=by rw [q01,if_pos rfl]
 refine LstN.app (rows:=q1r bs lv) (xs:=[[.own b 0 l.length l.length]]) hL.sub hL.lst (by simp) rfl (by rw [hrl];simp;omega) ?_
 intro v' S5 hs5 hl5 keep;obtain ⟨q1,q2⟩:=keep b _ hbo hba;rw [<- y1e h.len] at hl5;refine hK v' S5 ⟨hs5,by simp [h.len],hl5,fun j c l' hj hl'=>?_,?_⟩
 ·by_cases hjb:j<bs.length
  ·rw [List.getElem?_append_left hjb] at hj;rw [List.getElem?_append_left (by rw [<- h.len];exact hjb)] at hl'
   obtain ⟨o1,o2,o3⟩:=hL.inn j c l' hj hl';obtain ⟨k1,k2⟩:=keep c _ (objAt_some.1 o1) o3;exact ⟨objAt_some.2 k1,o2,k2⟩
  ·rw [List.getElem?_append_right (by omega)] at hj
   rw [List.getElem?_append_right (by rw [<- h.len];omega),<- h.len] at hl'
   obtain ⟨m,hm⟩:∃ m,j-bs.length=m:=⟨_,rfl⟩;rw [hm] at hj hl';cases m with
   | succ m=>simp at hj
   | zero=>
    simp at hj hl';subst hj;subst hl';exact ⟨objAt_some.2 q1,hb0,q2⟩
 ·refine List.nodup_append.2 ⟨h.nod,by simp,fun x hx y hy e=>?_⟩
  simp at hy;subst hy;obtain ⟨j,hj⟩:=lL hx;exact hbn j x hj e
def InS (s:List Ty) (p:Nat×Nat):Prop:=∃ t,s[p.1]?=some t/\p.2<t.rels.length
theorem ybh {s:List Ty} {t n:ByteArray} {i k:Nat} {r:Rl} (h:q0h s t n=some (i,k,r)):InS s (i,k):=by
 obtain ⟨-,ty,h2,-,h4⟩:=q11 h;exact ⟨ty,h2,(List.getElem?_eq_some_iff.1 h4).1⟩
theorem yy0 {s:List Ty} {refs:List Rf} {n:ByteArray}:∀ p∈q26 s refs n,InS s p:=by
 intro p hp;unfold q26 at hp;obtain ⟨f,-,hf⟩:=List.mem_filterMap.1 hp;split at hf
 ·cases hq:q0h s f.ty n with
  | none=>rw [hq] at hf;cases hf
  | some q=>
   obtain ⟨i,k,r⟩:=q;rw [hq] at hf;cases hf;exact ybh hq
 ·cases hf
theorem ypw {s:List Ty} {t:ByteArray} {r:Rl}:∀ l∈q1c s t r,InS s l.1:=by
 intro l hl;unfold q1c at hl;split at hl
 ·obtain ⟨p,-,hp⟩:=List.mem_flatMap.1 hl;unfold q3r at hp;split at hp
  ·cases hp
  ·rename_i i k r hq
   rcases List.mem_cons.1 hp with rfl | hp
   ·exact ybh hq
   ·split at hp
    ·obtain ⟨q,hq2,rfl⟩:=List.mem_map.1 hp;exact yy0 q hq2
    ·cases hp
 ·obtain ⟨f,-,hf⟩:=List.mem_filterMap.1 hl;unfold q1s at hf;split at hf
  ·cases hf
  ·cases hq:q0h s f.ty f.rl with
   | none=>rw [hq] at hf;cases hf
   | some q=>
    obtain ⟨i,k,r⟩:=q;rw [hq] at hf;cases hf;exact ybh hq
theorem ycv {s:List Ty} {i:Nat} {n:ByteArray}:∀ {l:List Rl} {k:Nat},∀ x∈q38 s i n k l,∀ y∈x.2,InS s y.1
 | [],k,x,hx=>by cases hx
 | r :: l,k,x,hx=>by
  rw [q38] at hx;rcases List.mem_cons.1 hx with rfl | hx
  ·exact ypw
  ·exact ycv x hx
theorem ycs {s:List Ty}:∀ {l:List Ty} {i:Nat},∀ x∈q43 s i l,∀ y∈x.2,InS s y.1
 | [],i,x,hx=>by cases hx
 | t :: l,i,x,hx=>by
  rw [q43] at hx;rcases List.mem_append.1 hx with hx | hx
  ·exact ycv x hx
  ·exact ycs x hx
theorem x86 {lv:Lv} {s:List Ty} (h:Shp lv s) {p:Nat×Nat} (hp:InS s p):In lv p:=by
 obtain ⟨t,h1,h2⟩:=hp;exact yq0 (i:=p.1) (k:=p.2) h h1 h2
theorem ycu {s:List Ty} (hN:OkN s) {i:Nat} {n:ByteArray}:∀ {l:List Rl} {k:Nat},(∀ r∈l,rsz r<=1000)->∀ x∈q38 s i n k l,x.2.length<=4000000
 | [],k,_,x,hx=>by cases hx
 | r :: l,k,h,x,hx=>by
  rw [q38] at hx;rcases List.mem_cons.1 hx with rfl | hx
  ·exact y8d hN (h r (by simp))
  ·exact ycu hN (fun r hr=>h r (lM _ hr)) x hx
theorem ycr {s:List Ty} (hN:OkN s):∀ {l:List Ty} {i:Nat},(∀ t∈l,∀ r∈t.rels,rsz r<=1000)->∀ x∈q43 s i l,x.2.length<=4000000
 | [],i,_,x,hx=>by cases hx
 | t :: l,i,h,x,hx=>by
  rw [q43] at hx;rcases List.mem_append.1 hx with hx | hx
  ·exact ycu hN (h t (by simp)) x hx
  ·exact ycr hN (fun t ht=>h t (lM _ ht)) x hx
theorem y2v {s:List Ty} {rows:List Rw} (hN:rows.length<=1000) (hM:q0n s<=1000) (hok:x2i s rows) (hin:∀ x∈rows,∀ y∈x.2,InS s y.1) (hle:∀ x∈rows,x.2.length<=4000000) {S0 S:q00} {v:AV} {bs:List Nat} {lv:Lv} (hL:LvO S0 S v bs lv) (hS:Shp lv s) (hB:Bdd rows.length lv) :
  ACalls PG yu7 [.sl 3 (rows.map rwC),v] S fun ae S'=>ae=.ret (.bool (q18 rows.length rows (lv,false)).2)/\LvO S0 S' v bs (q18 rows.length rows (lv,false)).1:=by
 refine xfy ?_;unfold xd1;(try simp only [rwp,hwR,zA,zB,zC,zD,zE,zF,zG,zH,zI]);refine LoopP.introS (fun p:Nat×Lv×Bool=>[(0,.sl 3 (rows.map rwC)),(1,v),(5,.bool p.2.2),(6,.int .i64 p.1)])
  (fun p S'=>p.1<=rows.length/\LvO S0 S' v bs p.2.1/\Shp p.2.1 s/\Bdd rows.length p.2.1/\q18 rows.length (rows.drop p.1) p.2=q18 rows.length rows (lv,false)) (fun p=>rows.length-p.1) (0,lv,false) ⟨by omega,hL,hS,hB,rfl⟩ rfl ?_
 clear hL hS hB;rintro ⟨i,lv1,mo⟩ S1 ⟨hi,hL,hS,hB,hf⟩ q hq;dsimp only at hi hL hS hB hf;(try simp only [rwp,hwR,zA,zB,zC,zD,zE,zF,zG,zH,zI,ywc])
 (refine q02 (fun hlt=>?_) (fun hlt=>?_)<;>(try simp only [hlc] at hlt))
 ·obtain ⟨w,hw⟩:=q0c hlt;have hmw:=lB hw;obtain ⟨nd,ln⟩:=w;obtain ⟨ni,nk⟩:=nd;obtain ⟨t,ht,hk⟩:=hok _ hmw;dsimp only at ht hk;have hln:=hle _ hmw;dsimp only at hln;rw [q0i hw,q18] at hf;dsimp only at hf;(try simp only [rwp,hwR,zA,zB,zC,zD,zE,zF,zG,zH,zI,hw,rwC]);refine LoopP.introS (fun p:Nat×Lv×Bool=>[(0,.sl 3 (rows.map rwC)),(1,v),(5,.bool p.2.2),(6,.int .i64 i),(7,.int .i64 ni),(8,.int .i64 nk),(9,.int .i64 p.1)])
   (fun p S'=>p.1<=ln.length/\LvO S0 S' v bs p.2.1/\Shp p.2.1 s/\Bdd rows.length p.2.1/\q15 rows.length (ni,nk) (ln.drop p.1) p.2=q15 rows.length (ni,nk) ln (lv1,mo)) (fun p=>ln.length-p.1) (0,lv1,mo) ⟨by omega,hL,hS,hB,rfl⟩ rfl ?_
  clear hL hS hB;rintro ⟨j,lv2,mo2⟩ S2 ⟨hj,hL,hS,hB,hf2⟩ q2 hq2;dsimp only at hj hL hS hB hf2;(try simp only [rwp,hwR,zA,zB,zC,zD,zE,zF,zG,zH,zI,ywb,hw,rwC])
  (refine q02 (fun hlt2=>?_) (fun hlt2=>?_)<;>(try simp only [hlc] at hlt2))
  ·obtain ⟨l,hl⟩:=q0c hlt2;obtain ⟨m,o⟩:=l;obtain ⟨mi,mk⟩:=m;have hmin:In lv2 (mi,mk):=x86 hS (hin _ hmw _ (lB hl));have hnin:In lv2 (ni,nk):=yq0 hS ht hk;rw [q0i hl,q15] at hf2;dsimp only at hf2;have hphi:=q83 (N:=rows.length) hS;have hMM:q0n s * (rows.length+1)<=1000 * 1001:=Nat.mul_le_mul hM (by omega)
   have hb1:=hB (mi,mk);have hb2:=hB (ni,nk);(try simp only [rwp,hwR,zA,zB,zC,zD,zE,zF,zG,zH,zI,hl,hw,rwC,q2v]);refine hL.rd hmin ?_;have low:∀ x:Nat,x=y02 lv2 (mi,mk)+o.toNat->yg3 (fun ae S'=>ae=.ret (.bool (q18 rows.length rows (lv,false)).2)/\LvO S0 S' v bs (q18 rows.length rows (lv,false)).1) q q2 (.sl 3 (rows.map rwC)) v (.bool mo2) (.int .i64 i) (.int .i64 ni) (.int .i64 nk) (.int .i64 j) (.int .i64 x) S2:=by
    intro x hx;unfold yg3;rw [<- hx] at hf2;refine hL.rd hnin ?_;have keep:¬ (y02 lv2 (ni,nk)<x/\y02 lv2 (ni,nk)<=rows.length)->q2 [(0,.sl 3 (rows.map rwC)),(1,v),(5,.bool mo2),(6,.int .i64 i),(7,.int .i64 ni),(8,.int .i64 nk),(9,.int .i64 ((j:Int)+1))] S2:=fun h=>by
     rw [if_neg h] at hf2;exact hq2 (j+1,lv2,mo2) S2 ⟨by dsimp only;omega,hL,hS,hB,hf2⟩ (by dsimp only;omega)
    (try simp only [rwp,hwR,zA,zB,zC,zD,zE,zF,zG,zH,zI])
    (refine q1l (fun hg=>?_) (fun hg=>?_)<;>(try simp only [rwp,hwR,zA,zB,zC,zD,zE,zF,zG,zH,zI,hg]))
    ·have h1:y02 lv2 (ni,nk)<x:=by simpa using hg
     refine hL.rd hnin ?_;(try simp only [rwp,hwR,zA,zB,zC,zD,zE,zF,zG,zH,zI,hg])
     (refine q02 (fun h2=>?_) (fun h2=>?_)<;>(try simp only [hlc] at h2))
     ·have h3:y02 lv2 (ni,nk)<x/\y02 lv2 (ni,nk)<=rows.length:=⟨h1,by simpa using h2⟩
      rw [if_pos h3] at hf2;rw [hx] at h3;obtain ⟨k1,k2⟩:=q6c (N:=rows.length) (m:=(mi,mk)) (o:=o) hnin hB h3;rw [<- hx] at k1;(try simp only [rwp,hwR,zA,zB,zC,zD,zE,zF,zG,zH,zI,yaf]);refine hL.wr (x:=x) hnin fun S3 hL3=>?_
      (try simp only [rwp,hwR,zA,zB,zC,zD,zE,zF,zG,zH,zI])
      (simp (disch:=omega) only [q05])
      exact q09 rfl (hq2 (j+1,y2n lv2 (ni,nk) x,true) S3 ⟨by dsimp only;omega,hL3,yax hS _ _,k1,hf2⟩ (by dsimp only;omega))
     ·(try simp only [rwp,hwR,zA,zB,zC,zD,zE,zF,zG,zH,zI,yaf])
      (simp (disch:=omega) only [q05])
      refine q09 rfl (keep fun h=>?_)
      have:=h.2;simp at h2;omega
    ·have h1:¬ y02 lv2 (ni,nk)<x:=by simpa using hg
     (try simp only [rwp,hwR,zA,zB,zC,zD,zE,zF,zG,zH,zI,yaf,hg])
     (simp (disch:=omega) only [q05])
     exact q09 rfl (keep fun h=>h1 h.1)
   cases o with
   | true=>
    (try simp only [rwp,hwR,zA,zB,zC,zD,zE,zF,zG,zH,zI]);rw [q05 (by omega) (by omega)]
    exact low (y02 lv2 (mi,mk)+1) rfl
   | false=>
    (try simp only [rwp,hwR,zA,zB,zC,zD,zE,zF,zG,zH,zI]);exact low (y02 lv2 (mi,mk)) rfl
  ·rw [q12 hlt2,q15] at hf2;rw [<- hf2] at hf
   (simp (disch:=omega) only [q05])
   exact q09 rfl (hq (i+1,lv2,mo2) S2 ⟨by dsimp only;omega,hL,hS,hB,hf⟩ (by dsimp only;omega))
 ·rw [q12 hlt,q18] at hf;exact q04 ⟨by rw [<- hf],by rw [<- hf];exact hL⟩
set_option maxRecDepth 4000
theorem y90 {s:List Ty} (hs:OkS s) (h1:s.length<=16) (h2:∀ t∈s,t.rels.length<=16):AFun PG yuh [scA s] (.int .i64 (q0n s)):=by
 intro S;refine xgb ?_;unfold xde;(try simp only [rwp,hwR,zA,zB,zC,zD,zE,zF,zG,zH,zI,scA]);have hm:=ydq h1 h2;refine LoopP.introS (fun p:Nat×Nat=>[(1,.rop [.sl 2 (s.map tyC)]),(3,.int .i64 p.2),(4,.int .i64 p.1)])
  (fun p S'=>S'=S/\p.1<=s.length/\p.2+q0n (s.drop p.1)=q0n s) (fun p=>s.length-p.1) (0,0) ⟨rfl,by omega,by simp⟩ rfl ?_
 rintro ⟨i,n⟩ S1 ⟨rfl,hi,hf⟩ q hq;dsimp only at hi hf;(try simp only [rwp,hwR,zA,zB,zC,zD,zE,zF,zG,zH,zI,ywq])
 (refine q02 (fun hlt=>?_) (fun hlt=>?_)<;>(try simp only [hlc] at hlt))
 ·obtain ⟨t,ht⟩:=q0c hlt;rw [q0i ht] at hf;have e1:q0n (t :: s.drop (i+1))=t.rels.length+q0n (s.drop (i+1)):=by simp [q0n]
  rw [e1] at hf;(try simp only [rwp,hwR,zA,zB,zC,zD,zE,zF,zG,zH,zI,ht,tyC]);rw [show (n:Int)+(t.rels.length:Int)=((n+t.rels.length:Nat):Int) by omega]
  (simp (disch:=omega) only [q05])
  exact q09 rfl (hq (i+1,n+t.rels.length) _ ⟨rfl,by dsimp only;omega,by dsimp only;omega⟩ (by dsimp only;omega))
 ·rw [q12 hlt] at hf;have:n=q0n s:=by rw [<- hf];rfl
  exact q04 ⟨by rw [this],rfl⟩
theorem yg8 {s:List Ty} {i:Nat} {t:Ty} (h:s[i]?=some t):q68 (s.take (i+1))=q68 (s.take i)++[lG t.rels.length 0]:=by
 rw [q0t h];simp [q68]
theorem q67 {s:List Ty} (hs:OkS s) (hN:OkN s) (hg:GoodS s):AFun PG x6q [scA s] (.sl 1 (lvC (y05 s))):=by
 intro S;have hsz:=hg.sizes;have hmany:=hg.many;have hrows:=y5d s;refine xl0 ?_;unfold xji;(try simp only [rwp,hwR,zA,zB,zC,zD,zE,zF,zG,zH,zI,scA]);refine LoopP.introS (fun p:Nat×AV×List Nat=>[(1,.rop [.sl 2 (s.map tyC)]),(3,p.2.1),(4,.int .i64 p.1)])
  (fun p S'=>p.1<=s.length/\LvO S S' p.2.1 p.2.2 (q68 (s.take p.1))) (fun p=>s.length-p.1) (0,.nils,[]) ⟨by omega,LvO.nil S (Sub.refl S)⟩ rfl ?_
 rintro ⟨i,v,bs⟩ S1 ⟨hi,hL⟩ q hq;dsimp only at hi hL;(try simp only [rwp,hwR,zA,zB,zC,zD,zE,zF,zG,zH,zI,xa6])
 (refine q02 (fun hlt=>?_) (fun hlt=>?_)<;>(try simp only [hlc] at hlt))
 ·obtain ⟨t,ht⟩:=q0c hlt;have htn:=hsz.2.1 t (lB ht);(try simp only [rwp,hwR,zA,zB,zC,zD,zE,zF,zG,zH,zI,ht,tyC]);refine ⟨t.rels.length,rfl,rfl,by omega,fun b hb=>?_⟩
  have hz:lG t.rels.length (AV.int .i64 0)=(lG t.rels.length 0).map iv:=by rw [List.map_replicate];rfl
  have h1:=LvO.app hL hb (lG t.rels.length 0) (by simp [q68];omega) (K:=fun v' S'=>rcW q [(1,.rop [.sl 2 (s.map tyC)]),(3,v'),(4,.int .i64 (IntKind.i64.wrap ((i:Int)+1)))] S') fun v' S2 hL2=>by
   (simp (disch:=omega) only [q05])
   refine q09 rfl (hq (i+1,v',bs++[b]) S2 ⟨by dsimp only;omega,?_⟩ (by dsimp only;omega))
   rw [yg8 ht];exact hL2
  rw [List.length_replicate,<- hz] at h1;(try simp only [rwp,hwR,zA,zB,zC,zD,zE,zF,zG,zH,zI]);exact h1
 ·have hend:s.take i=s:=lF (by omega)
  rw [hend] at hL;(try simp only [rwp,hwR,zA,zB,zC,zD,zE,zF,zG,zH,zI]);refine q06 (by simpa only [scA] using y8z hs hN hg) ?_
  refine LoopP.introS (fun p:Nat×Lv=>[(3,v),(5,.sl 3 ((q2c s).map rwC)),(6,.int .i64 p.1)])
   (fun p S'=>p.1<=70000/\LvO S S' v bs p.2/\Shp p.2 s/\Bdd (q2c s).length p.2/\q51 (q2c s).length (q2c s) (70000-p.1) p.2=y05 s) (fun p=>70000-p.1) (0,q68 s) ⟨by omega,hL,q5i s,q4k,by rw [hrows];rfl⟩ rfl ?_
  clear hL;rintro ⟨n,lv⟩ S2 ⟨hn,hL,hS,hB,hf⟩ q2 hq2;dsimp only at hn hL hS hB hf;(try simp only [rwp,hwR,zA,zB,zC,zD,zE,zF,zG,zH,zI,xa5])
  (refine q02 (fun hlt2=>?_) (fun hlt2=>?_)<;>(try simp only [hlc] at hlt2))
  ·obtain ⟨m,hm⟩:∃ m,70000-n=m+1:=⟨70000-n-1,by omega⟩
   rw [hm,q51] at hf;refine q0k (y2v (s:=s) (rows:=q2c s) (by omega) (by omega) (q4w s) (ycs) (ycr hN hN) hL hS hB) ?_
   rintro _ S3 ⟨rfl,hL3⟩;obtain ⟨k1,k2,k3,k4,k5,k6⟩:=q33 (N:=(q2c s).length) (a:=(lv,false)) (q4w s) hS hB;generalize hR:q18 (q2c s).length (q2c s) (lv,false)=R at hL3 k1 k2 hf ⊢;obtain ⟨lv2,mo2⟩:=R;dsimp only at hL3 k1 k2 hf ⊢;cases mo2 with
   | true=>
    (try simp only [rwp,hwR,zA,zB,zC,zD,zE,zF,zG,zH,zI]);rw [if_pos rfl] at hf
    (simp (disch:=omega) only [q05])
    refine q09 rfl (hq2 (n+1,lv2) S3 ⟨by dsimp only;omega,hL3,k1,k2,?_⟩ (by dsimp only;omega))
    dsimp only;rw [show 70000-(n+1)=m by omega]
    exact hf
   | false=>
    (try simp only [rwp,hwR,zA,zB,zC,zD,zE,zF,zG,zH,zI]);rw [if_neg (by simp)] at hf
    subst hf;exact q9h (vs:=[v]) rfl (ShV.lv hL3) ⟨rfl,rfl⟩
  ·rw [show 70000-n=0 by omega,q51] at hf
   subst hf;exact q9h (vs:=[v]) rfl (ShV.lv hL) ⟨rfl,rfl⟩
theorem y6k {s:List Ty} (hs:OkS s) (hN:OkN s):AFun PG x70 [scA s] (y08 s):=by
 intro S;refine xlb ?_;unfold xjt;(try simp only [rwp,hwR,zA,zB,zC,zD,zE,zF,zG,zH,zI,scA]);intro b hb;(try simp only [rwp,hwR,zA,zB,zC,zD,zE,zF,zG,zH,zI]);refine q06 (by simpa only [scA] using y6h hs) ?_
 obtain ⟨ft,fr,fe,hp⟩:=y17 s;rw [hp];have ret:∀ x y z:Int,y08 s=flA x y z->rtW [.cell (.ptr b 0) 3 true] (fun ae S'=>ae=.ret (y08 s)/\S'=S) (supd S b (.cells 88 [.int .i64 x,.int .i64 y,.int .i64 z] 3)):=by
  intro x y z hp;refine q1d S (Sub.fresh _ hb) ?_;(try simp only [rwp,hwR,zA,zB,zC,zD,zE,zF,zG,zH,zI]);rw [hp];rfl
 (try simp only [rwp,hwR,zA,zB,zC,zD,zE,zF,zG,zH,zI,flA])
 (refine q02 (fun h0=>?_) (fun h0=>?_)<;>(try simp only [hlc] at h0))
 ·refine ret _ _ _ ?_;rw [y08,hp,q1w,if_pos h0]<;>rfl
 have hg:GoodS s:=q81 (by rw [hp,q1w];omega)
 have hck:y08 s=flO (q2y s (y65 s)):=by rw [y08,hp,q1w,if_neg (by simp [h0])]
 have hsz:=hg.sizes;have hmany:=hg.many;(try simp only [rwp,hwR,zA,zB,zC,zD,zE,zF,zG,zH,zI]);refine q06 (by simpa only [scA] using q67 hs hN hg) ?_
 (try simp only [rwp,hwR,zA,zB,zC,zD,zE,zF,zG,zH,zI]);refine q06 (by simpa only [scA] using y90 hs hsz.1 hsz.2.1) ?_
 have hll:(y05 s).length=s.length:=y58 (q45 s);refine LoopP.introS (fun i:Nat=>[(2,.ptr b 0),(4,.sl 1 (lvC (y05 s))),(5,.int .i64 (q0n s)),(6,.int .i64 i)])
  (fun i S'=>S'=supd S b (.cells 88 [.int .i64 0,.int .i64 0,.int .i64 0] 3)/\i<=s.length/\(q2w (fun (_:Unit) i k t r=>(y65 s i k t r,())) i (s.drop i) ()).1=q2y s (y65 s)) (fun i=>s.length-i) 0 ⟨rfl,by omega,rfl⟩ rfl ?_
 rintro i _ ⟨rfl,hi,hf⟩ q hq;have hcl0:(lvC (y05 s)).length=s.length:=by simp [lvC,hll]
 (try simp only [rwp,hwR,zA,zB,zC,zD,zE,zF,zG,zH,zI,xaj])
 (refine q02 (fun hlt=>?_) (fun hlt=>?_)<;>(try simp only [hlc] at hlt))<;>rw [hcl0] at hlt
 ·obtain ⟨t,ht⟩:=q0c hlt;obtain ⟨l,hl,hlen⟩:=q7x (q45 s) ht;have htn:=hsz.2.1 t (lB ht);have hcl:(lvC (y05 s))[i]?=some [.sl 1 (l.map fun x=>[iv x])]:=by rw [lvC,lC,hl];rfl
  rw [q0i ht,q2w] at hf;refine LoopP.introS (fun k:Nat=>[(2,.ptr b 0),(4,.sl 1 (lvC (y05 s))),(5,.int .i64 (q0n s)),(6,.int .i64 i),(7,.int .i64 k)])
   (fun k S'=>S'=supd S b (.cells 88 [.int .i64 0,.int .i64 0,.int .i64 0] 3)/\k<=t.rels.length/\q2x (fun (_:Unit) k r=>(y65 s i k t r,())) k (t.rels.drop k) ()=q2x (fun (_:Unit) k r=>(y65 s i k t r,())) 0 t.rels ()) (fun k=>t.rels.length-k) 0 ⟨rfl,by omega,rfl⟩ rfl ?_
  rintro k _ ⟨rfl,hk,hf2⟩ q2 hq2;have hlm:(l.map fun x=>[iv x]).length=t.rels.length:=by rw [lA,hlen]
  (try simp only [rwp,hwR,zA,zB,zC,zD,zE,zF,zG,zH,zI,xai,hcl])
  (refine q02 (fun hlt2=>?_) (fun hlt2=>?_)<;>(try simp only [hlc] at hlt2))<;>(try simp only [lA] at hlt2)<;>rw [hlen] at hlt2
  ·obtain ⟨r,hr⟩:=q0c hlt2;have hkl:k<l.length:=by omega
   have hgx:y02 (y05 s) (i,k)=l[k]:=by simp [y02,hl,lE hkl]
   have hxk:l[k]?=some l[k]:=lE hkl;rw [q0i hr,q2x] at hf2;(try simp only [rwp,hwR,zA,zB,zC,zD,zE,zF,zG,zH,zI,hcl,hxk,Option.map_some])
   (refine q02 (fun hc=>?_) (fun hc=>?_)<;>(try simp only [hlc] at hc))
   ·have he:y65 s i k t r=11:=by rw [y65,hgx,if_pos (by omega)]
    rw [he,if_neg (by decide)] at hf2
    rw [<- hf2] at hf;(try simp only [rwp,hwR,zA,zB,zC,zD,zE,zF,zG,zH,zI]);refine ret _ _ _ ?_;rw [hck,<- hf];rfl
   ·have he:y65 s i k t r=0:=by rw [y65,hgx,if_neg (by omega)]
    rw [he,if_pos rfl] at hf2
    (simp (disch:=omega) only [q05])
    exact q09 rfl (hq2 (k+1) _ ⟨rfl,by omega,hf2⟩ (by omega))
  ·rw [q12 hlt2,q2x] at hf2;rw [<- hf2] at hf
   (simp (disch:=omega) only [q05])
   exact q09 rfl (hq (i+1) _ ⟨rfl,by omega,hf⟩ (by omega))
 ·rw [q12 hlt,q2w] at hf;(try simp only [rwp,hwR,zA,zB,zC,zD,zE,zF,zG,zH,zI]);refine ret _ _ _ ?_;rw [hck,<- hf];rfl
theorem y2w {s:List Ty} (hs:OkS s) (hN:OkN s):AFun PG x7b [scA s] (ypr s):=by
 intro S;refine xln ?_;unfold xk4;(try simp only [rwp,hwR,zA,zB,zC,zD,zE,zF,zG,zH,zI,scA]);refine q06 (by simpa only [scA] using y6k hs hN) ?_
 obtain ⟨ft,fr,fe,hp⟩:=ylv s;rw [hp];(try simp only [rwp,hwR,zA,zB,zC,zD,zE,zF,zG,zH,zI,flA])
 (refine q02 (fun h0=>?_) (fun h0=>?_)<;>(try simp only [hlc] at h0))
 ·exact q3n ⟨by rw [ypr,hp,q1w,if_neg (by omega)],rfl⟩
 have hg:GoodS s:=q28 (by rw [hp,q1w];omega)
 refine q06 (by simpa only [scA] using q67 hs hN hg) ?_
 (try simp only [rwp,hwR,zA,zB,zC,zD,zE,zF,zG,zH,zI]);exact q3n ⟨by rw [ypr,hp,q1w,if_pos (by omega)],rfl⟩
theorem yaq:∀ {l:List Nat} {x:Nat},x∈l->x<=l.sum
 | [],x,h=>by cases h
 | y :: l,x,h=>by
  rw [List.sum_cons];rcases List.mem_cons.1 h with rfl | h
  ·omega
  ·have:=yaq h;omega
theorem xi5 {s:List Ty} {most:Int} (h:yq8 s most=true) (hm:most<=1000):OkN s:=by
 have h1:=yq7 h;intro t ht r hr;have h2:rsz r<=tsz t:=by
  unfold tsz;exact yaq (List.mem_map_of_mem hr)
 have h3:tsz t<=(s.map tsz).sum:=yaq (List.mem_map_of_mem ht);unfold ssz at h1;omega
set_option maxRecDepth 4000
structure Ob where
 ty:ByteArray
 id:ByteArray
 deriving DecidableEq
structure Nd where
 o:Ob
 rl:ByteArray
 deriving DecidableEq
structure Tu where
 o:Ob
 rl:ByteArray
 s:Nd
 deriving DecidableEq
def obC (o:Ob):List AV:=[.str o.ty,.str o.id]
def ndC (n:Nd):List AV:=[.str n.o.ty,.str n.o.id,.str n.rl]
def tuC (t:Tu):List AV:=[.str t.o.ty,.str t.o.id,.str t.rl,.str t.s.o.ty,.str t.s.o.id,.str t.s.rl]
structure OkO (o:Ob):Prop where
 ty:o.ty.size<=1125899906842624
 id:o.id.size<=1125899906842624
structure OkD (n:Nd):Prop where
 o:OkO n.o
 rl:n.rl.size<=1125899906842624
structure OkU (t:Tu):Prop where
 o:OkO t.o
 rl:t.rl.size<=1125899906842624
 s:OkD t.s
theorem y6m (n:Int):AFun PG ysj [.int .u8 n] (.bool (yl8 n)):=by
 intro S;refine xe2 ?_;unfold xb5;(try simp only [rwp,zA,zB,zC,zD,zE,zF,zG,zH,zI]);exact q04 ⟨rfl,rfl⟩
theorem q8m (s:ByteArray) (c:Int):AFun PG 216 [.str s,.int .u8 c] (.int .i64 (Lib.indexByte s.data.toList c.toNat.toUInt8)):=by
 intro S R w vs hs hv;obtain ⟨l⟩:=vs
 match l,hv with
 | [],hv=>cases hv.1
 | [_],hv=>cases hv.1
 | _ :: _ :: _ :: _,hv=>cases hv.1
 | [a,b],hv=>
  have h1:RV R w (.str s) a:=hv.head;have h2:RV R w (.int .u8 c) b:=hv.tail.head;cases h1;cases h2;refine .inr ⟨_,w,?_,R,S,.ret (.int .i64 (Lib.indexByte s.data.toList c.toNat.toUInt8)),.int _ _,⟨rfl,rfl⟩,hs,Step.refl _ _ _⟩;rw [run_callFunc_extern Go.Proofs.Tryz.func216 (by kernel_rfl) (by kernel_rfl) (by kernel_rfl) (e:=Extern.BytealgIndexByte.indexByte) (by kernel_rfl),Lib.run_indexByteString]
  rfl
theorem y98 (s:ByteArray) (c:Int):AFun PG ys7 [.str s,.int .u8 c] (.int .i64 (Lib.indexByte s.data.toList c.toNat.toUInt8)):=by
 intro S;refine xds ?_;unfold xav;refine q06 (q8m s c) ?_;exact q04 ⟨rfl,rfl⟩
theorem yc5 (s:ByteArray) (c:Int):AFun PG ysi [.str s,.int .u8 c] (.int .i64 (Lib.indexByte s.data.toList c.toNat.toUInt8)):=by
 intro S;refine xe1 ?_;unfold xb4;refine q06 (y98 s c) ?_;exact q04 ⟨rfl,rfl⟩
def yxn (n:Int):Bool:=decide (n=95)||(decide (n=46)||decide (n=45))
theorem yov {b:UInt8}:decide ((0:Int)<=Lib.indexByte [95,46,45] b.toNat.toUInt8)=yxn b.toNat:=by
 have key:∀ n:Fin 256,decide ((0:Int)<=Lib.indexByte [95,46,45] n.1.toUInt8)=yxn n.1:=by decide +kernel
 exact key ⟨b.toNat,b.toNat_lt⟩
def idN (n:Int):Bool:=q61 n||(yl8 n||(y1x n||yxn n))
theorem y94 (b:UInt8):AFun PG ysk [.int .u8 b.toNat] (.bool (idN b.toNat)):=by
 intro S;refine xe3 ?_;unfold xb6;refine q06 (q4i b.toNat) ?_;cases h1:q61 b.toNat
 ·(try simp only [rwp,zA,zB,zC,zD,zE,zF,zG,zH,zI]);refine q06 (y6m b.toNat) ?_;cases h2:yl8 b.toNat
  ·(try simp only [rwp,zA,zB,zC,zD,zE,zF,zG,zH,zI,y9u]);refine q06 (q7f b.toNat) ?_;cases h3:y1x b.toNat
   ·(try simp only [rwp,zA,zB,zC,zD,zE,zF,zG,zH,zI,y4r]);refine q06 (yc5 _ _) ?_;(try simp only [rwp,zA,zB,zC,zD,zE,zF,zG,zH,zI]);exact q04 ⟨by rw [yov];simp [idN,h1,h2,h3],rfl⟩
   ·(try simp only [rwp,zA,zB,zC,zD,zE,zF,zG,zH,zI,y4r]);exact q04 ⟨by simp [idN,h1,h2,h3],rfl⟩
  ·(try simp only [rwp,zA,zB,zC,zD,zE,zF,zG,zH,zI,y9u,y4r]);exact q04 ⟨by simp [idN,h1,h2],rfl⟩
 ·(try simp only [rwp,zA,zB,zC,zD,zE,zF,zG,zH,zI,y9u,y4r]);exact q04 ⟨by simp [idN,h1],rfl⟩
def idB (s:ByteArray):Bool:=yog idN s&&(decide ((0:Int)<s.size)&&decide ((s.size:Int)<=24))
theorem yhn {s:ByteArray} (hs:s.size<=1125899906842624):AFun PG yt8 [.str s] (.bool (idB s)):=by
 intro S;refine xeu ?_;unfold xbx;refine q06 (q93 y94 hs 24) ?_;exact q04 ⟨rfl,rfl⟩
theorem nb1:∀ a b c d e:Bool,(!(a&&b)&&!c&&!d&&!e)=!((a&&b)||(c||(d||e))):=by decide
theorem nb2:∀ z a b c d e:Bool,(!z&&!(a&&b)&&!c&&!d&&!e)=!(z||((a&&b)||(c||(d||e)))):=by decide
theorem y4a {s:ByteArray} (hs:s.size<=1125899906842624):AFun PG x6l [.str s] (.bool (idB s)):=by
 intro S;refine xku ?_;unfold xjc;(try simp only [rwp,zA,zB,zC,zD,zE,zF,zG,zH,zI,x1i])
 (refine q02 (fun h0=>?_) (fun h0=>?_)<;>(try simp only [rwp,zA,zB,zC,zD,zE,zF,zG,zH,zI,h0]))
 ·simp only [Bool.or_eq_true,decide_eq_true_eq] at h0;refine q04 ⟨?_,rfl⟩;have:idB s=false:=by
   rcases h0 with h | h
   ·simp only [idB,decide_eq_false (show ¬ (0:Int)<s.size by omega),Bool.false_and,Bool.and_false]
   ·simp only [idB,decide_eq_false (show ¬ (s.size:Int)<=24 by omega),Bool.and_false]
  rw [this]
 ·simp only [Bool.or_eq_false_iff,decide_eq_false_iff_not] at h0;refine LoopP.intro (fun i:Nat=>[(0,.str s),(3,.int .i64 i)]) (fun _=>S) (fun i=>i<=s.size/\∀ j b,j<i->s[j]?=some b->idN b.toNat=true) (fun i=>s.size-i) 0 ⟨by omega,by omega⟩ rfl (Sub.refl S) ?_
  rintro i ⟨hi,hn⟩ r hr;(try simp only [rwp,zA,zB,zC,zD,zE,zF,zG,zH,zI,x9w])
  (refine q02 (fun hlt=>?_) (fun hlt=>?_)<;>(try simp only [hlc] at hlt))
  ·obtain ⟨b,hb⟩:=q4j hlt;(try simp only [rwp,zA,zB,zC,zD,zE,zF,zG,zH,zI,hb]);have good:idN b.toNat=true->r [(0,.str s),(3,.int .i64 ((i:Int)+1))] S:=fun h=>by
    refine hr (i+1) ⟨by omega,fun j c hj hc=>?_⟩ (by omega)
    rcases Nat.lt_succ_iff_lt_or_eq.1 hj with h1 | rfl
    ·exact hn j c h1 hc
    ·rw [hb] at hc;cases hc;exact h
   have bad:idN b.toNat=false->idB s=false:=fun h=>by simp only [idB,q8o hb h,Bool.false_and]
   cases a1:(decide (97<=(b.toNat:Int))&&decide ((b.toNat:Int)<=122))<;>cases a2:decide (65<=(b.toNat:Int))<;>(try simp only [rwp,zA,zB,zC,zD,zE,zF,zG,zH,zI,x1h,x1g,x1f,x1e,x1d,x1c,x1b,ymw,a1,a2])
   all_goals have key:idN b.toNat=((decide (97<=(b.toNat:Int))&&decide ((b.toNat:Int)<=122))||((decide (65<=(b.toNat:Int))&&decide ((b.toNat:Int)<=90))||((decide (48<=(b.toNat:Int))&&decide ((b.toNat:Int)<=57))||(decide ((b.toNat:Int)=95)||(decide ((b.toNat:Int)=46)||decide ((b.toNat:Int)=45)))))):=rfl
   all_goals rw [a1,a2] at key
   ·simp only [Bool.false_or,Bool.false_and] at key
    (refine q02 (fun h9=>?_) (fun h9=>?_)<;>(try simp only [rwp,zA,zB,zC,zD,zE,zF,zG,zH,zI,h9]))
    ·exact q04 ⟨by rw [bad (key.trans (Eq.mp (Bool.not_eq_true' _) ((nb1 _ _ _ _ _).symm.trans h9)))],rfl⟩
    ·(simp (disch:=omega) only [q05]);exact q09 rfl (good (key.trans (Eq.mp (Bool.not_eq_false' _) ((nb1 _ _ _ _ _).symm.trans h9))))
   ·simp only [Bool.false_or,Bool.true_and] at key
    (refine q02 (fun h9=>?_) (fun h9=>?_)<;>(try simp only [rwp,zA,zB,zC,zD,zE,zF,zG,zH,zI,h9]))
    ·exact q04 ⟨by rw [bad (key.trans (Eq.mp (Bool.not_eq_true' _) ((nb2 _ _ _ _ _ _).symm.trans h9)))],rfl⟩
    ·(simp (disch:=omega) only [q05]);exact q09 rfl (good (key.trans (Eq.mp (Bool.not_eq_false' _) ((nb2 _ _ _ _ _ _).symm.trans h9))))
   ·(simp (disch:=omega) only [q05]);exact q09 rfl (good key)
   ·(simp (disch:=omega) only [q05]);exact q09 rfl (good key)
  ·have hall:yog idN s=true:=allB_iff.2 fun j c hc=>hn j c (by have:=q7j hc;omega) hc
   refine q04 ⟨?_,rfl⟩;rw [idB,hall,decide_eq_true (show (0:Int)<s.size by omega),decide_eq_true (show (s.size:Int)<=24 by omega)]
   rfl
def obB (o:Ob):Bool:=q0v o.ty&&idB o.id
def tuB (t:Tu):Bool:=obB t.o&&(obB t.s.o&&(q0v t.rl&&(decide (t.s.rl=⟨#[]⟩)||q0v t.s.rl)))
def q4p (o:Ob):ByteArray:=if obB o then o.ty++⟨#[58]⟩++o.id else ⟨#[]⟩
def q6b (n:Nd):ByteArray:=if obB n.o then (if n.rl=⟨#[]⟩ then q4p n.o else if q0v n.rl then q4p n.o++⟨#[35]⟩++n.rl else ⟨#[]⟩) else ⟨#[]⟩
def q96 (t:Tu):ByteArray:=if tuB t then q4p t.o++⟨#[35]⟩++t.rl++⟨#[64]⟩++q6b t.s else ⟨#[]⟩
theorem q3y {a b:ByteArray}:(a++b).size=a.size+b.size:=by simp
theorem yma {a b:ByteArray} (h:0<a.size\/0<b.size):¬ a++b=⟨#[]⟩:=fun e=>by
 have:=congrArg ByteArray.size e;rw [q3y] at this;have:(ByteArray.mk #[]).size=0:=rfl;omega
theorem q42 {o:Ob} (ho:OkO o):AFun PG yu4 [.agg (obC o)] (.str (q4p o)):=by
 intro S;refine xfv ?_;unfold xcy;(try simp only [rwp,zA,zB,zC,zD,zE,zF,zG,zH,zI,rwb,reduceIte,obC]);refine q06 (q16 ho.ty) ?_;have h1:=ho.ty;have h2:=ho.id;cases a1:q0v o.ty
 ·(try simp only [rwp,zA,zB,zC,zD,zE,zF,zG,zH,zI,rwb,reduceIte,yac]);exact q04 ⟨by simp [q4p,obB,a1],rfl⟩
 ·(try simp only [rwp,zA,zB,zC,zD,zE,zF,zG,zH,zI,rwb,reduceIte]);refine q06 (yhn ho.id) ?_;cases a2:idB o.id
  ·(try simp only [rwp,zA,zB,zC,zD,zE,zF,zG,zH,zI,rwb,reduceIte,yac]);exact q04 ⟨by simp [q4p,obB,a1,a2],rfl⟩
  ·(try simp only [rwp,zA,zB,zC,zD,zE,zF,zG,zH,zI,rwb,reduceIte,yac,ByteArray.size_append]);refine ⟨?_,?_,q04 ⟨by simp [q4p,obB,a1,a2],rfl⟩⟩
   ·have:(ByteArray.mk #[58]).size=1:=rfl;omega
   ·have:(ByteArray.mk #[58]).size=1:=rfl;omega
theorem q6x {o:Ob} (ho:OkO o):(q4p o).size<=2251799813685249:=by
 have h1:=ho.ty;have h2:=ho.id;unfold q4p;split
 ·rw [q3y,q3y];have:(ByteArray.mk #[58]).size=1:=rfl;omega
 ·exact Nat.zero_le _
theorem q4u {o:Ob}:decide (q4p o=⟨#[]⟩)=!obB o:=by
 unfold q4p;cases h:obB o
 ·rfl
 ·rw [if_pos rfl];refine decide_eq_false (yma (.inl ?_));rw [q3y];have:(ByteArray.mk #[58]).size=1:=rfl;omega
theorem q6m {n:Nd} (hn:OkD n):AFun PG yu3 [.agg (ndC n)] (.str (q6b n)):=by
 intro S;refine xfu ?_;unfold xcx;(try simp only [rwp,zA,zB,zC,zD,zE,zF,zG,zH,zI,rwb,reduceIte,ndC]);have q:=q42 hn.o;simp only [obC] at q;have h1:=q6x hn.o;have h2:=hn.rl;refine q06 q ?_;(try simp only [rwp,zA,zB,zC,zD,zE,zF,zG,zH,zI,rwb,reduceIte]);rw [q4u];cases a1:obB n.o
 ·(try simp only [rwp,zA,zB,zC,zD,zE,zF,zG,zH,zI,rwb,reduceIte,yab]);exact q04 ⟨by simp [q6b,q4p,a1],rfl⟩
 ·cases a2:decide (n.rl=⟨#[]⟩)
  ·(try simp only [rwp,zA,zB,zC,zD,zE,zF,zG,zH,zI,rwb,reduceIte,yab,a2]);have a2:=of_decide_eq_false a2;refine q06 (q16 hn.rl) ?_;cases a3:q0v n.rl
   ·(try simp only [rwp,zA,zB,zC,zD,zE,zF,zG,zH,zI,rwb,reduceIte]);exact q04 ⟨by simp [q6b,a1,a2,a3],rfl⟩
   ·(try simp only [rwp,zA,zB,zC,zD,zE,zF,zG,zH,zI,rwb,reduceIte,ByteArray.size_append]);have:(ByteArray.mk #[35]).size=1:=rfl;exact ⟨by omega,by omega,q04 ⟨by simp [q6b,a1,a2,a3],rfl⟩⟩
  ·(try simp only [rwp,zA,zB,zC,zD,zE,zF,zG,zH,zI,rwb,reduceIte,yab,a2]);have a2:=of_decide_eq_true a2;exact q04 ⟨by simp [q6b,a1,a2],rfl⟩
theorem ycm {n:Nd} (hn:OkD n):(q6b n).size<=4503599627370496:=by
 have h1:=q6x hn.o;have h2:=hn.rl;have:(ByteArray.mk #[35]).size=1:=rfl;unfold q6b
 repeat' split
 ·omega
 ·rw [q3y,q3y];omega
 ·exact Nat.zero_le _
 ·exact Nat.zero_le _
theorem y7e {n:Nd}:decide (q6b n=⟨#[]⟩)=!(obB n.o&&(decide (n.rl=⟨#[]⟩)||q0v n.rl)):=by
 unfold q6b;cases h1:obB n.o
 ·rfl
 ·rw [if_pos rfl];by_cases h2:n.rl=⟨#[]⟩
  ·rw [if_pos h2,q4u,h1,decide_eq_true h2];rfl
  ·rw [if_neg h2,decide_eq_false h2];cases h3:q0v n.rl
   ·rfl
   ·rw [if_pos rfl];refine decide_eq_false (yma (.inl ?_));rw [q3y];have:(ByteArray.mk #[35]).size=1:=rfl;omega
theorem yry (t:Tu):tuB t=(obB t.o&&((obB t.s.o&&(decide (t.s.rl=⟨#[]⟩)||q0v t.s.rl))&&q0v t.rl)):=by
 unfold tuB;cases obB t.o<;>cases obB t.s.o<;>cases q0v t.rl<;>simp
theorem y7d {t:Tu}:decide (q96 t=⟨#[]⟩)=!tuB t:=by
 unfold q96;cases h1:tuB t
 ·rfl
 ·rw [if_pos rfl];refine decide_eq_false (yma (.inl ?_));rw [q3y];have:(ByteArray.mk #[64]).size=1:=rfl;omega
theorem q8l {t:Tu} (ht:OkU t):AFun PG x66 [.agg (tuC t)] (.str (q96 t)):=by
 intro S;refine xkd ?_;unfold xiv;(try simp only [rwp,zA,zB,zC,zD,zE,zF,zG,zH,zI,rwb,reduceIte,tuC]);have q1:=q42 ht.o;have q2:=q6m ht.s;simp only [obC] at q1;simp only [ndC] at q2;have h1:=q6x ht.o;have h2:=ycm ht.s;have h3:=ht.rl;refine q06 q1 ?_;(try simp only [rwp,zA,zB,zC,zD,zE,zF,zG,zH,zI,rwb,reduceIte]);refine q06 q2 ?_;(try simp only [rwp,zA,zB,zC,zD,zE,zF,zG,zH,zI,rwb,reduceIte]);have e:=yry t;rw [q4u,y7e];cases a1:obB t.o
 ·(try simp only [rwp,zA,zB,zC,zD,zE,zF,zG,zH,zI,rwb,reduceIte,ymt,yif]);exact q04 ⟨by simp [q96,e,a1],rfl⟩
 ·cases a2:(obB t.s.o&&(decide (t.s.rl=⟨#[]⟩)||q0v t.s.rl))
  ·(try simp only [rwp,zA,zB,zC,zD,zE,zF,zG,zH,zI,rwb,reduceIte,ymt,yif]);exact q04 ⟨by simp only [q96,e,a1,a2];rfl,rfl⟩
  ·(try simp only [rwp,zA,zB,zC,zD,zE,zF,zG,zH,zI,rwb,reduceIte,ymt]);refine q06 (q16 ht.rl) ?_;cases a3:q0v t.rl
   ·(try simp only [rwp,zA,zB,zC,zD,zE,zF,zG,zH,zI,rwb,reduceIte,yif]);exact q04 ⟨by simp only [q96,e,a1,a2,a3];rfl,rfl⟩
   ·(try simp only [rwp,zA,zB,zC,zD,zE,zF,zG,zH,zI,rwb,reduceIte,yif,ByteArray.size_append]);have:(ByteArray.mk #[35]).size=1:=rfl;have:(ByteArray.mk #[64]).size=1:=rfl;exact ⟨by omega,by omega,by omega,by omega,q04 ⟨by simp only [q96,e,a1,a2,a3];rfl,rfl⟩⟩
set_option maxRecDepth 4000
section
variable {α:Type} {enc:α->List AV} {xs:List α} {S:q00} {g:Nat} {fi ca:List AV} {p:α->Bool}
theorem q9e (hl:∀ x∈xs,(enc x).length=2) (hb:xs.length<=1125899906842624) (hp:∀ x∈xs,AFunS PG g (fi++[.agg (enc x)]++ca) S (.bool (p x))) :
  AFunS PG yu2 [.sl 2 (xs.map enc),.func (.func g) fi ca] S (.int .i64 (oi (q0w p xs))):=by
 refine xft ?_;unfold xcw;(try simp only [rwp,zA,zB,zC,zD,zE,zF,zG,zH,zI]);refine LoopP.intro (fun i:Nat=>[(0,.sl 2 (xs.map enc)),(1,.func (.func g) fi ca),(7,.int .i64 xs.length),(8,.int .i64 i)]) (fun _=>S) (fun i=>i<=xs.length/\∀ j x,j<i->xs[j]?=some x->p x=false) (fun i=>xs.length-i) 0 ⟨by omega,by omega⟩ rfl (Sub.refl S) ?_
 rintro i ⟨hi,hn⟩ r hr;unfold ywa;(try simp only [rwp,zA,zB,zC,zD,zE,zF,zG,zH,zI])
 (refine q02 (fun hlt=>?_) (fun hlt=>?_)<;>(try simp only [hlc] at hlt))
 ·obtain ⟨x,hx⟩:=q0c hlt;(try simp only [rwp,zA,zB,zC,zD,zE,zF,zG,zH,zI,hx]);rw [y0v (hl x (lB hx))];refine y6a (hp x (lB hx)) ?_
  (refine q02 (fun he=>?_) (fun he=>?_)<;>(try simp only [rwp,zA,zB,zC,zD,zE,zF,zG,zH,zI,he]))
  ·have:q0w p xs=some i:=firstI_some.2 ⟨⟨x,hx,he⟩,hn⟩;exact q04 ⟨by rw [this];rfl,rfl⟩
  ·(simp (disch:=omega) only [q05])
   refine q09 rfl (hr (i+1) ⟨by omega,fun j u hj hu=>?_⟩ (by omega))
   rcases Nat.lt_succ_iff_lt_or_eq.1 hj with h | rfl
   ·exact hn j u h hu
   ·rw [hx] at hu;cases hu;exact he
 ·have:q0w p xs=none:=firstI_none.2 fun j u hu=>hn j u (by have:=(List.getElem?_eq_some_iff.1 hu).1;omega) hu
  exact q04 ⟨by rw [this];rfl,rfl⟩
theorem q6o (hl:∀ x∈xs,(enc x).length=2) (hb:xs.length<=1125899906842624) (hp:∀ x∈xs,AFunS PG g (fi++[.agg (enc x)]++ca) S (.bool (p x))) :
  AFunS PG x6k [.sl 2 (xs.map enc),.func (.func g) fi ca] S (.bool (xs.any p)):=by
 refine xkt ?_;unfold xjb;refine q13 (q9e hl hb hp) ?_;(try simp only [rwp,zA,zB,zC,zD,zE,zF,zG,zH,zI]);exact q04 ⟨by rw [y5l,q3j],rfl⟩
end
theorem yc4 {l:List Rf} (hl:l.length<=1125899906842624) (f:Rf):AFun PG ytp [.sl 2 (l.map rfC),.agg (rfC f)] (.int .i64 (oi (q0w (fun g=>decide (f.ty=g.ty)&&decide (f.rl=g.rl)) l))):=by
 intro S;refine xfb ?_;unfold xce;(try simp only [rwp,zA,zB,zC,zD,zE,zF,zG,zH,zI,rfC]);refine LoopP.intro (fun i:Nat=>[(0,.sl 2 (l.map rfC)),(3,.rop [.str f.ty,.str f.rl]),(7,.int .i64 l.length),(8,.int .i64 i)]) (fun _=>S) (fun i=>i<=l.length/\∀ j x,j<i->l[j]?=some x->(decide (f.ty=x.ty)&&decide (f.rl=x.rl))=false) (fun i=>l.length-i) 0 ⟨by omega,by omega⟩ rfl (Sub.refl S) ?_
 rintro i ⟨hi,hn⟩ r hr;unfold yw0;(try simp only [rwp,zA,zB,zC,zD,zE,zF,zG,zH,zI])
 (refine q02 (fun hlt=>?_) (fun hlt=>?_)<;>(try simp only [hlc] at hlt))
 ·obtain ⟨x,hx⟩:=q0c hlt;(try simp only [rwp,zA,zB,zC,zD,zE,zF,zG,zH,zI,hx,rfC,ybm])
  (refine q02 (fun he=>?_) (fun he=>?_)<;>(try simp only [rwp,zA,zB,zC,zD,zE,zF,zG,zH,zI,he]))
  ·have:q0w (fun g:Rf=>decide (f.ty=g.ty)&&decide (f.rl=g.rl)) l=some i:=firstI_some.2 ⟨⟨x,hx,he⟩,hn⟩
   exact q04 ⟨by rw [this];rfl,rfl⟩
  ·(simp (disch:=omega) only [q05])
   refine q09 rfl (hr (i+1) ⟨by omega,fun j u hj hu=>?_⟩ (by omega))
   rcases Nat.lt_succ_iff_lt_or_eq.1 hj with h | rfl
   ·exact hn j u h hu
   ·rw [hx] at hu;cases hu;exact he
 ·have:q0w (fun g:Rf=>decide (f.ty=g.ty)&&decide (f.rl=g.rl)) l=none:=firstI_none.2 fun j u hu=>hn j u (by have:=(List.getElem?_eq_some_iff.1 hu).1;omega) hu
  exact q04 ⟨by rw [this];rfl,rfl⟩
theorem y30 {l:List Rf} (hl:l.length<=1125899906842624) (f:Rf):AFun PG yuj [.sl 2 (l.map rfC),.agg (rfC f)] (.bool (l.any fun g=>decide (f.ty=g.ty)&&decide (f.rl=g.rl))):=by
 intro S;refine xgd ?_;unfold xdg;have q:=yc4 hl f;simp only [rfC] at q;(try simp only [rwp,zA,zB,zC,zD,zE,zF,zG,zH,zI,rfC]);refine q06 q ?_;(try simp only [rwp,zA,zB,zC,zD,zE,zF,zG,zH,zI]);exact q04 ⟨by rw [y5l,q3j],rfl⟩
def q2i (s:List Ty) (t:Tu):Int:=if tuB t then (match q0h s t.o.ty t.rl with
  | none=>6
  | some (_,_,r)=>if (y04 s t.s.o.ty).isSome then (if r.refs.any fun f=>decide (t.s.o.ty=f.ty)&&decide (t.s.rl=f.rl) then 0 else 10) else 6) else 1
theorem q8j {u:Ty} {t:Tu}:AFun PG x65 [.agg (tyC u),.rop (tuC t)] (.bool (decide (u.name=t.s.o.ty))):=by
 intro S;refine xkc ?_;unfold xiu;(try simp only [rwp,zA,zB,zC,zD,zE,zF,zG,zH,zI,tyC,tuC]);exact q04 ⟨rfl,rfl⟩
theorem yip {s:List Ty} {n:ByteArray}:(s.any fun u=>decide (u.name=n))=(y04 s n).isSome:=by rw [y04,q3j]
theorem y20 {s:List Ty} (hs:OkS s) {t:Tu} (ht:OkU t):AFun PG x71 [scA s,.agg (tuC t)] (.int .i64 (q2i s t)):=by
 intro S;refine xld ?_;unfold xju;have q:=q8l ht;simp only [tuC] at q;(try simp only [rwp,zA,zB,zC,zD,zE,zF,zG,zH,zI,rwb,reduceIte,scA,tuC]);refine q06 q ?_;(try simp only [rwp,zA,zB,zC,zD,zE,zF,zG,zH,zI,rwb,reduceIte]);rw [y7d];cases a1:tuB t
 ·(try simp only [rwp,zA,zB,zC,zD,zE,zF,zG,zH,zI,rwb,reduceIte]);exact q04 ⟨by simp [q2i,a1],rfl⟩
 ·(try simp only [rwp,zA,zB,zC,zD,zE,zF,zG,zH,zI,rwb,reduceIte]);have q2:=y8y hs t.o.ty t.rl;simp only [scA] at q2;cases hq:q0h s t.o.ty t.rl with
  | none=>
   refine q0k (q2 S) ?_;rintro ae S' ⟨rfl,rfl⟩;rw [hq];dsimp only;(try simp only [rwp,zA,zB,zC,zD,zE,zF,zG,zH,zI,rwb,reduceIte,yn3,yoh]);exact q04 ⟨by simp [q2i,a1,hq],rfl⟩
  | some q3=>
   obtain ⟨i,k,r⟩:=q3;obtain ⟨-,ty,h2,-,h4⟩:=q11 hq;have hok:=(hs.at h2).at h4;refine q0k (q2 S) ?_;rintro ae S' ⟨rfl,rfl⟩;rw [hq];dsimp only;(try simp only [rwp,zA,zB,zC,zD,zE,zF,zG,zH,zI,rwb,reduceIte,q0o]);refine q13 (q6o (enc:=tyC) (fi:=[]) (p:=fun u:Ty=>decide (u.name=t.s.o.ty)) (fun x _=>rfl) hs.types fun u _=>q8j (u:=u) (t:=t) S') ?_
   rw [yip];cases a2:(y04 s t.s.o.ty).isSome
   ·(try simp only [rwp,zA,zB,zC,zD,zE,zF,zG,zH,zI,rwb,reduceIte,yn3]);exact q04 ⟨by simp only [q2i,a1,hq,a2];rfl,rfl⟩
   ·(try simp only [rwp,zA,zB,zC,zD,zE,zF,zG,zH,zI,rwb,reduceIte,yn3]);have q4:=y30 hok.refs ⟨t.s.o.ty,t.s.rl⟩;simp only [rfC] at q4;refine q06 q4 ?_;cases a3:(r.refs.any fun f=>decide (t.s.o.ty=f.ty)&&decide (t.s.rl=f.rl))
    ·(try simp only [rwp,zA,zB,zC,zD,zE,zF,zG,zH,zI,rwb,reduceIte]);exact q04 ⟨by simp only [q2i,a1,hq,a2,a3];rfl,rfl⟩
    ·(try simp only [rwp,zA,zB,zC,zD,zE,zF,zG,zH,zI,rwb,reduceIte]);exact q04 ⟨by simp only [q2i,a1,hq,a2,a3];rfl,rfl⟩
theorem q7m {α:Type} {p:α->Bool} {l:List α} {i:Nat} {x:α} (h:l[i]?=some x):(l.take (i+1)).any p=((l.take i).any p||p x):=by
 rw [q0t h,List.any_append];simp
def q0l (s:List Ty) (l:List Tu):List Tu:=l.filter fun t=>decide (q2i s t=0)
def ofF (l:List Tu) (n:Nd):List Tu:=l.filter fun t=>decide (t.o=n.o)&&decide (t.rl=n.rl)
theorem q1v {α:Type} {p:α->Bool} {l:List α} {i:Nat} {x:α} (h:l[i]?=some x):(l.take (i+1)).filter p=(l.take i).filter p++if p x then [x] else []:=by
 rw [q0t h,List.filter_append]
 congr 1
 cases hp:p x<;>simp [hp]
abbrev y73:Nat:=41
theorem LstN.tu {S0 S:q00} {v:AV} {l:List Tu} {t:Tu} {K:AV->q00->Prop} (hs:Sub S0 S) (h:LstN S0 S y73 6 v (l.map tuC)) (hl:l.length<=1000000) (hK:∀ v' S',Sub S0 S'->LstN S0 S' y73 6 v' ((l++[t]).map tuC)->K v' S'):apW S y73 6 96 v (.sl 6 [tuC t]) K:=by
 refine LstN.app hs h (fun r hr=>by rw [List.mem_singleton.1 hr];rfl) (q2q fun r hr=>by rw [List.mem_singleton.1 hr];rfl) (by simp only [lA,lP];omega) fun v' S' h1 h2 _=>?_
 exact hK v' S' h1 (by simpa using h2)
structure OkL (l:List Tu):Prop where
 n:l.length<=100000
 ok:∀ t∈l,OkU t
def y79 (s:List Ty) (l:List Tu):Bool:=yq8 s 60&&decide ((l.length:Int)<=30)
theorem y6o {s:List Ty} (hs:OkS s) (l:List Tu):AFun PG x7i [scA s,.sl 6 (l.map tuC)] (.bool (y79 s l)):=by
 intro S;refine xlu ?_;unfold xkb;(try simp only [rwp,zA,zB,zC,zD,zE,zF,zG,zH,zI,rwb,reduceIte,scA]);refine q06 (by simpa only [scA] using yby hs (most:=60) (by decide) (by decide)) ?_
 cases a1:yq8 s 60<;>(try simp only [rwp,zA,zB,zC,zD,zE,zF,zG,zH,zI,rwb,reduceIte])<;>exact q04 ⟨by simp [y79,a1],rfl⟩
def q54 {α σ:Type} (step:σ->α->Option (Bool×σ)):List α->σ->Option (Bool×σ)
 | [],a=>some (false,a)
 | x :: r,a=>match step a x with
  | none=>none
  | some (true,a')=>some (true,a')
  | some (false,a')=>q54 step r a'
structure q1o where
 s:List Ty
 of:Nd->List Nd
 who:Ob
def yot (who:Ob) (ask:Nd->Nat->Option (Bool×Nat)) (w:Nat) (x:Nd):Option (Bool×Nat):=if x.rl=⟨#[]⟩ then some (decide (x.o=who),w) else ask x w
def you (over:ByteArray) (ask:Nd->Nat->Option (Bool×Nat)) (w:Nat) (x:Nd):Option (Bool×Nat):=if x.rl=⟨#[]⟩ then ask ⟨x.o,over⟩ w else some (false,w)
def xiq (k:Int) (p:Option (Bool×Nat)) (q:Nat->Option (Bool×Nat)):Option (Bool×Nat):=match p with
 | none=>none
 | some (x,w1)=>if x=decide (k=2) then some (x,w1) else match q w1 with
  | none=>none
  | some (y,w2)=>some (if k=4 then !y else y,w2)
def exQ (E:q1o) (ask:Nd->Nat->Option (Bool×Nat)) (o:Ob):Nat->Ex->Nat->Option (Bool×Nat)
 | 0,_,_=>none
 | m+1,.mk k n ov ks,w=>if k=0 then ask ⟨o,n⟩ w else if k=1 then q54 (you ov ask) (E.of ⟨o,n⟩) w else match ks with
  | [a,b]=>xiq k (exQ E ask o m a w) (exQ E ask o m b)
  | _=>none
def x0b (E:q1o) (ask:Nd->Nat->Option (Bool×Nat)) (n:Nd) (r:Rl) (w:Nat):Option (Bool×Nat):=
 if r.refs.length=0 then exQ E ask n.o 12 r.ex w else q54 (yot E.who ask) (E.of n) w
def Bu {α:Type} (b:Int) (f g:α->Nat->Option (Bool×Nat)):Prop:=∀ n w x w',f n w=some (x,w')->w<=w'/\((w:Int)<=b->((w':Int)<=b->g n w=some (x,w'))/\(b<(w':Int)->g n w=none))
section
variable {b:Int} {E:q1o} {f g:Nd->Nat->Option (Bool×Nat)}
theorem Bu.fold {α:Type} {s t:Nat->α->Option (Bool×Nat)} (h:Bu b (fun x w=>s w x) (fun x w=>t w x)):Bu b (q54 s) (q54 t):=by
 intro l
 induction l with
 | nil=>
  intro w y w' e;simp only [q54,Option.some.injEq,Prod.mk.injEq] at e;obtain ⟨rfl,rfl⟩:=e;exact ⟨Nat.le_refl _,fun hw=>⟨fun _=>rfl,fun h=>by omega⟩⟩
 | cons x r ih=>
  intro w y w' e;unfold q54 at e ⊢;cases hs:s w x with
  | none=>rw [hs] at e;cases e
  | some q=>
   obtain ⟨z,w1⟩:=q;rw [hs] at e;obtain ⟨h1,h2⟩:=h x w z w1 hs;dsimp only at h2;cases z with
   | true=>
    simp only [Option.some.injEq,Prod.mk.injEq] at e;obtain ⟨rfl,rfl⟩:=e;exact ⟨h1,fun hw=>⟨fun h=>by rw [(h2 hw).1 h],fun h=>by rw [(h2 hw).2 h]⟩⟩
   | false=>
    obtain ⟨k1,k2⟩:=ih w1 y w' e;refine ⟨by omega,fun hw=>?_⟩
    by_cases h4:(w1:Int)<=b
    ·rw [(h2 hw).1 h4];exact k2 h4
    ·rw [(h2 hw).2 (by omega)]
     exact ⟨fun h=>by omega,fun _=>rfl⟩
theorem Bu.told {who:Ob} (h:Bu b f g):Bu b (fun x w=>yot who f w x) (fun x w=>yot who g w x):=by
 intro x w y w' e;dsimp only at e ⊢;unfold yot at e ⊢;split at e
 ·rename_i h0
  simp only [if_pos h0];simp only [Option.some.injEq,Prod.mk.injEq] at e;obtain ⟨rfl,rfl⟩:=e;exact ⟨Nat.le_refl _,fun hw=>⟨fun _=>rfl,fun h=>by omega⟩⟩
 ·rename_i h0
  simp only [if_neg h0];exact h x w y w' e
theorem Bu.arr {over:ByteArray} (h:Bu b f g):Bu b (fun x w=>you over f w x) (fun x w=>you over g w x):=by
 intro x w y w' e;dsimp only at e ⊢;unfold you at e ⊢;split at e
 ·rename_i h0
  simp only [if_pos h0];exact h _ w y w' e
 ·rename_i h0
  simp only [if_neg h0];simp only [Option.some.injEq,Prod.mk.injEq] at e;obtain ⟨rfl,rfl⟩:=e;exact ⟨Nat.le_refl _,fun hw=>⟨fun _=>rfl,fun h=>by omega⟩⟩
theorem Bu.ex (h:Bu b f g) (o:Ob):∀ m,Bu b (exQ E f o m) (exQ E g o m)
 | 0=>fun e w y w' h=>by cases h
 | m+1=>by
  have ih:=Bu.ex h o m;rintro ⟨k,n,ov,ks⟩ w y w' e;unfold exQ at e ⊢;split at e
  ·rename_i h0
   simp only [if_pos h0];exact h _ w y w' e
  ·rename_i h0
   simp only [if_neg h0];split at e
   ·rename_i h1
    simp only [if_pos h1];exact Bu.fold (Bu.arr h) _ w y w' e
   ·rename_i h1
    simp only [if_neg h1]
    match ks,e with
    | [x1,x2],e=>
     dsimp only at e ⊢;unfold xiq at e ⊢;cases hs:exQ E f o m x1 w with
     | none=>rw [hs] at e;cases e
     | some q=>
      obtain ⟨z,w1⟩:=q;rw [hs] at e;obtain ⟨k1,k2⟩:=ih x1 w z w1 hs;dsimp only at e;split at e
      ·rename_i h2
       simp only [Option.some.injEq,Prod.mk.injEq] at e;obtain ⟨rfl,rfl⟩:=e;exact ⟨k1,fun hw=>⟨fun h=>by rw [(k2 hw).1 h];dsimp only;rw [if_pos h2],fun h=>by rw [(k2 hw).2 h]⟩⟩
      ·rename_i h2
       cases hs2:exQ E f o m x2 w1 with
       | none=>rw [hs2] at e;cases e
       | some q2=>
        obtain ⟨z2,w2⟩:=q2;rw [hs2] at e;simp only [Option.some.injEq,Prod.mk.injEq] at e;obtain ⟨e1,rfl⟩:=e;obtain ⟨k3,k4⟩:=ih x2 w1 z2 w2 hs2;refine ⟨by omega,fun hw=>?_⟩
        by_cases h4:(w1:Int)<=b
        ·rw [(k2 hw).1 h4];dsimp only;rw [if_neg h2];exact ⟨fun h=>by rw [(k4 h4).1 h,<- e1],fun h=>by rw [(k4 h4).2 h]⟩
        ·rw [(k2 hw).2 (by omega)]
         exact ⟨fun h=>by omega,fun _=>rfl⟩
    | [],e=>cases e
    | [_],e=>cases e
    | _ :: _ :: _ :: _,e=>cases e
theorem Bu.body (h:Bu b f g) (n:Nd) (r:Rl):Bu b (fun (_:Unit) w=>x0b E f n r w) (fun _ w=>x0b E g n r w):=by
 intro _ w y w' e;dsimp only at e ⊢;unfold x0b at e ⊢;split at e
 ·rename_i h0
  simp only [if_pos h0];exact Bu.ex h _ _ _ w y w' e
 ·rename_i h0
  simp only [if_neg h0];exact Bu.fold (Bu.told h) _ w y w' e
end
def y0l (s:List Ty) (l:List Tu) (who:Ob):q1o:=⟨s,fun n=>(ofF (q0l s l) n).map Tu.s,who⟩
theorem yco {s:List Ty} (h:scB s=true):∀ t∈s,∀ r∈t.rels,r.refs.length=0->y0i 12 r.ex=true:=by
 intro t ht r hr h0;have h1:=List.all_eq_true.1 h t ht;simp only [yiq,Bool.and_eq_true] at h1;have h2:=List.all_eq_true.1 h1.2 r hr;simp only [y5h,Bool.and_eq_true,Bool.or_eq_true] at h2;rcases h2.2.2 with h3 | h3
 ·rw [List.length_eq_zero_iff.1 h0] at h3;cases h3
 ·exact h3
theorem y1y {s:List Ty} {l:List Tu} (h:OkL l):OkL (q0l s l):=⟨Nat.le_trans (lS _ _) h.n,fun t ht=>h.ok t (List.mem_filter.1 ht).1⟩
set_option maxRecDepth 4000
abbrev MD:Bool×List EK:=(true,[.str,.str,.str])
def ndA (n:Nd):AV:=.agg (ndC n)
theorem ke_nd:KE MD ndA:=⟨fun n=>by simp [ndA,ndC,q0x,q19,y63],fun n m h=>by
 obtain ⟨⟨a,b⟩,c⟩:=n;obtain ⟨⟨d,e⟩,f⟩:=m;simp only [ndA,ndC,AV.agg.injEq,List.cons.injEq,AV.str.injEq,and_true] at h;obtain ⟨rfl,rfl,rfl⟩:=h;rfl⟩
theorem y3t {α σ:Type} {step:σ->α->Option (Bool×σ)} {x:α} {r:List α} {a:σ}:q54 step (x :: r) a=match step a x with
  | none=>none
  | some (true,a')=>some (true,a')
  | some (false,a')=>q54 step r a':=rfl
theorem KMap.lki {κ:Type} {M:Bool×List EK} {enc:κ->AV} {S:q00} {b:Nat} {f:κ->Option AV} {ok:Bool} {z:AV} {K:AV->Prop} (h:KMap M enc S b f) (he:KE M enc) (k:κ) (hk:K (q23 ok z (f k))):lkW S M ok z (.map (some b)) (enc k) K:=Eq.mpr (h.lk he k) hk
def y9r (pv:AV) (X:q00->Prop) (St:Nat->q00->Prop) (q:Option (Bool×Nat)) (ae:AEnd) (S':q00):Prop:=match q with
 | some (b,w')=>ae=.ret (.bool b)/\St w' S'
 | none=>ae=.pan pv/\X S'
section
variable {xs:List Nd} {g:Nat} {fi ca:List AV} {St:Nat->q00->Prop} {step:Nat->Nd->Option (Bool×Nat)} {pv:AV} {X:q00->Prop}
theorem q6n (hb:xs.length<=1125899906842624) (hp:∀ x∈xs,∀ w S,St w S->ACalls PG g (fi++[.agg (ndC x)]++ca) S (y9r pv X St (step w x))) {w:Nat} {S:q00} (h0:St w S) :
  ACalls PG yjp [.sl 3 (xs.map ndC),.func (.func g) fi ca] S fun ae S'=>match q54 step xs w with
   | some (b,w')=>(∃ i:Int,ae=.ret (.int .i64 i)/\decide (0<=i)=b)/\St w' S'
   | none=>ae=.pan pv/\X S':=by
 refine x2l ?_;unfold x22;(try simp only [rwp,zA,zB,zC,zD,zE,zF,zG,zH,zI]);refine LoopP.introS (fun i:Nat=>[(0,.sl 3 (xs.map ndC)),(1,.func (.func g) fi ca),(7,.int .i64 xs.length),(8,.int .i64 i)]) (fun i S'=>i<=xs.length/\∃ w',St w' S'/\q54 step (xs.drop i) w'=q54 step xs w) (fun i=>xs.length-i) 0 ⟨by omega,w,h0,rfl⟩ rfl ?_
 rintro i S' ⟨hi,w1,h1,h2⟩ r hr;unfold ynh;(try simp only [rwp,zA,zB,zC,zD,zE,zF,zG,zH,zI])
 (refine q02 (fun hlt=>?_) (fun hlt=>?_)<;>(try simp only [hlc] at hlt))
 ·obtain ⟨x,hx⟩:=q0c hlt;have q:=hp x (lB hx) w1 S' h1;rw [q0i hx,y3t] at h2;(try simp only [rwp,zA,zB,zC,zD,zE,zF,zG,zH,zI,hx,ndC]);refine y69 q ?_;intro ae S2 hq;unfold y9r at hq;cases hs:step w1 x with
  | none=>
   rw [hs] at hq h2;obtain ⟨rfl,hx⟩:=hq
   show pqW _ _ _;unfold pqW;rw [<- h2];exact ⟨rfl,hx⟩
  | some p=>
   obtain ⟨b,w2⟩:=p;rw [hs] at hq h2;obtain ⟨rfl,h3⟩:=hq;dsimp only at h2 ⊢;cases b with
   | true=>
    dsimp only at h2;(try simp only [rwp,zA,zB,zC,zD,zE,zF,zG,zH,zI]);refine q04 ?_;rw [<- h2];exact ⟨⟨i,rfl,by simp⟩,h3⟩
   | false=>
    dsimp only at h2;(try simp only [rwp,zA,zB,zC,zD,zE,zF,zG,zH,zI])
    (simp (disch:=omega) only [q05])
    exact q09 rfl (hr (i+1) S2 ⟨by omega,w2,h3,h2⟩ (by omega))
 ·have e:xs.drop i=[]:=q12 hlt;rw [e] at h2;refine q04 ?_;rw [<- h2];exact ⟨⟨-1,rfl,rfl⟩,h1⟩
theorem q4s (hb:xs.length<=1125899906842624) (hp:∀ x∈xs,∀ w S,St w S->ACalls PG g (fi++[.agg (ndC x)]++ca) S (y9r pv X St (step w x))) {w:Nat} {S:q00} (h0:St w S) :
  ACalls PG y83 [.sl 3 (xs.map ndC),.func (.func g) fi ca] S (y9r pv X St (q54 step xs w)):=by
 refine x2m ?_;unfold x23;refine q0k (q6n hb hp h0) ?_;intro ae S' hq;unfold y9r;cases hf:q54 step xs w with
 | none=>
  rw [hf] at hq;obtain ⟨rfl,hx⟩:=hq;exact ⟨rfl,hx⟩
 | some p=>
  obtain ⟨b,w2⟩:=p;rw [hf] at hq;obtain ⟨⟨i,rfl,h1⟩,h2⟩:=hq;dsimp only;(try simp only [rwp,zA,zB,zC,zD,zE,zF,zG,zH,zI]);exact q04 ⟨by rw [h1],h2⟩
theorem q7g {w:Nat} {S:q00} (h0:St w S) :
  ACalls PG y83 [.nils,.func (.func g) fi ca] S (y9r pv X St (q54 step [] w)):=by
 refine x2m ?_;unfold x23;have q:AFunS PG yjp [.nils,.func (.func g) fi ca] S (.int .i64 (-1)):=by
  refine x2l ?_;unfold x22;(try simp only [rwp,zA,zB,zC,zD,zE,zF,zG,zH,zI]);refine LoopP.introS (fun _:Nat=>[(0,.nils),(1,.func (.func g) fi ca),(7,.int .i64 0),(8,.int .i64 0)]) (fun i S'=>S'=S) (fun i=>i) 0 rfl rfl ?_
  rintro i S' rfl r hr;(try simp only [rwp,zA,zB,zC,zD,zE,zF,zG,zH,zI,rwb,reduceIte,ynh,Int.lt_irrefl]);exact q04 ⟨rfl,rfl⟩
 refine q13 q ?_;(try simp only [rwp,zA,zB,zC,zD,zE,zF,zG,zH,zI]);exact q04 ⟨rfl,h0⟩
def ofA (l:List Nd):Option AV:=if l=[] then none else some (.sl 3 (l.map ndC))
theorem q8n (hb:xs.length<=1125899906842624) (hp:∀ x∈xs,∀ w S,St w S->ACalls PG g (fi++[.agg (ndC x)]++ca) S (y9r pv X St (step w x))) {w:Nat} {S:q00} (h0:St w S) :
  ACalls PG y83 [q23 false .nils (ofA xs),.func (.func g) fi ca] S (y9r pv X St (q54 step xs w)):=by
 unfold ofA;split
 ·rename_i h;subst h;exact q7g h0
 ·exact q4s hb hp h0
end
abbrev xlv:Nat:=94
structure PathE (es:List (AV×AV×Nat)) (P:List Nd):Prop where
 key:∀ x∈es,∃ n,x.1=ndA n
 len:es.length=P.length
 get:∀ n,y09 es (ndA n)=if n∈P then some (.bool true) else none
def seC (E:q1o) (B:Int) (bo bp w:Nat):List AV:=[.sl 2 (E.s.map tyC),.map (some bo),.str E.who.ty,.str E.who.id,.int .i64 B,.int .i64 w,.map (some bp)]
def stE (E:q1o) (B:Int) (bc bo bp:Nat) (S0:q00) (w:Nat) (es:List (AV×AV×Nat)) (clk:Nat):q00:=supd (supd S0 bc (.cells xlv (seC E B bo bp w) 7)) bp (.map MD es clk)
section
variable {E:q1o} {B:Int} {bc bo bp:Nat} {S0:q00}
theorem yxa {w:Nat} {es:List (AV×AV×Nat)} {clk:Nat}:q2o (stE E B bc bo bp S0 w es clk) bp=some (MD,es,clk):=mapObj_some.2 (by unfold stE;rw [q01,if_pos rfl])
end
theorem y3h {es:List (AV×AV×Nat)} {k:AV} (h:y09 es k=none):q1f es k=none:=by
 unfold y09 at h;exact Option.map_eq_none_iff.1 h
theorem y85 {k v k':AV} {c:Nat}:∀ {es:List (AV×AV×Nat)},y09 (es++[(k,v,c)]) k'=match y09 es k' with
  | some u=>some u
  | none=>if q1h k' k then some v else none
 | []=>by simp [y09,q1f]
 | x :: r=>by
  rw [List.cons_append,q22,q22];split
  ·rfl
  ·exact y85
theorem ydl (n m:Nd):q1h (ndA n) (ndA m)=decide (n=m):=by
 have hk:=ke_nd;by_cases h:n=m
 ·subst h;rw [decide_eq_true rfl];exact q86 (hk.ok n)
 ·rw [decide_eq_false h];cases hq:q1h (ndA n) (ndA m) with
  | false=>rfl
  | true=>exact absurd (hk.inj _ _ ((q4b (hk.ok n) (hk.ok m)).1 hq)) h
theorem PathE.push {es:List (AV×AV×Nat)} {P:List Nd} (h:PathE es P) {n:Nd} (hn:n ∉ P) (clk:Nat):PathE (es++[(ndA n,.bool true,clk)]) (n :: P) where
 key:=fun x hx=>by
  rcases List.mem_append.1 hx with h1 | h1
  ·exact h.key x h1
  ·rw [List.mem_singleton.1 h1];exact ⟨n,rfl⟩
 len:=by rw [lH,h.len];rfl
 get:=fun m=>by
  rw [y85,h.get];by_cases h1:m∈P
  ·rw [if_pos h1,if_pos (lM _ h1)]
  ·rw [if_neg h1];dsimp only;rw [ydl];by_cases h2:m=n
   ·subst h2;simp
   ·rw [decide_eq_false h2,if_neg (by simp),if_neg (by simp [h1,h2])]
theorem PathE.map {E:q1o} {B:Int} {bc bo bp:Nat} {S0:q00} {es:List (AV×AV×Nat)} {P:List Nd} (h:PathE es P) {w clk:Nat}:KMap MD ndA (stE E B bc bo bp S0 w es clk) bp (fun n=>if n∈P then some (.bool true) else none):=
 ⟨es,clk,yxa,fun x hx=>by obtain ⟨n,e⟩:=h.key x hx;rw [e];exact ke_nd.ok n,h.get⟩
section
variable {E:q1o} {B:Int} {bc bo bp:Nat} {S0:q00}
end
structure OfM (S0 S:q00) (t bo:Nat) (Ks:Nat->Prop) (f:Nd->List (List AV)) (es:List (AV×AV×Nat)) (clk:Nat):Prop where
 map:y01 S bo=some (.map MD es clk)
 b0:y01 S0 bo=none
 key:∀ x∈es,∃ n,x.1=ndA n
 nd:(es.map fun x=>x.2.2).Nodup
 ku:∀ (i j:Nat) (x y:AV×AV×Nat),es[i]?=some x->es[j]?=some y->x.1=y.1->i=j
 lt:∀ x∈es,x.2.2<clk
 no:∀ n,y09 es (ndA n)=none->f n=[]
 yes:∀ n v,y09 es (ndA n)=some v->f n≠[]/\LstN S0 S t 3 v (f n)/\q0u v bo/\∀ c,Ks c->q0u v c
 apart:∀ n m v u,n≠m->y09 es (ndA n)=some v->y09 es (ndA m)=some u->∀ b off k cap,u=.own b off k cap->q0u v b
 ks:∀ c,Ks c->c≠bo/\y01 S c≠none
theorem q8b {bn:Nat}:∀ {es:List (AV×AV×Nat)} {i:Nat} {x:AV×AV×Nat},(es.map fun x=>x.2.2).Nodup->es[i]?=some x->x.2.2=bn->es.findIdx? (fun x=>x.2.2==bn)=some i:=by
 intro es i x hnd hx hb;have hi:=(List.getElem?_eq_some_iff.1 hx).1;rw [List.findIdx?_eq_some_iff_getElem];refine ⟨hi,?_,fun j hj=>?_⟩
 ·have:=(List.getElem?_eq_some_iff.1 hx).2;simp [this,hb]
 ·intro hq;have hj2:j<es.length:=by omega
  have h1:es[j].2.2=bn:=by simpa using hq
  have h2:es[i].2.2=bn:=by rw [(List.getElem?_eq_some_iff.1 hx).2];exact hb
  have:=(List.getElem_inj (xs:=es.map fun (x:AV×AV×Nat)=>x.2.2) (i:=j) (j:=i) (h₀:=by simpa using hj2) (h₁:=by simpa using hi) hnd).1 (by simp [h1,h2])
  omega
theorem ykg {es:List (AV×AV×Nat)} {n:Nd} (hk:∀ x∈es,∃ n,x.1=ndA n) (h:y09 es (ndA n)=none):∀ x∈es,x.1≠ndA n:=by
 induction es with
 | nil=>intro x hx;cases hx
 | cons y r ih=>
  rw [q22] at h;obtain ⟨m,hm⟩:=hk y (by simp)
  intro x hx;split at h
  ·cases h
  ·rename_i hq
   rcases List.mem_cons.1 hx with rfl | hx
   ·intro e;rw [e,ydl] at hq;simp at hq
   ·exact ih (fun z hz=>hk z (lM _ hz)) h x hx
theorem y87 {es:List (AV×AV×Nat)} {n:Nd} {i:Nat} {v:AV} {bn:Nat} (hk:∀ x∈es,∃ n,x.1=ndA n) (h:q1f es (ndA n)=some (i,v,bn)):es[i]?=some (ndA n,v,bn):=by
 obtain ⟨kk,h1,h2⟩:=q4y h;obtain ⟨m,hm⟩:=hk _ (lB h1);dsimp only at hm;subst hm;rw [ydl] at h2;rw [h1,of_decide_eq_true h2]
theorem y86 {es:List (AV×AV×Nat)} {n m:Nd} {v:AV} {clk:Nat} (hk:∀ x∈es,∃ n,x.1=ndA n):y09 (y0k es (ndA n) v clk).1 (ndA m)=if m=n then some v else y09 es (ndA m):=by
 have hko:y3m MD es:=fun x hx=>by obtain ⟨n,e⟩:=hk x hx;rw [e];exact ke_nd.ok n
 rw [q3q,q74 (ke_nd.ok n) _ _ hko (ke_nd.ok m)];by_cases h:m=n
 ·subst h;simp
 ·rw [if_neg fun e=>h (ke_nd.inj _ _ e),if_neg h]
section
variable {S0 S:q00} {t bo:Nat} {Ks:Nat->Prop} {f:Nd->List (List AV)} {es:List (AV×AV×Nat)} {clk:Nat}
theorem OfM.put (h:OfM S0 S t bo Ks f es clk) {n:Nd} {v v':AV} {row:List AV} {S2:q00} {es':List (AV×AV×Nat)} {clk':Nat} (hv:y09 es (ndA n)=some v\/(y09 es (ndA n)=none/\v=.nils))
  (h2:LstN S0 S2 t 3 v' (f n++[row])) (hF:∀ c o,c≠bo->y01 S c=some o->q0u v c->y01 S2 c=some o/\q0u v' c) (hvb:q0u v' bo)
  (he:es'=(y0k es (ndA n) v' clk).1) (hkey:∀ x∈es',∃ n,x.1=ndA n) (hnd:(es'.map fun x=>x.2.2).Nodup) (hku:∀ (i j:Nat) (x y:AV×AV×Nat),es'[i]?=some x->es'[j]?=some y->x.1=y.1->i=j) (hlt:∀ x∈es',x.2.2<clk') :
  OfM S0 (supd S2 bo (.map MD es' clk')) t bo Ks (fun m=>if m=n then f n++[row] else f m) es' clk':=by
 have hg:∀ m,y09 es' (ndA m)=if m=n then some v' else y09 es (ndA m):=fun m=>by rw [he,y86 h.key]
 have hva:∀ c,Ks c->q0u v c:=fun c hc=>by
  rcases hv with hv | ⟨-,rfl⟩
  ·exact (h.yes n v hv).2.2.2 c hc
  ·intro b off k cap e;cases e
 refine ⟨by rw [q01,if_pos rfl],h.b0,hkey,hnd,hku,hlt,fun m hm=>?_,fun m u hm=>?_,fun m p u x hmp hm hp=>?_,fun c hc=>⟨(h.ks c hc).1,?_⟩⟩
 ·rw [hg] at hm;by_cases hmn:m=n
  ·rw [if_pos hmn] at hm;cases hm
  ·rw [if_neg hmn] at hm ⊢;exact h.no m hm
 ·rw [hg] at hm;by_cases hmn:m=n
  ·rw [if_pos hmn] at hm ⊢;cases hm;refine ⟨by simp,h2.upd hvb _,hvb,fun c hc=>?_⟩
   cases ho:y01 S c with
   | none=>exact absurd ho (h.ks c hc).2
   | some o=>exact (hF c o (h.ks c hc).1 ho (hva c hc)).2
  ·rw [if_neg hmn] at hm ⊢;obtain ⟨k1,k2,k3,k4⟩:=h.yes m u hm;refine ⟨k1,LstN.upd ?_ k3 _,k3,k4⟩;obtain ⟨hr,hl⟩:=k2;refine ⟨hr,?_⟩;rcases hl with hl | ⟨b,cap,rfl,q1,q2,q3⟩
   ·exact .inl hl
   ·refine .inr ⟨b,cap,rfl,q1,?_,q3⟩;have hav:q0u v b:=by
     rcases hv with hv | ⟨-,rfl⟩
     ·exact h.apart n m v _ (Ne.symm hmn) hv hm b _ _ _ rfl
     ·intro b off k cap e;cases e
    exact (hF b _ (Ne.symm (k3 b _ _ _ rfl)) q2 hav).1
 ·rw [hg] at hm hp;intro b off k cap hx;have other:∀ (m:Nd) (u:AV),m≠n->y09 es (ndA m)=some u->∀ b off k cap,u=.own b off k cap->q0u v' b:=by
   intro m u hmn hm b off k cap e;subst e;obtain ⟨k1,k2,k3,k4⟩:=h.yes m _ hm;have hav:q0u v b:=by
    rcases hv with hv | ⟨-,rfl⟩
    ·exact h.apart n m v _ (Ne.symm hmn) hv hm b _ _ _ rfl
    ·intro b off k cap e;cases e
   obtain ⟨hr,hl⟩:=k2;rcases hl with ⟨e,-⟩ | ⟨b1,cap1,e,q1,q2,q3⟩
   ·cases e
   ·cases e
    exact (hF b _ (Ne.symm (k3 b _ _ _ rfl)) q2 hav).2
  by_cases hmn:m=n
  ·rw [if_pos hmn] at hm;cases hm;have hpn:p≠n:=fun e=>hmp (hmn.trans e.symm)
   rw [if_neg hpn] at hp;exact other p x hpn hp b off k cap hx
  ·rw [if_neg hmn] at hm;by_cases hpn:p=n
   ·rw [if_pos hpn] at hp;cases hp;subst hx;intro b1 off1 k1 cap1 e;exact Ne.symm (other m u hmn hm b1 off1 k1 cap1 e b off k cap rfl)
   ·rw [if_neg hpn] at hp;exact h.apart m p u x hmp hm hp b off k cap hx
 ·rw [q01,if_neg (Ne.symm (h.ks c hc).1)];cases ho:y01 S c with
  | none=>exact absurd ho (h.ks c hc).2
  | some o=>rw [(hF c o (h.ks c hc).1 ho (hva c hc)).1];simp
theorem OfM.push (h:OfM S0 S t bo Ks f es clk) (hs:Sub S0 S) (n:Nd) {row:List AV} {bytes:Nat} {K:q00->Prop} (hr:row.length=3) (ho:y06 row=true) (hb:((f n).length+1) * bytes<=140737488355328)
  (hK:∀ S' es' clk',Sub S0 S'->OfM S0 S' t bo Ks (fun m=>if m=n then f n++[row] else f m) es' clk'->(∀ c,Ks c->y01 S' c=y01 S c)->K S') :
  meW S MD .nils (.map (some bo)) (ndA n) fun v S=>exW 0 v fun v70=>exW 1 v fun v76=>apW S t 3 bytes v70 (.sl 3 [row]) fun v75 S=>mtW S (.map (some bo)) v76 v75 K:=by
 have keep:∀ {v v':AV} {S1 S2:q00},(∀ c,Ks c->q0u v c)->(∀ c o,c≠bo->y01 S c=some o->q0u v c->y01 S2 c=some o/\q0u v' c)->∀ es' clk',∀ c,Ks c->y01 (supd S2 bo (.map MD es' clk')) c=y01 S c:=by
  intro v v' S1 S2 hv hF es' clk' c hc;rw [q01,if_neg (Ne.symm (h.ks c hc).1)];cases ho:y01 S c with
  | none=>exact absurd ho (h.ks c hc).2
  | some o=>exact (hF c o (h.ks c hc).1 ho (hv c hc)).1
 cases hq:y09 es (ndA n) with
 | none=>
  have hm:=y3h hq;have hf:=h.no n hq;refine ⟨bo,es,clk,rfl,h.map,ke_nd.ok n,?_⟩;rw [hm];dsimp only;rw [q5v,q9o,q5v];have hsub1:Sub S0 (supd S bo (.map MD (es++[(ndA n,.nils,clk)]) (clk+1))):=Sub.supd h.b0 hs;refine LstN.app hsub1 (LstN.nil (S0:=S0)) (fun r hr'=>by rw [List.mem_singleton.1 hr'];exact hr) (q2q fun r hr'=>by rw [List.mem_singleton.1 hr'];exact ho) (by rw [hf] at hb;simpa using hb) fun v' S2 h1 h2 h3=>?_
  rw [lQ] at h2;have hbo2:=h3 bo _ (by rw [q01,if_pos rfl]) (fun b off k cap e=>by cases e)
  have hF:∀ c o,c≠bo->y01 S c=some o->q0u .nils c->y01 S2 c=some o/\q0u v' c:=fun c o hc hso ha=>h3 c o (by rw [q01,if_neg (Ne.symm hc)];exact hso) ha
  have hnd:((es++[(ndA n,AV.nils,clk)]).map fun x=>x.2.2).Nodup:=by
   rw [lK,List.nodup_append];refine ⟨h.nd,by simp,fun a ha b hb=>?_⟩
   obtain ⟨x,hx,rfl⟩:=List.mem_map.1 ha;have:=h.lt x hx;simp at hb;omega
  have hset:(y0k es (ndA n) v' clk)=(es++[(ndA n,v',clk)],clk+1):=by unfold y0k;rw [hm]
  have hku:∀ (i j:Nat) (x y:AV×AV×Nat),(es++[(ndA n,v',clk)])[i]?=some x->(es++[(ndA n,v',clk)])[j]?=some y->x.1=y.1->i=j:=by
   intro i j x y hx hy hxy;have hno:=ykg h.key hq;rw [List.getElem?_append] at hx hy;split at hx<;>split at hy
   ·exact h.ku i j x y hx hy hxy
   ·rw [List.getElem?_singleton] at hy;split at hy
    ·cases hy
     exact absurd hxy (hno x (lB hx))
    ·cases hy
   ·rw [List.getElem?_singleton] at hx;split at hx
    ·cases hx
     exact absurd hxy.symm (hno y (lB hy))
    ·cases hx
   ·rw [List.getElem?_singleton] at hx hy;split at hx
    ·split at hy
     ·omega
     ·cases hy
    ·cases hx
  refine ⟨bo,MD,es++[(ndA n,.nils,clk)],clk+1,es.length,ndA n,.nils,clk,rfl,hbo2.1,rfl,q8b hnd (x:=(ndA n,.nils,clk)) (by simp) rfl,by simp,?_⟩
  have e:(es++[(ndA n,AV.nils,clk)]).set es.length (ndA n,v',clk)=es++[(ndA n,v',clk)]:=by simp
  rw [e];refine hK _ _ _ (Sub.supd h.b0 h1) (h.put (n:=n) (v:=.nils) (.inr ⟨hq,rfl⟩) (by rw [hf];exact h2) hF hbo2.2 (by rw [hset]) (fun x hx=>?_) (by simpa using hnd) hku fun x hx=>?_) (keep (S1:=S) (fun c _ b off k cap e=>by cases e) hF _ _)
  ·rcases List.mem_append.1 hx with hx | hx
   ·exact h.key x hx
   ·rw [List.mem_singleton.1 hx];exact ⟨n,rfl⟩
  ·rcases List.mem_append.1 hx with hx | hx
   ·have:=h.lt x hx;omega
   ·rw [List.mem_singleton.1 hx];exact Nat.lt_succ_self _
 | some v=>
  obtain ⟨hne,hl,hvb,hvk⟩:=h.yes n v hq;have hm:∃ i bn,q1f es (ndA n)=some (i,v,bn):=by
   unfold y09 at hq;cases hmf:q1f es (ndA n) with
   | none=>rw [hmf] at hq;cases hq
   | some p=>
    obtain ⟨i,u,bn⟩:=p;rw [hmf] at hq;simp at hq;subst hq;exact ⟨i,bn,rfl⟩
  obtain ⟨i,bn,hm⟩:=hm;have hi:=y87 h.key hm;refine ⟨bo,es,clk,rfl,h.map,ke_nd.ok n,?_⟩;rw [hm];dsimp only;have e0:es.set i (ndA n,v,bn)=es:=by
   apply List.ext_getElem?
   intro j;rw [lT];split
   ·rename_i hij
    subst hij;rw [if_pos (List.getElem?_eq_some_iff.1 hi).1,hi]
   ·rfl
  rw [e0,q5v,q9o,q5v];have e1:supd S bo (.map MD es clk)=S:=by
   funext c
   unfold supd;split
   ·rename_i hc;subst hc;exact h.map.symm
   ·rfl
  rw [e1];refine LstN.app hs hl (fun r hr'=>by rw [List.mem_singleton.1 hr'];exact hr) (q2q fun r hr'=>by rw [List.mem_singleton.1 hr'];exact ho) (by simpa using hb) fun v' S2 h1 h2 h3=>?_
  have hbo2:=h3 bo _ h.map hvb;have hF:∀ c o,c≠bo->y01 S c=some o->q0u v c->y01 S2 c=some o/\q0u v' c:=fun c o _ hso ha=>h3 c o hso ha
  have hset:(y0k es (ndA n) v' clk)=(es.set i (ndA n,v',bn),clk):=by unfold y0k;rw [hm]
  refine ⟨bo,MD,es,clk,i,ndA n,v,bn,rfl,hbo2.1,rfl,q8b h.nd hi rfl,hi,?_⟩;have hlt:=(List.getElem?_eq_some_iff.1 hi).1;have hmap:(es.set i (ndA n,v',bn)).map (fun x=>x.2.2)=es.map fun x=>x.2.2:=by
   rw [List.map_set]
   apply List.ext_getElem?
   intro j;rw [lT];split
   ·rename_i hij
    subst hij;rw [if_pos (by simpa using hlt),lC,hi];rfl
   ·rfl
  refine hK _ _ _ (Sub.supd h.b0 h1) (h.put (n:=n) (v:=v) (.inl hq) h2 hF hbo2.2 (by rw [hset]) (fun x hx=>?_) (by rw [hmap];exact h.nd) (fun i2 j2 x y hx hy hxy=>?_) fun x hx=>?_) (keep (S1:=S) hvk hF _ _)
  ·rcases List.mem_or_eq_of_mem_set hx with hx | rfl
   ·exact h.key x hx
   ·exact ⟨n,rfl⟩
  ·have hget:∀ (k:Nat) (z:AV×AV×Nat),(es.set i (ndA n,v',bn))[k]?=some z->∃ z',es[k]?=some z'/\z'.1=z.1:=by
    intro k z hz;rw [lT] at hz;split at hz
    ·rename_i hik
     subst hik;cases hz;exact ⟨_,hi,rfl⟩
    ·exact ⟨z,hz,rfl⟩
   obtain ⟨x',hx',ex⟩:=hget i2 x hx;obtain ⟨y',hy',ey⟩:=hget j2 y hy;exact h.ku i2 j2 x' y' hx' hy' (by rw [ex,ey,hxy])
  ·rcases List.mem_or_eq_of_mem_set hx with hx | rfl
   ·exact h.lt x hx
   ·exact h.lt (ndA n,v,bn) (lB hi)
end
def ndD:AV->Nd
 | .agg [.str a,.str b,.str c]=>⟨⟨a,b⟩,c⟩
 | _=>⟨⟨⟨#[]⟩,⟨#[]⟩⟩,⟨#[]⟩⟩
theorem x7k (n:Nd):ndD (ndA n)=n:=rfl
def yoe (f:Nd->List (List AV)) (es:List (AV×AV×Nat)):List (AV×AV×Nat):=es.map fun x=>(x.1,.sl 3 (f (ndD x.1)),x.2.2)
theorem ydp {f:Nd->List (List AV)} {n:Nd}:∀ {es:List (AV×AV×Nat)},(∀ x∈es,∃ n,x.1=ndA n)->y09 (yoe f es) (ndA n)=(y09 es (ndA n)).map fun _=>.sl 3 (f n)
 | [],_=>rfl
 | x :: r,h=>by
  obtain ⟨m,hm⟩:=h x (by simp)
  have ih:=ydp (f:=f) (n:=n) (es:=r) fun y hy=>h y (lM _ hy)
  unfold yoe at ih ⊢;rw [List.map_cons,q22,q22,hm,ydl];dsimp only;by_cases e:n=m
  ·subst e;simp [x7k]
  ·rw [decide_eq_false e,if_neg (by simp),if_neg (by simp)]
   exact ih
section
variable {S0 S:q00} {t bo:Nat} {Ks:Nat->Prop} {f:Nd->List (List AV)} {es:List (AV×AV×Nat)} {clk:Nat}
theorem OfM.fr (h:OfM S0 S t bo Ks f es clk) {S1:q00} (h1:∀ b,y01 S1 b≠none->b=bo\/Ks b\/y01 S0 b≠none):FrO S1 S (.map MD es clk) (.map MD (yoe f es) clk):=by
 refine .map MD es _ clk (by simp [yoe]) fun i e e' he he'=>?_
 unfold yoe at he';rw [lC,he] at he';simp only [Option.map_some,Option.some.injEq] at he';subst he';obtain ⟨n,hn⟩:=h.key e (lB he);refine ⟨rfl,?_,rfl⟩;dsimp only;rw [hn,x7k];have hg:y09 es (ndA n)=some e.2.1:=by
  cases hq:y09 es (ndA n) with
  | none=>exact absurd hn (ykg h.key hq e (lB he))
  | some u=>
   unfold y09 at hq;cases hmf:q1f es (ndA n) with
   | none=>rw [hmf] at hq;cases hq
   | some p=>
    obtain ⟨j,u',bn⟩:=p;have hj:=y87 h.key hmf;have:=h.ku i j _ _ he hj hn;subst this;rw [he] at hj;cases hj;rw [hmf] at hq;exact hq.symm
 obtain ⟨-,⟨hr,hl⟩,hvb,hvk⟩:=h.yes n _ hg;rcases hl with ⟨e1,e2⟩ | ⟨b,cap,e1,q1,q2,q3,-,-⟩
 ·rw [e1,e2];exact .nils 3
 ·rw [e1] at hvb hvk ⊢;refine .own t 3 b _ cap (f n) hr ?_ q2 rfl q3;cases hs:y01 S1 b with
  | none=>rfl
  | some o=>
   rcases h1 b (by rw [hs];simp) with rfl | hk | h0
   ·exact absurd rfl (hvb _ _ _ _ rfl)
   ·exact absurd rfl (hvk b hk _ _ _ _ rfl)
   ·exact absurd q1 h0
end
set_option maxRecDepth 4000
def ndT (t:Tu):Nd:=⟨t.o,t.rl⟩
section
variable {S0 S1:q00} {b1 b2 b3 t1 t2 t3:Nat} {x1 x2 x3:AV} {QF:AEnd->q00->Prop}
end
theorem yij {S:q00} {b c:Nat} {o:AObj} (h:y01 (supd S b o) c=none):c≠b/\y01 S c=none:=by
 rw [q01] at h;split at h
 ·cases h
 ·rename_i hn;exact ⟨fun e=>hn e.symm,h⟩
theorem q3t {Y N:Prop} (h:N):cnW (.bool false) Y N:=⟨fun h=>by (cases h),fun _=>h⟩
set_option maxRecDepth 4000
theorem q41 {o:Ob} (ho:OkO o):AFun PG x77 [.agg (obC o)] (.str (q4p o)):=by
 intro S;refine xlj ?_;unfold xk0;(try simp only [rwp,zA,zB,zC,zD,zE,zF,zG,zH,zI,rwb,reduceIte,obC]);refine q06 (q0z ho.ty) ?_;have h1:=ho.ty;have h2:=ho.id;(try simp only [rwp,zA,zB,zC,zD,zE,zF,zG,zH,zI,rwb,reduceIte]);refine q06 (y4a ho.id) ?_;cases a1:q0v o.ty<;>cases a2:idB o.id<;>(try simp only [rwp,zA,zB,zC,zD,zE,zF,zG,zH,zI,rwb,reduceIte,x1x,ByteArray.size_append])
 ·exact q04 ⟨by simp [q4p,obB,a1],rfl⟩
 ·exact q04 ⟨by simp [q4p,obB,a1],rfl⟩
 ·exact q04 ⟨by simp [q4p,obB,a1,a2],rfl⟩
 ·have:(ByteArray.mk #[58]).size=1:=rfl;exact ⟨by omega,by omega,q04 ⟨by simp [q4p,obB,a1,a2],rfl⟩⟩
theorem q6l {n:Nd} (hn:OkD n):AFun PG x78 [.agg (ndC n)] (.str (q6b n)):=by
 intro S;refine xlk ?_;unfold xk1;(try simp only [rwp,zA,zB,zC,zD,zE,zF,zG,zH,zI,rwb,reduceIte,ndC]);have q:=q41 hn.o;simp only [obC] at q;have h1:=q6x hn.o;have h2:=hn.rl;refine q06 q ?_;(try simp only [rwp,zA,zB,zC,zD,zE,zF,zG,zH,zI,rwb,reduceIte]);refine q06 (q0z hn.rl) ?_;(try simp only [rwp,zA,zB,zC,zD,zE,zF,zG,zH,zI,rwb,reduceIte]);rw [q4u];cases a1:obB n.o
 ·(try simp only [rwp,zA,zB,zC,zD,zE,zF,zG,zH,zI,rwb,reduceIte,yn5]);exact q04 ⟨by simp [q6b,q4p,a1],rfl⟩
 ·cases a2:decide (n.rl=⟨#[]⟩)
  ·(try simp only [rwp,zA,zB,zC,zD,zE,zF,zG,zH,zI,rwb,reduceIte,yn5,a2]);have a2:=of_decide_eq_false a2;cases a3:q0v n.rl
   ·(try simp only [rwp,zA,zB,zC,zD,zE,zF,zG,zH,zI,rwb,reduceIte]);exact q04 ⟨by simp [q6b,a1,a2,a3],rfl⟩
   ·(try simp only [rwp,zA,zB,zC,zD,zE,zF,zG,zH,zI,rwb,reduceIte,ByteArray.size_append]);have:(ByteArray.mk #[35]).size=1:=rfl;exact ⟨by omega,by omega,q04 ⟨by simp [q6b,a1,a2,a3],rfl⟩⟩
  ·(try simp only [rwp,zA,zB,zC,zD,zE,zF,zG,zH,zI,rwb,reduceIte,yn5,a2]);have a2:=of_decide_eq_true a2;exact q04 ⟨by simp [q6b,a1,a2],rfl⟩
theorem q8k {t:Tu} (ht:OkU t):AFun PG yu6 [.agg (tuC t)] (.str (q96 t)):=by
 intro S;refine xfx ?_;unfold xd0;(try simp only [rwp,zA,zB,zC,zD,zE,zF,zG,zH,zI,rwb,reduceIte,tuC]);have q1:=q41 ht.o;have q2:=q6l ht.s;simp only [obC] at q1;simp only [ndC] at q2;have h1:=q6x ht.o;have h2:=ycm ht.s;have h3:=ht.rl;refine q06 q1 ?_;(try simp only [rwp,zA,zB,zC,zD,zE,zF,zG,zH,zI,rwb,reduceIte]);refine q06 q2 ?_;(try simp only [rwp,zA,zB,zC,zD,zE,zF,zG,zH,zI,rwb,reduceIte]);refine q06 (q0z ht.rl) ?_;(try simp only [rwp,zA,zB,zC,zD,zE,zF,zG,zH,zI,rwb,reduceIte]);have e:=yry t;rw [q4u,y7e];cases a1:obB t.o
 ·(try simp only [rwp,zA,zB,zC,zD,zE,zF,zG,zH,zI,rwb,reduceIte,yae,y4w]);exact q04 ⟨by simp [q96,e,a1],rfl⟩
 ·cases a2:(obB t.s.o&&(decide (t.s.rl=⟨#[]⟩)||q0v t.s.rl))
  ·(try simp only [rwp,zA,zB,zC,zD,zE,zF,zG,zH,zI,rwb,reduceIte,yae,y4w]);exact q04 ⟨by simp only [q96,e,a1,a2];rfl,rfl⟩
  ·(try simp only [rwp,zA,zB,zC,zD,zE,zF,zG,zH,zI,rwb,reduceIte,yae]);cases a3:q0v t.rl
   ·(try simp only [rwp,zA,zB,zC,zD,zE,zF,zG,zH,zI,rwb,reduceIte,y4w]);exact q04 ⟨by simp only [q96,e,a1,a2,a3];rfl,rfl⟩
   ·(try simp only [rwp,zA,zB,zC,zD,zE,zF,zG,zH,zI,rwb,reduceIte,y4w,ByteArray.size_append]);have:(ByteArray.mk #[35]).size=1:=rfl;have:(ByteArray.mk #[64]).size=1:=rfl;exact ⟨by omega,by omega,by omega,by omega,q04 ⟨by simp only [q96,e,a1,a2,a3];rfl,rfl⟩⟩
theorem y27 {s:List Ty} (hs:OkS s) {t:Tu} (ht:OkU t):AFun PG x6o [scA s,.agg (tuC t)] (.int .i64 (q2i s t)):=by
 intro S;refine xkx ?_;unfold xjf;have q:=q8k ht;simp only [tuC] at q;have hty:=hs.types;(try simp only [rwp,zA,zB,zC,zD,zE,zF,zG,zH,zI,rwb,reduceIte,scA,tuC]);refine q06 q ?_;(try simp only [rwp,zA,zB,zC,zD,zE,zF,zG,zH,zI,rwb,reduceIte]);rw [y7d];cases a1:tuB t
 ·(try simp only [rwp,zA,zB,zC,zD,zE,zF,zG,zH,zI,rwb,reduceIte]);exact q04 ⟨by simp [q2i,a1],rfl⟩
 ·(try simp only [rwp,zA,zB,zC,zD,zE,zF,zG,zH,zI,rwb,reduceIte]);have q2:=y92 hs t.o.ty t.rl;simp only [scA] at q2;have loop:∀ (v5:List AV) (fd:Bool) (K:Bool->Prop),(∀ b:Bool,b=(y04 s t.s.o.ty).isSome->yig (fun ae S'=>ae=.ret (.int .i64 (q2i s t))/\S'=S) (.rop (tuC t)) (.rop v5) (.bool (!fd||!b)) S) ->
    LoopP (fun r0 l S1=>x1r (fun ae S'=>ae=.ret (.int .i64 (q2i s t))/\S'=S) r0 (y00 l 2) (y00 l 3) (y00 l 5) (y00 l 6) (y00 l 7) (y00 l 8) S1) [(2,.rop [.sl 2 (s.map tyC)]),(3,.rop (tuC t)),(5,.rop v5),(6,.bool fd),(7,.bool false),(8,.int .i64 0)] S:=by
   intro v5 fd K hK;refine LoopP.intro (fun i:Nat=>[(2,.rop [.sl 2 (s.map tyC)]),(3,.rop (tuC t)),(5,.rop v5),(6,.bool fd),(7,.bool ((s.take i).any fun u=>decide (u.name=t.s.o.ty))),(8,.int .i64 i)]) (fun _=>S) (fun i=>i<=s.length) (fun i=>s.length-i) 0 (by omega) rfl (Sub.refl S) ?_
   intro i hi k hk;(try simp only [rwp,zA,zB,zC,zD,zE,zF,zG,zH,zI,rwb,reduceIte,x1r])
   (refine q02 (fun hlt=>?_) (fun hlt=>?_)<;>(try simp only [hlc] at hlt))
   ·obtain ⟨u,hu⟩:=q0c hlt;have hn:=hk (i+1) (by omega) (by omega)
    rw [q7m hu] at hn;cases a2:(s.take i).any fun u=>decide (u.name=t.s.o.ty)
    ·rw [a2,Bool.false_or] at hn;(try simp only [rwp,zA,zB,zC,zD,zE,zF,zG,zH,zI,rwb,reduceIte,hu,tyC,tuC])
     (simp (disch:=omega) only [q05])
     exact q09 rfl hn
    ·rw [a2,Bool.true_or] at hn;(try simp only [rwp,zA,zB,zC,zD,zE,zF,zG,zH,zI,rwb,reduceIte,hu,tyC,tuC])
     (simp (disch:=omega) only [q05])
     exact q09 rfl hn
   ·have e:s.take i=s:=lF (by omega)
    rw [e,yip];have:=hK _ rfl;cases fd
    ·(try simp only [rwp,zA,zB,zC,zD,zE,zF,zG,zH,zI,rwb,reduceIte]);simpa only [Bool.not_false,Bool.true_or] using this
    ·(try simp only [rwp,zA,zB,zC,zD,zE,zF,zG,zH,zI,rwb,reduceIte]);simpa only [Bool.not_true,Bool.false_or] using this
  cases hq:q0h s t.o.ty t.rl with
  | none=>
   rw [hq] at q2;refine q06 q2 ?_;(try simp only [rwp,zA,zB,zC,zD,zE,zF,zG,zH,zI,rwb,reduceIte,yoh]);refine loop _ false (fun _=>True) fun b hb=>?_
   (try simp only [rwp,zA,zB,zC,zD,zE,zF,zG,zH,zI,rwb,reduceIte,yig]);exact q04 ⟨by simp [q2i,a1,hq],rfl⟩
  | some q3=>
   obtain ⟨i,k,r⟩:=q3;obtain ⟨-,ty,h2,-,h4⟩:=q11 hq;have hok:=(hs.at h2).at h4;have hrl:=hok.refs;rw [hq] at q2;refine q06 q2 ?_;(try simp only [rwp,zA,zB,zC,zD,zE,zF,zG,zH,zI,rwb,reduceIte,q0o]);refine loop _ true (fun _=>True) fun b hb=>?_
   cases b
   ·(try simp only [rwp,zA,zB,zC,zD,zE,zF,zG,zH,zI,rwb,reduceIte,yig]);exact q04 ⟨by simp only [q2i,a1,hq,<- hb];rfl,rfl⟩
   ·(try simp only [rwp,zA,zB,zC,zD,zE,zF,zG,zH,zI,rwb,reduceIte,yig]);have hval:q2i s t=if r.refs.any (fun f=>decide (t.s.o.ty=f.ty)&&decide (t.s.rl=f.rl)) then 0 else 10:=by simp only [q2i,a1,hq,<- hb];rfl
    refine LoopP.intro (fun i:Nat=>[(3,.rop (tuC t)),(5,.rop [.str r.name,.sl 2 (r.refs.map rfC),.int .i64 r.ex.kind,.str r.ex.name,.str r.ex.over,.sl 4 (r.ex.kids.map exC)]),(9,.int .i64 i)]) (fun _=>S) (fun i=>i<=r.refs.length/\(r.refs.take i).any (fun f=>decide (t.s.o.ty=f.ty)&&decide (t.s.rl=f.rl))=false) (fun i=>r.refs.length-i) 0 ⟨by omega,rfl⟩ rfl (Sub.refl S) ?_
    rintro i ⟨hi,hn⟩ k hk;(try simp only [rwp,zA,zB,zC,zD,zE,zF,zG,zH,zI,rwb,reduceIte,xa2])
    (refine q02 (fun hlt=>?_) (fun hlt=>?_)<;>(try simp only [hlc] at hlt))
    ·obtain ⟨f,hf⟩:=q0c hlt;have hs:=q7m (p:=fun f:Rf=>decide (t.s.o.ty=f.ty)&&decide (t.s.rl=f.rl)) hf
     rw [hn,Bool.false_or] at hs;(try simp only [rwp,zA,zB,zC,zD,zE,zF,zG,zH,zI,rwb,reduceIte,hf,rfC,tuC]);have comm:∀ a b:ByteArray,decide (a=b)=decide (b=a):=fun a b=>by rw [Bool.eq_iff_iff];simp [eq_comm]
     rw [comm f.ty];cases b1:decide (t.s.o.ty=f.ty)
     ·(try simp only [rwp,zA,zB,zC,zD,zE,zF,zG,zH,zI,rwb,reduceIte])
      (simp (disch:=omega) only [q05])
      exact q09 rfl (hk (i+1) ⟨by omega,by rw [hs,b1];rfl⟩ (by omega))
     ·(try simp only [rwp,zA,zB,zC,zD,zE,zF,zG,zH,zI,rwb,reduceIte,hf,rfC,tuC]);rw [comm f.rl];cases b2:decide (t.s.rl=f.rl)
      ·(try simp only [rwp,zA,zB,zC,zD,zE,zF,zG,zH,zI,rwb,reduceIte])
       (simp (disch:=omega) only [q05])
       exact q09 rfl (hk (i+1) ⟨by omega,by rw [hs,b1,b2];rfl⟩ (by omega))
      ·(try simp only [rwp,zA,zB,zC,zD,zE,zF,zG,zH,zI,rwb,reduceIte]);refine q04 ⟨?_,rfl⟩;rw [hval,if_pos (List.any_eq_true.2 ⟨f,lB hf,by rw [b1,b2];rfl⟩)]
    ·have e:r.refs.take i=r.refs:=lF (by omega)
     rw [e] at hn;exact q04 ⟨by rw [hval,hn];rfl,rfl⟩
theorem q66 {s:List Ty} (hs:OkS s) {l:List Tu} (hl:OkL l):AFun PG x79 [scA s,.sl 6 (l.map tuC)] (.sl 6 ((q0l s l).map tuC)):=by
 intro S;refine xll ?_;unfold xk2;have hn:=hl.n;(try simp only [rwp,zA,zB,zC,zD,zE,zF,zG,zH,zI,rwb,reduceIte,scA]);refine LoopP.introS (fun p:Nat×AV=>[(1,.sl 6 (l.map tuC)),(2,.rop [.sl 2 (s.map tyC)]),(5,p.2),(6,.int .i64 p.1)]) (fun p S'=>p.1<=l.length/\Sub S S'/\LstN S S' y73 6 p.2 ((q0l s (l.take p.1)).map tuC)) (fun p=>l.length-p.1) (0,.nils) ⟨by omega,Sub.refl S,LstN.nil⟩ rfl ?_
 rintro ⟨i,v⟩ S' ⟨hi,hsub,hv⟩ k hk;dsimp only at hi hsub hv;(try simp only [rwp,zA,zB,zC,zD,zE,zF,zG,zH,zI,rwb,reduceIte,xap])
 (refine q02 (fun hlt=>?_) (fun hlt=>?_)<;>(try simp only [hlc] at hlt))
 ·obtain ⟨t,ht⟩:=q0c hlt;have q:=y27 hs (hl.ok t (lB ht));simp only [scA,tuC] at q;have e:=q1v (p:=fun t=>decide (q2i s t=0)) ht
  (try simp only [rwp,zA,zB,zC,zD,zE,zF,zG,zH,zI,rwb,reduceIte,ht,tuC]);refine q06 q ?_;(try simp only [rwp,zA,zB,zC,zD,zE,zF,zG,zH,zI,rwb,reduceIte]);have hlen:(q0l s (l.take i)).length<=i:=Nat.le_trans (lS _ _) (by rw [lR];omega)
  cases a1:decide (q2i s t=0)
  ·rw [a1] at e;(try simp only [rwp,zA,zB,zC,zD,zE,zF,zG,zH,zI,rwb,reduceIte])
   (simp (disch:=omega) only [q05])
   exact q09 rfl (hk (i+1,v) S' ⟨by dsimp only;omega,hsub,by dsimp only;rw [q0l,e];simpa [q0l] using hv⟩ (by dsimp only;omega))
  ·rw [a1] at e;(try simp only [rwp,zA,zB,zC,zD,zE,zF,zG,zH,zI,rwb,reduceIte,ht,tuC]);refine LstN.tu (t:=t) hsub hv (by omega) fun v' S2 h1 h2=>?_
   (simp (disch:=omega) only [q05])
   exact q09 rfl (hk (i+1,v') S2 ⟨by dsimp only;omega,h1,by dsimp only;rw [q0l,e];exact h2⟩ (by dsimp only;omega))
 ·have e:l.take i=l:=lF (by omega)
  rw [e] at hv;exact q3o hsub hv ⟨rfl,rfl⟩
set_option maxRecDepth 4000
def LstW (S0 S:q00) (t sz:Nat) (v:AV) (rows:List (List AV)):Prop:=
 (∀ r∈rows,r.length=sz)/\((v=.nils/\rows=[])\/∃ b cap cs,v=.own b 0 rows.length cap/\y01 S0 b=none/\y01 S b=some (.cells t cs (cap * sz))/\cs.take (rows.length * sz)=rows.flatten/\rows.length * sz<=cs.length/\rows.length<=cap/\cap<=maxLen)
section
variable {S0 S:q00} {t sz bytes:Nat} {v:AV} {rows xs:List (List AV)} {K:AV->q00->Prop}
theorem LstW.nil:LstW S0 S t sz .nils []:=⟨fun r hr=>by (cases hr),.inl ⟨rfl,rfl⟩⟩
theorem LstW.upd (h:LstW S0 S t sz v rows) {c:Nat} (hc:q0u v c) (o:AObj):LstW S0 (supd S c o) t sz v rows:=by
 obtain ⟨hr,h⟩:=h;refine ⟨hr,?_⟩;rcases h with h | ⟨b,cap,cs,rfl,h1,h2,h3⟩
 ·exact .inl h
 ·exact .inr ⟨b,cap,cs,rfl,h1,by rw [q01,if_neg (hc b 0 _ _ rfl)];exact h2,h3⟩
theorem LstW.app (hs:Sub S0 S) (h:LstW S0 S t sz v rows) {x:List AV} (hx:x.length=sz) (ho:y06 x=true) (hb:(rows.length+1) * bytes<=140737488355328)
  (hK:∀ v' S',Sub S0 S'->LstW S0 S' t sz v' (rows++[x])->(∀ c o,y01 S c=some o->q0u v c->y01 S' c=some o/\q0u v' c)->K v' S'):apW S t sz bytes v (.sl sz [x]) K:=by
 refine ⟨1,x,by simp [y9h],ho,?_⟩
 obtain ⟨hr,h⟩:=h;have hall:∀ r∈rows++[x],r.length=sz:=fun r hm=>(List.mem_append.1 hm).elim (hr r) fun h=>by rw [List.mem_singleton.1 h];exact hx
 have hfl:(rows++[x]).flatten.length=(rows.length+1) * sz:=by rw [q1t hall];simp
 rcases h with ⟨rfl,rfl⟩ | ⟨b,cap,cs,rfl,h1,h2,h3,h4,h5,h6⟩
 ·dsimp only;simp only [lJ,Nat.zero_add] at hb;refine ⟨hb,?_⟩;rw [if_neg (by decide)]
  intro b cap hbn k1 k2;have hb0:=Sub.none hs hbn;refine hK _ _ (hs.supd hb0) ⟨hall,.inr ⟨b,cap,x,by simp,hb0,by rw [q01,if_pos rfl],?_,by simp [hx],by simpa using k1,k2⟩⟩ fun c o hc _=>?_
  ·simp [lF,hx]
  ·have hne:b≠c:=q0p hbn hc;exact ⟨by rw [q01,if_neg hne];exact hc,fun b' off n cap h=>by cases h;exact Ne.symm hne⟩
 ·refine ⟨_,h2,h5,h6,h4,hb,fun b' cap' k1 k2 k3=>?_⟩
  rw [h3];have hb0:y01 S0 b'=none:=by
   rcases k1 with rfl | k1
   ·exact h1
   ·exact Sub.none hs k1
  have hsub:Sub S0 (supd (y0d S b) b' (.cells t (rows.flatten++x) (cap' * sz))):=by
   refine Sub.supd hb0 fun c o hc=>?_
   have hne:b≠c:=by rintro rfl;rw [h1] at hc;cases hc
   rw [q0b,if_neg hne];exact hs c o hc
  refine hK _ _ hsub ⟨hall,.inr ⟨b',cap',rows.flatten++x,by simp,hb0,by rw [q01,if_pos rfl],?_,?_,by simpa using k2,k3⟩⟩ fun c o hc ha=>?_
  ·have e:rows.flatten++x=(rows++[x]).flatten:=by simp
   rw [e,lF (by rw [hfl];simp)]
  ·have e:rows.flatten++x=(rows++[x]).flatten:=by simp
   rw [e,hfl];simp
  ·have hcb:c≠b:=ha b 0 _ _ rfl;have hcb':b'≠c:=by
    rcases k1 with rfl | k1
    ·exact Ne.symm hcb
    ·exact q0p k1 hc
   exact ⟨by rw [q01,if_neg hcb',q0b,if_neg (Ne.symm hcb)];exact hc,fun b'' off n cap h=>by cases h;exact Ne.symm hcb'⟩
theorem LstW.one (h:LstW S0 S t sz v rows):Go.HL.one v=true:=by
 obtain ⟨hr,h⟩:=h;rcases h with ⟨rfl,-⟩ | ⟨b,cap,cs,rfl,-⟩<;>rfl
theorem LstW.cut {x:List AV} (h:LstW S0 S t sz v (rows++[x])):∃ b cap,v=.own b 0 (rows.length+1) cap/\LstW S0 S t sz (.own b 0 rows.length cap) rows/\rows.length+1<=cap:=by
 obtain ⟨hr,h⟩:=h;rcases h with ⟨rfl,h⟩ | ⟨b,cap,cs,rfl,h1,h2,h3,h4,h5,h6⟩
 ·simp at h
 ·have hr':∀ r∈rows,r.length=sz:=fun r hm=>hr r (List.mem_append.2 (.inl hm))
  simp only [lH,lP] at *;refine ⟨b,cap,rfl,⟨hr',.inr ⟨b,cap,cs,rfl,h1,h2,?_,?_,by omega,h6⟩⟩,h5⟩
  ·have hl:=q1t hr';have h7:(cs.take ((rows.length+1) * sz)).take (rows.length * sz)=rows.flatten:=by
    rw [h3,lX,lc (by rw [hl];exact Nat.le_refl _),lF (by rw [hl];exact Nat.le_refl _)]
   rw [List.take_take,Nat.min_eq_left (Nat.mul_le_mul_right _ (by omega))] at h7
   exact h7
  ·exact Nat.le_trans (Nat.mul_le_mul_right _ (by omega)) h4
theorem LstW.ln {K:AV->Prop} {S':q00} (h:LstW S0 S t sz v rows):lnW S' 1 v K=K (.int .i64 rows.length):=by
 obtain ⟨hr,⟨rfl,rfl⟩ | ⟨b,cap,cs,rfl,-⟩⟩:=h
 ·rw [q9m];rfl
 ·rw [y5q]
theorem LstW.get (h:LstW S0 S t sz v rows) {i:Nat} {r:List AV} (hi:rows[i]?=some r):∃ b cap cs,v=.own b 0 rows.length cap/\q2e S b=some cs/\(cs.drop (i * sz)).take sz=r/\i * sz+sz<=cs.length:=by
 obtain ⟨hr,⟨rfl,rfl⟩ | ⟨b,cap,cs,rfl,h1,h2,h3,h4,h5,h6⟩⟩:=h
 ·simp at hi
 ·have hlt:=(List.getElem?_eq_some_iff.1 hi).1;have hrl:=hr r (lB hi);have hle:i * sz+sz<=rows.length * sz:=by
   calc i * sz+sz=(i+1) * sz:=by rw [Nat.succ_mul]
    _<=rows.length * sz:=Nat.mul_le_mul_right _ hlt
  refine ⟨b,cap,cs,rfl,q08 (objAt_some.2 h2),?_,by omega⟩
  apply List.ext_getElem?
  intro j;rw [List.getElem?_take];by_cases hj:j<sz
  ·rw [if_pos hj,List.getElem?_drop];have hu:r[j]?=some (r[j]'(by omega)):=lE (by omega)
   have:=q77 hr hi hu;rw [<- h3,List.getElem?_take,if_pos (by omega)] at this
   rw [this,hu]
  ·rw [if_neg hj,List.getElem?_eq_none_iff.2 (by omega)]
end
abbrev xil:Nat:=106
abbrev xgf:Nat:=175
def s5C (E:q1o) (L:List Tu) (B:Int) (w:Nat) (pv:AV) (over:Bool):List AV:=[.sl 2 (E.s.map tyC),.sl 6 (L.map tuC),.str E.who.ty,.str E.who.id,.int .i64 B,.int .i64 w,pv,.bool over]
structure xma (E:q1o) (L:List Tu) (B:Int) (bc:Nat) (S0:q00):Prop where
 s:OkS E.s
 may:∀ t∈E.s,∀ r∈t.rels,r.refs.length=0->y0i 12 r.ex=true
 nb:y01 S0 bc=none
 lst:OkL L
 of:∀ n,E.of n=(ofF L n).map Tu.s
 B:B<=100000
def StR (E:q1o) (L:List Tu) (B:Int) (bc:Nat) (S0:q00) (P:List Nd) (over:Bool) (w:Nat) (S:q00):Prop:=
 (over=false->(w:Int)<=B)/\Sub S0 S/\∃ pv,q0m S bc=some (xil,s5C E L B w pv over,8)/\LstW S0 S xgf 3 pv (P.reverse.map ndC)/\q0u pv bc
section
variable {E:q1o} {L:List Tu} {B:Int} {bc:Nat} {S0:q00} {P:List Nd} {ask:Nd->Nat->Option (Bool×Nat)}
theorem x63 (a b:Ob):decide (a=b)=(decide (a.ty=b.ty)&&decide (a.id=b.id)):=by
 rw [Bool.eq_iff_iff];cases a;cases b;simp
theorem seen {P:List Nd} {n:Nd} {i:Nat} (h:∀ (j:Nat) (m:Nd),j<i->P.reverse[j]?=some m->¬ m=n) (hi:P.length<=i):n ∉ P:=fun hn=>by
 obtain ⟨j,hj⟩:=lL (List.mem_reverse.2 hn);have hlt:=(List.getElem?_eq_some_iff.1 hj).1;rw [List.length_reverse] at hlt;exact h j n (by omega) hj rfl
theorem StR.set (h:xma E L B bc S0) {S:q00} {pv:AV} {over:Bool} {w:Nat} {cs:List AV} (hw:over=false->(w:Int)<=B) (hsub:Sub S0 S) (hlst:LstW S0 S xgf 3 pv (P.reverse.map ndC)) (ha:q0u pv bc) (hcs:cs=s5C E L B w pv over):StR E L B bc S0 P over w (supd S bc (.cells xil cs 8)):=by
 subst hcs;exact ⟨hw,Sub.supd h.nb hsub,pv,by rw [objAt_supd,if_pos rfl],hlst.upd ha _,ha⟩
end
set_option maxRecDepth 4000
theorem q5t:∀ (vs cs:List AV) (off:Nat),off+vs.length<=cs.length->q1i cs off vs=cs.take off++(vs++cs.drop (off+vs.length))
 | [],cs,off,h=>by simp [q1i]
 | v :: r,cs,off,h=>by
  simp only [lD] at h;have ih:=q5t r (cs.set off v) (off+1) (by rw [List.length_set];omega)
  show q1i (cs.set off v) (off+1) r=_;rw [ih];have hlt:off<cs.length:=by omega
  have e1:(cs.set off v).take (off+1)=cs.take off++[v]:=by
   rw [List.set_eq_take_append_cons_drop,if_pos hlt,List.take_append,lR,Nat.min_eq_left (by omega)]
   have:off+1-off=1:=by omega
   rw [this,lF (by rw [lR];omega)]
   rfl
  have e2:(cs.set off v).drop (off+1+r.length)=cs.drop (off+(v :: r).length):=by
   rw [List.drop_set_of_lt (by omega)]
   congr 1
   simp only [lD];omega
  rw [e1,e2,lW];rfl
section
variable {α:Type} {enc:α->List AV} {sz:Nat}
def upv (v:Nat->α) (i:Nat) (x:α):Nat->α:=fun k=>if k=i then x else v k
def fl (enc:α->List AV) (n:Nat) (v:Nat->α):List AV:=((vl n v).map enc).flatten
theorem y74 {v:Nat->α} {i j:Nat}:upv (upv v i (v j)) j (v i)=sw v i j:=rfl
theorem y5y (he:∀ x,(enc x).length=sz) {n:Nat} {v:Nat->α}:∀ r∈(vl n v).map enc,r.length=sz:=fun r hr=>by
 obtain ⟨x,-,rfl⟩:=List.mem_map.1 hr;exact he x
theorem q24 (he:∀ x,(enc x).length=sz) {n:Nat} {v:Nat->α}:(fl enc n v).length=n * sz:=by
 unfold fl;rw [q1t (y5y he),lA,q1p]
theorem yin {n k:Nat} {v:Nat->α}:vl (n+k) v=vl n v++(lI n k).map v:=by
 unfold vl;rw [<- lK,List.range_eq_range',List.range_eq_range']
 congr 1
 have:=List.range'_append (s:=0) (m:=n) (n:=k) (step:=1);rw [show 0+1 * n=n by omega] at this
 exact this.symm
theorem q7r {n:Nat} {v:Nat->α}:vl (n+1) v=vl n v++[v n]:=by rw [yin];rfl
theorem yeb (he:∀ x,(enc x).length=sz) {n i:Nat} (hi:i<=n) {v:Nat->α}:∃ rest,fl enc n v=fl enc i v++rest:=by
 obtain ⟨k,rfl⟩:∃ k,n=i+k:=⟨n-i,by omega⟩
 refine ⟨(((lI i k).map v).map enc).flatten,?_⟩;unfold fl;rw [yin,lK,lX]
theorem y5x (he:∀ x,(enc x).length=sz) {n i:Nat} (hi:i<=n) {v:Nat->α}:(fl enc n v).take (i * sz)=fl enc i v:=by
 obtain ⟨rest,e⟩:=yeb (v:=v) he hi;rw [e,lc (by rw [q24 he];exact Nat.le_refl _),lF (by rw [q24 he];exact Nat.le_refl _)]
theorem yld {n:Nat} {v:Nat->α}:fl enc (n+1) v=fl enc n v++enc (v n):=by
 unfold fl;rw [q7r,lK,lX];simp
theorem y1q (he:∀ x,(enc x).length=sz) {n i:Nat} (hi:i<n) {v:Nat->α}:∃ rest,(fl enc n v).drop (i * sz)=enc (v i)++rest:=by
 obtain ⟨rest,e⟩:=yeb (v:=v) (i:=i+1) he hi;refine ⟨rest,?_⟩;rw [e,yld,lW,List.drop_append_of_le_length (by rw [q24 he];exact Nat.le_refl _),List.drop_of_length_le (by rw [q24 he];exact Nat.le_refl _)]
 rfl
theorem yzc {n:Nat} {v w:Nat->α} (h:∀ i,i<n->v i=w i):fl enc n v=fl enc n w:=by
 unfold fl vl
 congr 2
 exact List.map_congr_left fun i hi=>h i (by simpa using hi)
theorem y5z (he:∀ x,(enc x).length=sz) {n i:Nat} (hi:i<n) {v:Nat->α} {x:α}:q1i (fl enc n v) (i * sz) (enc x)=fl enc n (upv v i x):=by
 have hle:i * sz+sz<=n * sz:=by
  calc i * sz+sz=(i+1) * sz:=by rw [Nat.succ_mul]
   _<=n * sz:=Nat.mul_le_mul_right _ hi
 rw [q5t _ _ _ (by rw [he,q24 he];exact hle),y5x he (by omega),he]
 obtain ⟨k,rfl⟩:∃ k,n=i+1+k:=⟨n-(i+1),by omega⟩
 have e:∀ w:Nat->α,fl enc (i+1+k) w=fl enc i w++(enc (w i)++(((lI (i+1) k).map w).map enc).flatten):=by
  intro w;have:fl enc (i+1+k) w=fl enc (i+1) w++(((lI (i+1) k).map w).map enc).flatten:=by
   unfold fl;rw [yin,lK,lX]
  rw [this,yld,lW]
 rw [e v,e (upv v i x)];have e1:fl enc i (upv v i x)=fl enc i v:=yzc fun j hj=>if_neg (by omega)
 have e2:(lI (i+1) k).map (upv v i x)=(lI (i+1) k).map v:=List.map_congr_left fun j hj=>if_neg (by simp at hj;omega)
 have e3:upv v i x i=x:=if_pos rfl;rw [e1,e2,e3];have hd:∀ R:List AV,(fl enc i v++(enc (v i)++R)).drop (i * sz+sz)=R:=fun R=>by
  rw [<- lW,List.drop_left' (by rw [lH,q24 he,he])]
 rw [hd]
end
def OwnL {α:Type} (S0 S:q00) (t sz:Nat) (enc:α->List AV) (a:AV) (n:Nat) (v:Nat->α):Prop:=
 (a=.nils/\n=0)\/∃ b cap,a=.own b 0 n cap/\y01 S0 b=none/\y01 S b=some (.cells t (fl enc n v) (cap * sz))/\n<=cap/\cap<=maxLen
theorem OwnL.lstW {α:Type} {S0 S:q00} {t sz:Nat} {enc:α->List AV} (he:∀ x,(enc x).length=sz) {a:AV} {n:Nat} {v:Nat->α} (h:OwnL S0 S t sz enc a n v):LstW S0 S t sz a ((vl n v).map enc):=by
 refine ⟨y5y he,?_⟩;rcases h with ⟨rfl,rfl⟩ | ⟨b,cap,rfl,h1,h2,h3,h4⟩
 ·exact .inl ⟨rfl,rfl⟩
 ·refine .inr ⟨b,cap,_,?_,h1,h2,?_,?_,?_,h4⟩
  ·rw [lA,q1p]
  ·rw [lA,q1p,lF (by rw [q24 he];exact Nat.le_refl _)];rfl
  ·rw [lA,q1p,q24 he];exact Nat.le_refl _
  ·rw [lA,q1p];exact h3
def at' {α:Type} [Inhabited α] (l:List α):Nat->α:=fun i=>l.getD i default
theorem yoj {α:Type} [Inhabited α] (l:List α):vl l.length (at' l)=l:=xge l default
instance:Inhabited Tu:=⟨⟨⟨⟨#[]⟩,⟨#[]⟩⟩,⟨#[]⟩,⟨⟨⟨#[]⟩,⟨#[]⟩⟩,⟨#[]⟩⟩⟩⟩
instance:Inhabited Ob:=⟨⟨⟨#[]⟩,⟨#[]⟩⟩⟩
theorem q2l (t:Tu):(tuC t).length=6:=rfl
theorem x03 {l:List Tu} (hb:l.length<=100000) (S:q00):ACalls PG yub [.sl 6 (l.map tuC)] S fun ae S'=>∃ a,ae=.ret a/\Sub S S'/\OwnL S S' y73 6 tuC a l.length (at' l):=by
 refine xg3 ?_;unfold xd6;have hfl:fl tuC l.length (at' l)=(l.map tuC).flatten:=by unfold fl;rw [yoj]
 have app:bsW S y73 6 [] fun v5 S2=>apW S2 y73 6 96 v5 (.sl 6 (l.map tuC)) fun v7 S1=>rtW [.tmp v7] (fun ae S'=>∃ a,ae=.ret a/\Sub S S'/\OwnL S S' y73 6 tuC a l.length (at' l)) S1:=by
  refine ⟨trivial,fun b hb0=>?_⟩
  refine ⟨l.length,(l.map tuC).flatten,by simp [y9h],q2q fun r hr=>by obtain ⟨t,-,rfl⟩:=List.mem_map.1 hr;rfl,?_⟩
  refine ⟨[],by rw [q01,if_pos rfl];rfl,Nat.le_refl _,Nat.zero_le _,by simp,by simp only [lJ];omega,fun b' cap' k1 k2 k3=>?_⟩
  have hb':y01 S b'=none:=by
   rcases k1 with rfl | k1
   ·exact hb0
   ·rw [q01] at k1;split at k1
    ·cases k1
    ·exact k1
  refine q04 ⟨_,rfl,Sub.supd hb' (fun c o hc=>?_),.inr ⟨b',cap',by simp,hb',by rw [q01,if_pos rfl,hfl];simp,by simpa using k2,k3⟩⟩
  have hne:b≠c:=q0p hb0 hc;rw [q0b,if_neg hne,q01,if_neg hne];exact hc
 cases l with
 | nil=>exact ⟨q3t app,⟨fun _=>q04 ⟨_,rfl,Sub.refl _,.inl ⟨rfl,rfl⟩⟩,fun h=>by cases h⟩⟩
 | cons t r=>exact q3t app
section
variable {S0 S:q00} {a:AV} {n:Nat} {u:Nat->Tu} {g:Nat} {fi ca:List AV} {p:Tu->Bool}
theorem yqj (h:OwnL S0 S y73 6 tuC a n u) (hb:n<=100000) (hp:∀ i,i<n->AFun PG g (fi++[.agg (tuC (u i))]++ca) (.bool (p (u i)))) :
  ACalls PG ytj [a,.func (.func g) fi ca] S fun ae S'=>S'=S/\((ae=.ret (.int .i64 (-1))/\∀ i,i<n->p (u i)=false)\/∃ k:Nat,k<n/\ae=.ret (.int .i64 k)/\p (u k)=true/\∀ i,i<k->p (u i)=false):=by
 refine xf5 ?_;unfold xc8;have hl:=h.lstW q2l;rw [hl.ln,lA,q1p];refine LoopP.introS (fun i:Nat=>[(0,a),(1,.func (.func g) fi ca),(7,.int .i64 n),(8,.int .i64 i)]) (fun i S'=>S'=S/\i<=n/\∀ j,j<i->p (u j)=false) (fun i=>n-i) 0 ⟨rfl,by omega,fun j hj=>by omega⟩ rfl ?_
 rintro i S' ⟨rfl,hi,hno⟩ kk hkk;(try simp only [rwp,zA,zB,zC,zD,zE,zF,zG,zH,zI,rwb,reduceIte,yvv])
 (refine q02 (fun hlt=>?_) (fun hlt=>?_)<;>(try simp only [hlc] at hlt))
 ·have hin:i<n:=by omega
  rcases h with ⟨rfl,e⟩ | ⟨b,cap,rfl,h1,h2,h3,h4⟩
  ·omega
  ·have hc:=q08 (objAt_some.2 h2);obtain ⟨rest,hd⟩:=y1q (v:=u) q2l hin;rw [show tuC (u i)=[.str (u i).o.ty,.str (u i).o.id,.str (u i).rl,.str (u i).s.o.ty,.str (u i).s.o.id,.str (u i).s.rl] from rfl] at hd
   simp only [List.cons_append,lQ] at hd;(try simp only [rwp,zA,zB,zC,zD,zE,zF,zG,zH,zI,rwb,reduceIte,hc,Int.toNat_natCast,Nat.zero_add,hd]);refine ⟨hlt,?_⟩;have q:=hp i hin;rw [show tuC (u i)=[.str (u i).o.ty,.str (u i).o.id,.str (u i).rl,.str (u i).s.o.ty,.str (u i).s.o.id,.str (u i).s.rl] from rfl] at q
   refine y8w q ?_;cases hq:p (u i)
   ·(try simp only [rwp,zA,zB,zC,zD,zE,zF,zG,zH,zI,rwb,reduceIte])
    (simp (disch:=omega) only [q05])
    refine q09 rfl (hkk (i+1) _ ⟨rfl,by omega,fun j hj=>?_⟩ (by omega))
    by_cases e:j=i
    ·rw [e];exact hq
    ·exact hno j (by omega)
   ·(try simp only [rwp,zA,zB,zC,zD,zE,zF,zG,zH,zI,rwb,reduceIte]);exact q04 ⟨rfl,.inr ⟨i,hin,rfl,hq,hno⟩⟩
 ·(try simp only [rwp,zA,zB,zC,zD,zE,zF,zG,zH,zI,rwb,reduceIte]);exact q04 ⟨rfl,.inl ⟨rfl,fun j hj=>hno j (by omega)⟩⟩
end
theorem y1u {α:Type} {p:α->Bool} {n:Nat} {u:Nat->α} (h:∀ i,i<n->p (u i)=true):(vl n u).filter p=vl n u:=by
 rw [List.filter_eq_self];intro x hx;obtain ⟨i,hi,rfl⟩:=List.mem_map.1 hx;exact h i (by simpa using hi)
theorem ym5 {S0 S:q00} {a:AV} {n:Nat} {u:Nat->Tu} {g:Nat} {fi ca:List AV} {p:Tu->Bool} (hs:Sub S0 S) (h:OwnL S0 S y73 6 tuC a n u) (hb:n<=100000) (hp:∀ i,i<n->AFun PG g (fi++[.agg (tuC (u i))]++ca) (.bool (p (u i)))) :
  ACalls PG yuc [a,.func (.func g) fi ca] S fun ae S'=>∃ a',ae=.ret a'/\Sub S0 S'/\LstW S0 S' y73 6 a' (((vl n u).filter fun t=>!p t).map tuC):=by
 refine xg4 ?_;unfold xd7;refine q0k (yqj h hb hp) ?_;rintro ae S' ⟨rfl,⟨rfl,hno⟩ | ⟨k,hk,rfl,hpk,hno⟩⟩
 ·dsimp only;(try simp only [rwp,zA,zB,zC,zD,zE,zF,zG,zH,zI,rwb,reduceIte]);refine q04 ⟨a,rfl,hs,?_⟩;rw [y1u (p:=fun t=>!p t) (n:=n) (u:=u) fun i hi=>by simp [hno i hi]]
  exact h.lstW q2l
 ·rcases h with ⟨rfl,e⟩ | ⟨b,cap,rfl,h1,h2,h3,h4⟩
  ·omega
  ·dsimp only;(try simp only [rwp,zA,zB,zC,zD,zE,zF,zG,zH,zI,rwb,reduceIte]);rw [decide_eq_false (show ¬ (k:Int)=-1 by omega)]
   (try simp only [rwp,zA,zB,zC,zD,zE,zF,zG,zH,zI,rwb,reduceIte])
   (simp (disch:=omega) only [q05])
   refine LoopP.introS (fun x:Nat×Nat=>[(0,.own b 0 n cap),(1,.func (.func g) fi ca),(5,.int .i64 x.1),(6,.int .i64 x.2)])
    (fun x S2=>x.1<x.2/\x.2<=n/\∃ v,S2=supd S' b (.cells y73 (fl tuC n v) (cap * 6))/\vl x.1 v=(vl x.2 u).filter (fun t=>!p t)/\∀ i,x.2<=i->v i=u i) (fun x=>n-x.2) (k,k+1)
    ⟨by dsimp only;omega,by dsimp only;omega,u,?_,?_,fun _ _=>rfl⟩ rfl ?_
   ·funext c
    unfold supd;split
    ·rename_i e;subst e;exact h2
    ·rfl
   ·dsimp only;rw [q7r,List.filter_append,y1u (p:=fun t=>!p t) (n:=k) (u:=u) fun i hi=>by simp [hno i hi]]
    simp [hpk]
   ·rintro ⟨i,j⟩ S2 ⟨hij,hj,v,rfl,hv,hr⟩ kk hkk;dsimp only at hij hj hv hr ⊢;(try simp only [rwp,zA,zB,zC,zD,zE,zF,zG,zH,zI,rwb,reduceIte,ywf]);have ho:q0m (supd S' b (.cells y73 (fl tuC n v) (cap * 6))) b=some (y73,fl tuC n v,cap * 6):=q0f;have hc:=q08 ho
    (refine q02 (fun hlt=>?_) (fun hlt=>?_)<;>(try simp only [hlc] at hlt))
    ·have hjn:j<n:=by omega
     obtain ⟨rest,hd⟩:=y1q (v:=v) q2l hjn;rw [hr j (Nat.le_refl _)] at hd;have ec:tuC (u j)=[.str (u j).o.ty,.str (u j).o.id,.str (u j).rl,.str (u j).s.o.ty,.str (u j).s.o.id,.str (u j).s.rl]:=rfl;rw [ec] at hd;simp only [List.cons_append,lQ] at hd;(try simp only [rwp,zA,zB,zC,zD,zE,zF,zG,zH,zI,rwb,reduceIte,hc,Int.toNat_natCast,Nat.zero_add,hd]);refine ⟨hlt,?_⟩;have q:=hp j hjn;rw [ec] at q;refine y8w q ?_;have fs:(vl (j+1) u).filter (fun t=>!p t)=(vl j u).filter (fun t=>!p t)++if p (u j) then [] else [u j]:=by
      rw [q7r,List.filter_append]
      congr 1
      cases hq:p (u j)<;>simp [hq]
     cases hq:p (u j)
     ·rw [hq] at fs;have ff:=y5z (v:=v) (x:=u j) q2l (show i<n by omega)
      rw [ec] at ff;(try simp only [rwp,zA,zB,zC,zD,zE,zF,zG,zH,zI,rwb,reduceIte,ho,Int.toNat_natCast,Nat.zero_add,ff]);refine ⟨by omega,?_⟩
      have fits:i * 6+6<=(fl tuC n v).length:=by rw [q24 q2l];omega
      (simp (disch:=omega) only [q05])
      (try simp only [rwp,zA,zB,zC,zD,zE,zF,zG,zH,zI,rwb,reduceIte,fits,q0q]);refine q09 rfl (hkk (i+1,j+1) _ ⟨by dsimp only;omega,by dsimp only;omega,upv v i (u j),rfl,?_,fun m hm=>?_⟩ (by dsimp only;omega))
      ·dsimp only;rw [fs,<- hv,q7r];have e1:vl i (upv v i (u j))=vl i v:=by unfold vl;exact List.map_congr_left fun m hm=>if_neg (by simp at hm;omega)
       rw [e1]
       congr 1
       rw [show upv v i (u j) i=u j from if_pos rfl]
       rfl
      ·dsimp only at hm ⊢;rw [show upv v i (u j) m=v m from if_neg (by omega)]
       exact hr m (by omega)
     ·rw [hq] at fs;(try simp only [rwp,zA,zB,zC,zD,zE,zF,zG,zH,zI,rwb,reduceIte])
      (simp (disch:=omega) only [q05])
      refine q09 rfl (hkk (i,j+1) _ ⟨by dsimp only;omega,by dsimp only;omega,v,rfl,?_,fun m hm=>hr m (by dsimp only at hm;omega)⟩ (by dsimp only;omega))
      dsimp only;rw [fs,hv];simp
    ·have e:j=n:=by omega
     subst e;(try simp only [rwp,zA,zB,zC,zD,zE,zF,zG,zH,zI,rwb,reduceIte,loI,hiI,yen]);refine ⟨by omega,by omega,⟨y73,fl tuC j v,cap * 6,by rw [q01,if_pos rfl],?_,rfl,rfl,?_⟩⟩
     ·rw [q24 q2l];split
      ·omega
      ·omega
     ·refine ⟨Int.le_refl 0,by omega,?_⟩
      rw [show AV.own b (if cap=0 then 0 else 0) (i-0) (cap-0)=.own b 0 i cap by simp,q0q,<- hv]
      refine q04 ⟨_,rfl,Sub.supd h1 hs,y5y q2l,.inr ⟨b,cap,_,by rw [lA,q1p],h1,by rw [q01,if_pos rfl],?_,?_,by rw [lA,q1p];omega,h4⟩⟩
      ·rw [lA,q1p];split
       ·rename_i e
        have ej:j-i=0:=by omega
        rw [ej];exact y5x q2l (by omega)
       ·rw [q5t _ _ _ (by rw [q5j,q24 q2l];simp only [lD,lJ];omega),lc (by rw [lR,q24 q2l];omega),List.take_take,Nat.min_self]
        exact y5x q2l (by omega)
      ·rw [lA,q1p];split
       ·rename_i e
        have ej:j-i=0:=by omega
        rw [ej]
        show i * 6<=(fl tuC j v).length;rw [q24 q2l];omega
       ·rw [q5t _ _ _ (by rw [q5j,q24 q2l];simp only [lD,lJ];omega)]
        simp only [lH,lR,q24 q2l];omega
theorem yc1 {s:List Ty} (hs:OkS s) {t:Tu} (ht:OkU t):AFun PG yjx ([]++[.agg (tuC t)]++[.rop [.sl 2 (s.map tyC)]]) (.bool (!decide (q2i s t=0))):=by
 intro S;refine xg2 ?_;unfold xd5;have q:=y20 hs ht;simp only [scA] at q;(try simp only [rwp,zA,zB,zC,zD,zE,zF,zG,zH,zI,rwb,reduceIte,tuC]);refine q06 q ?_;(try simp only [rwp,zA,zB,zC,zD,zE,zF,zG,zH,zI,rwb,reduceIte]);exact q04 ⟨rfl,rfl⟩
theorem y97 {s:List Ty} (hs:OkS s) {l:List Tu} (hl:OkL l) (S:q00) :
  ACalls PG x6v [scA s,.sl 6 (l.map tuC)] S fun ae S'=>∃ a,ae=.ret a/\Sub S S'/\LstW S S' y73 6 a ((q0l s l).map tuC):=by
 refine xl6 ?_;unfold xjo;have hn:=hl.n;(try simp only [rwp,zA,zB,zC,zD,zE,zF,zG,zH,zI,rwb,reduceIte,scA]);refine q0k (x03 (by omega) S) ?_
 rintro ae S1 ⟨a,rfl,h1,h2⟩;dsimp only;have q:=ym5 (g:=yjx) (fi:=[]) (ca:=[.rop [.sl 2 (s.map tyC)]]) (p:=fun t=>!decide (q2i s t=0)) h1 h2 (by omega) (fun i hi=>yc1 hs (hl.ok _ (by
  have:at' l i=l[i]'hi:=by unfold at';simp [hi]
  rw [this];exact List.getElem_mem hi)))
 refine q0k q ?_;rintro ae S2 ⟨a',rfl,h3,h4⟩;dsimp only;(try simp only [rwp,zA,zB,zC,zD,zE,zF,zG,zH,zI,rwb,reduceIte]);refine q04 ⟨a',rfl,h3,?_⟩;rw [yoj] at h4;have e:(l.filter fun t=>!(!decide (q2i s t=0)))=q0l s l:=by
  unfold q0l
  congr 1
  funext t
  rw [Bool.not_not]
 rw [e] at h4;exact h4
set_option maxRecDepth 4000
abbrev y47 (a b:ByteArray):Int:=Lib.compareBytes a.data.toList b.data.toList
theorem ybu:∀ (l:List UInt8),Lib.compareBytes l l=0
 | []=>rfl
 | a :: r=>by
  unfold Lib.compareBytes;have h:¬ a<a:=by rw [UInt8.lt_iff_toNat_lt];omega
  rw [if_neg h,if_neg h];exact ybu r
theorem y68:∀ (l m:List UInt8),Lib.compareBytes l m =-Lib.compareBytes m l
 | [],[]=>rfl
 | [],_ :: _=>rfl
 | _ :: _,[]=>rfl
 | a :: r,b :: q=>by
  have ih:=y68 r q;unfold Lib.compareBytes;by_cases h1:a<b
  ·have h2:¬ b<a:=by rw [UInt8.lt_iff_toNat_lt] at h1 ⊢;omega
   rw [if_pos h1,if_neg h2,if_pos h1]
  ·by_cases h2:b<a
   ·rw [if_neg h1,if_pos h2,if_pos h2];rfl
   ·rw [if_neg h1,if_neg h2,if_neg h2,if_neg h1];exact ih
theorem x8v:∀ (l m:List UInt8),Lib.compareBytes l m=0->l=m
 | [],[],_=>rfl
 | [],_ :: _,h=>by cases h
 | _ :: _,[],h=>by cases h
 | a :: r,b :: q,h=>by
  have ih:=x8v r q;unfold Lib.compareBytes at h;by_cases h1:a<b
  ·rw [if_pos h1] at h;cases h
  ·by_cases h2:b<a
   ·rw [if_neg h1,if_pos h2] at h;cases h
   ·rw [if_neg h1,if_neg h2] at h;have:a=b:=by
     rw [UInt8.lt_iff_toNat_lt] at h1 h2;exact UInt8.toNat_inj.1 (by omega)
    rw [this,ih h]
theorem y67:∀ (l m k:List UInt8),Lib.compareBytes l m<=0->Lib.compareBytes m k<=0->Lib.compareBytes l k<=0
 | [],_,[],_,_=>Int.le_refl 0
 | [],_,_ :: _,_,_=>by show (-1:Int)<=0;decide
 | a :: r,[],_,h,_=>by
  have h:(1:Int)<=0:=h;omega
 | a :: r,b :: q,[],_,h=>by
  have h:(1:Int)<=0:=h;omega
 | a :: r,b :: q,c :: p,h1,h2=>by
  have ih:=y67 r q p;unfold Lib.compareBytes at h1 h2 ⊢;simp only [UInt8.lt_iff_toNat_lt] at h1 h2 ⊢;by_cases x1:a.toNat<b.toNat
  ·by_cases x2:b.toNat<c.toNat
   ·rw [if_pos (by omega)];decide
   ·by_cases x3:c.toNat<b.toNat
    ·rw [if_neg x2,if_pos x3] at h2;exact absurd h2 (by decide)
    ·rw [if_pos (by omega)];decide
  ·by_cases x3:b.toNat<a.toNat
   ·rw [if_neg x1,if_pos x3] at h1;exact absurd h1 (by decide)
   ·rw [if_neg x1,if_neg x3] at h1;by_cases x2:b.toNat<c.toNat
    ·rw [if_pos (by omega)];decide
    ·by_cases x4:c.toNat<b.toNat
     ·rw [if_neg x2,if_pos x4] at h2;exact absurd h2 (by decide)
     ·rw [if_neg x2,if_neg x4] at h2;rw [if_neg (by omega),if_neg (by omega)]
      exact ih h1 h2
def yal (a b:Ob):Int:=if y47 a.ty b.ty=0 then y47 a.id b.id else y47 a.ty b.ty
def ltO (a b:Ob):Bool:=decide (yal a b<0)
theorem q8h {a b:ByteArray} (h:y47 a b=0):a=b:=by
 have:=x8v _ _ h;obtain ⟨⟨la⟩⟩:=a;obtain ⟨⟨lb⟩⟩:=b;have e:la=lb:=this;rw [e]
theorem q58 (a b:Ob):yal a b =-yal b a:=by
 have h1:=y68 a.ty.data.toList b.ty.data.toList;have h2:=y68 a.id.data.toList b.id.data.toList;unfold yal y47;split<;>split<;>omega
theorem yzs {a b:Ob} (h:yal a b=0):a=b:=by
 unfold yal at h;split at h
 ·rename_i h1
  cases a;cases b
  simp only at h h1;rw [q8h h,q8h h1]
 ·contradiction
theorem yhl {a b c:Ob} (h1:yal a b<=0) (h2:yal b c<=0):yal a c<=0:=by
 unfold yal at h1 h2 ⊢;by_cases e1:y47 a.ty b.ty=0
 ·rw [if_pos e1] at h1;have e:=q8h e1;rw [e];by_cases e2:y47 b.ty c.ty=0
  ·rw [if_pos e2] at h2 ⊢;exact y67 _ _ _ h1 h2
  ·rw [if_neg e2] at h2 ⊢;exact h2
 ·rw [if_neg e1] at h1;by_cases e2:y47 b.ty c.ty=0
  ·have e:=q8h e2;rw [<- e,if_neg e1];exact h1
  ·rw [if_neg e2] at h2;have h3:y47 a.ty c.ty<=0:=y67 _ _ _ h1 h2;by_cases e3:y47 a.ty c.ty=0
   ·exfalso;have e:=q8h e3;rw [<- e] at h2;have:=y68 a.ty.data.toList b.ty.data.toList;unfold y47 at h1 h2 e1 e2;omega
   ·rw [if_neg e3];exact h3
theorem stO:StOk ltO:=by
 refine ⟨⟨fun x y h=>?_,fun x y z h1 h2=>?_⟩,fun x y h1 h2=>?_⟩
 ·unfold ltO at h ⊢;have:=q58 x y;rw [decide_eq_true_eq] at h;rw [decide_eq_false_iff_not];omega
 ·unfold ltO at h1 h2 ⊢;rw [decide_eq_false_iff_not] at h1 h2 ⊢;have a1:=q58 y x;have a2:=q58 z y;have a3:=q58 z x;have:=yhl (a:=x) (b:=y) (c:=z) (by omega) (by omega)
  omega
 ·unfold ltO at h1 h2;rw [decide_eq_false_iff_not] at h1 h2;have:=q58 x y;exact yzs (by omega)
theorem yc2 (a b:ByteArray):AFun PG 166 [.str a,.str b] (.int .i64 (y47 a b)):=by
 intro S R w vs hs hv;obtain ⟨l⟩:=vs
 match l,hv with
 | [],hv=>cases hv.1
 | [_],hv=>cases hv.1
 | _ :: _ :: _ :: _,hv=>cases hv.1
 | [x,y],hv=>
  have h1:RV R w (.str a) x:=hv.head;have h2:RV R w (.str b) y:=hv.tail.head;cases h1;cases h2;refine .inr ⟨_,w,?_,R,S,.ret (.int .i64 (y47 a b)),.int _ _,⟨rfl,rfl⟩,hs,Step.refl _ _ _⟩;rw [run_callFunc_extern Go.Proofs.Tryz.func166 (by kernel_rfl) (by kernel_rfl) (by kernel_rfl) (e:=Extern.BytealgCompare.compare) (by kernel_rfl),Lib.run_compareString]
  rfl
theorem y2d (a b:ByteArray):AFun PG yu9 [.str a,.str b] (.int .i64 (y47 a b)):=by
 intro S;refine xg0 ?_;unfold xd3;refine q06 (yc2 a b) ?_;exact q04 ⟨rfl,rfl⟩
theorem y99 (a b:ByteArray):AFun PG x6s [.str a,.str b] (.int .i64 (y47 a b)):=by
 intro S;refine xl3 ?_;unfold xjl;refine q06 (y2d a b) ?_;exact q04 ⟨rfl,rfl⟩
theorem xib (x y:Int):AFun PG x6t [.sl 1 [[.int .i64 x],[.int .i64 y]]] (.int .i64 (if x=0 then y else x)):=by
 intro S;refine xl4 ?_;unfold xjm;(try simp only [rwp,zA,zB,zC,zD,zE,zF,zG,zH,zI,rwb,reduceIte,lD,lJ]);refine LoopP.introS (fun i:Nat=>[(3,.int .i64 0),(6,.sl 1 [[.int .i64 x],[.int .i64 y]]),(7,.int .i64 2),(8,.int .i64 i)]) (fun i S'=>S'=S/\i<=2/\(0<i->x=0)/\(1<i->y=0)) (fun i=>2-i) 0 ⟨rfl,by omega,fun h=>by omega,fun h=>by omega⟩ rfl ?_
 rintro i S' ⟨rfl,hi,h1,h2⟩ kk hkk;(try simp only [rwp,zA,zB,zC,zD,zE,zF,zG,zH,zI,rwb,reduceIte,xaa])
 (refine q02 (fun hlt=>?_) (fun hlt=>?_)<;>(try simp only [hlc] at hlt))
 ·have h01:i=0\/i=1:=by omega
  have step:(i=0->x=0)->(i=1->y=0)->rcW kk [(3,.int .i64 0),(6,.sl 1 [[.int .i64 x],[.int .i64 y]]),(7,.int .i64 2),(8,.int .i64 (IntKind.i64.wrap (↑i+1)))] S':=by
   intro q1 q2
   (simp (disch:=omega) only [q05])
   exact q09 rfl (hkk (i+1) _ ⟨rfl,by omega,fun _=>h01.elim q1 (fun e=>h1 (by omega)),fun h=>q2 (by omega)⟩ (by omega))
  rcases h01 with e | e
  ·subst e;(try simp only [rwp,zA,zB,zC,zD,zE,zF,zG,zH,zI,rwb,reduceIte,lZ]);cases a1:decide (x=0)
   ·(try simp only [rwp,zA,zB,zC,zD,zE,zF,zG,zH,zI,rwb,reduceIte]);exact q04 ⟨by rw [if_neg (of_decide_eq_false a1)],rfl⟩
   ·(try simp only [rwp,zA,zB,zC,zD,zE,zF,zG,zH,zI,rwb,reduceIte]);exact step (fun _=>of_decide_eq_true a1) (fun h=>by omega)
  ·subst e;have hx:=h1 (by omega)
   (try simp only [rwp,zA,zB,zC,zD,zE,zF,zG,zH,zI,rwb,reduceIte,lZ,List.getElem?_cons_succ]);cases a1:decide (y=0)
   ·(try simp only [rwp,zA,zB,zC,zD,zE,zF,zG,zH,zI,rwb,reduceIte]);exact q04 ⟨by rw [if_pos hx],rfl⟩
   ·(try simp only [rwp,zA,zB,zC,zD,zE,zF,zG,zH,zI,rwb,reduceIte]);exact step (fun h=>by omega) (fun _=>of_decide_eq_true a1)
 ·(try simp only [rwp,zA,zB,zC,zD,zE,zF,zG,zH,zI,rwb,reduceIte]);have hx:=h1 (by omega)
  have hy:=h2 (by omega)
  exact q04 ⟨by rw [if_pos hx,hy],rfl⟩
theorem x96 (a b:Ob):AFun PG x6u [.agg (obC a),.agg (obC b)] (.int .i64 (yal a b)):=by
 intro S;refine xl5 ?_;unfold xjn;(try simp only [rwp,zA,zB,zC,zD,zE,zF,zG,zH,zI,rwb,reduceIte,obC]);refine q06 (y99 a.ty b.ty) ?_;(try simp only [rwp,zA,zB,zC,zD,zE,zF,zG,zH,zI,rwb,reduceIte]);refine q06 (y99 a.id b.id) ?_;(try simp only [rwp,zA,zB,zC,zD,zE,zF,zG,zH,zI,rwb,reduceIte]);refine q06 (xib _ _) ?_;exact q04 ⟨rfl,rfl⟩
theorem q8w {N:Nat} {n:Nat×Nat}:∀ {l:List Ln} {a:Lv×Bool},a.2=false->(q15 N n l a).2=false->(q15 N n l a)=a/\∀ x∈l,¬ (y02 a.1 n<y02 a.1 x.1+x.2.toNat/\y02 a.1 n<=N)
 | [],a,h0,h=>⟨rfl,fun x hx=>by cases hx⟩
 | l :: r,a,h0,h=>by
  have stay:∀ {l:List Ln} {a:Lv×Bool},a.2=true->(q15 N n l a).2=true:=by
   intro l
   induction l with
   | nil=>intro a h;exact h
   | cons x l ih=>
    intro a h;unfold q15;split
    ·exact ih rfl
    ·exact ih h
  unfold q15 at h ⊢;split at h
  ·rw [stay rfl] at h;cases h
  ·rename_i hc
   rw [if_neg hc];obtain ⟨h1,h2⟩:=q8w h0 h;refine ⟨h1,fun x hx=>?_⟩
   rcases List.mem_cons.1 hx with rfl | hx
   ·exact hc
   ·exact h2 x hx
theorem q8v {N:Nat}:∀ {w:List Rw} {a:Lv×Bool},a.2=false->(q18 N w a).2=false->∀ x∈w,∀ l∈x.2,¬ (y02 a.1 x.1<y02 a.1 l.1+l.2.toNat/\y02 a.1 x.1<=N)
 | [],a,h0,h,x,hx=>by cases hx
 | y :: w,a,h0,h,x,hx=>by
  unfold q18 at h;have stay:∀ {w:List Rw} {a:Lv×Bool},a.2=true->(q18 N w a).2=true:=by
   intro w
   induction w with
   | nil=>intro a h;exact h
   | cons z w ih=>
    intro a h;unfold q18;refine ih ?_;have:∀ {l:List Ln} {a:Lv×Bool},a.2=true->(q15 N z.1 l a).2=true:=by
     intro l
     induction l with
     | nil=>intro a h;exact h
     | cons x l ih=>
      intro a h;unfold q15;split
      ·exact ih rfl
      ·exact ih h
    exact this h
  have h1:(q15 N y.1 y.2 a).2=false:=by
   cases hq:(q15 N y.1 y.2 a).2 with
   | false=>rfl
   | true=>rw [stay hq] at h;cases h
  obtain ⟨e1,e2⟩:=q8w h0 h1;rw [e1] at h;rcases List.mem_cons.1 hx with rfl | hx
  ·exact e2
  ·exact q8v h0 h x hx
theorem y1i {N:Nat} {s:List Ty} {w:List Rw} (hw:x2i s w):∀ {f:Nat} {lv:Lv},Shp lv s->Bdd N lv->q0n s * (N+1)<f+phi N lv->(q18 N w (q51 N w f lv,false)).2=false
 | 0,lv,h1,h2,h3=>by have:=q83 (N:=N) h1;omega
 | f+1,lv,h1,h2,h3=>by
  obtain ⟨k1,k2,k3,k4,k5,k6⟩:=q33 (N:=N) (a:=(lv,false)) hw h1 h2;unfold q51;split
  ·rename_i hr
   have:=k5 rfl hr;exact y1i hw k1 k2 (by dsimp only at this;omega)
  ·rename_i hr
   have hr:(q18 N w (lv,false)).2=false:=by simpa using hr
   have h4:=k6 hr;dsimp only at h4;rw [h4];exact hr
theorem ykp {s:List Ty} (h:q0n s<=256):(q18 (q0n s) (q2c s) (y05 s,false)).2=false:=by
 refine y1i (q4w s) (q5i s) q4k ?_;have:q0n s * (q0n s+1)<=256 * 257:=Nat.mul_le_mul h (by omega)
 omega
theorem q5o {s:List Ty} (h:y0a (y08 s)=0) {i k:Nat} {t:Ty} {r:Rl} (ht:s[i]?=some t) (hr:t.rels[k]?=some r):y02 (y05 s) (i,k)<=q0n s/\∀ l∈q1c s t.name r,y02 (y05 s) l.1+l.2.toNat<=y02 (y05 s) (i,k):=by
 have hg:=q28 h;have h1:y02 (y05 s) (i,k)<=q0n s:=by
  unfold y08 at h;split at h
  ·rename_i h0;exact absurd h h0
  ·cases hq:q2y s (y65 s) with
   | some q=>
    obtain ⟨a,b,e⟩:=q;have:=q7c hq;rw [hq] at h;exact absurd h this
   | none=>
    have h2:=q8f hq ht hr;unfold y65 at h2;split at h2
    ·cases h2
    ·omega
 refine ⟨h1,fun l hl=>?_⟩
 have h2:=q8v rfl (ykp hg.many);have hm:∃ x∈q2c s,x.1=(i,k)/\x.2=q1c s t.name r:=by
  have h3:=yds ht hr;have key:∀ w:List Rw,q1u w (i,k)=some (q1c s t.name r)->∃ x∈w,x.1=(i,k)/\x.2=q1c s t.name r:=by
   intro w
   induction w with
   | nil=>intro h;cases h
   | cons x w ih=>
    intro h;unfold q1u at h;split at h
    ·rename_i he
     exact ⟨x,by simp,he.symm,Option.some.inj h⟩
    ·obtain ⟨y,hy,h4⟩:=ih h;exact ⟨y,lM _ hy,h4⟩
  exact key _ h3
 obtain ⟨x,hx,e1,e2⟩:=hm;have h4:=h2 x hx l (by rw [e2];exact hl)
 rw [e1] at h4;dsimp only at h4;omega
def lvN (s:List Ty) (n:Nd):Nat:=match q0h s n.o.ty n.rl with
 | some (i,k,_)=>y02 (y05 s) (i,k)
 | none=>0
def exB (E:q1o) (K:Nd->Bool) (o:Ob):Nat->Ex->Bool
 | 0,_=>false
 | m+1,.mk k n ov ks=>if k=0 then K ⟨o,n⟩ else if k=1 then (E.of ⟨o,n⟩).any (fun x=>decide (x.rl=⟨#[]⟩)&&K ⟨x.o,ov⟩) else match ks with
  | [a,b]=>if k=2 then exB E K o m a||exB E K o m b else if k=4 then exB E K o m a&&!exB E K o m b else exB E K o m a&&exB E K o m b
  | _=>false
def q1n (E:q1o) (K:Nd->Bool) (n:Nd) (r:Rl):Bool:=
 if r.refs.length=0 then exB E K n.o 12 r.ex else (E.of n).any fun x=>if x.rl=⟨#[]⟩ then decide (x.o=E.who) else K x
structure yib (E:q1o):Prop where
 ok:∀ n x,x∈E.of n->∃ i k r,q0h E.s n.o.ty n.rl=some (i,k,r)/\∃ f∈r.refs,x.o.ty=f.ty/\x.rl=f.rl
theorem y1w (s:List Ty) (l:List Tu) (who:Ob):yib (y0l s l who):=by
 refine ⟨fun n x hx=>?_⟩
 obtain ⟨t,ht,rfl⟩:=List.mem_map.1 hx;unfold ofF q0l at ht;simp only [List.mem_filter,Bool.and_eq_true,decide_eq_true_eq] at ht;obtain ⟨⟨-,h1⟩,h2,h3⟩:=ht;unfold q2i at h1;rw [h2,h3] at h1;split at h1
 ·split at h1
  ·cases h1
  ·rename_i i k r hf
   refine ⟨i,k,r,hf,?_⟩;split at h1
   ·split at h1
    ·rename_i hq
     obtain ⟨f,hf,hq⟩:=List.any_eq_true.1 hq;simp only [Bool.and_eq_true,decide_eq_true_eq] at hq;exact ⟨f,hf,hq⟩
    ·cases h1
   ·cases h1
 ·cases h1
def Low (s:List Ty) (N:Nat) (out:Bool) (c:Nd):Prop:=q0h s c.o.ty c.rl=none\/lvN s c+out.toNat<=N
section
variable {E:q1o} {ask:Nd->Nat->Option (Bool×Nat)} {M K:Nd->Bool} {N:Nat}
end
theorem q3b {n:Nd}:∀ {L:List Nd} {k:Nat},n∈L.take k↔n∈L/\L.idxOf n<k
 | [],k=>by simp
 | x :: r,0=>by simp
 | x :: r,k+1=>by
  rw [List.take_succ_cons,lN,lN,q3b (L:=r) (k:=k),List.idxOf_cons];by_cases h:x=n
  ·subst h;simp
  ·have h':n≠x:=fun e=>h e.symm
   have hb:(x==n)=false:=by simpa using h
   rw [hb];simp only [h',false_or,cond_false];constructor
   ·rintro ⟨h1,h2⟩;exact ⟨h1,by omega⟩
   ·rintro ⟨h1,h2⟩;exact ⟨h1,by omega⟩
structure Mod (E:q1o) (L:List Nd):Prop where
 step:∀ i n,L[i]?=some n->∃ j k r,q0h E.s n.o.ty n.rl=some (j,k,r)/\q1n E (fun c=>decide (c∈L.take i)) n r=true
 lev:∀ n m,n∈L->m∈L->lvN E.s n<lvN E.s m->L.idxOf n<L.idxOf m
 closed:∀ n j k r,q0h E.s n.o.ty n.rl=some (j,k,r)->q1n E (fun c=>decide (c∈L)) n r=true->n∈L
section
variable {E:q1o} {B:Int} {L:List Nd}
end
set_option maxRecDepth 4000
abbrev q7u:Nat:=178
abbrev y0c:Nat:=27
def wC (s:List Ty) (L:List Tu) (tv:AV) (who:Ob) (kv:AV):List AV:=[.sl 2 (s.map tyC),.sl 6 (L.map tuC),tv,.str who.ty,.str who.id,kv]
structure W14 (s:List Ty) (L:List Tu) (who:Ob) (bw:Nat) (S0:q00) (T:List Ob) (K:List Nd) (S:q00):Prop where
 ex:∃ tv kv,q0m S bw=some (q7u,wC s L tv who kv,6)/\LstW S0 S y0c 2 tv (T.map obC)/\LstW S0 S xgf 3 kv (K.map ndC)/\q0u tv bw/\q0u kv bw/\∀ b off n cap,tv=.own b off n cap->q0u kv b
 sub:Sub S0 S
 nb:y01 S0 bw=none
 lk:K.length<=1000000
 lt:T.length<=1000000
theorem yhi {cs:List AV} {p:Nat} {a b c:AV} (h:(cs.drop p).take 3=[a,b,c]):∃ rest,cs.drop p=a :: b :: c :: rest/\cs.drop (p+2)=c :: rest:=by
 refine ⟨(cs.drop p).drop 3,?_,?_⟩
 ·have:=List.take_append_drop 3 (cs.drop p);rw [h] at this;exact this.symm
 ·have:=List.take_append_drop 3 (cs.drop p);rw [h] at this;rw [<- List.drop_drop,<- this];rfl
theorem y64 {cs:List AV} {p:Nat} {a b:AV} (h:(cs.drop p).take 2=[a,b]):∃ rest,cs.drop p=a :: b :: rest:=by
 refine ⟨(cs.drop p).drop 2,?_⟩;have:=List.take_append_drop 2 (cs.drop p);rw [h] at this;exact this.symm
theorem q5k {a b:Ob}:decide (a=b)=(decide (a.ty=b.ty)&&decide (a.id=b.id)):=by
 rw [Bool.eq_iff_iff];cases a;cases b;simp
section
variable {s:List Ty} {L:List Tu} {who:Ob} {bw:Nat} {S0 S:q00} {T:List Ob} {K:List Nd}
theorem q5c (h:W14 s L who bw S0 T K S) (n:Nd):AFunS PG x6y [.ptr bw 0,.agg (obC n.o),.str n.rl] S (.bool (decide (n∈K))):=by
 refine xl9 ?_;unfold xjr;(try simp only [rwp,zA,zB,zC,zD,zE,zF,zG,zH,zI,rwb,reduceIte,obC]);obtain ⟨tv,kv,ho,ht,hk,hta,hka,hap⟩:=h.ex;have hlk:=h.lk;have hc:=q08 ho;refine LoopP.introS (fun i:Nat=>[(0,.ptr bw 0),(2,.str n.rl),(4,.rop [.str n.o.ty,.str n.o.id]),(7,.int .i64 i)]) (fun i S'=>S'=S/\i<=K.length/\∀ (j:Nat) (m:Nd),j<i->K[j]?=some m->¬ m=n) (fun i=>K.length-i) 0 ⟨rfl,by omega,fun j m hj=>by omega⟩ rfl ?_
 rintro i S' ⟨rfl,hi,hno⟩ kk hkk;(try simp only [rwp,zA,zB,zC,zD,zE,zF,zG,zH,zI,rwb,reduceIte,xaf,hc,wC,hk.ln,lA])
 (refine q02 (fun hlt=>?_) (fun hlt=>?_)<;>(try simp only [hlc] at hlt))
 ·obtain ⟨m,hm⟩:=q0c hlt;obtain ⟨b1,cap,cs,rfl,hcs,hrow,hle⟩:=hk.get (i:=i) (r:=ndC m) (by rw [lC,hm];rfl)
  (try simp only [rwp,zA,zB,zC,zD,zE,zF,zG,zH,zI,rwb,reduceIte,hc,wC,hcs,lA,Int.toNat_natCast,Nat.zero_add]);obtain ⟨rest,hd1,hd2⟩:=yhi (hrow.trans (show ndC m=[.str m.o.ty,.str m.o.id,.str m.rl] from rfl))
  (try simp only [rwp,zA,zB,zC,zD,zE,zF,zG,zH,zI,rwb,reduceIte,hd1,hd2]);refine ⟨hlt,?_⟩;have hnd:decide (m=n)=(decide (m.o.ty=n.o.ty)&&decide (m.o.id=n.o.id)&&decide (m.rl=n.rl)):=by
   rw [Bool.eq_iff_iff];obtain ⟨⟨a,b⟩,c⟩:=m;obtain ⟨⟨d,e⟩,f⟩:=n;simp
  have no:decide (m=n)=false->rcW kk [(0,.ptr bw 0),(2,.str n.rl),(4,.rop [.str n.o.ty,.str n.o.id]),(7,.int .i64 (IntKind.i64.wrap (↑i+1)))] S':=fun hq=>by
   (simp (disch:=omega) only [q05])
   refine q09 rfl (hkk (i+1) _ ⟨rfl,by omega,fun j u hj hu=>?_⟩ (by omega))
   rcases Nat.lt_succ_iff_lt_or_eq.1 hj with h1 | rfl
   ·exact hno j u h1 hu
   ·rw [hm] at hu;cases hu;exact of_decide_eq_false hq
  cases a1:(decide (m.o.ty=n.o.ty)&&decide (m.o.id=n.o.id))
  ·rw [a1] at hnd;(try simp only [rwp,zA,zB,zC,zD,zE,zF,zG,zH,zI,rwb,reduceIte]);exact no hnd
  ·rw [a1] at hnd;(try simp only [rwp,zA,zB,zC,zD,zE,zF,zG,zH,zI,rwb,reduceIte]);refine ⟨hlt,?_⟩;cases a2:decide (m.rl=n.rl)
   ·rw [a2] at hnd;(try simp only [rwp,zA,zB,zC,zD,zE,zF,zG,zH,zI,rwb,reduceIte]);exact no hnd
   ·rw [a2] at hnd;(try simp only [rwp,zA,zB,zC,zD,zE,zF,zG,zH,zI,rwb,reduceIte]);have e:=of_decide_eq_true hnd;subst e;exact q04 ⟨by rw [decide_eq_true (lB hm)],rfl⟩
 ·(try simp only [rwp,zA,zB,zC,zD,zE,zF,zG,zH,zI,rwb,reduceIte]);refine q04 ⟨?_,rfl⟩;rw [decide_eq_false];intro hn;obtain ⟨j,hj⟩:=lL hn;have:=(List.getElem?_eq_some_iff.1 hj).1;exact hno j n (by omega) hj rfl
def y07 (s:List Ty) (L:List Tu) (who:Ob):q1o:=⟨s,fun n=>(ofF L n).map Tu.s,who⟩
theorem yuy {L:List Tu} {n:Nd} {q:Nd->Bool}:((ofF L n).map Tu.s).any q=L.any fun t=>(decide (t.o=n.o)&&decide (t.rl=n.rl))&&q t.s:=by
 unfold ofF;rw [List.any_map,List.any_filter];rfl
theorem yf1 {α:Type} {p:α->Bool} {l:List α} {i:Nat} {x:α} (h:l[i]?=some x) (h0:(l.take i).any p=false):(l.take (i+1)).any p=p x:=by
 rw [q0t h,List.any_append,h0];simp
theorem ymg {α:Type} {p:α->Bool} {l:List α} {i:Nat} {x:α} (h:l[i]?=some x) (hp:p x=true):l.any p=true:=List.any_eq_true.2 ⟨x,lB h,hp⟩
theorem yet (hL:OkL L) (h:W14 s L who bw S0 T K S) (o:Ob):∀ (m:Nat) (e:Ex),y0i m e=true->AFunS PG yst [.ptr bw 0,.agg (obC o),.agg (exC e)] S (.bool (exB (y07 s L who) (fun c=>decide (c∈K)) o m e))
 | 0,e,hm=>by cases hm
 | m+1,.mk k n ov ks,hm=>by
  have ih:=yet hL h o m;obtain ⟨tv,kv,ho,ht,hk,hta,hka,hap⟩:=h.ex;have hlL:=hL.n;have hc:=q08 ho;refine xed ?_;unfold xbg exB;unfold y0i at hm;(try simp only [rwp,zA,zB,zC,zD,zE,zF,zG,zH,zI,rwb,reduceIte,obC,q0e,Ex.kind,Ex.name,Ex.over,Ex.kids])
  (refine q02 (fun k0=>?_) (fun k0=>?_)<;>(try simp only [hlc] at k0))
  ·rw [if_pos k0];have q:=q5c h ⟨o,n⟩;simp only [obC] at q;refine q13 q ?_;exact q04 ⟨rfl,rfl⟩
  ·rw [if_neg k0] at hm ⊢
   (refine q02 (fun k1=>?_) (fun k1=>?_)<;>(try simp only [hlc] at k1))
   ·rw [if_pos k1];rw [show (y07 s L who).of ⟨o,n⟩=(ofF L ⟨o,n⟩).map Tu.s from rfl,yuy]
    generalize hp:(fun t:Tu=>(decide (t.o=o)&&decide (t.rl=n))&&(decide (t.s.rl=⟨#[]⟩)&&decide ((⟨t.s.o,ov⟩:Nd)∈K)))=p
    refine LoopP.introS (fun i:Nat=>[(0,.ptr bw 0),(4,.rop [.str o.ty,.str o.id]),(5,.rop [.int .i64 k,.str n,.str ov,.sl 4 (ks.map exC)]),(7,.int .i64 i)]) (fun i S'=>S'=S/\i<=L.length/\(L.take i).any p=false) (fun i=>L.length-i) 0 ⟨rfl,by omega,by simp⟩ rfl ?_
    rintro i S' ⟨rfl,hi,hno⟩ kk hkk;(try simp only [rwp,zA,zB,zC,zD,zE,zF,zG,zH,zI,rwb,reduceIte,yv7,hc,wC,lA])
    (refine q02 (fun hlt=>?_) (fun hlt=>?_)<;>(try simp only [hlc] at hlt))
    ·obtain ⟨t,hg⟩:=q0c hlt;(try simp only [rwp,zA,zB,zC,zD,zE,zF,zG,zH,zI,rwb,reduceIte,lC,hg,tuC]);have q:=q5c h ⟨t.s.o,ov⟩;simp only [obC] at q;refine q13 q ?_;have hx:p t=((decide (t.o.ty=o.ty)&&decide (t.o.id=o.id))&&decide (t.rl=n)&&(decide (t.s.rl=⟨#[]⟩)&&decide ((⟨t.s.o,ov⟩:Nd)∈K))):=by rw [<- hp,<- q5k]
     have no:p t=false->rcW kk [(0,.ptr bw 0),(4,.rop [.str o.ty,.str o.id]),(5,.rop [.int .i64 k,.str n,.str ov,.sl 4 (ks.map exC)]),(7,.int .i64 (IntKind.i64.wrap (↑i+1)))] S':=fun hq=>by
      (simp (disch:=omega) only [q05])
      exact q09 rfl (hkk (i+1) _ ⟨rfl,by omega,by rw [yf1 hg hno,hq]⟩ (by omega))
     have yes:p t=true->rtW [.tmp (.bool true)] (fun ae S'_1=>ae=AEnd.ret (AV.bool (L.any p))/\S'_1=S') S':=fun hq=>q04 ⟨by rw [ymg hg hq],rfl⟩
     (try simp only [rwp,zA,zB,zC,zD,zE,zF,zG,zH,zI,rwb,reduceIte,yne]);cases g1:(decide (t.o.ty=o.ty)&&decide (t.o.id=o.id)&&decide (t.rl=n))
     ·rw [g1] at hx;(try simp only [rwp,zA,zB,zC,zD,zE,zF,zG,zH,zI,rwb,reduceIte,y9y]);exact no hx
     ·rw [g1] at hx;(try simp only [rwp,zA,zB,zC,zD,zE,zF,zG,zH,zI,rwb,reduceIte]);cases g2:decide (t.s.rl=⟨#[]⟩)
      ·rw [g2] at hx;(try simp only [rwp,zA,zB,zC,zD,zE,zF,zG,zH,zI,rwb,reduceIte,y9y]);exact no hx
      ·rw [g2] at hx;(try simp only [rwp,zA,zB,zC,zD,zE,zF,zG,zH,zI,rwb,reduceIte,y9y]);cases g3:decide ((⟨t.s.o,ov⟩:Nd)∈K)
       ·rw [g3] at hx;(try simp only [rwp,zA,zB,zC,zD,zE,zF,zG,zH,zI,rwb,reduceIte]);exact no hx
       ·rw [g3] at hx;(try simp only [rwp,zA,zB,zC,zD,zE,zF,zG,zH,zI,rwb,reduceIte]);exact yes hx
    ·have e:L.take i=L:=lF (by omega)
     rw [e] at hno;(try simp only [rwp,zA,zB,zC,zD,zE,zF,zG,zH,zI,rwb,reduceIte]);exact q04 ⟨by rw [hno],rfl⟩
   ·rw [if_neg k1] at hm ⊢;have k234:k=2\/k=3\/k=4:=by
     refine Classical.byContradiction fun hn=>?_
     rw [if_neg hn] at hm;cases hm
    rw [if_pos k234] at hm;obtain ⟨a,b,rfl⟩:∃ a b,ks=[a,b]:=by
     match ks,hm with
     | [a,b],_=>exact ⟨a,b,rfl⟩
     | [],hm=>cases hm
     | [_],hm=>cases hm
     | _ :: _ :: _ :: _,hm=>cases hm
    simp only [two,Bool.and_eq_true] at hm;have ha:=ih a hm.1;have hb:=ih b hm.2;dsimp only;generalize exB (y07 s L who) (fun c=>decide (c∈K)) o m a=va at ha ⊢
    generalize exB (y07 s L who) (fun c=>decide (c∈K)) o m b=vb at hb ⊢
    obtain ⟨ka,na,oa,ksa⟩:=a;obtain ⟨kb,nb,ob,ksb⟩:=b;simp only [obC,q0e,Ex.kind,Ex.name,Ex.over,Ex.kids] at ha hb;(try simp only [rwp,zA,zB,zC,zD,zE,zF,zG,zH,zI,rwb,reduceIte,q0e,Ex.kind,Ex.name,Ex.over,Ex.kids,lZ,List.getElem?_cons_succ,Option.map_some]);refine q13 ha ?_;(try simp only [rwp,zA,zB,zC,zD,zE,zF,zG,zH,zI,rwb,reduceIte,q0e,Ex.kind,Ex.name,Ex.over,Ex.kids,lZ,List.getElem?_cons_succ,Option.map_some]);refine q13 hb ?_;rcases k234 with rfl | rfl | rfl<;>cases va<;>cases vb<;>(try simp only [rwp,zA,zB,zC,zD,zE,zF,zG,zH,zI,rwb,reduceIte,Int.reduceEq])<;>exact q04 ⟨rfl,rfl⟩
theorem yhm (hL:OkL L) (h:W14 s L who bw S0 T K S) (n:Nd) (r:Rl) (hr:OkR r) (hn:r.name=n.rl) (hm:r.refs.length=0->y0i 12 r.ex=true):AFunS PG ytm [.ptr bw 0,.agg (obC n.o),.agg (rlC r)] S (.bool (q1n (y07 s L who) (fun c=>decide (c∈K)) n r)):=by
 obtain ⟨tv,kv,ho,ht,hk,hta,hka,hap⟩:=h.ex;have hlL:=hL.n;have hc:=q08 ho;refine xf8 ?_;unfold xcb q1n;(try simp only [rwp,zA,zB,zC,zD,zE,zF,zG,zH,zI,rwb,reduceIte,obC,q0o,hn]);cases a1:decide ((r.refs.length:Int)=0)
 ·have h0:¬ r.refs.length=0:=by have:=of_decide_eq_false a1;omega
  rw [if_neg h0];rw [show (y07 s L who).of n=(ofF L n).map Tu.s from rfl,yuy,show (y07 s L who).who=who from rfl]
  generalize hp:(fun t:Tu=>(decide (t.o=n.o)&&decide (t.rl=n.rl))&&(if t.s.rl=⟨#[]⟩ then decide (t.s.o=who) else decide (t.s∈K)))=p
  (try simp only [rwp,zA,zB,zC,zD,zE,zF,zG,zH,zI,rwb,reduceIte]);refine LoopP.introS (fun i:Nat=>[(0,.ptr bw 0),(4,.rop [.str n.o.ty,.str n.o.id]),(5,.rop [.str n.rl,.sl 2 (r.refs.map rfC),.int .i64 r.ex.kind,.str r.ex.name,.str r.ex.over,.sl 4 (r.ex.kids.map exC)]),(7,.int .i64 i)]) (fun i S'=>S'=S/\i<=L.length/\(L.take i).any p=false) (fun i=>L.length-i) 0 ⟨rfl,by omega,by simp⟩ rfl ?_
  rintro i S' ⟨rfl,hi,hno⟩ kk hkk;(try simp only [rwp,zA,zB,zC,zD,zE,zF,zG,zH,zI,rwb,reduceIte,yvw,hc,wC,lA])
  (refine q02 (fun hlt=>?_) (fun hlt=>?_)<;>(try simp only [hlc] at hlt))
  ·obtain ⟨t,hg⟩:=q0c hlt;have hx:p t=((decide (t.o.ty=n.o.ty)&&decide (t.o.id=n.o.id))&&decide (t.rl=n.rl)&&(if t.s.rl=⟨#[]⟩ then (decide (t.s.o.ty=who.ty)&&decide (t.s.o.id=who.id)) else decide (t.s∈K))):=by rw [<- hp,<- q5k,<- q5k]
   have no:p t=false->rcW kk [(0,.ptr bw 0),(4,.rop [.str n.o.ty,.str n.o.id]),(5,.rop [.str n.rl,.sl 2 (r.refs.map rfC),.int .i64 r.ex.kind,.str r.ex.name,.str r.ex.over,.sl 4 (r.ex.kids.map exC)]),(7,.int .i64 (IntKind.i64.wrap (↑i+1)))] S':=fun hq=>by
    (simp (disch:=omega) only [q05])
    exact q09 rfl (hkk (i+1) _ ⟨rfl,by omega,by rw [yf1 hg hno,hq]⟩ (by omega))
   have yes:p t=true->rtW [.tmp (.bool true)] (fun ae S'_1=>ae=AEnd.ret (AV.bool (L.any p))/\S'_1=S') S':=fun hq=>q04 ⟨by rw [ymg hg hq],rfl⟩
   have q:=q5c h t.s;simp only [obC] at q;(try simp only [rwp,zA,zB,zC,zD,zE,zF,zG,zH,zI,rwb,reduceIte,lC,hg,tuC]);cases g1:(decide (t.o.ty=n.o.ty)&&decide (t.o.id=n.o.id))<;>cases g2:decide (t.rl=n.rl)<;>rw [g1,g2] at hx
   ·(try simp only [rwp,zA,zB,zC,zD,zE,zF,zG,zH,zI,rwb,reduceIte,y4t]);exact no hx
   ·(try simp only [rwp,zA,zB,zC,zD,zE,zF,zG,zH,zI,rwb,reduceIte,y4t]);exact no hx
   ·(try simp only [rwp,zA,zB,zC,zD,zE,zF,zG,zH,zI,rwb,reduceIte,y4t]);exact no hx
   ·(try simp only [rwp,zA,zB,zC,zD,zE,zF,zG,zH,zI,rwb,reduceIte,y4t]);cases g3:decide (t.s.rl=⟨#[]⟩)
    ·have g3':=of_decide_eq_false g3;rw [if_neg g3'] at hx;(try simp only [rwp,zA,zB,zC,zD,zE,zF,zG,zH,zI,rwb,reduceIte,ya9]);refine q13 q ?_;cases g4:decide (t.s∈K)
     ·rw [g4] at hx;(try simp only [rwp,zA,zB,zC,zD,zE,zF,zG,zH,zI,rwb,reduceIte,g3]);exact no hx
     ·rw [g4] at hx;(try simp only [rwp,zA,zB,zC,zD,zE,zF,zG,zH,zI,rwb,reduceIte,g3]);exact yes hx
    ·have g3':=of_decide_eq_true g3;rw [if_pos g3'] at hx;(try simp only [rwp,zA,zB,zC,zD,zE,zF,zG,zH,zI,rwb,reduceIte,hc,wC]);cases g4:(decide (t.s.o.ty=who.ty)&&decide (t.s.o.id=who.id))
     ·rw [g4] at hx;(try simp only [rwp,zA,zB,zC,zD,zE,zF,zG,zH,zI,rwb,reduceIte,ya9]);refine q13 q ?_;(try simp only [rwp,zA,zB,zC,zD,zE,zF,zG,zH,zI,rwb,reduceIte,g3]);exact no hx
     ·rw [g4] at hx;(try simp only [rwp,zA,zB,zC,zD,zE,zF,zG,zH,zI,rwb,reduceIte,ya9]);exact yes hx
  ·have e:L.take i=L:=lF (by omega)
   rw [e] at hno;(try simp only [rwp,zA,zB,zC,zD,zE,zF,zG,zH,zI,rwb,reduceIte]);exact q04 ⟨by rw [hno],rfl⟩
 ·have h0:r.refs.length=0:=by have:=of_decide_eq_true a1;omega
  rw [if_pos h0];have q:=yet hL h n.o 12 r.ex (hm h0);generalize r.ex=e at q ⊢;obtain ⟨ka,na,oa,ksa⟩:=e;simp only [obC,q0e,Ex.kind,Ex.name,Ex.over,Ex.kids] at q ⊢;(try simp only [rwp,zA,zB,zC,zD,zE,zF,zG,zH,zI,rwb,reduceIte]);refine q13 q ?_;exact q04 ⟨rfl,rfl⟩
end
set_option maxRecDepth 4000
theorem yxr {x y:Int} {a b:Nat} {K:AV->Prop} (hx:x=a) (hy:y=b) (hb:0<b) (ha:a<=1000000) (hk:K (.int .i64 ((a / b:Nat):Int))):biW .quo (.int .i64 x) (.int .i64 y) K:=by
 subst hx;subst hy;have h0:¬ (b:Int)=0:=by omega
 have e:biW .quo (.int .i64 (a:Int)) (.int .i64 (b:Int)) K=K (.int .i64 (IntKind.i64.wrap ((a:Int).tdiv b))):=by
  have e1:biW .quo (.int .i64 (a:Int)) (.int .i64 (b:Int)) K=q0s (if (b:Int)=0 then none else some (.int .i64 (IntKind.i64.wrap ((a:Int).tdiv b)))) K:=rfl
  rw [e1,if_neg h0];rfl
 rw [e,show (a:Int).tdiv b=((a / b:Nat):Int) from rfl]
 have:a / b<=a:=Nat.div_le_self _ _;generalize a / b=q at this hk ⊢
 (simp (disch:=omega) only [q05])
 exact hk
structure Dat (D:AV) (pt:Nat->AV) (SS:(Nat->Ob)->q00) (n:Nat):Prop where
 ia:∀ {i:Nat} {x:Int} {K:AV->Prop},x=i->i<n->K (pt i)->iaW 2 D (.int .i64 x) K
 ld:∀ {v:Nat->Ob} {i:Nat} {K:AV->Prop},i<n->K (.agg (obC (v i)))->ldW (SS v) 2 true (pt i) K
 st:∀ {v:Nat->Ob} {i:Nat} {x:Ob} {KT:q00->Prop},i<n->KT (SS (upv v i x))->stW (SS v) 2 (pt i) (.agg (obC x)) KT
 ln:∀ {v:Nat->Ob} {K:AV->Prop},K (.int .i64 n)->lnW (SS v) 1 D K
 bd:n<=100000
 fr:∀ {v:Nat->Ob} {c:Nat} {X:AObj} {i:Nat} {K:AV->Prop},y01 (SS v) c=none->i<n->K (.agg (obC (v i)))->ldW (supd (SS v) c X) 2 true (pt i) K
 fs:∀ {v:Nat->Ob} {c:Nat} {X:AObj} {i:Nat} {x:Ob} {KT:q00->Prop},y01 (SS v) c=none->i<n->KT (supd (SS (upv v i x)) c X)->stW (supd (SS v) c X) 2 (pt i) (.agg (obC x)) KT
 fn:∀ {v w:Nat->Ob} {c:Nat},y01 (SS v) c=none->y01 (SS w) c=none
theorem yiv {S:q00} {b c:Nat} (h:b≠c) (x y:AObj):supd (supd S b x) c y=supd (supd S c y) b x:=by
 funext d
 unfold supd;by_cases h1:c=d
 ·subst h1;simp [h]
 ·by_cases h2:b=d<;>simp [h1,h2]
theorem yzm {S0:q00} {b n cap:Nat} (hn:n<=cap) (hb:n<=100000):Dat (.own b 0 n cap) (fun i=>.ptr b (i * 2)) (fun v=>supd S0 b (.cells y0c (fl obC n v) (cap * 2))) n:=by
 have hlen:∀ x:Ob,(obC x).length=2:=fun x=>rfl
 have ne:∀ {v:Nat->Ob} {c:Nat},y01 (supd S0 b (.cells y0c (fl obC n v) (cap * 2))) c=none->b≠c:=by
  intro v c hc e;rw [q01,if_pos e] at hc;cases hc
 refine ⟨fun {i x K} e hi hk=>?_,fun {v i K} hi hk=>?_,fun {v i x KT} hi hk=>?_,fun {v K} hk=>?_,hb,fun {v c X i K} hc hi hk=>?_,fun {v c X i x KT} hc hi hk=>?_,fun {v w c} hc=>?_⟩
 ·subst e;rw [q88];refine ⟨by omega,by omega,?_⟩
  simpa using hk
 ·have hc:=q08 (q0f (S:=supd S0 b (.cells y0c (fl obC n v) (cap * 2))) (b:=b) (t:=y0c) (tot:=cap * 2) (cs:=fl obC n v));rw [q0q] at hc;obtain ⟨rest,hd⟩:=y1q (v:=v) hlen hi;rw [q85,hc,q5q,hd,y5o];exact hk
 ·have ho:=q0f (S:=S0) (b:=b) (t:=y0c) (tot:=cap * 2) (cs:=fl obC n v);rw [q69,ho,q35];refine ⟨rfl,?_,rfl,?_⟩
  ·rw [q24 hlen];omega
  ·rw [show q0a (.agg (obC x))=obC x from rfl,y5z hlen hi,q0q]
   exact hk
 ·rw [y5q];exact hk
 ·have hne:=ne hc;have hc:=q08 (objAt_some.2 (show y01 (supd (supd S0 b (.cells y0c (fl obC n v) (cap * 2))) c X) b=some (.cells y0c (fl obC n v) (cap * 2)) by rw [q01,if_neg (Ne.symm hne),q01,if_pos rfl]))
  obtain ⟨rest,hd⟩:=y1q (v:=v) hlen hi;rw [q85,hc,q5q,hd,y5o];exact hk
 ·have hne:=ne hc;have ho:=objAt_some.2 (show y01 (supd (supd S0 b (.cells y0c (fl obC n v) (cap * 2))) c X) b=some (.cells y0c (fl obC n v) (cap * 2)) by rw [q01,if_neg (Ne.symm hne),q01,if_pos rfl])
  rw [q69,ho,q35];refine ⟨rfl,?_,rfl,?_⟩
  ·rw [q24 hlen];omega
  ·rw [show q0a (.agg (obC x))=obC x from rfl,y5z hlen hi,yiv (Ne.symm hne),q0q]
   exact hk
 ·have hne:=ne hc;rw [q01,if_neg hne] at hc ⊢;exact hc
section
variable {D:AV} {pt:Nat->AV} {SS:(Nat->Ob)->q00} {n g:Nat} {c:Ob->Ob->Int}
abbrev fnG (g:Nat):AV:=.func (.func g) [] []
def ltC (c:Ob->Ob->Int) (x y:Ob):Bool:=decide (c x y<0)
theorem x94 (hD:Dat D pt SS n) (hg:∀ x y,AFun PG g [.agg (obC x),.agg (obC y)] (.int .i64 (c x y))) (ho:y0m (ltC c)) {a b:Nat} (hab:a<=b) (hb:b<=n) (v:Nat->Ob) :
  ACalls PG yti [D,.int .i64 a,.int .i64 b,fnG g] (SS v) fun ae S'=>ae=.ret (.tup [])/\∃ w,S'=SS w/\Rng n a b v w/\Srt (ltC c) a b w:=by
 have hn:=hD.bd;refine xf4 ?_;unfold xc7;(try simp only [rwp,zA,zB,zC,zD,zE,zF,zG,zH,zI,rwb,reduceIte])
 (simp (disch:=omega) only [q05])
 refine LoopP.introS (fun i:Nat=>[(0,D),(1,.int .i64 a),(2,.int .i64 b),(3,fnG g),(8,.int .i64 i)]) (fun i S'=>a+1<=i/\i<=b+1/\∃ w,S'=SS w/\Rng n a b v w/\Srt (ltC c) a i w) (fun i=>b+1-i) (a+1)
  ⟨by omega,by omega,v,rfl,Rng.refl _ _ _ _,Srt.one (by omega)⟩ (by rfl) ?_
 rintro i S1 ⟨hi1,hi2,w,rfl,hr,hs⟩ kk hkk;(try simp only [rwp,zA,zB,zC,zD,zE,zF,zG,zH,zI,rwb,reduceIte,yvu])
 (refine q02 (fun hlt=>?_) (fun hlt=>?_)<;>(try simp only [hlc] at hlt))
 ·refine LoopP.introS (fun j:Nat=>[(0,D),(1,.int .i64 a),(2,.int .i64 b),(3,fnG g),(8,.int .i64 i),(9,.int .i64 j)]) (fun j S'=>∃ u,S'=SS u/\Rng n a b v u/\InsI (ltC c) a i j u) (fun j=>j) i
   ⟨w,rfl,hr,InsI.start hs (by omega)⟩ rfl ?_
  rintro j S2 ⟨u,rfl,hru,hu⟩ kk2 hkk2;have h1:=hu.lo;have h2:=hu.hi;have stop:(j=a\/Le (ltC c) (u (j-1)) (u j))->rcW kk [(0,D),(1,.int .i64 a),(2,.int .i64 b),(3,fnG g),(8,.int .i64 (IntKind.i64.wrap (↑i+1)))] (SS u):=by
   intro hq
   (simp (disch:=omega) only [q05])
   exact q09 rfl (hkk (i+1) _ ⟨by omega,by omega,u,rfl,hru,hu.stop ho hq⟩ (by omega))
  (try simp only [rwp,zA,zB,zC,zD,zE,zF,zG,zH,zI,rwb,reduceIte,yvt]);cases a1:decide ((a:Int)<j)
  ·(try simp only [rwp,zA,zB,zC,zD,zE,zF,zG,zH,zI,rwb,reduceIte,ya8]);exact stop (.inl (by have:=of_decide_eq_false a1;omega))
  ·have haj:=of_decide_eq_true a1;(try simp only [rwp,zA,zB,zC,zD,zE,zF,zG,zH,zI,rwb,reduceIte]);refine hD.ia (i:=j) rfl (by omega) ?_
   (try simp only [rwp,zA,zB,zC,zD,zE,zF,zG,zH,zI,rwb,reduceIte])
   (simp (disch:=omega) only [q05])
   refine hD.ia (i:=j-1) (by omega) (by omega) ?_
   refine hD.ld (by omega) (hD.ld (by omega) ?_)
   refine q06 (hg _ _) ?_;(try simp only [rwp,zA,zB,zC,zD,zE,zF,zG,zH,zI,rwb,reduceIte]);cases a2:decide (c (u j) (u (j-1))<0)
   ·(try simp only [rwp,zA,zB,zC,zD,zE,zF,zG,zH,zI,rwb,reduceIte,ya8]);exact stop (.inr a2)
   ·(try simp only [rwp,zA,zB,zC,zD,zE,zF,zG,zH,zI,rwb,reduceIte,ya8])
    (simp (disch:=omega) only [q05])
    refine hD.ia (i:=j-1) (by omega) (by omega) ?_
    refine hD.ia (i:=j) rfl (by omega) ?_
    refine hD.ld (by omega) (hD.ld (by omega) ?_)
    refine hD.ia (i:=j) rfl (by omega) ?_
    refine hD.st (by omega) ?_
    refine hD.ia (i:=j-1) (by omega) (by omega) ?_
    refine hD.st (by omega) ?_
    rw [y74];(try simp only [rwp,zA,zB,zC,zD,zE,zF,zG,zH,zI,rwb,reduceIte]);(try (simp (disch:=omega) only [q05]));have ej:(j:Int)-1=((j-1:Nat):Int):=by omega
    rw [ej];exact q09 rfl (hkk2 (j-1) _ ⟨_,rfl,hru.trans (Rng.sw (by omega) (by omega) (by omega) (by omega) hb),hu.step ho (by omega) a2⟩ (by omega))
 ·(try simp only [rwp,zA,zB,zC,zD,zE,zF,zG,zH,zI,rwb,reduceIte]);exact q1x ⟨rfl,w,rfl,hr,fun p q h1 h2 h3=>hs p q h1 h2 (by omega)⟩
theorem yzu (hD:Dat D pt SS n) (hg:∀ x y,AFun PG g [.agg (obC x),.agg (obC y)] (.int .i64 (c x y))) (ho:y0m (ltC c)) {a b:Nat} (hab:a<=b) (hb:b<=n) (h12:b<=a+12) (lim:Int) (v:Nat->Ob) :
  ACalls PG yjw [D,.int .i64 a,.int .i64 b,.int .i64 lim,fnG g] (SS v) fun ae S'=>ae=.ret (.tup [])/\∃ w,S'=SS w/\Rng n a b v w/\Srt (ltC c) a b w:=by
 have hn:=hD.bd;refine x2n ?_;unfold x24;refine LoopP.introS (fun _:Unit=>[(0,D),(1,.int .i64 a),(2,.int .i64 b),(3,.int .i64 lim),(4,fnG g),(10,.bool true),(11,.bool true)]) (fun _ S'=>S'=SS v) (fun _=>0) () rfl rfl ?_
 rintro _ S' rfl kk hkk;(try simp only [rwp,zA,zB,zC,zD,zE,zF,zG,zH,zI,rwb,reduceIte,yo1])
 (simp (disch:=omega) only [q05])
 (try simp only [rwp,zA,zB,zC,zD,zE,zF,zG,zH,zI,rwb,reduceIte,decide_eq_true (show (b:Int)-a<=12 by omega)])
 refine q0k (x94 hD hg ho hab hb v) ?_;rintro ae S1 ⟨rfl,w,rfl,h1,h2⟩;dsimp only;exact q1x ⟨rfl,w,rfl,h1,h2⟩
end
def yf7 (N:Nat):Prop:=∀ (D:AV) (pt:Nat->AV) (SS:(Nat->Ob)->q00) (n g:Nat) (c:Ob->Ob->Int),Dat D pt SS n->(∀ x y,AFun PG g [.agg (obC x),.agg (obC y)] (.int .i64 (c x y)))->y0m (ltC c)->n<=N->∀ v:Nat->Ob,
 ACalls PG yyh [D,fnG g] (SS v) fun ae S'=>ae=.ret (.tup [])/\∃ w,S'=SS w/\Rng n 0 n v w/\Srt (ltC c) 0 n w
def len8:ByteArray:=⟨#[0,1,2,2,3,3,3,3,4,4,4,4,4,4,4,4,5,5,5,5,5,5,5,5,5,5,5,5,5,5,5,5,6,6,6,6,6,6,6,6,6,6,6,6,6,6,6,6,6,6,6,6,6,6,6,6,6,6,6,6,6,6,6,6,7,7,7,7,7,7,7,7,7,7,7,7,7,7,7,7,7,7,7,7,7,7,7,7,7,7,7,7,7,7,7,7,7,7,7,7,7,7,7,7,7,7,7,7,7,7,7,7,7,7,7,7,7,7,7,7,7,7,7,7,7,7,7,7,8,8,8,8,8,8,8,8,8,8,8,8,8,8,8,8,8,8,8,8,8,8,8,8,8,8,8,8,8,8,8,8,8,8,8,8,8,8,8,8,8,8,8,8,8,8,8,8,8,8,8,8,8,8,8,8,8,8,8,8,8,8,8,8,8,8,8,8,8,8,8,8,8,8,8,8,8,8,8,8,8,8,8,8,8,8,8,8,8,8,8,8,8,8,8,8,8,8,8,8,8,8,8,8,8,8,8,8,8,8,8,8,8,8,8,8,8,8,8,8,8,8,8,8,8,8,8,8]⟩
def yh2 (n:Nat):Nat:=(len8.data.toList.getD n 0).toNat
theorem y5r:∀ n:Fin 256,n.1<2 ^ yh2 n.1/\(n.1=0\/2 ^ yh2 n.1<=2 * n.1)/\yh2 n.1<=8:=by decide +kernel
theorem x01 {n:Nat} (hn:n<256):AFun PG yta [.int .u64 n] (.int .i64 (yh2 n)):=by
 intro S;refine xew ?_;unfold xbz;(try simp only [rwp,zA,zB,zC,zD,zE,zF,zG,zH,zI,rwb,reduceIte,ynm,ynl]);rw [decide_eq_false (show ¬ (4294967296:Int)<=n by omega)]
 refine q3t ?_;rw [decide_eq_false (show ¬ (65536:Int)<=n by omega)]
 refine q3t ?_;rw [decide_eq_false (show ¬ (256:Int)<=n by omega)]
 refine q3t ?_;have hb:len8[n]?=some (len8.data.toList.getD n 0).toNat.toUInt8:=by
  rw [q7k];have hl:n<len8.data.toList.length:=by show n<256;exact hn
  rw [List.getD_eq_getElem?_getD,lE hl];simp
 have h8:yh2 n<=8:=(y5r ⟨n,hn⟩).2.2;have hw:IntKind.u8.wrap (n:Int)=n:=(show ∀ n:Fin 256,IntKind.u8.wrap (n.1:Int)=n.1 by decide +kernel) ⟨n,hn⟩
 have hv:((len8.data.toList.getD n 0).toNat.toUInt8).toNat=yh2 n:=by
  unfold yh2;simp
 show yfm _ (.int .u64 n) (.int .i64 0) S;unfold yfm;change (cvW .u8 (.int .u64 n) fun v21=>isW (.str len8) v21 fun v22=>_)
 (try simp only [rwp,zA,zB,zC,zD,zE,zF,zG,zH,zI,rwb,reduceIte,hw,hb]);rw [hv]
 (simp (disch:=omega) only [q05])
 exact q04 ⟨by rw [Int.zero_add],rfl⟩
theorem x02 {n:Nat} (hn:n<256):AFun PG yua [.int .u64 n] (.int .i64 (yh2 n)):=by
 intro S;refine xg1 ?_;unfold xd4;(try simp only [rwp,zA,zB,zC,zD,zE,zF,zG,zH,zI,rwb,reduceIte]);refine q06 (x01 hn) ?_;exact q04 ⟨rfl,rfl⟩
theorem x5o:yf7 12:=by
 intro D pt SS n g c hD hg ho hn v;refine xik ?_;unfold xig;refine hD.ln ?_;have hw:IntKind.u64.wrap (n:Int)=n:=by
  have:n<256:=by omega
  exact (show ∀ n:Fin 256,IntKind.u64.wrap (n.1:Int)=n.1 by decide +kernel) ⟨n,this⟩
 (try simp only [rwp,zA,zB,zC,zD,zE,zF,zG,zH,zI,rwb,reduceIte,hw]);refine q06 (x02 (by omega)) ?_
 have q:=yzu hD hg ho (a:=0) (b:=n) (by omega) (by omega) (by omega) (yh2 n) v
 refine q0k q ?_;rintro ae S1 ⟨rfl,w,rfl,h1,h2⟩;dsimp only;exact q1x ⟨rfl,w,rfl,h1,h2⟩
end Go.HL
