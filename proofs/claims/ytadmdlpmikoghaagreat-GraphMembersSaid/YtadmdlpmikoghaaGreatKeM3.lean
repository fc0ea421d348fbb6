/- A part of a proof. -/
import Derived.Test.YtadmdlpmikoghaaGreatKeM2
import Derived.Lib.Strings
set_option maxRecDepth 4000
set_option linter.unusedSimpArgs false
set_option linter.unusedVariables false
namespace Go.HL
open List renaming length_map→lA,mem_of_getElem?→lB,getElem?_map→lC,length_cons→lD,getElem?_eq_getElem→lE,take_of_length_le→lF,length_append→lH,length_nil→lJ,map_append→lK,getElem?_of_mem→lL,mem_cons_of_mem→lM,mem_singleton→lO,length_singleton→lP,nil_append→lQ,length_take→lR,append_nil→lU,any_eq_true→lV,flatten_append→lX,mem_append_left→lY,getElem?_cons_zero→lZ,take_append_of_le_length→lc
open Nat renaming reduceAdd→zA,reduceLeDiff→zB,reduceLT→zC,reduceSub→zD,reduceMul→zE,reduceEqDiff→zF,reduceBEq→zG
open Int renaming reduceAdd→zH,reduceToNat→zI
section
variable {D:AV} {pt:Nat->AV} {SS:(Nat->Ob)->q00} {n g:Nat} {c:Ob->Ob->Int}
theorem yut (hD:Dat D pt SS n) (hg:∀ x y,AFun PG g [.agg (obC x),.agg (obC y)] (.int .i64 (c x y))) (ho:y0m (ltC c)) {f lo hi:Nat} (hh:f+hi<=n) (hlo:lo<=n) (v:Nat->Ob) (h0:Sif (ltC c) f lo hi lo v) :
  ACalls PG ysq [D,.int .i64 lo,.int .i64 hi,.int .i64 f,fnG g] (SS v) fun ae S'=>ae=.ret (.tup [])/\∃ w,S'=SS w/\Rng n f (f+hi) v w/\Hp (ltC c) f lo hi w:=by
 have hn:=hD.bd;refine xe9 ?_;unfold xbc;refine LoopP.introS (fun r:Nat=>[(0,D),(2,.int .i64 hi),(3,.int .i64 f),(4,fnG g),(10,.int .i64 r)]) (fun r S'=>r<=n/\∃ w,S'=SS w/\Rng n f (f+hi) v w/\Sif (ltC c) f lo hi r w) (fun r=>n-r) lo
  ⟨hlo,v,rfl,Rng.refl _ _ _ _,h0⟩ rfl ?_
 rintro r S1 ⟨hrn,w,rfl,hr,hs⟩ kk hkk;(try simp only [rwp,zA,zB,zC,zD,zE,zF,zG,zH,zI,rwb,reduceIte,yv6]);(try (simp (disch:=omega) only [q05]));cases a1:decide ((hi:Int)<=2 * r+1)
 ·have hch:2 * r+1<hi:=by have:=of_decide_eq_false a1;omega
  have fin:∀ ch:Nat,xih (ltC c) f hi r ch w->yfd (fun ae S'=>ae=.ret (.tup [])/\∃ w,S'=SS w/\Rng n f (f+hi) v w/\Hp (ltC c) f lo hi w) kk D (.int .i64 hi) (.int .i64 f) (fnG g) (.int .i64 r) (.int .i64 ch) (SS w):=by
   intro ch hb;have h1:=hb.cc;have h2:=hb.cl;(try simp only [rwp,zA,zB,zC,zD,zE,zF,zG,zH,zI,rwb,reduceIte,yfd]);(try (simp (disch:=omega) only [q05]));refine hD.ia (i:=f+r) (by omega) (by omega) ?_
   (try simp only [rwp,zA,zB,zC,zD,zE,zF,zG,zH,zI,rwb,reduceIte]);(try (simp (disch:=omega) only [q05]));refine hD.ia (i:=f+ch) (by omega) (by omega) (hD.ld (by omega) (hD.ld (by omega) ?_))
   refine q06 (hg _ _) ?_;(try simp only [rwp,zA,zB,zC,zD,zE,zF,zG,zH,zI,rwb,reduceIte]);cases a2:decide (c (w (f+r)) (w (f+ch))<0)
   ·(try simp only [rwp,zA,zB,zC,zD,zE,zF,zG,zH,zI,rwb,reduceIte]);exact q1x ⟨rfl,w,rfl,hr,hs.stop ho hb a2⟩
   ·(try simp only [rwp,zA,zB,zC,zD,zE,zF,zG,zH,zI,rwb,reduceIte]);(try (simp (disch:=omega) only [q05]));refine hD.ia (i:=f+ch) (by omega) (by omega) ?_
    (try simp only [rwp,zA,zB,zC,zD,zE,zF,zG,zH,zI,rwb,reduceIte]);(try (simp (disch:=omega) only [q05]));refine hD.ia (i:=f+r) (by omega) (by omega) (hD.ld (by omega) (hD.ld (by omega) ?_))
    refine hD.ia (i:=f+r) (by omega) (by omega) (hD.st (by omega) ?_)
    refine hD.ia (i:=f+ch) (by omega) (by omega) (hD.st (by omega) ?_)
    rw [y74];exact q09 rfl (hkk ch _ ⟨by omega,_,rfl,hr.trans (Rng.sw (by omega) (by omega) (by omega) (by omega) hh),hs.step ho hb a2⟩ (by omega))
  (try simp only [rwp,zA,zB,zC,zD,zE,zF,zG,zH,zI,rwb,reduceIte]);(try (simp (disch:=omega) only [q05]));cases a3:decide ((2:Int) * r+1+1<hi)
  ·(try simp only [rwp,zA,zB,zC,zD,zE,zF,zG,zH,zI,rwb,reduceIte,y9x]);have q:=fin (2 * r+1) ⟨.inl rfl,hch,fun d hd hdh=>by
    have:=of_decide_eq_false a3;have e:d=2 * r+1:=by omega
    rw [e];exact Le.refl ho _⟩
   rw [show ((2 * r+1:Nat):Int)=2 * (r:Int)+1 by omega] at q
   exact q
  ·have hlt:=of_decide_eq_true a3;(try simp only [rwp,zA,zB,zC,zD,zE,zF,zG,zH,zI,rwb,reduceIte]);(try (simp (disch:=omega) only [q05]));refine hD.ia (i:=f+(2 * r+1)) (by omega) (by omega) ?_
   (try simp only [rwp,zA,zB,zC,zD,zE,zF,zG,zH,zI,rwb,reduceIte]);(try (simp (disch:=omega) only [q05]));refine hD.ia (i:=f+(2 * r+2)) (by omega) (by omega) (hD.ld (by omega) (hD.ld (by omega) ?_))
   refine q06 (hg _ _) ?_;(try simp only [rwp,zA,zB,zC,zD,zE,zF,zG,zH,zI,rwb,reduceIte]);cases a4:decide (c (w (f+(2 * r+1))) (w (f+(2 * r+2)))<0)
   ·(try simp only [rwp,zA,zB,zC,zD,zE,zF,zG,zH,zI,rwb,reduceIte,y9x]);have q:=fin (2 * r+1) ⟨.inl rfl,hch,fun d hd hdh=>by
     rcases hd with rfl | rfl
     ·exact Le.refl ho _
     ·exact a4⟩
    rw [show ((2 * r+1:Nat):Int)=2 * (r:Int)+1 by omega] at q
    exact q
   ·(try simp only [rwp,zA,zB,zC,zD,zE,zF,zG,zH,zI,rwb,reduceIte,y9x]);(try (simp (disch:=omega) only [q05]));have q:=fin (2 * r+2) ⟨.inr rfl,by omega,fun d hd hdh=>by
     rcases hd with rfl | rfl
     ·exact Le.of_lt ho a4
     ·exact Le.refl ho _⟩
    rw [show ((2 * r+2:Nat):Int)=2 * (r:Int)+1+1 by omega] at q
    exact q
 ·(try simp only [rwp,zA,zB,zC,zD,zE,zF,zG,zH,zI,rwb,reduceIte]);exact q1x ⟨rfl,w,rfl,hr,hs.stop0 (by have:=of_decide_eq_true a1;omega)⟩
theorem x95 (hD:Dat D pt SS n) (hg:∀ x y,AFun PG g [.agg (obC x),.agg (obC y)] (.int .i64 (c x y))) (ho:y0m (ltC c)) {a b:Nat} (hab:a<b) (hb:b<=n) (v:Nat->Ob) :
  ACalls PG yth [D,.int .i64 a,.int .i64 b,fnG g] (SS v) fun ae S'=>ae=.ret (.tup [])/\∃ w,S'=SS w/\Rng n a b v w/\Srt (ltC c) a b w:=by
 have hn:=hD.bd;refine xf3 ?_;unfold xc6;obtain ⟨hi,rfl⟩:∃ hi,b=a+hi:=⟨b-a,by omega⟩
 (try simp only [rwp,zA,zB,zC,zD,zE,zF,zG,zH,zI,rwb,reduceIte]);(try (simp (disch:=omega) only [q05]));have e1:((a+hi:Nat):Int)-a=hi:=by omega
 rw [e1];refine yxr (a:=hi-1) (b:=2) (by omega) rfl (by omega) (by omega) ?_
 refine LoopP.introS (fun m:Nat=>[(0,D),(3,fnG g),(8,.int .i64 a),(9,.int .i64 0),(10,.int .i64 hi),(11,.int .i64 ((m:Int)-1))]) (fun m S'=>m<=hi/\∃ w,S'=SS w/\Rng n a (a+hi) v w/\Hp (ltC c) a m hi w) (fun m=>m) ((hi-1) / 2+1)
  ⟨by omega,v,rfl,Rng.refl _ _ _ _,fun p q h1 h2 h3=>by omega⟩ (by rw [show (((hi-1) / 2+1:Nat):Int)-1=(((hi-1) / 2:Nat):Int) by omega]) ?_
 rintro m S1 ⟨hm,w,rfl,hr,hp⟩ kk hkk;(try simp only [rwp,zA,zB,zC,zD,zE,zF,zG,zH,zI,rwb,reduceIte,yvs]);cases a1:decide ((0:Int)<=(m:Int)-1)
 ·have e:m=0:=by have:=of_decide_eq_false a1;omega
  subst e;(try simp only [rwp,zA,zB,zC,zD,zE,zF,zG,zH,zI,rwb,reduceIte]);(try (simp (disch:=omega) only [q05]));refine LoopP.introS (fun m:Nat=>[(0,D),(3,fnG g),(8,.int .i64 a),(9,.int .i64 0),(12,.int .i64 ((m:Int)-1))]) (fun m S'=>m<=hi/\∃ w,S'=SS w/\Rng n a (a+hi) v w/\Pop (ltC c) a m hi w) (fun m=>m) hi
   ⟨by omega,w,rfl,hr,⟨hp,Srt.one (by omega),fun i j h1 h2 h3=>by omega⟩⟩ rfl ?_
  rintro m S2 ⟨hm2,u,rfl,hru,hpu⟩ kk2 hkk2;(try simp only [rwp,zA,zB,zC,zD,zE,zF,zG,zH,zI,rwb,reduceIte,yvr]);cases a2:decide ((0:Int)<=(m:Int)-1)
  ·have e:m=0:=by have:=of_decide_eq_false a2;omega
   subst e;(try simp only [rwp,zA,zB,zC,zD,zE,zF,zG,zH,zI,rwb,reduceIte]);exact q1x ⟨rfl,u,rfl,hru,hpu.s⟩
  ·have hle:=of_decide_eq_true a2;obtain ⟨i,rfl⟩:∃ i,m=i+1:=⟨m-1,by omega⟩
   rw [show ((i+1:Nat):Int)-1=(i:Int) by omega]
   (try simp only [rwp,zA,zB,zC,zD,zE,zF,zG,zH,zI,rwb,reduceIte]);(try (simp (disch:=omega) only [q05]));refine hD.ia (i:=a+i) (by omega) (by omega) (hD.ia (i:=a) rfl (by omega) (hD.ld (by omega) (hD.ld (by omega) ?_)))
   refine hD.ia (i:=a) rfl (by omega) (hD.st (by omega) (hD.ia (i:=a+i) (by omega) (by omega) (hD.st (by omega) ?_)))
   rw [y74];refine q0k (yut hD hg ho (f:=a) (lo:=0) (hi:=i) (by omega) (by omega) _ (Sif.start hpu.pre)) ?_
   rintro ae S3 ⟨rfl,x,rfl,hrx,hpx⟩;dsimp only;(try simp only [rwp,zA,zB,zC,zD,zE,zF,zG,zH,zI,rwb,reduceIte]);(try (simp (disch:=omega) only [q05]));exact q09 rfl (hkk2 i _ ⟨by omega,x,rfl,(hru.trans (Rng.sw (by omega) (by omega) (by omega) (by omega) hb)).trans (hrx.mono (Nat.le_refl _) (by omega)),hpu.step ho (by omega) (by omega) hrx hpx⟩ (by omega))
 ·have hle:=of_decide_eq_true a1;obtain ⟨i,rfl⟩:∃ i,m=i+1:=⟨m-1,by omega⟩
  rw [show ((i+1:Nat):Int)-1=(i:Int) by omega]
  (try simp only [rwp,zA,zB,zC,zD,zE,zF,zG,zH,zI,rwb,reduceIte]);refine q0k (yut hD hg ho (f:=a) (lo:=i) (hi:=hi) (by omega) (by omega) w (Sif.start hp)) ?_
  rintro ae S3 ⟨rfl,x,rfl,hrx,hpx⟩;dsimp only;(try simp only [rwp,zA,zB,zC,zD,zE,zF,zG,zH,zI,rwb,reduceIte]);(try (simp (disch:=omega) only [q05]));exact q09 rfl (hkk i _ ⟨by omega,x,rfl,hr.trans hrx,hpx⟩ (by omega))
end
set_option maxRecDepth 4000
section
variable {D:AV} {pt:Nat->AV} {SS:(Nat->Ob)->q00} {n g:Nat} {c:Ob->Ob->Int}
theorem Dat.swap (hD:Dat D pt SS n) {i j:Nat} {x y x' y':Int} {v:Nat->Ob} {KT:q00->Prop} (ex:x=i) (ey:y=j) (ex':x'=i) (ey':y'=j) (hi:i<n) (hj:j<n) (hk:KT (SS (sw v j i))) :
  iaW 2 D (.int .i64 x) fun p=>iaW 2 D (.int .i64 y) fun q=>ldW (SS v) 2 true p fun a=>ldW (SS v) 2 true q fun b=>iaW 2 D (.int .i64 y') fun r=>stW (SS v) 2 r a fun S=>iaW 2 D (.int .i64 x') fun t=>stW S 2 t b KT:=by
 refine hD.ia ex hi (hD.ia ey hj (hD.ld hi (hD.ld hj (hD.ia ey' hj (hD.st hj (hD.ia ex' hi (hD.st hi ?_)))))));rw [y74];exact hk
theorem Dat.cmp (hD:Dat D pt SS n) (hg:∀ x y,AFun PG g [.agg (obC x),.agg (obC y)] (.int .i64 (c x y))) {i j:Nat} {x y:Int} {v:Nat->Ob} {K Qp:AV->q00->Prop} (ex:x=i) (ey:y=j) (hi:i<n) (hj:j<n) (hk:K (.int .i64 (c (v i) (v j))) (SS v)) :
  iaW 2 D (.int .i64 x) fun p=>iaW 2 D (.int .i64 y) fun q=>ldW (SS v) 2 true p fun a=>ldW (SS v) 2 true q fun b=>caW PG (SS v) (fnG g) [a,b] K Qp:=
 hD.ia ex hi (hD.ia ey hj (hD.ld hi (hD.ld hj (q06 (hg _ _) hk))))
theorem ybx (hD:Dat D pt SS n) (hg:∀ x y,AFun PG g [.agg (obC x),.agg (obC y)] (.int .i64 (c x y))) (ho:y0m (ltC c)) {a b p:Nat} (hap:a<=p) (hpb:p<b) (hb:b<=n) (v:Nat->Ob) :
  ACalls PG ytb [D,.int .i64 a,.int .i64 b,.int .i64 p,fnG g] (SS v) fun ae S'=>∃ (w:Nat->Ob) (m:Nat) (al:Bool),ae=.ret (.tup [.int .i64 m,.bool al])/\S'=SS w/\Rng n a b v w/\Cut (ltC c) a b m w:=by
 have hn:=hD.bd;refine xex ?_;unfold xc0;refine hD.swap rfl rfl rfl rfl (by omega) (by omega) ?_
 have hr0:Rng n a b v (sw v a p):=Rng.sw (by omega) (by omega) hap hpb hb
 generalize sw v a p=v0 at hr0;(try simp only [rwp,zA,zB,zC,zD,zE,zF,zG,zH,zI,rwb,reduceIte]);(try (simp (disch:=omega) only [q05]));generalize hQ:(fun ae S'=>∃ (w:Nat->Ob) (m:Nat) (al:Bool),ae=AEnd.ret (.tup [.int .i64 m,.bool al])/\S'=SS w/\Rng n a b v w/\Cut (ltC c) a b m w)=QF
 have fin:∀ (w:Nat->Ob) (i j:Nat) (al:Bool),Rng n a b v w->Par (ltC c) a b i j w->j<i->rtW [.tmp (.int .i64 j),.tmp (.bool al)] QF (SS (sw w j a)):=by
  intro w i j al hr hp hij;have h1:=hp.i1;have h2:=hp.ij;have h3:=hp.j1;subst hQ;exact q3n ⟨_,j,al,rfl,rfl,hr.trans (Rng.sw (by omega) (by omega) (by omega) (by omega) hb),hp.cut ho hij⟩
 refine LoopP.introS (fun i:Nat=>[(0,D),(1,.int .i64 a),(4,fnG g),(12,.int .i64 i),(13,.int .i64 ((b-1:Nat):Int))]) (fun i S'=>S'=SS v0/\Par (ltC c) a b i (b-1) v0) (fun i=>b-i) (a+1)
  ⟨rfl,⟨by omega,by omega,by omega,fun k h1 h2=>by omega,fun k h1 h2=>by omega⟩⟩ (by rw [show ((b-1:Nat):Int)=(b:Int)-1 by omega];rfl) ?_
 rintro i S1 ⟨rfl,hp⟩ kk hkk;have hi1:=hp.i1;have hij:=hp.ij;(try simp only [rwp,zA,zB,zC,zD,zE,zF,zG,zH,zI,rwb,reduceIte,yvi]);have next:(∀ j:Nat,i<=j->j<=b-1->Le (ltC c) (v0 a) (v0 i))->LoopP (fun r0 l S=>yno QF r0 (y00 l 0) (y00 l 1) (y00 l 4) (y00 l 12) (y00 l 13) S) [(0,D),(1,.int .i64 a),(4,fnG g),(12,.int .i64 i),(13,.int .i64 ((b-1:Nat):Int))] (SS v0):=by
  intro hle;refine LoopP.introS (fun j:Nat=>[(0,D),(1,.int .i64 a),(4,fnG g),(12,.int .i64 i),(13,.int .i64 j)]) (fun j S'=>S'=SS v0/\Par (ltC c) a b i j v0) (fun j=>j) (b-1) ⟨rfl,hp⟩ rfl ?_
  rintro j S2 ⟨rfl,hp2⟩ kk2 hkk2;have hj1:=hp2.j1;have hij2:=hp2.ij;(try simp only [rwp,zA,zB,zC,zD,zE,zF,zG,zH,zI,rwb,reduceIte,yno]);cases a1:decide ((i:Int)<=j)
  ·have hlt:j<i:=by have:=of_decide_eq_false a1;omega
   (try simp only [rwp,zA,zB,zC,zD,zE,zF,zG,zH,zI,rwb,reduceIte,ya2,decide_eq_true (show (j:Int)<i by omega)])
   refine hD.swap rfl rfl rfl rfl (by omega) (by omega) ?_
   exact fin v0 i j true hr0 hp2 hlt
  ·have hle2:i<=j:=by have:=of_decide_eq_true a1;omega
   (try simp only [rwp,zA,zB,zC,zD,zE,zF,zG,zH,zI,rwb,reduceIte]);refine hD.cmp hg (i:=j) (j:=a) rfl rfl (by omega) (by omega) ?_
   (try simp only [rwp,zA,zB,zC,zD,zE,zF,zG,zH,zI,rwb,reduceIte]);cases a2:decide (c (v0 j) (v0 a)<0)
   ·(try simp only [rwp,zA,zB,zC,zD,zE,zF,zG,zH,zI,rwb,reduceIte,ya2]);(try (simp (disch:=omega) only [q05]));rw [show (j:Int)-1=((j-1:Nat):Int) by omega]
    refine q09 rfl (hkk2 (j-1) _ ⟨rfl,hi1,by omega,by omega,hp2.l,fun k h1 h2=>?_⟩ (by omega))
    by_cases e:k=j
    ·rw [e];exact a2
    ·exact hp2.r k (by omega) h2
   ·(try simp only [rwp,zA,zB,zC,zD,zE,zF,zG,zH,zI,rwb,reduceIte,ya2,decide_eq_false (show ¬ (j:Int)<i by omega)])
    refine hD.swap rfl rfl rfl rfl (by omega) (by omega) ?_
    (try simp only [rwp,zA,zB,zC,zD,zE,zF,zG,zH,zI,rwb,reduceIte]);(try (simp (disch:=omega) only [q05]));obtain ⟨hp3,hlt3⟩:=hp2.swap hle2 (hle j hle2 (by omega)) a2
    have hr3:Rng n a b v (sw v0 i j):=hr0.trans (Rng.sw (by omega) (by omega) (by omega) (by omega) hb)
    generalize sw v0 i j=v1 at hp3 hr3;clear hkk hkk2 hle hp hp2 hr0 a2;have ei:(i:Int)+1=((i+1:Nat):Int):=by omega
    have ej:(j:Int)-1=((j-1:Nat):Int):=by omega
    rw [ei,ej];generalize i+1=i at hp3;generalize j-1=j at hp3;refine LoopP.introS (fun x:Nat×Nat=>[(0,D),(1,.int .i64 a),(4,fnG g),(12,.int .i64 x.1),(13,.int .i64 x.2)]) (fun x S'=>∃ w,S'=SS w/\Rng n a b v w/\Par (ltC c) a b x.1 x.2 w) (fun x=>x.2) (i,j) ⟨v1,rfl,hr3,hp3⟩ rfl ?_
    rintro ⟨i,j⟩ S3 ⟨w,rfl,hr,hp⟩ kk hkk;dsimp only at hp ⊢;unfold yvh;have hj0:=hp.j1;refine LoopP.introS (fun i:Nat=>[(0,D),(1,.int .i64 a),(4,fnG g),(12,.int .i64 i),(13,.int .i64 j)]) (fun i S'=>S'=SS w/\Par (ltC c) a b i j w) (fun i=>b-i) i ⟨rfl,hp⟩ rfl ?_
    rintro i2 S4 ⟨rfl,hp4⟩ kk2 hkk2;have hi4:=hp4.i1;have hij4:=hp4.ij;(try simp only [rwp,zA,zB,zC,zD,zE,zF,zG,zH,zI,rwb,reduceIte,yvg]);have next:(∀ j2:Nat,i2<=j2->j2<=j->Le (ltC c) (w a) (w i2))->LoopP (fun r1 l S=>ynn QF kk r1 (y00 l 0) (y00 l 1) (y00 l 4) (y00 l 12) (y00 l 13) S) [(0,D),(1,.int .i64 a),(4,fnG g),(12,.int .i64 i2),(13,.int .i64 j)] (SS w):=by
     intro hle;refine LoopP.introS (fun j2:Nat=>[(0,D),(1,.int .i64 a),(4,fnG g),(12,.int .i64 i2),(13,.int .i64 j2)]) (fun j2 S'=>S'=SS w/\j2<=j/\Par (ltC c) a b i2 j2 w) (fun j2=>j2) j ⟨rfl,Nat.le_refl _,hp4⟩ rfl ?_
     rintro j2 S5 ⟨rfl,hjj,hp5⟩ kk3 hkk3;have hj5:=hp5.j1;have hij5:=hp5.ij;(try simp only [rwp,zA,zB,zC,zD,zE,zF,zG,zH,zI,rwb,reduceIte,ynn]);cases a1:decide ((i2:Int)<=j2)
     ·have hlt:j2<i2:=by have:=of_decide_eq_false a1;omega
      (try simp only [rwp,zA,zB,zC,zD,zE,zF,zG,zH,zI,rwb,reduceIte,ya0,decide_eq_true (show (j2:Int)<i2 by omega)])
      refine hD.swap rfl rfl rfl rfl (by omega) (by omega) ?_
      exact fin w i2 j2 false hr hp5 hlt
     ·have hle2:i2<=j2:=by have:=of_decide_eq_true a1;omega
      (try simp only [rwp,zA,zB,zC,zD,zE,zF,zG,zH,zI,rwb,reduceIte]);refine hD.cmp hg (i:=j2) (j:=a) rfl rfl (by omega) (by omega) ?_
      (try simp only [rwp,zA,zB,zC,zD,zE,zF,zG,zH,zI,rwb,reduceIte]);cases a2:decide (c (w j2) (w a)<0)
      ·(try simp only [rwp,zA,zB,zC,zD,zE,zF,zG,zH,zI,rwb,reduceIte,ya0]);(try (simp (disch:=omega) only [q05]));rw [show (j2:Int)-1=((j2-1:Nat):Int) by omega]
       refine q09 rfl (hkk3 (j2-1) _ ⟨rfl,by omega,hi4,by omega,by omega,hp5.l,fun k h1 h2=>?_⟩ (by omega))
       by_cases e:k=j2
       ·rw [e];exact a2
       ·exact hp5.r k (by omega) h2
      ·(try simp only [rwp,zA,zB,zC,zD,zE,zF,zG,zH,zI,rwb,reduceIte,ya0,decide_eq_false (show ¬ (j2:Int)<i2 by omega)])
       refine hD.swap rfl rfl rfl rfl (by omega) (by omega) ?_
       (try simp only [rwp,zA,zB,zC,zD,zE,zF,zG,zH,zI,rwb,reduceIte]);(try (simp (disch:=omega) only [q05]));obtain ⟨hp6,hlt6⟩:=hp5.swap hle2 (hle j2 hle2 hjj) a2;rw [show (i2:Int)+1=((i2+1:Nat):Int) by omega,show (j2:Int)-1=((j2-1:Nat):Int) by omega]
       exact q09 rfl (hkk (i2+1,j2-1) _ ⟨_,rfl,hr.trans (Rng.sw (by omega) (by omega) (by omega) (by omega) hb),hp6⟩ (by dsimp only;omega))
    cases a1:decide ((i2:Int)<=j)
    ·(try simp only [rwp,zA,zB,zC,zD,zE,zF,zG,zH,zI,rwb,reduceIte,ya1]);exact next fun j2 h1 h2=>by have:=of_decide_eq_false a1;omega
    ·have hle2:i2<=j:=by have:=of_decide_eq_true a1;omega
     (try simp only [rwp,zA,zB,zC,zD,zE,zF,zG,zH,zI,rwb,reduceIte]);refine hD.cmp hg (i:=i2) (j:=a) rfl rfl (by omega) (by omega) ?_
     (try simp only [rwp,zA,zB,zC,zD,zE,zF,zG,zH,zI,rwb,reduceIte]);cases a2:decide (c (w i2) (w a)<0)
     ·(try simp only [rwp,zA,zB,zC,zD,zE,zF,zG,zH,zI,rwb,reduceIte,ya1]);exact next fun _ _ _=>a2
     ·(try simp only [rwp,zA,zB,zC,zD,zE,zF,zG,zH,zI,rwb,reduceIte,ya1]);(try (simp (disch:=omega) only [q05]));rw [show (i2:Int)+1=((i2+1:Nat):Int) by omega]
      refine q09 rfl (hkk2 (i2+1) _ ⟨rfl,by omega,hp4.j1,by omega,fun k h1 h2=>?_,hp4.r⟩ (by omega))
      by_cases e:k=i2
      ·rw [e];exact a2
      ·exact hp4.l k h1 (by omega)
 cases a1:decide ((i:Int)<=((b-1:Nat):Int))
 ·(try simp only [rwp,zA,zB,zC,zD,zE,zF,zG,zH,zI,rwb,reduceIte,ya3]);exact next fun j h1 h2=>by have:=of_decide_eq_false a1;omega
 ·have hle2:i<=b-1:=by have:=of_decide_eq_true a1;omega
  (try simp only [rwp,zA,zB,zC,zD,zE,zF,zG,zH,zI,rwb,reduceIte]);refine hD.cmp hg (i:=i) (j:=a) rfl rfl (by omega) (by omega) ?_
  (try simp only [rwp,zA,zB,zC,zD,zE,zF,zG,zH,zI,rwb,reduceIte]);cases a2:decide (c (v0 i) (v0 a)<0)
  ·(try simp only [rwp,zA,zB,zC,zD,zE,zF,zG,zH,zI,rwb,reduceIte,ya3]);exact next fun _ _ _=>a2
  ·(try simp only [rwp,zA,zB,zC,zD,zE,zF,zG,zH,zI,rwb,reduceIte,ya3]);(try (simp (disch:=omega) only [q05]));rw [show (i:Int)+1=((i+1:Nat):Int) by omega]
   refine q09 rfl (hkk (i+1) _ ⟨rfl,by omega,hp.j1,by omega,fun k h1 h2=>?_,hp.r⟩ (by omega))
   by_cases e:k=i
   ·rw [e];exact a2
   ·exact hp.l k h1 (by omega)
theorem y93 (hD:Dat D pt SS n) (hg:∀ x y,AFun PG g [.agg (obC x),.agg (obC y)] (.int .i64 (c x y))) (ho:y0m (ltC c)) {a b p:Nat} (hap:a<=p) (hpb:p<b) (hb:b<=n) (v:Nat->Ob) :
  ACalls PG ytc [D,.int .i64 a,.int .i64 b,.int .i64 p,fnG g] (SS v) fun ae S'=>∃ (w:Nat->Ob) (m:Nat),ae=.ret (.int .i64 m)/\S'=SS w/\Rng n a b v w/\w a=v p/\a<m/\m<=b/\∀ k,a<=k->k<m->Le (ltC c) (w k) (w a):=by
 have hn:=hD.bd;refine xey ?_;unfold xc1;refine hD.swap rfl rfl rfl rfl (by omega) (by omega) ?_
 have hr0:Rng n a b v (sw v a p):=Rng.sw (by omega) (by omega) hap hpb hb
 have hv0:sw v a p a=v p:=yo9;generalize sw v a p=v0 at hr0 hv0;(try simp only [rwp,zA,zB,zC,zD,zE,zF,zG,zH,zI,rwb,reduceIte]);(try (simp (disch:=omega) only [q05]));generalize hQ:(fun ae S'=>∃ (w:Nat->Ob) (m:Nat),ae=AEnd.ret (.int .i64 m)/\S'=SS w/\Rng n a b v w/\w a=v p/\a<m/\m<=b/\∀ k,a<=k->k<m->Le (ltC c) (w k) (w a))=QF
 refine LoopP.introS (fun x:Nat×Nat=>[(0,D),(1,.int .i64 a),(4,fnG g),(11,.int .i64 x.1),(12,.int .i64 x.2)]) (fun x S'=>∃ w,S'=SS w/\Rng n a b v w/\w a=v p/\ParE (ltC c) a b x.1 x.2 w) (fun x=>x.2) (a+1,b-1)
  ⟨v0,rfl,hr0,hv0,⟨by dsimp only;omega,by dsimp only;omega,by dsimp only;omega,fun k h1 h2=>by dsimp only at h2;omega,fun k h1 h2=>by dsimp only at h1;omega⟩⟩ (by dsimp only;rw [show ((b-1:Nat):Int)=(b:Int)-1 by omega];rfl) ?_
 rintro ⟨i,j⟩ S3 ⟨w,rfl,hr,hwa,hp⟩ kk hkk;dsimp only at hp ⊢;unfold yvk;have hj0:=hp.j1;refine LoopP.introS (fun i:Nat=>[(0,D),(1,.int .i64 a),(4,fnG g),(11,.int .i64 i),(12,.int .i64 j)]) (fun i S'=>S'=SS w/\ParE (ltC c) a b i j w) (fun i=>b-i) i ⟨rfl,hp⟩ rfl ?_
 rintro i2 S4 ⟨rfl,hp4⟩ kk2 hkk2;have hi4:=hp4.i1;have hij4:=hp4.ij;(try simp only [rwp,zA,zB,zC,zD,zE,zF,zG,zH,zI,rwb,reduceIte,yvj]);have next:(∀ j2:Nat,i2<=j2->j2<=j->ltC c (w a) (w i2)=true)->LoopP (fun r1 l S=>ynp QF kk r1 (y00 l 0) (y00 l 1) (y00 l 4) (y00 l 11) (y00 l 12) S) [(0,D),(1,.int .i64 a),(4,fnG g),(11,.int .i64 i2),(12,.int .i64 j)] (SS w):=by
  intro hle;refine LoopP.introS (fun j2:Nat=>[(0,D),(1,.int .i64 a),(4,fnG g),(11,.int .i64 i2),(12,.int .i64 j2)]) (fun j2 S'=>S'=SS w/\j2<=j/\ParE (ltC c) a b i2 j2 w) (fun j2=>j2) j ⟨rfl,Nat.le_refl _,hp4⟩ rfl ?_
  rintro j2 S5 ⟨rfl,hjj,hp5⟩ kk3 hkk3;have hj5:=hp5.j1;have hij5:=hp5.ij;(try simp only [rwp,zA,zB,zC,zD,zE,zF,zG,zH,zI,rwb,reduceIte,ynp]);cases a1:decide ((i2:Int)<=j2)
  ·have hlt:j2<i2:=by have:=of_decide_eq_false a1;omega
   (try simp only [rwp,zA,zB,zC,zD,zE,zF,zG,zH,zI,rwb,reduceIte,ya4,decide_eq_true (show (j2:Int)<i2 by omega)])
   subst hQ;refine q04 ⟨w,i2,rfl,rfl,hr,hwa,hi4,by omega,fun k h1 h2=>?_⟩
   by_cases e:k=a
   ·rw [e];exact Le.refl ho _
   ·exact hp5.l k (by omega) h2
  ·have hle2:i2<=j2:=by have:=of_decide_eq_true a1;omega
   (try simp only [rwp,zA,zB,zC,zD,zE,zF,zG,zH,zI,rwb,reduceIte]);refine hD.cmp hg (i:=a) (j:=j2) rfl rfl (by omega) (by omega) ?_
   (try simp only [rwp,zA,zB,zC,zD,zE,zF,zG,zH,zI,rwb,reduceIte]);cases a2:decide (c (w a) (w j2)<0)
   ·(try simp only [rwp,zA,zB,zC,zD,zE,zF,zG,zH,zI,rwb,reduceIte,ya4,decide_eq_false (show ¬ (j2:Int)<i2 by omega)])
    refine hD.swap rfl rfl rfl rfl (by omega) (by omega) ?_
    (try simp only [rwp,zA,zB,zC,zD,zE,zF,zG,zH,zI,rwb,reduceIte]);(try (simp (disch:=omega) only [q05]));obtain ⟨hp6,hlt6⟩:=hp5.swap hle2 (hle j2 hle2 hjj) a2;rw [show (i2:Int)+1=((i2+1:Nat):Int) by omega,show (j2:Int)-1=((j2-1:Nat):Int) by omega]
    exact q09 rfl (hkk (i2+1,j2-1) _ ⟨_,rfl,hr.trans (Rng.sw (by omega) (by omega) (by omega) (by omega) hb),(y0o (by omega) (by omega)).trans hwa,hp6⟩ (by dsimp only;omega))
   ·(try simp only [rwp,zA,zB,zC,zD,zE,zF,zG,zH,zI,rwb,reduceIte,ya4]);(try (simp (disch:=omega) only [q05]));rw [show (j2:Int)-1=((j2-1:Nat):Int) by omega]
    refine q09 rfl (hkk3 (j2-1) _ ⟨rfl,by omega,hi4,by omega,by omega,hp5.l,fun k h1 h2=>?_⟩ (by omega))
    by_cases e:k=j2
    ·rw [e];exact a2
    ·exact hp5.r k (by omega) h2
 cases a1:decide ((i2:Int)<=j)
 ·(try simp only [rwp,zA,zB,zC,zD,zE,zF,zG,zH,zI,rwb,reduceIte,ya5]);exact next fun j2 h1 h2=>by have:=of_decide_eq_false a1;omega
 ·have hle2:i2<=j:=by have:=of_decide_eq_true a1;omega
  (try simp only [rwp,zA,zB,zC,zD,zE,zF,zG,zH,zI,rwb,reduceIte]);refine hD.cmp hg (i:=a) (j:=i2) rfl rfl (by omega) (by omega) ?_
  (try simp only [rwp,zA,zB,zC,zD,zE,zF,zG,zH,zI,rwb,reduceIte]);cases a2:decide (c (w a) (w i2)<0)
  ·(try simp only [rwp,zA,zB,zC,zD,zE,zF,zG,zH,zI,rwb,reduceIte,ya5]);(try (simp (disch:=omega) only [q05]));rw [show (i2:Int)+1=((i2+1:Nat):Int) by omega]
   refine q09 rfl (hkk2 (i2+1) _ ⟨rfl,by omega,hp4.j1,by omega,fun k h1 h2=>?_,hp4.r⟩ (by omega))
   by_cases e:k=i2
   ·rw [e];exact a2
   ·exact hp4.l k h1 (by omega)
  ·(try simp only [rwp,zA,zB,zC,zD,zE,zF,zG,zH,zI,rwb,reduceIte,ya5]);exact next fun _ _ _=>a2
theorem ylx (hD:Dat D pt SS n) {a b:Nat} (hab:a<b) (hb:b<=n) (F:AV) (v:Nat->Ob) :
  ACalls PG yte [D,.int .i64 a,.int .i64 b,F] (SS v) fun ae S'=>ae=.ret (.tup [])/\∃ w,S'=SS w/\Rng n a b v w:=by
 have hn:=hD.bd;refine xf0 ?_;unfold xc3;(try simp only [rwp,zA,zB,zC,zD,zE,zF,zG,zH,zI,rwb,reduceIte]);(try (simp (disch:=omega) only [q05]));rw [show (b:Int)-1=((b-1:Nat):Int) by omega]
 refine LoopP.introS (fun x:Nat×Nat=>[(0,D),(8,.int .i64 x.1),(9,.int .i64 x.2)]) (fun x S'=>a<=x.1/\x.2<b/\x.1<=x.2+1/\∃ w,S'=SS w/\Rng n a b v w) (fun x=>x.2) (a,b-1) ⟨by dsimp only;omega,by dsimp only;omega,by dsimp only;omega,v,rfl,Rng.refl _ _ _ _⟩ rfl ?_
 rintro ⟨i,j⟩ S1 ⟨h1,h2,h3,w,rfl,hr⟩ kk hkk;dsimp only at h1 h2 h3 ⊢;(try simp only [rwp,zA,zB,zC,zD,zE,zF,zG,zH,zI,rwb,reduceIte,yvp]);cases a1:decide ((i:Int)<j)
 ·(try simp only [rwp,zA,zB,zC,zD,zE,zF,zG,zH,zI,rwb,reduceIte]);exact q1x ⟨rfl,w,rfl,hr⟩
 ·have hlt:=of_decide_eq_true a1;(try simp only [rwp,zA,zB,zC,zD,zE,zF,zG,zH,zI,rwb,reduceIte]);refine hD.swap rfl rfl rfl rfl (by omega) (by omega) ?_
  (try simp only [rwp,zA,zB,zC,zD,zE,zF,zG,zH,zI,rwb,reduceIte]);(try (simp (disch:=omega) only [q05]));rw [show (i:Int)+1=((i+1:Nat):Int) by omega,show (j:Int)-1=((j-1:Nat):Int) by omega]
  exact q09 rfl (hkk (i+1,j-1) _ ⟨by dsimp only;omega,by dsimp only;omega,by dsimp only;omega,_,rfl,hr.trans (Rng.sw (by omega) (by omega) (by omega) (by omega) hb)⟩ (by dsimp only;omega))
end
set_option maxRecDepth 4000
section
variable {D:AV} {pt:Nat->AV} {SS:(Nat->Ob)->q00} {n g:Nat} {c:Ob->Ob->Int} {cb:Nat} {v:Nat->Ob}
abbrev swC (k:Int):AObj:=.cells 3 [.int .i64 k] 1
theorem y6l (hD:Dat D pt SS n) (hg:∀ x y,AFun PG g [.agg (obC x),.agg (obC y)] (.int .i64 (c x y))) (hc:y01 (SS v) cb=none) {i j k:Nat} (hi:i<n) (hj:j<n) (hk:k<=100000) :
  ACalls PG ys8 [D,.int .i64 i,.int .i64 j,.ptr cb 0,fnG g] (supd (SS v) cb (swC k)) fun ae S'=>∃ x y k':Nat,ae=.ret (.tup [.int .i64 x,.int .i64 y])/\S'=supd (SS v) cb (swC k')/\k'<=k+1/\((x=i/\y=j)\/(x=j/\y=i)):=by
 refine xdt ?_;unfold xaw;refine hD.ia rfl hj (hD.ia rfl hi (hD.fr hc hj (hD.fr hc hi (q06 (hg _ _) ?_))));have ho:=q0f (S:=SS v) (b:=cb) (t:=3) (cs:=[.int .i64 k]) (tot:=1);have hcl:=q08 ho;(try simp only [rwp,zA,zB,zC,zD,zE,zF,zG,zH,zI,rwb,reduceIte]);cases a1:decide (c (v j) (v i)<0)
 ·(try simp only [rwp,zA,zB,zC,zD,zE,zF,zG,zH,zI,rwb,reduceIte]);exact q3n ⟨i,j,k,rfl,rfl,by omega,.inl ⟨rfl,rfl⟩⟩
 ·(try simp only [rwp,zA,zB,zC,zD,zE,zF,zG,zH,zI,rwb,reduceIte,hcl,ho,q0q])
  (simp (disch:=omega) only [q05])
  refine q3n ⟨j,i,k+1,rfl,?_,by omega,.inr ⟨rfl,rfl⟩⟩
  rw [show ((k+1:Nat):Int)=(k:Int)+1 by omega]
theorem y6n (hD:Dat D pt SS n) (hg:∀ x y,AFun PG g [.agg (obC x),.agg (obC y)] (.int .i64 (c x y))) (hc:y01 (SS v) cb=none) {i j l k:Nat} (hi:i<n) (hj:j<n) (hl:l<n) (hk:k<=1000) :
  ACalls PG ysm [D,.int .i64 i,.int .i64 j,.int .i64 l,.ptr cb 0,fnG g] (supd (SS v) cb (swC k)) fun ae S'=>∃ m k':Nat,ae=.ret (.int .i64 m)/\S'=supd (SS v) cb (swC k')/\k'<=k+3/\(m=i\/m=j\/m=l):=by
 refine xe5 ?_;unfold xb8;refine q0k (y6l hD hg hc hi hj (by omega)) ?_
 rintro ae S1 ⟨x,y,k1,rfl,rfl,h1,h2⟩;dsimp only;(try simp only [rwp,zA,zB,zC,zD,zE,zF,zG,zH,zI,rwb,reduceIte]);refine q0k (y6l hD hg hc (i:=y) (j:=l) (by omega) hl (by omega)) ?_
 rintro ae S2 ⟨x2,y2,k2,rfl,rfl,h3,h4⟩;dsimp only;(try simp only [rwp,zA,zB,zC,zD,zE,zF,zG,zH,zI,rwb,reduceIte]);refine q0k (y6l hD hg hc (i:=x) (j:=x2) (by omega) (by omega) (by omega)) ?_
 rintro ae S3 ⟨x3,y3,k3,rfl,rfl,h5,h6⟩;dsimp only;(try simp only [rwp,zA,zB,zC,zD,zE,zF,zG,zH,zI,rwb,reduceIte]);exact q04 ⟨y3,k3,rfl,rfl,by omega,by omega⟩
theorem y2a (hD:Dat D pt SS n) (hg:∀ x y,AFun PG g [.agg (obC x),.agg (obC y)] (.int .i64 (c x y))) (hc:y01 (SS v) cb=none) {i k:Nat} (h0:0<i) (hi:i+1<n) (hk:k<=1000) :
  ACalls PG ysn [D,.int .i64 i,.ptr cb 0,fnG g] (supd (SS v) cb (swC k)) fun ae S'=>∃ m k':Nat,ae=.ret (.int .i64 m)/\S'=supd (SS v) cb (swC k')/\k'<=k+3/\i<=m+1/\m<=i+1:=by
 have hn:=hD.bd;refine xe6 ?_;unfold xb9;(try simp only [rwp,zA,zB,zC,zD,zE,zF,zG,zH,zI,rwb,reduceIte])
 (simp (disch:=omega) only [q05])
 rw [show (i:Int)-1=((i-1:Nat):Int) by omega,show (i:Int)+1=((i+1:Nat):Int) by omega]
 refine q0k (y6n hD hg hc (i:=i-1) (j:=i) (l:=i+1) (by omega) (by omega) (by omega) hk) ?_
 rintro ae S1 ⟨m,k1,rfl,rfl,h1,h2⟩;dsimp only;exact q04 ⟨m,k1,rfl,rfl,by omega,by omega,by omega⟩
theorem yzt (hD:Dat D pt SS n) (hg:∀ x y,AFun PG g [.agg (obC x),.agg (obC y)] (.int .i64 (c x y))) {a b:Nat} (hab:a+12<b) (hb:b<=n) :
  ACalls PG ytf [D,.int .i64 a,.int .i64 b,fnG g] (SS v) fun ae S'=>∃ (p:Nat) (h:Int),ae=.ret (.tup [.int .i64 p,.int .i64 h])/\S'=SS v/\a<=p/\p<b:=by
 have hn:=hD.bd;refine xf1 ?_;unfold xc4;obtain ⟨l,rfl⟩:∃ l,b=a+l:=⟨b-a,by omega⟩
 (try simp only [rwp,zA,zB,zC,zD,zE,zF,zG,zH,zI,rwb,reduceIte]);(try (simp (disch:=omega) only [q05]));rw [show ((a+l:Nat):Int)-a=(l:Int) by omega]
 intro cb hcb;have fin:∀ (p k:Nat),a<=p->p<a+l->ya7 (fun ae S'=>∃ (p:Nat) (h:Int),ae=.ret (.tup [.int .i64 p,.int .i64 h])/\S'=SS v/\a<=p/\p<a+l) (.ptr cb 0) (.int .i64 p) (supd (SS v) cb (swC k)):=by
  intro p k h1 h2;have hcl:=q08 (q0f (S:=SS v) (b:=cb) (t:=3) (cs:=[.int .i64 k]) (tot:=1));(try simp only [rwp,zA,zB,zC,zD,zE,zF,zG,zH,zI,rwb,reduceIte,ya7,hcl]);have out:∀ h:Int,rtW [.tmp (.int .i64 p),.tmp (.int .i64 h)] (fun ae S'=>∃ (p:Nat) (h:Int),ae=.ret (.tup [.int .i64 p,.int .i64 h])/\S'=SS v/\a<=p/\p<a+l) (supd (SS v) cb (swC k)):=fun h=>q1d (SS v) (Sub.supd hcb (Sub.refl _)) ⟨p,h,rfl,rfl,h1,h2⟩
  cases a1:decide ((k:Int)=0)
  ·(try simp only [rwp,zA,zB,zC,zD,zE,zF,zG,zH,zI,rwb,reduceIte]);cases a2:decide ((k:Int)=12)
   ·(try simp only [rwp,zA,zB,zC,zD,zE,zF,zG,zH,zI,rwb,reduceIte]);exact out 0
   ·(try simp only [rwp,zA,zB,zC,zD,zE,zF,zG,zH,zI,rwb,reduceIte]);exact out 2
  ·(try simp only [rwp,zA,zB,zC,zD,zE,zF,zG,zH,zI,rwb,reduceIte]);exact out 1
 refine yxr (a:=l) (b:=4) rfl rfl (by omega) (by omega) ?_
 have hq:3<=l / 4/\4 * (l / 4)<=l:=by omega
 generalize hq4:l / 4=q at hq;(try simp only [rwp,zA,zB,zC,zD,zE,zF,zG,zH,zI,rwb,reduceIte]);(try (simp (disch:=omega) only [q05]));refine yxr (a:=l) (b:=4) rfl rfl (by omega) (by omega) ?_
 rw [hq4];(try simp only [rwp,zA,zB,zC,zD,zE,zF,zG,zH,zI,rwb,reduceIte]);(try (simp (disch:=omega) only [q05]));refine yxr (a:=l) (b:=4) rfl rfl (by omega) (by omega) ?_
 rw [hq4];(try simp only [rwp,zA,zB,zC,zD,zE,zF,zG,zH,zI,rwb,reduceIte]);(try (simp (disch:=omega) only [q05]));rw [show (a:Int)+(q:Int) * 1=((a+q:Nat):Int) by omega,show (a:Int)+(q:Int) * 2=((a+2 * q:Nat):Int) by omega,show (a:Int)+(q:Int) * 3=((a+3 * q:Nat):Int) by omega]
 (try simp only [rwp,zA,zB,zC,zD,zE,zF,zG,zH,zI,rwb,reduceIte,decide_eq_true (show (8:Int)<=l by omega)])
 cases a1:decide ((50:Int)<=l)
 ·(try simp only [rwp,zA,zB,zC,zD,zE,zF,zG,zH,zI,rwb,reduceIte]);refine q0k (y6n hD hg hcb (k:=0) (i:=a+q) (j:=a+2 * q) (l:=a+3 * q) (by omega) (by omega) (by omega) (by omega)) ?_
  rintro ae S1 ⟨m,k1,rfl,rfl,h1,h2⟩;dsimp only;exact fin m k1 (by omega) (by omega)
 ·have hl:=of_decide_eq_true a1;(try simp only [rwp,zA,zB,zC,zD,zE,zF,zG,zH,zI,rwb,reduceIte]);refine q0k (y2a hD hg hcb (k:=0) (i:=a+q) (by omega) (by omega) (by omega)) ?_
  rintro ae S1 ⟨m1,k1,rfl,rfl,h1,h2,h2'⟩;dsimp only;refine q0k (y2a hD hg hcb (i:=a+2 * q) (by omega) (by omega) (by omega)) ?_
  rintro ae S2 ⟨m2,k2,rfl,rfl,h3,h4,h4'⟩;dsimp only;refine q0k (y2a hD hg hcb (i:=a+3 * q) (by omega) (by omega) (by omega)) ?_
  rintro ae S3 ⟨m3,k3,rfl,rfl,h5,h6,h6'⟩;dsimp only;refine q0k (y6n hD hg hcb (i:=m1) (j:=m2) (l:=m3) (by omega) (by omega) (by omega) (by omega)) ?_
  rintro ae S4 ⟨m,k4,rfl,rfl,h7,h8⟩;dsimp only;exact fin m k4 (by omega) (by omega)
theorem x26 {x:Nat} (h:x<18446744073709551616):IntKind.u64.wrap (x:Int)=x:=by
 have e:IntKind.u64.wrap (x:Int)=(x:Int) % (18446744073709551616:Int):=rfl;rw [e];omega
theorem x0w (x:Int) {m:Nat} (hm:m<1000):∃ q:Nat,q<=m/\Go.bits .and .u64 x m=q:=by
 refine ⟨(BitVec.ofInt 64 x &&& BitVec.ofInt 64 (m:Int)).toNat,?_,?_⟩
 ·rw [BitVec.toNat_and];refine Nat.le_trans Nat.and_le_right ?_;rw [BitVec.toNat_ofInt];omega
 ·exact x26 (BitVec.isLt _)
theorem xi0 (a:Int):∃ a':Int,∀ K:AV->Prop,biW .shl (.int .u64 a) (.int .u64 13) K=K (.int .u64 a'):=⟨_,fun K=>rfl⟩
theorem xhz (a:Int):∃ a':Int,∀ K:AV->Prop,biW .shl (.int .u64 a) (.int .u64 17) K=K (.int .u64 a'):=⟨_,fun K=>rfl⟩
theorem xly (a:Int):∃ a':Int,∀ K:AV->Prop,biW .shr (.int .u64 a) (.int .u64 7) K=K (.int .u64 a'):=⟨_,fun K=>rfl⟩
abbrev rnC (r:Int):AObj:=.cells 272 [.int .u64 r] 1
theorem x97 {S:q00} (r:Int):ACalls PG yso [.ptr cb 0] (supd S cb (rnC r)) fun ae S'=>∃ r':Int,ae=.ret (.int .u64 r')/\S'=supd S cb (rnC r'):=by
 refine xe7 ?_;unfold xba;have ho:∀ x:Int,q0m (supd S cb (rnC x)) cb=some (272,[.int .u64 x],1):=fun x=>q0f
 have hcl:=fun x=>q08 (ho x)
 obtain ⟨r1,e1⟩:=xi0 r;(try simp only [rwp,zA,zB,zC,zD,zE,zF,zG,zH,zI,rwb,reduceIte,hcl,ho,e1,yc7,q0q]);obtain ⟨r2,e2⟩:=xly (Go.bits .xor .u64 r r1);generalize Go.bits .xor .u64 r r1=x1 at e2 ⊢;(try simp only [rwp,zA,zB,zC,zD,zE,zF,zG,zH,zI,rwb,reduceIte,hcl,ho,e2,yc7,q0q]);obtain ⟨r3,e3⟩:=xhz (Go.bits .xor .u64 x1 r2);generalize Go.bits .xor .u64 x1 r2=x2 at e3 ⊢;(try simp only [rwp,zA,zB,zC,zD,zE,zF,zG,zH,zI,rwb,reduceIte,hcl,ho,e3,yc7,q0q]);exact q04 (QF:=fun ae S'=>∃ r':Int,ae=.ret (.int .u64 r')/\S'=supd S cb (rnC r')) ⟨_,rfl,rfl⟩
theorem x92 {l:Nat} (hl:l<256):AFun PG ysp [.int .i64 l] (.int .u64 ((2 ^ yh2 l:Nat):Int)):=by
 intro S;refine xe8 ?_;unfold xbb;(try simp only [rwp,zA,zB,zC,zD,zE,zF,zG,zH,zI,rwb,reduceIte]);rw [x26 (by omega)]
 refine q06 (x02 hl) ?_;have h8:=(y5r ⟨l,hl⟩).2.2;dsimp only at h8;generalize yh2 l=q at h8;have e:∀ K:AV->Prop,biW .shl (.int .u64 1) (.int .i64 (q:Int)) K=q0s (if (q:Int)<0 then none else some (.int .u64 (IntKind.u64.wrap (1 * 2 ^ min (q:Int).toNat 64)))) K:=fun K=>rfl
 rw [e,if_neg (by omega)]
 have hq:min (q:Int).toNat 64=q:=by omega
 rw [hq,Int.one_mul,show (2:Int) ^ q=((2 ^ q:Nat):Int) by push_cast;rfl,x26 (Nat.lt_of_le_of_lt (Nat.pow_le_pow_right (by decide) h8) (by decide))]
 simp only [y34];exact q04 ⟨rfl,rfl⟩
theorem yzw (hD:Dat D pt SS n) {a b:Nat} (hab:a+12<b) (hb:b<=n) (hl:b<a+256) (F:AV) :
  ACalls PG ytg [D,.int .i64 a,.int .i64 b,F] (SS v) fun ae S'=>ae=.ret (.tup [])/\∃ w,S'=SS w/\Rng n a b v w:=by
 have hn:=hD.bd;refine xf2 ?_;unfold xc5;obtain ⟨l,rfl⟩:∃ l,b=a+l:=⟨b-a,by omega⟩
 (try simp only [rwp,zA,zB,zC,zD,zE,zF,zG,zH,zI,rwb,reduceIte]);(try (simp (disch:=omega) only [q05]));rw [show ((a+l:Nat):Int)-a=(l:Int) by omega]
 (try simp only [rwp,zA,zB,zC,zD,zE,zF,zG,zH,zI,rwb,reduceIte,decide_eq_true (show (8:Int)<=l by omega)])
 rw [x26 (by omega)]
 intro cb hcb;(try simp only [rwp,zA,zB,zC,zD,zE,zF,zG,zH,zI,rwb,reduceIte,q0f,q0q]);refine q06 (x92 (by omega)) ?_
 obtain ⟨p1,p2,p3⟩:=y5r ⟨l,by omega⟩
 dsimp only at p1 p2 p3;generalize hP:2 ^ yh2 l=P at p1 p2 ⊢;refine yxr (a:=l) (b:=4) rfl rfl (by omega) (by omega) ?_
 have hq:3<=l / 4/\4 * (l / 4)<=l:=by omega
 generalize hq4:l / 4=q at hq;(try simp only [rwp,zA,zB,zC,zD,zE,zF,zG,zH,zI,rwb,reduceIte]);(try (simp (disch:=omega) only [q05]));rw [show (a:Int)+(q:Int) * 2-1=((a+2 * q-1:Nat):Int) by omega]
 refine LoopP.introS (fun i:Nat=>[(0,D),(1,.int .i64 a),(8,.int .i64 l),(9,.ptr cb 0),(10,.int .u64 P),(11,.int .i64 i)]) (fun i S'=>a+2 * q-1<=i/\i<=a+2 * q+2/\∃ (w:Nat->Ob) (r:Int),S'=supd (SS w) cb (rnC r)/\Rng n a (a+l) v w) (fun i=>a+2 * q+2-i) (a+2 * q-1)
  ⟨by omega,by omega,v,_,rfl,Rng.refl _ _ _ _⟩ rfl ?_
 rintro i S1 ⟨hi1,hi2,w,r,rfl,hr⟩ kk hkk;have hcw:=hD.fn (w:=w) hcb;unfold yvq;refine yxr (a:=l) (b:=4) rfl rfl (by omega) (by omega) ?_
 rw [hq4];(try simp only [rwp,zA,zB,zC,zD,zE,zF,zG,zH,zI,rwb,reduceIte]);(try (simp (disch:=omega) only [q05]));cases a1:decide ((i:Int)<=(a:Int)+(q:Int) * 2+1)
 ·(try simp only [rwp,zA,zB,zC,zD,zE,zF,zG,zH,zI,rwb,reduceIte]);exact q1d (SS w) (Sub.supd hcw (Sub.refl _)) ⟨rfl,w,rfl,hr⟩
 ·have hle:=of_decide_eq_true a1;(try simp only [rwp,zA,zB,zC,zD,zE,zF,zG,zH,zI,rwb,reduceIte]);refine q0k (x97 (S:=SS w) r) ?_;rintro ae S2 ⟨r',rfl,rfl⟩;dsimp only;(try simp only [rwp,zA,zB,zC,zD,zE,zF,zG,zH,zI,rwb,reduceIte]);rw [show (P:Int)-1=((P-1:Nat):Int) by omega,x26 (by omega)]
  obtain ⟨o,ho1,ho2⟩:=x0w r' (m:=P-1) (by omega)
  (try simp only [rwp,zA,zB,zC,zD,zE,zF,zG,zH,zI,rwb,reduceIte,x0l,ho2])
  (simp (disch:=omega) only [q05])
  have fin:∀ x:Nat,x<l->yfn (fun ae S'=>ae=.ret (.tup [])/\∃ w,S'=SS w/\Rng n a (a+l) v w) kk D (.int .i64 a) (.int .i64 l) (.ptr cb 0) (.int .u64 P) (.int .i64 i) (.int .i64 x) (supd (SS w) cb (rnC r')):=by
   intro x hx;(try simp only [rwp,zA,zB,zC,zD,zE,zF,zG,zH,zI,rwb,reduceIte,yfn]);(try (simp (disch:=omega) only [q05]));refine hD.ia (i:=a+x) (by omega) (by omega) (hD.ia (i:=i) rfl (by omega) (hD.fr hcw (by omega) (hD.fr hcw (by omega) ?_)))
   refine hD.ia (i:=i) rfl (by omega) (hD.fs hcw (by omega) (hD.ia (i:=a+x) (by omega) (by omega) (hD.fs (hD.fn hcw) (by omega) ?_)))
   rw [y74];(try simp only [rwp,zA,zB,zC,zD,zE,zF,zG,zH,zI,rwb,reduceIte]);(try (simp (disch:=omega) only [q05]));rw [show (i:Int)+1=((i+1:Nat):Int) by omega]
   exact q09 rfl (hkk (i+1) _ ⟨by omega,by omega,_,r',rfl,hr.trans (Rng.sw (by omega) (by omega) (by omega) (by omega) hb)⟩ (by omega))
  cases a2:decide ((l:Int)<=o)
  ·(try simp only [rwp,zA,zB,zC,zD,zE,zF,zG,zH,zI,rwb,reduceIte]);exact fin o (by have:=of_decide_eq_false a2;omega)
  ·have hlo:=of_decide_eq_true a2;(try simp only [rwp,zA,zB,zC,zD,zE,zF,zG,zH,zI,rwb,reduceIte]);(try (simp (disch:=omega) only [q05]));rw [show (o:Int)-l=((o-l:Nat):Int) by omega]
   exact fin (o-l) (by omega)
end
set_option maxRecDepth 4000
section
variable {α:Type} {lt:α->α->Bool} {n a b m A B:Nat} {v w x:Nat->α}
def PreF (lt:α->α->Bool) (a b:Nat) (v:Nat->α):Prop:=0<a->∀ k,a<=k->k<b->Le lt (v (a-1)) (v k)
theorem PreF.rng (h:PreF lt a b v) (hb:b<=n) (hr:Rng n a b v w):PreF lt a b w:=fun h0 k h1 h2=>by
 obtain ⟨j,j1,j2,e⟩:=hr.mem hb h1 h2;rw [e,hr.out (a-1) (.inl (by omega))]
 exact h h0 j j1 j2
theorem Pdq.pre (hp:PreF lt A B v) (hb:B<=n) (hr:Rng n A B v w) (h:Pdq lt A B a b w):PreF lt a b w:=fun h0 k h1 h2=>by
 have e1:=h.pa;have e2:=h.pb;by_cases e:a=A
 ·subst e;exact hp.rng hb hr h0 k h1 (by omega)
 ·exact h.lm (a-1) k (by omega) (by omega) h1 (by omega)
theorem Cut.left (h:Cut lt a b m v) (hb:b<=n) (hr:Rng n a m v w):Cut lt a b m w:=by
 have h1:=h.cb;refine ⟨h.ca,h.cb,fun k k1 k2=>?_,fun k k1 k2=>?_⟩
 ·obtain ⟨j,j1,j2,e⟩:=hr.mem (by omega) k1 k2
  rw [e,hr.out m (.inr (Nat.le_refl _))];exact h.l j j1 j2
 ·rw [hr.out m (.inr (Nat.le_refl _)),hr.out k (.inr (by omega))]
  exact h.r k k1 k2
theorem Cut.right (h:Cut lt a b m v) (hb:b<=n) (hr:Rng n (m+1) b v w):Cut lt a b m w:=by
 refine ⟨h.ca,h.cb,fun k k1 k2=>?_,fun k k1 k2=>?_⟩
 ·rw [hr.out m (.inl (by omega)),hr.out k (.inl (by omega))]
  exact h.l k k1 k2
 ·obtain ⟨j,j1,j2,e⟩:=hr.mem hb (i:=k) (by omega) k2
  rw [e,hr.out m (.inl (by omega))]
  exact h.r j (by omega) j2
end
section
variable {D:AV} {pt:Nat->AV} {SS:(Nat->Ob)->q00} {n g:Nat} {c:Ob->Ob->Int}
theorem yly (hD:Dat D pt SS n) (hg:∀ x y,AFun PG g [.agg (obC x),.agg (obC y)] (.int .i64 (c x y))) (ho:y0m (ltC c)) {a b:Nat} (hab:a<b) (hb:b<=n) (v:Nat->Ob) (hp:PreF (ltC c) a b v) :
  ACalls PG ytd [D,.int .i64 a,.int .i64 b,fnG g] (SS v) fun ae S'=>∃ (r:Bool) (w:Nat->Ob),ae=.ret (.bool r)/\S'=SS w/\Rng n a b v w/\(r=true->Srt (ltC c) a b w):=by
 have hn:=hD.bd;refine xez ?_;unfold xc2;(try simp only [rwp,zA,zB,zC,zD,zE,zF,zG,zH,zI,rwb,reduceIte]);(try (simp (disch:=omega) only [q05]));generalize hQ:(fun ae S'=>∃ (r:Bool) (w:Nat->Ob),ae=AEnd.ret (.bool r)/\S'=SS w/\Rng n a b v w/\(r=true->Srt (ltC c) a b w))=QF
 refine LoopP.introS (fun x:Nat×Nat=>[(0,D),(1,.int .i64 a),(2,.int .i64 b),(3,fnG g),(9,.int .i64 x.1),(10,.int .i64 x.2)]) (fun x S'=>a+1<=x.1/\x.1<=b/\x.2<=5/\∃ w,S'=SS w/\Rng n a b v w/\Srt (ltC c) a x.1 w) (fun x=>5-x.2) (a+1,0)
  ⟨Nat.le_refl _,hab,by dsimp only;omega,v,rfl,Rng.refl _ _ _ _,Srt.one (Nat.le_refl _)⟩ (by dsimp only;rw [show ((a+1:Nat):Int)=(a:Int)+1 by omega];rfl) ?_
 rintro ⟨i0,j⟩ S1 ⟨hi0,hi0b,hj,w,rfl,hr,hs0⟩ kk hkk;dsimp only at hi0 hi0b hj hs0 ⊢;(try simp only [rwp,zA,zB,zC,zD,zE,zF,zG,zH,zI,rwb,reduceIte,yvo]);have no:∀ u:Nat->Ob,Rng n a b v u->rtW [.tmp (.bool false)] QF (SS u):=fun u hu=>by
  subst hQ;exact q04 ⟨false,u,rfl,rfl,hu,fun h=>by cases h⟩
 cases a1:decide ((j:Int)<5)
 ·(try simp only [rwp,zA,zB,zC,zD,zE,zF,zG,zH,zI,rwb,reduceIte]);exact no w hr
 ·have hj5:j<5:=by have:=of_decide_eq_true a1;omega
  (try simp only [rwp,zA,zB,zC,zD,zE,zF,zG,zH,zI,rwb,reduceIte]);refine LoopP.introS (fun i:Nat=>[(0,D),(1,.int .i64 a),(2,.int .i64 b),(3,fnG g),(9,.int .i64 i),(10,.int .i64 j)]) (fun i S'=>a+1<=i/\i<=b/\S'=SS w/\Srt (ltC c) a i w) (fun i=>b-i) i0 ⟨hi0,hi0b,rfl,hs0⟩ rfl ?_
  rintro i S2 ⟨hi,hib,rfl,hs⟩ kk2 hkk2
  -- on to the next round
  have again:∀ u:Nat->Ob,Rng n a b v u->Srt (ltC c) a i u->rcW kk [(0,D),(1,.int .i64 a),(2,.int .i64 b),(3,fnG g),(9,.int .i64 i),(10,.int .i64 ((j:Int)+1))] (SS u):=fun u hu hsu=>by
   rw [show (j:Int)+1=((j+1:Nat):Int) by omega]
   exact q09 rfl (hkk (i,j+1) _ ⟨hi,hib,by dsimp only;omega,u,rfl,hu,hsu⟩ (by dsimp only;omega))
  have right:∀ u:Nat->Ob,Rng n a b v u->Srt (ltC c) a i u->y4s QF kk D (.int .i64 a) (.int .i64 b) (fnG g) (.int .i64 i) (.int .i64 j) (SS u):=by
   intro u hu hsu;(try simp only [rwp,zA,zB,zC,zD,zE,zF,zG,zH,zI,rwb,reduceIte,y4s]);(try (simp (disch:=omega) only [q05]));cases a3:decide ((2:Int)<=(b:Int)-i)
   ·(try simp only [rwp,zA,zB,zC,zD,zE,zF,zG,zH,zI,rwb,reduceIte]);(try (simp (disch:=omega) only [q05]));exact again u hu hsu
   ·(try simp only [rwp,zA,zB,zC,zD,zE,zF,zG,zH,zI,rwb,reduceIte]);(try (simp (disch:=omega) only [q05]));rw [show (i:Int)+1=((i+1:Nat):Int) by omega]
    refine LoopP.introS (fun q:Nat=>[(0,D),(1,.int .i64 a),(2,.int .i64 b),(3,fnG g),(9,.int .i64 i),(10,.int .i64 j),(12,.int .i64 q)]) (fun q S'=>i+1<=q/\q<=b/\∃ x,S'=SS x/\Rng n a b v x/\Srt (ltC c) a i x) (fun q=>b-q) (i+1) ⟨Nat.le_refl _,by have:=of_decide_eq_true a3;omega,u,rfl,hu,hsu⟩ rfl ?_
    rintro q S3 ⟨hq1,hq2,x,rfl,hx,hsx⟩ kk3 hkk3;(try simp only [rwp,zA,zB,zC,zD,zE,zF,zG,zH,zI,rwb,reduceIte,yvl]);cases a4:decide ((q:Int)<b)
    ·(try simp only [rwp,zA,zB,zC,zD,zE,zF,zG,zH,zI,rwb,reduceIte]);(try (simp (disch:=omega) only [q05]));exact again x hx hsx
    ·have hqb:=of_decide_eq_true a4;(try simp only [rwp,zA,zB,zC,zD,zE,zF,zG,zH,zI,rwb,reduceIte]);refine hD.ia (i:=q) rfl (by omega) ?_
     (try simp only [rwp,zA,zB,zC,zD,zE,zF,zG,zH,zI,rwb,reduceIte]);(try (simp (disch:=omega) only [q05]));refine hD.ia (i:=q-1) (by omega) (by omega) (hD.ld (by omega) (hD.ld (by omega) (q06 (hg _ _) ?_)))
     (try simp only [rwp,zA,zB,zC,zD,zE,zF,zG,zH,zI,rwb,reduceIte]);cases a5:decide (c (x q) (x (q-1))<0)
     ·(try simp only [rwp,zA,zB,zC,zD,zE,zF,zG,zH,zI,rwb,reduceIte]);(try (simp (disch:=omega) only [q05]));exact again x hx hsx
     ·(try simp only [rwp,zA,zB,zC,zD,zE,zF,zG,zH,zI,rwb,reduceIte]);(try (simp (disch:=omega) only [q05]));refine hD.swap (i:=q-1) (j:=q) (by omega) rfl (by omega) rfl (by omega) (by omega) ?_
      (try simp only [rwp,zA,zB,zC,zD,zE,zF,zG,zH,zI,rwb,reduceIte]);(try (simp (disch:=omega) only [q05]));rw [show (q:Int)+1=((q+1:Nat):Int) by omega]
      exact q09 rfl (hkk3 (q+1) _ ⟨by omega,by omega,_,rfl,hx.trans (Rng.sw (by omega) (by omega) (by omega) (by omega) hb),hsx.same fun k k1 k2=>y0o (by omega) (by omega)⟩ (by omega))
  (try simp only [rwp,zA,zB,zC,zD,zE,zF,zG,zH,zI,rwb,reduceIte,yvn]);cases a2:decide ((i:Int)<b)
  ·have e:i=b:=by have:=of_decide_eq_false a2;omega
   subst e;(try simp only [rwp,zA,zB,zC,zD,zE,zF,zG,zH,zI,rwb,reduceIte,ya6,decide_true]);subst hQ;exact q04 ⟨true,w,rfl,rfl,hr,fun _=>hs⟩
  ·have hlt:=of_decide_eq_true a2;(try simp only [rwp,zA,zB,zC,zD,zE,zF,zG,zH,zI,rwb,reduceIte]);refine hD.ia (i:=i) rfl (by omega) ?_
   (try simp only [rwp,zA,zB,zC,zD,zE,zF,zG,zH,zI,rwb,reduceIte]);(try (simp (disch:=omega) only [q05]));refine hD.ia (i:=i-1) (by omega) (by omega) (hD.ld (by omega) (hD.ld (by omega) (q06 (hg _ _) ?_)))
   (try simp only [rwp,zA,zB,zC,zD,zE,zF,zG,zH,zI,rwb,reduceIte]);cases a3:decide (c (w i) (w (i-1))<0)
   ·(try simp only [rwp,zA,zB,zC,zD,zE,zF,zG,zH,zI,rwb,reduceIte,ya6]);(try (simp (disch:=omega) only [q05]));rw [show (i:Int)+1=((i+1:Nat):Int) by omega]
    exact q09 rfl (hkk2 (i+1) _ ⟨by omega,by omega,rfl,hs.snoc ho (by omega) a3⟩ (by omega))
   ·(try simp only [rwp,zA,zB,zC,zD,zE,zF,zG,zH,zI,rwb,reduceIte,ya6,decide_eq_false (show ¬ (i:Int)=b by omega)])
    (try (simp (disch:=omega) only [q05]));cases a4:decide ((b:Int)-a<50)
    ·(try simp only [rwp,zA,zB,zC,zD,zE,zF,zG,zH,zI,rwb,reduceIte]);(try (simp (disch:=omega) only [q05]));refine hD.swap (i:=i-1) (j:=i) (by omega) rfl (by omega) rfl (by omega) (by omega) ?_
     (try simp only [rwp,zA,zB,zC,zD,zE,zF,zG,zH,zI,rwb,reduceIte]);(try (simp (disch:=omega) only [q05]));have hr1:Rng n a b v (sw w i (i-1)):=hr.trans (Rng.sw (by omega) (by omega) (by omega) (by omega) hb)
     have hs1:Srt (ltC c) a (i-1) (sw w i (i-1)):=fun p q p1 p2 p3=>by
      rw [y0o (by omega) (by omega),y0o (by omega) (by omega)]
      exact hs p q p1 p2 (by omega)
     generalize sw w i (i-1)=w1 at hr1 hs1;cases a5:decide ((2:Int)<=(i:Int)-a)
     ·(try simp only [rwp,zA,zB,zC,zD,zE,zF,zG,zH,zI,rwb,reduceIte]);exact right w1 hr1 (Srt.one (by have:=of_decide_eq_false a5;omega))
     ·(try simp only [rwp,zA,zB,zC,zD,zE,zF,zG,zH,zI,rwb,reduceIte]);(try (simp (disch:=omega) only [q05]));rw [show (i:Int)-1=((i-1:Nat):Int) by omega]
      refine LoopP.introS (fun q:Nat=>[(0,D),(1,.int .i64 a),(2,.int .i64 b),(3,fnG g),(9,.int .i64 i),(10,.int .i64 j),(11,.int .i64 q)]) (fun q S'=>∃ x,S'=SS x/\Rng n a b v x/\InsI (ltC c) a (i-1) q x) (fun q=>q) (i-1) ⟨w1,rfl,hr1,InsI.start hs1 (by omega)⟩ rfl ?_
      rintro q S3 ⟨x,rfl,hx,hix⟩ kk3 hkk3;have h1:=hix.lo;have h2:=hix.hi;have stop:(q=a\/Le (ltC c) (x (q-1)) (x q))->y4s QF kk D (.int .i64 a) (.int .i64 b) (fnG g) (.int .i64 i) (.int .i64 j) (SS x):=fun hq=>by
       have:=hix.stop ho hq;rw [show i-1+1=i by omega] at this
       exact right x hx this
      (try simp only [rwp,zA,zB,zC,zD,zE,zF,zG,zH,zI,rwb,reduceIte,yvm]);cases a6:decide ((1:Int)<=q)
      ·(try simp only [rwp,zA,zB,zC,zD,zE,zF,zG,zH,zI,rwb,reduceIte]);exact stop (.inl (by have:=of_decide_eq_false a6;omega))
      ·have hq1:=of_decide_eq_true a6;(try simp only [rwp,zA,zB,zC,zD,zE,zF,zG,zH,zI,rwb,reduceIte]);refine hD.ia (i:=q) rfl (by omega) ?_
       (try simp only [rwp,zA,zB,zC,zD,zE,zF,zG,zH,zI,rwb,reduceIte]);(try (simp (disch:=omega) only [q05]));refine hD.ia (i:=q-1) (by omega) (by omega) (hD.ld (by omega) (hD.ld (by omega) (q06 (hg _ _) ?_)))
       (try simp only [rwp,zA,zB,zC,zD,zE,zF,zG,zH,zI,rwb,reduceIte]);cases a7:decide (c (x q) (x (q-1))<0)
       ·(try simp only [rwp,zA,zB,zC,zD,zE,zF,zG,zH,zI,rwb,reduceIte]);exact stop (.inr a7)
       ·have hqa:a<q:=by
         refine Classical.byContradiction fun hq=>?_
         have e:q=a:=by omega
         subst e;have:=(hp.rng hb hx) (by omega) q (Nat.le_refl _) hab
         unfold Le ltC at this;rw [a7] at this;cases this
        (try simp only [rwp,zA,zB,zC,zD,zE,zF,zG,zH,zI,rwb,reduceIte]);(try (simp (disch:=omega) only [q05]));refine hD.swap (i:=q-1) (j:=q) (by omega) rfl (by omega) rfl (by omega) (by omega) ?_
        (try simp only [rwp,zA,zB,zC,zD,zE,zF,zG,zH,zI,rwb,reduceIte]);(try (simp (disch:=omega) only [q05]));rw [show (q:Int)-1=((q-1:Nat):Int) by omega]
        exact q09 rfl (hkk3 (q-1) _ ⟨_,rfl,hx.trans (Rng.sw (by omega) (by omega) (by omega) (by omega) hb),hix.step ho hqa a7⟩ (by omega))
    ·(try simp only [rwp,zA,zB,zC,zD,zE,zF,zG,zH,zI,rwb,reduceIte]);exact no w hr
end
set_option maxRecDepth 4000
section
variable {D:AV} {pt:Nat->AV} {SS:(Nat->Ob)->q00} {n g:Nat} {c:Ob->Ob->Int}
structure PqA where
 a:Nat
 b:Nat
 lim:Nat
 wb:Bool
 wp:Bool
theorem xia (hD:Dat D pt SS n) (hg:∀ x y,AFun PG g [.agg (obC x),.agg (obC y)] (.int .i64 (c x y))) (ho:y0m (ltC c)):∀ (N a b lim:Nat) (v:Nat->Ob),b<=a+N->a<=b->b<=n->b<a+256->lim<=1000->PreF (ltC c) a b v ->
  ACalls PG yjw [D,.int .i64 a,.int .i64 b,.int .i64 lim,fnG g] (SS v) fun ae S'=>ae=.ret (.tup [])/\∃ w,S'=SS w/\Rng n a b v w/\Srt (ltC c) a b w:=by
 have hn:=hD.bd;intro N
 induction N using Nat.strongRecOn with
 | ind N ih=>
 intro A B lim v hN hAB hB hl hlm hp;refine x2n ?_;unfold x24;generalize hQ:(fun ae S'=>ae=AEnd.ret (.tup [])/\∃ w,S'=SS w/\Rng n A B v w/\Srt (ltC c) A B w)=QF
 have fin:∀ w:Nat->Ob,Rng n A B v w->Srt (ltC c) A B w->rtW [] QF (SS w):=fun w h1 h2=>by
  subst hQ;exact q1x ⟨rfl,w,rfl,h1,h2⟩
 refine LoopP.introS (fun x:PqA=>[(0,D),(1,.int .i64 x.a),(2,.int .i64 x.b),(3,.int .i64 x.lim),(4,fnG g),(10,.bool x.wb),(11,.bool x.wp)]) (fun x S'=>x.lim<=1000/\∃ w,S'=SS w/\Rng n A B v w/\Pdq (ltC c) A B x.a x.b w) (fun x=>x.b-x.a) ⟨A,B,lim,true,true⟩
  ⟨hlm,v,rfl,Rng.refl _ _ _ _,Pdq.start hAB⟩ rfl ?_
 rintro ⟨a,b,lim,wb,wp⟩ S1 ⟨hlm,w,rfl,hr,hq⟩ kk hkk;dsimp only at hq hlm ⊢;have q1:=hq.pa;have q2:=hq.ab;have q3:=hq.pb
 -- a part is put in order,the rest is
 have done:∀ (w x:Nat->Ob),Rng n A B v w->Pdq (ltC c) A B a b w->Rng n a b w x->Srt (ltC c) a b x->rtW [] QF (SS x):=fun w x h1 h2 h3 h4=>fin x (h1.trans (h3.mono q1 q3)) ((h2.rng hB h3).done ho h4)
 (try simp only [rwp,zA,zB,zC,zD,zE,zF,zG,zH,zI,rwb,reduceIte,yo1]);(try (simp (disch:=omega) only [q05]));cases a1:decide ((b:Int)-a<=12)
 ·have h12:a+12<b:=by have:=of_decide_eq_false a1;omega
  (try simp only [rwp,zA,zB,zC,zD,zE,zF,zG,zH,zI,rwb,reduceIte]);cases a2:decide ((lim:Int)=0)
  ·have hlim:lim≠0:=fun h=>(of_decide_eq_false a2) (by rw [h];rfl)
   -- from the choice of a pivot on
   have p7:∀ (w:Nat->Ob) (lim:Nat) (wb wp:Bool) (p:Nat) (b7:Bool),lim<=1000->Rng n A B v w->Pdq (ltC c) A B a b w->a<=p->p<b->(b7=true->0<a/\Le (ltC c) (w p) (w (a-1))) ->
     yag QF kk D (.int .i64 a) (.int .i64 b) (.int .i64 lim) (fnG g) (.bool wb) (.bool wp) (.int .i64 ((b:Int)-a)) (.int .i64 p) (.bool b7) (SS w):=by
    intro w lim wb wp p b7 hlm hr hq hp1 hp2 h7;cases b7
    ·(try simp only [rwp,zA,zB,zC,zD,zE,zF,zG,zH,zI,rwb,reduceIte,yag]);refine q0k (ybx hD hg ho hp1 hp2 (by omega) w) ?_
     rintro ae S2 ⟨x,m,al,rfl,rfl,hx,hc⟩;have hc1:=hc.ca;have hc2:=hc.cb;have hrx:=hr.trans (hx.mono q1 q3);have hqx:=hq.rng hB hx;have hpx:=Pdq.pre hp hB hrx hqx;dsimp only;(try simp only [rwp,zA,zB,zC,zD,zE,zF,zG,zH,zI,rwb,reduceIte]);(try (simp (disch:=omega) only [q05]));refine yxr (a:=b-a) (b:=8) (by omega) rfl (by omega) (by omega) ?_
     (try simp only [rwp,zA,zB,zC,zD,zE,zF,zG,zH,zI,rwb,reduceIte]);cases a3:decide ((m:Int)-a<(b:Int)-m)
     ·(try simp only [rwp,zA,zB,zC,zD,zE,zF,zG,zH,zI,rwb,reduceIte]);(try (simp (disch:=omega) only [q05]));rw [show (m:Int)+1=((m+1:Nat):Int) by omega]
      refine q0k (ih (b-(m+1)) (by omega) (m+1) b lim x (by omega) (by omega) (by omega) (by omega) hlm (fun _ k k1 k2=>hc.r k (by omega) k2)) ?_
      rintro ae S3 ⟨rfl,y,rfl,hy,hys⟩;dsimp only;exact q09 rfl (hkk ⟨a,m,lim,_,al⟩ _ ⟨hlm,y,rfl,hrx.trans (hy.mono (by omega) q3),(hqx.rng hB (hy.mono (by omega) (Nat.le_refl _))).right ho (hc.right (by omega) hy) hys⟩ (by dsimp only;omega))
     ·(try simp only [rwp,zA,zB,zC,zD,zE,zF,zG,zH,zI,rwb,reduceIte]);(try (simp (disch:=omega) only [q05]));refine q0k (ih (m-a) (by omega) a m lim x (by omega) (by omega) (by omega) (by omega) hlm (fun h0 k k1 k2=>hpx h0 k k1 (by omega))) ?_
      rintro ae S3 ⟨rfl,y,rfl,hy,hys⟩;dsimp only;(try simp only [rwp,zA,zB,zC,zD,zE,zF,zG,zH,zI,rwb,reduceIte]);(try (simp (disch:=omega) only [q05]));rw [show (m:Int)+1=((m+1:Nat):Int) by omega]
      exact q09 rfl (hkk ⟨m+1,b,lim,_,al⟩ _ ⟨hlm,y,rfl,hrx.trans (hy.mono q1 (by omega)),(hqx.rng hB (hy.mono (Nat.le_refl _) (by omega))).left ho (hc.left (by omega) hy) hys⟩ (by dsimp only;omega))
    ·obtain ⟨h0,hle⟩:=h7 rfl;(try simp only [rwp,zA,zB,zC,zD,zE,zF,zG,zH,zI,rwb,reduceIte,yag]);refine q0k (y93 hD hg ho hp1 hp2 (by omega) w) ?_
     rintro ae S2 ⟨x,m,rfl,rfl,hx,hxa,hm1,hm2,hxl⟩;dsimp only;have hpw:=Pdq.pre hp hB hr hq;refine q09 rfl (hkk ⟨m,b,lim,wb,wp⟩ _ ⟨hlm,x,rfl,hr.trans (hx.mono q1 q3),(hq.rng hB hx).same ho (by dsimp only;omega) hm2 (fun k k1 k2=>?_) hxl⟩ (by dsimp only;omega))
     obtain ⟨j,j1,j2,e⟩:=hx.mem (by omega) k1 k2
     rw [hxa,e];exact hle.trans ho (hpw h0 j j1 j2)
   have p6:∀ (w:Nat->Ob) (lim:Nat) (wb wp:Bool) (p:Nat),lim<=1000->Rng n A B v w->Pdq (ltC c) A B a b w->a<=p->p<b ->
     yg4 QF kk D (.int .i64 a) (.int .i64 b) (.int .i64 lim) (fnG g) (.bool wb) (.bool wp) (.int .i64 ((b:Int)-a)) (.int .i64 p) (SS w):=by
    intro w lim wb wp p hlm hr hq hp1 hp2;(try simp only [rwp,zA,zB,zC,zD,zE,zF,zG,zH,zI,rwb,reduceIte,yg4]);cases a3:decide ((0:Int)<a)
    ·(try simp only [rwp,zA,zB,zC,zD,zE,zF,zG,zH,zI,rwb,reduceIte]);exact p7 w lim wb wp p false hlm hr hq hp1 hp2 fun h=>by cases h
    ·have h0:=of_decide_eq_true a3;(try simp only [rwp,zA,zB,zC,zD,zE,zF,zG,zH,zI,rwb,reduceIte]);(try (simp (disch:=omega) only [q05]));refine hD.cmp hg (i:=a-1) (j:=p) (by omega) rfl (by omega) (by omega) ?_
     (try simp only [rwp,zA,zB,zC,zD,zE,zF,zG,zH,zI,rwb,reduceIte]);cases a4:decide (c (w (a-1)) (w p)<0)
     ·exact p7 w lim wb wp p true hlm hr hq hp1 hp2 fun _=>⟨by omega,a4⟩
     ·exact p7 w lim wb wp p false hlm hr hq hp1 hp2 fun h=>by cases h
   have p5:∀ (w:Nat->Ob) (lim:Nat) (wb wp:Bool) (p:Nat) (b5:Bool),lim<=1000->Rng n A B v w->Pdq (ltC c) A B a b w->a<=p->p<b ->
     yah QF kk D (.int .i64 a) (.int .i64 b) (.int .i64 lim) (fnG g) (.bool wb) (.bool wp) (.int .i64 ((b:Int)-a)) (.int .i64 p) (.bool b5) (SS w):=by
    intro w lim wb wp p b5 hlm hr hq hp1 hp2;cases b5
    ·(try simp only [rwp,zA,zB,zC,zD,zE,zF,zG,zH,zI,rwb,reduceIte,yah]);exact p6 w lim wb wp p hlm hr hq hp1 hp2
    ·(try simp only [rwp,zA,zB,zC,zD,zE,zF,zG,zH,zI,rwb,reduceIte,yah]);refine q0k (yly hD hg ho (by omega) (by omega) w (Pdq.pre hp hB hr hq)) ?_
     rintro ae S2 ⟨r,x,rfl,rfl,hx,hxs⟩;dsimp only;cases r
     ·(try simp only [rwp,zA,zB,zC,zD,zE,zF,zG,zH,zI,rwb,reduceIte]);exact p6 x lim wb wp p hlm (hr.trans (hx.mono q1 q3)) (hq.rng hB hx) hp1 hp2
     ·(try simp only [rwp,zA,zB,zC,zD,zE,zF,zG,zH,zI,rwb,reduceIte]);exact done w x hr hq hx (hxs rfl)
   have p3:∀ (w:Nat->Ob) (lim:Nat) (wb wp:Bool) (p:Nat) (h:Int),lim<=1000->Rng n A B v w->Pdq (ltC c) A B a b w->a<=p->p<b ->
     y4x QF kk D (.int .i64 a) (.int .i64 b) (.int .i64 lim) (fnG g) (.bool wb) (.bool wp) (.int .i64 ((b:Int)-a)) (.int .i64 p) (.int .i64 h) (SS w):=by
    intro w lim wb wp p h hlm hr hq hp1 hp2;cases wb
    ·(try simp only [rwp,zA,zB,zC,zD,zE,zF,zG,zH,zI,rwb,reduceIte,y4x,yai]);exact p5 w lim false wp p false hlm hr hq hp1 hp2
    ·cases wp
     ·(try simp only [rwp,zA,zB,zC,zD,zE,zF,zG,zH,zI,rwb,reduceIte,y4x,yai]);exact p5 w lim true false p false hlm hr hq hp1 hp2
     ·(try simp only [rwp,zA,zB,zC,zD,zE,zF,zG,zH,zI,rwb,reduceIte,y4x,yai]);exact p5 w lim true true p _ hlm hr hq hp1 hp2
   have p2:∀ (w:Nat->Ob) (lim:Nat) (wb wp:Bool),lim<=1000->Rng n A B v w->Pdq (ltC c) A B a b w ->
     yg5 QF kk D (.int .i64 a) (.int .i64 b) (.int .i64 lim) (fnG g) (.bool wb) (.bool wp) (.int .i64 ((b:Int)-a)) (SS w):=by
    intro w lim wb wp hlm hr hq;(try simp only [rwp,zA,zB,zC,zD,zE,zF,zG,zH,zI,rwb,reduceIte,yg5]);refine q0k (yzt hD hg h12 (by omega)) ?_
    rintro ae S2 ⟨p,h,rfl,rfl,hp1,hp2⟩;dsimp only;(try simp only [rwp,zA,zB,zC,zD,zE,zF,zG,zH,zI,rwb,reduceIte]);cases a3:decide (h=2)
    ·(try simp only [rwp,zA,zB,zC,zD,zE,zF,zG,zH,zI,rwb,reduceIte]);exact p3 w lim wb wp p h hlm hr hq hp1 hp2
    ·(try simp only [rwp,zA,zB,zC,zD,zE,zF,zG,zH,zI,rwb,reduceIte]);refine q0k (ylx hD (by omega) (by omega) (fnG g) w) ?_
     rintro ae S3 ⟨rfl,x,rfl,hx⟩;dsimp only;(try simp only [rwp,zA,zB,zC,zD,zE,zF,zG,zH,zI,rwb,reduceIte]);(try (simp (disch:=omega) only [q05]));rw [show (b:Int)-1-((p:Int)-a)=((b-1-(p-a):Nat):Int) by omega]
     exact p3 x lim wb wp _ 1 hlm (hr.trans (hx.mono q1 q3)) (hq.rng hB hx) (by omega) (by omega)
   (try simp only [rwp,zA,zB,zC,zD,zE,zF,zG,zH,zI,rwb,reduceIte]);cases wb
   ·(try simp only [rwp,zA,zB,zC,zD,zE,zF,zG,zH,zI,rwb,reduceIte]);refine q0k (yzw hD h12 (by omega) (by omega) (fnG g)) ?_
    rintro ae S2 ⟨rfl,x,rfl,hx⟩;dsimp only;(try simp only [rwp,zA,zB,zC,zD,zE,zF,zG,zH,zI,rwb,reduceIte]);(try (simp (disch:=omega) only [q05]));have e:(lim:Int)-1=((lim-1:Nat):Int):=by omega
    rw [e];exact p2 x (lim-1) false wp (by omega) (hr.trans (hx.mono q1 q3)) (hq.rng hB hx)
   ·(try simp only [rwp,zA,zB,zC,zD,zE,zF,zG,zH,zI,rwb,reduceIte]);exact p2 w lim true wp hlm hr hq
  ·(try simp only [rwp,zA,zB,zC,zD,zE,zF,zG,zH,zI,rwb,reduceIte]);refine q0k (x95 hD hg ho (by omega) (by omega) w) ?_
   rintro ae S2 ⟨rfl,x,rfl,hx,hxs⟩;dsimp only;exact done w x hr hq hx hxs
 ·(try simp only [rwp,zA,zB,zC,zD,zE,zF,zG,zH,zI,rwb,reduceIte]);refine q0k (x94 hD hg ho q2 (by omega) w) ?_
  rintro ae S2 ⟨rfl,x,rfl,hx,hxs⟩;dsimp only;exact done w x hr hq hx hxs
end
theorem yxd:yf7 255:=by
 intro D pt SS n g c hD hg ho hn v;refine xik ?_;unfold xig;refine hD.ln ?_;(try simp only [rwp,zA,zB,zC,zD,zE,zF,zG,zH,zI,rwb,reduceIte]);rw [x26 (by omega)]
 refine q06 (x02 (by omega)) ?_
 have h8:=(y5r ⟨n,by omega⟩).2.2
 dsimp only at h8;have q:=xia hD hg ho n 0 n (yh2 n) v (by omega) (by omega) (Nat.le_refl _) (by omega) (by omega) (fun h=>by omega)
 refine q0k q ?_;rintro ae S1 ⟨rfl,w,rfl,h1,h2⟩;dsimp only;exact q1x ⟨rfl,w,rfl,h1,h2⟩
set_option maxRecDepth 4000
theorem q3p (x:Ob):(obC x).length=2:=rfl
theorem yea {n i:Nat} (hi:i<n) (v:Nat->Ob):∃ rest,(fl obC n v).drop (i * 2)=.str (v i).ty :: .str (v i).id :: rest:=y1q q3p hi
theorem ym6 {S0 S:q00} {a:AV} {n:Nat} {u:Nat->Ob} (hs:Sub S0 S) (h:OwnL S0 S y0c 2 obC a n u) (hb:n<=100000) :
  ACalls PG ypi [a] S fun ae S'=>∃ a',ae=.ret a'/\Sub S0 S'/\LstW S0 S' y0c 2 a' ((dd u n).map obC):=by
 refine xl2 ?_;unfold xjk;have hl:=h.lstW q3p;rw [hl.ln,lA,q1p];have dd1:∀ k,k<=n->(∀ i,0<i->i<k->u i≠u (i-1))->dd u k=vl k u:=by
  intro k
  induction k with
  | zero=>intro _ _;rfl
  | succ k ih=>
   intro hk hne;rw [q7r,<- ih (by omega) fun i h1 h2=>hne i h1 (by omega)]
   unfold dd;rw [if_neg fun h=>hne k h.1 (by omega) h.2]
   cases k<;>rfl
 (try simp only [rwp,zA,zB,zC,zD,zE,zF,zG,zH,zI,rwb,reduceIte]);cases a1:decide ((n:Int)<2)
 ·have hn2:2<=n:=by have:=of_decide_eq_false a1;omega
  rcases h with ⟨rfl,e⟩ | ⟨b,cap,rfl,h1,h2,h3,h4⟩
  ·omega
  ·(try simp only [rwp,zA,zB,zC,zD,zE,zF,zG,zH,zI,rwb,reduceIte]);refine LoopP.introS (fun k:Nat=>[(0,.own b 0 n cap),(3,.int .i64 k)]) (fun k S'=>S'=S/\1<=k/\k<=n/\∀ i,0<i->i<k->u i≠u (i-1)) (fun k=>n-k) 1 ⟨rfl,by omega,by omega,fun i h1 h2=>by omega⟩ rfl ?_
   rintro k S' ⟨rfl,hk1,hkn,hne⟩ kk hkk;(try simp only [rwp,zA,zB,zC,zD,zE,zF,zG,zH,zI,rwb,reduceIte,xa9])
   (refine q02 (fun hlt=>?_) (fun hlt=>?_)<;>(try simp only [hlc] at hlt))
   ·(simp (disch:=omega) only [q05])
    have ek:((k:Int)-1).toNat=k-1:=by omega
    (try simp only [rwp,zA,zB,zC,zD,zE,zF,zG,zH,zI,rwb,reduceIte,Int.toNat_natCast,ek,Nat.zero_add]);refine ⟨hlt,by omega,by omega,?_⟩
    have hc:=q08 (objAt_some.2 h2);obtain ⟨rest1,d1⟩:=yea (show k<n by omega) u
    obtain ⟨rest2,d2⟩:=yea (show k-1<n by omega) u
    (try simp only [rwp,zA,zB,zC,zD,zE,zF,zG,zH,zI,rwb,reduceIte,hc,d1,d2]);have hdec:=q5k (a:=u k) (b:=u (k-1));cases g1:(decide ((u k).ty=(u (k-1)).ty)&&decide ((u k).id=(u (k-1)).id))
    ·rw [g1] at hdec;(try simp only [rwp,zA,zB,zC,zD,zE,zF,zG,zH,zI,rwb,reduceIte]);refine q09 rfl (hkk (k+1) _ ⟨rfl,by omega,by omega,fun i q1 q2=>?_⟩ (by omega))
     by_cases e:i=k
     ·subst e;exact of_decide_eq_false hdec
     ·exact hne i q1 (by omega)
    ·rw [g1] at hdec;have heq:=of_decide_eq_true hdec;have hckn:¬ cap=k:=by omega
     (try simp only [rwp,zA,zB,zC,zD,zE,zF,zG,zH,zI,rwb,reduceIte,hckn]);refine ⟨by omega,by omega,?_⟩
     refine LoopP.introS (fun x:Nat×Nat=>[(0,.own b 0 n cap),(3,.int .i64 x.1),(4,.own b (k * 2) (n-k) (cap-k)),(5,.int .i64 x.2)])
      (fun x S2=>x.1<k+x.2/\1<=x.2/\k+x.2<=n/\∃ w,S2=supd S' b (.cells y0c (fl obC n w) (cap * 2))/\vl x.1 w=dd u (k+x.2)/\∀ p,k+x.2<=p+1->w p=u p) (fun x=>n-x.2) (k,1)
      ⟨by dsimp only;omega,by dsimp only;omega,by dsimp only;omega,u,?_,?_,fun _ _=>rfl⟩ rfl ?_
     ·funext c
      unfold supd;split
      ·rename_i e;subst e;exact h2
      ·rfl
     ·dsimp only;rw [<- dd1 k hkn hne]
      conv=>rhs;unfold dd
      rw [if_pos ⟨by omega,heq⟩]
     ·rintro ⟨m,k2⟩ S2 ⟨hmk,hk2,hkk2n,w,rfl,hw,hr⟩ kk2 hkk2;dsimp only at hmk hk2 hkk2n hw hr ⊢;have ho:q0m (supd S' b (.cells y0c (fl obC n w) (cap * 2))) b=some (y0c,fl obC n w,cap * 2):=q0f;have hc2:=q08 ho;(try simp only [rwp,zA,zB,zC,zD,zE,zF,zG,zH,zI,rwb,reduceIte,xa8])
      (refine q02 (fun hlt2=>?_) (fun hlt2=>?_)<;>(try simp only [hlc] at hlt2))
      ·have hj:k+k2<n:=by omega
       obtain ⟨rest3,d3⟩:=yea hj w;obtain ⟨rest4,d4⟩:=yea (show k+k2-1<n by omega) w
       rw [hr _ (by omega)] at d3
       rw [hr _ (by omega)] at d4
       (simp (disch:=omega) only [q05])
       have e2:((k2:Int)-1).toNat=k2-1:=by omega
       (try simp only [rwp,zA,zB,zC,zD,zE,zF,zG,zH,zI,rwb,reduceIte,Int.toNat_natCast,e2,show k * 2+k2 * 2=(k+k2) * 2 by omega,show k * 2+(k2-1) * 2=(k+k2-1) * 2 by omega])
       refine ⟨by omega,by omega,by omega,?_⟩
       (try simp only [rwp,zA,zB,zC,zD,zE,zF,zG,zH,zI,rwb,reduceIte,hc2,d3,d4]);have hdec2:=q5k (a:=u (k+k2)) (b:=u (k+k2-1));cases g2:(decide ((u (k+k2)).ty=(u (k+k2-1)).ty)&&decide ((u (k+k2)).id=(u (k+k2-1)).id))
       ·rw [g2] at hdec2;have hne2:=of_decide_eq_false hdec2;have ff:=y5z (v:=w) (x:=u (k+k2)) q3p (show m<n by omega)
        rw [show obC (u (k+k2))=[.str (u (k+k2)).ty,.str (u (k+k2)).id] from rfl] at ff
        have fits:m * 2+2<=(fl obC n w).length:=by rw [q24 q3p];omega
        (try simp only [rwp,zA,zB,zC,zD,zE,zF,zG,zH,zI,rwb,reduceIte,ho,Int.toNat_natCast,Nat.zero_add,show k * 2+k2 * 2=(k+k2) * 2 by omega,hc2,d3])
        refine ⟨by omega,by omega,?_⟩
        (try simp only [rwp,zA,zB,zC,zD,zE,zF,zG,zH,zI,rwb,reduceIte,ho,hc2,d3,ff,fits,q0q]);(try (simp (disch:=omega) only [q05]));refine q09 rfl (hkk2 (m+1,k2+1) _ ⟨by dsimp only;omega,by dsimp only;omega,by dsimp only;omega,upv w m (u (k+k2)),congrArg (fun z=>supd S' b (.cells y0c z (cap * 2))) ff,?_,fun p hp=>?_⟩ (by dsimp only;omega))
        ·dsimp only;have e1:vl m (upv w m (u (k+k2)))=vl m w:=by unfold vl;exact List.map_congr_left fun q hq=>if_neg (by simp at hq;omega)
         rw [q7r,e1,hw,show upv w m (u (k+k2)) m=u (k+k2) from if_pos rfl,<- Nat.add_assoc]
         conv=>rhs;unfold dd
         rw [if_neg fun h=>hne2 h.2]
        ·dsimp only at hp ⊢;rw [show upv w m (u (k+k2)) p=w p from if_neg (by omega)]
         exact hr p (by omega)
       ·rw [g2] at hdec2;have heq2:=of_decide_eq_true hdec2;(try simp only [rwp,zA,zB,zC,zD,zE,zF,zG,zH,zI,rwb,reduceIte]);(try (simp (disch:=omega) only [q05]));refine q09 rfl (hkk2 (m,k2+1) _ ⟨by dsimp only;omega,by dsimp only;omega,by dsimp only;omega,w,rfl,?_,fun p hp=>hr p (by dsimp only at hp;omega)⟩ (by dsimp only;omega))
        dsimp only;rw [hw,<- Nat.add_assoc]
        conv=>rhs;unfold dd
        rw [if_pos ⟨by omega,heq2⟩]
      ·have e:k+k2=n:=by omega
       (try simp only [rwp,zA,zB,zC,zD,zE,zF,zG,zH,zI,rwb,reduceIte,loI,hiI,yen,Int.toNat_natCast,Nat.zero_add]);refine ⟨by omega,by omega,⟨y0c,fl obC n w,cap * 2,by rw [q01,if_pos rfl],?_,rfl,rfl,?_⟩⟩
       ·rw [q24 q3p];split
        ·omega
        ·omega
       ·refine ⟨Int.le_refl 0,by omega,?_⟩
        rw [show AV.own b (if cap=0 then 0 else 0) (m-0) (cap-0)=.own b 0 m cap by simp,q0q,<- e,<- hw,e]
        refine q04 ⟨_,rfl,Sub.supd h1 hs,y5y q3p,.inr ⟨b,cap,_,by rw [lA,q1p],h1,by rw [q01,if_pos rfl],?_,?_,by rw [lA,q1p];omega,h4⟩⟩
        ·rw [lA,q1p,if_neg (by omega),q5t _ _ _ (by rw [q5j,q24 q3p];simp only [lD,lJ];omega),lc (by rw [lR,q24 q3p];omega),List.take_take,Nat.min_self]
         exact y5x q3p (by omega)
        ·rw [lA,q1p,if_neg (by omega),q5t _ _ _ (by rw [q5j,q24 q3p];simp only [lD,lJ];omega)]
         simp only [lH,lR,q24 q3p];omega
   ·(try simp only [rwp,zA,zB,zC,zD,zE,zF,zG,zH,zI,rwb,reduceIte]);have e:k=n:=by omega
    subst e;refine q04 ⟨_,rfl,hs,?_⟩;rw [dd1 k (Nat.le_refl _) hne];exact hl
 ·(try simp only [rwp,zA,zB,zC,zD,zE,zF,zG,zH,zI,rwb,reduceIte]);refine q04 ⟨a,rfl,hs,?_⟩;have hn2:=of_decide_eq_true a1;rw [dd1 n (Nat.le_refl _) fun i h1 h2=>by omega]
  exact hl
section
variable {E:q1o} {K K':Nd->Bool} {N:Nat}
theorem Low.weak {s:List Ty} {out:Bool} {c:Nd} (h:Low s N out c):Low s N false c:=by
 rcases h with h | h
 ·exact .inl h
 ·exact .inr (by simp;omega)
theorem y8o (hE:yib E) (h:∀ c,Low E.s N false c->K c=K' c) (o:Ob) :
  ∀ (m:Nat) (e:Ex) (out:Bool),y0i m e=true->(∀ p∈q0g e out,∀ l∈q3r E.s o.ty p.1 p.2,y02 (y05 E.s) l.1+l.2.toNat<=N)->exB E K o m e=exB E K' o m e
 | 0,e,out,hm,hl=>by cases hm
 | m+1,.mk k n ov ks,out,hm,hl=>by
  have ih:=y8o hE h o m;unfold y0i at hm;unfold exB;unfold q0g at hl;by_cases k0:k=0
  ·simp only [if_pos k0] at hm ⊢;rw [Bool.and_eq_true] at hm;rw [if_pos hm.2] at hl;refine h _ (Low.weak (out:=out) ?_);unfold Low lvN;cases hq:q0h E.s o.ty n with
   | none=>exact .inl rfl
   | some p=>
    obtain ⟨i,j,r⟩:=p;refine .inr (hl (.mk k n ov ks,out) (by simp) ((i,j),out) ?_)
    unfold q3r Ex.name;simp only [hq];exact List.mem_cons_self
  ·simp only [if_neg k0] at hm ⊢;by_cases k1:k=1
   ·simp only [if_pos k1] at hm ⊢;rw [Bool.and_eq_true,Bool.and_eq_true] at hm;rw [if_pos hm.2.2] at hl;have low:∀ x∈E.of ⟨o,n⟩,x.rl=⟨#[]⟩->K ⟨x.o,ov⟩=K' ⟨x.o,ov⟩:=by
     intro x hx hx0;obtain ⟨i,j,r,h1,f,h2,h3,h4⟩:=hE.ok _ x hx;refine h _ (Low.weak (out:=out) ?_);unfold Low lvN;cases hq:q0h E.s x.o.ty ov with
     | none=>exact .inl rfl
     | some p=>
      obtain ⟨i2,j2,r2⟩:=p;refine .inr ?_;simp only;refine hl (.mk k n ov ks,out) (by simp) ((i2,j2),out) ?_
      unfold q3r Ex.name Ex.kind Ex.over;simp only [show q0h E.s o.ty n=some (i,j,r) from h1,if_pos k1]
      refine lM _ (List.mem_map.2 ⟨(i2,j2),?_,rfl⟩);unfold q26;refine List.mem_filterMap.2 ⟨f,h2,?_⟩;rw [if_pos (h4.symm.trans hx0),<- h3,hq];rfl
    rw [Bool.eq_iff_iff];simp only [lV,Bool.and_eq_true,decide_eq_true_eq];constructor
    ·rintro ⟨x,hx,h0,h1⟩;exact ⟨x,hx,h0,by rw [<- low x hx h0];exact h1⟩
    ·rintro ⟨x,hx,h0,h1⟩;exact ⟨x,hx,h0,by rw [low x hx h0];exact h1⟩
   ·simp only [if_neg k1] at hm ⊢;have k234:k=2\/k=3\/k=4:=by
     refine Classical.byContradiction fun hn=>?_
     rw [if_neg hn] at hm;cases hm
    rw [if_pos k234] at hm;obtain ⟨x1,x2,rfl⟩:∃ a b,ks=[a,b]:=by
     match ks,hm with
     | [a,b],_=>exact ⟨a,b,rfl⟩
     | [],hm=>cases hm
     | [_],hm=>cases hm
     | _ :: _ :: _ :: _,hm=>cases hm
    simp only [two,Bool.and_eq_true] at hm;have hl':∀ p∈q0g x1 out++q0g x2 (out||decide (k=4)),∀ l∈q3r E.s o.ty p.1 p.2,y02 (y05 E.s) l.1+l.2.toNat<=N:=by
     intro p hp;refine hl p ?_;rw [if_neg (by simp)]
     simp only [q10,lU];simpa using hp
    dsimp only;rw [ih x1 out hm.1 fun p hp=>hl' p (lY _ hp),ih x2 _ hm.2 fun p hp=>hl' p (List.mem_append_right _ hp)]
theorem yhx (hE:yib E) (hc:y0a (y08 E.s)=0) {n:Nd} {i k:Nat} {r:Rl} (hf:q0h E.s n.o.ty n.rl=some (i,k,r)) (h:∀ c,Low E.s (lvN E.s n) false c->K c=K' c):q1n E K n r=q1n E K' n r:=by
 obtain ⟨ht0,ty,hty,-,hkr⟩:=q11 hf;have hnm:ty.name=n.o.ty:=by
  obtain ⟨⟨x,hx,hp⟩,-⟩:=firstI_some.1 ht0;rw [hty] at hx;cases hx;exact of_decide_eq_true hp
 have hst:=(q5o hc hty hkr).2;have hlv:lvN E.s n=y02 (y05 E.s) (i,k):=by unfold lvN;rw [hf]
 rw [<- hlv,hnm] at hst;unfold q1n;unfold q1c at hst;by_cases h0:r.refs.length=0
 ·simp only [if_pos h0] at hst ⊢;have hm:y0i 12 r.ex=true:=yco (q28 hc).may ty (lB hty) r (lB hkr) h0;exact y8o hE h n.o 12 r.ex false hm fun p hp l hl=>hst l (List.mem_flatMap.2 ⟨p,hp,hl⟩)
 ·simp only [if_neg h0] at hst ⊢;have low:∀ x∈E.of n,x.rl≠⟨#[]⟩->K x=K' x:=by
   intro x hx hx0;obtain ⟨i1,k1,r1,h1,f,h2,h3,h4⟩:=hE.ok _ x hx;rw [hf] at h1;cases h1;refine h _ ?_;unfold Low;cases hq:q0h E.s x.o.ty x.rl with
   | none=>exact .inl rfl
   | some p=>
    obtain ⟨i2,j2,r2⟩:=p;refine .inr ?_;have:=hst ((i2,j2),false) (List.mem_filterMap.2 ⟨f,h2,by unfold q1s;rw [if_neg (by rw [<- h4];exact hx0),<- h3,<- h4,hq];rfl⟩)
    unfold lvN at this ⊢;rw [hq];exact this
  rw [Bool.eq_iff_iff];simp only [lV];constructor
  ·rintro ⟨x,hx,hb⟩;refine ⟨x,hx,?_⟩;by_cases h0:x.rl=⟨#[]⟩
   ·rw [if_pos h0] at hb ⊢;exact hb
   ·rw [if_neg h0] at hb ⊢;rw [<- low x hx h0];exact hb
  ·rintro ⟨x,hx,hb⟩;refine ⟨x,hx,?_⟩;by_cases h0:x.rl=⟨#[]⟩
   ·rw [if_pos h0] at hb ⊢;exact hb
   ·rw [if_neg h0] at hb ⊢;rw [low x hx h0];exact hb
theorem y8n {T:List Ob} (hT:∀ n x,x∈E.of n->n.o∈T) (hK:∀ c,K c=true->c.o∈T) (o:Ob):∀ (m:Nat) (e:Ex),exB E K o m e=true->o∈T
 | 0,e,h=>by cases h
 | m+1,.mk k n ov ks,h=>by
  have ih:=y8n hT hK o m;unfold exB at h;split at h
  ·exact hK _ h
  ·split at h
   ·obtain ⟨x,hx,-⟩:=List.any_eq_true.1 h;exact hT _ x hx
   ·split at h
    ·split at h
     ·rw [Bool.or_eq_true] at h;exact h.elim (ih _) (ih _)
     ·split at h<;>(rw [Bool.and_eq_true] at h;exact ih _ h.1)
    ·cases h
theorem y4e {T:List Ob} (hT:∀ n x,x∈E.of n->n.o∈T) (hK:∀ c,K c=true->c.o∈T) {n:Nd} {r:Rl} (h:q1n E K n r=true):n.o∈T:=by
 unfold q1n at h;split at h
 ·exact y8n hT hK _ _ _ h
 ·obtain ⟨x,hx,-⟩:=List.any_eq_true.1 h;exact hT _ x hx
end
def q1y (s:List Ty) (T:List Ob):List Nd:=T.flatMap fun o=>s.flatMap fun t=>t.rels.map fun r=>⟨o,r.name⟩
theorem y1d {s:List Ty} {T:List Ob} {n:Nd} {i k:Nat} {r:Rl} (hf:q0h s n.o.ty n.rl=some (i,k,r)) (hT:n.o∈T):n∈q1y s T:=by
 obtain ⟨-,ty,hty,hrl,hkr⟩:=q11 hf;obtain ⟨⟨x,hx,hp⟩,-⟩:=firstI_some.1 hrl;rw [hkr] at hx;cases hx;refine List.mem_flatMap.2 ⟨n.o,hT,List.mem_flatMap.2 ⟨ty,lB hty,List.mem_map.2 ⟨r,lB hkr,?_⟩⟩⟩;have:=of_decide_eq_true hp;cases n;simp only [Nd.mk.injEq,true_and];exact this
structure Upto (E:q1o) (C:List Nd) (v:Nat) (L:List Nd):Prop where
 nd:L.Nodup
 sub:∀ n∈L,n∈C
 step:∀ (i:Nat) (n:Nd),L[i]?=some n->∃ j k r,q0h E.s n.o.ty n.rl=some (j,k,r)/\q1n E (fun c=>decide (c∈L.take i)) n r=true
 srt:∀ (i j:Nat) (n m:Nd),L[i]?=some n->L[j]?=some m->i<j->lvN E.s n<=lvN E.s m
 top:∀ n∈L,lvN E.s n<=v
 closed:∀ n j k r,q0h E.s n.o.ty n.rl=some (j,k,r)->lvN E.s n<v->q1n E (fun c=>decide (c∈L)) n r=true->n∈L
theorem y84 {α:Type} [DecidableEq α]:∀ {L C:List α},L.Nodup->(∀ x∈L,x∈C)->L.length<=C.length
 | [],C,_,_=>Nat.zero_le _
 | x :: r,C,h,hs=>by
  rw [List.nodup_cons] at h;have hx:=hs x (by simp)
  have:=y84 (L:=r) (C:=C.erase x) h.2 fun y hy=>(List.mem_erase_of_ne (by rintro rfl;exact h.1 hy)).2 (hs y (lM _ hy))
  rw [List.length_erase_of_mem hx] at this;have hpos:=List.length_pos_of_mem hx;simp only [lD];omega
section
variable {E:q1o} {C L:List Nd} {v:Nat}
theorem Upto.snoc (hE:yib E) (hc:y0a (y08 E.s)=0) (h:Upto E C v L) {n:Nd} {j k:Nat} {r:Rl} (hf:q0h E.s n.o.ty n.rl=some (j,k,r)) (hv:lvN E.s n=v) (hn:n ∉ L) (hC:n∈C) (hb:q1n E (fun c=>decide (c∈L)) n r=true) :
  Upto E C v (L++[n]):=by
 have get:∀ i m,(L++[n])[i]?=some m->(i<L.length/\L[i]?=some m)\/(i=L.length/\m=n):=by
  intro i m hi;rw [List.getElem?_append] at hi;split at hi
  ·rename_i h1;exact .inl ⟨h1,hi⟩
  ·rename_i h1
   rw [List.getElem?_singleton] at hi;split at hi
   ·cases hi;exact .inr ⟨by omega,rfl⟩
   ·cases hi
 refine ⟨?_,fun m hm=>?_,fun i m hi=>?_,fun i i2 m m2 hi hi2 hlt=>?_,fun m hm=>?_,fun m j2 k2 r2 hf2 hlt hb2=>?_⟩
 ·rw [List.nodup_append];exact ⟨h.nd,by simp,fun a ha b hb=>by rw [List.mem_singleton.1 hb];rintro rfl;exact hn ha⟩
 ·rcases List.mem_append.1 hm with hm | hm
  ·exact h.sub m hm
  ·rw [List.mem_singleton.1 hm];exact hC
 ·rcases get i m hi with ⟨h1,h2⟩ | ⟨h1,rfl⟩
  ·rw [lc (Nat.le_of_lt h1)];exact h.step i m h2
  ·rw [h1,lc (Nat.le_refl _),List.take_length];exact ⟨j,k,r,hf,hb⟩
 ·rcases get i m hi with ⟨h1,h2⟩ | ⟨h1,rfl⟩
  ·rcases get i2 m2 hi2 with ⟨h3,h4⟩ | ⟨h3,rfl⟩
   ·exact h.srt i i2 m m2 h2 h4 hlt
   ·rw [hv];exact h.top m (lB h2)
  ·rcases get i2 m2 hi2 with ⟨h3,h4⟩ | ⟨h3,rfl⟩
   ·omega
   ·exact Nat.le_refl _
 ·rcases List.mem_append.1 hm with hm | hm
  ·exact h.top m hm
  ·rw [List.mem_singleton.1 hm,hv];exact Nat.le_refl _
 ·refine lY _ (h.closed m j2 k2 r2 hf2 hlt ?_);rw [<- hb2];refine yhx hE hc hf2 fun c hl=>?_
  rw [Bool.eq_iff_iff,decide_eq_true_eq,decide_eq_true_eq,List.mem_append,lO];refine ⟨.inl,fun hq=>hq.elim id fun e=>?_⟩
  subst e;rcases hl with hl | hl
  ·rw [hf] at hl;cases hl
  ·have:lvN E.s c<=lvN E.s m:=by simpa using hl
   omega
theorem Upto.close (hE:yib E) (hc:y0a (y08 E.s)=0):∀ (d:Nat) (L:List Nd),Upto E C v L->C.length<=L.length+d->∃ L',Upto E C v L'/\∀ n j k r,q0h E.s n.o.ty n.rl=some (j,k,r)->lvN E.s n=v->n∈C->q1n E (fun c=>decide (c∈L')) n r=true->n∈L':=by
 intro d
 induction d with
 | zero=>
  intro L h hd;refine ⟨L,h,fun n j k r hf hv hC hb=>Classical.byContradiction fun hn=>?_⟩
  have q:=h.snoc hE hc hf hv hn hC hb;have:=y84 q.nd q.sub;rw [lH,lP] at this;omega
 | succ d ih=>
  intro L h hd;by_cases hq:∃ n j k r,q0h E.s n.o.ty n.rl=some (j,k,r)/\lvN E.s n=v/\n∈C/\q1n E (fun c=>decide (c∈L)) n r=true/\n ∉ L
  ·obtain ⟨n,j,k,r,hf,hv,hC,hb,hn⟩:=hq;exact ih _ (h.snoc hE hc hf hv hn hC hb) (by rw [lH,lP];omega)
  ·exact ⟨L,h,fun n j k r hf hv hC hb=>Classical.byContradiction fun hn=>hq ⟨n,j,k,r,hf,hv,hC,hb,hn⟩⟩
theorem Upto.mod (h:Upto E C v L) (hv:∀ n j k r,q0h E.s n.o.ty n.rl=some (j,k,r)->lvN E.s n<v):Mod E L:=by
 refine ⟨h.step,fun n m hn hm hlt=>?_,fun n j k r hf hb=>h.closed n j k r hf (hv n j k r hf) hb⟩
 have gi:∀ n,n∈L->L[L.idxOf n]?=some n:=fun n hn=>by
  have hlt:=List.idxOf_lt_length_iff.2 hn;rw [lE hlt,List.getElem_idxOf hlt]
 have g1:=gi n hn;have g2:=gi m hm;rcases Nat.lt_trichotomy (L.idxOf n) (L.idxOf m) with h1 | h1 | h1
 ·exact h1
 ·rw [h1,g2] at g1;cases g1;omega
 ·have:=h.srt _ _ m n g2 g1 h1;omega
theorem yuk (hc:y0a (y08 E.s)=0) {n:Nd} {j k:Nat} {r:Rl} (hf:q0h E.s n.o.ty n.rl=some (j,k,r)):lvN E.s n<=q0n E.s:=by
 obtain ⟨-,ty,hty,-,hkr⟩:=q11 hf;have:=(q5o hc hty hkr).1;unfold lvN;rw [hf];exact this
theorem x7q (hE:yib E) (hc:y0a (y08 E.s)=0) {T:List Ob} (hT:∀ n x,x∈E.of n->n.o∈T):∃ L,Mod E L:=by
 have key:∀ v,∃ L,Upto E (q1y E.s T) v L/\∀ n∈L,n.o∈T:=by
  intro v
  induction v with
  | zero=>exact ⟨[],⟨by simp,fun n hn=>(by cases hn),fun i n hi=>by simp at hi,fun i j n m hi=>by simp at hi,fun n hn=>(by cases hn),fun n j k r _ hlt=>by omega⟩,fun n hn=>(by cases hn)⟩
  | succ v ih=>
   obtain ⟨L,h,-⟩:=ih;obtain ⟨L',h',hcl⟩:=Upto.close hE hc (q1y E.s T).length L h (by omega)
   have hT':∀ n∈L',n.o∈T:=by
    intro n hn;have:=h'.sub n hn;obtain ⟨o,ho,hq⟩:=List.mem_flatMap.1 this;obtain ⟨t,-,hq⟩:=List.mem_flatMap.1 hq;obtain ⟨r,-,rfl⟩:=List.mem_map.1 hq;exact ho
   refine ⟨L',⟨h'.nd,h'.sub,h'.step,h'.srt,fun n hn=>Nat.le_succ_of_le (h'.top n hn),fun n j k r hf hlt hb=>?_⟩,hT'⟩
   rcases Nat.lt_succ_iff_lt_or_eq.1 hlt with h1 | h1
   ·exact h'.closed n j k r hf h1 hb
   ·refine hcl n j k r hf h1 (y1d hf (y4e hT (fun c hc=>hT' c (of_decide_eq_true hc)) hb)) hb
 obtain ⟨L,h,-⟩:=key (q0n E.s+1);exact ⟨L,h.mod fun n j k r hf=>Nat.lt_succ_of_le (yuk hc hf)⟩
end
theorem yup {E E':q1o} (hof:∀ n x,x∈E.of n↔x∈E'.of n) (K:Nd->Bool) (o:Ob):∀ (m:Nat) (e:Ex),exB E K o m e=exB E' K o m e
 | 0,e=>rfl
 | m+1,.mk k n ov ks=>by
  have ih:=yup hof K o m;unfold exB;by_cases k0:k=0
  ·rw [if_pos k0,if_pos k0]
  ·rw [if_neg k0,if_neg k0];by_cases k1:k=1
   ·rw [if_pos k1,if_pos k1,Bool.eq_iff_iff,lV,lV];constructor
    ·rintro ⟨x,hx,h⟩;exact ⟨x,(hof _ x).1 hx,h⟩
    ·rintro ⟨x,hx,h⟩;exact ⟨x,(hof _ x).2 hx,h⟩
   ·rw [if_neg k1,if_neg k1]
    match ks with
    | [a,b]=>dsimp only;rw [ih a,ih b]
    | []=>rfl
    | [_]=>rfl
    | _ :: _ :: _ :: _=>rfl
theorem Mod.of {E E':q1o} {L:List Nd} (h:Mod E L) (hs:E'.s=E.s) (hw:E'.who=E.who) (hof:∀ n x,x∈E.of n↔x∈E'.of n):Mod E' L:=by
 have hb:∀ K n r,q1n E K n r=q1n E' K n r:=by
  intro K n r;unfold q1n;split
  ·exact yup hof K _ _ _
  ·rw [hw,Bool.eq_iff_iff,lV,lV];constructor
   ·rintro ⟨x,hx,h⟩;exact ⟨x,(hof _ x).1 hx,h⟩
   ·rintro ⟨x,hx,h⟩;exact ⟨x,(hof _ x).2 hx,h⟩
 refine ⟨fun i n hi=>?_,fun n m=>?_,fun n j k r hf hq=>?_⟩
 ·obtain ⟨j,k,r,h1,h2⟩:=h.step i n hi;exact ⟨j,k,r,by rw [hs];exact h1,by rw [<- hb];exact h2⟩
 ·rw [hs];exact h.lev n m
 ·rw [hs] at hf;exact h.closed n j k r hf (by rw [hb];exact hq)
set_option maxRecDepth 4000
def yf6 (T:List Ob) (o:Ob):List Ob:=if o∈T then T else T++[o]
theorem yzx {S0 S:q00} {tv:AV} {T:List Ob} (hs:Sub S0 S) (ht:LstW S0 S y0c 2 tv (T.map obC)) (hl:T.length<=1000000) (o:Ob) :
  ACalls PG yjy [tv,.agg (obC o)] S fun ae S'=>∃ tv',ae=.ret tv'/\LstW S0 S' y0c 2 tv' ((yf6 T o).map obC)/\Sub S0 S'/\∀ c x,y01 S c=some x->q0u tv c->y01 S' c=some x/\q0u tv' c:=by
 refine xga ?_;unfold xdd;(try simp only [rwp,zA,zB,zC,zD,zE,zF,zG,zH,zI,rwb,reduceIte,obC]);refine LoopP.introS (fun i:Nat=>[(0,tv),(3,.rop [.str o.ty,.str o.id]),(5,.int .i64 i)]) (fun i S'=>S'=S/\i<=T.length/\∀ (j:Nat) (m:Ob),j<i->T[j]?=some m->¬ m=o) (fun i=>T.length-i) 0 ⟨rfl,by omega,fun j m hj=>by omega⟩ rfl ?_
 rintro i S' ⟨rfl,hi,hno⟩ kk hkk;(try simp only [rwp,zA,zB,zC,zD,zE,zF,zG,zH,zI,rwb,reduceIte,ywp,ht.ln,lA])
 (refine q02 (fun hlt=>?_) (fun hlt=>?_)<;>(try simp only [hlc] at hlt))
 ·obtain ⟨m,hm⟩:=q0c hlt;obtain ⟨b1,cap,cs,rfl,hcs,hrow,hle⟩:=ht.get (i:=i) (r:=obC m) (by rw [lC,hm];rfl)
  simp only [lA] at hkk ht;(try simp only [rwp,zA,zB,zC,zD,zE,zF,zG,zH,zI,rwb,reduceIte,hcs,lA,Int.toNat_natCast,Nat.zero_add]);obtain ⟨rest,hd1⟩:=y64 (hrow.trans (show obC m=[.str m.ty,.str m.id] from rfl))
  (try simp only [rwp,zA,zB,zC,zD,zE,zF,zG,zH,zI,rwb,reduceIte,hd1]);refine ⟨hlt,?_⟩;have hnd:=x63 m o;cases a1:(decide (m.ty=o.ty)&&decide (m.id=o.id))
  ·rw [a1] at hnd;(try simp only [rwp,zA,zB,zC,zD,zE,zF,zG,zH,zI,rwb,reduceIte])
   (simp (disch:=omega) only [q05])
   refine q09 rfl (hkk (i+1) _ ⟨rfl,by omega,fun j u hj hu=>?_⟩ (by omega))
   rcases Nat.lt_succ_iff_lt_or_eq.1 hj with h1 | rfl
   ·exact hno j u h1 hu
   ·rw [hm] at hu;cases hu;exact of_decide_eq_false hnd
  ·rw [a1] at hnd;have e:=of_decide_eq_true hnd;subst e;(try simp only [rwp,zA,zB,zC,zD,zE,zF,zG,zH,zI,rwb,reduceIte]);refine q04 ⟨_,rfl,?_,hs,fun c x hc ha=>⟨hc,ha⟩⟩
   rw [yf6,if_pos (lB hm)];exact ht
 ·have hn:o ∉ T:=by
   intro hn;obtain ⟨j,hj⟩:=lL hn;have:=(List.getElem?_eq_some_iff.1 hj).1;exact hno j o (by omega) hj rfl
  (try simp only [rwp,zA,zB,zC,zD,zE,zF,zG,zH,zI,rwb,reduceIte]);refine LstW.app hs ht (x:=[.str o.ty,.str o.id]) rfl rfl (by simp only [lA];omega) fun tv' S2 h1 h2 h3=>?_
  refine q04 ⟨tv',rfl,?_,h1,h3⟩;rw [yf6,if_neg hn,lK];exact h2
theorem y8k {s:List Ty} (hg:GoodS s) {i k:Nat} {t:Ty} {r:Rl} (ht:s[i]?=some t) (hr:t.rels[k]?=some r):q0h s t.name r.name=some (i,k,r):=by
 have h1:=hg.once ht hr;unfold fiN at h1;simp only [Prod.mk.injEq] at h1;obtain ⟨e1,e2⟩:=h1;have ty:y04 s t.name=some i:=by
  cases hq:y04 s t.name with
  | none=>
   have:=firstI_none.1 hq i t ht;simp at this
  | some i'=>rw [hq] at e1;exact congrArg some e1
 have rl:q44 t.rels r.name=some k:=by
  cases hq:q44 t.rels r.name with
  | none=>
   have:=firstI_none.1 hq k r hr;simp at this
  | some k'=>
   rw [ty] at e2;unfold y5g at e2;simp only [Option.bind_some,ht,hq,Option.getD_some] at e2;rw [e2]
 unfold q0h;rw [ty];dsimp only;rw [ht];dsimp only;rw [rl];dsimp only;rw [hr];rfl
theorem x5p {s:List Ty} {L:List Tu} {who:Ob} {tv kv v:AV} {S:q00} {b:Nat} {KT:q00->Prop} (h:one v=true):soW (some (q7u,wC s L tv who kv,6)) S 1 b 5 v KT=KT (supd S b (.cells q7u (wC s L tv who v) 6)):=by
 have h1:=(ys3 h).1;simp [soW,wC,h1,y06,h,q1i]
theorem ys2 {s:List Ty} {L:List Tu} {who:Ob} {tv kv v:AV} {S:q00} {b:Nat} {KT:q00->Prop} (h:one v=true):soW (some (q7u,wC s L tv who kv,6)) S 1 b 2 v KT=KT (supd S b (.cells q7u (wC s L v who kv) 6)):=by
 have h1:=(ys3 h).1;simp [soW,wC,h1,y06,h,q1i]
theorem LstW.keep {S0 S S':q00} {t sz:Nat} {u v v':AV} {rows:List (List AV)} (h:LstW S0 S t sz u rows) (ha:∀ b off n cap,u=.own b off n cap->q0u v b) (hk:∀ c o,y01 S c=some o->q0u v c->y01 S' c=some o/\q0u v' c) :
  LstW S0 S' t sz u rows/\∀ b off n cap,u=.own b off n cap->q0u v' b:=by
 obtain ⟨hr,h⟩:=h;rcases h with ⟨rfl,rfl⟩ | ⟨b,cap,cs,rfl,h1,h2,h3⟩
 ·exact ⟨⟨hr,.inl ⟨rfl,rfl⟩⟩,fun b off n cap e=>by cases e⟩
 ·obtain ⟨k1,k2⟩:=hk b _ h2 (ha b _ _ _ rfl);exact ⟨⟨hr,.inr ⟨b,cap,cs,rfl,h1,k1,h3⟩⟩,fun b off n cap e=>by cases e;exact k2⟩
structure Rnd (s:List Ty) (L:List Tu) (who:Ob):Prop where
 os:OkS s
 c:y0a (y08 s)=0
 oL:OkL L
 e:yib (y07 s L who)
structure RdI (s:List Ty) (L:List Tu) (who:Ob) (bw:Nat) (S0:q00) (T:List Ob) (C:List Nd) (v:Nat) (K0:List Nd) (i t k:Nat) (K:List Nd) (b:Bool) (S:q00):Prop where
 w:W14 s L who bw S0 T K S
 u:Upto (y07 s L who) C v K
 y:b=true->K0.length<K.length
 n:b=false->K=K0/\∀ (i' t' k':Nat) (o:Ob) (ty:Ty) (r:Rl),(i'<i\/i'=i/\(t'<t\/t'=t/\k'<k))->T[i']?=some o->s[t']?=some ty->ty.name=o.ty->ty.rels[k']?=some r->y02 (y05 s) (t',k')=v->q1n (y07 s L who) (fun c=>decide (c∈K0)) ⟨o,r.name⟩ r=true->(⟨o,r.name⟩:Nd)∈K0
theorem RdI.skip {s:List Ty} {L:List Tu} {who:Ob} {bw:Nat} {S0 S:q00} {T:List Ob} {C:List Nd} {v:Nat} {K0 K:List Nd} {i t k i2 t2 k2:Nat} {b:Bool} (h:RdI s L who bw S0 T C v K0 i t k K b S)
  (hs:∀ (i' t' k':Nat) (o:Ob) (ty:Ty) (r:Rl),(i'<i2\/i'=i2/\(t'<t2\/t'=t2/\k'<k2))->T[i']?=some o->s[t']?=some ty->ty.name=o.ty->ty.rels[k']?=some r->y02 (y05 s) (t',k')=v->¬ (i'<i\/i'=i/\(t'<t\/t'=t/\k'<k))->q1n (y07 s L who) (fun c=>decide (c∈K)) ⟨o,r.name⟩ r=true->(⟨o,r.name⟩:Nd)∈K):RdI s L who bw S0 T C v K0 i2 t2 k2 K b S:=by
 refine ⟨h.w,h.u,h.y,fun hb=>?_⟩
 obtain ⟨e,h1⟩:=h.n hb;subst e;refine ⟨rfl,fun i' t' k' o ty r hlt a1 a2 a3 a4 a5 a6=>?_⟩
 by_cases hq:i'<i\/i'=i/\(t'<t\/t'=t/\k'<k)
 ·exact h1 i' t' k' o ty r hq a1 a2 a3 a4 a5 a6
 ·exact hs i' t' k' o ty r hlt a1 a2 a3 a4 a5 hq a6
theorem ylw {s:List Ty} {L:List Tu} {who:Ob} {bw:Nat} {S0 S:q00} {T:List Ob} {v:Nat} {K:List Nd} (R:Rnd s L who) (hw:W14 s L who bw S0 T K S) (hu:Upto (y07 s L who) (q1y s T) v K) (hlC:(q1y s T).length<1000000) (hv:v<=1000) :
  ACalls PG yug [.ptr bw 0,.sl 1 (lvC (y05 s)),.int .i64 v] S fun ae S'=>∃ (b:Bool) (K':List Nd),ae=.ret (.bool b)/\W14 s L who bw S0 T K' S'/\Upto (y07 s L who) (q1y s T) v K'/\(b=true->K.length<K'.length) /\
   (b=false->K'=K/\∀ n j k r,q0h s n.o.ty n.rl=some (j,k,r)->lvN s n=v->n.o∈T->q1n (y07 s L who) (fun c=>decide (c∈K)) n r=true->n∈K):=by
 have hlt:=hw.lt;have hst:=R.os.types;have hlvl:=y58 (q45 s);refine xg9 ?_;unfold xdc;refine LoopP.introS (fun x:Nat×Bool=>[(0,.ptr bw 0),(1,.sl 1 (lvC (y05 s))),(2,.int .i64 v),(7,.bool x.2),(8,.int .i64 x.1)]) (fun x S'=>x.1<=T.length/\∃ K',RdI s L who bw S0 T (q1y s T) v K x.1 0 0 K' x.2 S') (fun x=>T.length-x.1) (0,false)
  ⟨by omega,K,hw,hu,fun h=>(by cases h),fun _=>⟨rfl,fun i' t' k' o ty r hq=>by omega⟩⟩ rfl ?_
 rintro ⟨i,b⟩ S1 ⟨hi,K1,h1⟩ kk hkk;dsimp only at hi h1 ⊢;obtain ⟨tv,kv,ho,ht,hk,hta,hka,hap⟩:=h1.w.ex;have hc:=q08 ho;(try simp only [rwp,zA,zB,zC,zD,zE,zF,zG,zH,zI,rwb,reduceIte,ywo,hc,wC,ht.ln,lA])
 (refine q02 (fun hlti=>?_) (fun hlti=>?_)<;>(try simp only [hlc] at hlti))
 ·obtain ⟨o,hoT⟩:=q0c hlti;obtain ⟨b1,cap,cs,rfl,hcs,hrow,hle⟩:=ht.get (i:=i) (r:=obC o) (by rw [lC,hoT];rfl)
  obtain ⟨rest,hd1⟩:=y64 (hrow.trans (show obC o=[.str o.ty,.str o.id] from rfl))
  (try simp only [rwp,zA,zB,zC,zD,zE,zF,zG,zH,zI,rwb,reduceIte,hc,wC,hcs,lA,Int.toNat_natCast,Nat.zero_add,hd1]);refine ⟨hlti,?_⟩;clear ho ht hk hta hka hap hc hcs hrow hle hd1;refine LoopP.introS (fun x:Nat×Bool=>[(0,.ptr bw 0),(1,.sl 1 (lvC (y05 s))),(2,.int .i64 v),(7,.bool x.2),(8,.int .i64 i),(9,.rop [.str o.ty,.str o.id]),(10,.int .i64 x.1)]) (fun x S'=>x.1<=s.length/\∃ K',RdI s L who bw S0 T (q1y s T) v K i x.1 0 K' x.2 S') (fun x=>s.length-x.1) (0,b)
   ⟨by omega,K1,h1⟩ rfl ?_
  rintro ⟨t,b2⟩ S2 ⟨htl,K2,h2⟩ kk2 hkk2;dsimp only at htl h2 ⊢;obtain ⟨tv,kv,ho,ht,hk,hta,hka,hap⟩:=h2.w.ex;have hc:=q08 ho;(try simp only [rwp,zA,zB,zC,zD,zE,zF,zG,zH,zI,rwb,reduceIte,ywn,hc,wC,lA])
  (refine q02 (fun hltt=>?_) (fun hltt=>?_)<;>(try simp only [hlc] at hltt))
  ·obtain ⟨ty,hty⟩:=q0c hltt;clear ho ht hk hta hka hap hc;refine LoopP.introS (fun x:Nat×Bool=>[(0,.ptr bw 0),(1,.sl 1 (lvC (y05 s))),(2,.int .i64 v),(7,.bool x.2),(8,.int .i64 i),(9,.rop [.str o.ty,.str o.id]),(10,.int .i64 t),(11,.int .i64 x.1)]) (fun x S'=>x.1<=ty.rels.length/\∃ K',RdI s L who bw S0 T (q1y s T) v K i t x.1 K' x.2 S') (fun x=>ty.rels.length-x.1) (0,b2)
    ⟨by omega,K2,h2⟩ rfl ?_
   rintro ⟨k,b3⟩ S3 ⟨hkl,K3,h3⟩ kk3 hkk3;dsimp only at hkl h3 ⊢;obtain ⟨tv,kv,ho,ht,hk,hta,hka,hap⟩:=h3.w.ex;have hc:=q08 ho;have hrt:=(R.os.types);(try simp only [rwp,zA,zB,zC,zD,zE,zF,zG,zH,zI,rwb,reduceIte,ywm,hc,wC,lA,lC,hty,tyC]);cases g1:(decide ((k:Int)<ty.rels.length)&&decide (ty.name=o.ty))
   ·(try simp only [rwp,zA,zB,zC,zD,zE,zF,zG,zH,zI,rwb,reduceIte,yg6])
    (simp (disch:=omega) only [q05])
    refine q09 rfl (hkk2 (t+1,b3) _ ⟨by dsimp only;omega,K3,h3.skip fun i' t' k' o' ty' r' hq a1 a2 a3 a4 a5 a6 a7=>?_⟩ (by dsimp only;omega))
    exfalso;have e1:i'=i:=by omega
    have e2:t'=t:=by omega
    subst e1 e2;rw [hoT] at a1;cases a1;rw [hty] at a2;cases a2;have hk':=(List.getElem?_eq_some_iff.1 a4).1;rw [decide_eq_true a3,Bool.and_true] at g1;have:=of_decide_eq_false g1;omega
   ·rw [Bool.and_eq_true] at g1;have hltk:=of_decide_eq_true g1.1;have hnm:=of_decide_eq_true g1.2;obtain ⟨r,hr⟩:=q0c hltk;have hf:q0h s o.ty r.name=some (t,k,r):=by rw [<- hnm];exact y8k (q28 R.c) hty hr
    have hlvn:lvN s ⟨o,r.name⟩=y02 (y05 s) (t,k):=by unfold lvN;rw [hf]
    have q1:=q5c h3.w ⟨o,r.name⟩;simp only [obC] at q1;(try simp only [rwp,zA,zB,zC,zD,zE,zF,zG,zH,zI,rwb,reduceIte,yg6,hc,wC,lA,lC,hty,tyC,hr,q0o]);refine q13 q1 ?_;obtain ⟨lv,hl1,hl2⟩:=q7x (q45 s) hty;obtain ⟨x,hx⟩:∃ x,lv[k]?=some x:=⟨_,lE (by omega)⟩
    have hgl:y02 (y05 s) (t,k)=x:=by unfold y02;simp [hl1,hx]
    have hcl:(lvC (y05 s))[t]?=some [.sl 1 (lv.map fun x=>[iv x])]:=by rw [lvC,lC,hl1];rfl
    have next:(q1n (y07 s L who) (fun c=>decide (c∈K3)) ⟨o,r.name⟩ r=true->x=v->(⟨o,r.name⟩:Nd)∈K3)->RdI s L who bw S0 T (q1y s T) v K i t (k+1) K3 b3 S3:=fun hq=>h3.skip fun i' t' k' o' ty' r' hlt a1 a2 a3 a4 a5 a6 a7=>by
     have e1:i'=i:=by omega
     have e2:t'=t:=by omega
     have e3:k'=k:=by omega
     subst e1 e2 e3;rw [hoT] at a1;cases a1;rw [hty] at a2;cases a2;rw [hr] at a4;cases a4;exact hq a7 (by rw [<- hgl];exact a5)
    have go:∀ {kn:Bool},(q1n (y07 s L who) (fun c=>decide (c∈K3)) ⟨o,r.name⟩ r=true->x=v->(⟨o,r.name⟩:Nd)∈K3)->rcW kk3 [(0,.ptr bw 0),(1,.sl 1 (lvC (y05 s))),(2,.int .i64 v),(7,.bool b3),(8,.int .i64 i),(9,.rop [.str o.ty,.str o.id]),(10,.int .i64 t),(11,.int .i64 (IntKind.i64.wrap (↑k+1)))] S3:=fun hq=>by
     have hb2:=(R.os.at hty).rels
     (simp (disch:=omega) only [q05])
     exact q09 rfl (hkk3 (k+1,b3) _ ⟨by dsimp only;omega,K3,next hq⟩ (by dsimp only;omega))
    cases g3:decide ((⟨o,r.name⟩:Nd)∈K3)
    ·(try simp only [rwp,zA,zB,zC,zD,zE,zF,zG,zH,zI,rwb,reduceIte,hcl,lC,hx,iv]);cases g4:decide ((x:Int)=v)
     ·(try simp only [rwp,zA,zB,zC,zD,zE,zF,zG,zH,zI,rwb,reduceIte,yak]);exact go (kn:=true) fun _ e=>absurd (by rw [e]:(x:Int)=v) (of_decide_eq_false g4)
     ·have q2:=yhm R.oL h3.w ⟨o,r.name⟩ r ((R.os.at hty).at hr) rfl (fun h0=>yco (q28 R.c).may ty (lB hty) r (lB hr) h0)
      simp only [obC,q0o] at q2;(try simp only [rwp,zA,zB,zC,zD,zE,zF,zG,zH,zI,rwb,reduceIte,yak]);refine q13 q2 ?_;cases g5:q1n (y07 s L who) (fun c=>decide (c∈K3)) ⟨o,r.name⟩ r
      ·(try simp only [rwp,zA,zB,zC,zD,zE,zF,zG,zH,zI,rwb,reduceIte]);exact go (kn:=true) fun h=>by rw [g5] at h;cases h
      ·(try simp only [rwp,zA,zB,zC,zD,zE,zF,zG,zH,zI,rwb,reduceIte,hc,wC]);have hbT:o∈T:=lB hoT;have hu4:=h3.u.snoc R.e R.c (n:=⟨o,r.name⟩) hf (by show lvN s ⟨o,r.name⟩=v;rw [hlvn,hgl];exact Int.ofNat_inj.1 (of_decide_eq_true g4)) (of_decide_eq_false g3) (y1d hf hbT) g5
       have hlen4:=y84 hu4.nd hu4.sub;have hk3:K3.length<=1000000:=h3.w.lk;have hb2:=(R.os.at hty).rels;refine LstW.app h3.w.sub hk (x:=ndC ⟨o,r.name⟩) rfl rfl (by simp only [lA];omega) fun kv' S4 j1 j2 j3=>?_
       obtain ⟨i1,i2⟩:=j3 bw _ (objAt_some.1 ho) hka;obtain ⟨t1,t2⟩:=LstW.keep ht hap j3;rw [objAt_some.2 i1,x5p j2.one];have hw4:W14 s L who bw S0 T (K3++[⟨o,r.name⟩]) (supd S4 bw (.cells q7u (wC s L tv who kv') 6)):=
        ⟨⟨tv,kv',q0f,t1.upd hta _,by rw [lK];exact j2.upd i2 _,hta,i2,t2⟩,Sub.supd h3.w.nb j1,h3.w.nb,by omega,h3.w.lt⟩
       have hr4:RdI s L who bw S0 T (q1y s T) v K i t (k+1) (K3++[⟨o,r.name⟩]) true (supd S4 bw (.cells q7u (wC s L tv who kv') 6)):=by
        refine ⟨hw4,hu4,fun _=>?_,fun h=>by cases h⟩
        rw [lH,lP];cases b3 with
        | true=>have:=h3.y rfl;omega
        | false=>rw [(h3.n rfl).1];omega
       (simp (disch:=omega) only [q05])
       exact q09 rfl (hkk3 (k+1,true) _ ⟨by dsimp only;omega,_,hr4⟩ (by dsimp only;omega))
    ·(try simp only [rwp,zA,zB,zC,zD,zE,zF,zG,zH,zI,rwb,reduceIte,yak]);exact go (kn:=true) fun _ _=>of_decide_eq_true g3
  ·(try simp only [rwp,zA,zB,zC,zD,zE,zF,zG,zH,zI,rwb,reduceIte])
   (simp (disch:=omega) only [q05])
   refine q09 rfl (hkk (i+1,b2) _ ⟨by dsimp only;omega,K2,h2.skip fun i' t' k' o' ty r hq a1 a2 a3 a4 a5 a6 a7=>?_⟩ (by dsimp only;omega))
   exfalso;have:=(List.getElem?_eq_some_iff.1 a2).1;omega
 ·(try simp only [rwp,zA,zB,zC,zD,zE,zF,zG,zH,zI,rwb,reduceIte]);refine q04 ⟨b,K1,rfl,h1.w,h1.u,h1.y,fun hb=>?_⟩
  obtain ⟨e,hq⟩:=h1.n hb;refine ⟨e,fun n j k r hf hl hT hbd=>?_⟩
  obtain ⟨a,ha⟩:=lL hT;obtain ⟨-,ty,hty,hrl,hkr⟩:=q11 hf;have hnm:ty.name=n.o.ty:=by
   obtain ⟨⟨x,hx,hp⟩,-⟩:=firstI_some.1 (q11 hf).1;rw [hty] at hx;cases hx;exact of_decide_eq_true hp
  have hrn:r.name=n.rl:=by
   obtain ⟨⟨x,hx,hp⟩,-⟩:=firstI_some.1 hrl;rw [hkr] at hx;cases hx;exact of_decide_eq_true hp
  have hlv:y02 (y05 s) (j,k)=v:=by rw [<- hl];unfold lvN;rw [hf]
  have hlt2:=(List.getElem?_eq_some_iff.1 ha).1;have:=hq a j k n.o ty r (.inl (by omega)) ha hty hnm hkr hlv (by rw [hrn];exact hbd)
  rw [hrn] at this;exact this
set_option maxRecDepth 4000
theorem ym9:∀ (x y:List UInt8),Op.bytesLess x y=decide (Lib.compareBytes x y<0)
 | [],[]=>rfl
 | [],_ :: _=>rfl
 | _ :: _,[]=>rfl
 | a :: x,b :: y=>by
  have ih:=ym9 x y;unfold Op.bytesLess Lib.compareBytes;by_cases h1:a<b
  ·rw [if_pos h1,decide_eq_true h1];rfl
  ·rw [if_neg h1,decide_eq_false h1,Bool.false_or];by_cases h2:b<a
   ·rw [if_pos h2];have:(a==b)=false:=by
     rw [beq_eq_false_iff_ne];rintro rfl;exact h1 h2
    rw [this];rfl
   ·rw [if_neg h2];have:a=b:=by
     rw [UInt8.lt_iff_toNat_lt] at h1 h2;exact UInt8.toNat_inj.1 (by omega)
    rw [this,ih,beq_self_eq_true,Bool.true_and]
theorem x93 (a b:Ob):AFun PG yu5 [.agg (obC a),.agg (obC b)] (.bool (ltO a b)):=by
 intro S;refine xfw ?_;unfold xcz;have e:ltO a b=(decide (y47 a.ty b.ty<0)||(decide (a.ty=b.ty)&&decide (y47 a.id b.id<0))):=by
  unfold ltO yal;by_cases h:y47 a.ty b.ty=0
  ·rw [if_pos h,q8h h];have:y47 b.ty b.ty=0:=ybu _;rw [this];simp
  ·rw [if_neg h];have hne:¬ a.ty=b.ty:=fun he=>h (by rw [he];exact ybu _)
   rw [decide_eq_false hne,Bool.false_and,Bool.or_false]
 rw [e];(try simp only [rwp,zA,zB,zC,zD,zE,zF,zG,zH,zI,rwb,reduceIte,obC,Lib.toList_data,ym9]);cases a1:decide (y47 a.ty b.ty<0)
 ·(try simp only [rwp,zA,zB,zC,zD,zE,zF,zG,zH,zI,rwb,reduceIte,yg2]);cases a2:decide (a.ty=b.ty)
  ·(try simp only [rwp,zA,zB,zC,zD,zE,zF,zG,zH,zI,rwb,reduceIte,yad]);exact q04 ⟨rfl,rfl⟩
  ·(try simp only [rwp,zA,zB,zC,zD,zE,zF,zG,zH,zI,rwb,reduceIte,yad,Lib.toList_data,ym9]);exact q04 ⟨rfl,rfl⟩
 ·(try simp only [rwp,zA,zB,zC,zD,zE,zF,zG,zH,zI,rwb,reduceIte,yg2,yad]);exact q04 ⟨rfl,rfl⟩
theorem LstW.appL {S0 S:q00} {t sz bytes:Nat} {v x:AV} {rows xs:List (List AV)} {K:AV->q00->Prop} (hs:Sub S0 S) (h:LstW S0 S t sz v rows) (hap:y9h S sz x=some (xs.length,xs.flatten)) (hx:∀ r∈xs,r.length=sz) (ho:y06 xs.flatten=true) (hb:(rows.length+xs.length) * bytes<=140737488355328)
  (hK:∀ v' S',Sub S0 S'->LstW S0 S' t sz v' (rows++xs)->(∀ c o,y01 S c=some o->q0u v c->y01 S' c=some o/\q0u v' c)->K v' S'):apW S t sz bytes v x K:=by
 refine ⟨xs.length,xs.flatten,hap,ho,?_⟩;obtain ⟨hr,h⟩:=h;have hall:∀ r∈rows++xs,r.length=sz:=fun r hm=>(List.mem_append.1 hm).elim (hr r) (hx r)
 have hfx:=q1t hx;have hfr:=q1t hr;have hfl:(rows++xs).flatten.length=(rows.length+xs.length) * sz:=by rw [q1t hall,lH]
 rcases h with ⟨rfl,rfl⟩ | ⟨b,cap,cs,rfl,h1,h2,h3,h4,h5,h6⟩
 ·dsimp only;simp only [lJ,Nat.zero_add] at hb;refine ⟨hb,?_⟩;split
  ·rename_i h0
   have:xs=[]:=List.length_eq_zero_iff.1 h0;subst this;exact hK _ _ hs LstW.nil fun c o hc _=>⟨hc,fun b off n cap e=>by cases e⟩
  ·intro b cap hbn k1 k2;have hb0:=Sub.none hs hbn;refine hK _ _ (hs.supd hb0) ⟨hall,.inr ⟨b,cap,xs.flatten,by simp,hb0,by rw [q01,if_pos rfl],?_,by rw [lQ,hfx];exact Nat.le_refl _,by simpa using k1,k2⟩⟩ fun c o hc _=>?_
   ·rw [lQ,lF (by rw [hfx];exact Nat.le_refl _)]
   ·have hne:b≠c:=q0p hbn hc;exact ⟨by rw [q01,if_neg hne];exact hc,fun b' off n cap h=>by cases h;exact Ne.symm hne⟩
 ·refine ⟨_,h2,h5,h6,h4,hb,fun b' cap' k1 k2 k3=>?_⟩
  rw [h3];have hb0:y01 S0 b'=none:=by
   rcases k1 with rfl | k1
   ·exact h1
   ·exact Sub.none hs k1
  have hsub:Sub S0 (supd (y0d S b) b' (.cells t (rows.flatten++xs.flatten) (cap' * sz))):=by
   refine Sub.supd hb0 fun c o hc=>?_
   have hne:b≠c:=by rintro rfl;rw [h1] at hc;cases hc
   rw [q0b,if_neg hne];exact hs c o hc
  refine hK _ _ hsub ⟨hall,.inr ⟨b',cap',rows.flatten++xs.flatten,by simp,hb0,by rw [q01,if_pos rfl],?_,?_,by simpa using k2,k3⟩⟩ fun c o hc ha=>?_
  ·rw [<- lX,lF (by rw [hfl,lH];exact Nat.le_refl _)]
  ·rw [<- lX,hfl,lH];exact Nat.le_refl _
  ·have hcb:c≠b:=ha b 0 _ _ rfl;have hcb':b'≠c:=by
    rcases k1 with rfl | k1
    ·exact Ne.symm hcb
    ·exact q0p k1 hc
   exact ⟨by rw [q01,if_neg hcb',q0b,if_neg (Ne.symm hcb)];exact hc,fun b'' off n cap h=>by cases h;exact Ne.symm hcb'⟩
theorem Fr.lst14 {S0 S:q00} {t sz:Nat} {v:AV} {rows:List (List AV)} (h:LstW S0 S t sz v rows):Fr S0 S v (.sl sz rows):=by
 obtain ⟨hr,⟨rfl,rfl⟩ | ⟨b,cap,cs,rfl,h1,h2,h3,h4,h5,h6⟩⟩:=h
 ·exact .nils sz
 ·exact .ownW t sz b _ cap rows cs hr h1 h2 h3 rfl h5
theorem LstW.selfX {S0 S:q00} {t sz:Nat} {v:AV} {rows:List (List AV)} (h:LstW S0 S t sz v rows):y9h S sz v=some (rows.length,rows.flatten):=by
 obtain ⟨hr,⟨rfl,rfl⟩ | ⟨b,cap,cs,rfl,h1,h2,h3,h4,h5,h6⟩⟩:=h
 ·rfl
 ·unfold y9h;dsimp only;rw [h2];dsimp only;rw [if_pos (by omega),List.drop_zero,h3]
theorem LstW.trunc {S0 S:q00} {t sz b n cap k:Nat} {rows:List (List AV)} (h:LstW S0 S t sz (.own b 0 n cap) rows) (hk:k<=n):LstW S0 S t sz (.own b 0 k cap) (rows.take k)/\rows.length=n/\n<=cap:=by
 obtain ⟨hr,⟨e,-⟩ | ⟨b1,cap1,cs,e,h1,h2,h3,h4,h5,h6⟩⟩:=h
 ·cases e
 ·cases e
  have hr':∀ r∈rows.take k,r.length=sz:=fun r hm=>hr r (List.mem_of_mem_take hm)
  have hl:(rows.take k).length=k:=by rw [lR];omega
  refine ⟨⟨hr',.inr ⟨b,cap,cs,by rw [hl],h1,h2,?_,?_,by omega,h6⟩⟩,rfl,h5⟩
  ·have e1:rows.flatten.take (k * sz)=(rows.take k).flatten:=by
    have:=congrArg (List.take (k * sz)) (show (rows.take k).flatten++(rows.drop k).flatten=rows.flatten by rw [<- lX,List.take_append_drop])
    rw [<- this,lc (by rw [q1t hr',hl];exact Nat.le_refl _),lF (by rw [q1t hr',hl];exact Nat.le_refl _)]
   rw [hl,<- e1,<- h3,List.take_take,Nat.min_eq_left (Nat.mul_le_mul_right _ hk)]
  ·rw [hl];exact Nat.le_trans (Nat.mul_le_mul_right _ hk) h4
theorem LstW.dropX {S0 S:q00} {t sz b n cap k:Nat} {rows:List (List AV)} (h:LstW S0 S t sz (.own b 0 n cap) rows) (hk:k<=n):y9h S sz (.own b (if cap=k then 0 else 0+k * sz) (n-k) (cap-k))=some (n-k,(rows.drop k).flatten):=by
 obtain ⟨hr,⟨e,-⟩ | ⟨b1,cap1,cs,e,h1,h2,h3,h4,h5,h6⟩⟩:=h
 ·cases e
 ·cases e
  have hr':∀ r∈rows.take k,r.length=sz:=fun r hm=>hr r (List.mem_of_mem_take hm)
  have hl:(rows.take k).length=k:=by rw [lR];omega
  unfold y9h;dsimp only;rw [h2];dsimp only;by_cases hc:cap=k
  ·have e0:rows.length-k=0:=by omega
   rw [if_pos hc,e0,Nat.zero_mul,if_pos (by omega),List.take_zero,List.drop_of_length_le (by omega)]
   rfl
  ·rw [if_neg hc,Nat.zero_add];have hsum:k * sz+(rows.length-k) * sz=rows.length * sz:=by rw [<- Nat.add_mul];congr 1;omega
   rw [if_pos (by omega)]
   congr 2
   have e2:(cs.drop (k * sz)).take ((rows.length-k) * sz)=(cs.take (rows.length * sz)).drop (k * sz):=by rw [List.drop_take];congr 1;omega
   rw [e2,h3];have:=congrArg (List.drop (k * sz)) (show (rows.take k).flatten++(rows.drop k).flatten=rows.flatten by rw [<- lX,List.take_append_drop])
   rw [<- this,List.drop_left' (by rw [q1t hr',hl])]
theorem yxi {sz:Nat} {k:IntKind} {K:AV->Prop}:slW sz .nils (some (.int k ((0:Nat):Int))) none K=K .nils:=rfl
theorem yxh {sz:Nat} {k:IntKind} {K:AV->Prop}:slW sz .nils none (some (.int k ((0:Nat):Int))) K=K .nils:=rfl
theorem yc8 {S:q00} {sz:Nat} {xs:List (List AV)}:y9h S sz (.sl sz xs)=some (xs.length,xs.flatten):=by simp [y9h]
theorem yjk {M:List Ob}:y06 (M.map obC).flatten=true:=q2q fun r hr=>by
 obtain ⟨o,-,rfl⟩:=List.mem_map.1 hr;rfl
theorem yum {M:List Ob}:∀ r∈M.map obC,r.length=2:=fun r hr=>by
 obtain ⟨o,-,rfl⟩:=List.mem_map.1 hr;rfl
theorem yqi {M:List Ob} (hM:M.length<=1000):AFun PG x6n [.sl 2 (M.map obC)] (.sl 2 ((y2m ltO M).map obC)):=by
 intro S;refine xkw ?_;unfold xje;refine LoopP.introS (fun x:Nat×AV=>[(0,.sl 2 (M.map obC)),(3,x.2),(4,.int .i64 x.1)]) (fun x S'=>x.1<=M.length/\Sub S S'/\LstW S S' y0c 2 x.2 ((y2m ltO (M.take x.1)).map obC)) (fun x=>M.length-x.1) (0,.nils)
  ⟨by dsimp only;omega,Sub.refl _,LstW.nil⟩ rfl ?_
 rintro ⟨i,ov⟩ S1 ⟨hi,s1,o1⟩ kk hkk;dsimp only at hi o1 ⊢;(try simp only [rwp,zA,zB,zC,zD,zE,zF,zG,zH,zI,rwb,reduceIte,x9z,lA]);cases a1:decide ((i:Int)<M.length)
 ·have e:i=M.length:=by have:=of_decide_eq_false a1;omega
  subst e;rw [List.take_length] at o1;(try simp only [rwp,zA,zB,zC,zD,zE,zF,zG,zH,zI,rwb,reduceIte]);exact q6y S _ s1 (Fr.lst14 o1) ⟨rfl,rfl⟩
 ·have hlt:=of_decide_eq_true a1;obtain ⟨x,hx⟩:=q0c hlt;have hnx:y2m ltO (M.take (i+1))=y3o ltO (y2m ltO (M.take i)) x:=by rw [q0t hx,y75]
  obtain ⟨-,-,hlen⟩:=q7v stO (M.take i) _ rfl;have hti:=List.length_take_le i M;generalize y2m ltO (M.take i)=L at o1 hnx hlen;have hL:L.length<=1000:=by omega
  (try simp only [rwp,zA,zB,zC,zD,zE,zF,zG,zH,zI,rwb,reduceIte]);refine LoopP.introS (fun k:Nat=>[(0,.sl 2 (M.map obC)),(3,ov),(4,.int .i64 i),(5,.int .i64 k)]) (fun k S'=>S'=S1/\k<=L.length/\∀ y∈L.take k,ltO y x=true) (fun k=>L.length-k) 0 ⟨rfl,by omega,fun y hy=>by simp at hy⟩ rfl ?_
  rintro k S2 ⟨e2,hk,hlo⟩ kk2 hkk2;rw [e2];(try simp only [rwp,zA,zB,zC,zD,zE,zF,zG,zH,zI,rwb,reduceIte,x9y]);rw [o1.ln,lA];have hnext:∀ {v':AV} {S3:q00},Sub S S3->LstW S S3 y0c 2 v' ((y3o ltO L x).map obC)->rcW kk [(0,.sl 2 (M.map obC)),(3,v'),(4,.int .i64 ((i:Int)+1))] S3:=by
   intro v' S3 h1 h2;rw [show (i:Int)+1=((i+1:Nat):Int) by omega]
   exact q09 rfl (hkk (i+1,v') _ ⟨by dsimp only;omega,h1,by dsimp only;rw [hnx];exact h2⟩ (by dsimp only;omega))
  -- put in at k
  have put:(∀ y,L[k]?=some y->ltO y x=false/\¬ y=x)->yn0 (fun ae S'=>ae=.ret (.sl 2 ((y2m ltO M).map obC))/\S'=S) kk (.sl 2 (M.map obC)) ov (.int .i64 i) (.int .i64 k) (.bool false) S1:=by
   intro hno;have hins:y3o ltO L x=L.take k++x :: L.drop k:=by
    rw [ybb hlo]
    congr 1
    cases hd:L.drop k with
    | nil=>rfl
    | cons y r=>
     have hy:L[k]?=some y:=by
      have:=congrArg (fun l=>l[0]?) hd
      simpa using this
     obtain ⟨n1,n2⟩:=hno y hy;unfold y3o;rw [if_neg (by rw [n1];simp),if_neg n2]
   have hrest:∀ (v48:AV) (S3:q00),Sub S S3->LstW S S3 y0c 2 v48 ((L.drop k).map obC)->(∀ (tv:AV),LstW S S1 y0c 2 tv ((L.take k).map obC)->(∀ b off n cap,tv=.own b off n cap->∃ n' cap',ov=.own b 0 n' cap')->LstW S S3 y0c 2 tv ((L.take k).map obC)/\∀ b off n cap,tv=.own b off n cap->q0u v48 b)->∀ tv:AV,LstW S S1 y0c 2 tv ((L.take k).map obC)->(∀ b off n cap,tv=.own b off n cap->∃ n' cap',ov=.own b 0 n' cap') ->
     apW S3 27 2 32 tv (.sl 2 [obC x]) fun v57 S=>apW S 27 2 32 v57 v48 fun v60 S=>rcW kk [(0,.sl 2 (M.map obC)),(3,v60),(4,.int .i64 ((i:Int)+1))] S:=by
    intro v48 S3 s3 o3 hkeep tv ht htb;obtain ⟨ht3,hta⟩:=hkeep tv ht htb;have hlt:(L.take k).length=k:=by rw [lR];omega
    refine LstW.appL s3 ht3 (xs:=[obC x]) yc8 (fun r hr=>by rw [List.mem_singleton.1 hr];rfl) (q2q fun r hr=>by rw [List.mem_singleton.1 hr];rfl) (by simp only [lA,lP];omega) fun v57 S4 s4 o4 j4=>?_
    have hv48:∀ b off n cap,v48=.own b off n cap->q0u tv b:=by
     intro b off n cap e b' off' n' cap' e';exact Ne.symm (hta b' _ _ _ e' b _ _ _ e)
    obtain ⟨o48,-⟩:=LstW.keep o3 hv48 j4;refine LstW.appL s4 o4 o48.selfX yum yjk (by simp only [lA,lH,lP,List.length_drop];omega) fun v60 S5 s5 o5 _=>?_
    refine hnext s5 ?_;rw [hins];simpa using o5
   (try simp only [rwp,zA,zB,zC,zD,zE,zF,zG,zH,zI,rwb,reduceIte,yn0]);obtain ⟨hr1,⟨rfl,e0⟩ | ⟨b,cap,cs,rfl,-⟩⟩:=id o1
   ·have e0:L=[]:=by simpa using e0
    subst e0;have ek:k=0:=by simpa using hk
    subst ek;(try simp only [rwp,zA,zB,zC,zD,zE,zF,zG,zH,zI,rwb,reduceIte,lC,hx,obC]);(try (simp (disch:=omega) only [q05]));refine Eq.mpr yxi ?_;refine ⟨0,[],rfl,rfl,by decide,?_⟩
    rw [if_pos rfl];refine Eq.mpr yxh ?_;(try simp only [rwp,zA,zB,zC,zD,zE,zF,zG,zH,zI,rwb,reduceIte,lC,hx,obC]);(try (simp (disch:=omega) only [q05]));exact hrest .nils S1 s1 LstW.nil (fun tv h1 h2=>⟨h1,fun b off n cap e=>by obtain ⟨n',cap',h⟩:=h2 b off n cap e;cases h⟩) .nils LstW.nil (fun b off n cap e=>by cases e)
   ·simp only [lA] at o1 hrest ⊢;have ho1:=o1;obtain ⟨tr1,-,tr3⟩:=LstW.trunc (k:=k) o1 hk;have dx:=LstW.dropX (k:=k) o1 hk;rw [Nat.zero_add,<- List.map_drop] at dx;(try simp only [rwp,zA,zB,zC,zD,zE,zF,zG,zH,zI,rwb,reduceIte,lC,hx,obC]);refine ⟨by omega,by omega,?_⟩
    refine LstW.appL s1 (LstW.nil (S0:=S)) (xs:=(L.drop k).map obC) (by rw [dx];simp) yum yjk (by simp only [lA,List.length_drop,lJ];omega) fun v48 S3 s3 o3 j3=>?_
    rw [lQ] at o3;refine ⟨by omega,by omega,?_⟩
    rw [show AV.own b (if cap=0 then 0 else 0) (k-0) (cap-0)=.own b 0 k cap by simp]
    (try (simp (disch:=omega) only [q05]));refine hrest v48 S3 s3 o3 (fun tv h1 h2=>?_) (.own b 0 k cap) (by rw [List.map_take];exact tr1) (fun b' off n' cap' e=>by cases e;exact ⟨L.length,cap,rfl⟩)
    obtain ⟨hr2,⟨e,e0⟩ | ⟨b2,cap2,cs2,e,g1,g2,g3⟩⟩:=id h1
    ·exact ⟨⟨hr2,.inl ⟨e,e0⟩⟩,fun b' off n' cap' e'=>by rw [e] at e';cases e'⟩
    ·have hk3:=j3 b2 _ g2 (fun _ _ _ _ e=>by cases e)
     exact ⟨⟨hr2,.inr ⟨b2,cap2,cs2,e,g1,hk3.1,g3⟩⟩,fun b' off n' cap' e'=>by rw [e] at e';cases e';exact hk3.2⟩
  rw [show ∀ K:AV->Prop,biW .lss (.int .i64 (k:Int)) (.int .i64 (L.length:Int)) K=K (.bool (decide ((k:Int)<L.length))) from fun K=>rfl]
  cases a2:decide ((k:Int)<L.length)
  ·(try simp only [rwp,zA,zB,zC,zD,zE,zF,zG,zH,zI,rwb,reduceIte,yn1]);rw [o1.ln,lA];(try simp only [rwp,zA,zB,zC,zD,zE,zF,zG,zH,zI,rwb,reduceIte,a2]);exact put fun y hy=>by
    have:=(List.getElem?_eq_some_iff.1 hy).1;have:=of_decide_eq_false a2;omega
  ·have hkl:=of_decide_eq_true a2;obtain ⟨y,hy⟩:=q0c hkl;obtain ⟨b1,cap,cs,rfl,hcs,hrow,hle⟩:=o1.get (i:=k) (r:=obC y) (by rw [lC,hy];rfl)
   simp only [lA] at o1 put hnext hkk hkk2 hrow ⊢;obtain ⟨rest,hd1⟩:=y64 (hrow.trans (show obC y=[.str y.ty,.str y.id] from rfl))
   (try simp only [rwp,zA,zB,zC,zD,zE,zF,zG,zH,zI,rwb,reduceIte,hcs,lA,Int.toNat_natCast,Nat.zero_add,hd1,lC,hx,obC]);refine ⟨hkl,?_⟩;refine q06 (x93 y x) ?_;cases a3:ltO y x
   ·(try simp only [rwp,zA,zB,zC,zD,zE,zF,zG,zH,zI,rwb,reduceIte,yn1]);(try simp only [rwp,zA,zB,zC,zD,zE,zF,zG,zH,zI,rwb,reduceIte,a2,hcs,lA,Int.toNat_natCast,Nat.zero_add,hd1,lC,hx,obC]);refine ⟨hkl,?_⟩;have hdec:=q5k (a:=y) (b:=x);cases a4:(decide (y.ty=x.ty)&&decide (y.id=x.id))
    ·rw [a4] at hdec;exact put fun y' hy'=>by
      rw [hy] at hy';cases hy';exact ⟨a3,of_decide_eq_false hdec⟩
    ·rw [a4] at hdec;have e:=of_decide_eq_true hdec;(try simp only [rwp,zA,zB,zC,zD,zE,zF,zG,zH,zI,rwb,reduceIte,yn0]);(try (simp (disch:=omega) only [q05]));refine hnext s1 ?_;have hins:y3o ltO L x=L:=by
      rw [ybb hlo];have hd:L.drop k=y :: L.drop (k+1):=by
       obtain ⟨h3,h4⟩:=List.getElem?_eq_some_iff.1 hy;rw [<- h4];exact List.drop_eq_getElem_cons h3
      conv=>rhs;rw [<- List.take_append_drop k L]
      rw [hd];unfold y3o;rw [if_neg (by rw [a3];simp),if_pos e]
     rw [hins];exact o1
   ·(try simp only [rwp,zA,zB,zC,zD,zE,zF,zG,zH,zI,rwb,reduceIte,yn1]);(try (simp (disch:=omega) only [q05]));rw [show (k:Int)+1=((k+1:Nat):Int) by omega]
    refine q09 rfl (hkk2 (k+1) _ ⟨e2 ▸ rfl,by omega,fun z hz=>?_⟩ (by omega))
    rw [q0t hy] at hz;rcases List.mem_append.1 hz with hz | hz
    ·exact hlo z hz
    ·rw [List.mem_singleton.1 hz];exact a3
theorem yl0 {L:List Nd} {n:Nd} (h:n∈L):L[L.idxOf n]?=some n:=by
 have hlt:=List.idxOf_lt_length_iff.2 h;rw [lE hlt,List.getElem_idxOf hlt]
theorem yeg {E:q1o} (hE:yib E) {N:Nat} {K K':Nd->Bool} (h:∀ c,Low E.s N false c->K c=true->K' c=true) (hn:∀ c,Low E.s N true c->K c=K' c) (o:Ob) :
  ∀ (m:Nat) (e:Ex) (out:Bool),y0i m e=true->(∀ p∈q0g e out,∀ l∈q3r E.s o.ty p.1 p.2,y02 (y05 E.s) l.1+l.2.toNat<=N) ->
   (out=false->exB E K o m e=true->exB E K' o m e=true)/\(out=true->exB E K o m e=exB E K' o m e)
 | 0,e,out,hm,hl=>by cases hm
 | m+1,.mk k n ov ks,out,hm,hl=>by
  have ih:=yeg hE h hn o m;unfold y0i at hm;unfold exB;unfold q0g at hl;by_cases k0:k=0
  ·simp only [if_pos k0] at hm ⊢;rw [Bool.and_eq_true] at hm;rw [if_pos hm.2] at hl;have low:Low E.s N out ⟨o,n⟩:=by
    unfold Low lvN;cases hq:q0h E.s o.ty n with
    | none=>exact .inl rfl
    | some p=>
     obtain ⟨i,j,r⟩:=p;refine .inr (hl (.mk k n ov ks,out) (by simp) ((i,j),out) ?_)
     unfold q3r Ex.name;simp only [hq];exact List.mem_cons_self
   exact ⟨fun ho=>by subst ho;exact h _ low,fun ho=>by subst ho;exact hn _ low⟩
  ·simp only [if_neg k0] at hm ⊢;by_cases k1:k=1
   ·simp only [if_pos k1] at hm ⊢;rw [Bool.and_eq_true,Bool.and_eq_true] at hm;rw [if_pos hm.2.2] at hl;have low:∀ x∈E.of ⟨o,n⟩,x.rl=⟨#[]⟩->Low E.s N out ⟨x.o,ov⟩:=by
     intro x hx hx0;obtain ⟨i,j,r,h1,f,h2,h3,h4⟩:=hE.ok _ x hx;unfold Low lvN;cases hq:q0h E.s x.o.ty ov with
     | none=>exact .inl rfl
     | some p=>
      obtain ⟨i2,j2,r2⟩:=p;refine .inr ?_;simp only;refine hl (.mk k n ov ks,out) (by simp) ((i2,j2),out) ?_
      unfold q3r Ex.name Ex.kind Ex.over;simp only [show q0h E.s o.ty n=some (i,j,r) from h1,if_pos k1]
      refine lM _ (List.mem_map.2 ⟨(i2,j2),?_,rfl⟩);unfold q26;refine List.mem_filterMap.2 ⟨f,h2,?_⟩;rw [if_pos (h4.symm.trans hx0),<- h3,hq];rfl
    refine ⟨fun ho=>?_,fun ho=>?_⟩
    ·subst ho;simp only [lV,Bool.and_eq_true,decide_eq_true_eq];rintro ⟨x,hx,h0,h1⟩;exact ⟨x,hx,h0,h _ (low x hx h0) h1⟩
    ·subst ho;rw [Bool.eq_iff_iff];simp only [lV,Bool.and_eq_true,decide_eq_true_eq];constructor
     ·rintro ⟨x,hx,h0,h1⟩;exact ⟨x,hx,h0,by rw [<- hn _ (low x hx h0)];exact h1⟩
     ·rintro ⟨x,hx,h0,h1⟩;exact ⟨x,hx,h0,by rw [hn _ (low x hx h0)];exact h1⟩
   ·simp only [if_neg k1] at hm ⊢;have k234:k=2\/k=3\/k=4:=by
     refine Classical.byContradiction fun hn=>?_
     rw [if_neg hn] at hm;cases hm
    rw [if_pos k234] at hm;obtain ⟨x1,x2,rfl⟩:∃ a b,ks=[a,b]:=by
     match ks,hm with
     | [a,b],_=>exact ⟨a,b,rfl⟩
     | [],hm=>cases hm
     | [_],hm=>cases hm
     | _ :: _ :: _ :: _,hm=>cases hm
    simp only [two,Bool.and_eq_true] at hm;have hl':∀ p∈q0g x1 out++q0g x2 (out||decide (k=4)),∀ l∈q3r E.s o.ty p.1 p.2,y02 (y05 E.s) l.1+l.2.toNat<=N:=by
     intro p hp;refine hl p ?_;rw [if_neg (by simp)]
     simp only [q10,lU];simpa using hp
    have ha:=ih x1 out hm.1 fun p hp=>hl' p (lY _ hp)
    have hb:=ih x2 (out||decide (k=4)) hm.2 fun p hp=>hl' p (List.mem_append_right _ hp)
    dsimp only;generalize exB E K o m x1=A at ha ⊢;generalize exB E K' o m x1=A' at ha ⊢;generalize exB E K o m x2=B at hb ⊢;generalize exB E K' o m x2=B' at hb ⊢;rcases k234 with rfl | rfl | rfl<;>cases out<;>cases A<;>cases A'<;>cases B<;>cases B'<;>revert ha hb<;>decide
theorem y9c {E:q1o} (hE:yib E) (hc:y0a (y08 E.s)=0) {K K':Nd->Bool} {n:Nd} {i k:Nat} {r:Rl} (hf:q0h E.s n.o.ty n.rl=some (i,k,r)) (h:∀ c,Low E.s (lvN E.s n) false c->K c=true->K' c=true) (hn:∀ c,Low E.s (lvN E.s n) true c->K c=K' c) :
  q1n E K n r=true->q1n E K' n r=true:=by
 obtain ⟨ht0,ty,hty,-,hkr⟩:=q11 hf;have hnm:ty.name=n.o.ty:=by
  obtain ⟨⟨x,hx,hp⟩,-⟩:=firstI_some.1 ht0;rw [hty] at hx;cases hx;exact of_decide_eq_true hp
 have hst:=(q5o hc hty hkr).2;have hlv:lvN E.s n=y02 (y05 E.s) (i,k):=by unfold lvN;rw [hf]
 rw [<- hlv,hnm] at hst;unfold q1n;unfold q1c at hst;by_cases h0:r.refs.length=0
 ·simp only [if_pos h0] at hst ⊢;have hm:y0i 12 r.ex=true:=yco (q28 hc).may ty (lB hty) r (lB hkr) h0;exact (yeg hE h hn n.o 12 r.ex false hm fun p hp l hl=>hst l (List.mem_flatMap.2 ⟨p,hp,hl⟩)).1 rfl
 ·simp only [if_neg h0] at hst ⊢;have low:∀ x∈E.of n,x.rl≠⟨#[]⟩->K x=true->K' x=true:=by
   intro x hx hx0;obtain ⟨i1,k1,r1,h1,f,h2,h3,h4⟩:=hE.ok _ x hx;rw [hf] at h1;cases h1;refine h _ ?_;unfold Low;cases hq:q0h E.s x.o.ty x.rl with
   | none=>exact .inl rfl
   | some p=>
    obtain ⟨i2,j2,r2⟩:=p;refine .inr ?_;have:=hst ((i2,j2),false) (List.mem_filterMap.2 ⟨f,h2,by unfold q1s;rw [if_neg (by rw [<- h4];exact hx0),<- h3,<- h4,hq];rfl⟩)
    unfold lvN at this ⊢;rw [hq];exact this
  simp only [lV];rintro ⟨x,hx,hb⟩;refine ⟨x,hx,?_⟩;by_cases h0:x.rl=⟨#[]⟩
  ·rw [if_pos h0] at hb ⊢;exact hb
  ·rw [if_neg h0] at hb ⊢;exact low x hx h0 hb
theorem Mod.none {E:q1o} {L:List Nd} (h:Mod E L) {n:Nd} (hn:q0h E.s n.o.ty n.rl=Option.none):n ∉ L:=by
 intro hm;obtain ⟨i,hi⟩:=lL hm;obtain ⟨j,k,r,h1,-⟩:=h.step i n hi;rw [hn] at h1;cases h1
theorem Mod.le {E:q1o} {L L':List Nd} (hE:yib E) (hc:y0a (y08 E.s)=0) (h:Mod E L) (h':Mod E L') {v:Nat} (hv:∀ c,lvN E.s c<v->(c∈L↔c∈L')):∀ (i:Nat) (n:Nd),L.idxOf n=i->lvN E.s n=v->n∈L->n∈L':=by
 intro i
 induction i using Nat.strongRecOn with
 | ind i ih=>
  intro n hi hl hn;obtain ⟨j,k,r,hf,hb⟩:=h.step _ n (yl0 hn);refine h'.closed n j k r hf (y9c hE hc hf (fun c hlow hq=>?_) (fun c hlow=>?_) hb)
  ·rw [decide_eq_true_eq,q3b] at hq;rw [decide_eq_true_eq];rcases hlow with h0 | h0
   ·exact absurd hq.1 (h.none h0)
   ·have h0:lvN E.s c<=lvN E.s n:=by simpa using h0
    rcases Nat.lt_or_eq_of_le h0 with h1 | h1
    ·exact (hv c (by omega)).1 hq.1
    ·exact ih _ (by omega) c rfl (by omega) hq.1
  ·rw [Bool.eq_iff_iff,decide_eq_true_eq,decide_eq_true_eq,q3b];rcases hlow with h0 | h0
   ·exact ⟨fun hq=>absurd hq.1 (h.none h0),fun hq=>absurd hq (h'.none h0)⟩
   ·have h0:lvN E.s c<lvN E.s n:=by simpa [Nat.lt_iff_add_one_le] using h0
    have hvc:=hv c (by omega)
    exact ⟨fun hq=>hvc.1 hq.1,fun hq=>⟨hvc.2 hq,h.lev c n (hvc.2 hq) hn h0⟩⟩
theorem Mod.uniq {E:q1o} {L L':List Nd} (hE:yib E) (hc:y0a (y08 E.s)=0) (h:Mod E L) (h':Mod E L') (n:Nd):n∈L↔n∈L':=by
 have key:∀ (v:Nat) (n:Nd),lvN E.s n=v->(n∈L↔n∈L'):=by
  intro v
  induction v using Nat.strongRecOn with
  | ind v ih=>
   intro n hn;have hv:∀ c,lvN E.s c<v->(c∈L↔c∈L'):=fun c hc=>ih _ hc c rfl
   exact ⟨Mod.le hE hc h h' hv _ n rfl hn,Mod.le hE hc h' h (fun c hc=>(hv c hc).symm) _ n rfl hn⟩
 exact key _ n rfl
noncomputable def inB (E:q1o) (n:Nd):Bool:=@decide (∃ K,Mod E K/\n∈K) (Classical.propDecidable _)
theorem y8f {E:q1o} {K:List Nd} (hE:yib E) (hc:y0a (y08 E.s)=0) (h:Mod E K) (n:Nd):decide (n∈K)=inB E n:=by
 unfold inB;rw [Bool.eq_iff_iff,decide_eq_true_eq];exact ⟨fun hn=>(@decide_eq_true_iff _ (Classical.propDecidable _)).2 ⟨K,h,hn⟩,fun hq=>by
  obtain ⟨K',h',hn⟩:=(@decide_eq_true_iff _ (Classical.propDecidable _)).1 hq;exact (Mod.uniq hE hc h' h n).1 hn⟩
theorem yz5 {E:q1o} {K:List Nd} (hE:yib E) (hc:y0a (y08 E.s)=0) (h:Mod E K) {n:Nd} {i k:Nat} {r:Rl} (hf:q0h E.s n.o.ty n.rl=some (i,k,r)):decide (n∈K)=q1n E (fun c=>decide (c∈K)) n r:=by
 rw [Bool.eq_iff_iff,decide_eq_true_eq];refine ⟨fun hn=>?_,h.closed n _ _ _ hf⟩
 obtain ⟨j',k',r',hf',hb⟩:=h.step _ n (yl0 hn);rw [hf] at hf';cases hf';refine y9c hE hc hf (fun c _ hq=>?_) (fun c hlow=>?_) hb
 ·rw [decide_eq_true_eq] at hq ⊢;exact List.mem_of_mem_take hq
 ·rw [Bool.eq_iff_iff,decide_eq_true_eq,decide_eq_true_eq,q3b];refine ⟨fun hq=>hq.1,fun hq=>⟨hq,?_⟩⟩
  rcases hlow with h0 | h0
  ·exact absurd hq (h.none h0)
  ·have h0:lvN E.s c<lvN E.s n:=by simpa [Nat.lt_iff_add_one_le] using h0
   exact h.lev c n hq hn h0
mutual
def yjg:Ex->Bool
 | .mk k _ _ ks=>decide (k=4)||yp6 ks
def yp6:List Ex->Bool
 | []=>false
 | e :: r=>yjg e||yp6 r
end
theorem yeh {E E':q1o} {K K':Nd->Bool} (ho:∀ n x,x∈E.of n->x∈E'.of n) (hk:∀ c,K c=true->K' c=true) (o:Ob) :
  ∀ (m:Nat) (e:Ex),yjg e=false->exB E K o m e=true->exB E' K' o m e=true
 | 0,e,_,h=>by cases h
 | m+1,.mk k n ov ks,h4,h=>by
  have ih:=yeh ho hk o m;unfold exB at h ⊢;unfold yjg at h4;rw [Bool.or_eq_false_iff] at h4;have k4:¬ k=4:=of_decide_eq_false h4.1;by_cases k0:k=0
  ·rw [if_pos k0] at h ⊢;exact hk _ h
  ·rw [if_neg k0] at h ⊢;by_cases k1:k=1
   ·rw [if_pos k1] at h ⊢;simp only [lV,Bool.and_eq_true] at h ⊢;obtain ⟨x,hx,h0,h1⟩:=h;exact ⟨x,ho _ x hx,h0,hk _ h1⟩
   ·rw [if_neg k1] at h ⊢
    match ks,h4.2,h with
    | [a,b],h5,h=>
     unfold yp6 at h5;unfold yp6 at h5;simp only [Bool.or_eq_false_iff] at h5;dsimp only at h ⊢;rw [if_neg k4] at h ⊢;by_cases k2:k=2
     ·rw [if_pos k2,Bool.or_eq_true] at h ⊢;exact h.imp (ih a h5.1) (ih b h5.2.1)
     ·rw [if_neg k2,Bool.and_eq_true] at h ⊢;exact ⟨ih a h5.1 h.1,ih b h5.2.1 h.2⟩
    | [],_,h=>cases h
    | [_],_,h=>cases h
    | _ :: _ :: _ :: _,_,h=>cases h
theorem ym7 {E E':q1o} {K K':Nd->Bool} (hw:E.who=E'.who) (ho:∀ n x,x∈E.of n->x∈E'.of n) (hk:∀ c,K c=true->K' c=true) {n:Nd} {r:Rl} (h4:yjg r.ex=false) (h:q1n E K n r=true):q1n E' K' n r=true:=by
 unfold q1n at h ⊢;by_cases h0:r.refs.length=0
 ·rw [if_pos h0] at h ⊢;exact yeh ho hk _ _ _ h4 h
 ·rw [if_neg h0] at h ⊢;rw [lV] at h ⊢;obtain ⟨x,hx,h1⟩:=h;refine ⟨x,ho _ x hx,?_⟩;by_cases hr:x.rl=⟨#[]⟩
  ·rw [if_pos hr] at h1 ⊢;rw [<- hw];exact h1
  ·rw [if_neg hr] at h1 ⊢;exact hk _ h1
theorem Mod.grow {E E':q1o} {L L':List Nd} (hs:E.s=E'.s) (hw:E.who=E'.who) (ho:∀ n x,x∈E.of n->x∈E'.of n) (hno:∀ t∈E.s,∀ r∈t.rels,yjg r.ex=false) (h:Mod E L) (h':Mod E' L') :
  ∀ (i:Nat) (n:Nd),L.idxOf n=i->n∈L->n∈L':=by
 intro i
 induction i using Nat.strongRecOn with
 | ind i ih=>
  intro n hi hn;obtain ⟨j,k,r,hf,hb⟩:=h.step _ n (yl0 hn);have hf':=hf;rw [hs] at hf';obtain ⟨-,ty,hty,-,hkr⟩:=q11 hf;refine h'.closed n j k r hf' (ym7 hw ho (fun c hq=>?_) (hno ty (lB hty) r (lB hkr)) hb)
  rw [decide_eq_true_eq,q3b] at hq;rw [decide_eq_true_eq];exact ih _ (by omega) c rfl hq.1
set_option maxRecDepth 4000
abbrev yol:Nat:=186
def gwC (bo br bk:Nat) (who:Ob):List AV:=[.map (some bo),.map (some br),.map (some bk),.str who.ty,.str who.id]
structure GW (E:q1o) (bw bo br bk:Nat) (K:List Nd) (S:q00):Prop where
 c:q0m S bw=some (yol,gwC bo br bk E.who,5)
 of:KMap MD ndA S bo (fun n=>ofA (E.of n))
 kn:KMap MD ndA S bk (fun n=>if n∈K then some (.bool true) else none)
 len:∀ n,(E.of n).length<=1125899906842624
theorem q5r {K:List Nd} {n:Nd}:q23 false (.bool false) (if n∈K then some (.bool true) else none)=.bool (decide (n∈K)):=by
 by_cases h:n∈K
 ·rw [if_pos h,decide_eq_true h];rfl
 ·rw [if_neg h,decide_eq_false h];rfl
theorem y3s {p:Nd->Bool}:∀ {xs:List Nd} {w:Nat},q54 (fun w x=>some (p x,w)) xs w=some (xs.any p,w)
 | [],w=>rfl
 | x :: r,w=>by
  rw [y3t,List.any_cons];cases h:p x
  ·dsimp only;rw [y3s,Bool.false_or]
  ·rfl
theorem q5d {xs:List Nd} {g:Nat} {fi ca:List AV} {p:Nd->Bool} {S:q00} (hb:xs.length<=1125899906842624) (hp:∀ x∈xs,AFunS PG g (fi++[.agg (ndC x)]++ca) S (.bool (p x))) :
  AFunS PG y83 [q23 false .nils (ofA xs),.func (.func g) fi ca] S (.bool (xs.any p)):=by
 have q:=q8n (pv:=.nils) (X:=fun _=>False) (St:=fun _ S'=>S'=S) (step:=fun w x=>some (p x,w)) hb (fun x hx w S' hS=>by subst hS;exact hp x hx) (w:=0) rfl
 rw [y3s] at q;exact q
section
variable {E:q1o} {bw bo br bk:Nat} {K:List Nd} {S:q00}
theorem yht (h:GW E bw bo br bk K S) (x:Nd) (k n:AV) (ov:ByteArray) (ks:AV):AFunS PG ys9 ([]++[.agg (ndC x)]++[.rop [.ptr bw 0],.rop [k,n,.str ov,ks]]) S (.bool (decide (x.rl=⟨#[]⟩)&&decide ((⟨x.o,ov⟩:Nd)∈K))):=by
 have hc:=q08 h.c;refine xdu ?_;unfold xax;(try simp only [rwp,zA,zB,zC,zD,zE,zF,zG,zH,zI,rwb,reduceIte,ndC]);cases a1:decide (x.rl=⟨#[]⟩)
 ·(try simp only [rwp,zA,zB,zC,zD,zE,zF,zG,zH,zI,rwb,reduceIte]);exact q04 ⟨rfl,rfl⟩
 ·(try simp only [rwp,zA,zB,zC,zD,zE,zF,zG,zH,zI,rwb,reduceIte,hc,gwC]);have q:=fun K' hk=>h.kn.lki (ok:=false) (z:=.bool false) (K:=K') ke_nd ⟨x.o,ov⟩ hk
  simp only [ndA,ndC] at q;refine q _ ?_;rw [q5r];(try simp only [rwp,zA,zB,zC,zD,zE,zF,zG,zH,zI,rwb,reduceIte]);exact q04 ⟨rfl,rfl⟩
theorem yeq (h:GW E bw bo br bk K S) (o:Ob):∀ (m:Nat) (e:Ex),y0i m e=true->AFunS PG yss [.ptr bw 0,.agg (obC o),.agg (exC e)] S (.bool (exB E (fun c=>decide (c∈K)) o m e))
 | 0,e,hm=>by cases hm
 | m+1,.mk k n ov ks,hm=>by
  have ih:=yeq h o m;have hc:=q08 h.c;refine xeb ?_;unfold xbe exB;unfold y0i at hm;(try simp only [rwp,zA,zB,zC,zD,zE,zF,zG,zH,zI,rwb,reduceIte,obC,q0e,Ex.kind,Ex.name,Ex.over,Ex.kids])
  (refine q02 (fun k0=>?_) (fun k0=>?_)<;>(try simp only [hlc] at k0))
  ·rw [if_pos k0];(try simp only [rwp,zA,zB,zC,zD,zE,zF,zG,zH,zI,rwb,reduceIte,hc,gwC]);have q:=fun K' hk=>h.kn.lki (ok:=false) (z:=.bool false) (K:=K') ke_nd ⟨o,n⟩ hk
   simp only [ndA,ndC] at q;refine q _ ?_;rw [q5r];exact q04 ⟨rfl,rfl⟩
  ·rw [if_neg k0] at hm ⊢
   (refine q02 (fun k1=>?_) (fun k1=>?_)<;>(try simp only [hlc] at k1))
   ·rw [if_pos k1];(try simp only [rwp,zA,zB,zC,zD,zE,zF,zG,zH,zI,rwb,reduceIte,hc,gwC]);have q:=fun K' hk=>h.of.lki (ok:=false) (z:=.nils) (K:=K') ke_nd ⟨o,n⟩ hk
    simp only [ndA,ndC] at q;refine q _ ?_;refine q13 (q5d (h.len _) fun x hx=>yht h x _ _ ov _) ?_
    exact q04 ⟨rfl,rfl⟩
   ·rw [if_neg k1] at hm ⊢;have k234:k=2\/k=3\/k=4:=by
     refine Classical.byContradiction fun hn=>?_
     rw [if_neg hn] at hm;cases hm
    rw [if_pos k234] at hm;obtain ⟨a,b,rfl⟩:∃ a b,ks=[a,b]:=by
     match ks,hm with
     | [a,b],_=>exact ⟨a,b,rfl⟩
     | [],hm=>cases hm
     | [_],hm=>cases hm
     | _ :: _ :: _ :: _,hm=>cases hm
    simp only [two,Bool.and_eq_true] at hm;have ha:=ih a hm.1;have hb:=ih b hm.2;dsimp only;generalize exB E (fun c=>decide (c∈K)) o m a=va at ha ⊢
    generalize exB E (fun c=>decide (c∈K)) o m b=vb at hb ⊢
    obtain ⟨ka,na,oa,ksa⟩:=a;obtain ⟨kb,nb,ob,ksb⟩:=b;simp only [obC,q0e,Ex.kind,Ex.name,Ex.over,Ex.kids] at ha hb;rcases k234 with rfl | rfl | rfl<;>(try simp only [rwp,zA,zB,zC,zD,zE,zF,zG,zH,zI,rwb,reduceIte,Int.reduceEq,q0e,Ex.kind,Ex.name,Ex.over,Ex.kids,lZ,List.getElem?_cons_succ,Option.map_some,List.map_cons])<;>refine q13 ha ?_<;>cases va<;>(try simp only [rwp,zA,zB,zC,zD,zE,zF,zG,zH,zI,rwb,reduceIte,q0e,Ex.kind,Ex.name,Ex.over,Ex.kids,lZ,List.getElem?_cons_succ,Option.map_some,List.map_cons])<;>first
     | exact q04 ⟨rfl,rfl⟩
     | (refine q13 hb ?_;cases vb<;>(try simp only [rwp,zA,zB,zC,zD,zE,zF,zG,zH,zI,rwb,reduceIte])<;>exact q04 ⟨rfl,rfl⟩)
theorem yc0 (h:GW E bw bo br bk K S) (x:Nd):AFunS PG ysr ([]++[.agg (ndC x)]++[.rop [.ptr bw 0]]) S (.bool (if x.rl=⟨#[]⟩ then decide (x.o=E.who) else decide (x∈K))):=by
 have hc:=q08 h.c;have eo:decide (x.o=E.who)=(decide (x.o.ty=E.who.ty)&&decide (x.o.id=E.who.id)):=by
  rw [Bool.eq_iff_iff];cases x.o;cases E.who;simp
 refine xea ?_;unfold xbd;(try simp only [rwp,zA,zB,zC,zD,zE,zF,zG,zH,zI,rwb,reduceIte,ndC]);cases a1:decide (x.rl=⟨#[]⟩)
 ·have a1':=of_decide_eq_false a1;rw [if_neg a1'];(try simp only [rwp,zA,zB,zC,zD,zE,zF,zG,zH,zI,rwb,reduceIte,yfg,yff,a1,hc,gwC]);have q:=fun K' hk=>h.kn.lki (ok:=false) (z:=.bool false) (K:=K') ke_nd x hk
  simp only [ndA,ndC] at q;refine q _ ?_;rw [q5r];(try simp only [rwp,zA,zB,zC,zD,zE,zF,zG,zH,zI,rwb,reduceIte,yfe]);exact q04 ⟨rfl,rfl⟩
 ·have a1':=of_decide_eq_true a1;rw [if_pos a1',eo];(try simp only [rwp,zA,zB,zC,zD,zE,zF,zG,zH,zI,rwb,reduceIte,hc,gwC]);cases a2:(decide (x.o.ty=E.who.ty)&&decide (x.o.id=E.who.id))<;>(try simp only [rwp,zA,zB,zC,zD,zE,zF,zG,zH,zI,rwb,reduceIte,yfg,yff,yfe,a1])<;>exact q04 ⟨rfl,rfl⟩
theorem ym0 (h:GW E bw bo br bk K S) (n:Nd) (r:Rl) (hn:r.name=n.rl) (hm:r.refs.length=0->y0i 12 r.ex=true):AFunS PG ytk [.ptr bw 0,.agg (obC n.o),.agg (rlC r)] S (.bool (q1n E (fun c=>decide (c∈K)) n r)):=by
 have hc:=q08 h.c;refine xf6 ?_;unfold xc9 q1n;(try simp only [rwp,zA,zB,zC,zD,zE,zF,zG,zH,zI,rwb,reduceIte,obC,q0o,hn]);cases a1:decide ((r.refs.length:Int)=0)
 ·have h0:¬ r.refs.length=0:=by have:=of_decide_eq_false a1;omega
  rw [if_neg h0];(try simp only [rwp,zA,zB,zC,zD,zE,zF,zG,zH,zI,rwb,reduceIte,hc,gwC]);have q:=fun K' hk=>h.of.lki (ok:=false) (z:=.nils) (K:=K') ke_nd n hk
  simp only [ndA,ndC] at q;refine q _ ?_;refine q13 (q5d (h.len _) fun x hx=>yc0 h x) ?_
  exact q04 ⟨rfl,rfl⟩
 ·have h0:r.refs.length=0:=by have:=of_decide_eq_true a1;omega
  rw [if_pos h0];have q:=yeq h n.o 12 r.ex (hm h0);generalize r.ex=e at q ⊢;obtain ⟨ka,na,oa,ksa⟩:=e;simp only [obC,q0e,Ex.kind,Ex.name,Ex.over,Ex.kids] at q ⊢;(try simp only [rwp,zA,zB,zC,zD,zE,zF,zG,zH,zI,rwb,reduceIte]);refine q13 q ?_;exact q04 ⟨rfl,rfl⟩
end
set_option maxRecDepth 4000
def y7q (s:List Ty) (nm:ByteArray):Option AV:=match y04 s nm with
 | none=>none
 | some i=>(s[i]?).map fun t=>.sl 6 (t.rels.map rlC)
def yb7 (s:List Ty) (nm:ByteArray):Option AV:=match y04 s nm with
 | none=>none
 | some i=>((y05 s)[i]?).map fun l=>.sl 1 (l.map fun x=>[iv x])
theorem yhs {s:List Ty} {S:q00} {bl bc i k x v:Nat} {mst:Int} {nm:ByteArray} {l:List Nat} (h1:KMap MS AV.str S bl (yb7 s)) (h2:q2e S bc=some [.int .i64 v]) (ht:y04 s nm=some i) (hl:(y05 s)[i]?=some l) (hx:l[k]?=some x) :
  AFunS PG ydi ([]++[.str nm,.int .i64 k]++[.rop [.map (some bl),.int .i64 mst],.ptr bc 0]) S (.bool (decide (x=v))):=by
 refine xg5 ?_;unfold xd8;(try simp only [rwp,zA,zB,zC,zD,zE,zF,zG,zH,zI,rwb,reduceIte]);refine h1.lki q2z nm ?_;have e:yb7 s nm=some (.sl 1 (l.map fun x=>[iv x])):=by unfold yb7;rw [ht];simp [hl]
 rw [e];(try simp only [rwp,zA,zB,zC,zD,zE,zF,zG,zH,zI,rwb,reduceIte,q23,h2,lC,hx,iv]);exact q04 ⟨by simp only [Int.ofNat_inj],rfl⟩
structure KN (bk:Nat) (K:List Nd) (es:List (AV×AV×Nat)) (clk:Nat) (S:q00):Prop where
 map:y01 S bk=some (.map MD es clk)
 key:∀ x∈es,∃ n,x.1=ndA n
 nd:(es.map fun x=>x.2.2).Nodup
 lt:∀ x∈es,x.2.2<clk
 get:∀ n,y09 es (ndA n)=if n∈K then some (.bool true) else none
theorem KN.push {bk:Nat} {K:List Nd} {es:List (AV×AV×Nat)} {clk:Nat} {S:q00} (h:KN bk K es clk S) {n:Nd} (hn:n ∉ K) {KT:q00->Prop}
  (hK:∀ es' clk',KN bk (K++[n]) es' clk' (supd S bk (.map MD es' clk'))->KT (supd S bk (.map MD es' clk'))) :
  meW S MD (.bool false) (.map (some bk)) (ndA n) fun v S=>exW 1 v fun v62=>mtW S (.map (some bk)) v62 (.bool true) KT:=by
 have hq:y09 es (ndA n)=none:=by rw [h.get,if_neg hn]
 have hm:=y3h hq;refine ⟨bk,es,clk,rfl,h.map,ke_nd.ok n,?_⟩;rw [hm];dsimp only;rw [q9o,q5v];have hnd:((es++[(ndA n,AV.bool false,clk)]).map fun x=>x.2.2).Nodup:=by
  rw [lK,List.nodup_append];refine ⟨h.nd,by simp,fun a ha b hb=>?_⟩
  obtain ⟨x,hx,rfl⟩:=List.mem_map.1 ha;have:=h.lt x hx;simp at hb;omega
 have hset:(y0k es (ndA n) (.bool true) clk)=(es++[(ndA n,.bool true,clk)],clk+1):=by unfold y0k;rw [hm]
 refine ⟨bk,MD,es++[(ndA n,.bool false,clk)],clk+1,es.length,ndA n,.bool false,clk,rfl,by rw [q01,if_pos rfl],rfl,q8b hnd (x:=(ndA n,.bool false,clk)) (by simp) rfl,by simp,?_⟩
 have e:(es++[(ndA n,AV.bool false,clk)]).set es.length (ndA n,.bool true,clk)=es++[(ndA n,.bool true,clk)]:=by simp
 rw [e];have e2:supd (supd S bk (.map MD (es++[(ndA n,.bool false,clk)]) (clk+1))) bk (.map MD (es++[(ndA n,.bool true,clk)]) (clk+1))=supd S bk (.map MD (es++[(ndA n,.bool true,clk)]) (clk+1)):=by
  funext c
  unfold supd;split<;>rfl
 rw [e2];refine hK _ _ ⟨by rw [q01,if_pos rfl],fun x hx=>?_,by simpa using hnd,fun x hx=>?_,fun m=>?_⟩
 ·rcases List.mem_append.1 hx with hx | hx
  ·exact h.key x hx
  ·rw [List.mem_singleton.1 hx];exact ⟨n,rfl⟩
 ·rcases List.mem_append.1 hx with hx | hx
  ·have:=h.lt x hx;omega
  ·rw [List.mem_singleton.1 hx];exact Nat.lt_succ_self _
 ·have:=y86 (es:=es) (n:=n) (m:=m) (v:=.bool true) (clk:=clk) h.key;rw [hset] at this;rw [this,h.get];by_cases hmn:m=n
  ·subst hmn;simp
  ·rw [if_neg hmn];simp [List.mem_append,hmn]
abbrev MO:Bool×List EK:=(true,[.str,.str])
def obA (o:Ob):AV:=.agg (obC o)
theorem yz1:KE MO obA:=⟨fun n=>by simp [obA,obC,q0x,q19,y63],fun n m h=>by
 obtain ⟨a,b⟩:=n;obtain ⟨d,e⟩:=m;simp only [obA,obC,AV.agg.injEq,List.cons.injEq,AV.str.injEq,and_true] at h;obtain ⟨rfl,rfl⟩:=h;rfl⟩
section
variable {S0 S S':q00} {t bo:Nat} {Ks Ks':Nat->Prop} {f:Nd->List (List AV)} {es:List (AV×AV×Nat)} {clk:Nat}
theorem OfM.other (h:OfM S0 S t bo Ks f es clk) {v v':AV} (hv:∀ b off n cap,v=.own b off n cap->Ks b) (hk:∀ c o,y01 S c=some o->q0u v c->y01 S' c=some o/\q0u v' c)
  (hK:∀ c,Ks' c->Ks c\/∃ off n cap,v'=.own c off n cap) (hs:∀ c,Ks' c->c≠bo/\y01 S' c≠none):OfM S0 S' t bo Ks' f es clk:=by
 have asd:∀ n u,y09 es (ndA n)=some u->∀ b off k cap,u=.own b off k cap->q0u v b:=by
  intro n u hu b off k cap e b' off' k' cap' e';exact Ne.symm ((h.yes n u hu).2.2.2 b' (hv _ _ _ _ e') b off k cap e)
 have lst:∀ n u,y09 es (ndA n)=some u->∀ b off k cap,u=.own b off k cap->∃ o,y01 S b=some o/\y01 S' b=some o/\q0u v' b:=by
  intro n u hu b off k cap e;subst e;obtain ⟨-,⟨hr,hl⟩,-,-⟩:=h.yes n _ hu;rcases hl with ⟨e,-⟩ | ⟨b1,cap1,e,q1,q2,q3⟩
  ·cases e
  ·cases e
   exact ⟨_,q2,hk b _ q2 (asd n _ hu b _ _ _ rfl)⟩
 have hbo:q0u v bo:=fun b off n cap e=>Ne.symm (h.ks b (hv _ _ _ _ e)).1
 refine ⟨(hk bo _ h.map hbo).1,h.b0,h.key,h.nd,h.ku,h.lt,h.no,fun n u hu=>?_,h.apart,hs⟩
 obtain ⟨k1,⟨hr,hl⟩,k3,k4⟩:=h.yes n u hu;refine ⟨k1,⟨hr,?_⟩,k3,fun c hc=>?_⟩
 ·rcases hl with hl | ⟨b,cap,rfl,q1,q2,q3⟩
  ·exact .inl hl
  ·obtain ⟨o,o1,o2,o3⟩:=lst n _ hu b _ _ _ rfl;rw [q2] at o1;cases o1;exact .inr ⟨b,cap,rfl,q1,o2,q3⟩
 ·rcases hK c hc with hc | ⟨off,m,cap,rfl⟩
  ·exact k4 c hc
  ·intro b off' k cap' e;obtain ⟨o,o1,o2,o3⟩:=lst n u hu b _ _ _ e;exact Ne.symm (o3 c _ _ _ rfl)
theorem OfM.supd (h:OfM S0 S t bo Ks f es clk) {c:Nat} (hc:Ks c) (o:AObj):OfM S0 (supd S c o) t bo Ks f es clk:=by
 refine h.other (v:=.own c 0 0 0) (v':=.nils) (fun b off n cap e=>by cases e;exact hc) (fun b x hb ha=>⟨?_,fun _ _ _ _ e=>by cases e⟩) (fun b hb=>.inl hb) fun b hb=>⟨(h.ks b hb).1,?_⟩
 ·rw [q01,if_neg (Ne.symm (ha c 0 0 0 rfl))];exact hb
 ·rw [q01];split
  ·simp
  ·exact (h.ks b hb).2
theorem OfM.more (h:OfM S0 S t bo Ks f es clk) (hs:Sub S S') (hK:∀ c,Ks' c->Ks c\/y01 S c=none) (hc:∀ c,Ks' c->c≠bo/\y01 S' c≠none):OfM S0 S' t bo Ks' f es clk:=by
 refine ⟨hs _ _ h.map,h.b0,h.key,h.nd,h.ku,h.lt,h.no,fun n u hu=>?_,h.apart,hc⟩
 obtain ⟨k1,k2,k3,k4⟩:=h.yes n u hu;refine ⟨k1,k2.sub hs,k3,fun c hc=>?_⟩
 rcases hK c hc with hc | hc
 ·exact k4 c hc
 ·intro b off k cap e;subst e;obtain ⟨hr,⟨e,-⟩ | ⟨b1,cap1,e,q1,q2,-⟩⟩:=k2
  ·cases e
  ·cases e
   rintro rfl;rw [q2] at hc;cases hc
theorem OfM.nil {bo:Nat} (hb:y01 S0 bo=none) (hs:y01 S bo=some (.map MD [] 0)) (hK:∀ c,Ks c->c≠bo/\y01 S c≠none):OfM S0 S t bo Ks (fun _=>[]) [] 0:=
 ⟨hs,hb,fun x hx=>(by cases hx),by simp,fun i j x y hx=>by simp at hx,fun x hx=>(by cases hx),fun m _=>rfl,fun m v hv=>(by cases hv),fun m p v u _ hv=>(by cases hv),hK⟩
end
set_option maxRecDepth 4000
structure GS (E:q1o) (S0:q00) (bw bo br bk bl:Nat) (K:List Nd) (S:q00):Prop where
 w:q0m S bw=some (yol,gwC bo br bk E.who,5)
 of:KMap MD ndA S bo (fun n=>ofA (E.of n))
 rl:KMap MS AV.str S br (y7q E.s)
 lv:KMap MS AV.str S bl (yb7 E.s)
 kn:∃ es clk,KN bk K es clk S
 nw:bk≠bw
 no:bk≠bo
 nr:bk≠br
 nl:bk≠bl
 len:∀ n,(E.of n).length<=1125899906842624
 sub:Sub S0 S
 nb:y01 S0 bk=none
section
variable {E:q1o} {S0 S:q00} {bw bo br bk bl:Nat} {K K':List Nd}
theorem KN.kmap {es:List (AV×AV×Nat)} {clk:Nat} (h:KN bk K es clk S):KMap MD ndA S bk (fun n=>if n∈K then some (.bool true) else none):=
 ⟨es,clk,mapObj_some.2 h.map,fun x hx=>by obtain ⟨n,e⟩:=h.key x hx;rw [e];exact ke_nd.ok n,h.get⟩
theorem GS.gw (h:GS E S0 bw bo br bk bl K S):GW E bw bo br bk K S:=by
 obtain ⟨es,clk,hk⟩:=h.kn;exact ⟨h.w,h.of,hk.kmap,h.len⟩
theorem GS.set (h:GS E S0 bw bo br bk bl K S) {es:List (AV×AV×Nat)} {clk:Nat} (hk:KN bk K' es clk (supd S bk (.map MD es clk))):GS E S0 bw bo br bk bl K' (supd S bk (.map MD es clk)):=
 ⟨by rw [q0j h.nw];exact h.w,h.of.upd h.no _,h.rl.upd h.nr _,h.lv.upd h.nl _,⟨es,clk,hk⟩,h.nw,h.no,h.nr,h.nl,h.len,Sub.supd h.nb h.sub,h.nb⟩
theorem GS.kb (h:GS E S0 bw bo br bk bl K S):y01 S bk≠none:=by
 obtain ⟨es,clk,hk⟩:=h.kn;rw [hk.map];simp
theorem GS.fresh (h:GS E S0 bw bo br bk bl K S) {c:Nat} (hc:y01 S c=none) (o:AObj):GS E S0 bw bo br bk bl K (supd S c o):=by
 obtain ⟨es,clk,hk⟩:=h.kn;have hcw:c≠bw:=fun e=>q73 h.w (e ▸ hc)
 have hck:c≠bk:=fun e=>h.kb (e ▸ hc)
 exact ⟨by rw [q0j hcw];exact h.w,h.of.fresh hc _,h.rl.fresh hc _,h.lv.fresh hc _,⟨es,clk,⟨by rw [q01,if_neg hck];exact hk.map,hk.key,hk.nd,hk.lt,hk.get⟩⟩,h.nw,h.no,h.nr,h.nl,h.len,Sub.supd (Sub.none h.sub hc) h.sub,h.nb⟩
end
structure RdG (s:List Ty) (L:List Tu) (who:Ob) (T:List Ob) (v:Nat) (K0:List Nd) (i k:Nat) (K:List Nd) (b:Bool):Prop where
 u:Upto (y07 s L who) (q1y s T) v K
 y:b=true->K0.length<K.length
 n:b=false->K=K0/\∀ (i' k':Nat) (o:Ob) (t:Nat) (ty:Ty) (r:Rl),(i'<i\/i'=i/\k'<k)->T[i']?=some o->y04 s o.ty=some t->s[t]?=some ty->ty.rels[k']?=some r->y02 (y05 s) (t,k')=v->q1n (y07 s L who) (fun c=>decide (c∈K0)) ⟨o,r.name⟩ r=true->(⟨o,r.name⟩:Nd)∈K0
theorem RdG.skip {s:List Ty} {L:List Tu} {who:Ob} {T:List Ob} {v:Nat} {K0 K:List Nd} {i k i2 k2:Nat} {b:Bool} (h:RdG s L who T v K0 i k K b)
  (hs:∀ (i' k':Nat) (o:Ob) (t:Nat) (ty:Ty) (r:Rl),(i'<i2\/i'=i2/\k'<k2)->T[i']?=some o->y04 s o.ty=some t->s[t]?=some ty->ty.rels[k']?=some r->y02 (y05 s) (t,k')=v->¬ (i'<i\/i'=i/\k'<k)->q1n (y07 s L who) (fun c=>decide (c∈K)) ⟨o,r.name⟩ r=true->(⟨o,r.name⟩:Nd)∈K):RdG s L who T v K0 i2 k2 K b:=by
 refine ⟨h.u,h.y,fun hb=>?_⟩
 obtain ⟨e,h1⟩:=h.n hb;subst e;refine ⟨rfl,fun i' k' o t ty r hlt a1 a2 a3 a4 a5 a6=>?_⟩
 by_cases hq:i'<i\/i'=i/\k'<k
 ·exact h1 i' k' o t ty r hq a1 a2 a3 a4 a5 a6
 ·exact hs i' k' o t ty r hlt a1 a2 a3 a4 a5 hq a6
theorem ym1 {s:List Ty} {L:List Tu} {who:Ob} (R:Rnd s L who) {S0 S:q00} {bw bo br bk bl bc:Nat} {K:List Nd} {T:List Ob} {v:Nat} {mst:Int} (h:GS (y07 s L who) S0 bw bo br bk bl K S) (hb:y01 S bc=some (.cells 3 [.int .i64 v] 1)) (hne:bk≠bc)
  (hu:Upto (y07 s L who) (q1y s T) v K) (hlT:T.length<=1000000) :
  ACalls PG yud [.ptr bw 0,.sl 2 (T.map obC),.func (.func ydi) [] [.rop [.map (some bl),.int .i64 mst],.ptr bc 0]] S fun ae S'=>ae=.ret (.tup [])/\∃ K',GS (y07 s L who) S0 bw bo br bk bl K' S'/\y01 S' bc=y01 S bc/\Upto (y07 s L who) (q1y s T) v K' /\
   ∀ n j k r,q0h s n.o.ty n.rl=some (j,k,r)->lvN s n=v->n.o∈T->q1n (y07 s L who) (fun c=>decide (c∈K')) n r=true->n∈K':=by
 have hst:=R.os.types;have hcl0:q2e S bc=some [.int .i64 v]:=q08 (objAt_some.2 hb);generalize hF:AV.func (.func ydi) [] [.rop [.map (some bl),.int .i64 mst],.ptr bc 0]=F;refine xg6 ?_;unfold xd9;refine LoopP.introS (fun x:Bool×Nat=>[(0,.ptr bw 0),(1,.sl 2 (T.map obC)),(2,F),(6,.bool x.1)])
  (fun x S'=>∃ K',GS (y07 s L who) S0 bw bo br bk bl K' S'/\y01 S' bc=y01 S bc/\Upto (y07 s L who) (q1y s T) v K'/\x.2=K'.length/\(x.1=false->∀ n j k r,q0h s n.o.ty n.rl=some (j,k,r)->lvN s n=v->n.o∈T->q1n (y07 s L who) (fun c=>decide (c∈K')) n r=true->n∈K'))
  (fun x=>2 * ((q1y s T).length-x.2)+(if x.1 then 1 else 0)) (true,K.length) ⟨K,h,rfl,hu,rfl,fun e=>by cases e⟩ rfl ?_
 rintro ⟨more,kl⟩ S1 ⟨K1,g1,b1,u1,rfl,cl1⟩ kk hkk;dsimp only at cl1 ⊢;cases more
 ·(try simp only [rwp,zA,zB,zC,zD,zE,zF,zG,zH,zI,rwb,reduceIte,yo3]);exact q1x ⟨rfl,K1,g1,b1,u1,cl1 rfl⟩
 ·(try simp only [rwp,zA,zB,zC,zD,zE,zF,zG,zH,zI,rwb,reduceIte,yo3]);clear cl1;refine LoopP.introS (fun x:Nat×Bool=>[(0,.ptr bw 0),(1,.sl 2 (T.map obC)),(2,F),(6,.bool x.2),(13,.sl 2 (T.map obC)),(14,.int .i64 T.length),(15,.int .i64 x.1)])
   (fun x S'=>x.1<=T.length/\y01 S' bc=y01 S bc/\∃ K',GS (y07 s L who) S0 bw bo br bk bl K' S'/\RdG s L who T v K1 x.1 0 K' x.2) (fun x=>T.length-x.1) (0,false)
   ⟨by omega,b1,K1,g1,u1,fun e=>(by cases e),fun _=>⟨rfl,fun i' k' o t ty r hq=>by omega⟩⟩ rfl ?_
  rintro ⟨i,b⟩ S2 ⟨hi,b2,K2,g2,r2⟩ kk1 hkk1;dsimp only at hi r2 ⊢;(try simp only [rwp,zA,zB,zC,zD,zE,zF,zG,zH,zI,rwb,reduceIte,ywg])
  (refine q02 (fun hlti=>?_) (fun hlti=>?_)<;>(try simp only [hlc] at hlti))
  ·obtain ⟨o,hoT⟩:=q0c hlti;have hc2:=q08 g2.w;(try simp only [rwp,zA,zB,zC,zD,zE,zF,zG,zH,zI,rwb,reduceIte,lC,hoT,obC,hc2,gwC]);refine g2.rl.lki q2z o.ty ?_;have ho:o∈T:=lB hoT;have next:∀ (b3:Bool) (S3:q00) (K3:List Nd),y01 S3 bc=y01 S bc->GS (y07 s L who) S0 bw bo br bk bl K3 S3->RdG s L who T v K1 (i+1) 0 K3 b3->rcW kk1 [(0,.ptr bw 0),(1,.sl 2 (T.map obC)),(2,F),(6,.bool b3),(13,.sl 2 (T.map obC)),(14,.int .i64 T.length),(15,.int .i64 (IntKind.i64.wrap (↑i+1)))] S3:=by
    intro b3 S3 K3 h1 h2 h3
    (simp (disch:=omega) only [q05])
    exact q09 rfl (hkk1 (i+1,b3) _ ⟨by dsimp only;omega,h1,K3,h2,h3⟩ (by dsimp only;omega))
   show _;cases ht:y04 s o.ty with
   | none=>
    have e:y7q (y07 s L who).s o.ty=none:=by unfold y7q;rw [show (y07 s L who).s=s from rfl,ht]
    rw [e];(try simp only [rwp,zA,zB,zC,zD,zE,zF,zG,zH,zI,rwb,reduceIte,q23]);refine LoopP.introS (fun _:Unit=>[(0,.ptr bw 0),(1,.sl 2 (T.map obC)),(2,F),(6,.bool b),(8,.rop [.str o.ty,.str o.id]),(13,.sl 2 (T.map obC)),(14,.int .i64 T.length),(15,.int .i64 i),(25,.nils),(26,.int .i64 0),(27,.int .i64 0)]) (fun _ S'=>S'=S2) (fun _=>0) () rfl rfl ?_
    rintro _ S' rfl kk2 hkk2;(try simp only [rwp,zA,zB,zC,zD,zE,zF,zG,zH,zI,rwb,reduceIte,yo2]);refine q3t (next b _ K2 b2 g2 (r2.skip fun i' k' o' t ty r hq a1 a2 a3 a4 a5 a6 a7=>?_))
    exfalso;have e1:i'=i:=by omega
    subst e1;rw [hoT] at a1;cases a1;rw [ht] at a2;cases a2
   | some t=>
    obtain ⟨⟨ty,hty,hnm⟩,-⟩:=firstI_some.1 ht;have hnm:ty.name=o.ty:=of_decide_eq_true hnm;have e:y7q (y07 s L who).s o.ty=some (.sl 6 (ty.rels.map rlC)):=by unfold y7q;rw [show (y07 s L who).s=s from rfl,ht];simp [hty]
    rw [e];(try simp only [rwp,zA,zB,zC,zD,zE,zF,zG,zH,zI,rwb,reduceIte,q23,lA]);have hbr:=(R.os.at hty).rels;refine LoopP.introS (fun x:Nat×Bool=>[(0,.ptr bw 0),(1,.sl 2 (T.map obC)),(2,F),(6,.bool x.2),(8,.rop [.str o.ty,.str o.id]),(13,.sl 2 (T.map obC)),(14,.int .i64 T.length),(15,.int .i64 i),(25,.sl 6 (ty.rels.map rlC)),(26,.int .i64 ty.rels.length),(27,.int .i64 x.1)])
     (fun x S'=>x.1<=ty.rels.length/\y01 S' bc=y01 S bc/\∃ K',GS (y07 s L who) S0 bw bo br bk bl K' S'/\RdG s L who T v K1 i x.1 K' x.2) (fun x=>ty.rels.length-x.1) (0,b) ⟨by omega,b2,K2,g2,r2⟩ rfl ?_
    rintro ⟨k,b'⟩ S3 ⟨hk,b3,K3,g3,r3⟩ kk2 hkk2;dsimp only at hk r3 ⊢;(try simp only [rwp,zA,zB,zC,zD,zE,zF,zG,zH,zI,rwb,reduceIte,yo2])
    (refine q02 (fun hltk=>?_) (fun hltk=>?_)<;>(try simp only [hlc] at hltk))
    ·obtain ⟨r,hr⟩:=q0c hltk;have hf:q0h s o.ty r.name=some (t,k,r):=by rw [<- hnm];exact y8k (q28 R.c) hty hr
     have hlvn:lvN s ⟨o,r.name⟩=y02 (y05 s) (t,k):=by unfold lvN;rw [hf]
     obtain ⟨lv,hl1,hl2⟩:=q7x (q45 s) hty;obtain ⟨x,hx⟩:∃ x,lv[k]?=some x:=⟨_,lE (by omega)⟩
     have hgl:y02 (y05 s) (t,k)=x:=by unfold y02;simp [hl1,hx]
     (try simp only [rwp,zA,zB,zC,zD,zE,zF,zG,zH,zI,rwb,reduceIte,lC,hr,q0o]);refine yuz rfl ?_;(try simp only [rwp,zA,zB,zC,zD,zE,zF,zG,zH,zI,rwb,reduceIte,hnm]);have q0:=yhs (mst:=mst) (k:=k) g3.lv (q08 (objAt_some.2 (b3.trans hb))) ht hl1 hx;rw [<- hF];refine y6a q0 ?_;rw [hF];have go:∀ {S4:q00} {b4:Bool} {K4:List Nd},y01 S4 bc=y01 S bc->GS (y07 s L who) S0 bw bo br bk bl K4 S4->RdG s L who T v K1 i (k+1) K4 b4->rcW kk2 [(0,.ptr bw 0),(1,.sl 2 (T.map obC)),(2,F),(6,.bool b4),(8,.rop [.str o.ty,.str o.id]),(13,.sl 2 (T.map obC)),(14,.int .i64 T.length),(15,.int .i64 i),(25,.sl 6 (ty.rels.map rlC)),(26,.int .i64 ty.rels.length),(27,.int .i64 (IntKind.i64.wrap (↑k+1)))] S4:=by
      intro S4 b4 K4 h1 h2 h3
      (simp (disch:=omega) only [q05])
      exact q09 rfl (hkk2 (k+1,b4) _ ⟨by dsimp only;omega,h1,K4,h2,h3⟩ (by dsimp only;omega))
     have nx:(q1n (y07 s L who) (fun c=>decide (c∈K3)) ⟨o,r.name⟩ r=true->x=v->(⟨o,r.name⟩:Nd)∈K3)->RdG s L who T v K1 i (k+1) K3 b':=fun hq=>r3.skip fun i' k' o' t' ty' r' hlt a1 a2 a3 a4 a5 a6 a7=>by
      have e1:i'=i:=by omega
      have e3:k'=k:=by omega
      subst e1 e3;rw [hoT] at a1;cases a1;rw [ht] at a2;cases a2;rw [hty] at a3;cases a3;rw [hr] at a4;cases a4;exact hq a7 (by rw [<- hgl];exact a5)
     cases g5:decide (x=v)
     ·(try simp only [rwp,zA,zB,zC,zD,zE,zF,zG,zH,zI,rwb,reduceIte,yaj,y4z,y4y]);exact go b3 g3 (nx fun _ e=>absurd e (of_decide_eq_false g5))
     ·have hc3:=q08 g3.w;(try simp only [rwp,zA,zB,zC,zD,zE,zF,zG,zH,zI,rwb,reduceIte,hc3,gwC]);have q:=fun K' hk=>g3.gw.kn.lki (ok:=false) (z:=.bool false) (K:=K') ke_nd ⟨o,r.name⟩ hk
      simp only [ndA,ndC] at q;refine q _ ?_;rw [q5r];cases g6:decide ((⟨o,r.name⟩:Nd)∈K3)
      ·have q2:=ym0 g3.gw ⟨o,r.name⟩ r rfl (fun h0=>yco (q28 R.c).may ty (lB hty) r (lB hr) h0)
       simp only [obC,q0o] at q2;(try simp only [rwp,zA,zB,zC,zD,zE,zF,zG,zH,zI,rwb,reduceIte,yaj]);refine q13 q2 ?_;cases g7:q1n (y07 s L who) (fun c=>decide (c∈K3)) ⟨o,r.name⟩ r
       ·(try simp only [rwp,zA,zB,zC,zD,zE,zF,zG,zH,zI,rwb,reduceIte,y4z,y4y]);exact go b3 g3 (nx fun h=>by rw [g7] at h;cases h)
       ·have hn:(⟨o,r.name⟩:Nd) ∉ K3:=of_decide_eq_false g6;have hu4:=r3.u.snoc R.e R.c (n:=⟨o,r.name⟩) hf (by show lvN s ⟨o,r.name⟩=v;rw [hlvn,hgl];exact of_decide_eq_true g5) hn (y1d hf ho) g7
        obtain ⟨es,clk,hkn⟩:=g3.kn;(try simp only [rwp,zA,zB,zC,zD,zE,zF,zG,zH,zI,rwb,reduceIte,y4z,hc3,gwC]);refine hkn.push (n:=⟨o,r.name⟩) hn fun es' clk' hk4=>?_
        (try simp only [rwp,zA,zB,zC,zD,zE,zF,zG,zH,zI,rwb,reduceIte,y4y]);refine go (b4:=true) (by rw [q01,if_neg hne];exact b3) (g3.set hk4) ⟨hu4,fun _=>?_,fun h=>by cases h⟩
        rw [lH,lP];cases b' with
        | true=>have:=r3.y rfl;omega
        | false=>rw [(r3.n rfl).1];omega
      ·(try simp only [rwp,zA,zB,zC,zD,zE,zF,zG,zH,zI,rwb,reduceIte,yaj,y4z,y4y]);exact go b3 g3 (nx fun _ _=>of_decide_eq_true g6)
    ·(try simp only [rwp,zA,zB,zC,zD,zE,zF,zG,zH,zI,rwb,reduceIte]);refine next b' S3 K3 b3 g3 (r3.skip fun i' k' o' t' ty' r' hq a1 a2 a3 a4 a5 a6 a7=>?_)
     exfalso;have e1:i'=i:=by omega
     subst e1;rw [hoT] at a1;cases a1;rw [ht] at a2;cases a2;rw [hty] at a3;cases a3;have:=(List.getElem?_eq_some_iff.1 a4).1;omega
  ·(try simp only [rwp,zA,zB,zC,zD,zE,zF,zG,zH,zI,rwb,reduceIte]);refine q09 rfl (hkk (b,K2.length) _ ⟨K2,g2,b2,r2.u,rfl,fun hbf=>?_⟩ ?_)
   ·dsimp only at hbf;obtain ⟨e,hq⟩:=r2.n hbf;subst e;intro n j k r hf hl hT hbd;obtain ⟨a,ha⟩:=lL hT;obtain ⟨ht0,ty,hty,hrl,hkr⟩:=q11 hf;have hrn:r.name=n.rl:=by
     obtain ⟨⟨x,hx,hp⟩,-⟩:=firstI_some.1 hrl;rw [hkr] at hx;cases hx;exact of_decide_eq_true hp
    have hlv:y02 (y05 s) (j,k)=v:=by rw [<- hl];unfold lvN;rw [hf]
    have hlt2:=(List.getElem?_eq_some_iff.1 ha).1;have:=hq a k n.o j ty r (.inl (by omega)) ha ht0 hty hkr hlv (by rw [hrn];exact hbd)
    rw [hrn] at this;exact this
   ·have hn2:=y84 r2.u.nd r2.u.sub;dsimp only;cases b with
    | false=>rw [(r2.n rfl).1];simp
    | true=>have:=r2.y rfl;simp;omega
set_option maxRecDepth 4000
def y2t (s:List Ty) (i:Nat) (nm:ByteArray):Option AV:=match y04 s nm with
 | none=>none
 | some j=>if j<i then ((y05 s)[j]?).map fun l=>.sl 1 (l.map fun x=>[iv x]) else none
def y5f (s:List Ty) (i:Nat) (nm:ByteArray):Option AV:=match y04 s nm with
 | none=>none
 | some j=>if j<i then (s[j]?).map fun t=>.sl 6 (t.rels.map rlC) else none
theorem yko (s:List Ty) (nm:ByteArray):y2t s s.length nm=yb7 s nm:=by
 unfold y2t yb7;cases h:y04 s nm with
 | none=>rfl
 | some j=>
  obtain ⟨⟨t,ht,-⟩,-⟩:=firstI_some.1 h;have:=(List.getElem?_eq_some_iff.1 ht).1;simp [this]
theorem yj9 (s:List Ty) (nm:ByteArray):y5f s s.length nm=y7q s nm:=by
 unfold y5f y7q;cases h:y04 s nm with
 | none=>rfl
 | some j=>
  obtain ⟨⟨t,ht,-⟩,-⟩:=firstI_some.1 h;have:=(List.getElem?_eq_some_iff.1 ht).1;simp [this]
theorem yh1 {s:List Ty} (hg:GoodS s) {i:Nat} {t:Ty} {l:List Nat} (ht:s[i]?=some t) (hl:(y05 s)[i]?=some l) (nm:ByteArray):@ite (Option AV) (nm=t.name) (Classical.propDecidable (nm=t.name)) (some (.sl 1 (l.map fun x=>[iv x]))) (y2t s i nm)=y2t s (i+1) nm:=by
 have hi:=y5u hg ht;by_cases h:nm=t.name
 ·subst h;rw [if_pos rfl];unfold y2t;rw [hi];simp [hl]
 ·rw [if_neg h];unfold y2t;cases hq:y04 s nm with
  | none=>rfl
  | some j=>
   have hj:j≠i:=by
    rintro rfl;obtain ⟨⟨x,hx,hp⟩,-⟩:=firstI_some.1 hq;rw [ht] at hx;cases hx;exact h (of_decide_eq_true hp).symm
   dsimp only;by_cases h1:j<i
   ·rw [if_pos h1,if_pos (by omega)]
   ·rw [if_neg h1,if_neg (by omega)]
theorem ygr {s:List Ty} (hg:GoodS s) {i:Nat} {t:Ty} (ht:s[i]?=some t) (nm:ByteArray):@ite (Option AV) (nm=t.name) (Classical.propDecidable (nm=t.name)) (some (.sl 6 (t.rels.map rlC))) (y5f s i nm)=y5f s (i+1) nm:=by
 have hi:=y5u hg ht;by_cases h:nm=t.name
 ·subst h;rw [if_pos rfl];unfold y5f;rw [hi];simp [ht]
 ·rw [if_neg h];unfold y5f;cases hq:y04 s nm with
  | none=>rfl
  | some j=>
   have hj:j≠i:=by
    rintro rfl;obtain ⟨⟨x,hx,hp⟩,-⟩:=firstI_some.1 hq;rw [ht] at hx;cases hx;exact h (of_decide_eq_true hp).symm
   dsimp only;by_cases h1:j<i
   ·rw [if_pos h1,if_pos (by omega)]
   ·rw [if_neg h1,if_neg (by omega)]
abbrev yrw:Nat:=189
structure RkI (s:List Ty) (S:q00) (b4 bm b5:Nat) (i:Nat) (m:Nat) (S':q00):Prop where
 sub:Sub S S'
 c4:q0m S' b4=some (yrw,[.map none,.int .i64 0],2)
 c5:q0m S' b5=some (yrw,[.map (some bm),.int .i64 m],2)
 mp:KMap MS AV.str S' bm (y2t s i)
 le:m<=q0n s
 up:∀ (j k x:Nat) (l:List Nat),j<i->(y05 s)[j]?=some l->l[k]?=some x->x<=m
theorem yzv {s:List Ty} (hs:OkS s) (hc:y0a (y08 s)=0) (S:q00) :
  ACalls PG yue [scA s,.sl 1 (lvC (y05 s))] S fun ae S'=>∃ bl m:Nat,ae=.ret (.agg [.map (some bl),.int .i64 m])/\Sub S S'/\y01 S bl=none/\KMap MS AV.str S' bl (yb7 s)/\m<=q0n s/\∀ (j k x:Nat) (l:List Nat),(y05 s)[j]?=some l->l[k]?=some x->x<=m:=by
 have hg:=q28 hc;have hmany:=hg.many;have hst:=hs.types;have hll:=y58 (q45 s);refine xg7 ?_;unfold xda;(try simp only [rwp,zA,zB,zC,zD,zE,zF,zG,zH,zI,rwb,reduceIte,scA]);intro b4 hb4 bm hbm;obtain ⟨dm4,hbm'⟩:=yij hbm;(try simp only [rwp,zA,zB,zC,zD,zE,zF,zG,zH,zI,rwb,reduceIte]);intro b5 hb5;obtain ⟨d5m,hb5'⟩:=yij hb5;obtain ⟨d54,hb5'⟩:=yij hb5';(try simp only [rwp,zA,zB,zC,zD,zE,zF,zG,zH,zI,rwb,reduceIte,lA]);generalize hS3:supd _ b5 _=S3;have h4:q0m S3 b4=some (yrw,[.map none,.int .i64 0],2):=by rw [<- hS3];(try simp only [rwp,zA,zB,zC,zD,zE,zF,zG,zH,zI,rwb,reduceIte,Ne.symm d54,Ne.symm dm4,d54,dm4])
 have h5:q0m S3 b5=some (yrw,[.map (some bm),.int .i64 0],2):=by rw [<- hS3];(try simp only [rwp,zA,zB,zC,zD,zE,zF,zG,zH,zI,rwb,reduceIte])
 have hm:KMap MS AV.str S3 bm (y2t s 0):=by
  refine ⟨[],0,mapObj_some.2 (by rw [<- hS3];rw [q01,if_neg d5m,q01,if_pos rfl]),fun x hx=>(by cases hx),fun k=>?_⟩
  rw [q5l];unfold y2t;cases y04 s k with
  | none=>rfl
  | some j=>simp
 have hsub:Sub S S3:=by rw [<- hS3];first | exact Sub.supd hb5' (Sub.supd hb5' (Sub.supd hbm' (Sub.supd hb4 (Sub.refl _)))) | exact Sub.supd hb5' (Sub.supd hbm' (Sub.supd hb4 (Sub.refl _)))
 clear hS3;refine LoopP.introS (fun i:Nat=>[(1,.sl 1 (lvC (y05 s))),(4,.ptr b4 0),(5,.ptr b5 0),(13,.sl 2 (s.map tyC)),(14,.int .i64 s.length),(15,.int .i64 i)])
  (fun i S'=>i<=s.length/\∃ m,RkI s S b4 bm b5 i m S') (fun i=>s.length-i) 0 ⟨by omega,0,hsub,h4,h5,hm,Nat.zero_le _,fun j k x l hj=>by omega⟩ rfl ?_
 rintro i S1 ⟨hi,m,r1⟩ kk hkk;(try simp only [rwp,zA,zB,zC,zD,zE,zF,zG,zH,zI,rwb,reduceIte,ywi])
 (refine q02 (fun hlt=>?_) (fun hlt=>?_)<;>(try simp only [hlc] at hlt))
 ·obtain ⟨t,ht⟩:=q0c hlt;obtain ⟨l,hl1,hl2⟩:=q7x (q45 s) ht;have hcl:(lvC (y05 s))[i]?=some [.sl 1 (l.map fun x=>[iv x])]:=by rw [lvC,lC,hl1];rfl
  have hc5:=q08 r1.c5;(try simp only [rwp,zA,zB,zC,zD,zE,zF,zG,zH,zI,rwb,reduceIte,lC,ht,tyC]);refine yuz rfl ?_;(try simp only [rwp,zA,zB,zC,zD,zE,zF,zG,zH,zI,rwb,reduceIte,hc5,hcl]);refine r1.mp.mu q2z t.name fun es clk hk=>?_
  have hne5:bm≠b5:=by rintro rfl;have h1:=objAt_some.1 r1.c5;obtain ⟨es,clk,h2,-⟩:=r1.mp;rw [mapObj_some.1 h2] at h1;cases h1
  have hne4:bm≠b4:=by rintro rfl;have h1:=objAt_some.1 r1.c4;obtain ⟨es,clk,h2,-⟩:=r1.mp;rw [mapObj_some.1 h2] at h1;cases h1
  have hne45:b5≠b4:=d54;have r2:∃ m',RkI s S b4 bm b5 i m' (supd S1 bm (.map MS es clk))\/True:=⟨m,.inr trivial⟩;have hsub1:Sub S (supd S1 bm (.map MS es clk)):=Sub.supd hbm' r1.sub;have c41:q0m (supd S1 bm (.map MS es clk)) b4=some (yrw,[.map none,.int .i64 0],2):=by rw [q0j hne4];exact r1.c4
  have c51:q0m (supd S1 bm (.map MS es clk)) b5=some (yrw,[.map (some bm),.int .i64 m],2):=by rw [q0j hne5];exact r1.c5
  have mp1:=hk.cong (yh1 hg ht hl1);generalize supd S1 bm (.map MS es clk)=S2 at hsub1 c41 c51 mp1 ⊢;(try simp only [rwp,zA,zB,zC,zD,zE,zF,zG,zH,zI,rwb,reduceIte,hcl,lA]);refine LoopP.introS (fun x:Nat=>[(1,.sl 1 (lvC (y05 s))),(4,.ptr b4 0),(5,.ptr b5 0),(13,.sl 2 (s.map tyC)),(14,.int .i64 s.length),(15,.int .i64 i),(31,.sl 1 (l.map fun x=>[iv x])),(32,.int .i64 l.length),(33,.int .i64 x)])
   (fun x S'=>x<=l.length/\∃ m':Nat,Sub S S'/\q0m S' b4=some (yrw,[.map none,.int .i64 0],2)/\q0m S' b5=some (yrw,[.map (some bm),.int .i64 m'],2)/\KMap MS AV.str S' bm (y2t s (i+1))/\m<=m'/\m'<=q0n s/\∀ (k y:Nat),k<x->l[k]?=some y->y<=m') (fun x=>l.length-x) 0
   ⟨by omega,m,hsub1,c41,c51,mp1,Nat.le_refl _,r1.le,fun k y hk=>by omega⟩ rfl ?_
  rintro x S3 ⟨hx,m',k1,k2,k3,k4,k5,k6,k7⟩ kk2 hkk2;(try simp only [rwp,zA,zB,zC,zD,zE,zF,zG,zH,zI,rwb,reduceIte,ywh])
  (refine q02 (fun hltx=>?_) (fun hltx=>?_)<;>(try simp only [hlc] at hltx))
  ·obtain ⟨y,hy⟩:=q0c hltx;have hyb:y<=q0n s:=by
    obtain ⟨r,hr⟩:∃ r,t.rels[x]?=some r:=⟨_,lE (by omega)⟩
    have:=(q5o hc ht hr).1;unfold y02 at this;simpa [hl1,hy] using this
   have hc3:=q08 k3;(try simp only [rwp,zA,zB,zC,zD,zE,zF,zG,zH,zI,rwb,reduceIte,lC,hy,iv,hc3,k3]);have hrl:=(hs.at ht).rels
   (simp (disch:=omega) only [q05])
   have e:(if (m':Int)<y then (y:Int) else (m':Int))=((max m' y:Nat):Int):=by
    split<;>omega
   rw [e];refine q09 rfl (hkk2 (x+1) _ ⟨by omega,max m' y,Sub.supd hb5' k1,by rw [q0j hne45];exact k2,q0f,k4.upd (Ne.symm hne5) _,by omega,by omega,fun k z hk hz=>?_⟩ (by omega))
   rcases Nat.lt_succ_iff_lt_or_eq.1 hk with h1 | rfl
   ·exact Nat.le_trans (k7 k z h1 hz) (Nat.le_max_left _ _)
   ·rw [hy] at hz;cases hz;exact Nat.le_max_right _ _
  ·(try simp only [rwp,zA,zB,zC,zD,zE,zF,zG,zH,zI,rwb,reduceIte])
   (simp (disch:=omega) only [q05])
   refine q09 rfl (hkk (i+1) _ ⟨by omega,m',k1,k2,k3,k4,k6,fun j k z l' hj hl' hz=>?_⟩ (by omega))
   rcases Nat.lt_succ_iff_lt_or_eq.1 hj with h1 | rfl
   ·exact Nat.le_trans (r1.up j k z l' h1 hl' hz) k5
   ·rw [hl1] at hl';cases hl';have hk:=(List.getElem?_eq_some_iff.1 hz).1;exact k7 k z (by omega) hz
 ·have e:i=s.length:=by omega
  subst e;have hc5:=q08 r1.c5;have o4:=r1.c4;(try simp only [rwp,zA,zB,zC,zD,zE,zF,zG,zH,zI,rwb,reduceIte,hc5,o4]);have mp2:=r1.mp.cong (yko s);have hne4:bm≠b4:=dm4;refine q1d (y0d S1 b4) ?_ ?_
  ·intro c o hc;rw [q0b] at hc;split at hc
   ·cases hc
   ·rename_i hn
    rw [q0b,if_neg hn,q01,if_neg hn];exact hc
  ·refine ⟨bm,m,rfl,fun c o hc=>?_,hbm',?_,r1.le,fun j k x l hl hx=>?_⟩
   ·rw [q0b,if_neg (q0p hb4 hc)];exact r1.sub c o hc
   ·obtain ⟨es,clk,h1,h2,h3⟩:=mp2;exact ⟨es,clk,mapObj_some.2 (by rw [q0b,if_neg (Ne.symm hne4)];exact mapObj_some.1 h1),h2,h3⟩
   ·have:=(List.getElem?_eq_some_iff.1 hl).1;exact r1.up j k x l (by omega) hl hx
end Go.HL
