/- A part of a proof. -/
import Derived.Test.YtadmdlpmikoghaaGreatKmM2
import Derived.Maps.RangeRun
import Derived.Lib.Strings
set_option maxRecDepth 4000
set_option linter.unusedSimpArgs false
set_option linter.unusedVariables false
namespace Go.HL
open Nat renaming reduceAdd→zA,reduceLeDiff→zB,reduceLT→zC,reduceSub→zD,reduceMul→zE,reduceEqDiff→zF,reduceBEq→zG
open Int renaming reduceAdd→zH,reduceToNat→zI
section
variable {D:AV} {pt:Nat→AV} {SS:(Nat→Ob)→q00} {n g:Nat} {c:Ob→Ob→Int}
structure PqA where
 a:Nat
 b:Nat
 lim:Nat
 wb:Bool
 wp:Bool
theorem c_pdq (hD:Dat D pt SS n) (hg:∀ x y,AFun PG g [.agg (obC x),.agg (obC y)] (.int .i64 (c x y))) (ho:LtOk (ltC c)):∀ (N a b lim:Nat) (v:Nat→Ob),b≤a+N→a≤b→b≤n→b<a+256→lim≤1000→PreF (ltC c) a b v →
  ACalls PG nrx115 [D,.int .i64 a,.int .i64 b,.int .i64 lim,fnG g] (SS v) fun ae S'=>ae=.ret (.tup [])∧∃ w,S'=SS w∧Rng n a b v w∧Srt (ltC c) a b w:=by
 have hn:=hD.bd
 intro N
 induction N using Nat.strongRecOn with
 | ind N ih=>
 intro A B lim v hN hAB hB hl hlm hp
 refine wx115 ?_
 unfold Bx115
 generalize hQ:(fun ae S'=>ae=AEnd.ret (.tup [])∧∃ w,S'=SS w∧Rng n A B v w∧Srt (ltC c) A B w)=QF
 have fin:∀ w:Nat→Ob,Rng n A B v w→Srt (ltC c) A B w→rtW [] QF (SS w):=fun w h1 h2=>by
  subst hQ
  exact q2b ⟨rfl,w,rfl,h1,h2⟩
 refine LoopP.introS (fun x:PqA=>[(0,D),(1,.int .i64 x.a),(2,.int .i64 x.b),(3,.int .i64 x.lim),(4,fnG g),(10,.bool x.wb),(11,.bool x.wp)]) (fun x S'=>x.lim≤1000∧∃ w,S'=SS w∧Rng n A B v w∧Pdq (ltC c) A B x.a x.b w) (fun x=>x.b-x.a) ⟨A,B,lim,true,true⟩
  ⟨hlm,v,rfl,Rng.refl _ _ _ _,Pdq.start hAB⟩ rfl ?_
 rintro ⟨a,b,lim,wb,wp⟩ S1 ⟨hlm,w,rfl,hr,hq⟩ kk hkk
 dsimp only at hq hlm ⊢
 have q1:=hq.pa
 have q2:=hq.ab
 have q3:=hq.pb
 -- a part is put in order,the rest is
 have done:∀ (w x:Nat→Ob),Rng n A B v w→Pdq (ltC c) A B a b w→Rng n a b w x→Srt (ltC c) a b x→rtW [] QF (SS x):=fun w x h1 h2 h3 h4=>fin x (h1.trans (h3.mono q1 q3)) ((h2.rng hB h3).done ho h4)
 (try simp only [rwp,zA,zB,zC,zD,zE,zF,zG,zH,zI,rwb,reduceIte,C115_1])
 (try (simp (disch:=omega) only [q03]))
 cases a1:decide ((b:Int)-a≤12)
 ·have h12:a+12<b:=by have:=of_decide_eq_false a1;omega
  (try simp only [rwp,zA,zB,zC,zD,zE,zF,zG,zH,zI,rwb,reduceIte])
  cases a2:decide ((lim:Int)=0)
  ·have hlim:lim≠0:=fun h=>(of_decide_eq_false a2) (by rw [h];rfl)
   -- from the choice of a pivot on
   have p7:∀ (w:Nat→Ob) (lim:Nat) (wb wp:Bool) (p:Nat) (b7:Bool),lim≤1000→Rng n A B v w→Pdq (ltC c) A B a b w→a≤p→p<b→(b7=true→0<a∧Le (ltC c) (w p) (w (a-1))) →
     C115_7 QF kk D (.int .i64 a) (.int .i64 b) (.int .i64 lim) (fnG g) (.bool wb) (.bool wp) (.int .i64 ((b:Int)-a)) (.int .i64 p) (.bool b7) (SS w):=by
    intro w lim wb wp p b7 hlm hr hq hp1 hp2 h7
    cases b7
    ·(try simp only [rwp,zA,zB,zC,zD,zE,zF,zG,zH,zI,rwb,reduceIte,C115_7])
     refine q0c (c_partition hD hg ho hp1 hp2 (by omega) w) ?_
     rintro ae S2 ⟨x,m,al,rfl,rfl,hx,hc⟩
     have hc1:=hc.ca
     have hc2:=hc.cb
     have hrx:=hr.trans (hx.mono q1 q3)
     have hqx:=hq.rng hB hx
     have hpx:=Pdq.pre hp hB hrx hqx
     dsimp only
     (try simp only [rwp,zA,zB,zC,zD,zE,zF,zG,zH,zI,rwb,reduceIte])
     (try (simp (disch:=omega) only [q03]))
     refine quoN (a:=b-a) (b:=8) (by omega) rfl (by omega) (by omega) ?_
     (try simp only [rwp,zA,zB,zC,zD,zE,zF,zG,zH,zI,rwb,reduceIte])
     cases a3:decide ((m:Int)-a<(b:Int)-m)
     ·(try simp only [rwp,zA,zB,zC,zD,zE,zF,zG,zH,zI,rwb,reduceIte])
      (try (simp (disch:=omega) only [q03]))
      rw [show (m:Int)+1=((m+1:Nat):Int) by omega]
      refine q0c (ih (b-(m+1)) (by omega) (m+1) b lim x (by omega) (by omega) (by omega) (by omega) hlm (fun _ k k1 k2=>hc.r k (by omega) k2)) ?_
      rintro ae S3 ⟨rfl,y,rfl,hy,hys⟩
      dsimp only
      exact q09 rfl (hkk ⟨a,m,lim,_,al⟩ _ ⟨hlm,y,rfl,hrx.trans (hy.mono (by omega) q3),(hqx.rng hB (hy.mono (by omega) (Nat.le_refl _))).right ho (hc.right (by omega) hy) hys⟩ (by dsimp only;omega))
     ·(try simp only [rwp,zA,zB,zC,zD,zE,zF,zG,zH,zI,rwb,reduceIte])
      (try (simp (disch:=omega) only [q03]))
      refine q0c (ih (m-a) (by omega) a m lim x (by omega) (by omega) (by omega) (by omega) hlm (fun h0 k k1 k2=>hpx h0 k k1 (by omega))) ?_
      rintro ae S3 ⟨rfl,y,rfl,hy,hys⟩
      dsimp only
      (try simp only [rwp,zA,zB,zC,zD,zE,zF,zG,zH,zI,rwb,reduceIte])
      (try (simp (disch:=omega) only [q03]))
      rw [show (m:Int)+1=((m+1:Nat):Int) by omega]
      exact q09 rfl (hkk ⟨m+1,b,lim,_,al⟩ _ ⟨hlm,y,rfl,hrx.trans (hy.mono q1 (by omega)),(hqx.rng hB (hy.mono (Nat.le_refl _) (by omega))).left ho (hc.left (by omega) hy) hys⟩ (by dsimp only;omega))
    ·obtain ⟨h0,hle⟩:=h7 rfl
     (try simp only [rwp,zA,zB,zC,zD,zE,zF,zG,zH,zI,rwb,reduceIte,C115_7])
     refine q0c (c_partitionE hD hg ho hp1 hp2 (by omega) w) ?_
     rintro ae S2 ⟨x,m,rfl,rfl,hx,hxa,hm1,hm2,hxl⟩
     dsimp only
     have hpw:=Pdq.pre hp hB hr hq
     refine q09 rfl (hkk ⟨m,b,lim,wb,wp⟩ _ ⟨hlm,x,rfl,hr.trans (hx.mono q1 q3),(hq.rng hB hx).same ho (by dsimp only;omega) hm2 (fun k k1 k2=>?_) hxl⟩ (by dsimp only;omega))
     obtain ⟨j,j1,j2,e⟩:=hx.mem (by omega) k1 k2
     rw [hxa,e]
     exact hle.trans ho (hpw h0 j j1 j2)
   have p6:∀ (w:Nat→Ob) (lim:Nat) (wb wp:Bool) (p:Nat),lim≤1000→Rng n A B v w→Pdq (ltC c) A B a b w→a≤p→p<b →
     C115_6 QF kk D (.int .i64 a) (.int .i64 b) (.int .i64 lim) (fnG g) (.bool wb) (.bool wp) (.int .i64 ((b:Int)-a)) (.int .i64 p) (SS w):=by
    intro w lim wb wp p hlm hr hq hp1 hp2
    (try simp only [rwp,zA,zB,zC,zD,zE,zF,zG,zH,zI,rwb,reduceIte,C115_6])
    cases a3:decide ((0:Int)<a)
    ·(try simp only [rwp,zA,zB,zC,zD,zE,zF,zG,zH,zI,rwb,reduceIte])
     exact p7 w lim wb wp p false hlm hr hq hp1 hp2 fun h=>by cases h
    ·have h0:=of_decide_eq_true a3
     (try simp only [rwp,zA,zB,zC,zD,zE,zF,zG,zH,zI,rwb,reduceIte])
     (try (simp (disch:=omega) only [q03]))
     refine hD.cmp hg (i:=a-1) (j:=p) (by omega) rfl (by omega) (by omega) ?_
     (try simp only [rwp,zA,zB,zC,zD,zE,zF,zG,zH,zI,rwb,reduceIte])
     cases a4:decide (c (w (a-1)) (w p)<0)
     ·exact p7 w lim wb wp p true hlm hr hq hp1 hp2 fun _=>⟨by omega,a4⟩
     ·exact p7 w lim wb wp p false hlm hr hq hp1 hp2 fun h=>by cases h
   have p5:∀ (w:Nat→Ob) (lim:Nat) (wb wp:Bool) (p:Nat) (b5:Bool),lim≤1000→Rng n A B v w→Pdq (ltC c) A B a b w→a≤p→p<b →
     C115_5 QF kk D (.int .i64 a) (.int .i64 b) (.int .i64 lim) (fnG g) (.bool wb) (.bool wp) (.int .i64 ((b:Int)-a)) (.int .i64 p) (.bool b5) (SS w):=by
    intro w lim wb wp p b5 hlm hr hq hp1 hp2
    cases b5
    ·(try simp only [rwp,zA,zB,zC,zD,zE,zF,zG,zH,zI,rwb,reduceIte,C115_5])
     exact p6 w lim wb wp p hlm hr hq hp1 hp2
    ·(try simp only [rwp,zA,zB,zC,zD,zE,zF,zG,zH,zI,rwb,reduceIte,C115_5])
     refine q0c (c_partial hD hg ho (by omega) (by omega) w (Pdq.pre hp hB hr hq)) ?_
     rintro ae S2 ⟨r,x,rfl,rfl,hx,hxs⟩
     dsimp only
     cases r
     ·(try simp only [rwp,zA,zB,zC,zD,zE,zF,zG,zH,zI,rwb,reduceIte])
      exact p6 x lim wb wp p hlm (hr.trans (hx.mono q1 q3)) (hq.rng hB hx) hp1 hp2
     ·(try simp only [rwp,zA,zB,zC,zD,zE,zF,zG,zH,zI,rwb,reduceIte])
      exact done w x hr hq hx (hxs rfl)
   have p3:∀ (w:Nat→Ob) (lim:Nat) (wb wp:Bool) (p:Nat) (h:Int),lim≤1000→Rng n A B v w→Pdq (ltC c) A B a b w→a≤p→p<b →
     C115_3 QF kk D (.int .i64 a) (.int .i64 b) (.int .i64 lim) (fnG g) (.bool wb) (.bool wp) (.int .i64 ((b:Int)-a)) (.int .i64 p) (.int .i64 h) (SS w):=by
    intro w lim wb wp p h hlm hr hq hp1 hp2
    cases wb
    ·(try simp only [rwp,zA,zB,zC,zD,zE,zF,zG,zH,zI,rwb,reduceIte,C115_3,C115_4])
     exact p5 w lim false wp p false hlm hr hq hp1 hp2
    ·cases wp
     ·(try simp only [rwp,zA,zB,zC,zD,zE,zF,zG,zH,zI,rwb,reduceIte,C115_3,C115_4])
      exact p5 w lim true false p false hlm hr hq hp1 hp2
     ·(try simp only [rwp,zA,zB,zC,zD,zE,zF,zG,zH,zI,rwb,reduceIte,C115_3,C115_4])
      exact p5 w lim true true p _ hlm hr hq hp1 hp2
   have p2:∀ (w:Nat→Ob) (lim:Nat) (wb wp:Bool),lim≤1000→Rng n A B v w→Pdq (ltC c) A B a b w →
     C115_2 QF kk D (.int .i64 a) (.int .i64 b) (.int .i64 lim) (fnG g) (.bool wb) (.bool wp) (.int .i64 ((b:Int)-a)) (SS w):=by
    intro w lim wb wp hlm hr hq
    (try simp only [rwp,zA,zB,zC,zD,zE,zF,zG,zH,zI,rwb,reduceIte,C115_2])
    refine q0c (c_pivot hD hg h12 (by omega)) ?_
    rintro ae S2 ⟨p,h,rfl,rfl,hp1,hp2⟩
    dsimp only
    (try simp only [rwp,zA,zB,zC,zD,zE,zF,zG,zH,zI,rwb,reduceIte])
    cases a3:decide (h=2)
    ·(try simp only [rwp,zA,zB,zC,zD,zE,zF,zG,zH,zI,rwb,reduceIte])
     exact p3 w lim wb wp p h hlm hr hq hp1 hp2
    ·(try simp only [rwp,zA,zB,zC,zD,zE,zF,zG,zH,zI,rwb,reduceIte])
     refine q0c (c_reverse hD (by omega) (by omega) (fnG g) w) ?_
     rintro ae S3 ⟨rfl,x,rfl,hx⟩
     dsimp only
     (try simp only [rwp,zA,zB,zC,zD,zE,zF,zG,zH,zI,rwb,reduceIte])
     (try (simp (disch:=omega) only [q03]))
     rw [show (b:Int)-1-((p:Int)-a)=((b-1-(p-a):Nat):Int) by omega]
     exact p3 x lim wb wp _ 1 hlm (hr.trans (hx.mono q1 q3)) (hq.rng hB hx) (by omega) (by omega)
   (try simp only [rwp,zA,zB,zC,zD,zE,zF,zG,zH,zI,rwb,reduceIte])
   cases wb
   ·(try simp only [rwp,zA,zB,zC,zD,zE,zF,zG,zH,zI,rwb,reduceIte])
    refine q0c (c_break hD h12 (by omega) (by omega) (fnG g)) ?_
    rintro ae S2 ⟨rfl,x,rfl,hx⟩
    dsimp only
    (try simp only [rwp,zA,zB,zC,zD,zE,zF,zG,zH,zI,rwb,reduceIte])
    (try (simp (disch:=omega) only [q03]))
    have e:(lim:Int)-1=((lim-1:Nat):Int):=by omega
    rw [e]
    exact p2 x (lim-1) false wp (by omega) (hr.trans (hx.mono q1 q3)) (hq.rng hB hx)
   ·(try simp only [rwp,zA,zB,zC,zD,zE,zF,zG,zH,zI,rwb,reduceIte])
    exact p2 w lim true wp hlm hr hq
  ·(try simp only [rwp,zA,zB,zC,zD,zE,zF,zG,zH,zI,rwb,reduceIte])
   refine q0c (c_heap hD hg ho (by omega) (by omega) w) ?_
   rintro ae S2 ⟨rfl,x,rfl,hx,hxs⟩
   dsimp only
   exact done w x hr hq hx hxs
 ·(try simp only [rwp,zA,zB,zC,zD,zE,zF,zG,zH,zI,rwb,reduceIte])
  refine q0c (c_ins hD hg ho q2 (by omega) w) ?_
  rintro ae S2 ⟨rfl,x,rfl,hx,hxs⟩
  dsimp only
  exact done w x hr hq hx hxs
end
theorem sort255:SortOk 255:=by
 intro D pt SS n g c hD hg ho hn v
 refine wx59 ?_
 unfold Bx59
 refine hD.ln ?_
 (try simp only [rwp,zA,zB,zC,zD,zE,zF,zG,zH,zI,rwb,reduceIte])
 rw [u64w (by omega)]
 refine q05 (c_Len (by omega)) ?_
 have h8:=(lenF_ok ⟨n,by omega⟩).2.2
 dsimp only at h8
 have q:=c_pdq hD hg ho n 0 n (lenF n) v (by omega) (by omega) (Nat.le_refl _) (by omega) (by omega) (fun h=>by omega)
 refine q0c q ?_
 rintro ae S1 ⟨rfl,w,rfl,h1,h2⟩
 dsimp only
 exact q2b ⟨rfl,w,rfl,h1,h2⟩
set_option maxRecDepth 4000
section
variable {P:Program} {R R0:Nat→Prop} {S S0:q00} {w w0 w':World} {a a0:Act} {N:Nat} {e:Env}
theorem Sim.lay (h:Sim R S w) (x:Obj):Sim R S (w.alloc x)∧Step R S w R S (w.alloc x)∧sget S w.heap.size=none∧¬ R w.heap.size:=by
 have hold:∀ k,k<w.heap.size→(w.alloc x).heap[k]?=w.heap[k]?:=fun k hk=>heap_alloc_old w x hk
 have hnone:sget S w.heap.size=none:=by
  cases e:sget S w.heap.size with
  | none=>rfl
  | some o=>exact absurd (h.lt e) (Nat.lt_irrefl _)
 refine ⟨⟨fun b o hb=>?_,fun b hb=>⟨(h.ro b hb).1,by have:=(h.ro b hb).2;simp;omega⟩⟩,⟨by simp,rfl,rfl,rfl,fun k hk hn=>⟨hold k hk,hn⟩,fun _ h=>h,fun _ h=>.inl h⟩,hnone,fun hR=>absurd (h.ro _ hR).2 (Nat.lt_irrefl _)⟩
 obtain ⟨y,hy,hr⟩:=h.own b o hb
 exact ⟨y,(hold b (h.lt hb)).trans hy,hr.step (fun _ h=>h) fun b hb=>hold b (h.ro b hb).2⟩
theorem Rel.turn (h:Rel R0 S0 w0 a0 N R S w e a) {r:Nat} (hr:¬ R r) (hS:sget S r=none) (h0:w0.heap.size≤r) (hsz:w'.heap.size=w.heap.size) (hold:∀ k,k≠r→w'.heap[k]?=w.heap[k]?) (h1:w'.os=w.os) (h2:w'.tape=w.tape) (h3:w'.output=w.output) :
  Rel R0 S0 w0 a0 N R S w' e a:=by
 have hw:∀ b,R b→w'.heap[b]?=w.heap[b]?:=fun b hb=>hold b (by rintro rfl;exact hr hb)
 refine ⟨⟨fun b o hb=>?_,fun b hb=>⟨(h.sim.ro b hb).1,by rw [hsz];exact (h.sim.ro b hb).2⟩⟩,fun t=>(h.env t).step (fun _ h=>h) hw,⟨by rw [hsz];exact h.step.size,h1.trans h.step.os,h2.trans h.step.tape,h3.trans h.step.output,fun k hk hn=>⟨(hold k (by omega)).trans (h.step.keep k hk hn).1,(h.step.keep k hk hn).2⟩,h.step.mono,h.step.new⟩,h.defers,h.size⟩
 obtain ⟨y,hy,ho⟩:=h.sim.own b o hb
 refine ⟨y,(hold b ?_).trans hy,ho.step (fun _ h=>h) hw⟩
 rintro rfl
 rw [hS] at hb
 cases hb
theorem Step.stands {R':Nat→Prop} {S':q00} (h:Step R S w R' S' w') {r:Nat} (hr:¬ R r) (hS:sget S r=none) (hlt:r<w.heap.size):¬ R' r∧sget S' r=none∧r<w'.heap.size∧w'.heap[r]?=w.heap[r]?:=by
 refine ⟨fun h'=>?_,(h.keep r hlt hS).2,Nat.lt_of_lt_of_le hlt h.size,(h.keep r hlt hS).1⟩
 rcases h.new r h' with h1 | h1 | h1
 ·exact hr h1
 ·exact h1 hS
 ·omega
theorem wp_loopJ {c:Code} {Q:Exit→Act→World→Prop} (J:Nat→Act→World→Prop) (n:Nat) (h0:J n a w) (h:∀ n a w,J n a w→c.wp P (Exit.then (fun a' w'=>∃ m,m<n∧J m a' w') Q) a w):(Code.loop c).wp P Q a w:=by
 classical
 let good:Act→World→Prop:=fun a' w'=>∃ m,J m a' w'
 have least:∀ a' w',good a' w'→∃ m,J m a' w'∧∀ k,J k a' w'→m≤k:=by
  intro a' w' ⟨m,hm⟩
  induction m using Nat.strongRecOn with
  | _ m ih=>
   by_cases hk:∃ k,k<m∧J k a' w'
   ·obtain ⟨k,hlt,hk⟩:=hk
    exact ih k hlt hk
   ·exact ⟨m,hm,fun k hk'=>by
     rcases Nat.lt_or_ge k m with h | h
     ·exact absurd ⟨k,h,hk'⟩ hk
     ·exact h⟩
 let mu:Act→World→Nat:=fun a' w'=>if h:∃ m,J m a' w'∧∀ k,J k a' w'→m≤k then Classical.choose h else 0
 have mu_spec:∀ a' w',good a' w'→J (mu a' w') a' w'∧∀ k,J k a' w'→mu a' w'≤k:=by
  intro a' w' hg
  have hl:=least a' w' hg
  show J (if h:_ then Classical.choose h else 0) a' w'∧_
  simp only [mu,dif_pos hl]
  exact Classical.choose_spec hl
 refine wp_loop good mu ⟨n,h0⟩ fun a' w' hg=>?_
 obtain ⟨hJ,_⟩:=mu_spec a' w' hg
 refine wp_mono (h _ a' w' hJ) fun x a'' w'' hq=>?_
 cases x with
 | normal=>
  obtain ⟨m,hlt,hm⟩:=hq
  exact ⟨⟨m,hm⟩,Nat.lt_of_le_of_lt ((mu_spec _ _ ⟨m,hm⟩).2 m hm) hlt⟩
 | _=>exact hq
theorem q3s {Qc:Exit→Act→World→Prop} {K:Env→q00→Prop} (hs:Sim R S w) (he:REnv R w e a.tmps) (hn:a.tmps.size=N) {ops:Array Oper} (sis:List SI) {lo:List Oper} (hok:q3e P N ops sis lo=true) (h:aops P sis K (fun _ _=>False) e S)
  (hK:∀ R' S' w' e' a',K e' S'→Rel R S w a N R' S' w' e' a'→Qc .normal a' w'):wpList P ops Qc lo a w:=
 aops_sound ⟨hK,fun _ _ _ _ _ _ h=>h.elim⟩ sis lo hok (Rel.refl hs he hn) h
theorem acalls_code {f : Nat} {fn : Func} {c : Code} {res : List RVar} {args : List AV} {Q : AEnd → q00 → Prop} (hf : P.funcs[f]? = some fn) (hb : fn.body = some c) (h1 : (fn.name == "runtime.NumGoroutine") = false) (h2 : fn.ntmps = N) (h3 : args.length ≤ N) (h4 : rvsOk P res fn.results.toList = true)
  (h:∀ (R:Nat→Prop) (w:World) (a:Act),Sim R S w→REnv R w (lget (q4t args)) a.tmps→a.tmps.size=N→c.wp P (PostOf R S w a N (FPost res Q)) a w):ACalls P f args S Q:=by
 refine fun R w vs hs hv=>.inl ⟨by unfold q6y;rw [hf];simp only [hb,h1,Option.isSome_some,Bool.and_true,Bool.not_false],?_⟩
 have hsz:vs.size=args.length:=by have:=hv.1;simp at this;exact this.symm
 refine calls_of_wp hf hb ?_
 refine wp_mono (h R w { tmps:=vs++Array.replicate (fn.ntmps-vs.size) undef,defers:=[] } hs (q92 hv _) (by simp;omega)) fun x a' w' hq=>?_
 have ret:∀ {K:Env→q00→Prop},K=RetA res Q→KC R S w { tmps:=vs++Array.replicate (fn.ntmps-vs.size) undef,defers:=[] } N K a' w' →
   a'.defers=[]∧∃ v,(results fn a'.tmps).run P w'=.ok v w'∧∃ R' S' ae,EndR R' w' ae (.returned v)∧Q ae S'∧Sim R' S' w'∧Step R S w R' S' w':=by
  rintro K rfl ⟨R',S',e',hK,hr⟩
  unfold RetA at hK
  split at hK
  ·rename_i us hus
   obtain ⟨v',S'',hsh,hQ⟩:=hK
   obtain ⟨v,k1,k2⟩:=q5r hr.sim hr.env h4 hus
   obtain ⟨R'',k3,k4,k5⟩:=hsh R' w' v hr.sim k1
   exact ⟨hr.defers,v,k2,R'',S'',.ret v',k4,hQ,k3,hr.step.trans k5⟩
  ·exact hK.elim
 unfold PostOf at hq
 split at hq
 ·exact ret rfl hq
 ·obtain ⟨R',S',e',hK,hr⟩:=hq;exact hK.elim
 ·exact ret rfl hq
 ·obtain ⟨R',S',u,k1,k2,k3⟩:=hq
  exact ⟨k3.defers,R',S',.pan u,k2,k1,k3.sim,k3.step⟩
 ·exact hq.elim
end
abbrev MO2:Bool×List EK:=(true,[.str,.str])
def enO (E:List (Ob×Nat)):List (AV×AV×Nat):=E.map fun p=>(.agg (obC p.1),.bool true,p.2)
structure KO (S:q00) (b:Nat) (E:List (Ob×Nat)) (clk:Nat):Prop where
 map:sget S b=some (.map MO2 (enO E) clk)
 lt:∀ p∈E,p.2<clk
 nd:(E.map (·.2)).Nodup
 ku:(E.map (·.1)).Nodup
structure RgI (R0:Nat→Prop) (S0:q00) (w0:World) (a0:Act) (b r:Nat) (clk:Nat) (E D:List (Ob×Nat)) (R:Nat→Prop) (S:q00) (w:World) (e:Env) (a:Act) (v:AV):Prop where
 rel:Rel R0 S0 w0 a0 18 R S w e a
 nr:¬ R r
 ns:sget S r=none
 lt:r<w.heap.size
 it:w.heap[r]?=some (.mapIter (some b) clk (D.map (·.2)).toArray clk)
 sub:Sub S0 S
 e6:e 6=.ptr r 0
 e3:e 3=v
 lst:LstN S0 S tyOb 2 v ((D.map (·.1)).map obC)
 din:∀ p∈D,p∈E
 dnd:(D.map (·.2)).Nodup
theorem c_sorted_1 (x y:Ob):AFun PG nrx122 [.agg (obC x),.agg (obC y)] (.int .i64 (cmpO x y)):=by
 intro S
 refine wx122 ?_
 unfold Bx122
 (try simp only [rwp,zA,zB,zC,zD,zE,zF,zG,zH,zI,rwb,reduceIte,obC])
 refine q05 (c_Compare x.ty y.ty) ?_
 (try simp only [rwp,zA,zB,zC,zD,zE,zF,zG,zH,zI,rwb,reduceIte])
 refine q05 (c_Compare x.id y.id) ?_
 (try simp only [rwp,zA,zB,zC,zD,zE,zF,zG,zH,zI,rwb,reduceIte])
 refine q05 (c_Or2 _ _) ?_
 exact q02 ⟨rfl,rfl⟩
theorem aopsQ {P:Program} {o:SOp} {d:Option Nat} {r:List SI} {K:Env→q00→Prop} {Qp:AV→q00→Prop} {e:Env} {S:q00} (h:fop P o d (aops P r K Qp) Qp e S):aops P (⟨d,o,none,[]⟩ :: r) K Qp e S:=fop_aeff h
theorem wpl {P:Program} {R:Nat→Prop} {S:q00} {w:World} {a:Act} {N:Nat} {e:Env} (hs:Sim R S w) (he:REnv R w e a.tmps) (hn:a.tmps.size=N) (s:SI) {op:Oper} {lo:List Oper} {ops:Array Oper} {Qc:Exit→Act→World→Prop} (hok:siOk P N ops s op=true) {K:Env→q00→Prop} (h:aop P s K (fun _ _=>False) e S)
  (hK:∀ R' S' w' e' a',K e' S'→Rel R S w a N R' S' w' e' a'→wpList P ops Qc lo a' w'):wpList P ops Qc (op :: lo) a w:=by
 have h1:=q4a (Qc:=Qc) hs he hn hok h (fun _ _ _ _ _ h=>h.elim)
 have hrest:∀ a' w',KC R S w a N K a' w'→wpList P ops Qc lo a' w':=fun a' w' ⟨R',S',e',k,r⟩=>hK _ _ _ _ _ k r
 unfold wpList
 split
 ·rename_i hw
  rw [if_pos hw] at h1
  exact .inl (Oper.wp_mono hrest h1)
 ·rename_i hw
  rw [if_neg hw] at h1
  exact hrest _ _ h1
theorem q67 {P:Program} {w w':World} {a:Act} {o:Oper} {lo:List Oper} {ops:Array Oper} {Qc:Exit→Act→World→Prop} {v:Value} (hg:o.guard=none) (hx:(execOp a.eval o).run P w=.ok (.value v) w') (h:wpList P ops Qc lo (a.put o.dst v) w'):wpList P ops Qc (o :: lo) a w:=
 wpList_plain hg fun K hK=>by unfold Oper.wp;rw [hx];exact hK _ _ h
theorem KO.sub {S S':q00} {b clk:Nat} {E:List (Ob×Nat)} (h:KO S b E clk) (hs:Sub S S'):KO S' b E clk:=⟨hs _ _ h.map,h.lt,h.nd,h.ku⟩
theorem KO.opens {R:Nat→Prop} {S:q00} {w:World} {b clk:Nat} {E:List (Ob×Nat)} (h:KO S b E clk) (hs:Sim R S w):∃ arr,w.heap[b]?=some (.map arr clk)∧arr.toList.map (·.born)=E.map (·.2) ∧
  (∀ m∈arr.toList,∃ p∈E,m.born=p.2∧RV R w (.agg (obC p.1)) m.key∧RV R w (.bool true) m.val)∧∀ p∈E,∃ m∈arr.toList,m.born=p.2∧RV R w (.agg (obC p.1)) m.key∧RV R w (.bool true) m.val:=by
 obtain ⟨x,hx,hr⟩:=hs.own b _ h.map
 cases hr with
 | map K es arr clock hl hh hk=>
  have hl':E.length=arr.size:=by unfold enO at hl;simpa using hl
  have get:∀ (i:Nat) (p:Ob×Nat) (m:MapEntry),E[i]?=some p→arr[i]?=some m→m.born=p.2∧RV R w (.agg (obC p.1)) m.key∧RV R w (.bool true) m.val:=by
   intro i p m hp hm
   have:=hh i (.agg (obC p.1),.bool true,p.2) m (by unfold enO;rw [List.getElem?_map,hp];rfl) hm
   exact ⟨this.2.2,this.1,this.2.1⟩
  refine ⟨arr,hx,?_,fun m hm=>?_,fun p hp=>?_⟩
  ·refine List.ext_getElem? fun i=>?_
   rw [List.getElem?_map,List.getElem?_map,Array.getElem?_toList]
   cases hE:E[i]? with
   | none=>
    have:arr[i]?=none:=by
     rw [List.getElem?_eq_none_iff] at hE
     rw [Array.getElem?_eq_none_iff]
     omega
    rw [this];rfl
   | some p=>
    have hi:=(List.getElem?_eq_some_iff.1 hE).1
    have hm:arr[i]?=some (arr[i]'(by omega)):=Array.getElem?_eq_getElem (by omega)
    rw [hm]
    simp only [Option.map_some,(get i p _ hE hm).1]
  ·obtain ⟨i,hi⟩:=List.mem_iff_getElem?.1 hm
   rw [Array.getElem?_toList] at hi
   have hlt:i<E.length:=by have:=(Array.getElem?_eq_some_iff.1 hi).1;omega
   exact ⟨E[i],List.getElem_mem hlt,get i _ m (List.getElem?_eq_getElem hlt) hi⟩
  ·obtain ⟨i,hi⟩:=List.mem_iff_getElem?.1 hp
   have hlt:=(List.getElem?_eq_some_iff.1 hi).1
   have hm:arr[i]?=some (arr[i]'(by omega)):=Array.getElem?_eq_getElem (by omega)
   exact ⟨arr[i]'(by omega),by simp,get i p _ hi hm⟩
theorem sort_own {N g:Nat} (hN:SortOk N) (hg:∀ x y,AFun PG g [.agg (obC x),.agg (obC y)] (.int .i64 (cmpO x y))) {S0 S:q00} {v:AV} {M:List Ob} (hs:Sub S0 S) (h:LstN S0 S tyOb 2 v (M.map obC)) (hl:M.length≤N) (hb:M.length≤100000) (hn:M.Nodup) {K:AV→q00→Prop} {Qp:AV→q00→Prop}
  (hK:∀ S1,Sub S0 S1→LstW S0 S1 tyOb 2 v ((srtO ltO M).map obC)→K (.tup []) S1) :
  caW PG S (.func (.func nrx59) [] []) [v,.func (.func g) [] []] K Qp:=by
 have fin:∀ (w:Nat→Ob) (S1:q00),Sub S0 S1→OwnL S0 S1 tyOb 2 obC v M.length w→Rng M.length 0 M.length (at' M) w→Srt (ltC cmpO) 0 M.length w→K (.tup []) S1:=by
  intro w S1 hs1 ho hr hw
  refine hK S1 hs1 ?_
  have hp:∀ x,x∈M↔x∈vl M.length w:=by
   intro x
   conv=>lhs;rw [← vl_at M]
   exact hr.perm.mem_iff
  have hnd:(vl M.length w).Nodup:=by
   refine hr.perm.nodup_iff.1 ?_
   rw [vl_at];exact hn
  have e:vl M.length w=srtO ltO M:=by
   obtain ⟨k1,k2,-⟩:=q7f stO M _ rfl
   refine Asc.uniq stO ?_ k1 fun x=>by rw [k2,hp]
   unfold Asc
   rw [List.pairwise_iff_getElem]
   intro i j hi hj hij
   have hl1:(vl M.length w).length=M.length:=by simp [vl]
   have ei:(vl M.length w)[i]=w i:=by simp [vl]
   have ej:(vl M.length w)[j]=w j:=by simp [vl]
   have h1:=hw i j (Nat.zero_le _) hij (by omega)
   have h2:w i≠w j:=by
    intro h
    have:=(List.getElem_inj (h₀:=hi) (h₁:=hj) hnd).1 (by rw [ei,ej];exact h)
    omega
   rw [ei,ej]
   cases h3:ltO (w i) (w j) with
   | true=>rfl
   | false=>exact absurd (stO.2 _ _ h3 h1) h2
  rw [← e]
  exact OwnL.lstW (enc:=obC) (fun x=>rfl) ho
 obtain ⟨hr,⟨rfl,e⟩ | ⟨b,cap,rfl,h1,h2,h3,h4,h5⟩⟩:=h
 ·have e:M=[]:=by simpa using e
  subst e
  refine q0c (hN .nils (fun _=>.nils) (fun _=>S) 0 g cmpO (dat_nil S) hg stO.ok (by omega) (at' [])) ?_
  rintro ae S1 ⟨rfl,w,rfl,k1,k2⟩
  exact fin w _ hs (.inl ⟨rfl,rfl⟩) k1 k2
 ·simp only [List.length_map] at h3 h5 h2 ⊢
  have hsm:supd S b (.cells tyOb (fl obC M.length (at' M)) (cap * 2))=S:=by
   funext c
   unfold supd
   split
   ·rename_i e
    subst e
    have:fl obC M.length (at' M)=(M.map obC).flatten:=by unfold fl;rw [vl_at]
    rw [this]
    exact h2.symm
   ·rfl
  have q:=hN _ _ _ M.length g cmpO (dat_own (S0:=S) (b:=b) h3 hb) hg stO.ok hl (at' M)
  rw [hsm] at q
  refine q0c q ?_
  rintro ae S1 ⟨rfl,w,rfl,k1,k2⟩
  dsimp only
  simp only [List.length_map] at fin
  exact fin w _ (Sub.supd h1 hs) (.inr ⟨b,cap,rfl,h1,by rw [q01,if_pos rfl],h3,h4⟩) k1 k2
theorem nd_inj {α β:Type} {f:α→β}:∀ {L:List α},(L.map f).Nodup→∀ {x y:α},x∈L→y∈L→f x=f y→x=y
 | [],_,x,y,h,_,_=>by cases h
 | a :: r,hn,x,y,hx,hy,h=>by
  rw [List.map_cons,List.nodup_cons] at hn
  rcases List.mem_cons.1 hx with e1 | hx1
  ·rcases List.mem_cons.1 hy with e2 | hy1
   ·rw [e1,e2]
   ·exact absurd (List.mem_map.2 ⟨y,hy1,by rw [← h,e1]⟩) hn.1
  ·rcases List.mem_cons.1 hy with e2 | hy1
   ·exact absurd (List.mem_map.2 ⟨x,hx1,by rw [h,e2]⟩) hn.1
   ·exact nd_inj hn.2 hx1 hy1 h
theorem nd_map {α β γ:Type} {f:α→β} {g:α→γ}:∀ {L:List α},(L.map g).Nodup→(∀ x∈L,∀ y∈L,f x=f y→x=y)→(L.map f).Nodup
 | [],_,_=>List.nodup_nil
 | a :: r,hn,h=>by
  rw [List.map_cons,List.nodup_cons] at hn ⊢
  refine ⟨fun hm=>?_,nd_map hn.2 fun x hx y hy=>h x (List.mem_cons_of_mem _ hx) y (List.mem_cons_of_mem _ hy)⟩
  obtain ⟨y,hy,h1⟩:=List.mem_map.1 hm
  have:=h y (List.mem_cons_of_mem _ hy) a List.mem_cons_self h1
  subst this
  exact hn.1 (List.mem_map.2 ⟨y,hy,rfl⟩)
theorem map125:∃ k e,PG.underlying 125=some (.map k e):=by
 have h:(match PG.underlying 125 with | some (.map _ _)=>true | _=>false)=true:=by kernel_rfl
 split at h
 ·rename_i k e h2;exact ⟨k,e,h2⟩
 ·cases h
theorem c_sorted {S:q00} {b:Nat} {E:List (Ob×Nat)} {clk:Nat} (hk:KO S b E clk) (hl:E.length≤255) :
  ACalls PG 74 [.map (some b)] S fun ae S'=>ae=.ret (.sl 2 ((srtO ltO (E.map (·.1))).map obC))∧S'=S:=by
 refine acalls_code (N:=18) (res:=[.tmp 2]) Go.Proofs.Tryz.func74 rfl (by kernel_rfl) rfl (by show 1≤18;omega) (by kernel_rfl) ?_
 intro R0 w0 a0 hs0 he0 hn0
 refine wp_seq ?_
 refine wp_region_list (q3s hs0 he0 hn0 [⟨some 2,.mov (.c .nils),none,[]⟩] (K:=fun e S'=>e 0=.map (some b)∧S'=S) (by kernel_rfl) ⟨rfl,rfl⟩ ?_)
 rintro R1 S1 w1 e1 a1 ⟨q1,rfl⟩ r1
 refine wp_seq ?_
 refine wp_region_list (q3s r1.sim r1.env r1.size [⟨some 3,.mov (.c .nils),none,[]⟩] (K:=fun e S'=>e 0=.map (some b)∧e 3=.nils∧S'=S1) (by kernel_rfl) ⟨q1,rfl,rfl⟩ ?_)
 rintro R2 S2 w2 e2 a2 ⟨q2,q3,rfl⟩ r2
 refine wp_seq (wp_seq ?_)
 refine wp_region_list (wpl r2.sim r2.env r2.size ⟨some 5,.mov (.t 0),none,[]⟩ (K:=fun e S'=>e 5=.map (some b)∧e 3=.nils∧S'=S2) (by kernel_rfl) ⟨q2,q3,rfl⟩ ?_)
 rintro R3 S3 w3 e3 a3 ⟨q4,q5,rfl⟩ r3
 have rr:Rel R0 S3 w0 a0 18 R3 S3 w3 e3 a3:=(r1.trans r2).trans r3
 have hv:a3.eval (.tmp 5)=.map (some b):=by
  have:=rr.env 5
  unfold eget at this
  rw [q4] at this
  generalize hz:a3.tmps.getD 5 undef=z at this
  cases this
  exact hz
 obtain ⟨arr,hb,-⟩:=hk.opens rr.sim
 obtain ⟨kt,et,hT⟩:=map125
 refine q67 (w':=w3.alloc (.mapIter (some b) clk #[] clk)) (v:=.pointer (some ⟨w3.heap.size,0,none⟩)) rfl (by simp [execOp,hv,run_range_map w3 _ kt et b arr clk hT hb]) ?_
 obtain ⟨y1,y2,y3,y4⟩:=rr.sim.lay (.mapIter (some b) clk #[] clk)
 have r4:Rel R0 S3 w0 a0 18 R3 S3 (w3.alloc (.mapIter (some b) clk #[] clk)) (put e3 (some 6) (.ptr w3.heap.size 0)) (a3.put (some 6) (.pointer (some ⟨w3.heap.size,0,none⟩))):=
  rr.trans (Rel.put rr.sim rr.env rr.size y1 y2 (fun k hk=>by cases hk;omega) (.ptr _ _))
 have hI:RgI R0 S3 w0 a0 b w3.heap.size clk E [] R3 S3 (w3.alloc (.mapIter (some b) clk #[] clk)) (put e3 (some 6) (.ptr w3.heap.size 0)) (a3.put (some 6) (.pointer (some ⟨w3.heap.size,0,none⟩))) .nils:=
  ⟨r4,y4,y3,by simp,heap_alloc_new _ _,Sub.refl _,rfl,q5,LstN.nil,fun p hp=>(by cases hp),List.nodup_nil⟩
 have hw0:w0.heap.size≤w3.heap.size:=rr.step.size
 refine wpList_nil ?_
 refine wp_block (wp_loopJ (fun n a w=>∃ D R S' e v,RgI R0 S3 w0 a0 b w3.heap.size clk E D R S' w e a v∧n+D.length=E.length) E.length ⟨[],_,_,_,_,hI,by simp⟩ ?_)
 rintro n a w ⟨D,R,S,e,v,hI,hn⟩
 have hk1:=hk.sub hI.sub
 obtain ⟨arr,hb,hbn,hin,hout⟩:=hk1.opens hI.rel.sim
 have h6:a.eval (.tmp 6)=.pointer (some ⟨w3.heap.size,0,none⟩):=by
  have:=hI.rel.env 6
  unfold eget at this
  rw [hI.e6] at this
  generalize hz:a.tmps.getD 6 undef=z at this
  cases this
  exact hz
 have hlt:∀ x∈arr.toList,x.born<clk:=fun m hm=>by
  obtain ⟨p,hp,h1,-⟩:=hin m hm
  rw [h1];exact hk.lt p hp
 refine wp_seq (wp_region_list ?_)
 rcases run_next_at (P:=PG) w 0 w3.heap.size b clk clk _ arr clk hI.it hb hlt (Nat.le_refl _) with ⟨h0,hrun⟩ | ⟨m,hm,w4,hw4,hrun⟩
 ·refine q67 (w':=w) (v:=.tuple #[.bool false]) rfl (by simp [execOp,h6,hrun]) ?_
  have r5:=Rel.put (d:=some 7) hI.rel.sim hI.rel.env hI.rel.size hI.rel.sim (Step.refl _ _ _) (fun k hk=>by cases hk;omega) (u:=.tup [.bool false]) (v:=.tuple #[.bool false]) (RV.tup_iff.2 ⟨_,rfl,.cons (.bool _) .nil⟩)
  refine q3s r5.sim r5.env r5.size [⟨some 8,.extr (.t 7) 0,none,[]⟩] (K:=fun e' S'=>e' 8=.bool false∧e' 3=v∧S'=S) (by kernel_rfl) ⟨rfl,hI.e3,rfl⟩ ?_
  rintro R6 S6 w6 e6 a6 ⟨q6,q7,rfl⟩ r6
  have rf:=(hI.rel.trans r5).trans r6
  refine wp_seq (wp_cond_split (t:=false) ?_ (fun h=>by cases h) fun _=>wp_exit ?_)
  ·have:=r6.env 8
   unfold eget at this
   rw [q6] at this
   exact this.bool_inv
  have hDE:∀ x,x∈E↔x∈D:=fun x=>⟨fun hx=>by
   obtain ⟨m,hm,h1,-⟩:=hout x hx
   have:m.born∈D.map (·.2):=by
    refine Decidable.byContradiction fun hne=>?_
    have:m∈leftOf arr (D.map (·.2)).toArray:=by
     unfold leftOf
     rw [Array.mem_filter]
     exact ⟨by simpa using hm,by simpa using hne⟩
    have:=Array.size_pos_of_mem this
    omega
   rw [h1] at this
   obtain ⟨y,hy,h2⟩:=List.mem_map.1 this
   have:=nd_inj hk.nd (hI.din y hy) hx h2
   rw [← this];exact hy,fun hx=>hI.din x hx⟩
  have hku:(D.map (·.1)).Nodup:=nd_map hI.dnd fun x hx y hy h=>nd_inj hk.ku (hI.din x hx) (hI.din y hy) h
  have hsr:srtO ltO (E.map (·.1))=srtO ltO (D.map (·.1)):=by
   obtain ⟨k1,k2,-⟩:=q7f stO (E.map (·.1)) _ rfl
   obtain ⟨k3,k4,-⟩:=q7f stO (D.map (·.1)) _ rfl
   refine Asc.uniq stO k1 k3 fun x=>?_
   rw [k2,k4,List.mem_map,List.mem_map]
   exact ⟨fun ⟨y,h1,h2⟩=>⟨y,(hDE y).1 h1,h2⟩,fun ⟨y,h1,h2⟩=>⟨y,(hDE y).2 h1,h2⟩⟩
  have hdl:D.length≤E.length:=by omega
  show Code.wp _ _ _ _ _
  refine wp_seq (wp_region_list (q3s rf.sim rf.env rf.size [⟨some 15,.mov (.t 3),none,[]⟩,⟨some 16,.call (.f nrx59) [.t 15,.f nrx122],none,[]⟩] (K:=fun e' S'=>e' 3=v∧Sub S3 S'∧LstW S3 S' tyOb 2 v ((srtO ltO (D.map (·.1))).map obC)) (by kernel_rfl) ?_ ?_))
  ·refine aopsQ (show aops PG _ _ _ (put e6 (some 15) (e6 3)) S6 from ?_)
   refine aopsQ (show caW PG S6 (.func (.func nrx59) [] []) [e6 3,.func (.func nrx122) [] []] (fun u S'=>(fun (e':Env) S'=>e' 3=v∧Sub S3 S'∧LstW S3 S' tyOb 2 v ((srtO ltO (D.map (·.1))).map obC)) (put (put e6 (some 15) (e6 3)) (some 16) u) S') _ from ?_)
   rw [q7]
   refine sort_own sort255 c_sorted_1 hI.sub hI.lst (by simp;omega) (by simp;omega) hku fun S1 h1 h2=>⟨q7,h1,h2⟩
  rintro R7 S7 w7 e7 a7 ⟨g1,g2,g3⟩ r7
  refine wp_seq (wp_region_list (q3s r7.sim r7.env r7.size [⟨some 17,.mov (.t 3),none,[]⟩,⟨some 2,.mov (.t 17),none,[]⟩] (K:=fun e' S'=>e' 2=v∧S'=S7) (by kernel_rfl) ⟨g1,rfl⟩ ?_))
  rintro R8 S8 w8 e8 a8 ⟨g4,rfl⟩ r8
  refine wp_ret ?_
  refine ⟨R8,S8,e8,?_,(rf.trans r7).trans r8⟩
  have fin:rtW [.tmp v] (fun ae S'=>ae=AEnd.ret (.sl 2 ((srtO ltO (E.map (·.1))).map obC))∧S'=S3) S8:=q4y S3 _ g2 (Fr.lstW g3) ⟨by rw [hsr],rfl⟩
  unfold FPost
  dsimp only
  unfold RetA
  simp only [resVs,resV,g4]
  exact fin
 ·obtain ⟨p,hp,k1,k2,k3⟩:=hin m (by
   unfold leftOf at hm
   simp only [Array.toList_filter,List.mem_filter] at hm
   exact hm.1)
  have hnew:p.2 ∉ D.map (·.2):=by
   unfold leftOf at hm
   simp only [Array.toList_filter,List.mem_filter,Bool.not_eq_true'] at hm
   have:=hm.2
   rw [k1] at this
   simpa using this
  have hsz:w4.heap=w.heap∧w4.os=w.os∧w4.tape=w.tape∧w4.output=w.output:=by rcases hw4 with rfl | rfl<;>exact ⟨rfl,rfl,rfl,rfl⟩
  refine q67 (w':=ChangeMaps.setBlock w4 w3.heap.size (.mapIter (some b) clk ((D.map (·.2)).toArray.push m.born) clk)) (v:=.tuple #[.bool true,m.key,m.val]) rfl (by simp [execOp,h6,hrun]) ?_
  have hheap:(ChangeMaps.setBlock w4 w3.heap.size (.mapIter (some b) clk ((D.map (·.2)).toArray.push m.born) clk)).heap=w.heap.setIfInBounds w3.heap.size (.mapIter (some b) clk ((D.map (·.2)).toArray.push m.born) clk):=by
   unfold ChangeMaps.setBlock
   rw [hsz.1]
  generalize hw5:ChangeMaps.setBlock w4 w3.heap.size (.mapIter (some b) clk ((D.map (·.2)).toArray.push m.born) clk)=w5 at hheap
  have h5s:w5.os=w.os∧w5.tape=w.tape∧w5.output=w.output:=by rw [← hw5];exact hsz.2
  have hit5:w5.heap[w3.heap.size]?=some (.mapIter (some b) clk ((D++[p]).map (·.2)).toArray clk):=by
   rw [hheap,Array.getElem?_setIfInBounds_self_of_lt hI.lt]
   simp [k1]
  have ho5:∀ k,k≠w3.heap.size→w5.heap[k]?=w.heap[k]?:=fun k hk=>by rw [hheap,Array.getElem?_setIfInBounds_ne (Ne.symm hk)]
  have r5:=hI.rel.turn (w':=w5) hI.nr hI.ns hw0 (by rw [hheap];simp) ho5 h5s.1 h5s.2.1 h5s.2.2
  have rv5:∀ {u:AV} {x:Value},RV R w u x→RV R w5 u x:=fun h=>h.step (fun _ h=>h) fun c hc=>ho5 c (by rintro rfl;exact hI.nr hc)
  have r6:=Rel.put (d:=some 7) r5.sim r5.env r5.size r5.sim (Step.refl _ _ _) (fun k hk=>by cases hk;omega) (u:=.tup [.bool true,.agg (obC p.1),.bool true]) (v:=.tuple #[.bool true,m.key,m.val]) (RV.tup_iff.2 ⟨_,rfl,.cons (.bool _) (.cons (rv5 k2) (.cons (rv5 k3) .nil))⟩)
  refine q3s r6.sim r6.env r6.size [⟨some 8,.extr (.t 7) 0,none,[]⟩] (K:=fun e' S'=>e' 8=.bool true∧e' 3=v∧e' 6=.ptr w3.heap.size 0∧S'=S) (by kernel_rfl) ⟨rfl,hI.e3,hI.e6,rfl⟩ ?_
  rintro R7 S7 w7 e7 a7 ⟨q6,q7,q8,rfl⟩ r7
  have hlt5:w3.heap.size<w5.heap.size:=by rw [hheap];simpa using hI.lt
  obtain ⟨z1,z2,z3,z4⟩:=r7.step.stands hI.nr hI.ns hlt5
  rw [hit5] at z4
  have rf:=(r5.trans r6).trans r7
  refine wp_seq (wp_cond_split (t:=true) ?_ (fun _=>wp_skip ?_) fun h=>by cases h)
  ·have:=r7.env 8
   unfold eget at this
   rw [q6] at this
   exact this.bool_inv
  refine wp_block (wp_seq (wp_region_list ?_))
  obtain ⟨arr',hb',hbn',-,hout'⟩:=hk1.opens r7.sim
  obtain ⟨m',hm',l1,l2,l3⟩:=hout' p hp
  have h6':a7.eval (.tmp 6)=.pointer (some ⟨w3.heap.size,0,none⟩):=by
   have:=r7.env 6
   unfold eget at this
   rw [q8] at this
   generalize hz:a7.tmps.getD 6 undef=z at this
   cases this
   exact hz
  have hent:=run_entry_at (P:=PG) w7 w3.heap.size b clk (D.map (·.2)).toArray arr' clk m' (by rw [z4,l1];simp) hb' hm' (by rw [hbn'];exact hk.nd)
  refine q67 (w':=w7) (v:=.tuple #[m'.key,m'.val]) rfl (by simp [execOp,h6',hent]) ?_
  have r8:=Rel.put (d:=some 9) rf.sim rf.env rf.size rf.sim (Step.refl _ _ _) (fun k hk=>by cases hk;omega) (u:=.tup [.agg (obC p.1),.bool true]) (v:=.tuple #[m'.key,m'.val]) (RV.tup_iff.2 ⟨_,rfl,.cons l2 (.cons l3 .nil)⟩)
  refine q3s r8.sim r8.env r8.size [⟨some 10,.extr (.t 9) 0,none,[]⟩,⟨some 4,.alloc tyOb [.str ⟨#[]⟩,.str ⟨#[]⟩],none,[]⟩,⟨none,.store 2 (.t 4) (.t 10),none,[]⟩]
   (K:=fun e' S'=>e' 3=v∧e' 6=.ptr w3.heap.size 0∧∃ x,e' 4=.ptr x 0∧sget S7 x=none∧Sub S7 S'∧sget S' x=some (.cells tyOb (obC p.1) 2)) (by kernel_rfl) ?_ ?_
  ·refine aopsQ (show exW 0 (.tup [.agg (obC p.1),.bool true]) (fun u=>aops PG _ _ _ (put (put e7 (some 9) (.tup [.agg (obC p.1),.bool true])) (some 10) u) S7) from ?_)
   show aops PG _ _ _ (put (put e7 (some 9) (.tup [.agg (obC p.1),.bool true])) (some 10) (.agg (obC p.1))) S7
   refine aopsQ (show alW S7 tyOb [.str ⟨#[]⟩,.str ⟨#[]⟩] (fun u S'=>aops PG _ _ _ (put (put (put e7 (some 9) (.tup [.agg (obC p.1),.bool true])) (some 10) (.agg (obC p.1))) (some 4) u) S') from ?_)
   intro x hx
   refine aopsQ (show stW (supd S7 x (.cells tyOb [.str ⟨#[]⟩,.str ⟨#[]⟩] 2)) 2 (.ptr x 0) (.agg (obC p.1)) _ from ?_)
   have ho:q0i (supd S7 x (.cells tyOb [.str ⟨#[]⟩,.str ⟨#[]⟩] 2)) x=some (tyOb,[.str ⟨#[]⟩,.str ⟨#[]⟩],2):=by unfold q0i;rw [q01,if_pos rfl]
   unfold stW q4k
   dsimp only
   rw [ho]
   refine ⟨rfl,Nat.le_refl _,rfl,?_⟩
   refine ⟨q7,q8,x,rfl,hx,fun c o hc=>?_,?_⟩
   ·have:x≠c:=q0e hx hc
    rw [q01,if_neg this,q01,if_neg this];exact hc
   ·rw [q01,if_pos rfl];rfl
  rintro R9 S9 w9 e9 a9 ⟨q9,q10,x,q11,q12,q13,q14⟩ r9
  have o1:LstN S3 S9 tyOb 2 v ((D.map (·.1)).map obC):=hI.lst.sub q13
  refine wp_region_list (q3s r9.sim r9.env r9.size [⟨some 11,.mov (.t 3),none,[]⟩,⟨some 12,.load 2 true (.t 4),none,[]⟩,⟨some 13,.bslicr tyOb 2 [.t 12],none,[]⟩,⟨some 14,.app tyOb 2 32 (.t 11) (.t 13),none,[]⟩,⟨some 3,.mov (.t 14),none,[]⟩]
   (K:=fun e' S'=>∃ v',e' 3=v'∧e' 6=.ptr w3.heap.size 0∧Sub S3 S'∧LstN S3 S' tyOb 2 v' (((D++[p]).map (·.1)).map obC)) (by kernel_rfl) ?_ ?_)
  ·refine aopsQ (show aops PG _ _ _ (put e9 (some 11) (e9 3)) S9 from ?_)
   refine aopsQ (show ldW S9 2 true (e9 4) (fun u=>aops PG _ _ _ (put (put e9 (some 11) (e9 3)) (some 12) u) S9) from ?_)
   rw [q11]
   have hc:(cellsOf S9 (.ptr x 0)).bind (mkA true 2)=some (.agg (obC p.1)):=by simp [cellsOf,q14,mkA,obC]
   unfold ldW
   rw [hc]
   show aops PG _ _ _ (put (put e9 (some 11) (e9 3)) (some 12) (.agg (obC p.1))) S9
   refine aopsQ (show srW 2 [.agg (obC p.1)] (fun u=>aops PG _ _ _ (put (put (put e9 (some 11) (e9 3)) (some 12) (.agg (obC p.1))) (some 13) u) S9) from ⟨⟨rfl,rfl,trivial⟩,?_⟩)
   refine aopsQ (show apW S9 tyOb 2 32 (e9 3) (.sl 2 [obC p.1]) (fun u S'=>aops PG _ _ _ (put (put (put (put e9 (some 11) (e9 3)) (some 12) (.agg (obC p.1))) (some 13) (.sl 2 [obC p.1])) (some 14) u) S') from ?_)
   rw [q9]
   have hdl:D.length≤E.length:=by omega
   refine LstN.app (hI.sub.trans q13) o1 (fun r hr=>by rw [List.mem_singleton.1 hr];rfl) (q2u fun r hr=>by rw [List.mem_singleton.1 hr];rfl) (by simp only [List.length_map,List.length_singleton];omega) fun v' S4 j1 j2 j3=>?_
   refine aopsQ ?_
   refine ⟨v',rfl,q10,j1,?_⟩
   rw [List.map_append,List.map_append]
   exact j2
  rintro R10 S10 w10 e10 a10 ⟨v',g1,g2,g3,g4⟩ r10
  have r89:=(r8.trans r9).trans r10
  obtain ⟨t1,t2,t3,t4⟩:=r89.step.stands z1 z2 z3
  rw [z4] at t4
  have hdn:((D++[p]).map (·.2)).Nodup:=by
   rw [List.map_append,List.nodup_append]
   refine ⟨hI.dnd,by simp,fun a ha c hc=>?_⟩
   simp only [List.map_cons,List.map_nil,List.mem_singleton] at hc
   rintro rfl
   rw [hc] at ha
   exact hnew ha
  have hdin:∀ q∈D++[p],q∈E:=fun q hq=>by
   rcases List.mem_append.1 hq with h | h
   ·exact hI.din q h
   ·rw [List.mem_singleton.1 h];exact hp
  have hlen:(D++[p]).length≤E.length:=by
   have:=nd_len hdn (C:=E.map (·.2)) fun y hy=>by
    obtain ⟨q,hq,rfl⟩:=List.mem_map.1 hy
    exact List.mem_map.2 ⟨q,hdin q hq,rfl⟩
   simpa using this
  simp only [List.length_append,List.length_singleton] at hlen
  refine ⟨n-1,by omega,D++[p],R10,S10,e10,v',⟨rf.trans r89,t1,t2,t3,t4,g3,g2,g1,g4,hdin,hdn⟩,?_⟩
  simp only [List.length_append,List.length_singleton]
  omega
inductive Nt where
 | mk (lb:ByteArray) (nm:List ByteArray) (ks:List Nt)
 deriving Inhabited
mutual
def ntC:Nt→List AV
 | .mk l n k=>[.str l,.sl 1 (n.map fun s=>[AV.str s]),.sl 3 (ntsC k)]
def ntsC:List Nt→List (List AV)
 | []=>[]
 | t :: r=>ntC t :: ntsC r
end
theorem ntsC_map:∀ (l:List Nt),ntsC l=l.map ntC
 | []=>rfl
 | t :: r=>by rw [ntsC,ntsC_map r];rfl
theorem q4m (l:ByteArray) (n:List ByteArray) (k:List Nt):ntC (.mk l n k)=[.str l,.sl 1 (n.map fun s=>[AV.str s]),.sl 3 (k.map ntC)]:=by rw [ntC,ntsC_map]
theorem q5v (t:Nt):(ntC t).length=3:=by cases t;rw [ntC];rfl
theorem ntC_ones (t:Nt):ones (ntC t)=true:=by cases t;rw [ntC];rfl
abbrev q4u:=Ob→Rl→Nat→Option (Nt×Nat)
def q2g (s:List Ty) (ov:ByteArray) (node:q4u):List Nd→List Nt→Nat→Option (List Nt×Nat)
 | [],ks,w=>some (ks,w)
 | x :: r,ks,w=>match q0o s x.o.ty ov with
  | none=>q2g s ov node r ks w
  | some (_,_,rl)=>if x.rl=⟨#[]⟩ then (match node x.o rl w with
   | none=>none
   | some (k,w')=>q2g s ov node r (ks++[k]) w') else q2g s ov node r ks w
def lbE (k:Int):ByteArray:=if k=2 then ⟨#[111,114]⟩ else if k=3 then ⟨#[97,110,100]⟩ else ⟨#[110,111,116]⟩
def xeQ (E:q1v) (node:q4u) (o:Ob):Nat→Ex→Nat→Option (Nt×Nat)
 | 0,_,_=>none
 | m+1,.mk k n ov ks,w=>if k=0 then (match q0o E.s o.ty n with
   | some (_,_,r)=>node o r w
   | none=>none)
  else if k=1 then (match q2g E.s ov node (E.of ⟨o,n⟩) [] w with
   | none=>none
   | some (l,w')=>some (.mk (n++⟨#[46]⟩++ov) [] l,w'))
  else match ks with
   | [a,b]=>(match xeQ E node o m a w with
    | none=>none
    | some (x,w1)=>match xeQ E node o m b w1 with
     | none=>none
     | some (y,w2)=>some (.mk (lbE k) [] [x,y],w2))
   | _=>none
def labX (o:Ob) (r:Rl):ByteArray:=q30 o++⟨#[35]⟩++r.name
def xnT (E:q1v) (f:List Nd→q4u) (P:List Nd) (o:Ob) (r:Rl) (w:Nat):Option (Nt×Nat):=
 if r.refs.length=0 then (match xeQ E (f (⟨o,r.name⟩ :: P)) o 12 r.ex w with
  | none=>none
  | some (k,w')=>some (.mk (labX o r) [] [k],w'))
 else some (.mk (labX o r) ((E.of ⟨o,r.name⟩).map q36) [],w)
def xnS (B:Int) (t:List Nd→q4u) (P:List Nd) (o:Ob) (r:Rl) (w:Nat):Option (Nt×Nat):=
 if B<(w:Int)+1 then none else if (⟨o,r.name⟩:Nd)∈P then some (.mk (labX o r) [⟨#[46,46]⟩] [],w+1) else t P o r (w+1)
def xnQ (E:q1v) (B:Int):Nat→List Nd→q4u
 | 0=>xnS B fun _ _ _ _=>none
 | f+1=>xnS B (xnT E (xnQ E B f))
def fndE (s:List Ty) (t:ByteArray):Nat→Ex→Bool
 | 0,_=>false
 | m+1,.mk k n ov ks=>if k=0 then (q0o s t n).isSome else if k=1 then true else match ks with
  | [a,b]=>fndE s t m a&&fndE s t m b
  | _=>false
theorem firstZ_all {f:Ex→Int}:∀ {l:List (Ex×Bool)},q87 f l=0→∀ p∈l,f p.1=0
 | [],_,p,hp=>by cases hp
 | (e,o) :: r,h,p,hp=>by
  unfold q87 at h
  split at h
  ·rename_i h0
   rcases List.mem_cons.1 hp with rfl | hp
   ·exact h0
   ·exact firstZ_all h p hp
  ·rename_i h0
   exact absurd h h0
theorem fnd_of {s:List Ty} {t:ByteArray}:∀ (m:Nat) (e:Ex) (o:Bool),mayE m e=true→(∀ p∈q1a e o,q8o s t p.1=0)→fndE s t m e=true
 | 0,e,o,h,_=>by cases h
 | m+1,.mk k n ov ks,o,h,hl=>by
  unfold mayE at h
  unfold fndE
  split at h
  ·rename_i k0
   simp only [Bool.and_eq_true] at h
   rw [if_pos k0]
   have:=hl (.mk k n ov ks,o) (by unfold q1a;rw [if_pos h.2];exact List.mem_singleton.2 rfl)
   unfold q8o at this
   dsimp only [Ex.name] at this
   cases hq:q0o s t n with
   | none=>rw [hq] at this;cases this
   | some q=>rfl
  ·rename_i k0
   rw [if_neg k0]
   split at h
   ·rename_i k1;rw [if_pos k1]
   ·rename_i k1
    rw [if_neg k1]
    split at h
    ·match ks,h with
     | [a,b],h=>
      simp only [two,Bool.and_eq_true] at h
      have e1:q1a (.mk k n ov [a,b]) o=q2d k 0 [a,b] o:=by
       unfold q1a
       rw [if_neg (by simp)]
      rw [e1] at hl
      unfold q2d q2d at hl
      simp only [Bool.and_eq_true]
      exact ⟨fnd_of m a _ h.1 fun p hp=>hl p (List.mem_append_left _ hp),fnd_of m b _ h.2 fun p hp=>hl p (List.mem_append_right _ (List.mem_append_left _ hp))⟩
     | [],h=>cases h
     | [_],h=>cases h
     | _ :: _ :: _ :: _,h=>cases h
    ·cases h
theorem sc_fnd {s:List Ty} (h:errA (chkF s)=0):∀ t∈s,∀ r∈t.rels,r.refs.length=0→fndE s t.name 12 r.ex=true:=by
 intro t ht r hr h0
 have hg:=chk_good h
 obtain ⟨i,hi⟩:=List.getElem?_of_mem ht
 obtain ⟨k,hk⟩:=List.getElem?_of_mem hr
 have hn:=hg.name hi hk
 unfold q33 at hn
 rw [if_pos h0] at hn
 split at hn
 ·exact fnd_of 12 r.ex false (sc_may hg.may t ht r hr h0) (firstZ_all hn)
 ·cases hn
set_option maxRecDepth 4000
abbrev tyXp:Nat:=132
abbrev tyNo:Nat:=70
abbrev tyStr:Nat:=9
abbrev spX:AV:=.iface 135 (.agg [])
def xpC (E:q1v) (B:Int) (bo bp w:Nat):List AV:=[.sl 2 (E.s.map tyC),.map (some bo),.int .i64 B,.int .i64 w,.map (some bp)]
structure XsOk (E:q1v) (B:Int) (bc bo bp:Nat):Prop where
 s:OkS E.s
 may:∀ t∈E.s,∀ r∈t.rels,r.refs.length=0→mayE 12 r.ex=true
 fnd:∀ t∈E.s,∀ r∈t.rels,r.refs.length=0→fndE E.s t.name 12 r.ex=true
 n1:bp≠bc
 n2:bo≠bc
 n3:bo≠bp
 B:B≤100000
 len:∀ n,(E.of n).length≤100000
 okd:∀ n,∀ x∈E.of n,OkD x
structure StX (E:q1v) (B:Int) (bc bo bp:Nat) (es:List (AV×AV×Nat)) (w:Nat) (S:q00):Prop where
 c:q0i S bc=some (tyXp,xpC E B bo bp w,5)
 p:∃ clk,q1z S bp=some (MD,es,clk)
 of:KMap MD ndA S bo (fun n=>ofA (E.of n))
 w:(w:Int)≤B
def Out (bc bp:Nat) (S S':q00):Prop:=∀ c,c≠bc→c≠bp→sget S' c=sget S c
def OutS (bc bp:Nat) (S S':q00):Prop:=∀ c o,c≠bc→c≠bp→sget S c=some o→sget S' c=some o
def cut (S S':q00):q00:=fun c=>match S c with
 | none=>none
 | some _=>S' c
section
variable {E:q1v} {B:Int} {bc bo bp:Nat} {S S' S2:q00} {es es':List (AV×AV×Nat)} {w w':Nat}
theorem cut_get (c:Nat):sget (cut S S') c=if (sget S c).isSome then sget S' c else none:=by
 show (match S c with | none=>none | some _=>S' c)=if (S c).isSome then S' c else none
 cases S c<;>rfl
theorem cut_sub:Sub (cut S S') S':=fun c o h=>by
 rw [cut_get] at h
 split at h
 ·exact h
 ·cases h
theorem Out.s (h:Out bc bp S S'):OutS bc bp S S':=fun c o h1 h2 h3=>(h c h1 h2).trans h3
theorem OutS.refl:OutS bc bp S S:=fun _ _ _ _ h=>h
theorem OutS.trans (h:OutS bc bp S S') (k:OutS bc bp S' S2):OutS bc bp S S2:=fun c o h1 h2 h3=>k c o h1 h2 (h c o h1 h2 h3)
theorem OutS.supd (h:OutS bc bp S S') {b:Nat} {o:AObj} (hb:b=bc∨b=bp∨sget S b=none):OutS bc bp S (supd S' b o):=fun c x h1 h2 h3=>by
 have:b≠c:=by
  rintro rfl
  rcases hb with e | e | e
  ·exact h1 e
  ·exact h2 e
  ·rw [e] at h3;cases h3
 rw [q01,if_neg this]
 exact h c x h1 h2 h3
theorem StX.nc (h:StX E B bc bo bp es w S):sget S bc≠none:=by rw [objAt_some.1 h.c];simp
theorem StX.np (h:StX E B bc bo bp es w S):sget S bp≠none:=by obtain ⟨clk,h⟩:=h.p;rw [mapObj_some.1 h];simp
theorem StX.no (h:StX E B bc bo bp es w S):sget S bo≠none:=by obtain ⟨es,clk,h,-⟩:=h.of;rw [mapObj_some.1 h];simp
theorem StX.mono (h:StX E B bc bo bp es w S) (h1:sget S' bc=sget S bc) (h2:sget S' bp=sget S bp) (h3:sget S' bo=sget S bo):StX E B bc bo bp es w S':=by
 obtain ⟨clk,hp⟩:=h.p
 obtain ⟨es2,clk2,k1,k2,k3⟩:=h.of
 exact ⟨objAt_some.2 (h1.trans (objAt_some.1 h.c)),⟨clk,mapObj_some.2 (h2.trans (mapObj_some.1 hp))⟩,⟨es2,clk2,mapObj_some.2 (h3.trans (mapObj_some.1 k1)),k2,k3⟩,h.w⟩
theorem StX.upd (h:StX E B bc bo bp es w S) {b:Nat} (hb:b≠bc∧b≠bp∧b≠bo) (o:AObj):StX E B bc bo bp es w (supd S b o):=
 h.mono (by rw [q01,if_neg hb.1]) (by rw [q01,if_neg hb.2.1]) (by rw [q01,if_neg hb.2.2])
theorem StX.ne (h:StX E B bc bo bp es w S) {b:Nat} (hb:sget S b=none):b≠bc∧b≠bp∧b≠bo:=by
 refine ⟨?_,?_,?_⟩
 ·rintro rfl;exact h.nc hb
 ·rintro rfl;exact h.np hb
 ·rintro rfl;exact h.no hb
theorem StX.cut (h:StX E B bc bo bp es w S) (k:StX E B bc bo bp es' w' S'):StX E B bc bo bp es' w' (cut S S'):=by
 have g:∀ c,sget S c≠none→sget (Go.HL.cut S S') c=sget S' c:=fun c hc=>by
  rw [cut_get,if_pos]
  cases hq:sget S c with
  | none=>exact absurd hq hc
  | some _=>rfl
 exact k.mono (g _ h.nc) (g _ h.np) (g _ h.no)
theorem OutS.cut (h:OutS bc bp S S'):Out bc bp S (cut S S'):=fun c h1 h2=>by
 rw [cut_get]
 cases hq:sget S c with
 | none=>rfl
 | some o=>
  simp only [Option.isSome_some,if_true]
  exact h c o h1 h2 hq
theorem StX.work (h:StX E B bc bo bp es w S) (hn:XsOk E B bc bo bp) (hw:(w':Int)≤B):StX E B bc bo bp es w' (Go.HL.supd S bc (.cells tyXp (xpC E B bo bp w') 5)):=by
 obtain ⟨clk,hp⟩:=h.p
 exact ⟨by rw [objAt_supd,if_pos rfl],⟨clk,by rw [mapObj_supd,if_neg (Ne.symm hn.n1)];exact hp⟩,h.of.upd (Ne.symm hn.n2) _,hw⟩
end
def q5n (E:q1v) (B:Int) (bc bo bp:Nat) (es:List (AV×AV×Nat)) (S:q00) (q:Option (Nt×Nat)) (ae:AEnd) (S':q00):Prop:=match q with
 | some (t,w')=>ae=.ret (.agg (ntC t))∧StX E B bc bo bp es w' S'∧Out bc bp S S'
 | none=>ae=.pan spX∧OutS bc bp S S'
def NodeOk (E:q1v) (B:Int) (bc bo bp:Nat) (node:q4u) (es:List (AV×AV×Nat)):Prop:=∀ (o:Ob) (r:Rl) (n:ByteArray) (i k:Nat),OkO o→q0o E.s o.ty n=some (i,k,r)→∀ (w:Nat) (S:q00),StX E B bc bo bp es w S →
 ACalls PG nrx77 [.ptr bc 0,.agg (obC o),.agg (rlC r)] S (q5n E B bc bo bp es S (node o r w))
section
variable {E:q1v} {B:Int} {bc bo bp:Nat} {S S' S2:q00} {es es':List (AV×AV×Nat)} {w w':Nat}
theorem fin_cell {QF:AEnd→q00→Prop} {b t tot:Nat} {cs cs':List AV} (ho:q0i S' b=some (t,cs,tot)) (hl:cs.length=3) (hf:Frs (cut S S') S' cs cs') (hQ:QF (.ret (.agg cs')) (cut S S')):rtW [.cell (.ptr b 0) 3 true] QF S':=by
 refine q4y (cut S S') (.agg cs') cut_sub ?_ hQ
 have:q3o S' [.cell (.ptr b 0) 3 true]=some [.agg cs]:=by
  unfold q3o q3o resW
  have:=objAt_some.1 ho
  have hm:mkA true 3 cs=some (.agg cs):=by
   unfold mkA
   rw [if_pos rfl,if_pos (by omega),List.take_of_length_le (by omega)]
  simp only [cellsOf,this,List.drop_zero,Option.bind_some,hm]
 rw [this]
 exact Fr.ag hf
theorem fin_node {QF:AEnd→q00→Prop} {b:Nat} {t:Nt} {zs:List AV} (hz:zs.length=3) (h:StX E B bc bo bp es w S) (hb:sget S b=none) (h1:StX E B bc bo bp es' w' S') (h2:OutS bc bp (supd S b (.cells tyNo zs 3)) S')
  (hQ:∀ S2,StX E B bc bo bp es' w' S2→Out bc bp S S2→QF (.ret (.agg (ntC t))) S2):stW S' 3 (.ptr b 0) (.agg (ntC t)) fun S=>rtW [.cell (.ptr b 0) 3 true] QF S:=by
 have hne:=h.ne hb
 have ho:=h2 b _ hne.1 hne.2.1 (by rw [q01,if_pos rfl])
 have e:q1j zs 0 (ntC t)=ntC t:=by
  have:=q47 (ntC t) zs 0 (by rw [q5v,hz])
  simpa using this
 unfold stW q4k
 dsimp only
 rw [objAt_some.2 ho]
 refine ⟨q5v t,by rw [hz];exact Nat.le_refl _,ntC_ones t,?_⟩
 have ea:q08 (.agg (ntC t))=ntC t:=rfl
 rw [ea,e]
 have hS:OutS bc bp S (supd S' b (.cells tyNo (ntC t) 3)):=by
  refine OutS.supd (fun c o k1 k2 k3=>h2 c o k1 k2 ?_) (.inr (.inr hb))
  rw [q01,if_neg (q0e hb k3)]
  exact k3
 refine fin_cell (S:=S) (by rw [objAt_supd,if_pos rfl]) (q5v t) (Frs.same _) (hQ _ (h.cut (h1.upd hne _)) hS.cut)
theorem StX.fresh (h:StX E B bc bo bp es w S) {b:Nat} (hb:sget S b=none) (o:AObj):StX E B bc bo bp es w (supd S b o):=h.upd (h.ne hb) o
theorem OutS.cell {b:Nat} {o:AObj} (h:OutS bc bp (Go.HL.supd S b o) S') (hb:sget S b=none):OutS bc bp S S':=fun c x h1 h2 h3=>h c x h1 h2 (by rw [q01,if_neg (q0e hb h3)];exact h3)
theorem q58 {f:Nat} {args:List AV} {q:Option (Nt×Nat)} {b:Nat} {zs:List AV} (hz:zs.length=3) (h:StX E B bc bo bp es w S) (hb:sget S b=none)
  (hc:ACalls PG f args (supd S b (.cells tyNo zs 3)) (q5n E B bc bo bp es' (supd S b (.cells tyNo zs 3)) q)) :
  caW PG (supd S b (.cells tyNo zs 3)) (.func (.func f) [] []) args (fun v S'=>stW S' 3 (.ptr b 0) v fun S2=>rtW [.cell (.ptr b 0) 3 true] (q5n E B bc bo bp es' S q) S2) (pqW (q5n E B bc bo bp es' S q)):=by
 refine q0c hc ?_
 intro ae S' hp
 unfold q5n at hp
 cases q with
 | none=>
  obtain ⟨rfl,hp⟩:=hp
  exact ⟨rfl,hp.cell hb⟩
 | some p=>
  obtain ⟨t,w'⟩:=p
  obtain ⟨rfl,h1,h2⟩:=hp
  dsimp only
  exact fin_node hz h hb h1 h2.s fun S2 k1 k2=>⟨rfl,k1,k2⟩
theorem fin_rop {QF:AEnd→q00→Prop} {cs cs':List AV} (hl:cs.length=3) (hf:Frs (cut S S') S' cs cs') (hQ:QF (.ret (.agg cs')) (cut S S')):rtW [.cell (.rop cs) 3 true] QF S':=by
 refine q4y (cut S S') (.agg cs') cut_sub ?_ hQ
 have:q3o S' [.cell (.rop cs) 3 true]=some [.agg cs]:=by
  unfold q3o q3o resW
  have hm:mkA true 3 cs=some (.agg cs):=by
   unfold mkA
   rw [if_pos rfl,if_pos (by omega),List.take_of_length_le (by omega)]
  simp only [cellsOf,Option.bind_some,hm]
 rw [this]
 exact Fr.ag hf
theorem c_xboth (hX:XsOk E B bc bo bp) {o:Ob} {k:Int} {n ov lb:ByteArray} {a b:Ex} {fa fb:Nat→Option (Nt×Nat)}
  (ha:∀ (w:Nat) (S:q00),StX E B bc bo bp es w S→ACalls PG nrx126 [.ptr bc 0,.agg (obC o),.agg (exC a)] S (q5n E B bc bo bp es S (fa w)))
  (hb:∀ (w:Nat) (S:q00),StX E B bc bo bp es w S→ACalls PG nrx126 [.ptr bc 0,.agg (obC o),.agg (exC b)] S (q5n E B bc bo bp es S (fb w))) (hS:StX E B bc bo bp es w S) :
  ACalls PG nrx170 [.ptr bc 0,.str lb,.agg (obC o),.agg [.int .i64 k,.str n,.str ov,.sl 4 [exC a,exC b]]] S (q5n E B bc bo bp es S (match fa w with
   | none=>none
   | some (x,w1)=>match fb w1 with
    | none=>none
    | some (y,w2)=>some (.mk lb [] [x,y],w2))):=by
 refine wx170 ?_
 unfold Bx170
 (try simp only [rwp,zA,zB,zC,zD,zE,zF,zG,zH,zI,rwb,reduceIte,obC,q0f])
 intro b8 hb8
 have q:=ha w _ (hS.fresh hb8 (.cells tyNo [.str ⟨#[]⟩,.nils,.nils] 3))
 simp only [obC,q0f] at q
 (try simp only [rwp,zA,zB,zC,zD,zE,zF,zG,zH,zI,rwb,reduceIte])
 refine q0c q ?_
 intro ae S1 hp
 unfold q5n at hp
 cases hs:fa w with
 | none=>
  rw [hs] at hp
  obtain ⟨rfl,hp⟩:=hp
  exact ⟨rfl,hp.cell hb8⟩
 | some p=>
  obtain ⟨⟨l1,n1,k1⟩,w1⟩:=p
  rw [hs] at hp
  obtain ⟨rfl,h1,h2⟩:=hp
  dsimp only
  rw [q4m]
  refine alst rfl ?_
  (try simp only [rwp,zA,zB,zC,zD,zE,zF,zG,zH,zI,rwb,reduceIte])
  have q:=hb w1 _ h1
  simp only [obC,q0f] at q
  refine q0c q ?_
  intro ae S2 hp
  unfold q5n at hp
  cases hs2:fb w1 with
  | none=>
   rw [hs2] at hp
   obtain ⟨rfl,hp⟩:=hp
   exact ⟨rfl,(h2.s.trans hp).cell hb8⟩
  | some p=>
   obtain ⟨⟨l2,n2,k2⟩,w2⟩:=p
   rw [hs2] at hp
   obtain ⟨rfl,h3,h4⟩:=hp
   dsimp only
   rw [q4m]
   have hne:=hS.ne hb8
   have ho8:q0i S2 b8=some (tyNo,[.str ⟨#[]⟩,.nils,.nils],3):=objAt_some.2 (by rw [h4 b8 hne.1 hne.2.1,h2 b8 hne.1 hne.2.1,q01,if_pos rfl])
   (try simp only [rwp,zA,zB,zC,zD,zE,zF,zG,zH,zI,rwb,reduceIte,kpW_rop,ho8])
   have hS8:OutS bc bp S S2:=(h2.s.trans h4.s).cell hb8
   refine fin_rop (S:=S) (cs':=ntC (.mk lb [] [.mk l1 n1 k1,.mk l2 n2 k2])) rfl ?_ ?_
   ·simp only [q4m,List.map_cons,List.map_nil]
    exact .cons (.same _) (.cons (.nils 1) (.cons (.same _) .nil))
   ·have hS9:OutS bc bp S (sdel (supd S2 b8 (.cells tyNo [.str lb,.nils,.sl 3 [[.str l1,.sl 1 (n1.map fun s=>[AV.str s]),.sl 3 (k1.map ntC)],[.str l2,.sl 1 (n2.map fun s=>[AV.str s]),.sl 3 (k2.map ntC)]]] 3)) b8):=fun c x u1 u2 u3=>by
     have:=q0e hb8 u3
     rw [q0a,if_neg this,q01,if_neg this]
     exact hS8 c x u1 u2 u3
    refine ⟨rfl,hS.cut ?_,hS9.cut⟩
    refine h3.mono ?_ ?_ ?_
    ·rw [q0a,if_neg hne.1,q01,if_neg hne.1]
    ·rw [q0a,if_neg hne.2.1,q01,if_neg hne.2.1]
    ·rw [q0a,if_neg hne.2.2,q01,if_neg hne.2.2]
theorem LstN.rebase {S0 S1 S:q00} {t sz:Nat} {v:AV} {rows:List (List AV)} (h:LstN S0 S t sz v rows) (hk:∀ b off n cap,v=.own b off n cap→sget S1 b=none):LstN S1 S t sz v rows:=by
 obtain ⟨hr,⟨rfl,rfl⟩ | ⟨b,cap,rfl,h1,h2,h3,h4,h5⟩⟩:=h
 ·exact ⟨hr,.inl ⟨rfl,rfl⟩⟩
 ·exact ⟨hr,.inr ⟨b,cap,rfl,hk _ _ _ _ rfl,h2,h3,h4,h5⟩⟩
theorem foldX_cons {s:List Ty} {ov:ByteArray} {node:q4u} {x:Nd} {r:List Nd} {ks:List Nt} {w:Nat}:q2g s ov node (x :: r) ks w=match q0o s x.o.ty ov with
  | none=>q2g s ov node r ks w
  | some (_,_,rl)=>if x.rl=⟨#[]⟩ then (match node x.o rl w with
   | none=>none
   | some (k,w')=>q2g s ov node r (ks++[k]) w') else q2g s ov node r ks w:=rfl
theorem nameB_bd {s:ByteArray} (h:q0p s=true):s.size≤1125899906842624:=by
 unfold q0p at h
 simp only [Bool.and_eq_true,decide_eq_true_eq] at h
 omega
structure Ls (v:AV) (xs:List Nd):Prop where
 ln:∀ {S:q00} {K:AV→Prop},K (.int .i64 xs.length)→lnW S 1 v K
 ia:∀ {i:Nat} {x:Nd} {K:AV→Prop},xs[i]?=some x→K (.rop (ndC x))→iaW 3 v (.int .i64 i) K
theorem ofA_ls (xs:List Nd):Ls (q28 false .nils (ofA xs)) xs:=by
 unfold ofA
 split
 ·rename_i h
  subst h
  exact ⟨fun h=>by show lnW _ 1 .nils _;rw [q8x];exact h,fun h=>by cases h⟩
 ·refine ⟨fun h=>?_,fun h hk=>?_⟩
  ·show lnW _ 1 (.sl 3 (xs.map ndC)) _
   (try simp only [rwp,zA,zB,zC,zD,zE,zF,zG,zH,zI,rwb,reduceIte,List.length_map])
   exact h
  ·show iaW 3 (.sl 3 (xs.map ndC)) _ _
   (try simp only [rwp,zA,zB,zC,zD,zE,zF,zG,zH,zI,rwb,reduceIte,List.getElem?_map,h])
   exact hk
theorem c_xarrow (hX:XsOk E B bc bo bp) {node:q4u} (hnode:NodeOk E B bc bo bp node es) {o:Ob} (ho:OkO o) {k:Int} {n ov:ByteArray} {ka:AV} (hn:n.size≤1125899906842624) (hov:ov.size≤1125899906842624) (hS:StX E B bc bo bp es w S) :
  ACalls PG nrx169 [.ptr bc 0,.agg (obC o),.agg [.int .i64 k,.str n,.str ov,ka]] S (q5n E B bc bo bp es S (match q2g E.s ov node (E.of ⟨o,n⟩) [] w with
   | none=>none
   | some (l,w')=>some (.mk (n++⟨#[46]⟩++ov) [] l,w'))):=by
 have hc:=q07 hS.c
 refine wx169 ?_
 unfold Bx169
 (try simp only [rwp,zA,zB,zC,zD,zE,zF,zG,zH,zI,rwb,reduceIte,obC,ByteArray.size_append])
 intro b6 hb6
 have hS6:=hS.fresh hb6 (.cells tyNo [.str ⟨#[]⟩,.nils,.nils] 3)
 have hd:(ByteArray.mk #[46]).size=1:=rfl
 refine ⟨by omega,by omega,fun b7 hb7=>?_⟩
 have hS7:=hS6.fresh hb7 (.cells tyNo [.str (n++⟨#[46]⟩++ov),.nils,.nils] 3)
 obtain ⟨d76,hb7'⟩:=frsh hb7
 generalize hlab:n++⟨#[46]⟩++ov=lab at hS7 ⊢
 have n6:=hS.ne hb6
 have n7:=hS.ne hb7'
 (try simp only [rwp,zA,zB,zC,zD,zE,zF,zG,zH,zI,rwb,reduceIte,n6.1,n7.1,hc,xpC])
 generalize hS1:supd (supd S b6 (.cells tyNo [.str ⟨#[]⟩,.nils,.nils] 3)) b7 (.cells tyNo [.str lab,.nils,.nils] 3)=S1 at hS7 ⊢
 refine KMap.lki hS7.of ke_nd ⟨o,n⟩ ?_
 have hls:=ofA_ls (E.of ⟨o,n⟩)
 generalize q28 false .nils (ofA (E.of ⟨o,n⟩))=lv at hls ⊢
 have hxl:=hX.len ⟨o,n⟩
 have hxd:=hX.okd ⟨o,n⟩
 generalize E.of ⟨o,n⟩=xs at hls hxl hxd ⊢
 refine hls.ln ?_
 have g7:sget S1 b7=some (.cells tyNo [.str lab,.nils,.nils] 3):=by rw [← hS1,q01,if_pos rfl]
 have g6:sget S1 b6=some (.cells tyNo [.str ⟨#[]⟩,.nils,.nils] 3):=by rw [← hS1,q01,if_neg d76,q01,if_pos rfl]
 have hO1:OutS bc bp S S1:=by rw [← hS1];exact (OutS.refl.supd (.inr (.inr hb6))).supd (.inr (.inr hb7'))
 refine LoopP.introS (fun x:Nat×Nat×AV×List Nt=>[(0,.ptr bc 0),(5,.rop [.int .i64 k,.str n,.str ov,ka]),(6,.ptr b6 0),(7,.ptr b7 0),(27,lv),(28,.int .i64 xs.length),(29,.int .i64 x.1)])
  (fun x S'=>x.1≤xs.length∧x.2.2.2.length≤x.1∧StX E B bc bo bp es x.2.1 S'∧OutS bc bp S S'∧sget S' b6=some (.cells tyNo [.str ⟨#[]⟩,.nils,.nils] 3)∧sget S' b7=some (.cells tyNo [.str lab,.nils,x.2.2.1] 3) ∧
   LstN emp S' tyNo 3 x.2.2.1 (x.2.2.2.map ntC)∧(∀ c,sget S1 c≠none→q1b x.2.2.1 c)∧q2g E.s ov node (xs.drop x.1) x.2.2.2 x.2.1=q2g E.s ov node xs [] w) (fun x=>xs.length-x.1) (0,w,.nils,[])
  ⟨Nat.zero_le _,Nat.le_refl _,hS7,hO1,g6,g7,LstN.nil,fun c _ b off n cap h=>(by cases h),rfl⟩ rfl ?_
 rintro ⟨i,w1,v,ks⟩ S2 ⟨hi,hkl,h1,h2,h3,h4,h5,h6,h7⟩ kk hkk
 dsimp only at hi hkl h1 h2 h3 h4 h5 h6 h7 ⊢
 (try simp only [rwp,zA,zB,zC,zD,zE,zF,zG,zH,zI,rwb,reduceIte,C169_1])
 cases a1:decide ((i:Int)<xs.length)
 ·have e:i=xs.length:=by have:=of_decide_eq_false a1;omega
  subst e
  rw [List.drop_length] at h7
  have h7:some (ks,w1)=q2g E.s ov node xs [] w:=h7
  rw [← h7]
  have ho7:=objAt_some.2 h4
  have hc7:=q07 ho7
  have ho6:=objAt_some.2 h3
  have hv1:one v=true:=h5.one
  (try simp only [rwp,zA,zB,zC,zD,zE,zF,zG,zH,zI,rwb,reduceIte,ho6,hc7,hv1])
  have hS3:OutS bc bp S (sdel (supd S2 b6 (.cells tyNo [.str lab,.nils,v] 3)) b6):=fun c y u1 u2 u3=>by
   have:=q0e hb6 u3
   rw [q0a,if_neg this,q01,if_neg this]
   exact h2 c y u1 u2 u3
  refine fin_rop (S:=S) (cs':=ntC (.mk lab [] ks)) rfl ?_ ⟨rfl,hS.cut ?_,hS3.cut⟩
  ·rw [q4m]
   refine .cons (.same _) (.cons (.nils 1) (.cons (Fr.lst (t:=tyNo) ?_) .nil))
   refine (h5.keepAt (S':=sdel (supd S2 b6 (.cells tyNo [.str lab,.nils,v] 3)) b6) fun b off m cap hv=>?_).rebase fun b off m cap hv=>?_
   ·have:=h6 b6 (by rw [g6];simp) _ _ _ _ hv
    rw [q0a,if_neg this,q01,if_neg this]
   rw [cut_get]
   have:=h6 b
   cases hq:sget S b with
   | none=>rfl
   | some y=>
    exfalso
    have h1b:sget S1 b≠none:=by
     have hb6':b6≠b:=q0e hb6 hq
     have hb7'':b7≠b:=q0e hb7' hq
     rw [← hS1,q01,if_neg hb7'',q01,if_neg hb6',hq]
     simp
    exact this h1b _ _ _ _ hv rfl
  ·refine h1.mono ?_ ?_ ?_
   ·rw [q0a,if_neg n6.1,q01,if_neg n6.1]
   ·rw [q0a,if_neg n6.2.1,q01,if_neg n6.2.1]
   ·rw [q0a,if_neg n6.2.2,q01,if_neg n6.2.2]
 ·have hlt:=of_decide_eq_true a1
  obtain ⟨x,hx⟩:=q0s hlt
  have hxo:=hxd x (List.mem_of_getElem? hx)
  rw [q0z hx,foldX_cons] at h7
  have hc2:=q07 h1.c
  have on:∀ b:Bool,q2g E.s ov node (xs.drop (i+1)) ks w1=q2g E.s ov node xs [] w→rcW kk [(0,.ptr bc 0),(5,.rop [.int .i64 k,.str n,.str ov,ka]),(6,.ptr b6 0),(7,.ptr b7 0),(27,lv),(28,.int .i64 xs.length),(29,.int .i64 ((IntKind.i64.wrap ((i:Int)+1))))] S2:=by
   intro _ hf
   (simp (disch:=omega) only [q03])
   exact q09 rfl (hkk (i+1,w1,v,ks) S2 ⟨by dsimp only;omega,by dsimp only;omega,h1,h2,h3,h4,h5,h6,hf⟩ (by dsimp only;omega))
  (try simp only [rwp,zA,zB,zC,zD,zE,zF,zG,zH,zI,rwb,reduceIte])
  refine hls.ia hx ?_
  (try simp only [rwp,zA,zB,zC,zD,zE,zF,zG,zH,zI,rwb,reduceIte,ndC,hc2,xpC])
  have q:=q1g hX.s x.o.ty ov S2
  simp only [scA] at q
  refine q0c q ?_
  rintro ae S' ⟨rfl,rfl⟩
  cases hq:q0o E.s x.o.ty ov with
  | none=>
   rw [hq] at h7
   dsimp only at h7 ⊢
   (try simp only [rwp,zA,zB,zC,zD,zE,zF,zG,zH,zI,rwb,reduceIte,zeroR])
   refine alst rfl ?_
   (try simp only [rwp,zA,zB,zC,zD,zE,zF,zG,zH,zI,rwb,reduceIte,C169_2])
   exact on true h7
  | some p=>
   obtain ⟨fi,fk,r⟩:=p
   rw [hq] at h7
   dsimp only at h7 ⊢
   (try simp only [rwp,zA,zB,zC,zD,zE,zF,zG,zH,zI,rwb,reduceIte,q0g])
   refine alst rfl ?_
   cases a2:decide (x.rl=⟨#[]⟩)
   ·rw [if_neg (of_decide_eq_false a2)] at h7
    (try simp only [rwp,zA,zB,zC,zD,zE,zF,zG,zH,zI,rwb,reduceIte,C169_2])
    exact on true h7
   ·rw [if_pos (of_decide_eq_true a2)] at h7
    have ho7:=objAt_some.2 h4
    have hc7:=q07 ho7
    (try simp only [rwp,zA,zB,zC,zD,zE,zF,zG,zH,zI,rwb,reduceIte,C169_2,hc7])
    have q:=hnode x.o r ov fi fk hxo.o hq w1 _ h1
    simp only [obC,q0g] at q
    refine q0c q ?_
    intro ae S3 hp
    unfold q5n at hp
    cases hs:node x.o r w1 with
    | none=>
     rw [hs] at hp h7
     obtain ⟨rfl,hp⟩:=hp
     dsimp only at h7 ⊢
     show pqW _ _ _
     unfold pqW
     rw [← h7]
     exact ⟨rfl,h2.trans hp⟩
    | some p=>
     obtain ⟨t,w3⟩:=p
     rw [hs] at hp h7
     obtain ⟨rfl,k1,k2⟩:=hp
     dsimp only at h7 ⊢
     have d1:∀ c,sget S1 c≠none→c=b6∨c=b7∨sget S c≠none:=fun c hc=>by
      rw [← hS1,q01,q01] at hc
      split at hc
      ·rename_i e;exact .inr (.inl e.symm)
      ·split at hc
       ·rename_i e;exact .inl e.symm
       ·exact .inr (.inr hc)
     have s1:∀ c,sget S c≠none→sget S1 c≠none:=fun c hc=>by
      rw [← hS1,q01,q01]
      split
      ·simp
      ·split
       ·simp
       ·exact hc
     have g36:sget S3 b6=some (.cells tyNo [.str ⟨#[]⟩,.nils,.nils] 3):=(k2 b6 n6.1 n6.2.1).trans h3
     have g37:sget S3 b7=some (.cells tyNo [.str lab,.nils,v] 3):=(k2 b7 n7.1 n7.2.1).trans h4
     have dom3:∀ c,sget S1 c≠none→∃ o,sget S3 c=some o:=fun c hc=>by
      have:sget S3 c≠none:=by
       rcases d1 c hc with rfl | rfl | hc
       ·rw [g36];simp
       ·rw [g37];simp
       ·by_cases e1:c=bc
        ·rw [e1];exact k1.nc
        ·by_cases e2:c=bp
         ·rw [e2];exact k1.np
         ·cases hq:sget S c with
          | none=>exact absurd hq hc
          | some o=>rw [(h2.trans k2.s) c o e1 e2 hq];simp
      cases hq:sget S3 c with
      | none=>exact absurd hq this
      | some o=>exact ⟨o,rfl⟩
     refine ⟨fun u hu b hb=>(by rw [List.mem_singleton.1 hu] at hb;cases hb;exact k2 b7 n7.1 n7.2.1),⟨q5v t,rfl⟩,?_⟩
     have o3:LstN emp S3 tyNo 3 v (ks.map ntC):=h5.keepAt fun b off m cap hv=>k2 b (fun e=>h6 bc hS7.nc _ _ _ _ hv e.symm) (fun e=>h6 bp hS7.np _ _ _ _ hv e.symm)
     show apW S3 tyNo 3 64 v (.sl 3 [ntC t]) _
     refine LstN.app (Sub.emp S3) o3 (fun r hr=>by rw [List.mem_singleton.1 hr];exact q5v t) (q2u fun r hr=>by rw [List.mem_singleton.1 hr];exact ntC_ones t) (by simp only [List.length_map,List.length_singleton];omega) fun v' S4 j1 j2 j3=>?_
     have keep:∀ c,sget S1 c≠none→sget S4 c=sget S3 c∧q1b v' c:=fun c hc=>by
      obtain ⟨o,ho⟩:=dom3 c hc
      obtain ⟨u1,u2⟩:=j3 c o ho (h6 c hc)
      exact ⟨u1.trans ho.symm,u2⟩
     have g47:=(keep b7 (by rw [g7];simp)).1.trans g37
     have ho47:=objAt_some.2 g47
     have hv1:=j2.one
     obtain ⟨ha1,-⟩:=one_aC hv1
     (try simp only [rwp,zA,zB,zC,zD,zE,zF,zG,zH,zI,rwb,reduceIte,ho47,hv1,ha1])
     (simp (disch:=omega) only [q03])
     refine q09 rfl (hkk (i+1,w3,v',ks++[t]) _ ⟨by dsimp only;omega,by simp only [List.length_append,List.length_singleton];omega,?_,?_,?_,?_,?_,fun c hc=>(keep c hc).2,h7⟩ (by dsimp only;omega))
     ·exact (k1.mono (keep bc hS7.nc).1 (keep bp hS7.np).1 (keep bo hS7.no).1).upd n7 _
     ·refine OutS.supd (fun c o u1 u2 u3=>?_) (.inr (.inr hb7'))
      rw [(keep c (s1 c (by rw [u3];simp))).1]
      exact (h2.trans k2.s) c o u1 u2 u3
     ·rw [q01,if_neg d76,(keep b6 (by rw [g6];simp)).1]
      exact g36
     ·rw [q01,if_pos rfl]
     ·rw [List.map_append]
      exact LstN.upd j2 (keep b7 (by rw [g7];simp)).2 _
theorem c_xexpr (hX:XsOk E B bc bo bp) {node:q4u} (hnode:NodeOk E B bc bo bp node es) {o:Ob} (ho:OkO o):∀ (m:Nat) (e:Ex),mayE m e=true→fndE E.s o.ty m e=true→∀ (w:Nat) (S:q00),StX E B bc bo bp es w S →
  ACalls PG nrx126 [.ptr bc 0,.agg (obC o),.agg (exC e)] S (q5n E B bc bo bp es S (xeQ E node o m e w))
 | 0,e,hm,_,w,S,hS=>by cases hm
 | m+1,.mk k n ov ks,hm,hf,w,S,hS=>by
  have ih:=c_xexpr hX hnode ho m
  have hc:=q07 hS.c
  unfold mayE at hm
  unfold fndE at hf
  refine wx126 ?_
  unfold Bx126 xeQ
  (try simp only [rwp,zA,zB,zC,zD,zE,zF,zG,zH,zI,rwb,reduceIte,obC,q0f,Ex.kind,Ex.name,Ex.over,Ex.kids])
  intro b6 hb6
  have hS6:=hS.fresh hb6 (.cells tyNo [.str ⟨#[]⟩,.nils,.nils] 3)
  (refine q04 (fun k0=>?_) (fun k0=>?_)<;>(try simp only [hlc] at k0))
  ·rw [if_pos k0] at hf ⊢
   have hc6:=q07 hS6.c
   (try simp only [rwp,zA,zB,zC,zD,zE,zF,zG,zH,zI,rwb,reduceIte,hc6,xpC])
   have q:=q1g hX.s o.ty n (supd S b6 (.cells tyNo [.str ⟨#[]⟩,.nils,.nils] 3))
   simp only [scA] at q
   refine q0c q ?_
   rintro ae S' ⟨rfl,rfl⟩
   cases hq:q0o E.s o.ty n with
   | none=>rw [hq] at hf;cases hf
   | some p=>
    obtain ⟨i,j,r⟩:=p
    dsimp only
    (try simp only [rwp,zA,zB,zC,zD,zE,zF,zG,zH,zI,rwb,reduceIte,q0g])
    refine alst rfl ?_
    (try simp only [rwp,zA,zB,zC,zD,zE,zF,zG,zH,zI,rwb,reduceIte])
    have q:=hnode o r n i j ho hq w _ hS6
    simp only [obC,q0g] at q
    have:=q58 (q:=node o r w) rfl hS hb6 q
    exact this
  ·rw [if_neg k0] at hm hf ⊢
   (refine q04 (fun k1=>?_) (fun k1=>?_)<;>(try simp only [hlc] at k1))
   ·rw [if_pos k1] at hm ⊢
    simp only [Bool.and_eq_true] at hm
    have q:=c_xarrow (k:=k) (ka:=.sl 4 (ks.map exC)) hX hnode ho (nameB_bd hm.1) (nameB_bd hm.2.1) hS6
    simp only [obC] at q
    exact q58 rfl hS hb6 q
   ·rw [if_neg k1] at hm hf ⊢
    have hk:k=2∨k=3∨k=4:=by
     refine Classical.byContradiction fun hn=>?_
     rw [if_neg hn] at hm
     cases hm
    rw [if_pos hk] at hm
    obtain ⟨a,b,rfl⟩:∃ a b,ks=[a,b]:=by
     match ks,hm with
     | [a,b],_=>exact ⟨a,b,rfl⟩
     | [],hm=>cases hm
     | [_],hm=>cases hm
     | _ :: _ :: _ :: _,hm=>cases hm
    simp only [two,Bool.and_eq_true] at hm hf
    obtain ⟨ma,mb⟩:=hm
    obtain ⟨fa,fb⟩:=hf
    have q:=fun lb=>c_xboth (k:=k) (n:=n) (ov:=ov) (lb:=lb) hX (ih a ma fa) (ih b mb fb) hS6
    simp only [obC] at q
    rcases hk with rfl | rfl | rfl
    ·(try simp only [rwp,zA,zB,zC,zD,zE,zF,zG,zH,zI,rwb,reduceIte,hwR,reduceCtorEq,Int.reduceEq])
     simp only [← q3y]
     exact q58 rfl hS hb6 (q ⟨#[111,114]⟩)
    ·(try simp only [rwp,zA,zB,zC,zD,zE,zF,zG,zH,zI,rwb,reduceIte,hwR,reduceCtorEq,Int.reduceEq])
     simp only [← q3y]
     exact q58 rfl hS hb6 (q ⟨#[97,110,100]⟩)
    ·(try simp only [rwp,zA,zB,zC,zD,zE,zF,zG,zH,zI,rwb,reduceIte,hwR,reduceCtorEq,Int.reduceEq])
     simp only [← q3y]
     exact q58 rfl hS hb6 (q ⟨#[110,111,116]⟩)
end
set_option maxRecDepth 4000
section
variable {E:q1v} {B:Int} {bc bo bp:Nat} {S S' S2:q00} {es es':List (AV×AV×Nat)} {w w':Nat}
theorem dom_of (hS:StX E B bc bo bp es w S) (hT:StX E B bc bo bp es' w' S') (h:OutS bc bp S S') {b:Nat} (hb:sget S' b=none):sget S b=none:=by
 cases hq:sget S b with
 | none=>rfl
 | some o=>
  exfalso
  by_cases e1:b=bc
  ·subst e1;exact hT.nc hb
  ·by_cases e2:b=bp
   ·subst e2;exact hT.np hb
   ·rw [h b o e1 e2 hq] at hb;cases hb
theorem fin_last {b6 t1 t2:Nat} {lab:ByteArray} {v1 v2:AV} {ns:List ByteArray} {ks:List Nt} (hS:StX E B bc bo bp es w S) (hb6:sget S b6=none) (h1:StX E B bc bo bp es' w' S') (h2:OutS bc bp S S')
  (l1:LstN emp S' t1 1 v1 (ns.map fun s=>[AV.str s])) (l2:LstN emp S' t2 3 v2 (ks.map ntC)) (a1:∀ c,sget S c≠none→q1b v1 c∧q1b v2 c) (a6:q1b v1 b6∧q1b v2 b6) :
  rtW [.cell (.ptr b6 0) 3 true] (q5n E B bc bo bp es' S (some (.mk lab ns ks,w'))) (supd S' b6 (.cells tyNo [.str lab,v1,v2] 3)):=by
 have n6:=hS.ne hb6
 have hS3:OutS bc bp S (supd S' b6 (.cells tyNo [.str lab,v1,v2] 3)):=OutS.supd h2 (.inr (.inr hb6))
 refine fin_cell (S:=S) (cs':=ntC (.mk lab ns ks)) (by rw [objAt_supd,if_pos rfl]) rfl ?_ ⟨rfl,hS.cut (h1.upd n6 _),hS3.cut⟩
 have base:∀ {v:AV} {t sz:Nat} {rows:List (List AV)},LstN emp S' t sz v rows→(∀ c,sget S c≠none→q1b v c)→q1b v b6→Fr (cut S (supd S' b6 (.cells tyNo [.str lab,v1,v2] 3))) (supd S' b6 (.cells tyNo [.str lab,v1,v2] 3)) v (.sl sz rows):=by
  intro v t sz rows hl ha hb
  refine Fr.lst (t:=t) ((hl.upd hb _).rebase fun b off m cap hv=>?_)
  rw [cut_get]
  cases hq:sget S b with
  | none=>rfl
  | some y=>exact absurd rfl (ha b (by rw [hq];simp) _ _ _ _ hv)
 rw [q4m]
 exact .cons (.same _) (.cons (base l1 (fun c hc=>(a1 c hc).1) a6.1) (.cons (base l2 (fun c hc=>(a1 c hc).2) a6.2) .nil))
theorem q3n (c:Nat):q1b .nils c:=fun b off n cap h=>by cases h
theorem q78 {b n cap c:Nat} (h:c≠b):q1b (.own b 0 n cap) c:=fun b' off n' cap' h'=>by cases h';exact h
theorem c_xnodeS (hX:XsOk E B bc bo bp) {fu:Nat} {P:List Nd} (hP:PathE es P) (hl:P.length+fu=50) {t:List Nd→q4u} (ht0:fu=0→t=fun _ _ _ _=>none)
  (ht1:∀ f,fu=f+1→∃ g:List Nd→q4u,t=xnT E g∧∀ P es,PathE es P→P.length+f=50→NodeOk E B bc bo bp (g P) es):NodeOk E B bc bo bp (xnS B t P) es:=by
 intro o r n fi fk ho hf w S hS
 obtain ⟨hti,ty,hty,hrn,hk⟩:=q23 hf
 have hr:r.refs.length=0→mayE 12 r.ex=true:=hX.may ty (List.mem_of_getElem? hty) r (List.mem_of_getElem? hk)
 have hr2:r.refs.length=0→fndE E.s ty.name 12 r.ex=true:=hX.fnd ty (List.mem_of_getElem? hty) r (List.mem_of_getElem? hk)
 have hc:=q07 hS.c
 have hoc:=hS.c
 have hrs:r.name.size≤1125899906842624:=((hX.s.at hty).at hk).name
 have hB:=hX.B
 refine wx77 ?_
 unfold Bx77
 (try simp only [rwp,zA,zB,zC,zD,zE,zF,zG,zH,zI,rwb,reduceIte,obC,q0g])
 intro b6 hb6
 have hS6:=hS.fresh hb6 (.cells tyNo [.str ⟨#[]⟩,.nils,.nils] 3)
 have n6:=hS.ne hb6
 have q:=q2k ho
 simp only [obC] at q
 refine q05 q ?_
 have hol:=q4d ho
 have hd:(ByteArray.mk #[35]).size=1:=rfl
 (try simp only [rwp,zA,zB,zC,zD,zE,zF,zG,zH,zI,rwb,reduceIte,ByteArray.size_append])
 refine ⟨by omega,by omega,fun b7 hb7=>?_⟩
 obtain ⟨d76,hb7'⟩:=frsh hb7
 have n7:=hS.ne hb7'
 generalize hlab:q30 o++⟨#[35]⟩++r.name=lab
 (try simp only [rwp,zA,zB,zC,zD,zE,zF,zG,zH,zI,rwb,reduceIte,n6.1,n7.1,hc,xpC,hoc,Ne.symm n6.1,Ne.symm n7.1])
 have hlab':labX o r=lab:=hlab
 have hw:=hS.w
 (simp (disch:=omega) only [q03])
 have hT0:OutS bc bp S (supd (supd (supd S b6 (.cells tyNo [.str ⟨#[]⟩,.nils,.nils] 3)) b7 (.cells tyNo [.str lab,.nils,.nils] 3)) bc (.cells tyXp [.sl 2 (E.s.map tyC),.map (some bo),.int .i64 B,.int .i64 ((w:Int)+1),.map (some bp)] 5)):=
  ((OutS.refl.supd (.inr (.inr hb6))).supd (.inr (.inr hb7'))).supd (.inl rfl)
 have gT6:sget (supd (supd (supd S b6 (.cells tyNo [.str ⟨#[]⟩,.nils,.nils] 3)) b7 (.cells tyNo [.str lab,.nils,.nils] 3)) bc (.cells tyXp [.sl 2 (E.s.map tyC),.map (some bo),.int .i64 B,.int .i64 ((w:Int)+1),.map (some bp)] 5)) b6=some (.cells tyNo [.str ⟨#[]⟩,.nils,.nils] 3):=by
  rw [q01,if_neg (Ne.symm n6.1),q01,if_neg d76,q01,if_pos rfl]
 have gT7:sget (supd (supd (supd S b6 (.cells tyNo [.str ⟨#[]⟩,.nils,.nils] 3)) b7 (.cells tyNo [.str lab,.nils,.nils] 3)) bc (.cells tyXp [.sl 2 (E.s.map tyC),.map (some bo),.int .i64 B,.int .i64 ((w:Int)+1),.map (some bp)] 5)) b7=some (.cells tyNo [.str lab,.nils,.nils] 3):=by
  rw [q01,if_neg (Ne.symm n7.1),q01,if_pos rfl]
 have hTs:¬ B<(w:Int)+1→StX E B bc bo bp es (w+1) (supd (supd (supd S b6 (.cells tyNo [.str ⟨#[]⟩,.nils,.nils] 3)) b7 (.cells tyNo [.str lab,.nils,.nils] 3)) bc (.cells tyXp [.sl 2 (E.s.map tyC),.map (some bo),.int .i64 B,.int .i64 ((w:Int)+1),.map (some bp)] 5)):=fun h=>
  StX.work ((hS.fresh hb6 _).upd n7 _) hX (by omega)
 generalize supd (supd (supd S b6 _) b7 _) bc _=T at hT0 gT6 gT7 hTs ⊢
 unfold xnS
 cases a1:decide (B<(w:Int)+1)
 ·have b1:=of_decide_eq_false a1
  rw [if_neg b1]
  have hT:=hTs b1
  have hcT:=q07 hT.c
  (try simp only [rwp,zA,zB,zC,zD,zE,zF,zG,zH,zI,rwb,reduceIte,C77_1,hcT,xpC])
  have hKp:KMap MD ndA T bp (fun n=>if n∈P then some (.bool true) else none):=by
   obtain ⟨clk,hp⟩:=hT.p
   exact ⟨es,clk,hp,fun x hx=>(by obtain ⟨n,e⟩:=hP.key x hx;rw [e];exact ke_nd.ok n),hP.get⟩
  have ho6:=objAt_some.2 gT6
  have ho7:=objAt_some.2 gT7
  refine KMap.lki hKp ke_nd ⟨o,r.name⟩ ?_
  by_cases hn:(⟨o,r.name⟩:Nd)∈P
  ·simp only [if_pos hn]
   (try simp only [rwp,zA,zB,zC,zD,zE,zF,zG,zH,zI,rwb,reduceIte])
   refine ⟨⟨rfl,rfl,trivial⟩,fun b hb=>?_⟩
   have hbS:=dom_of hS hT hT0 hb
   have d6:b≠b6:=by rintro rfl;rw [gT6] at hb;cases hb
   have d7:b≠b7:=by rintro rfl;rw [gT7] at hb;cases hb
   (try simp only [rwp,zA,zB,zC,zD,zE,zF,zG,zH,zI,rwb,reduceIte,ho6,ho7,d6,d7,Ne.symm d6,Ne.symm d7,d76,Ne.symm d76])
   rw [hlab']
   refine fin_last (t1:=tyStr) (t2:=tyNo) (S':=supd (supd T b (.cells tyStr [.str ⟨#[46,46]⟩] 1)) b7 (.cells tyNo [.str lab,.own b 0 1 1,.nils] 3)) hS hb6 ((hT.fresh hb _).upd n7 _) ((hT0.supd (.inr (.inr hbS))).supd (.inr (.inr hb7'))) ?_ LstN.nil (fun c hc=>⟨q78 (by rintro rfl;exact hc hbS),q3n c⟩) ⟨q78 (Ne.symm d6),q3n _⟩
   refine ⟨fun r hr=>by rw [List.mem_singleton.1 hr];rfl,.inr ⟨b,1,rfl,rfl,?_,Nat.le_refl _,by decide,by decide⟩⟩
   rw [q01,if_neg (Ne.symm d7),q01,if_pos rfl]
   rfl
  ·simp only [if_neg hn]
   obtain ⟨clk,hmp⟩:=hT.p
   (try simp only [rwp,zA,zB,zC,zD,zE,zF,zG,zH,zI,rwb,reduceIte,lnW_map,hmp,q6m])
   have hen:=hP.len
   by_cases hf0:fu=0
   ·rw [decide_eq_true (show ((es.length:Int)=50) by omega)]
    (try simp only [rwp,zA,zB,zC,zD,zE,zF,zG,zH,zI,rwb,reduceIte])
    rw [ht0 hf0]
    exact q50 ⟨rfl,hT0⟩
   ·rw [decide_eq_false (show ¬ ((es.length:Int)=50) by omega)]
    obtain ⟨f,hf1⟩:∃ f,fu=f+1:=⟨fu-1,by omega⟩
    obtain ⟨g,rfl,hg⟩:=ht1 f hf1
    unfold xnT
    rw [hlab']
    (try simp only [rwp,zA,zB,zC,zD,zE,zF,zG,zH,zI,rwb,reduceIte,C77_2])
    (refine q04 (fun h0=>?_) (fun h0=>?_)<;>(try simp only [hlc] at h0))
    ·rw [if_neg (show ¬ r.refs.length=0 by omega)]
     (try simp only [rwp,zA,zB,zC,zD,zE,zF,zG,zH,zI,rwb,reduceIte,hcT,xpC])
     refine KMap.lki hT.of ke_nd ⟨o,r.name⟩ ?_
     have hls:=ofA_ls (E.of ⟨o,r.name⟩)
     generalize q28 false .nils (ofA (E.of ⟨o,r.name⟩))=lv at hls ⊢
     have hxl:=hX.len ⟨o,r.name⟩
     have hxd:=hX.okd ⟨o,r.name⟩
     generalize E.of ⟨o,r.name⟩=xs at hls hxl hxd ⊢
     refine hls.ln ?_
     refine LoopP.introS (fun x:Nat×AV=>[(6,.ptr b6 0),(7,.ptr b7 0),(68,lv),(69,.int .i64 xs.length),(70,.int .i64 x.1)])
      (fun x S'=>x.1≤xs.length∧(∀ c,c≠b7→sget T c≠none→sget S' c=sget T c)∧sget S' b7=some (.cells tyNo [.str lab,x.2,.nils] 3)∧LstN emp S' tyStr 1 x.2 (((xs.take x.1).map q36).map fun s=>[AV.str s])∧∀ c,sget T c≠none→q1b x.2 c) (fun x=>xs.length-x.1) (0,.nils)
      ⟨Nat.zero_le _,fun _ _ _=>rfl,gT7,LstN.nil,fun c _=>q3n c⟩ rfl ?_
     rintro ⟨i,v⟩ S2 ⟨hi,k1,k2,k3,k4⟩ kk hkk
     dsimp only at hi k1 k2 k3 k4 ⊢
     have st2:StX E B bc bo bp es (w+1) S2:=hT.mono (k1 bc (Ne.symm n7.1) hT.nc) (k1 bp (Ne.symm n7.2.1) hT.np) (k1 bo (Ne.symm n7.2.2) hT.no)
     have out2:OutS bc bp S S2:=fun c x u1 u2 u3=>by
      have h:=hT0 c x u1 u2 u3
      rw [k1 c (Ne.symm (q0e hb7' u3)) (by rw [h];simp)]
      exact h
     have g6:sget S2 b6=some (.cells tyNo [.str ⟨#[]⟩,.nils,.nils] 3):=(k1 b6 (Ne.symm d76) (by rw [gT6];simp)).trans gT6
     have o6:=objAt_some.2 g6
     have o7:=objAt_some.2 k2
     have c7:=q07 o7
     have hv1:=k3.one
     obtain ⟨ha1,-⟩:=one_aC hv1
     (try simp only [rwp,zA,zB,zC,zD,zE,zF,zG,zH,zI,rwb,reduceIte,C77_3])
     cases a2:decide ((i:Int)<xs.length)
     ·have e:i=xs.length:=by have:=of_decide_eq_false a2;omega
      subst e
      rw [List.take_length] at k3
      (try simp only [rwp,zA,zB,zC,zD,zE,zF,zG,zH,zI,rwb,reduceIte,o6,c7,hv1])
      exact fin_last hS hb6 st2 out2 k3 (LstN.nil (t:=tyNo)) (fun c hc=>⟨k4 c (fun h=>hc (dom_of hS hT hT0 h)),q3n c⟩) ⟨k4 b6 (by rw [gT6];simp),q3n _⟩
     ·have hlt:=of_decide_eq_true a2
      obtain ⟨x,hx⟩:=q0s hlt
      have hxo:=hxd x (List.mem_of_getElem? hx)
      (try simp only [rwp,zA,zB,zC,zD,zE,zF,zG,zH,zI,rwb,reduceIte])
      refine hls.ia hx ?_
      (try simp only [rwp,zA,zB,zC,zD,zE,zF,zG,zH,zI,rwb,reduceIte,ndC,c7])
      have q:=q3m hxo
      simp only [ndC] at q
      refine q05 q ?_
      (try simp only [rwp,zA,zB,zC,zD,zE,zF,zG,zH,zI,rwb,reduceIte])
      have hll:((xs.take i).map q36).length≤i:=by rw [List.length_map];exact List.length_take_le _ _
      refine LstN.app (Sub.emp S2) k3 (xs:=[[.str (q36 x)]]) (fun r hr=>by rw [List.mem_singleton.1 hr];rfl) (q2u fun r hr=>by rw [List.mem_singleton.1 hr];rfl) (by simp only [List.length_map,List.length_singleton] at hll ⊢;omega) fun v' S4 j1 j2 j3=>?_
      have keep:∀ c,sget T c≠none→sget S4 c=sget S2 c∧q1b v' c:=fun c hc=>by
       have:sget S2 c≠none:=by
        by_cases e:c=b7
        ·rw [e,k2];simp
        ·rw [k1 c e hc];exact hc
       cases hq:sget S2 c with
       | none=>exact absurd hq this
       | some o=>exact j3 c o hq (k4 c hc)
      have g47:=(keep b7 (by rw [gT7];simp)).1.trans k2
      have o47:=objAt_some.2 g47
      have hv2:=j2.one
      obtain ⟨ha2,-⟩:=one_aC hv2
      (try simp only [rwp,zA,zB,zC,zD,zE,zF,zG,zH,zI,rwb,reduceIte,o47,hv2,ha2])
      (simp (disch:=omega) only [q03])
      refine q09 rfl (hkk (i+1,v') _ ⟨by dsimp only;omega,fun c u1 u2=>?_,?_,?_,fun c hc=>(keep c hc).2⟩ (by dsimp only;omega))
      ·rw [q01,if_neg (Ne.symm u1),(keep c u2).1]
       exact k1 c u1 u2
      ·rw [q01,if_pos rfl]
      ·rw [q0w hx,List.map_append,List.map_append]
       exact LstN.upd j2 (keep b7 (by rw [gT7];simp)).2 _
    ·rw [if_pos (show r.refs.length=0 by omega)]
     (try simp only [rwp,zA,zB,zC,zD,zE,zF,zG,zH,zI,rwb,reduceIte,hcT,xpC])
     have hg0:mget es (ndA ⟨o,r.name⟩)=none:=by rw [hP.get,if_neg hn]
     have hset:mset es (ndA ⟨o,r.name⟩) (.bool true) clk=(es++[(ndA ⟨o,r.name⟩,.bool true,clk)],clk+1):=by
      unfold mset
      rw [q44 hg0]
     have e2:mset es (.agg [.str o.ty,.str o.id,.str r.name]) (.bool true) clk=(es++[(ndA ⟨o,r.name⟩,.bool true,clk)],clk+1):=hset
     (try simp only [rwp,zA,zB,zC,zD,zE,zF,zG,zH,zI,rwb,reduceIte,muW_map,hmp])
     rw [e2]
     dsimp only
     have hT':StX E B bc bo bp (es++[(ndA ⟨o,r.name⟩,.bool true,clk)]) (w+1) (supd T bp (.map MD (es++[(ndA ⟨o,r.name⟩,.bool true,clk)]) (clk+1))):=
      ⟨by rw [q2v,if_neg hX.n1];exact hT.c,⟨clk+1,by rw [mapObj_supd_map,if_pos rfl]⟩,hT.of.upd (Ne.symm hX.n3) _,hT.w⟩
     have hnm:ty.name=o.ty:=by
      obtain ⟨⟨x,hx,h1⟩,-⟩:=firstI_some.1 hti
      rw [hty] at hx
      cases hx
      exact of_decide_eq_true h1
     have hr0:r.refs.length=0:=by omega
     have q:=c_xexpr hX (hg (⟨o,r.name⟩ :: P) _ (hP.push hn clk) (by simp only [List.length_cons];omega)) ho 12 r.ex (hr hr0) (by rw [← hnm];exact hr2 hr0) (w+1) _ hT'
     simp only [obC,q0f] at q
     refine q0c q ?_
     intro ae S3 hp
     unfold q5n at hp
     cases hs:xeQ E (g (⟨o,r.name⟩ :: P)) o 12 r.ex (w+1) with
     | none=>
      rw [hs] at hp
      obtain ⟨rfl,hp⟩:=hp
      exact ⟨rfl,fun c x u1 u2 u3=>hp c x u1 u2 (by rw [q01,if_neg (Ne.symm u2)];exact hT0 c x u1 u2 u3)⟩
     | some p=>
      obtain ⟨kk,w3⟩:=p
      rw [hs] at hp
      obtain ⟨rfl,k1,k2⟩:=hp
      dsimp only
      have h3:∀ c,c≠bc→c≠bp→sget S3 c=sget T c:=fun c u1 u2=>by rw [k2 c u1 u2,q01,if_neg (Ne.symm u2)]
      refine ⟨⟨q5v kk,rfl,trivial⟩,fun b hb=>?_⟩
      have hbb:=k1.ne hb
      have hbS:sget S b=none:=by
       refine dom_of hS hT hT0 ?_
       rw [← h3 b hbb.1 hbb.2.1];exact hb
      have g6:=(h3 b6 n6.1 n6.2.1).trans gT6
      have g7:=(h3 b7 n7.1 n7.2.1).trans gT7
      have d6:b≠b6:=by rintro rfl;rw [g6] at hb;cases hb
      have d7:b≠b7:=by rintro rfl;rw [g7] at hb;cases hb
      have o6:=objAt_some.2 g6
      have o7:=objAt_some.2 g7
      have hc3:=q07 k1.c
      obtain ⟨clk2,hm3⟩:=k1.p
      (try simp only [rwp,zA,zB,zC,zD,zE,zF,zG,zH,zI,rwb,reduceIte,o6,o7,d6,d7,Ne.symm d6,Ne.symm d7,d76,Ne.symm d76,hc3,xpC,n7.1,hbb.1])
      have hmb:∀ c,c=bp→sget (supd (supd S3 b (.cells 70 (ntC kk++[]) 3)) b7 (.cells tyNo [.str lab,.nils,.own b 0 1 1] 3)) c=some (.map MD (es++[(ndA ⟨o,r.name⟩,.bool true,clk)]) clk2):=by
       rintro c rfl
       rw [q01,if_neg n7.2.1,q01,if_neg hbb.2.1]
       exact mapObj_some.1 hm3
      refine ⟨bp,es++[(ndA ⟨o,r.name⟩,.bool true,clk)],clk2,rfl,hmb bp rfl,ke_nd.ok ⟨o,r.name⟩,?_⟩
      have hf':q0q (es++[(ndA ⟨o,r.name⟩,.bool true,clk)]) (.agg [.str o.ty,.str o.id,.str r.name])=some (es.length,.bool true,clk):=q7j (k:=ndA ⟨o,r.name⟩) (q39 (ke_nd.ok _)) (q44 hg0)
      rw [hf']
      dsimp only
      rw [List.eraseIdx_append_of_length_le (Nat.le_refl _),Nat.sub_self]
      simp only [List.eraseIdx_cons_zero,List.append_nil]
      (try simp only [rwp,zA,zB,zC,zD,zE,zF,zG,zH,zI,rwb,reduceIte,o6,o7,d6,d7,Ne.symm d6,Ne.symm d7,d76,Ne.symm d76,n7.2.1,n6.2.1,Ne.symm n7.2.1,Ne.symm n6.2.1])
      have hfin:StX E B bc bo bp es w3 (supd (supd (supd S3 b (.cells tyNo (ntC kk) 3)) b7 (.cells tyNo [.str lab,.nils,.own b 0 1 1] 3)) bp (.map MD es clk2)):=by
       have h1:=(k1.upd hbb (.cells tyNo (ntC kk) 3)).upd n7 (.cells tyNo [.str lab,.nils,.own b 0 1 1] 3)
       exact ⟨by rw [q2v,if_neg hX.n1];exact h1.c,⟨clk2,by rw [mapObj_supd_map,if_pos rfl]⟩,h1.of.upd (Ne.symm hX.n3) _,h1.w⟩
      have hout:OutS bc bp S (supd (supd (supd S3 b (.cells tyNo (ntC kk) 3)) b7 (.cells tyNo [.str lab,.nils,.own b 0 1 1] 3)) bp (.map MD es clk2)):=by
       refine OutS.supd (OutS.supd (OutS.supd (fun c x u1 u2 u3=>?_) (.inr (.inr hbS))) (.inr (.inr hb7'))) (.inr (.inl rfl))
       rw [h3 c u1 u2]
       exact hT0 c x u1 u2 u3
      refine fin_last (t1:=tyStr) (t2:=tyNo) hS hb6 hfin hout LstN.nil ?_ (fun c hc=>⟨q3n c,q78 (by rintro rfl;exact hc hbS)⟩) ⟨q3n _,q78 (Ne.symm d6)⟩
      refine ⟨fun r hr=>by rw [List.mem_singleton.1 hr];exact q5v kk,.inr ⟨b,1,rfl,rfl,?_,Nat.le_refl _,by decide,by simp⟩⟩
      rw [q01,if_neg (Ne.symm hbb.2.1),q01,if_neg (Ne.symm d7),q01,if_pos rfl]
      simp
 ·rw [if_pos (of_decide_eq_true a1)]
  (try simp only [rwp,zA,zB,zC,zD,zE,zF,zG,zH,zI,rwb,reduceIte])
  exact q50 ⟨rfl,hT0⟩
theorem c_xnode (hX:XsOk E B bc bo bp):∀ (fu:Nat) (P:List Nd) (es:List (AV×AV×Nat)),PathE es P→P.length+fu=50→NodeOk E B bc bo bp (xnQ E B fu P) es:=by
 intro fu
 induction fu with
 | zero=>
  intro P es hP hl
  exact c_xnodeS hX hP hl (fun _=>rfl) (fun f h=>by cases h)
 | succ fu ih=>
  intro P es hP hl
  exact c_xnodeS hX hP hl (fun h=>by cases h) (fun f h=>by cases h;exact ⟨xnQ E B fu,rfl,ih⟩)
end
set_option maxRecDepth 4000
def mayX (s:List Ty) (B:Int):Bool:=decide (0≤B)&&(decide (B≤100000)&&decide (errA (chkF s)=0))
theorem c_lmay {s:List Ty} (hs:OkS s) (hN:OkN s) (B:Int):AFun PG nrx69 [scA s,.int .i64 B] (.bool (mayX s B)):=by
 intro S
 refine wx69 ?_
 unfold Bx69 mayX
 have q1:=q70 hs hN
 obtain ⟨x,y,z,hc⟩:=chkF_fl s
 have hz:errA (chkF s)=z:=by rw [hc,q40]
 rw [hc] at q1
 rw [hz]
 simp only [scA,flA] at q1
 (try simp only [rwp,zA,zB,zC,zD,zE,zF,zG,zH,zI,rwb,reduceIte,scA])
 cases a1:decide (0≤B)
 ·(try simp only [rwp,zA,zB,zC,zD,zE,zF,zG,zH,zI,rwb,reduceIte,C69_1])
  exact q02 ⟨rfl,rfl⟩
 ·cases a2:decide (B≤100000)
  ·(try simp only [rwp,zA,zB,zC,zD,zE,zF,zG,zH,zI,rwb,reduceIte,C69_1])
   exact q02 ⟨rfl,rfl⟩
  ·(try simp only [rwp,zA,zB,zC,zD,zE,zF,zG,zH,zI,rwb,reduceIte,C69_1])
   refine q05 q1 ?_
   (try simp only [rwp,zA,zB,zC,zD,zE,zF,zG,zH,zI,rwb,reduceIte])
   exact q02 ⟨rfl,rfl⟩
theorem c_lcounts_1 {s:List Ty} (hs:OkS s) {t:Tu} (ht:OkU t):AFun PG nrx121 ([]++[.agg (tuC t)]++[.rop [.sl 2 (s.map tyC)]]) (.bool (!decide (q1m s t=0))):=by
 intro S
 refine wx121 ?_
 unfold Bx121
 have q:=q59 hs ht
 simp only [scA] at q
 (try simp only [rwp,zA,zB,zC,zD,zE,zF,zG,zH,zI,rwb,reduceIte,tuC])
 refine q05 q ?_
 (try simp only [rwp,zA,zB,zC,zD,zE,zF,zG,zH,zI,rwb,reduceIte])
 exact q02 ⟨rfl,rfl⟩
theorem c_lcounts {s:List Ty} (hs:OkS s) {l:List Tu} (hl:OkL l) (S:q00) :
  ACalls PG nrx70 [scA s,.sl 6 (l.map tuC)] S fun ae S'=>∃ a,ae=.ret a∧Sub S S'∧LstW S S' tyTu 6 a ((q0d s l).map tuC):=by
 refine wx70 ?_
 unfold Bx70
 have hn:=hl.n
 (try simp only [rwp,zA,zB,zC,zD,zE,zF,zG,zH,zI,rwb,reduceIte,scA])
 refine q0c (c_Clone (by omega) S) ?_
 rintro ae S1 ⟨a,rfl,h1,h2⟩
 dsimp only
 have q:=c_DeleteT (g:=nrx121) (fi:=[]) (ca:=[.rop [.sl 2 (s.map tyC)]]) (p:=fun t=>!decide (q1m s t=0)) h1 h2 (by omega) (fun i hi=>c_lcounts_1 hs (hl.ok _ (by
  have:at' l i=l[i]'hi:=by unfold at';simp [hi]
  rw [this]
  exact List.getElem_mem hi)))
 refine q0c q ?_
 rintro ae S2 ⟨a',rfl,h3,h4⟩
 dsimp only
 (try simp only [rwp,zA,zB,zC,zD,zE,zF,zG,zH,zI,rwb,reduceIte])
 refine q02 ⟨a',rfl,h3,?_⟩
 rw [vl_at] at h4
 have e:(l.filter fun t=>!(!decide (q1m s t=0)))=q0d s l:=by
  unfold q0d
  congr 1
  funext t
  rw [Bool.not_not]
 rw [e] at h4
 exact h4
def zNt:Nt:=.mk ⟨#[]⟩ [] []
def xT (t:Nt) (w e:Int):AV:=.tup [.agg (ntC t),.int .i64 w,.int .i64 e]
def whoZ:Ob:=⟨⟨#[]⟩,⟨#[]⟩⟩
def chkX (s:List Ty) (l:List Tu) (B:Int) (n:Nd):AV:=
 if mayX s B=true then (match q0o s n.o.ty n.rl with
  | none=>xT zNt 0 6
  | some (_,_,r)=>match xnQ (envE s l whoZ) B 50 [] n.o r 0 with
   | none=>xT zNt 0 12
   | some (t,w)=>xT t w 0)
 else xT zNt 0 1
section
variable {S0 S1:q00} {b1 b2 b3 t1 t2 t3:Nat} {x2 x3:AV} {QF:AEnd→q00→Prop}
abbrev res3x (b1 b2 b3:Nat):List RW:=[.cell (.ptr b1 0) 3 true,.cell (.ptr b2 0) 1 false,.cell (.ptr b3 0) 1 false]
theorem put3x {cs zs cs':List AV} (h1:q0i S1 b1=some (t1,zs,3)) (hz:zs.length=3) (hl:cs.length=3) (h2:q0i S1 b2=some (t2,[x2],1)) (h3:q0i S1 b3=some (t3,[x3],1)) (d1:b1≠b2) (d2:b1≠b3) (d3:b2≠b3)
  (n1:sget S0 b1=none) (n2:sget S0 b2=none) (n3:sget S0 b3=none) (hs:Sub S0 S1) {w e:Int} (ho:ones cs=true) (hf:∀ S,Frs S0 S cs cs') (hQ:QF (.ret (.tup [.agg cs',.int .i64 w,.int .i64 e])) S0) :
  stW S1 3 (.ptr b1 0) (.agg cs) fun S=>stW S 1 (.ptr b2 0) (.int .i64 w) fun S=>stW S 1 (.ptr b3 0) (.int .i64 e) fun S=>rtW (res3x b1 b2 b3) QF S:=by
 obtain ⟨c1,c2,c3,rfl⟩:∃ a b c,cs=[a,b,c]:=by
  match cs,hl with
  | [a,b,c],_=>exact ⟨a,b,c,rfl⟩
 obtain ⟨z1,z2,z3,rfl⟩:∃ a b c,zs=[a,b,c]:=by
  match zs,hz with
  | [a,b,c],_=>exact ⟨a,b,c,rfl⟩
 simp only [ones,Bool.and_eq_true] at ho
 (try simp only [rwp,zA,zB,zC,zD,zE,zF,zG,zH,zI,rwb,reduceIte,h1,h2,h3,d1,d2,d3,Ne.symm d1,Ne.symm d2,Ne.symm d3,ho.1,ho.2.1,ho.2.2.1])
 refine q4y S0 _ (Sub.supd n3 (Sub.supd n2 (Sub.supd n1 hs))) ?_ hQ
 (try simp only [rwp,zA,zB,zC,zD,zE,zF,zG,zH,zI,rwb,reduceIte,h1,h2,h3,d1,d2,d3,Ne.symm d1,Ne.symm d2,Ne.symm d3])
 exact Fr.tu (.cons (Fr.ag (hf _)) (.cons (.same _) (.cons (.same _) .nil)))
end
set_option maxRecDepth 4000
theorem nt_nil:∀ S0 S:q00,Frs S0 S [.str ⟨#[]⟩,.nils,.nils] (ntC zNt):=fun S0 S=>by
 unfold zNt
 rw [q4m]
 exact .cons (.same _) (.cons (.nils 1) (.cons (.nils 3) .nil))
theorem okd_of {s:List Ty} {l:List Tu} (hl:OkL l) {who:Ob} (n:Nd):∀ x∈(envE s l who).of n,OkD x:=by
 intro x hx
 obtain ⟨t,ht,rfl⟩:=List.mem_map.1 (show x∈(ofF (q0d s l) n).map Tu.s from hx)
 exact ((q3j hl).ok t (List.mem_filter.1 ht).1).s
theorem c_Expand {s:List Ty} (hs:OkS s) (hN:OkN s) {l:List Tu} (hl:OkL l) {n:Nd} (hno:OkO n.o) (B:Int) :
  AFun PG nrx36 [scA s,.sl 6 (l.map tuC),.agg (obC n.o),.str n.rl,.int .i64 B] (chkX s l B n):=by
 intro S
 suffices key:∀ QF:AEnd→q00→Prop,QF (.ret (chkX s l B n)) S→ACalls PG nrx36 [scA s,.sl 6 (l.map tuC),.agg (obC n.o),.str n.rl,.int .i64 B] S QF from key _ ⟨rfl,rfl⟩
 intro QF hQ
 refine wx36 ?_
 unfold Ax36
 have q1:=c_lmay hs hN B
 have q2:=q1g hs n.o.ty n.rl
 simp only [scA] at q1 q2
 (try simp only [rwp,zA,zB,zC,zD,zE,zF,zG,zH,zI,rwb,reduceIte,scA,obC])
 intro b1 hb1 b2 hb2 b3 hb3
 obtain ⟨d21,hb2'⟩:=frsh hb2
 obtain ⟨d32,hb3'⟩:=frsh hb3
 obtain ⟨d31,hb3'⟩:=frsh hb3'
 generalize hS3:supd _ b3 _=S3
 have h31:q0i S3 b1=some (tyNo,[.str ⟨#[]⟩,.nils,.nils],3):=by rw [← hS3];(try simp only [rwp,zA,zB,zC,zD,zE,zF,zG,zH,zI,rwb,reduceIte,d21,d31,d32,Ne.symm d21,Ne.symm d31,Ne.symm d32])
 have h32:q0i S3 b2=some (3,[.int .i64 0],1):=by rw [← hS3];(try simp only [rwp,zA,zB,zC,zD,zE,zF,zG,zH,zI,rwb,reduceIte,d21,d31,d32,Ne.symm d21,Ne.symm d31,Ne.symm d32])
 have h33:q0i S3 b3=some (30,[.int .i64 0],1):=by rw [← hS3];(try simp only [rwp,zA,zB,zC,zD,zE,zF,zG,zH,zI,rwb,reduceIte,d21,d31,d32,Ne.symm d21,Ne.symm d31,Ne.symm d32])
 have hs3:Sub S S3:=by rw [← hS3];exact Sub.supd hb3' (Sub.supd hb2' (Sub.supd hb1 (Sub.refl _)))
 have c31:=q07 h31
 refine q05 q1 ?_
 unfold chkX at hQ
 cases hm:mayX s B
 ·rw [hm,if_neg (by simp)] at hQ
  (try simp only [rwp,zA,zB,zC,zD,zE,zF,zG,zH,zI,rwb,reduceIte,c31])
  exact put3x h31 rfl rfl h32 h33 (Ne.symm d21) (Ne.symm d31) (Ne.symm d32) hb1 hb2' hb3' hs3 rfl (fun _=>nt_nil _ _) hQ
 ·rw [hm,if_pos rfl] at hQ
  (try simp only [rwp,zA,zB,zC,zD,zE,zF,zG,zH,zI,rwb,reduceIte])
  have hm':=hm
  unfold mayX at hm'
  simp only [Bool.and_eq_true,decide_eq_true_eq] at hm'
  obtain ⟨hB0,hB1,hk⟩:=hm'
  have hg:=chk_good hk
  refine q0c (q2 _) ?_
  rintro ae S' ⟨rfl,rfl⟩
  cases hq:q0o s n.o.ty n.rl with
  | none=>
   rw [hq] at hQ
   dsimp only at hQ ⊢
   (try simp only [rwp,zA,zB,zC,zD,zE,zF,zG,zH,zI,rwb,reduceIte,zeroR,c31])
   exact put3x h31 rfl rfl h32 h33 (Ne.symm d21) (Ne.symm d31) (Ne.symm d32) hb1 hb2' hb3' hs3 rfl (fun _=>nt_nil _ _) hQ
  | some p=>
   obtain ⟨i,k,r⟩:=p
   rw [hq] at hQ
   dsimp only at hQ ⊢
   (try simp only [rwp,zA,zB,zC,zD,zE,zF,zG,zH,zI,rwb,reduceIte,q0g])
   intro bo hbo bp hbp
   obtain ⟨dpo,hbp'⟩:=frsh hbp
   (try simp only [rwp,zA,zB,zC,zD,zE,zF,zG,zH,zI,rwb,reduceIte])
   refine ⟨rfl,rfl,fun bc hbc=>?_⟩
   obtain ⟨dcp,hbc'⟩:=frsh hbc
   obtain ⟨dco,hbc'⟩:=frsh hbc'
   have Sn:∀ {b:Nat},sget S' b=none→b≠b1∧b≠b2∧b≠b3∧sget S b=none:=by
    intro b hb
    refine ⟨?_,?_,?_,?_⟩
    ·rintro rfl;rw [objAt_some.1 h31] at hb;cases hb
    ·rintro rfl;rw [objAt_some.1 h32] at hb;cases hb
    ·rintro rfl;rw [objAt_some.1 h33] at hb;cases hb
    ·cases hq:sget S b with
     | none=>rfl
     | some o=>rw [hs3 b o hq] at hb;cases hb
   obtain ⟨o1,o2,o3,no⟩:=Sn hbo
   obtain ⟨p1,p2,p3,np⟩:=Sn hbp'
   obtain ⟨c1,c2,c3,nc⟩:=Sn hbc'
   generalize hS5:supd _ bc _=S5
   have g5:∀ c,sget S5 c=if bc=c then some (.cells tyXp (xpC (envE s l whoZ) B bo bp 0) 5) else if bp=c then some (.map MD [] 0) else if bo=c then some (.map MD [] 0) else sget S' c:=by
    intro c
    rw [← hS5,q01,q01,q01]
    rfl
   have f5:Sub S S5:=by rw [← hS5];exact Sub.supd nc (Sub.supd np (Sub.supd no hs3))
   have s51:sget S5 b1=some (.cells tyNo [.str ⟨#[]⟩,.nils,.nils] 3):=by rw [g5,if_neg c1,if_neg p1,if_neg o1];exact objAt_some.1 h31
   have s52:sget S5 b2=some (.cells 3 [.int .i64 0] 1):=by rw [g5,if_neg c2,if_neg p2,if_neg o2];exact objAt_some.1 h32
   have s53:sget S5 b3=some (.cells 30 [.int .i64 0] 1):=by rw [g5,if_neg c3,if_neg p3,if_neg o3];exact objAt_some.1 h33
   have s5p:sget S5 bp=some (.map MD [] 0):=by rw [g5,if_neg dcp,if_pos rfl]
   have s5c:sget S5 bc=some (.cells tyXp (xpC (envE s l whoZ) B bo bp 0) 5):=by rw [g5,if_pos rfl]
   have s5o:sget S5 bo=some (.map MD [] 0):=by rw [g5,if_neg dco,if_neg dpo,if_pos rfl]
   have hKs:∀ c,(c=b1∨c=b2∨c=b3∨c=bp∨c=bc)→c≠bo∧sget S5 c≠none:=by
    rintro c (rfl | rfl | rfl | rfl | rfl)
    ·exact ⟨Ne.symm o1,by rw [s51];simp⟩
    ·exact ⟨Ne.symm o2,by rw [s52];simp⟩
    ·exact ⟨Ne.symm o3,by rw [s53];simp⟩
    ·exact ⟨dpo,by rw [s5p];simp⟩
    ·exact ⟨dco,by rw [s5c];simp⟩
   have q3:=c_lcounts hs hl S5
   simp only [scA] at q3
   refine q0c q3 ?_
   rintro ae S6 ⟨cv,rfl,w1,w2⟩
   dsimp only
   have hlc:(q0d s l).length≤l.length:=List.length_filter_le _ _
   have hokc:=(q3j hl (s:=s)).ok
   have hln:=hl.n
   rw [w2.ln,List.length_map]
   refine LoopP.frz (S1:=S5) (l':=[(7,AV.rop [AV.str n.o.ty,AV.str n.o.id]),(10,.ptr b1 0),(11,.ptr b2 0),(12,.ptr b3 0),(13,.rop (rlC r)),(15,.ptr bc 0),(43,.sl 6 ((q0d s l).map tuC)),(44,.int .i64 (q0d s l).length),(45,.int .i64 0)]) (FrS.sub w1)
    (.cons (.same _) (.cons (.same _) (.cons (.same _) (.cons (.same _) (.cons (by rw [q0g];exact .same _) (.cons (.same _) (.cons (Fr.lstW w2) (.cons (.same _) (.cons (.same _) .nil))))))))) ?_
   have hLL:∀ n,ofL (q0d s l) n=((envE s l whoZ).of n).map ndC:=fun n=>rfl
   have hX:bo≠bc→bo≠bp→bp≠bc→XsOk (envE s l whoZ) B bc bo bp:=fun u1 u2 u3=>by
    refine ⟨hs,sc_may hg.may,sc_fnd hk,u3,u1,u2,hB1,fun m=>?_,okd_of hl⟩
    show ((ofF (q0d s l) m).map Tu.s).length≤100000
    rw [List.length_map]
    exact Nat.le_trans (List.length_filter_le _ _) (q3j hl).n
   generalize hL:q0d s l=L at hlc hokc hLL ⊢
   refine LoopP.introS (fun i:Nat=>[(7,AV.rop [AV.str n.o.ty,AV.str n.o.id]),(10,.ptr b1 0),(11,.ptr b2 0),(12,.ptr b3 0),(13,.rop (rlC r)),(15,.ptr bc 0),(43,.sl 6 (L.map tuC)),(44,.int .i64 L.length),(45,.int .i64 i)])
    (fun i S2=>i≤L.length∧Sub S S2∧(∃ es clk,OfM S S2 39 bo (fun c=>c=b1∨c=b2∨c=b3∨c=bp∨c=bc) (ofL (L.take i)) es clk)∧∀ c,(c=b1∨c=b2∨c=b3∨c=bp∨c=bc)→sget S2 c=sget S5 c) (fun i=>L.length-i) 0
    ⟨by omega,f5,⟨[],0,OfM.nil no s5o hKs⟩,fun c _=>rfl⟩ rfl ?_
   rintro i S2 ⟨hi,j1,⟨es,clk,hO⟩,j2⟩ kk hkk
   have s2c:=j2 bc (by simp)
   rw [s5c] at s2c
   have s2o:=objAt_some.2 s2c
   have hc2:=q07 s2o
   (try simp only [rwp,zA,zB,zC,zD,zE,zF,zG,zH,zI,rwb,reduceIte,CA36_1])
   cases a1:decide ((i:Int)<L.length)
   ·refine q3k ?_
    have hEnd:∀ (LL:LE) (x:AV) (S4:q00),LL=[(10,.ptr b1 0),(11,.ptr b2 0),(12,.ptr b3 0)]∨LL=[(10,.ptr b1 0),(11,.ptr b2 0),(12,.ptr b3 0),(15,.ptr bc 0)]→q24 (fun S=>rtW (res3x b1 b2 b3) QF S) (.ptr b1 0) (.ptr b2 0) (.ptr b3 0) x S4→cloW PG dfx36 tf_lists_Expand_1 QF [.ptr b1 0,.ptr b2 0,.ptr b3 0] x LL S4:=by
     rintro LL x S4 (rfl | rfl) h<;>exact Eq.mpr (q8i (T:=fun S=>rtW (res3x b1 b2 b3) QF S)) h
    have eil:i=L.length:=by have:=of_decide_eq_false a1;omega
    subst eil
    rw [List.take_length] at hO
    rw [gx36]
    unfold Gx36
    rw [q0g]
    (try simp only [rwp,zA,zB,zC,zD,zE,zF,zG,zH,zI,rwb,reduceIte])
    let Sz:q00:=supd (supd (supd (supd (supd (supd S b1 (.cells tyNo [.str ⟨#[]⟩,.nils,.nils] 3)) b2 (.cells 3 [.int .i64 0] 1)) b3 (.cells 30 [.int .i64 0] 1)) bo (.map MD (frzM (ofL L) es) clk)) bc (.cells tyXp (xpC (envE s l whoZ) B bo bp 0) 5)) bp (.map MD [] 0)
    have g0:∀ c,sget Sz c=if bp=c then some (.map MD [] 0) else if bc=c then some (.cells tyXp (xpC (envE s l whoZ) B bo bp 0) 5) else if bo=c then some (.map MD (frzM (ofL L) es) clk) else if b3=c then some (.cells 30 [.int .i64 0] 1) else if b2=c then some (.cells 3 [.int .i64 0] 1) else if b1=c then some (.cells tyNo [.str ⟨#[]⟩,.nils,.nils] 3) else sget S c:=fun c=>rfl
    have hof:∀ m,ofA ((envE s l whoZ).of m)=(mget es (ndA m)).map fun _=>AV.sl 3 (ofL L m):=by
     intro m
     unfold ofA
     cases hm:mget es (ndA m) with
     | none=>
      have:=hO.no m hm
      rw [hLL,List.map_eq_nil_iff] at this
      rw [this]
      rfl
     | some v=>
      have:=(hO.yes m v hm).1
      rw [hLL] at this ⊢
      rw [if_neg fun h=>this (by rw [h];rfl)]
      rfl
    have hfk:∀ x∈frzM (ofL L) es,∃ n,x.1=ndA n:=by
     intro x hx
     unfold frzM at hx
     obtain ⟨y,hy,rfl⟩:=List.mem_map.1 hx
     exact hO.key y hy
    have hSz:StX (envE s l whoZ) B bc bo bp [] 0 Sz:=by
     refine ⟨objAt_some.2 (by rw [g0,if_neg (Ne.symm dcp),if_pos rfl]),⟨0,mapObj_some.2 (by rw [g0,if_pos rfl])⟩,⟨frzM (ofL L) es,clk,mapObj_some.2 (by rw [g0,if_neg dpo,if_neg dco,if_pos rfl]),fun x hx=>?_,fun m=>?_⟩,by omega⟩
     ·obtain ⟨m,hm⟩:=hfk x hx
      rw [hm]
      exact ke_nd.ok m
     ·rw [mget_frz hO.key];exact (hof m).symm
    have q4:=c_xnode (hX (Ne.symm dco) (Ne.symm dpo) (Ne.symm dcp)) 50 [] [] ⟨fun x hx=>(by cases hx),rfl,fun m=>by simp [q8t]⟩ rfl n.o r n.rl i k hno hq 0 Sz hSz
    have hfr:FrS Sz S2:=by
     intro b o' hb
     rw [g0] at hb
     split at hb
     ·rename_i e;subst e;cases hb;exact ⟨_,(j2 _ (by simp)).trans s5p,.same _⟩
     ·split at hb
      ·rename_i e;subst e;cases hb;exact ⟨_,(j2 _ (by simp)).trans s5c,.same _⟩
      ·split at hb
       ·rename_i e
        subst e
        cases hb
        refine ⟨_,hO.map,hO.fr fun b hb=>?_⟩
        rw [g0] at hb
        split at hb
        ·rename_i e;exact .inr (.inl (by simp [e]))
        ·split at hb
         ·rename_i e;exact .inr (.inl (by simp [e]))
         ·split at hb
          ·rename_i e;exact .inl e.symm
          ·split at hb
           ·rename_i e;exact .inr (.inl (by simp [e]))
           ·split at hb
            ·rename_i e;exact .inr (.inl (by simp [e]))
            ·split at hb
             ·rename_i e;exact .inr (.inl (by simp [e]))
             ·exact .inr (.inr hb)
       ·split at hb
        ·rename_i e;subst e;cases hb;exact ⟨_,(j2 _ (by simp)).trans s53,.same _⟩
        ·split at hb
         ·rename_i e;subst e;cases hb;exact ⟨_,(j2 _ (by simp)).trans s52,.same _⟩
         ·split at hb
          ·rename_i e;subst e;cases hb;exact ⟨_,(j2 _ (by simp)).trans s51,.same _⟩
          ·exact ⟨_,j1 b o' hb,.same _⟩
    have t1:sget Sz b1=some (.cells tyNo [.str ⟨#[]⟩,.nils,.nils] 3):=by rw [g0,if_neg p1,if_neg c1,if_neg o1,if_neg d31,if_neg d21,if_pos rfl]
    have t2:sget Sz b2=some (.cells 3 [.int .i64 0] 1):=by rw [g0,if_neg p2,if_neg c2,if_neg o2,if_neg d32,if_pos rfl]
    have t3:sget Sz b3=some (.cells 30 [.int .i64 0] 1):=by rw [g0,if_neg p3,if_neg c3,if_neg o3,if_pos rfl]
    have hsub:∀ S3,OutS bc bp Sz S3→Sub S S3:=fun S3 ho c x hx=>by
     refine ho c x (q0e nc hx).symm (q0e np hx).symm ?_
     rw [g0,if_neg (q0e np hx),if_neg (q0e nc hx),if_neg (q0e no hx),if_neg (q0e hb3' hx),if_neg (q0e hb2' hx),if_neg (q0e hb1 hx)]
     exact hx
    simp only [obC,q0g] at q4
    refine q0c (ACalls.frz hfr (Frs.same _) q4) ?_
    intro ae S3 hq4
    unfold q5n at hq4
    cases ha:xnQ (envE s l whoZ) B 50 [] n.o r 0 with
    | none=>
     rw [ha] at hq4 hQ
     obtain ⟨rfl,hx⟩:=hq4
     dsimp only at hQ ⊢
     refine hEnd _ _ _ (.inr rfl) ?_
     unfold q24
     (try simp only [rwp,zA,zB,zC,zD,zE,zF,zG,zH,zI,rwb,reduceIte,spX,q3w])
     exact put3x (objAt_some.2 (hx _ _ (Ne.symm c1) (Ne.symm p1) t1)) rfl rfl (objAt_some.2 (hx _ _ (Ne.symm c2) (Ne.symm p2) t2)) (objAt_some.2 (hx _ _ (Ne.symm c3) (Ne.symm p3) t3)) (Ne.symm d21) (Ne.symm d31) (Ne.symm d32) hb1 hb2' hb3' (hsub S3 hx) rfl (fun _=>nt_nil _ _) hQ
    | some p=>
     obtain ⟨⟨lb,ns,ks⟩,w3⟩:=p
     rw [ha] at hq4 hQ
     obtain ⟨rfl,k1,k2⟩:=hq4
     dsimp only at hQ ⊢
     have r1:=(k2 b1 (Ne.symm c1) (Ne.symm p1)).trans t1
     have r2:=(k2 b2 (Ne.symm c2) (Ne.symm p2)).trans t2
     have r3:=(k2 b3 (Ne.symm c3) (Ne.symm p3)).trans t3
     have hsE:=hsub S3 k2.s
     have rco:=k1.c
     have rcc:=q07 rco
     have r1o:=objAt_some.2 r1
     have r1c:=q07 r1o
     have r2o:=objAt_some.2 r2
     have r3o:=objAt_some.2 r3
     rw [q4m]
     (try simp only [rwp,zA,zB,zC,zD,zE,zF,zG,zH,zI,rwb,reduceIte,r1o,r1c,rcc,rco,xpC,c1,Ne.symm c1,kpW_cons,d21,d31,d32,Ne.symm d21,Ne.symm d31,Ne.symm d32,r2o,r3o])
     refine ⟨fun _ _=>trivial,?_⟩
     refine hEnd _ _ _ (.inl rfl) ?_
     unfold q24
     (try simp only [rwp,zA,zB,zC,zD,zE,zF,zG,zH,zI,rwb,reduceIte])
     refine q0y S (Sub.supd hb3' (Sub.supd hb2' (Sub.supd hb1 hsE))) ?_
     (try simp only [rwp,zA,zB,zC,zD,zE,zF,zG,zH,zI,rwb,reduceIte,r1o,r2o,r3o,d21,d31,d32,Ne.symm d21,Ne.symm d31,Ne.symm d32])
     unfold xT at hQ
     rw [q4m] at hQ
     exact hQ
   ·have hlt:=of_decide_eq_true a1
    obtain ⟨t,ht⟩:=q0s hlt
    (try simp only [rwp,zA,zB,zC,zD,zE,zF,zG,zH,zI,rwb,reduceIte,ht,tuC])
    (try simp only [rwp,zA,zB,zC,zD,zE,zF,zG,zH,zI,rwb,reduceIte,hc2,xpC])
    have hnx:=ofL_take ht
    refine hO.push j1 (ndT t) rfl rfl ?_ fun S4 es2 clk2 u1 u2 u3=>?_
    ·have:(ofL (L.take i) (ndT t)).length≤i:=by
      unfold ofL ofF
      rw [List.length_map,List.length_map]
      exact Nat.le_trans (List.length_filter_le _ _) (List.length_take_le _ _)
     omega
    ·(simp (disch:=omega) only [q03])
     have e:ofL (L.take (i+1))=fun m=>if m=ndT t then ofL (L.take i) (ndT t)++[ndC t.s] else ofL (L.take i) m:=by
      funext m
      rw [hnx]
      by_cases hm:m=ndT t
      ·rw [if_pos hm,if_pos hm,hm]
      ·rw [if_neg hm,if_neg hm,List.append_nil]
     exact q09 rfl (hkk (i+1) S4 ⟨by omega,u1,⟨es2,clk2,by rw [e];exact u2⟩,fun c hc=>(u3 c hc).trans (j2 c hc)⟩ (by omega))
set_option maxRecDepth 4000
set_option maxRecDepth 4000
structure Tk where
 s:ByteArray
 line:Int
 col:Int
instance:Inhabited Tk:=⟨⟨⟨#[]⟩,0,0⟩⟩
def tkC (t:Tk):List AV:=[.str t.s,.int .i64 t.line,.int .i64 t.col]
structure Rd where
 at':Nat
 op:Int
 dl:Int
 dc:Int
 de:Int
def rdC (T:List Tk) (r:Rd):List AV:=[.sl 3 (T.map tkC),.int .i64 r.at',.int .i64 r.op,.int .i64 r.dl,.int .i64 r.dc,.int .i64 r.de]
def rdO (T:List Tk) (r:Rd):AObj:=.cells 145 (rdC T r) 6
def AFunR (f b:Nat) (xs:List AV) (T:List Tk) (r:Rd) (v:AV) (r':Rd):Prop:=∀ S,sget S b=some (rdO T r)→ACalls PG f (.ptr b 0 :: xs) S fun ae S'=>ae=.ret v∧S'=supd S b (rdO T r')
theorem q7h {S:q00} {b:Nat} {T:List Tk} {r:Rd} (h:sget S b=some (rdO T r)):q0i S b=some (145,[.sl 3 (T.map tkC),.int .i64 r.at',.int .i64 r.op,.int .i64 r.dl,.int .i64 r.dc,.int .i64 r.de],6):=objAt_some.2 h
theorem q0n {S:q00} {b:Nat} {o:AObj} (h:sget S b=some o):supd S b o=S:=by
 funext c
 unfold supd
 by_cases hc:b=c
 ·subst hc;rw [if_pos rfl];exact h.symm
 ·rw [if_neg hc]
def nxP (T:List Tk) (r:Rd):Tk:=T.getD r.at' default
def q4r (t:Tk) (e:Int) (r:Rd):Rd:=if r.de=0 then { r with dl:=t.line,dc:=t.col,de:=e } else r
def isP (T:List Tk) (s:ByteArray) (r:Rd):Bool:=decide (r.de=0)&&decide ((nxP T r).s=s)
def isR (T:List Tk) (s:ByteArray) (r:Rd):Rd:=if isP T s r then { r with at':=r.at'+1 } else r
def q1q (T:List Tk) (s:ByteArray) (r:Rd):Rd:=if isP T s r then isR T s r else q4r (nxP T r) 8 r
def q29 (T:List Tk) (r:Rd):ByteArray:=if q0p (nxP T r).s=true∧r.de=0 then (nxP T r).s else ⟨#[]⟩
def q0j (T:List Tk) (r:Rd):Rd:=if q0p (nxP T r).s=true∧r.de=0 then { r with at':=r.at'+1 } else q4r (nxP T r) 8 r
structure OkTk (T:List Tk):Prop where
 len:T.length≤5000
 size:∀ t∈T,t.s.size≤1125899906842624
 last:∀ t,T[T.length-1]?=some t→t.s=⟨#[]⟩∨t.s=⟨#[63]⟩
def InR (T:List Tk) (r:Rd):Prop:=r.at'<T.length
theorem nx_get {T:List Tk} {r:Rd} (h:InR T r):T[r.at']?=some (nxP T r):=by
 unfold nxP InR at *
 rw [List.getD_eq_getElem?_getD,List.getElem?_eq_getElem h]
 rfl
theorem c_fail {T:List Tk} {r:Rd} {b:Nat} (t:Tk) (e:Int):AFunR nrx88 b [.agg (tkC t),.int .i64 e] T r (.tup []) (q4r t e r):=by
 intro S h
 have ho:=q7h h
 refine wx88 ?_
 unfold Bx88
 (try simp only [rwp,hwR,zA,zB,zC,zD,zE,zF,zG,zH,zI,tkC,q07 ho])
 (refine q04 (fun h0=>?_) (fun h0=>?_)<;>(try simp only [hlc] at h0))
 ·(try simp only [rwp,hwR,zA,zB,zC,zD,zE,zF,zG,zH,zI,ho])
  exact q2b ⟨rfl,by rw [q4r,if_pos h0];rfl⟩
 ·exact q2b ⟨rfl,by rw [q4r,if_neg h0,q0n h]⟩
theorem q5d {T:List Tk} {r:Rd} {b:Nat} (hT:OkTk T) (hr:InR T r):AFunR nrx87 b [] T r (.agg (tkC (nxP T r))) r:=by
 intro S h
 have ho:=q7h h
 have hx:=nx_get hr
 refine wx87 ?_
 unfold Bx87
 intro b2 hb2
 have hne:b2≠b:=q0e hb2 h
 (try simp only [rwp,hwR,zA,zB,zC,zD,zE,zF,zG,zH,zI,q07 ho,if_neg hne,hx,tkC])
 refine q0y S (by rw [q2n hb2];exact Sub.refl S) ?_
 (try simp only [rwp,hwR,zA,zB,zC,zD,zE,zF,zG,zH,zI])
 first | exact ⟨rfl,(q0n h).symm⟩ | exact (q0n h).symm
theorem c_is {T:List Tk} {r:Rd} {b:Nat} (hT:OkTk T) (hr:InR T r) (s:ByteArray):AFunR nrx84 b [.str s] T r (.bool (isP T s r)) (isR T s r):=by
 intro S h
 have ho:=q7h h
 have hx:=nx_get hr
 have hl:=hT.len
 have hr':r.at'<T.length:=hr
 refine wx84 ?_
 unfold Bx84
 (try simp only [rwp,hwR,zA,zB,zC,zD,zE,zF,zG,zH,zI,q07 ho])
 cases a1:decide (r.de=0) with
 | false=>
  (try simp only [rwp,hwR,zA,zB,zC,zD,zE,zF,zG,zH,zI,C84_1])
  have hp:isP T s r=false:=by rw [isP,a1];rfl
  exact q02 ⟨by rw [hp],by rw [isR,hp];exact (q0n h).symm⟩
 | true=>
  (try simp only [rwp,hwR,zA,zB,zC,zD,zE,zF,zG,zH,zI,hx,tkC])
  cases a2:decide ((nxP T r).s=s) with
  | false=>
   (try simp only [rwp,hwR,zA,zB,zC,zD,zE,zF,zG,zH,zI,C84_1])
   have hp:isP T s r=false:=by rw [isP,a1,a2];rfl
   exact q02 ⟨by rw [hp],by rw [isR,hp];exact (q0n h).symm⟩
  | true=>
   (try simp only [rwp,hwR,zA,zB,zC,zD,zE,zF,zG,zH,zI,C84_1,q07 ho,ho])
   have hp:isP T s r=true:=by rw [isP,a1,a2];rfl
   (simp (disch:=omega) only [q03])
   exact q02 ⟨by rw [hp],by rw [isR,hp];rfl⟩
theorem AFunR.ca {f b:Nat} {xs:List AV} {T:List Tk} {r r':Rd} {v:AV} (h:AFunR f b xs T r v r') {S:q00} (hS:sget S b=some (rdO T r)) {K Qp:AV→q00→Prop} (hK:K v (supd S b (rdO T r'))):caW PG S (.func (.func f) [] []) (.ptr b 0 :: xs) K Qp:=
 q0c (h S hS) fun ae S' ⟨h1,h2⟩=>by subst h1;subst h2;exact hK
theorem q16 {S:q00} {b:Nat} {T:List Tk} {r:Rd}:sget (supd S b (rdO T r)) b=some (rdO T r):=by rw [q01,if_pos rfl]
theorem q86 {T:List Tk} {s:ByteArray} {r:Rd} (h:isP T s r=false):isR T s r=r:=by rw [isR,h];rfl
theorem c_must {T:List Tk} {r:Rd} {b:Nat} (hT:OkTk T) (hr:InR T r) (s:ByteArray):AFunR nrx130 b [.str s] T r (.tup []) (q1q T s r):=by
 intro S h
 refine wx130 ?_
 unfold Bx130
 refine (c_is hT hr s).ca h ?_
 cases hp:isP T s r with
 | true=>
  (try simp only [rwp,hwR,zA,zB,zC,zD,zE,zF,zG,zH,zI])
  exact q2b ⟨rfl,by rw [q1q,hp];rfl⟩
 | false=>
  (try simp only [rwp,hwR,zA,zB,zC,zD,zE,zF,zG,zH,zI])
  have hi:=q86 hp
  rw [hi]
  refine (q5d hT hr).ca q16 ?_
  (try simp only [rwp,hwR,zA,zB,zC,zD,zE,zF,zG,zH,zI,tkC])
  refine (c_fail (nxP T r) 8).ca q16 ?_
  (try simp only [rwp,hwR,zA,zB,zC,zD,zE,zF,zG,zH,zI])
  exact q2b ⟨rfl,by rw [q1q,hp];rfl⟩
theorem c_name {T:List Tk} {r:Rd} {b:Nat} (hT:OkTk T) (hr:InR T r):AFunR nrx85 b [] T r (.str (q29 T r)) (q0j T r):=by
 intro S h
 have hx:=nx_get hr
 have hl:=hT.len
 have hr':r.at'<T.length:=hr
 refine wx85 ?_
 unfold Bx85
 refine (q5d hT hr).ca h ?_
 rw [q0n h]
 have ho:=q7h h
 (try simp only [rwp,hwR,zA,zB,zC,zD,zE,zF,zG,zH,zI,tkC])
 refine q05 (q1t (hT.size _ (List.mem_of_getElem? hx))) ?_
 cases hn:q0p (nxP T r).s with
 | false=>
  (try simp only [rwp,hwR,zA,zB,zC,zD,zE,zF,zG,zH,zI,C85_1])
  have hc:¬ (q0p (nxP T r).s=true∧r.de=0):=by rw [hn];simp
  refine (c_fail (nxP T r) 8).ca h ?_
  (try simp only [rwp,hwR,zA,zB,zC,zD,zE,zF,zG,zH,zI])
  exact q02 ⟨by rw [q29,if_neg hc],by rw [q0j,if_neg hc]⟩
 | true=>
  (try simp only [rwp,hwR,zA,zB,zC,zD,zE,zF,zG,zH,zI,q07 ho])
  cases a1:decide (r.de=0) with
  | false=>
   have hc:¬ (q0p (nxP T r).s=true∧r.de=0):=fun h=>by rw [decide_eq_true h.2] at a1;cases a1
   (try simp only [rwp,hwR,zA,zB,zC,zD,zE,zF,zG,zH,zI,C85_1])
   refine (c_fail (nxP T r) 8).ca h ?_
   (try simp only [rwp,hwR,zA,zB,zC,zD,zE,zF,zG,zH,zI])
   exact q02 ⟨by rw [q29,if_neg hc],by rw [q0j,if_neg hc]⟩
  | true=>
   have hc:q0p (nxP T r).s=true∧r.de=0:=⟨hn,of_decide_eq_true a1⟩
   (try simp only [rwp,hwR,zA,zB,zC,zD,zE,zF,zG,zH,zI,C85_1,q07 ho,ho])
   (simp (disch:=omega) only [q03])
   exact q02 ⟨by rw [q29,if_pos hc],by rw [q0j,if_pos hc];rfl⟩
mutual
def hgt:Ex→Nat
 | .mk _ _ _ ks=>hgtL ks+1
def hgtL:List Ex→Nat
 | []=>0
 | e :: r=>max (hgt e) (hgtL r)
end
mutual
theorem hgt_le:∀ e:Ex,hgt e≤esz e
 | .mk _ _ _ ks=>by
  unfold hgt esz
  have:=hgtL_le ks
  omega
theorem hgtL_le:∀ l:List Ex,hgtL l≤eszL l
 | []=>by simp [hgtL]
 | e :: r=>by
  unfold hgtL eszL
  have h1:=hgt_le e
  have h2:=hgtL_le r
  omega
end
theorem c_Height:∀ (e:Ex),OkE e→esz e≤1125899906842624→AFun PG nrx204 [.agg (exC e)] (.int .i64 (hgt e)):=by
 intro e he
 induction he with
 | mk k n o ks hk hn ho hks ih=>
  intro hsz S
  have hle:=hgt_le (.mk k n o ks)
  rw [hgt] at hle
  refine wx204 ?_
  unfold Bx204
  (try simp only [rwp,hwR,zA,zB,zC,zD,zE,zF,zG,zH,zI,q0f,Ex.kind,Ex.name,Ex.over,Ex.kids])
  refine LoopP.introS (fun p:Nat×Nat=>[(1,.rop [.int .i64 k,.str n,.str o,.sl 4 (ks.map exC)]),(3,.int .i64 p.2),(4,.int .i64 p.1)])
   (fun p S'=>S'=S∧p.1≤ks.length∧max p.2 (hgtL (ks.drop p.1))=hgtL ks) (fun p=>ks.length-p.1) (0,0) ⟨rfl,by omega,by simp⟩ rfl ?_
  rintro ⟨i,m⟩ S1 ⟨rfl,hi,hf⟩ q hq
  dsimp only at hi hf
  (try simp only [rwp,hwR,zA,zB,zC,zD,zE,zF,zG,zH,zI,C204_1])
  (refine q04 (fun hlt=>?_) (fun hlt=>?_)<;>(try simp only [hlc] at hlt))
  ·obtain ⟨x,hx⟩:=q0s hlt
   have hkid:=esz_kid (k:=k) (n:=n) (o:=o) (List.mem_of_getElem? hx)
   rw [q0z hx,hgtL] at hf
   (try simp only [rwp,hwR,zA,zB,zC,zD,zE,zF,zG,zH,zI,hx])
   refine q05 (ih x (List.mem_of_getElem? hx) (by omega)) ?_
   (try simp only [rwp,hwR,zA,zB,zC,zD,zE,zF,zG,zH,zI])
   (refine q04 (fun hc=>?_) (fun hc=>?_)<;>(try simp only [hlc] at hc))
   ·(simp (disch:=omega) only [q03])
    exact q09 rfl (hq (i+1,hgt x) _ ⟨rfl,by dsimp only;omega,by dsimp only;omega⟩ (by dsimp only;omega))
   ·(simp (disch:=omega) only [q03])
    exact q09 rfl (hq (i+1,m) _ ⟨rfl,by dsimp only;omega,by dsimp only;omega⟩ (by dsimp only;omega))
  ·rw [q37 hlt,hgtL] at hf
   have:m=hgtL ks:=by omega
   subst this
   (simp (disch:=omega) only [q03])
   exact q02 ⟨by rw [hgt];rfl,rfl⟩
def twoE (k:Int) (a c:Ex):Ex:=.mk k ⟨#[]⟩ ⟨#[]⟩ [a,c]
def twoR (k:Int) (t:Tk) (a c:Ex) (r:Rd):Rd:=if r.de=0∧12<hgt (twoE k a c) then q4r t 9 r else r
theorem twoE_ok {k:Int} {a c:Ex} (ha:OkE a) (hc:OkE c):OkE (twoE k a c):=.mk k _ _ _ (by simp) (by decide) (by decide) fun e he=>by
 simp at he
 rcases he with rfl | rfl<;>assumption
theorem twoE_sz {k:Int} {a c:Ex}:esz (twoE k a c)=esz a+esz c+1:=by simp [twoE,esz,eszL];omega
theorem c_two {T:List Tk} {r:Rd} {b:Nat} (k:Int) (t:Tk) {a c:Ex} (ha:OkE a) (hc:OkE c) (hsz:r.de=0→esz a+esz c+1≤1125899906842624):AFunR nrx172 b [.int .i64 k,.agg (tkC t),.agg (exC a),.agg (exC c)] T r (.agg (exC (twoE k a c))) (twoR k t a c r):=by
 intro S h
 have ho:=q7h h
 refine wx172 ?_
 unfold Bx172
 (try simp only [rwp,hwR,zA,zB,zC,zD,zE,zF,zG,zH,zI,tkC,q0f])
 intro b2 hb2
 have hne:b2≠b:=q0e hb2 h
 (try simp only [rwp,hwR,zA,zB,zC,zD,zE,zF,zG,zH,zI,q07 ho,if_neg hne,q18])
 have h2:∀ r2,sget (supd (supd S b2 (.cells 51 [.int .i64 0,.str ⟨#[]⟩,.str ⟨#[]⟩,.nils] 4)) b (rdO T r2)) b=some (rdO T r2):=fun r2=>q16
 have hS0:sget (supd S b2 (.cells 51 [.int .i64 0,.str ⟨#[]⟩,.str ⟨#[]⟩,.nils] 4)) b=some (rdO T r):=by rw [q01,if_neg hne];exact h
 have fin:∀ S2 r',q0i S2 b2=some (51,[.int .i64 0,.str ⟨#[]⟩,.str ⟨#[]⟩,.nils],4)→(∀ x,b2≠x→sget S2 x=sget (supd S b (rdO T r')) x)→r'=twoR k t a c r →
   C172_2 (fun ae S'=>ae=.ret (.agg (exC (twoE k a c)))∧S'=supd S b (rdO T (twoR k t a c r))) (.ptr b2 0) (.rop [.int .i64 k,.str ⟨#[]⟩,.str ⟨#[]⟩,.sl 4 [exC a,exC c]]) S2:=by
  intro S2 r' hob hS2 hr'
  unfold C172_2
  have hb2':sget (supd S b (rdO T r')) b2=none:=by rw [q01,if_neg (Ne.symm hne)];exact hb2
  have hsub:Sub (supd S b (rdO T r')) (sdel (supd S2 b2 (.cells 51 [.int .i64 k,.str ⟨#[]⟩,.str ⟨#[]⟩,.sl 4 [exC a,exC c]] 4)) b2):=by
   intro x o hx
   have hxb:b2≠x:=by rintro rfl;rw [hb2'] at hx;cases hx
   rw [q0a,if_neg hxb,q01,if_neg hxb]
   rw [hS2 x hxb];exact hx
  simp only [q0f] at hsub
  (try simp only [rwp,hwR,zA,zB,zC,zD,zE,zF,zG,zH,zI,hob,q0f,q18])
  refine q0y _ hsub ?_
  (try simp only [rwp,hwR,zA,zB,zC,zD,zE,zF,zG,zH,zI])
  refine ⟨?_,by rw [hr']⟩
  simp only [twoE,Ex.kind,Ex.name,Ex.over,Ex.kids,List.map_cons,List.map_nil,q0f]
 simp only [q0f] at fin
 cases a1:decide (r.de=0) with
 | false=>
  (try simp only [rwp,hwR,zA,zB,zC,zD,zE,zF,zG,zH,zI,C172_1])
  refine fin _ r q0h (fun x hx=>by rw [q01,if_neg hx,q0n h]) ?_
  rw [twoR,if_neg (fun h=>by rw [decide_eq_true h.1] at a1;cases a1)]
 | true=>
  have hde:=of_decide_eq_true a1
  (try simp only [rwp,hwR,zA,zB,zC,zD,zE,zF,zG,zH,zI])
  have hH:=c_Height (twoE k a c) (twoE_ok ha hc) (by rw [twoE_sz];exact hsz hde)
  simp only [twoE,q0f,Ex.kind,Ex.name,Ex.over,Ex.kids,List.map_cons,List.map_nil] at hH
  refine q05 hH ?_
  (try simp only [rwp,hwR,zA,zB,zC,zD,zE,zF,zG,zH,zI,C172_1])
  (refine q04 (fun hg=>?_) (fun hg=>?_)<;>(try simp only [hlc] at hg))
  ·refine (c_fail t 9).ca hS0 ?_
   refine fin _ (q4r t 9 r) (by rw [q0l (Ne.symm hne)];exact q0h) (fun x hx=>?_) ?_
   ·rw [q01,q01,q01,if_neg hx]
   ·rw [twoR,if_pos ⟨hde,by simp only [twoE];omega⟩]
  ·refine fin _ r q0h (fun x hx=>by rw [q01,if_neg hx,q0n h]) ?_
   rw [twoR,if_neg (fun h=>by have:=h.2;simp only [twoE] at this;omega)]
def zeroE:Ex:=.mk 0 ⟨#[]⟩ ⟨#[]⟩ []
def sLP:ByteArray:=⟨#[40]⟩
def sRP:ByteArray:=⟨#[41]⟩
def sDot:ByteArray:=⟨#[46]⟩
def q22 (T:List Tk) (ex:Rd→Ex×Rd) (r:Rd):Ex×Rd:=
 if isP T sLP r then
  (if 12<r.op+1 then (zeroE,q4r (nxP T r) 9 { isR T sLP r with op:=r.op+1 })
  else ((ex { isR T sLP r with op:=r.op+1 }).1,{ q1q T sRP (ex { isR T sLP r with op:=r.op+1 }).2 with op:=(q1q T sRP (ex { isR T sLP r with op:=r.op+1 }).2).op-1 }))
 else if isP T sDot (q0j T r) then (.mk 1 (q29 T r) (q29 T (isR T sDot (q0j T r))) [],q0j T (isR T sDot (q0j T r)))
 else (.mk 0 (q29 T r) ⟨#[]⟩ [],q0j T r)
def opL (T:List Tk) (tk:ByteArray→Option Int) (sub:Rd→Ex×Rd):Nat→Ex×Rd→Ex×Rd
 | 0,p=>p
 | f+1,(e,r)=>if r.de=0 then (match tk (nxP T r).s with
   | some k=>opL T tk sub f (twoE k e (sub { r with at':=r.at'+1 }).1,twoR k (nxP T r) e (sub { r with at':=r.at'+1 }).1 (sub { r with at':=r.at'+1 }).2)
   | none=>(e,r)) else (e,r)
def termK (s:ByteArray):Option Int:=if s=⟨#[38]⟩ then some 3 else none
def q8g (s:ByteArray):Option Int:=if s=⟨#[43]⟩ then some 2 else if s=⟨#[45]⟩ then some 4 else none
def q2m (T:List Tk) (ex:Rd→Ex×Rd) (r:Rd):Ex×Rd:=opL T termK (q22 T ex) T.length (q22 T ex r)
def q4n (T:List Tk) (ex:Rd→Ex×Rd) (r:Rd):Ex×Rd:=opL T q8g (q2m T ex) T.length (q2m T ex r)
def exprP (T:List Tk):Nat→Rd→Ex×Rd
 | 0=>q4n T fun r=>(zeroE,r)
 | n+1=>q4n T (exprP T n)
structure Pre (T:List Tk) (n:Nat) (r:Rd):Prop where
 inr:InR T r
 op0:0≤r.op
 op13:r.op≤13
 ok:r.de=0→r.op≤12∧12≤r.op+n
structure StepR (T:List Tk) (r r':Rd) (w:Nat):Prop where
 inr:InR T r'
 mono:r.at'≤r'.at'
 fault:r'.de=0→r.de=0
 op1:r.op≤r'.op
 op2:r'.op≤13
 op:r'.de=0→r'.op=r.op
 sz:r'.de=0→w+r.at'≤r'.at'
theorem StepR.pre {T:List Tk} {r r':Rd} {n w:Nat} (h:StepR T r r' w) (hp:Pre T n r):Pre T n r':=
 ⟨h.inr,by have:=hp.op0;have:=h.op1;omega,h.op2,fun h0=>by have h1:=h.op h0;rw [h1];exact hp.ok (h.fault h0)⟩
theorem StepR.trans {T:List Tk} {r r1 r2:Rd} {w1 w2:Nat} (h:StepR T r r1 w1) (k:StepR T r1 r2 w2):StepR T r r2 (w1+w2):=
 ⟨k.inr,Nat.le_trans h.mono k.mono,fun h0=>h.fault (k.fault h0),by have:=h.op1;have:=k.op1;omega,k.op2,fun h0=>(k.op h0).trans (h.op (k.fault h0)),fun h0=>by have:=h.sz (k.fault h0);have:=k.sz h0;omega⟩
theorem StepR.le {T:List Tk} {r r1:Rd} {w w':Nat} (h:StepR T r r1 w) (hw:w'≤w):StepR T r r1 w':=
 ⟨h.inr,h.mono,h.fault,h.op1,h.op2,h.op,fun h0=>by have:=h.sz h0;omega⟩
theorem StepR.refl {T:List Tk} {r:Rd} {n:Nat} (hp:Pre T n r):StepR T r r 0:=⟨hp.inr,Nat.le_refl _,id,Int.le_refl _,hp.op13,fun _=>rfl,fun _=>by omega⟩
theorem more_in {T:List Tk} (hT:OkTk T) {r:Rd} (hr:InR T r) (h1:(nxP T r).s≠⟨#[]⟩) (h2:(nxP T r).s≠⟨#[63]⟩):r.at'+1<T.length:=by
 have hx:=nx_get hr
 unfold InR at hr
 rcases Nat.lt_or_ge (r.at'+1) T.length with h | h
 ·exact h
 ·have e:T.length-1=r.at':=by omega
  have:=hT.last (nxP T r) (by rw [e];exact hx)
  rcases this with h3 | h3
  ·exact absurd h3 h1
  ·exact absurd h3 h2
theorem adv {T:List Tk} (hT:OkTk T) {r:Rd} {n:Nat} (hp:Pre T n r) (h1:(nxP T r).s≠⟨#[]⟩) (h2:(nxP T r).s≠⟨#[63]⟩):StepR T r { r with at':=r.at'+1 } 1:=
 ⟨more_in hT hp.inr h1 h2,Nat.le_succ _,id,Int.le_refl _,hp.op13,fun _=>rfl,fun _=>by dsimp only;omega⟩
theorem fail_any {T:List Tk} {r r1:Rd} (t:Tk) {e:Int} (he:e≠0) (w':Nat) (h1:InR T r1) (h2:r.at'≤r1.at') (h3:r.op≤r1.op) (h4:r1.op≤13):StepR T r (q4r t e r1) w':=by
 have hne:¬ (q4r t e r1).de=0:=by
  unfold q4r
  split
  ·exact he
  ·assumption
 have e1:(q4r t e r1).at'=r1.at':=by unfold q4r;split<;>rfl
 have e2:(q4r t e r1).op=r1.op:=by unfold q4r;split<;>rfl
 exact ⟨by unfold InR;rw [e1];exact h1,by rw [e1];exact h2,fun h0=>absurd h0 hne,by rw [e2];exact h3,by rw [e2];exact h4,fun h0=>absurd h0 hne,fun h0=>absurd h0 hne⟩
theorem q6u {T:List Tk} {r r1:Rd} {w:Nat} (t:Tk) {e:Int} (he:e≠0) (w':Nat) (h:StepR T r r1 w):StepR T r (q4r t e r1) w':=fail_any t he w' h.inr h.mono h.op1 h.op2
theorem is_true {T:List Tk} {s:ByteArray} {r:Rd} (h:isP T s r=true):r.de=0∧(nxP T r).s=s:=by
 unfold isP at h
 simpa using h
theorem q27 {T:List Tk} (hT:OkTk T) {s:ByteArray} {r:Rd} {n:Nat} (hp:Pre T n r) (h:isP T s r=true) (h1:s≠⟨#[]⟩) (h2:s≠⟨#[63]⟩):StepR T r (isR T s r) 1:=by
 obtain ⟨-,h4⟩:=is_true h
 rw [isR,if_pos h]
 exact adv hT hp (by rw [h4];exact h1) (by rw [h4];exact h2)
theorem q43 {T:List Tk} (hT:OkTk T) {s:ByteArray} {r:Rd} {n:Nat} (hp:Pre T n r) (h1:s≠⟨#[]⟩) (h2:s≠⟨#[63]⟩):StepR T r (q1q T s r) 1:=by
 unfold q1q
 cases h:isP T s r with
 | true=>rw [if_pos rfl];exact q27 hT hp h h1 h2
 | false=>rw [if_neg (by simp)];exact q6u _ (by decide) 1 (StepR.refl hp)
theorem name_some {s:ByteArray} (h:q0p s=true):s≠⟨#[]⟩∧s≠⟨#[63]⟩:=by
 constructor
 ·rintro rfl
  revert h
  decide +kernel
 ·rintro rfl
  revert h
  decide +kernel
theorem q1p {T:List Tk} (hT:OkTk T) {r:Rd} {n:Nat} (hp:Pre T n r):StepR T r (q0j T r) 1:=by
 unfold q0j
 split
 ·rename_i h
  obtain ⟨h1,h2⟩:=name_some h.1
  exact adv hT hp h1 h2
 ·exact q6u _ (by decide) 1 (StepR.refl hp)
theorem q2c {T:List Tk} (hT:OkTk T) {r:Rd} (hr:InR T r):(q29 T r).size≤1125899906842624:=by
 unfold q29
 split
 ·exact hT.size _ (List.mem_of_getElem? (nx_get hr))
 ·exact Nat.zero_le _
theorem q3q {T:List Tk} {r r1:Rd} {w:Nat} (k:Int) (t:Tk) (a c:Ex) (h:StepR T r r1 w):StepR T r (twoR k t a c r1) w:=by
 unfold twoR
 split
 ·exact q6u _ (by decide) w h
 ·exact h
structure ExSt (T:List Tk) (r:Rd) (p:Ex×Rd):Prop where
 st:StepR T r p.2 (esz p.1)
 ok:OkE p.1
theorem q6k {k:Int} {n o:ByteArray} (hn:n.size≤1125899906842624) (ho:o.size≤1125899906842624):OkE (.mk k n o []):=.mk k n o [] (by simp) hn ho fun e he=>by (cases he)
theorem esz_leaf {k:Int} {n o:ByteArray}:esz (.mk k n o [])=1:=by simp [esz,eszL]
def Inner (T:List Tk) (n:Nat) (ex:Rd→Ex×Rd):Prop:=∀ m,n=m+1→∀ r,Pre T m r→ExSt T r (ex r)
theorem lp_pre {T:List Tk} (hT:OkTk T) {n:Nat} {r:Rd} (hp:Pre T n r) (h:isP T sLP r=true) (h12:¬ 12<r.op+1):∃ m,n=m+1∧Pre T m { isR T sLP r with op:=r.op+1 }:=by
 obtain ⟨h1,h2⟩:=is_true h
 obtain ⟨k1,k2⟩:=hp.ok h1
 have hs:=q27 hT hp h (by decide +kernel) (by decide +kernel)
 refine ⟨n-1,by omega,hs.inr,?_,?_,fun _=>?_⟩
 ·have:=hp.op0;dsimp only;omega
 ·dsimp only;omega
 ·dsimp only;omega
theorem atom_ok {T:List Tk} (hT:OkTk T) {n:Nat} {ex:Rd→Ex×Rd} (hex:Inner T n ex) {r:Rd} (hp:Pre T n r):ExSt T r (q22 T ex r):=by
 unfold q22
 split
 ·rename_i h
  have hs:=q27 hT hp h (by decide +kernel) (by decide +kernel)
  obtain ⟨h1,h2⟩:=is_true h
  split
  ·rename_i h12
   have h5:r.op=12:=by have:=(hp.ok h1).1;omega
   refine ⟨?_,q6k (Nat.zero_le _) (Nat.zero_le _)⟩
   exact fail_any _ (by decide) _ hs.inr hs.mono (by dsimp only;omega) (by dsimp only;omega)
  ·rename_i h12
   obtain ⟨m,hm,hp2⟩:=lp_pre hT hp h h12
   have he:=hex m hm _ hp2
   generalize ex { isR T sLP r with op:=r.op+1 }=q at he
   obtain ⟨e,r3⟩:=q
   have hp3:=he.st.pre hp2
   have hm2:=q43 hT hp3 (s:=sRP) (by decide +kernel) (by decide +kernel)
   have h6:=he.st.trans hm2
   dsimp only at h6 ⊢
   refine ⟨⟨h6.inr,?_,fun h0=>?_,?_,?_,fun h0=>?_,fun h0=>?_⟩,he.ok⟩
   ·have:=hs.mono;have:=h6.mono;dsimp only at *;omega
   ·exact hs.fault (h6.fault h0)
   ·have:=h6.op1;dsimp only at *;omega
   ·have:=h6.op2;dsimp only at *;omega
   ·have:=h6.op h0;dsimp only at *;omega
   ·have h7:=h6.sz h0
    have h8:=hs.mono
    dsimp only at *;omega
 ·have hn:=q1p hT hp
  have hpn:=hn.pre hp
  split
  ·rename_i h
   have h1:=q27 hT hpn h (by decide +kernel) (by decide +kernel)
   have hp1:=h1.pre hpn
   have h2:=q1p hT hp1
   refine ⟨?_,q6k (q2c hT hp.inr) (q2c hT hp1.inr)⟩
   rw [esz_leaf]
   exact ((hn.trans h1).trans h2).le (by omega)
  ·refine ⟨?_,q6k (q2c hT hp.inr) (Nat.zero_le _)⟩
   rw [esz_leaf]
   exact hn
def Signs (tk:ByteArray→Option Int):Prop:=tk ⟨#[]⟩=none∧tk ⟨#[63]⟩=none
theorem opL_ok {T:List Tk} (hT:OkTk T) {n:Nat} {tk:ByteArray→Option Int} (htk:Signs tk) {sub:Rd→Ex×Rd} (hsub:∀ r,Pre T n r→ExSt T r (sub r)) {r0:Rd} (hp0:Pre T n r0):∀ {f:Nat} {p:Ex×Rd},ExSt T r0 p→ExSt T r0 (opL T tk sub f p)
 | 0,p,h=>h
 | f+1,(e,r),h=>by
  unfold opL
  split
  ·rename_i h0
   split
   ·rename_i k hk
    have hp:=h.st.pre hp0
    have ha:=adv hT hp (fun h1=>by rw [h1,htk.1] at hk;cases hk) (fun h1=>by rw [h1,htk.2] at hk;cases hk)
    have hs:=hsub _ (ha.pre hp)
    refine opL_ok hT htk hsub hp0 ⟨q3q _ _ _ _ ?_,twoE_ok h.ok hs.ok⟩
    have hst:=h.st
    have hss:=hs.st
    dsimp only at hst ha hss ⊢
    rw [twoE_sz]
    exact ((hst.trans ha).trans hss).le (by omega)
   ·exact h
  ·exact h
theorem signs_term:Signs termK:=⟨by decide +kernel,by decide +kernel⟩
theorem signs_expr:Signs q8g:=⟨by decide +kernel,by decide +kernel⟩
theorem term_ok {T:List Tk} (hT:OkTk T) {n:Nat} {ex:Rd→Ex×Rd} (hex:Inner T n ex) {r:Rd} (hp:Pre T n r):ExSt T r (q2m T ex r):=opL_ok hT signs_term (fun _ h=>atom_ok hT hex h) hp (atom_ok hT hex hp)
theorem exprOf_ok {T:List Tk} (hT:OkTk T) {n:Nat} {ex:Rd→Ex×Rd} (hex:Inner T n ex) {r:Rd} (hp:Pre T n r):ExSt T r (q4n T ex r):=opL_ok hT signs_expr (fun _ h=>term_ok hT hex h) hp (term_ok hT hex hp)
theorem expr_ok {T:List Tk} (hT:OkTk T):∀ {n:Nat} {r:Rd},Pre T n r→ExSt T r (exprP T n r)
 | 0,r,hp=>exprOf_ok hT (fun m h=>by omega) hp
 | n+1,r,hp=>exprOf_ok hT (fun m h r hr=>by
  have:n=m:=by omega
  subst this
  exact expr_ok hT hr) hp
set_option maxRecDepth 4000
theorem sub_both {S S1:q00} (h:Sub S S1) (b:Nat) (o:AObj):Sub (supd S b o) (supd S1 b o):=by
 intro x y hx
 rw [q01] at hx ⊢
 split
 ·rename_i hb;rw [if_pos hb] at hx;exact hx
 ·rename_i hb;rw [if_neg hb] at hx;exact h x y hx
theorem sub_cell {S:q00} {b b2:Nat} {o x y:AObj} (hb2:sget S b2=none) (hne:b2≠b):Sub (supd S b o) (supd (supd (supd S b2 x) b o) b2 y):=
 Sub.supd (by rw [q01,if_neg (Ne.symm hne)];exact hb2) (sub_both (Sub.fresh x hb2) b o)
theorem rd_lit {T:List Tk} {a:Nat} {o x y z:Int}:(AObj.cells 145 [.sl 3 (T.map tkC),.int .i64 a,.int .i64 o,.int .i64 x,.int .i64 y,.int .i64 z] 6)=rdO T ⟨a,o,x,y,z⟩:=rfl
abbrev c41:AObj:=.cells 51 [.int .i64 0,.str ⟨#[]⟩,.str ⟨#[]⟩,.nils] 4
def InnerW (T:List Tk) (n b:Nat) (ex:Rd→Ex×Rd):Prop:=∀ m,n=m+1→∀ r,Pre T m r→AFunR nrx132 b [] T r (.agg (exC (ex r).1)) (ex r).2
theorem c_atom {T:List Tk} (hT:OkTk T) {n b:Nat} {ex:Rd→Ex×Rd} (hex:Inner T n ex) (hexW:InnerW T n b ex) {r:Rd} (hp:Pre T n r):AFunR nrx203 b [] T r (.agg (exC (q22 T ex r).1)) (q22 T ex r).2:=by
 intro S h
 have hl:=hT.len
 have hr':r.at'<T.length:=hp.inr
 have h0:=hp.op0
 have h13:=hp.op13
 refine wx203 ?_
 unfold Bx203
 intro b2 hb2
 have hne:b2≠b:=q0e hb2 h
 have hS0:sget (supd S b2 c41) b=some (rdO T r):=by rw [q01,if_neg hne];exact h
 refine (q5d hT hp.inr).ca hS0 ?_
 rw [q0n hS0]
 (try simp only [rwp,hwR,zA,zB,zC,zD,zE,zF,zG,zH,zI,tkC])
 refine (c_is hT hp.inr sLP).ca hS0 ?_
 have fin:∀ (k:Int) (s o:ByteArray) (v:AV) (e:Ex) (r':Rd),e=.mk k s o e.kids→q22 T ex r=(e,r')→(v=.nils∧e.kids=[]∨v=.sl 4 (e.kids.map exC)) →
   rtW [.cell (.ptr b2 0) 4 true] (fun ae S'=>ae=.ret (.agg (exC (q22 T ex r).1))∧S'=supd S b (rdO T (q22 T ex r).2)) (supd (supd (supd S b2 c41) b (rdO T r')) b2 (.cells 51 [.int .i64 k,.str s,.str o,v] 4)):=by
  intro k s o v e r' he0 he hv
  rw [he]
  refine q4y (supd S b (rdO T r')) (.agg (exC e)) (sub_cell hb2 hne) ?_ ⟨rfl,rfl⟩
  rw [he0,q0f]
  (try simp only [rwp,hwR,zA,zB,zC,zD,zE,zF,zG,zH,zI])
  refine .ag (.cons (.same _) (.cons (.same _) (.cons (.same _) (.cons ?_ .nil))))
  rcases hv with ⟨rfl,h2⟩ | rfl
  ·rw [Ex.kids,h2];exact .nils 4
  ·exact .same _
 have hob:∀ o,q0i (supd (supd S b2 c41) b o) b2=some (51,[.int .i64 0,.str ⟨#[]⟩,.str ⟨#[]⟩,.nils],4):=fun o=>by rw [q0l (Ne.symm hne)];exact q0h
 cases hi:isP T sLP r with
 | true=>
  have hs:=q27 hT hp hi (by decide +kernel) (by decide +kernel)
  have hir:isR T sLP r={ r with at':=r.at'+1 }:=by rw [isR,if_pos hi]
  (try simp only [rwp,hwR,zA,zB,zC,zD,zE,zF,zG,zH,zI,q07 (q7h q16),q7h q16,hir])
  rw [q03 (by omega) (by omega)]
  simp only [rd_lit]
  (refine q04 (fun h12=>?_) (fun h12=>?_)<;>(try simp only [hlc] at h12))
  ·refine (c_fail (nxP T r) 9).ca q16 ?_
   (try simp only [rwp,hwR,zA,zB,zC,zD,zE,zF,zG,zH,zI,hob])
   refine fin 0 _ _ _ zeroE _ rfl ?_ (.inl ⟨rfl,rfl⟩)
   rw [q22,if_pos hi,if_pos h12,hir]
  ·obtain ⟨m,hm,hp2⟩:=lp_pre hT hp hi h12
   have he:=hex m hm _ hp2
   rw [hir] at hp2 he
   refine (hexW m hm _ hp2).ca q16 ?_
   have hat:q22 T ex r=((ex { r with at':=r.at'+1,op:=r.op+1 }).1,{ q1q T sRP (ex { r with at':=r.at'+1,op:=r.op+1 }).2 with op:=(q1q T sRP (ex { r with at':=r.at'+1,op:=r.op+1 }).2).op-1 }):=by
    rw [q22,if_pos hi,if_neg h12,hir]
   generalize ex { r with at':=r.at'+1,op:=r.op+1 }=q at he hat
   obtain ⟨e,r3⟩:=q
   have hp3:=he.st.pre hp2
   have hm2:=q43 hT hp3 (s:=sRP) (by decide +kernel) (by decide +kernel)
   have hp4:=hm2.pre hp3
   have o1:=hp4.op0
   have o2:=hp4.op13
   dsimp only at o1 o2
   (try simp only [rwp,hwR,zA,zB,zC,zD,zE,zF,zG,zH,zI,q0f])
   refine (c_must hT hp3.inr sRP).ca q16 ?_
   (try simp only [rwp,hwR,zA,zB,zC,zD,zE,zF,zG,zH,zI,q07 (q7h q16),q7h q16])
   rw [q03 (by omega) (by omega)]
   simp only [rd_lit]
   (try simp only [rwp,hwR,zA,zB,zC,zD,zE,zF,zG,zH,zI,hob,if_neg (Ne.symm hne)])
   have hf:=fin e.kind e.name e.over _ e _ (by cases e;rfl) hat (.inr rfl)
   simp only [q0f] at hf
   exact hf
 | false=>
  rw [q86 hi]
  have hn:=q1p hT hp
  have hpn:=hn.pre hp
  (try simp only [rwp,hwR,zA,zB,zC,zD,zE,zF,zG,zH,zI])
  refine (c_name hT hp.inr).ca q16 ?_
  (try simp only [rwp,hwR,zA,zB,zC,zD,zE,zF,zG,zH,zI])
  refine (c_is hT hpn.inr sDot).ca q16 ?_
  cases hd:isP T sDot (q0j T r) with
  | true=>
   have h1:=q27 hT hpn hd (by decide +kernel) (by decide +kernel)
   have hp1:=h1.pre hpn
   (try simp only [rwp,hwR,zA,zB,zC,zD,zE,zF,zG,zH,zI])
   refine (c_name hT hp1.inr).ca q16 ?_
   (try simp only [rwp,hwR,zA,zB,zC,zD,zE,zF,zG,zH,zI,hob])
   refine fin _ _ _ _ (.mk 1 (q29 T r) (q29 T (isR T sDot (q0j T r))) []) _ rfl ?_ (.inl ⟨rfl,rfl⟩)
   rw [q22,if_neg (by rw [hi];simp),if_pos hd]
  | false=>
   rw [q86 hd]
   (try simp only [rwp,hwR,zA,zB,zC,zD,zE,zF,zG,zH,zI,hob])
   refine fin _ _ _ _ (.mk 0 (q29 T r) ⟨#[]⟩ []) _ rfl ?_ (.inl ⟨rfl,rfl⟩)
   rw [q22,if_neg (by rw [hi];simp),if_neg (by rw [hd];simp)]
theorem opL_stop {T:List Tk} {tk:ByteArray→Option Int} {sub:Rd→Ex×Rd} {f:Nat} {p:Ex×Rd} (h:¬ (p.2.de=0∧(tk (nxP T p.2).s).isSome=true)):opL T tk sub f p=p:=by
 cases f with
 | zero=>rfl
 | succ f=>
  obtain ⟨e,r⟩:=p
  unfold opL
  split
  ·rename_i h0
   split
   ·rename_i k hk
    exact absurd ⟨h0,by rw [hk];rfl⟩ h
   ·rfl
  ·rfl
theorem opL_more {T:List Tk} (hT:OkTk T) {n:Nat} {tk:ByteArray→Option Int} (htk:Signs tk) {sub:Rd→Ex×Rd} (hsub:∀ r,Pre T n r→ExSt T r (sub r)):∀ {f g:Nat} {p:Ex×Rd},Pre T n p.2→T.length≤f+p.2.at'→T.length≤g+p.2.at'→opL T tk sub f p=opL T tk sub g p
 | 0,g,p,hp,h1,h2=>by have h3:p.2.at'<T.length:=hp.inr;omega
 | f+1,0,p,hp,h1,h2=>by have h3:p.2.at'<T.length:=hp.inr;omega
 | f+1,g+1,(e,r),hp,h1,h2=>by
  dsimp only at h1 h2
  unfold opL
  split
  ·rename_i h0
   split
   ·rename_i k hk
    have ha:=adv hT hp (fun h1=>by rw [h1,htk.1] at hk;cases hk) (fun h1=>by rw [h1,htk.2] at hk;cases hk)
    have hs:=hsub _ (ha.pre hp)
    have h5:=q3q k (nxP T r) e (sub { r with at':=r.at'+1 }).1 hs.st
    have h6:=h5.mono
    dsimp only at h6 hp
    exact opL_more hT htk hsub (h5.pre (ha.pre hp)) (by dsimp only;omega) (by dsimp only;omega)
   ·rfl
  ·rfl
structure TrI (S:q00) (b b2 b3:Nat) (T:List Tk) (p:Ex×Rd) (S':q00):Prop where
 rd:sget S' b=some (rdO T p.2)
 c3:sget S' b3=some (.cells 51 (exC p.1) 4)
 c2:sget S' b2=some c41
 oth:∀ x,b≠x→b3≠x→b2≠x→sget S' x=sget S x
theorem TrI.step {S S':q00} {b b2 b3:Nat} {T:List Tk} {p:Ex×Rd} (h:TrI S b b2 b3 T p S') (n1:b2≠b) (n2:b3≠b) (n3:b3≠b2) (e:Ex) (r':Rd):TrI S b b2 b3 T (e,r') (supd (supd S' b (rdO T r')) b3 (.cells 51 (exC e) 4)):=
 ⟨by rw [q01,if_neg n2,q01,if_pos rfl],by rw [q01,if_pos rfl],by rw [q01,if_neg n3,q01,if_neg (Ne.symm n1)];exact h.c2,fun x h1 h2 h3=>by rw [q01,if_neg h2,q01,if_neg h1];exact h.oth x h1 h2 h3⟩
theorem TrI.sub {S S':q00} {b b2 b3:Nat} {T:List Tk} {p:Ex×Rd} (h:TrI S b b2 b3 T p S') (n1:b2≠b) (n2:b3≠b) (n3:b3≠b2) (k2:sget S b2=none) (k3:sget S b3=none) (o:AObj):Sub (supd S b (rdO T p.2)) (sdel (supd S' b2 o) b2):=by
 intro x y hx
 have h2:b2≠x:=by
  rintro rfl
  rw [q01,if_neg (Ne.symm n1),k2] at hx;cases hx
 have h3:b3≠x:=by
  rintro rfl
  rw [q01,if_neg (Ne.symm n2),k3] at hx;cases hx
 rw [q0a,if_neg h2,q01,if_neg h2]
 rw [q01] at hx
 by_cases hb:b=x
 ·subst hb;rw [if_pos rfl] at hx;rw [h.rd];exact hx
 ·rw [if_neg hb] at hx;rw [h.oth x hb h3 h2];exact hx
theorem c_term {T:List Tk} (hT:OkTk T) {n b:Nat} {ex:Rd→Ex×Rd} (hex:Inner T n ex) (hexW:InnerW T n b ex) {r:Rd} (hp:Pre T n r):AFunR nrx171 b [] T r (.agg (exC (q2m T ex r).1)) (q2m T ex r).2:=by
 intro S h
 have hl:=hT.len
 refine wx171 ?_
 unfold Bx171
 intro b2 hb2
 have n1:b2≠b:=q0e hb2 h
 have hS0:sget (supd S b2 c41) b=some (rdO T r):=by rw [q01,if_neg n1];exact h
 (try simp only [rwp,hwR,zA,zB,zC,zD,zE,zF,zG,zH,zI])
 refine (c_atom hT hex hexW hp).ca hS0 ?_
 intro b3 hb3
 have n2:b3≠b:=q0e hb3 q16
 have n3:b3≠b2:=q0e hb3 (x:=c41) (by rw [q01,if_neg (Ne.symm n1),q01,if_pos rfl])
 have k3:sget S b3=none:=by rw [q01,if_neg (Ne.symm n2),q01,if_neg (Ne.symm n3)] at hb3;exact hb3
 have hI0:TrI S b b2 b3 T (q22 T ex r) (supd (supd (supd S b2 c41) b (rdO T (q22 T ex r).2)) b3 (.cells 51 (exC (q22 T ex r).1) 4)):=
  ⟨by rw [q01,if_neg n2,q01,if_pos rfl],by rw [q01,if_pos rfl],by rw [q01,if_neg n3,q01,if_neg (Ne.symm n1),q01,if_pos rfl],fun x h1 h2 h3=>by rw [q01,if_neg h2,q01,if_neg h1,q01,if_neg h3]⟩
 have hat:=atom_ok hT hex hp
 have hfin:opL T termK (q22 T ex) T.length (q22 T ex r)=q2m T ex r:=rfl
 simp only [q0f] at hI0
 (try simp only [rwp,hwR,zA,zB,zC,zD,zE,zF,zG,zH,zI,q0f,q18])
 rw [← q0f]
 simp only [← q0f] at hI0
 generalize q22 T ex r=p0 at hI0 hat hfin
 refine LoopP.introS (fun _:Ex×Rd=>[(0,.ptr b 0),(2,.ptr b2 0),(3,.ptr b3 0)])
  (fun p S'=>TrI S b b2 b3 T p S'∧ExSt T r p∧opL T termK (q22 T ex) T.length p=q2m T ex r) (fun p=>T.length-p.2.at') p0 ⟨by simpa only [q0f] using hI0,hat,hfin⟩ rfl ?_
 clear hI0 hat hfin
 rintro ⟨e,r1⟩ S1 ⟨hI,hE,hf⟩ q hq
 have hp1:=hE.st.pre hp
 have hin:r1.at'<T.length:=hp1.inr
 have ho:=q7h hI.rd
 (try simp only [rwp,hwR,zA,zB,zC,zD,zE,zF,zG,zH,zI,C171_1,q07 ho])
 have stop:¬ (r1.de=0∧(termK (nxP T r1).s).isSome=true)→C171_2 (fun ae S'=>ae=.ret (.agg (exC (q2m T ex r).1))∧S'=supd S b (rdO T (q2m T ex r).2)) q (.ptr b 0) (.ptr b2 0) (.ptr b3 0) (.bool false) S1:=fun hn=>by
  rw [opL_stop hn] at hf
  rw [← hf]
  unfold C171_2
  have hsub:=hI.sub n1 n2 n3 hb2 k3
  have hc3:=objAt_some.2 hI.c3
  have hc2:=objAt_some.2 hI.c2
  simp only [q0f] at hc3
  (try simp only [rwp,hwR,zA,zB,zC,zD,zE,zF,zG,zH,zI,q07 hc3,hc2,q0f,q18])
  refine q0y _ (hsub _) ?_
  (try simp only [rwp,hwR,zA,zB,zC,zD,zE,zF,zG,zH,zI,q0f])
 cases a1:decide (r1.de=0) with
 | false=>
  (try simp only [rwp,hwR,zA,zB,zC,zD,zE,zF,zG,zH,zI])
  exact stop fun h=>by rw [decide_eq_true h.1] at a1;cases a1
 | true=>
  have hde:r1.de=0:=of_decide_eq_true a1
  (try simp only [rwp,hwR,zA,zB,zC,zD,zE,zF,zG,zH,zI])
  refine (q5d hT hp1.inr).ca hI.rd ?_
  rw [q0n hI.rd]
  (try simp only [rwp,hwR,zA,zB,zC,zD,zE,zF,zG,zH,zI,tkC])
  cases a2:decide ((nxP T r1).s=⟨#[38]⟩) with
  | false=>
   (try simp only [rwp,hwR,zA,zB,zC,zD,zE,zF,zG,zH,zI])
   exact stop fun h=>by
    have:=of_decide_eq_false a2
    rw [termK,if_neg this] at h
    cases h.2
  | true=>
   have hk:termK (nxP T r1).s=some 3:=by rw [termK,if_pos (of_decide_eq_true a2)]
   have ha:=adv hT hp1 (fun h1=>by rw [h1] at hk;revert hk;decide +kernel) (fun h1=>by rw [h1] at hk;revert hk;decide +kernel)
   have hpa:=ha.pre hp1
   have hs:=atom_ok hT hex hpa
   have hps:=hs.st.pre hpa
   have hfu:opL T termK (q22 T ex) T.length (twoE 3 e (q22 T ex { r1 with at':=r1.at'+1 }).1,twoR 3 (nxP T r1) e (q22 T ex { r1 with at':=r1.at'+1 }).1 (q22 T ex { r1 with at':=r1.at'+1 }).2)=q2m T ex r:=by
    rw [← hf]
    obtain ⟨m,hm⟩:∃ m,T.length=m+1:=⟨T.length-1,by omega⟩
    have h5:=q3q 3 (nxP T r1) e (q22 T ex { r1 with at':=r1.at'+1 }).1 hs.st
    have h6:=h5.mono
    dsimp only at h6
    conv=>rhs;rw [hm,opL,if_pos hde]
    simp only [hk]
    exact opL_more hT signs_term (fun _ h=>atom_ok hT hex h) (h5.pre hpa) (by dsimp only;omega) (by dsimp only;omega)
   have hE2:ExSt T r (twoE 3 e (q22 T ex { r1 with at':=r1.at'+1 }).1,twoR 3 (nxP T r1) e (q22 T ex { r1 with at':=r1.at'+1 }).1 (q22 T ex { r1 with at':=r1.at'+1 }).2):=by
    refine ⟨q3q _ _ _ _ ?_,twoE_ok hE.ok hs.ok⟩
    have hst:=hE.st
    have hss:=hs.st
    dsimp only at hst ha hss ⊢
    rw [twoE_sz]
    exact ((hst.trans ha).trans hss).le (by omega)
   have hmu:r1.at'+1≤(twoR 3 (nxP T r1) e (q22 T ex { r1 with at':=r1.at'+1 }).1 (q22 T ex { r1 with at':=r1.at'+1 }).2).at':=(q3q 3 (nxP T r1) e _ hs.st).mono
   (try simp only [rwp,hwR,zA,zB,zC,zD,zE,zF,zG,zH,zI,C171_2])
   refine (q5d hT hp1.inr).ca hI.rd ?_
   rw [q0n hI.rd]
   (try simp only [rwp,hwR,zA,zB,zC,zD,zE,zF,zG,zH,zI,tkC,q07 ho,ho])
   (simp (disch:=omega) only [q03])
   rw [show ((r1.at':Int)+1)=((r1.at'+1:Nat):Int) from rfl]
   simp only [rd_lit]
   refine (c_atom hT hex hexW hpa).ca q16 ?_
   generalize q22 T ex { r1 with at':=r1.at'+1 }=p2 at hs hps hfu hE2 hmu
   obtain ⟨c,r2⟩:=p2
   have hbd:r2.de=0→esz e+esz c+1≤1125899906842624:=fun h0=>by
    have h7:=hs.st.sz h0
    have h8:=hE.st.sz (ha.fault (hs.st.fault h0))
    have h9:r2.at'<T.length:=hps.inr
    dsimp only at h7 h8
    omega
   have htwo:=c_two (T:=T) (r:=r2) (b:=b) 3 (nxP T r1) hE.ok hs.ok hbd
   dsimp only at htwo hfu hE2 hmu
   have c3:∀ r',q0i (supd S1 b (rdO T r')) b3=some (51,exC e,4):=fun r'=>by rw [q0l (Ne.symm n2)];exact objAt_some.2 hI.c3
   have st:=hI.step n1 n2 n3 (twoE 3 e c) (twoR 3 (nxP T r1) e c r2)
   simp only [q0f] at c3 st
   (try simp only [rwp,hwR,zA,zB,zC,zD,zE,zF,zG,zH,zI,q0f,q07 (c3 r2)])
   simp only [← q0f]
   refine htwo.ca q16 ?_
   generalize twoE 3 e c=e3 at hfu hE2 st ⊢
   generalize twoR 3 (nxP T r1) e c r2=r3 at hfu hE2 st c3 hmu ⊢
   (try simp only [rwp,hwR,zA,zB,zC,zD,zE,zF,zG,zH,zI,q0f,c3 r3,q18])
   exact q09 rfl (hq (e3,r3) _ ⟨by simpa only [q0f] using st,hE2,hfu⟩ (by dsimp only;omega))
set_option maxRecDepth 4000
theorem c_exprOf {T:List Tk} (hT:OkTk T) {n b:Nat} {ex:Rd→Ex×Rd} (hex:Inner T n ex) (hexW:InnerW T n b ex) {r:Rd} (hp:Pre T n r):AFunR nrx132 b [] T r (.agg (exC (q4n T ex r).1)) (q4n T ex r).2:=by
 intro S h
 have hl:=hT.len
 refine wx132 ?_
 unfold Bx132
 intro b2 hb2
 have n1:b2≠b:=q0e hb2 h
 have hS0:sget (supd S b2 c41) b=some (rdO T r):=by rw [q01,if_neg n1];exact h
 (try simp only [rwp,hwR,zA,zB,zC,zD,zE,zF,zG,zH,zI])
 refine (c_term hT hex hexW hp).ca hS0 ?_
 intro b3 hb3
 have n2:b3≠b:=q0e hb3 q16
 have n3:b3≠b2:=q0e hb3 (x:=c41) (by rw [q01,if_neg (Ne.symm n1),q01,if_pos rfl])
 have k3:sget S b3=none:=by rw [q01,if_neg (Ne.symm n2),q01,if_neg (Ne.symm n3)] at hb3;exact hb3
 have hI0:TrI S b b2 b3 T (q2m T ex r) (supd (supd (supd S b2 c41) b (rdO T (q2m T ex r).2)) b3 (.cells 51 (exC (q2m T ex r).1) 4)):=
  ⟨by rw [q01,if_neg n2,q01,if_pos rfl],by rw [q01,if_pos rfl],by rw [q01,if_neg n3,q01,if_neg (Ne.symm n1),q01,if_pos rfl],fun x h1 h2 h3=>by rw [q01,if_neg h2,q01,if_neg h1,q01,if_neg h3]⟩
 have hat:=term_ok hT hex hp
 have hfin:opL T q8g (q2m T ex) T.length (q2m T ex r)=q4n T ex r:=rfl
 simp only [q0f] at hI0
 (try simp only [rwp,hwR,zA,zB,zC,zD,zE,zF,zG,zH,zI,q0f,q18])
 rw [← q0f]
 simp only [← q0f] at hI0
 generalize q2m T ex r=p0 at hI0 hat hfin
 refine LoopP.introS (fun _:Ex×Rd=>[(0,.ptr b 0),(2,.ptr b2 0),(3,.ptr b3 0)])
  (fun p S'=>TrI S b b2 b3 T p S'∧ExSt T r p∧opL T q8g (q2m T ex) T.length p=q4n T ex r) (fun p=>T.length-p.2.at') p0 ⟨by simpa only [q0f] using hI0,hat,hfin⟩ rfl ?_
 clear hI0 hat hfin
 rintro ⟨e,r1⟩ S1 ⟨hI,hE,hf⟩ q hq
 have hp1:=hE.st.pre hp
 have hin:r1.at'<T.length:=hp1.inr
 have ho:=q7h hI.rd
 (try simp only [rwp,hwR,zA,zB,zC,zD,zE,zF,zG,zH,zI,C132_1,q07 ho])
 have stop:¬ (r1.de=0∧(q8g (nxP T r1).s).isSome=true)→C132_4 (fun ae S'=>ae=.ret (.agg (exC (q4n T ex r).1))∧S'=supd S b (rdO T (q4n T ex r).2)) q (.ptr b 0) (.ptr b2 0) (.ptr b3 0) (.bool false) S1:=fun hn=>by
  rw [opL_stop hn] at hf
  rw [← hf]
  unfold C132_4
  have hsub:=hI.sub n1 n2 n3 hb2 k3
  have hc3:=objAt_some.2 hI.c3
  have hc2:=objAt_some.2 hI.c2
  simp only [q0f] at hc3
  (try simp only [rwp,hwR,zA,zB,zC,zD,zE,zF,zG,zH,zI,q07 hc3,hc2,q0f,q18])
  refine q0y _ (hsub _) ?_
  (try simp only [rwp,hwR,zA,zB,zC,zD,zE,zF,zG,zH,zI,q0f])
 cases a1:decide (r1.de=0) with
 | false=>
  (try simp only [rwp,hwR,zA,zB,zC,zD,zE,zF,zG,zH,zI,C132_2,C132_3])
  exact stop fun h=>by rw [decide_eq_true h.1] at a1;cases a1
 | true=>
  have hde:r1.de=0:=of_decide_eq_true a1
  (try simp only [rwp,hwR,zA,zB,zC,zD,zE,zF,zG,zH,zI])
  refine (q5d hT hp1.inr).ca hI.rd ?_
  rw [q0n hI.rd]
  (try simp only [rwp,hwR,zA,zB,zC,zD,zE,zF,zG,zH,zI,tkC])
  have low:∀ k:Int,q8g (nxP T r1).s=some k→C132_5 (fun ae S'=>ae=.ret (.agg (exC (q4n T ex r).1))∧S'=supd S b (rdO T (q4n T ex r).2)) q (.ptr b 0) (.ptr b2 0) (.ptr b3 0) (.rop (tkC (nxP T r1))) (.int .i64 k) S1:=by
   intro k hk
   have ha:=adv hT hp1 (fun h1=>by rw [h1,signs_expr.1] at hk;cases hk) (fun h1=>by rw [h1,signs_expr.2] at hk;cases hk)
   have hpa:=ha.pre hp1
   have hs:=term_ok hT hex hpa
   have hps:=hs.st.pre hpa
   have hfu:opL T q8g (q2m T ex) T.length (twoE k e (q2m T ex { r1 with at':=r1.at'+1 }).1,twoR k (nxP T r1) e (q2m T ex { r1 with at':=r1.at'+1 }).1 (q2m T ex { r1 with at':=r1.at'+1 }).2)=q4n T ex r:=by
    rw [← hf]
    obtain ⟨m,hm⟩:∃ m,T.length=m+1:=⟨T.length-1,by omega⟩
    have h5:=q3q k (nxP T r1) e (q2m T ex { r1 with at':=r1.at'+1 }).1 hs.st
    have h6:=h5.mono
    dsimp only at h6
    conv=>rhs;rw [hm,opL,if_pos hde]
    simp only [hk]
    exact opL_more hT signs_expr (fun _ h=>term_ok hT hex h) (h5.pre hpa) (by dsimp only;omega) (by dsimp only;omega)
   have hE2:ExSt T r (twoE k e (q2m T ex { r1 with at':=r1.at'+1 }).1,twoR k (nxP T r1) e (q2m T ex { r1 with at':=r1.at'+1 }).1 (q2m T ex { r1 with at':=r1.at'+1 }).2):=by
    refine ⟨q3q _ _ _ _ ?_,twoE_ok hE.ok hs.ok⟩
    have hst:=hE.st
    have hss:=hs.st
    dsimp only at hst ha hss ⊢
    rw [twoE_sz]
    exact ((hst.trans ha).trans hss).le (by omega)
   have hmu:r1.at'+1≤(twoR k (nxP T r1) e (q2m T ex { r1 with at':=r1.at'+1 }).1 (q2m T ex { r1 with at':=r1.at'+1 }).2).at':=(q3q k (nxP T r1) e _ hs.st).mono
   unfold C132_5
   (try simp only [rwp,hwR,zA,zB,zC,zD,zE,zF,zG,zH,zI,tkC,q07 ho,ho])
   (simp (disch:=omega) only [q03])
   rw [show ((r1.at':Int)+1)=((r1.at'+1:Nat):Int) from rfl]
   simp only [rd_lit]
   refine (c_term hT hex hexW hpa).ca q16 ?_
   generalize q2m T ex { r1 with at':=r1.at'+1 }=p2 at hs hps hfu hE2 hmu
   obtain ⟨c,r2⟩:=p2
   have hbd:r2.de=0→esz e+esz c+1≤1125899906842624:=fun h0=>by
    have h7:=hs.st.sz h0
    have h8:=hE.st.sz (ha.fault (hs.st.fault h0))
    have h9:r2.at'<T.length:=hps.inr
    dsimp only at h7 h8
    omega
   have htwo:=c_two (T:=T) (r:=r2) (b:=b) k (nxP T r1) hE.ok hs.ok hbd
   dsimp only at htwo hfu hE2 hmu
   have c3:∀ r',q0i (supd S1 b (rdO T r')) b3=some (51,exC e,4):=fun r'=>by rw [q0l (Ne.symm n2)];exact objAt_some.2 hI.c3
   have st:=hI.step n1 n2 n3 (twoE k e c) (twoR k (nxP T r1) e c r2)
   simp only [q0f] at c3 st
   (try simp only [rwp,hwR,zA,zB,zC,zD,zE,zF,zG,zH,zI,q0f,q07 (c3 r2)])
   simp only [← q0f]
   refine htwo.ca q16 ?_
   generalize twoE k e c=e3 at hfu hE2 st ⊢
   generalize twoR k (nxP T r1) e c r2=r3 at hfu hE2 st c3 hmu ⊢
   (try simp only [rwp,hwR,zA,zB,zC,zD,zE,zF,zG,zH,zI,q0f,c3 r3,q18])
   exact q09 rfl (hq (e3,r3) _ ⟨by simpa only [q0f] using st,hE2,hfu⟩ (by dsimp only;omega))
  simp only [tkC] at low
  cases a2:decide ((nxP T r1).s=⟨#[43]⟩) with
  | true=>
   have e2:=of_decide_eq_true a2
   have hk:q8g (nxP T r1).s=some 2:=by rw [q8g,if_pos e2]
   have e3:decide ((nxP T r1).s=⟨#[45]⟩)=false:=by rw [e2];decide +kernel
   (try simp only [rwp,hwR,zA,zB,zC,zD,zE,zF,zG,zH,zI,C132_2,C132_3,C132_4])
   refine (q5d hT hp1.inr).ca hI.rd ?_
   rw [q0n hI.rd]
   (try simp only [rwp,hwR,zA,zB,zC,zD,zE,zF,zG,zH,zI,tkC,e3])
   exact low 2 hk
  | false=>
   (try simp only [rwp,hwR,zA,zB,zC,zD,zE,zF,zG,zH,zI,C132_2])
   refine (q5d hT hp1.inr).ca hI.rd ?_
   rw [q0n hI.rd]
   (try simp only [rwp,hwR,zA,zB,zC,zD,zE,zF,zG,zH,zI,tkC])
   cases a3:decide ((nxP T r1).s=⟨#[45]⟩) with
   | true=>
    have hk:q8g (nxP T r1).s=some 4:=by rw [q8g,if_neg (of_decide_eq_false a2),if_pos (of_decide_eq_true a3)]
    (try simp only [rwp,hwR,zA,zB,zC,zD,zE,zF,zG,zH,zI,C132_3,C132_4])
    refine (q5d hT hp1.inr).ca hI.rd ?_
    rw [q0n hI.rd]
    (try simp only [rwp,hwR,zA,zB,zC,zD,zE,zF,zG,zH,zI,tkC,a3])
    exact low 4 hk
   | false=>
    (try simp only [rwp,hwR,zA,zB,zC,zD,zE,zF,zG,zH,zI,C132_3])
    exact stop fun h=>by
     have h1:=of_decide_eq_false a2
     have h2:=of_decide_eq_false a3
     rw [q8g,if_neg h1,if_neg h2] at h
     cases h.2
theorem c_expr {T:List Tk} (hT:OkTk T) {b:Nat}:∀ {n:Nat} {r:Rd},Pre T n r→AFunR nrx132 b [] T r (.agg (exC (exprP T n r).1)) (exprP T n r).2
 | 0,r,hp=>c_exprOf hT (fun m h=>by omega) (fun m h=>by omega) hp
 | n+1,r,hp=>c_exprOf hT (fun m h r hr=>by
   have:n=m:=by omega
   subst this
   exact expr_ok hT hr) (fun m h r hr=>by
   have:n=m:=by omega
   subst this
   exact c_expr hT hr) hp
def sHash:ByteArray:=⟨#[35]⟩
def sBar:ByteArray:=⟨#[124]⟩
def q15:ByteArray:=⟨#[58]⟩
def refP (T:List Tk) (r:Rd):Rf×Rd:=
 if isP T sHash (q0j T r) then (⟨q29 T r,q29 T (isR T sHash (q0j T r))⟩,q0j T (isR T sHash (q0j T r)))
 else (⟨q29 T r,⟨#[]⟩⟩,q0j T r)
def q4p (T:List Tk):Nat→List Rf×Rd→List Rf×Rd
 | 0,p=>p
 | f+1,(l,r)=>if isP T sBar r then q4p T f (l++[(refP T (isR T sBar r)).1],(refP T (isR T sBar r)).2) else (l,r)
def relP (T:List Tk) (r:Rd):(Rl×Bool)×Rd:=
 if isP T q0b r then
  ((⟨q29 T (isR T q0b r),(q4p T T.length ([(refP T (q1q T q15 (q0j T (isR T q0b r)))).1],(refP T (q1q T q15 (q0j T (isR T q0b r)))).2)).1,zeroE⟩,true),
   (q4p T T.length ([(refP T (q1q T q15 (q0j T (isR T q0b r)))).1],(refP T (q1q T q15 (q0j T (isR T q0b r)))).2)).2)
 else if isP T q1c r then
  ((⟨q29 T (isR T q1c r),[],(exprP T 12 (q1q T q15 (q0j T (isR T q1c r)))).1⟩,true),(exprP T 12 (q1q T q15 (q0j T (isR T q1c r)))).2)
 else ((⟨⟨#[]⟩,[],zeroE⟩,false),r)
def q3p (T:List Tk):Nat→List Rl×Rd→List Rl×Rd
 | 0,p=>p
 | f+1,(l,r)=>if (relP T r).1.2=true then q3p T f (l++[(relP T r).1.1],(relP T r).2) else (l,(relP T r).2)
def q1y (T:List Tk):Nat→List Ty×Rd→List Ty×Rd
 | 0,p=>p
 | f+1,(l,r)=>if isP T q1w r then
   q1y T f (l++[⟨q29 T (isR T q1w r),(q3p T T.length ([],q0j T (isR T q1w r))).1⟩],(q3p T T.length ([],q0j T (isR T q1w r))).2)
  else (l,r)
def endR (T:List Tk) (r:Rd):Rd:=if r.de=0∧¬ (nxP T r).s=⟨#[]⟩ then q4r (nxP T r) 8 r else r
def rd0:Rd:=⟨0,0,0,0,0⟩
def q6h (T:List Tk):List Ty×AV:=
 if (endR T (q1y T T.length ([],rd0)).2).de=0 then ((q1y T T.length ([],rd0)).1,.agg [.int .i64 0,.int .i64 0,.int .i64 0])
 else ([],.agg [.int .i64 (endR T (q1y T T.length ([],rd0)).2).dl,.int .i64 (endR T (q1y T T.length ([],rd0)).2).dc,.int .i64 (endR T (q1y T T.length ([],rd0)).2).de])
theorem ref_step {T:List Tk} (hT:OkTk T) {r:Rd} {n:Nat} (hp:Pre T n r):StepR T r (refP T r).2 1∧OkF (refP T r).1:=by
 have hn:=q1p hT hp
 have hpn:=hn.pre hp
 unfold refP
 split
 ·rename_i h
  have h1:=q27 hT hpn h (by decide +kernel) (by decide +kernel)
  have hp1:=h1.pre hpn
  have h2:=q1p hT hp1
  exact ⟨((hn.trans h1).trans h2).le (by omega),q2c hT hp.inr,q2c hT hp1.inr⟩
 ·exact ⟨hn,q2c hT hp.inr,Nat.zero_le _⟩
structure RfSt (T:List Tk) (r:Rd) (p:List Rf×Rd):Prop where
 st:StepR T r p.2 p.1.length
 len:p.1.length≤p.2.at'+1
 ok:∀ f∈p.1,OkF f
theorem refs_next {T:List Tk} (hT:OkTk T) {n:Nat} {r0 r:Rd} (hp0:Pre T n r0) {l:List Rf} (h:RfSt T r0 (l,r)) (hi:isP T sBar r=true) :
  RfSt T r0 (l++[(refP T (isR T sBar r)).1],(refP T (isR T sBar r)).2)∧r.at'+1≤(refP T (isR T sBar r)).2.at':=by
 have hp:=h.st.pre hp0
 have h1:=q27 hT hp hi (by decide +kernel) (by decide +kernel)
 obtain ⟨h2,h3⟩:=ref_step hT (h1.pre hp)
 have e1:(isR T sBar r).at'=r.at'+1:=by rw [isR,if_pos hi]
 have h4:=h2.mono
 have h5:=h.len
 dsimp only at h4 h5 e1 h2
 refine ⟨⟨?_,?_,fun f hf=>?_⟩,by omega⟩
 ·have h6:=(h.st.trans h1).trans h2
  exact h6.le (by simp)
 ·simp only [List.length_append,List.length_cons,List.length_nil]
  omega
 ·rcases List.mem_append.1 hf with hf | hf
  ·exact h.ok f hf
  ·rw [List.mem_singleton.1 hf];exact h3
theorem refsL_ok {T:List Tk} (hT:OkTk T) {n:Nat} {r0:Rd} (hp0:Pre T n r0):∀ {f:Nat} {p:List Rf×Rd},RfSt T r0 p→RfSt T r0 (q4p T f p)
 | 0,p,h=>h
 | f+1,(l,r),h=>by
  unfold q4p
  split
  ·rename_i hi
   exact refsL_ok hT hp0 (refs_next hT hp0 h hi).1
  ·exact h
theorem refsL_more {T:List Tk} (hT:OkTk T) {n:Nat} {r0:Rd} (hp0:Pre T n r0):∀ {f g:Nat} {p:List Rf×Rd},RfSt T r0 p→T.length≤f+p.2.at'→T.length≤g+p.2.at'→q4p T f p=q4p T g p
 | 0,g,p,h,h1,h2=>by have h3:p.2.at'<T.length:=h.st.inr;omega
 | f+1,0,p,h,h1,h2=>by have h3:p.2.at'<T.length:=h.st.inr;omega
 | f+1,g+1,(l,r),h,h1,h2=>by
  dsimp only at h1 h2
  unfold q4p
  split
  ·rename_i hi
   obtain ⟨k1,k2⟩:=refs_next hT hp0 h hi
   exact refsL_more hT hp0 k1 (by dsimp only;omega) (by dsimp only;omega)
  ·rfl
theorem rel_ok {T:List Tk} (hT:OkTk T) {r:Rd} (hp:Pre T 12 r):StepR T r (relP T r).2 (if (relP T r).1.2 then rsz (relP T r).1.1 else 0)∧OkR (relP T r).1.1∧((relP T r).1.2=true→r.at'+1≤(relP T r).2.at'):=by
 unfold relP
 split
 ·rename_i hi
  have h1:=q27 hT hp hi (by decide +kernel) (by decide +kernel)
  have hp1:=h1.pre hp
  have h2:=q1p hT hp1
  have hp2:=h2.pre hp1
  have h3:=q43 hT hp2 (s:=q15) (by decide +kernel) (by decide +kernel)
  have hp3:=h3.pre hp2
  obtain ⟨h4,h5⟩:=ref_step hT hp3
  have hR0:RfSt T (q1q T q15 (q0j T (isR T q0b r))) ([(refP T (q1q T q15 (q0j T (isR T q0b r)))).1],(refP T (q1q T q15 (q0j T (isR T q0b r)))).2):=
   ⟨h4,by simp,fun f hf=>by rw [List.mem_singleton.1 hf];exact h5⟩
  have hR:=refsL_ok hT hp3 (f:=T.length) hR0
  generalize q4p T T.length ([(refP T (q1q T q15 (q0j T (isR T q0b r)))).1],(refP T (q1q T q15 (q0j T (isR T q0b r)))).2)=p at hR
  obtain ⟨l,r'⟩:=p
  have hl:=hR.len
  have hin:r'.at'<T.length:=hR.st.inr
  have hTl:=hT.len
  have e1:(isR T q0b r).at'=r.at'+1:=by rw [isR,if_pos hi]
  refine ⟨?_,⟨q2c hT hp1.inr,?_,hR.ok,q6k (Nat.zero_le _) (Nat.zero_le _)⟩,fun _=>?_⟩
  ·have h6:=((h1.trans h2).trans h3).trans hR.st
   refine h6.le ?_
   simp only [if_true,rsz,zeroE,esz_leaf]
   omega
  ·dsimp only at hl ⊢;omega
  ·have:=h2.mono;have:=h3.mono;have:=hR.st.mono;dsimp only at *;omega
 ·split
  ·rename_i hi
   have h1:=q27 hT hp hi (by decide +kernel) (by decide +kernel)
   have hp1:=h1.pre hp
   have h2:=q1p hT hp1
   have hp2:=h2.pre hp1
   have h3:=q43 hT hp2 (s:=q15) (by decide +kernel) (by decide +kernel)
   have hp3:=h3.pre hp2
   have h4:=expr_ok hT hp3
   have e1:(isR T q1c r).at'=r.at'+1:=by rw [isR,if_pos hi]
   refine ⟨?_,⟨q2c hT hp1.inr,by simp,fun f hf=>(by cases hf),h4.ok⟩,fun _=>?_⟩
   ·have h6:=((h1.trans h2).trans h3).trans h4.st
    refine h6.le ?_
    simp only [if_true,rsz,List.length_nil]
    omega
   ·have:=h2.mono;have:=h3.mono;have:=h4.st.mono;dsimp only at *;omega
  ·exact ⟨StepR.refl hp,⟨Nat.zero_le _,by simp,fun f hf=>(by cases hf),q6k (Nat.zero_le _) (Nat.zero_le _)⟩,fun h=>by cases h⟩
set_option maxRecDepth 4000
abbrev c53:AObj:=.cells 171 [.str ⟨#[]⟩,.str ⟨#[]⟩] 2
abbrev c43:AObj:=.cells 53 [.str ⟨#[]⟩,.nils,.int .i64 0,.str ⟨#[]⟩,.str ⟨#[]⟩,.nils] 6
theorem c_ref {T:List Tk} (hT:OkTk T) {n b:Nat} {r:Rd} (hp:Pre T n r):AFunR nrx131 b [] T r (.agg (rfC (refP T r).1)) (refP T r).2:=by
 intro S h
 refine wx131 ?_
 unfold Bx131
 intro b2 hb2
 have n1:b2≠b:=q0e hb2 h
 have hS0:sget (supd S b2 c53) b=some (rdO T r):=by rw [q01,if_neg n1];exact h
 have hn:=q1p hT hp
 have hpn:=hn.pre hp
 (try simp only [rwp,hwR,zA,zB,zC,zD,zE,zF,zG,zH,zI])
 refine (c_name hT hp.inr).ca hS0 ?_
 (try simp only [rwp,hwR,zA,zB,zC,zD,zE,zF,zG,zH,zI])
 intro b3 hb3
 have n2:b3≠b:=q0e hb3 q16
 have n3:b3≠b2:=q0e hb3 (x:=c53) (by rw [q01,if_neg (Ne.symm n1),q01,if_pos rfl])
 have k3:sget S b3=none:=by rw [q01,if_neg (Ne.symm n2),q01,if_neg (Ne.symm n3)] at hb3;exact hb3
 (try simp only [rwp,hwR,zA,zB,zC,zD,zE,zF,zG,zH,zI])
 have hrd:∀ o,sget (supd (supd (supd S b2 c53) b (rdO T (q0j T r))) b3 o) b=some (rdO T (q0j T r)):=fun o=>by rw [q01,if_neg n2,q01,if_pos rfl]
 refine (c_is hT hpn.inr sHash).ca (hrd _) ?_
 have fin:∀ (f:Rf) (r':Rd) (S2:q00),refP T r=(f,r')→q0i S2 b3=some (171,rfC f,2)→q0i S2 b2=some (171,[.str ⟨#[]⟩,.str ⟨#[]⟩],2)→(∀ x,b2≠x→b3≠x→sget S2 x=sget (supd S b (rdO T r')) x) →
   C131_1 (fun ae S'=>ae=.ret (.agg (rfC (refP T r).1))∧S'=supd S b (rdO T (refP T r).2)) (.ptr b2 0) (.ptr b3 0) S2:=by
  intro f r' S2 he h3 h2 hS2
  rw [he]
  unfold C131_1
  have hsub:∀ o,Sub (supd S b (rdO T r')) (sdel (supd S2 b2 o) b2):=fun o x y hx=>by
   have e2:b2≠x:=by rintro rfl;rw [q01,if_neg (Ne.symm n1),hb2] at hx;cases hx
   have e3:b3≠x:=by rintro rfl;rw [q01,if_neg (Ne.symm n2),k3] at hx;cases hx
   rw [q0a,if_neg e2,q01,if_neg e2,hS2 x e2 e3]
   exact hx
  simp only [rfC] at h3
  (try simp only [rwp,hwR,zA,zB,zC,zD,zE,zF,zG,zH,zI,q07 h3,h2])
  refine q0y _ (hsub _) ?_
  (try simp only [rwp,hwR,zA,zB,zC,zD,zE,zF,zG,zH,zI,rfC])
 cases hi:isP T sHash (q0j T r) with
 | true=>
  have h1:=q27 hT hpn hi (by decide +kernel) (by decide +kernel)
  have hp1:=h1.pre hpn
  (try simp only [rwp,hwR,zA,zB,zC,zD,zE,zF,zG,zH,zI])
  refine (c_name hT hp1.inr).ca q16 ?_
  have ob3:∀ X cs o,q0i (supd (supd X b3 (.cells 171 cs 2)) b o) b3=some (171,cs,2):=fun X cs o=>by rw [q0l (Ne.symm n2)];exact q0h
  (try simp only [rwp,hwR,zA,zB,zC,zD,zE,zF,zG,zH,zI,ob3])
  refine fin ⟨q29 T r,q29 T (isR T sHash (q0j T r))⟩ (q0j T (isR T sHash (q0j T r))) _ ?_ q0h ?_ fun x e2 e3=>?_
  ·rw [refP,if_pos hi]
  ·rw [q0l n3,q0l (Ne.symm n1),q0l n3,q0l (Ne.symm n1)];exact q0h
  ·simp only [q01,if_neg e2,if_neg e3]
   by_cases hb:b=x
   ·subst hb;simp
   ·simp [hb]
 | false=>
  rw [q86 hi]
  (try simp only [rwp,hwR,zA,zB,zC,zD,zE,zF,zG,zH,zI])
  refine fin ⟨q29 T r,⟨#[]⟩⟩ (q0j T r) _ ?_ ?_ ?_ fun x e2 e3=>?_
  ·rw [refP,if_neg (by rw [hi];simp)]
  ·rw [q0l (Ne.symm n2)];exact q0h
  ·rw [q0l (Ne.symm n1),q0l n3,q0l (Ne.symm n1)];exact q0h
  ·simp only [q01,if_neg e2,if_neg e3]
   by_cases hb:b=x
   ·subst hb;simp
   ·simp [hb]
structure RlI (S:q00) (b b2 b4:Nat) (T:List Tk) (name:ByteArray) (p:List Rf×Rd) (S':q00):Prop where
 rd:sget S' b=some (rdO T p.2)
 c2:sget S' b2=some c43
 c4:∃ v,sget S' b4=some (.cells 53 [.str name,v,.int .i64 0,.str ⟨#[]⟩,.str ⟨#[]⟩,.nils] 6)∧LstN (sdel S b) S' 171 2 v (p.1.map rfC)∧q1b v b∧q1b v b2∧q1b v b4
 sub:Sub (sdel S b) S'
theorem LstN.base2 {S S':q00} {b t sz:Nat} {v:AV} {rows:List (List AV)} {o:AObj} (h:LstN (sdel S b) S' t sz v rows) (ha:q1b v b):LstN (supd S b o) S' t sz v rows:=by
 obtain ⟨hr,h⟩:=h
 refine ⟨hr,?_⟩
 rcases h with h | ⟨c,cap,rfl,h1,h2⟩
 ·exact .inl h
 ·refine .inr ⟨c,cap,rfl,?_,h2⟩
  have:=ha c 0 _ _ rfl
  rw [q0a,if_neg this] at h1
  rw [q01,if_neg this]
  exact h1
theorem q3d {c:Nat}:q1b .nils c:=fun b off n cap h=>by cases h
theorem kpW_one {S S':q00} {Y:Prop} {b off:Nat} (h:sget S' b=sget S b) (hY:Y):kpW [.ptr b off] S S' Y:=by
 refine ⟨fun v hv c hc=>?_,hY⟩
 rw [List.mem_singleton] at hv
 subst hv
 simp [blk] at hc
 subst hc
 exact h
theorem RlI.more {S S1:q00} {b b2 b4:Nat} {T:List Tk} {name:ByteArray} {l:List Rf} {r r2:Rd} (h:RlI S b b2 b4 T name (l,r) S1) (n1:b2≠b) (n2:b4≠b) (n3:b4≠b2) (k2:sget S b2=none) (k4:sget S b4=none) (hlen:l.length≤100000) (f:Rf) {v:AV} (hv:sget S1 b4=some (.cells 53 [.str name,v,.int .i64 0,.str ⟨#[]⟩,.str ⟨#[]⟩,.nils] 6)) {K:q00→Prop} (hK:∀ S3,RlI S b b2 b4 T name (l++[f],r2) S3→K S3) :
  apW (supd S1 b (rdO T r2)) 171 2 32 v (.sl 2 [[.str f.ty,.str f.rl]]) fun v' S2=>soW (q0i S2 b4) S2 1 b4 1 v' K:=by
 obtain ⟨hrd,hc2,⟨v0,hv0,hl,a1,a2,a4⟩,hsub⟩:=h
 rw [hv] at hv0
 cases hv0
 dsimp only at hl hrd
 have hb0:sget (sdel S b) b=none:=by rw [q0a,if_pos rfl]
 have hb4:sget (sdel S b) b4=none:=by rw [q0a,if_neg (Ne.symm n2)];exact k4
 refine (hl.upd a1 (rdO T r2)).app (hsub.supd hb0) (xs:=[[.str f.ty,.str f.rl]]) (fun r hr=>by rw [List.mem_singleton] at hr;subst hr;rfl) rfl (by simp;omega) ?_
 intro v' S2 h1 h2 h3
 obtain ⟨q1,q2⟩:=h3 b (rdO T r2) (by rw [q01,if_pos rfl]) a1
 obtain ⟨q3,q4⟩:=h3 b4 _ (by rw [q01,if_neg (Ne.symm n2)];exact hv) a4
 obtain ⟨q5,q6⟩:=h3 b2 _ (by rw [q01,if_neg (Ne.symm n1)];exact hc2) a2
 rw [objAt_some.2 q3,q35]
 have hone:=h2.one
 have hac:q08 v'=[v']:=by cases v'<;>first | rfl | cases hone
 rw [hac]
 refine ⟨rfl,by simp,by simp [ones,hone],hK _ ⟨?_,?_,⟨v',?_,?_,q2,q6,q4⟩,?_⟩⟩
 ·rw [q01,if_neg n2];exact q1
 ·rw [q01,if_neg n3];exact q5
 ·rw [q01,if_pos rfl];rfl
 ·simpa [rfC] using h2.upd q4 _
 ·exact h1.supd hb4
theorem sub_del {S:q00} {b:Nat} {T:List Tk} {S2:q00} {r':Rd} {b2:Nat} {o:AObj} (h:Sub (sdel S b) S2) (hb:sget S2 b=some (rdO T r')) (k2:sget S b2=none) (n1:b2≠b):Sub (supd S b (rdO T r')) (supd S2 b2 o):=by
 intro x y hx
 have e2:b2≠x:=by rintro rfl;rw [q01,if_neg (Ne.symm n1),k2] at hx;cases hx
 rw [q01,if_neg e2]
 rw [q01] at hx
 by_cases hbx:b=x
 ·subst hbx;rw [if_pos rfl] at hx;rw [hb];exact hx
 ·rw [if_neg hbx] at hx
  exact h x y (by rw [q0a,if_neg hbx];exact hx)
theorem c_rel {T:List Tk} (hT:OkTk T) {b:Nat} {r:Rd} (hp:Pre T 12 r):AFunR nrx86 b [] T r (.tup [.agg (rlC (relP T r).1.1),.bool (relP T r).1.2]) (relP T r).2:=by
 intro S h
 have hTl:=hT.len
 refine wx86 ?_
 unfold Bx86
 intro b2 hb2
 have n1:b2≠b:=q0e hb2 h
 (try simp only [rwp,hwR,zA,zB,zC,zD,zE,zF,zG,zH,zI])
 intro b4 hb4
 have n2:b4≠b:=q0e hb4 (x:=rdO T r) (by rw [q01,if_neg n1];exact h)
 have n3:b4≠b2:=q0e hb4 (x:=c43) (by rw [q01,if_pos rfl])
 have k4:sget S b4=none:=by rw [q01,if_neg (Ne.symm n3)] at hb4;exact hb4
 have m1:=Ne.symm n1
 have m2:=Ne.symm n2
 have m3:=Ne.symm n3
 (try simp only [rwp,hwR,zA,zB,zC,zD,zE,zF,zG,zH,zI])
 have fin:∀ (x:Rl) (ok:Bool) (r':Rd) (S2:q00) (n:ByteArray) (v:AV) (k:Int) (a o:ByteArray) (w:AV),relP T r=((x,ok),r')→sget S2 b=some (rdO T r')→Sub (sdel S b) S2 →
   Frs (supd S b (rdO T r')) (supd S2 b2 (.cells 53 [.str n,v,.int .i64 k,.str a,.str o,w] 6)) [.str n,v,.int .i64 k,.str a,.str o,w] (rlC x) →
   rtW [.cell (.ptr b2 0) 6 true,.tmp (.bool ok)] (fun ae S'=>ae=.ret (.tup [.agg (rlC (relP T r).1.1),.bool (relP T r).1.2])∧S'=supd S b (rdO T (relP T r).2)) (supd S2 b2 (.cells 53 [.str n,v,.int .i64 k,.str a,.str o,w] 6)):=by
  intro x ok r' S2 n v k a o w he hb hsub hfr
  rw [he]
  refine q4y (supd S b (rdO T r')) (.tup [.agg (rlC x),.bool ok]) (sub_del hsub hb hb2 n1) ?_ ⟨rfl,rfl⟩
  (try simp only [rwp,hwR,zA,zB,zC,zD,zE,zF,zG,zH,zI])
  exact .tu (.cons (.ag hfr) (.cons (.same _) .nil))
 have hS0:sget (supd (supd S b2 c43) b4 c43) b=some (rdO T r):=by rw [q01,if_neg n2,q01,if_neg n1];exact h
 have hsub0:Sub (sdel S b) (supd (supd S b2 c43) b4 c43):=by
  intro x y hx
  have hbx:b≠x:=by rintro rfl;rw [q0a,if_pos rfl] at hx;cases hx
  rw [q0a,if_neg hbx] at hx
  rw [q01,if_neg (q0e k4 hx),q01,if_neg (q0e hb2 hx)]
  exact hx
 refine (c_is hT hp.inr q0b).ca hS0 ?_
 cases hi:isP T q0b r with
 | true=>
  have h1:=q27 hT hp hi (by decide +kernel) (by decide +kernel)
  have hp1:=h1.pre hp
  have h2:=q1p hT hp1
  have hp2:=h2.pre hp1
  have h3:=q43 hT hp2 (s:=q15) (by decide +kernel) (by decide +kernel)
  have hp3:=h3.pre hp2
  obtain ⟨h4,h5⟩:=ref_step hT hp3
  (try simp only [rwp,hwR,zA,zB,zC,zD,zE,zF,zG,zH,zI])
  refine (c_name hT hp1.inr).ca q16 ?_
  have ob4:∀ X cs o,q0i (supd (supd X b4 (.cells 53 cs 6)) b o) b4=some (53,cs,6):=fun X cs o=>by rw [q0l m2];exact q0h
  (try simp only [rwp,hwR,zA,zB,zC,zD,zE,zF,zG,zH,zI,ob4])
  have hrd:∀ X cs r',sget (supd (supd X b (rdO T r')) b4 (.cells 53 cs 6)) b=some (rdO T r'):=fun X cs r'=>by rw [q01,if_neg n2];exact q16
  refine (c_must hT hp2.inr q15).ca (hrd _ _ _) ?_
  (try simp only [rwp,hwR,zA,zB,zC,zD,zE,zF,zG,zH,zI,q07 (ob4 _ _ _)])
  refine (c_ref hT hp3).ca q16 ?_
  refine kpW_one (by rw [q01,if_neg m2]) ?_
  refine ⟨⟨rfl,rfl⟩,?_⟩
  have hI0:RlI S b b2 b4 T (q29 T (isR T q0b r)) ([],q1q T q15 (q0j T (isR T q0b r)))
    (supd (supd (supd (supd (supd S b2 c43) b4 c43) b (rdO T (q0j T (isR T q0b r)))) b4 (.cells 53 [.str (q29 T (isR T q0b r)),.nils,.int .i64 0,.str ⟨#[]⟩,.str ⟨#[]⟩,.nils] 6)) b (rdO T (q1q T q15 (q0j T (isR T q0b r))))):=by
   refine ⟨q16,?_,⟨.nils,?_,.nil,q3d,q3d,q3d⟩,?_⟩
   ·simp [q01,m1,m2,m3,n1,n2,n3]
   ·simp [q01,m1,m2,m3,n1,n2,n3]
   ·have hb0:sget (sdel S b) b=none:=by rw [q0a,if_pos rfl]
    have hb4':sget (sdel S b) b4=none:=by rw [q0a,if_neg m2];exact k4
    exact ((hsub0.supd hb0).supd hb4').supd hb0
  have hrel:relP T r=((⟨q29 T (isR T q0b r),(q4p T T.length ([(refP T (q1q T q15 (q0j T (isR T q0b r)))).1],(refP T (q1q T q15 (q0j T (isR T q0b r)))).2)).1,zeroE⟩,true),(q4p T T.length ([(refP T (q1q T q15 (q0j T (isR T q0b r)))).1],(refP T (q1q T q15 (q0j T (isR T q0b r)))).2)).2):=by
   rw [relP,if_pos hi]
  refine hI0.more n1 n2 n3 hb2 k4 (by simp) (refP T (q1q T q15 (q0j T (isR T q0b r)))).1 (r2:=(refP T (q1q T q15 (q0j T (isR T q0b r)))).2) (v:=.nils) ?_ ?_
  ·rw [q01,if_neg m2,q01,if_pos rfl]
  clear hI0
  intro S3 hI
  generalize q29 T (isR T q0b r)=nm at hI hrel
  have hR0:RfSt T (q1q T q15 (q0j T (isR T q0b r))) ([(refP T (q1q T q15 (q0j T (isR T q0b r)))).1],(refP T (q1q T q15 (q0j T (isR T q0b r)))).2):=
   ⟨h4,by simp,fun f hf=>by rw [List.mem_singleton.1 hf];exact h5⟩
  generalize q1q T q15 (q0j T (isR T q0b r))=r3 at hI hrel hp3 hR0
  rw [List.nil_append] at hI
  generalize ([(refP T r3).1],(refP T r3).2)=p0 at hI hrel hR0
  refine LoopP.introS (fun _:List Rf×Rd=>[(0,.ptr b 0),(2,.ptr b2 0),(4,.ptr b4 0)])
   (fun p S'=>RlI S b b2 b4 T nm p S'∧RfSt T r3 p∧q4p T T.length p=q4p T T.length p0) (fun p=>T.length-p.2.at') p0 ⟨hI,hR0,rfl⟩ rfl ?_
  clear hI hR0
  rintro ⟨l,r4⟩ S4 ⟨hI,hR,hf⟩ q hq
  have hp4:=hR.st.pre hp3
  have hin:r4.at'<T.length:=hp4.inr
  have hll:=hR.len
  dsimp only at hll
  have hI':=hI
  obtain ⟨krd,kc2,⟨v,kv,klst,a1,a2,a4⟩,ksub⟩:=hI'
  dsimp only at krd klst
  (try simp only [rwp,hwR,zA,zB,zC,zD,zE,zF,zG,zH,zI,C86_1])
  refine (c_is hT hp4.inr sBar).ca krd ?_
  cases hb:isP T sBar r4 with
  | true=>
   obtain ⟨hR2,hmu⟩:=refs_next hT hp3 hR hb
   have h6:=q27 hT hp4 hb (by decide +kernel) (by decide +kernel)
   have hp6:=h6.pre hp4
   have hob:q0i (supd S4 b (rdO T (isR T sBar r4))) b4=some (53,[.str nm,v,.int .i64 0,.str ⟨#[]⟩,.str ⟨#[]⟩,.nils],6):=by rw [q0l m2];exact objAt_some.2 kv
   have hf2:q4p T T.length (l++[(refP T (isR T sBar r4)).1],(refP T (isR T sBar r4)).2)=q4p T T.length p0:=by
    rw [← hf]
    obtain ⟨m,hm⟩:∃ m,T.length=m+1:=⟨T.length-1,by omega⟩
    conv=>rhs;rw [hm,q4p,if_pos hb]
    exact refsL_more hT hp3 hR2 (by dsimp only;omega) (by dsimp only;omega)
   have hI2:RlI S b b2 b4 T nm (l,isR T sBar r4) (supd S4 b (rdO T (isR T sBar r4))):=by
    refine ⟨q16,by rw [q01,if_neg m1];exact kc2,⟨v,by rw [q01,if_neg m2];exact kv,klst.upd a1 _,a1,a2,a4⟩,ksub.supd (by rw [q0a,if_pos rfl])⟩
   (try simp only [rwp,hwR,zA,zB,zC,zD,zE,zF,zG,zH,zI,q07 hob])
   refine (c_ref hT hp6).ca q16 ?_
   refine kpW_one (by rw [q01,if_neg m2]) ?_
   refine ⟨⟨rfl,rfl⟩,?_⟩
   refine hI2.more n1 n2 n3 hb2 k4 (by omega) (refP T (isR T sBar r4)).1 (r2:=(refP T (isR T sBar r4)).2) (v:=v) ?_ ?_
   ·rw [q01,if_neg m2];exact kv
   intro S5 hI5
   exact q09 rfl (hq (l++[(refP T (isR T sBar r4)).1],(refP T (isR T sBar r4)).2) S5 ⟨hI5,hR2,hf2⟩ (by dsimp only;omega))
  | false=>
   rw [q86 hb,q0n krd]
   have hstop:q4p T T.length (l,r4)=(l,r4):=by
    cases T.length with
    | zero=>rfl
    | succ m=>rw [q4p,if_neg (by rw [hb];simp)]
   rw [hstop] at hf
   rw [← hf] at hrel
   have ob2:=objAt_some.2 kc2
   have ob4':=objAt_some.2 kv
   have hone:=klst.one
   have hac:q08 v=[v]:=by cases v<;>first | rfl | cases hone
   (try simp only [rwp,hwR,zA,zB,zC,zD,zE,zF,zG,zH,zI,q07 ob4',ob2,q18])
   refine ⟨hone,fin ⟨nm,l,zeroE⟩ true r4 S4 nm v 0 _ _ _ hrel krd ksub ?_⟩
   rw [q0g]
   exact .cons (.same _) (.cons (Fr.lst ((klst.upd a2 _).base2 a1)) (.cons (.same _) (.cons (.same _) (.cons (.same _) (.cons (.nils 4) .nil)))))
 | false=>
  rw [q86 hi,q0n hS0]
  (try simp only [rwp,hwR,zA,zB,zC,zD,zE,zF,zG,zH,zI])
  refine (c_is hT hp.inr q1c).ca hS0 ?_
  cases hd:isP T q1c r with
  | true=>
   have h1:=q27 hT hp hd (by decide +kernel) (by decide +kernel)
   have hp1:=h1.pre hp
   have h2:=q1p hT hp1
   have hp2:=h2.pre hp1
   have h3:=q43 hT hp2 (s:=q15) (by decide +kernel) (by decide +kernel)
   have hp3:=h3.pre hp2
   (try simp only [rwp,hwR,zA,zB,zC,zD,zE,zF,zG,zH,zI])
   refine (c_name hT hp1.inr).ca q16 ?_
   have ob4:∀ X cs o,q0i (supd (supd X b4 (.cells 53 cs 6)) b o) b4=some (53,cs,6):=fun X cs o=>by rw [q0l m2];exact q0h
   (try simp only [rwp,hwR,zA,zB,zC,zD,zE,zF,zG,zH,zI,ob4])
   have hrd:∀ X cs r',sget (supd (supd X b (rdO T r')) b4 (.cells 53 cs 6)) b=some (rdO T r'):=fun X cs r'=>by rw [q01,if_neg n2];exact q16
   refine (c_must hT hp2.inr q15).ca (hrd _ _ _) ?_
   (try simp only [rwp,hwR,zA,zB,zC,zD,zE,zF,zG,zH,zI])
   refine (c_expr hT hp3).ca q16 ?_
   have hrel:relP T r=((⟨q29 T (isR T q1c r),[],(exprP T 12 (q1q T q15 (q0j T (isR T q1c r)))).1⟩,true),(exprP T 12 (q1q T q15 (q0j T (isR T q1c r)))).2):=by
    rw [relP,if_neg (by rw [hi];simp),if_pos hd]
   generalize q29 T (isR T q1c r)=nm at hrel ⊢
   generalize exprP T 12 (q1q T q15 (q0j T (isR T q1c r)))=pe at hrel ⊢
   obtain ⟨e,r5⟩:=pe
   dsimp only at hrel ⊢
   rw [q0u]
   have hb0:sget (sdel S b) b=none:=by rw [q0a,if_pos rfl]
   have hb4':sget (sdel S b) b4=none:=by rw [q0a,if_neg m2];exact k4
   have q1:∀ X cs,sget (supd (supd X b4 (.cells 53 cs 6)) b (rdO T r5)) b=some (rdO T r5):=fun X cs=>q16
   have q2:q0i (supd (supd (supd (supd (supd S b2 c43) b4 c43) b (rdO T (q0j T (isR T q1c r)))) b4 (.cells 53 [.str nm,.nils,.int .i64 0,.str ⟨#[]⟩,.str ⟨#[]⟩,.nils] 6)) b (rdO T r5)) b4=some (53,[.str nm,.nils,.int .i64 0,.str ⟨#[]⟩,.str ⟨#[]⟩,.nils],6):=ob4 _ _ _
   have q3:q0i (supd (supd (supd (supd (supd S b2 c43) b4 c43) b (rdO T (q0j T (isR T q1c r)))) b4 (.cells 53 [.str nm,.nils,.int .i64 0,.str ⟨#[]⟩,.str ⟨#[]⟩,.nils] 6)) b (rdO T r5)) b2=some (53,[.str ⟨#[]⟩,.nils,.int .i64 0,.str ⟨#[]⟩,.str ⟨#[]⟩,.nils],6):=by
    refine objAt_some.2 ?_
    simp [q01,m1,m2,m3,n1,n2,n3]
   have q4:Sub (sdel S b) (supd (supd (supd (supd (supd S b2 c43) b4 c43) b (rdO T (q0j T (isR T q1c r)))) b4 (.cells 53 [.str nm,.nils,.int .i64 0,.str ⟨#[]⟩,.str ⟨#[]⟩,.nils] 6)) b (rdO T r5)):=((hsub0.supd hb0).supd hb4').supd hb0
   have q1:=q1 (supd (supd (supd S b2 c43) b4 c43) b (rdO T (q0j T (isR T q1c r)))) [.str nm,.nils,.int .i64 0,.str ⟨#[]⟩,.str ⟨#[]⟩,.nils]
   generalize supd (supd (supd (supd (supd S b2 c43) b4 c43) b (rdO T (q0j T (isR T q1c r)))) b4 (.cells 53 [.str nm,.nils,.int .i64 0,.str ⟨#[]⟩,.str ⟨#[]⟩,.nils] 6)) b (rdO T r5)=S5 at q1 q2 q3 q4 ⊢
   (try simp only [rwp,hwR,zA,zB,zC,zD,zE,zF,zG,zH,zI,q2,q3,q0f,q18,if_neg n3])
   refine fin ⟨nm,[],e⟩ true r5 _ nm .nils e.kind _ _ _ hrel (by rw [q01,if_neg n2];exact q1) (q4.supd hb4') ?_
   rw [q0g]
   exact .cons (.same _) (.cons (.nils 2) (.cons (.same _) (.cons (.same _) (.cons (.same _) (.cons (.same _) .nil)))))
  | false=>
   rw [q86 hd,q0n hS0]
   have hrel:relP T r=((⟨⟨#[]⟩,[],zeroE⟩,false),r):=by
    rw [relP,if_neg (by rw [hi];simp),if_neg (by rw [hd];simp)]
   (try simp only [rwp,hwR,zA,zB,zC,zD,zE,zF,zG,zH,zI,if_neg n3,if_neg m3])
   refine fin ⟨⟨#[]⟩,[],zeroE⟩ false r _ _ .nils 0 _ _ _ hrel hS0 hsub0 ?_
   rw [q0g]
   exact .cons (.same _) (.cons (.nils 2) (.cons (.same _) (.cons (.same _) (.cons (.same _) (.cons (.nils 4) .nil)))))
set_option maxRecDepth 4000
def bl (s:ByteArray):List UInt8:=s.data.toList
def mkB (l:List UInt8):ByteArray:=⟨l.toArray⟩
theorem mkB_bl (s:ByteArray):mkB (bl s)=s:=by cases s;rfl
theorem q5e (s:ByteArray):(bl s).length=s.size:=by cases s;simp [bl,ByteArray.size]
theorem bl_extract (s:ByteArray) (i j:Nat):bl (s.extract i j)=((bl s).take j).drop i:=by
 unfold bl
 rw [ByteArray.data_extract,Array.toList_extract,List.extract_eq_take_drop,List.drop_take]
theorem q5i (s:ByteArray) (i j:Nat):s.extract i j=mkB (((bl s).take j).drop i):=by rw [← bl_extract,mkB_bl]
theorem bl_get (s:ByteArray) (i:Nat):s[i]?=(bl s)[i]?:=q76 s i
def q2z:Nat→List UInt8→Nat
 | _,[]=>0
 | i,c :: r=>if atN i c.toNat then q2z (i+1) r+1 else 0
theorem wordL_le:∀ {l:List UInt8} {i:Nat},q2z i l≤l.length
 | [],i=>by simp [q2z]
 | c :: r,i=>by
  unfold q2z
  have:=wordL_le (l:=r) (i:=i+1)
  split
  ·simp;omega
  ·simp
theorem c_word {s:ByteArray} (hs:s.size≤1125899906842624):AFun PG nrx128 [.str s] (.int .i64 (q2z 0 (bl s))):=by
 intro S
 refine wx128 ?_
 unfold Bx128
 refine LoopP.introS (fun i:Nat=>[(0,.str s),(3,.int .i64 i)]) (fun i S'=>S'=S∧i≤s.size∧q2z 0 (bl s)=i+q2z i ((bl s).drop i)) (fun i=>s.size-i) 0 ⟨rfl,by omega,by simp⟩ rfl ?_
 rintro i S' ⟨rfl,hi,hf⟩ r hr
 cases h0:decide ((i:Int)<s.size) with
 | false=>
  have hd:(bl s).drop i=[]:=List.drop_of_length_le (by rw [q5e];have:=of_decide_eq_false h0;omega)
  rw [hd,q2z] at hf
  (try simp only [rwp,hwR,zA,zB,zC,zD,zE,zF,zG,zH,zI,C128_1,h0,C128_2,C128_3,C128_4,C128_5,C128_6,C128_7,C128_8,C128_9,C128_10,C128_11])
  exact q02 ⟨by rw [hf];rfl,rfl⟩
 | true=>
  have hlt:=of_decide_eq_true h0
  obtain ⟨b,hb⟩:=q4i hlt
  have hd:=q0z (l:=bl s) (by rw [← bl_get];exact hb)
  rw [hd,q2z] at hf
  have ea:atN i b.toNat=((decide (97≤(b.toNat:Int))&&decide ((b.toNat:Int)≤122))||(decide (0<(i:Int))&&(decide ((b.toNat:Int)=95)||(decide (48≤(b.toNat:Int))&&decide ((b.toNat:Int)≤57))))):=by
   have:(!decide ((i:Int)=0))=decide (0<(i:Int)):=by rw [← decide_not];congr 1;exact propext (by omega)
   simp only [atN,q5o,digitN,this]
  have good:atN i b.toNat=true→r [(0,.str s),(3,.int .i64 ((i:Int)+1))] S':=fun h=>by
   rw [if_pos h] at hf
   exact hr (i+1) _ ⟨rfl,by omega,by omega⟩ (by omega)
  have bad:atN i b.toNat=false→q2z 0 (bl s)=i:=fun h=>by
   rw [if_neg (by rw [h];simp)] at hf
   exact hf
  cases h1:decide (97≤(b.toNat:Int))<;>cases h2:decide ((b.toNat:Int)≤122)<;>cases h3:decide (0<(i:Int))<;>cases h4:decide ((b.toNat:Int)=95)<;>cases h5:decide (48≤(b.toNat:Int))<;>cases h6:decide ((b.toNat:Int)≤57) <;>
   simp only [h1,h2,h3,h4,h5,h6,Bool.true_and,Bool.false_and,Bool.and_true,Bool.and_false,Bool.or_true,Bool.true_or,Bool.or_false,Bool.false_or,Bool.not_true,Bool.not_false] at ea <;>
   (try simp only [rwp,hwR,zA,zB,zC,zD,zE,zF,zG,zH,zI,C128_1,h0,hb,C128_2,C128_3,C128_4,C128_5,C128_6,C128_7,C128_8,C128_9,C128_10,C128_11,h1,h2,h3,h4,h5,h6]) <;>
   first
    | exact q02 ⟨by rw [bad ea],rfl⟩
    | ((simp (disch:=omega) only [q03]);exact q09 rfl (good ea))
set_option maxRecDepth 4000
def signs:ByteArray:=⟨#[58,124,35,43,45,38,46,40,41]⟩
def signF (c:UInt8):ByteArray:=if c∈[58,124,35,43,45,38,46,40,(41:UInt8)] then mkB [c] else ⟨#[63]⟩
theorem signs_get {i:Nat} {c:UInt8} (h:signs[i]?=some c):c∈[58,124,35,43,45,38,46,40,(41:UInt8)]∧signs.extract i (i+1)=mkB [c]:=by
 rw [bl_get] at h
 have hm:=List.mem_of_getElem? h
 refine ⟨hm,?_⟩
 rw [q5i,List.drop_take,show i+1-i=1 by omega,q0z h]
 rfl
theorem c_sign (c:UInt8):AFun PG nrx129 [.int .u8 c.toNat] (.str (signF c)):=by
 intro S
 refine wx129 ?_
 unfold Bx129
 refine LoopP.introS (fun i:Nat=>[(0,.int .u8 c.toNat),(3,.str signs),(4,.int .i64 i)]) (fun i S'=>S'=S∧i≤9∧∀ j b,j<i→signs[j]?=some b→b≠c) (fun i=>9-i) 0 ⟨rfl,by omega,by omega⟩ rfl ?_
 rintro i S' ⟨rfl,hi,hn⟩ r hr
 have hsz:signs.size=9:=rfl
 (try simp only [rwp,hwR,zA,zB,zC,zD,zE,zF,zG,zH,zI,C129_1,hsz])
 (refine q04 (fun hlt=>?_) (fun hlt=>?_)<;>(try simp only [hlc] at hlt))
 ·obtain ⟨b,hb⟩:=q4i (s:=signs) (i:=i) (by rw [hsz];omega)
  obtain ⟨h1,h2⟩:=signs_get hb
  (try simp only [rwp,hwR,zA,zB,zC,zD,zE,zF,zG,zH,zI,hb])
  (refine q04 (fun he=>?_) (fun he=>?_)<;>(try simp only [hlc] at he))
  ·have hbc:b=c:=UInt8.toNat_inj.1 (by omega)
   subst hbc
   (simp (disch:=omega) only [q03])
   (try simp only [rwp,hwR,zA,zB,zC,zD,zE,zF,zG,zH,zI,hsz])
   refine ⟨by omega,by omega,?_⟩
   rw [show ((i:Int)+1).toNat=i+1 by omega,h2]
   exact q02 ⟨by rw [signF,if_pos h1],rfl⟩
  ·(simp (disch:=omega) only [q03])
   refine q09 rfl (hr (i+1) _ ⟨rfl,by omega,fun j x hj hx=>?_⟩ (by omega))
   rcases Nat.lt_succ_iff_lt_or_eq.1 hj with h | rfl
   ·exact hn j x h hx
   ·rw [hb] at hx;cases hx
    rintro rfl
    exact he rfl
 ·refine q02 ⟨?_,rfl⟩
  rw [signF,if_neg]
  intro hm
  obtain ⟨j,hj⟩:=List.getElem?_of_mem hm
  have h9:signs[j]?=some c:=by rw [bl_get];exact hj
  exact hn j c (by have:=q75 h9;omega) h9 rfl
def tokL:Nat→List UInt8→Nat→Nat→List Tk
 | 0,_,_,_=>[]
 | _+1,[],line,col=>[⟨⟨#[]⟩,line,col⟩]
 | f+1,c :: r,line,col=>
  if c.toNat=32∨c.toNat=9∨c.toNat=10 then tokL f r (if c.toNat=10 then line+1 else line) (if c.toNat=10 then 1 else col+1)
  else if q2z 0 (c :: r)=0 then (if signF c=⟨#[63]⟩ then [⟨⟨#[63]⟩,line,col⟩] else ⟨signF c,line,col⟩ :: tokL f r line (col+1))
  else ⟨mkB ((c :: r).take (q2z 0 (c :: r))),line,col⟩ :: tokL f ((c :: r).drop (q2z 0 (c :: r))) line (col+q2z 0 (c :: r))
def tokT (s:ByteArray):List Tk:=tokL (s.size+1) (bl s) 1 1
theorem c_Tokens {s:ByteArray} (hs:s.size≤4096):AFun PG nrx83 [.str s] (.sl 3 ((tokT s).map tkC)):=by
 intro S
 refine wx83 ?_
 unfold Bx83
 refine LoopP.introS (fun p:AV×Nat×Nat×Nat=>[(0,.str s),(3,p.1),(4,.int .i64 p.2.1),(5,.int .i64 p.2.2.1),(6,.int .i64 p.2.2.2)])
  (fun p S'=>p.2.2.2≤s.size∧p.2.1≤p.2.2.2+1∧p.2.2.1≤p.2.2.2+1∧Sub S S'∧∃ (d:List Tk) (f:Nat),s.size-p.2.2.2<f∧d.length≤p.2.2.2∧LstN S S' 149 3 p.1 (d.map tkC)∧d++tokL f ((bl s).drop p.2.2.2) p.2.1 p.2.2.1=tokT s) (fun p=>s.size-p.2.2.2) (.nils,1,1,0)
  ⟨Nat.zero_le _,Nat.le_refl _,Nat.le_refl _,Sub.refl S,[],s.size+1,by dsimp only;omega,by simp,.nil,rfl⟩ rfl ?_
 rintro ⟨v,line,col,i⟩ S1 ⟨hi,hln,hcl,hs1,d,f,hf,hd,hl,ht⟩ q hq
 dsimp only at hi hln hcl hf hd hl ht
 obtain ⟨f,rfl⟩:∃ m,f=m+1:=⟨f-1,by omega⟩
 (try simp only [rwp,hwR,zA,zB,zC,zD,zE,zF,zG,zH,zI,C83_1])
 (refine q04 (fun hlt=>?_) (fun hlt=>?_)<;>(try simp only [hlc] at hlt))
 ·obtain ⟨c,hc⟩:=q4i hlt
  have hdc:=q0z (l:=bl s) (by rw [← bl_get];exact hc)
  rw [hdc,tokL] at ht
  (try simp only [rwp,hwR,zA,zB,zC,zD,zE,zF,zG,zH,zI,hc])
  have ws:∀ w:Bool,w=(decide (c.toNat=32∨c.toNat=9∨c.toNat=10))→C83_3 (fun ae S'=>ae=.ret (.sl 3 ((tokT s).map tkC))∧S'=S) q (.str s) v (.int .i64 line) (.int .i64 col) (.int .i64 i) (.int .u8 c.toNat) (.bool w) S1:=by
   intro w hw
   unfold C83_3
   cases w with
   | true=>
    have hw:=of_decide_eq_true hw.symm
    rw [if_pos hw] at ht
    cases a3:decide ((c.toNat:Int)=10) with
    | true=>
     have h10:c.toNat=10:=by have:=of_decide_eq_true a3;omega
     rw [if_pos h10,if_pos h10] at ht
     (try simp only [rwp,hwR,zA,zB,zC,zD,zE,zF,zG,zH,zI,a3])
     (simp (disch:=omega) only [q03])
     refine q09 rfl (hq (v,line+1,1,i+1) S1 ⟨by dsimp only;omega,by dsimp only;omega,by dsimp only;omega,hs1,d,f,by dsimp only;omega,by dsimp only;omega,hl,ht⟩ (by dsimp only;omega))
    | false=>
     have h10:¬ c.toNat=10:=by have:=of_decide_eq_false a3;omega
     rw [if_neg h10,if_neg h10] at ht
     (try simp only [rwp,hwR,zA,zB,zC,zD,zE,zF,zG,zH,zI,a3])
     (simp (disch:=omega) only [q03])
     refine q09 rfl (hq (v,line,col+1,i+1) S1 ⟨by dsimp only;omega,by dsimp only;omega,by dsimp only;omega,hs1,d,f,by dsimp only;omega,by dsimp only;omega,hl,ht⟩ (by dsimp only;omega))
   | false=>
    have hw:=of_decide_eq_false hw.symm
    rw [if_neg hw] at ht
    have low:∀ (x:ByteArray) (w:Nat),1≤w→i+w≤s.size→tokT s=d++(if x=⟨#[63]⟩ then [⟨⟨#[63]⟩,line,col⟩] else ⟨x,line,col⟩ :: tokL f ((bl s).drop (i+w)) line (col+w))→C83_4 (fun ae S'=>ae=.ret (.sl 3 ((tokT s).map tkC))∧S'=S) q (.str s) v (.int .i64 line) (.int .i64 col) (.int .i64 i) (.int .i64 w) (.str x) S1:=by
     intro x w hw1 hw2 hx
     unfold C83_4
     (try simp only [rwp,hwR,zA,zB,zC,zD,zE,zF,zG,zH,zI])
     refine hl.app hs1 (xs:=[tkC ⟨x,line,col⟩]) (fun r hr=>by rw [List.mem_singleton] at hr;subst hr;rfl) rfl (by simp;omega) ?_
     intro v' S2 h1 h2 _
     (try simp only [rwp,hwR,zA,zB,zC,zD,zE,zF,zG,zH,zI])
     (refine q04 (fun hq3=>?_) (fun hq3=>?_)<;>(try simp only [hlc] at hq3))
     ·rw [if_pos hq3] at hx
      have e1:(d.map tkC)++[tkC ⟨x,line,col⟩]=(tokT s).map tkC:=by rw [hx,hq3];simp
      rw [e1] at h2
      exact q5s h1 h2 ⟨rfl,rfl⟩
     ·rw [if_neg (by simpa using hq3)] at hx
      (simp (disch:=omega) only [q03])
      rw [show (i:Int)+(w:Int)=((i+w:Nat):Int) from rfl,show (col:Int)+(w:Int)=((col+w:Nat):Int) from rfl]
      refine q09 rfl (hq (v',line,col+w,i+w) S2 ⟨by dsimp only;omega,by dsimp only;omega,by dsimp only;omega,h1,d++[⟨x,line,col⟩],f,by dsimp only;omega,by simp;omega,by simpa using h2,?_⟩ (by dsimp only;omega))
      dsimp only
      rw [hx]
      simp
    have hbe:bl (s.extract i s.size)=c :: (bl s).drop (i+1):=by
     rw [bl_extract,List.take_of_length_le (by rw [q5e];exact Nat.le_refl _),hdc]
    have hwl:=wordL_le (l:=c :: (bl s).drop (i+1)) (i:=0)
    have hcl2:(c :: (bl s).drop (i+1)).length=s.size-i:=by rw [← hdc,List.length_drop,q5e]
    rw [hcl2] at hwl
    have hcw:=c_word (s:=s.extract i s.size) (by rw [ByteArray.size_extract];omega)
    rw [hbe] at hcw
    (try simp only [rwp,hwR,zA,zB,zC,zD,zE,zF,zG,zH,zI])
    refine ⟨by omega,by omega,?_⟩
    refine q05 hcw ?_
    have hw0:∀ r,q2z 0 (c :: r)≠0→c≠63:=fun r h=>by
     rintro rfl
     apply h
     unfold q2z
     rw [if_neg (by decide)]
    have hw0:=hw0 ((bl s).drop (i+1))
    have htk:(c :: (bl s).drop (i+1)).drop (q2z 0 (c :: (bl s).drop (i+1)))=(bl s).drop (i+q2z 0 (c :: (bl s).drop (i+1))):=by
     rw [← hdc,List.drop_drop]
    have hex:s.extract i (i+q2z 0 (c :: (bl s).drop (i+1)))=mkB ((c :: (bl s).drop (i+1)).take (q2z 0 (c :: (bl s).drop (i+1)))):=by
     rw [q5i,List.drop_take,Nat.add_sub_cancel_left,hdc]
    rw [htk] at ht
    generalize hn:q2z 0 (c :: (bl s).drop (i+1))=n at *
    (try simp only [rwp,hwR,zA,zB,zC,zD,zE,zF,zG,zH,zI])
    (simp (disch:=omega) only [q03])
    (try simp only [rwp,hwR,zA,zB,zC,zD,zE,zF,zG,zH,zI])
    refine ⟨by omega,by omega,?_⟩
    rw [show ((i:Int)+(n:Int)).toNat=i+n by omega,hex]
    (refine q04 (fun hn0=>?_) (fun hn0=>?_)<;>(try simp only [hlc] at hn0))
    ·have hn0:n=0:=by omega
     refine q05 (c_sign c) ?_
     rw [if_pos hn0] at ht
     refine low _ 1 (by omega) (by omega) ?_
     rw [← ht]
    ·have hn0:¬ n=0:=by omega
     rw [if_neg hn0] at ht
     refine low _ n (by omega) (by omega) ?_
     rw [← ht,if_neg]
     intro h63
     have h1:=congrArg bl h63
     obtain ⟨m,hm⟩:∃ m,n=m+1:=⟨n-1,by omega⟩
     rw [hm,List.take_succ_cons] at h1
     have h2:c :: ((bl s).drop (i+1)).take m=[63]:=by
      have:bl (mkB (c :: ((bl s).drop (i+1)).take m))=c :: ((bl s).drop (i+1)).take m:=by simp [bl,mkB]
      rw [← this,h1];rfl
     exact hw0 hn0 (List.cons.inj h2).1
  cases a1:decide ((c.toNat:Int)=32)<;>cases a2:decide ((c.toNat:Int)=9)<;>cases a3:decide ((c.toNat:Int)=10) <;>
   (try simp only [rwp,hwR,zA,zB,zC,zD,zE,zF,zG,zH,zI,C83_2,a1,a2,a3])<;>refine ws _ ?_<;>simp only [decide_eq_true_eq,decide_eq_false_iff_not] at a1 a2 a3<;>(symm;first | exact decide_eq_true (by omega) | exact decide_eq_false (by omega))
 ·rw [List.drop_of_length_le (by rw [q5e];omega),tokL] at ht
  (try simp only [rwp,hwR,zA,zB,zC,zD,zE,zF,zG,zH,zI])
  refine hl.app hs1 (xs:=[tkC ⟨⟨#[]⟩,line,col⟩]) (fun r hr=>by rw [List.mem_singleton] at hr;subst hr;rfl) rfl (by simp;omega) ?_
  intro v' S2 h1 h2 _
  have e1:(d.map tkC)++[tkC ⟨⟨#[]⟩,line,col⟩]=(tokT s).map tkC:=by rw [← ht];simp
  rw [e1] at h2
  exact q5s h1 h2 ⟨rfl,rfl⟩
theorem q69:∀ {f:Nat} {l:List UInt8} {a b:Nat},(tokL f l a b).length≤l.length+1
 | 0,l,a,b=>by simp [tokL]
 | f+1,[],a,b=>by simp [tokL]
 | f+1,c :: r,a,b=>by
  unfold tokL
  split
  ·have:=q69 (f:=f) (l:=r) (a:=if c.toNat=10 then a+1 else a) (b:=if c.toNat=10 then 1 else b+1)
   simp only [List.length_cons];omega
  ·split
   ·split
    ·simp
    ·have:=q69 (f:=f) (l:=r) (a:=a) (b:=b+1)
     simp only [List.length_cons];omega
   ·rename_i h0
    have:=q69 (f:=f) (l:=(c :: r).drop (q2z 0 (c :: r))) (a:=a) (b:=b+q2z 0 (c :: r))
    have h2:((c :: r).drop (q2z 0 (c :: r))).length≤r.length:=by
     rw [List.length_drop,List.length_cons];omega
    simp only [List.length_cons];omega
theorem mkB_size {l:List UInt8}:(mkB l).size=l.length:=by simp [mkB,ByteArray.size]
theorem signF_size {c:UInt8}:(signF c).size≤1:=by
 unfold signF
 split
 ·rw [mkB_size];exact Nat.le_refl _
 ·decide
theorem q68:∀ {f:Nat} {l:List UInt8} {a b:Nat},∀ t∈tokL f l a b,t.s.size≤l.length+1
 | 0,l,a,b,t,ht=>by cases ht
 | f+1,[],a,b,t,ht=>by
  rw [tokL,List.mem_singleton] at ht
  subst ht
  exact Nat.zero_le _
 | f+1,c :: r,a,b,t,ht=>by
  unfold tokL at ht
  split at ht
  ·have:=q68 t ht
   simp only [List.length_cons];omega
  ·split at ht
   ·split at ht
    ·rw [List.mem_singleton] at ht
     subst ht
     exact Nat.le_add_left _ _
    ·rcases List.mem_cons.1 ht with rfl | ht
     ·have:=signF_size (c:=c);dsimp only;omega
     ·have:=q68 t ht
      simp only [List.length_cons];omega
   ·rcases List.mem_cons.1 ht with rfl | ht
    ·dsimp only
     rw [mkB_size,List.length_take]
     omega
    ·have:=q68 t ht
     rw [List.length_drop] at this
     omega
theorem q6b:∀ {f:Nat} {l:List UInt8} {a b:Nat} {t:Tk},(tokL f l a b).getLast?=some t→l.length<f→t.s=⟨#[]⟩∨t.s=⟨#[63]⟩
 | 0,l,a,b,t,ht,hf=>by omega
 | f+1,[],a,b,t,ht,hf=>by
  rw [tokL] at ht
  simp at ht
  subst ht
  exact .inl rfl
 | f+1,c :: r,a,b,t,ht,hf=>by
  have hne:∀ {f:Nat} {l:List UInt8} {a b:Nat},l.length<f→tokL f l a b≠[]:=by
   intro f
   induction f with
   | zero=>intro l a b h;omega
   | succ f ih=>
    intro l a b h
    cases l with
    | nil=>simp [tokL]
    | cons c r=>
     unfold tokL
     simp only [List.length_cons] at h
     split
     ·exact ih (by omega)
     ·split
      ·split<;>simp
      ·simp
  simp only [List.length_cons] at hf
  unfold tokL at ht
  split at ht
  ·exact q6b ht (by omega)
  ·split at ht
   ·split at ht
    ·simp at ht
     subst ht
     exact .inr rfl
    ·rw [List.getLast?_cons_of_ne_nil (hne (by omega))] at ht
     exact q6b ht (by omega)
   ·rename_i h0
    have hl:((c :: r).drop (q2z 0 (c :: r))).length<f:=by
     rw [List.length_drop,List.length_cons];omega
    rw [List.getLast?_cons_of_ne_nil (hne hl)] at ht
    exact q6b ht hl
theorem tokT_ok {s:ByteArray} (hs:s.size≤4096):OkTk (tokT s):=by
 have h1:=q69 (f:=s.size+1) (l:=bl s) (a:=1) (b:=1)
 rw [q5e] at h1
 refine ⟨?_,fun t ht=>?_,fun t ht=>?_⟩
 ·unfold tokT;omega
 ·have:=q68 t ht
  rw [q5e] at this
  omega
 ·rw [← List.getLast?_eq_getElem?] at ht
  exact q6b ht (by rw [q5e];omega)
structure RsSt (T:List Tk) (r:Rd) (p:List Rl×Rd):Prop where
 st:StepR T r p.2 0
 len:p.1.length≤p.2.at'
 ok:∀ x∈p.1,OkR x
 sz:p.2.de=0→∀ x∈p.1,rsz x≤p.2.at'
theorem rels_next {T:List Tk} (hT:OkTk T) {r0 r:Rd} (hp0:Pre T 12 r0) {l:List Rl} (h:RsSt T r0 (l,r)) :
  ((relP T r).1.2=true→RsSt T r0 (l++[(relP T r).1.1],(relP T r).2)∧r.at'+1≤(relP T r).2.at')∧RsSt T r0 (l,(relP T r).2):=by
 have hp:=h.st.pre hp0
 obtain ⟨h1,h2,h3⟩:=rel_ok hT hp
 have h5:=h.len
 have h6:=h1.mono
 dsimp only at h1 h5 h6 hp
 refine ⟨fun hf=>⟨⟨(h.st.trans h1).le (by omega),?_,fun x hx=>?_,fun h0 x hx=>?_⟩,h3 hf⟩,⟨(h.st.trans h1).le (by omega),by dsimp only;omega,h.ok,fun h0 x hx=>?_⟩⟩
 ·have:=h3 hf
  dsimp only at this
  simp only [List.length_append,List.length_cons,List.length_nil]
  omega
 ·rcases List.mem_append.1 hx with hx | hx
  ·exact h.ok x hx
  ·rw [List.mem_singleton.1 hx];exact h2
 ·dsimp only at h0 ⊢
  rcases List.mem_append.1 hx with hx | hx
  ·have:=h.sz (h1.fault h0) x hx
   dsimp only at this
   omega
  ·rw [List.mem_singleton.1 hx]
   have:=h1.sz h0
   rw [if_pos hf] at this
   omega
 ·dsimp only at h0 ⊢
  have:=h.sz (h1.fault h0) x hx
  dsimp only at this
  omega
theorem relsL_ok {T:List Tk} (hT:OkTk T) {r0:Rd} (hp0:Pre T 12 r0):∀ {f:Nat} {p:List Rl×Rd},RsSt T r0 p→RsSt T r0 (q3p T f p)
 | 0,p,h=>h
 | f+1,(l,r),h=>by
  obtain ⟨k1,k2⟩:=rels_next hT hp0 h
  unfold q3p
  split
  ·rename_i hi
   exact relsL_ok hT hp0 (k1 hi).1
  ·exact k2
theorem relsL_more {T:List Tk} (hT:OkTk T) {r0:Rd} (hp0:Pre T 12 r0):∀ {f g:Nat} {p:List Rl×Rd},RsSt T r0 p→T.length≤f+p.2.at'→T.length≤g+p.2.at'→q3p T f p=q3p T g p
 | 0,g,p,h,h1,h2=>by have h3:p.2.at'<T.length:=h.st.inr;omega
 | f+1,0,p,h,h1,h2=>by have h3:p.2.at'<T.length:=h.st.inr;omega
 | f+1,g+1,(l,r),h,h1,h2=>by
  dsimp only at h1 h2
  obtain ⟨k1,k2⟩:=rels_next hT hp0 h
  unfold q3p
  split
  ·rename_i hi
   obtain ⟨k3,k4⟩:=k1 hi
   exact relsL_more hT hp0 k3 (by dsimp only;omega) (by dsimp only;omega)
  ·rfl
structure TsSt (T:List Tk) (p:List Ty×Rd):Prop where
 pre:Pre T 12 p.2
 len:p.1.length≤p.2.at'
 ok:∀ t∈p.1,OkT t
 sz:p.2.de=0→∀ t∈p.1,∀ x∈t.rels,rsz x≤p.2.at'
theorem q7e {T:List Tk} (hT:OkTk T) {l:List Ty} {r:Rd} (h:TsSt T (l,r)) (hi:isP T q1w r=true) :
  Pre T 12 (isR T q1w r)∧Pre T 12 (q0j T (isR T q1w r))∧RsSt T (q0j T (isR T q1w r)) (q3p T T.length ([],q0j T (isR T q1w r))) ∧
  TsSt T (l++[⟨q29 T (isR T q1w r),(q3p T T.length ([],q0j T (isR T q1w r))).1⟩],(q3p T T.length ([],q0j T (isR T q1w r))).2)∧r.at'+1≤(q3p T T.length ([],q0j T (isR T q1w r))).2.at':=by
 have hp:Pre T 12 r:=h.pre
 have h1:=q27 hT hp hi (by decide +kernel) (by decide +kernel)
 have hp1:=h1.pre hp
 have h2:=q1p hT hp1
 have hp2:=h2.pre hp1
 have e1:(isR T q1w r).at'=r.at'+1:=by rw [isR,if_pos hi]
 have hR:=relsL_ok hT hp2 (f:=T.length) (p:=([],q0j T (isR T q1w r))) ⟨StepR.refl hp2,Nat.zero_le _,fun x hx=>(by cases hx),fun _ x hx=>(by cases hx)⟩
 have hn:=q2c hT hp1.inr
 generalize q3p T T.length ([],q0j T (isR T q1w r))=p at hR
 obtain ⟨rs,r3⟩:=p
 have m1:=h2.mono
 have m2:=hR.st.mono
 have m3:=hR.len
 have m4:=h.len
 have hin:r3.at'<T.length:=hR.st.inr
 have hTl:=hT.len
 dsimp only at m2 m3 m4 ⊢
 refine ⟨hp1,hp2,hR,⟨hR.st.pre hp2,?_,fun t ht=>?_,fun h0 t ht x hx=>?_⟩,by omega⟩
 ·simp only [List.length_append,List.length_cons,List.length_nil];omega
 ·rcases List.mem_append.1 ht with ht | ht
  ·exact h.ok t ht
  ·rw [List.mem_singleton.1 ht]
   exact ⟨hn,by dsimp only;omega,hR.ok⟩
 ·dsimp only at h0 ⊢
  rcases List.mem_append.1 ht with ht | ht
  ·have:=h.sz (h1.fault (h2.fault (hR.st.fault h0))) t ht x hx
   dsimp only at this
   omega
  ·rw [List.mem_singleton.1 ht] at hx
   exact hR.sz h0 x hx
theorem typesL_ok {T:List Tk} (hT:OkTk T):∀ {f:Nat} {p:List Ty×Rd},TsSt T p→TsSt T (q1y T f p)
 | 0,p,h=>h
 | f+1,(l,r),h=>by
  unfold q1y
  split
  ·rename_i hi
   exact typesL_ok hT (q7e hT h hi).2.2.2.1
  ·exact h
theorem typesL_more {T:List Tk} (hT:OkTk T):∀ {f g:Nat} {p:List Ty×Rd},TsSt T p→T.length≤f+p.2.at'→T.length≤g+p.2.at'→q1y T f p=q1y T g p
 | 0,g,p,h,h1,h2=>by have h3:p.2.at'<T.length:=h.pre.inr;omega
 | f+1,0,p,h,h1,h2=>by have h3:p.2.at'<T.length:=h.pre.inr;omega
 | f+1,g+1,(l,r),h,h1,h2=>by
  dsimp only at h1 h2
  unfold q1y
  split
  ·rename_i hi
   obtain ⟨-,-,-,k3,k4⟩:=q7e hT h hi
   exact typesL_more hT k3 (by dsimp only;omega) (by dsimp only;omega)
  ·rfl
theorem pre0 {T:List Tk} (h:0<T.length):Pre T 12 rd0:=⟨h,by decide,by decide,fun _=>by decide⟩
theorem ts0 {T:List Tk} (h:0<T.length):TsSt T ([],rd0):=⟨pre0 h,Nat.zero_le _,fun t ht=>(by cases ht),fun _ t ht=>(by cases ht)⟩
theorem end_step {T:List Tk} {r:Rd} (hp:Pre T 12 r):StepR T r (endR T r) 0:=by
 unfold endR
 split
 ·exact q6u _ (by decide) 0 (StepR.refl hp)
 ·exact StepR.refl hp
theorem parseT_ok {T:List Tk} (hT:OkTk T) (h:0<T.length):OkS (q6h T).1∧∀ t∈(q6h T).1,∀ x∈t.rels,rsz x≤T.length:=by
 have hR:=typesL_ok hT (f:=T.length) (ts0 h)
 have hin:(q1y T T.length ([],rd0)).2.at'<T.length:=hR.pre.inr
 have hl:=hR.len
 have hTl:=hT.len
 unfold q6h
 split
 ·rename_i h0
  refine ⟨⟨by dsimp only;omega,hR.ok⟩,fun t ht x hx=>?_⟩
  have:=hR.sz ((end_step hR.pre).fault h0) t ht x hx
  omega
 ·exact ⟨⟨Nat.zero_le _,fun t ht=>(by cases ht)⟩,fun t ht=>(by cases ht)⟩
end Go.HL
