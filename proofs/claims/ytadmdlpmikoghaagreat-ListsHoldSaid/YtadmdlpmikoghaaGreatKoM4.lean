/- A part of a proof. -/
import Derived.Test.YtadmdlpmikoghaaGreatKoM3
import Derived.Maps.RangeRun
import Derived.Lib.Strings
set_option maxRecDepth 4000
set_option linter.unusedSimpArgs false
set_option linter.unusedVariables false
namespace Go.HL
open List renaming mem_of_getElem?→lA,length_map→lB,getElem?_map→lC,length_cons→lD,map_append→lE,getElem?_eq_getElem→lF,length_append→lG,take_of_length_le→lH,mem_cons_of_mem→lI,append_nil→lJ,length_filter_le→lK,length_nil→lL,length_singleton→lM,getElem?_of_mem→lO,map_cons→lP,nil_append→lR,mem_singleton→lS,mem_filter→lT,take_length→lU,mem_append_left→lX
open Nat renaming reduceAdd→zA,reduceLeDiff→zB,reduceLT→zC,reduceSub→zD,reduceMul→zE,reduceEqDiff→zF,reduceBEq→zG
open Int renaming reduceAdd→zH,reduceToNat→zI
section
variable {P:Program} {R R0:Nat->Prop} {S S0:q00} {w w0 w':World} {a a0:Act} {N:Nat} {e:Env}
theorem Sim.lay (h:Sim R S w) (x:Obj):Sim R S (w.alloc x)/\Step R S w R S (w.alloc x)/\y01 S w.heap.size=none/\¬ R w.heap.size:=by
 have hold:∀ k,k<w.heap.size->(w.alloc x).heap[k]?=w.heap[k]?:=fun k hk=>heap_alloc_old w x hk
 have hnone:y01 S w.heap.size=none:=by
  cases e:y01 S w.heap.size with
  | none=>rfl
  | some o=>exact absurd (h.lt e) (Nat.lt_irrefl _)
 refine ⟨⟨fun b o hb=>?_,fun b hb=>⟨(h.ro b hb).1,by have:=(h.ro b hb).2;simp;omega⟩⟩,⟨by simp,rfl,rfl,rfl,fun k hk hn=>⟨hold k hk,hn⟩,fun _ h=>h,fun _ h=>.inl h⟩,hnone,fun hR=>absurd (h.ro _ hR).2 (Nat.lt_irrefl _)⟩
 obtain ⟨y,hy,hr⟩:=h.own b o hb;exact ⟨y,(hold b (h.lt hb)).trans hy,hr.step (fun _ h=>h) fun b hb=>hold b (h.ro b hb).2⟩
theorem Rel.turn (h:Rel R0 S0 w0 a0 N R S w e a) {r:Nat} (hr:¬ R r) (hS:y01 S r=none) (h0:w0.heap.size<=r) (hsz:w'.heap.size=w.heap.size) (hold:∀ k,k≠r->w'.heap[k]?=w.heap[k]?) (h1:w'.os=w.os) (h2:w'.tape=w.tape) (h3:w'.output=w.output) :
  Rel R0 S0 w0 a0 N R S w' e a:=by
 have hw:∀ b,R b->w'.heap[b]?=w.heap[b]?:=fun b hb=>hold b (by rintro rfl;exact hr hb)
 refine ⟨⟨fun b o hb=>?_,fun b hb=>⟨(h.sim.ro b hb).1,by rw [hsz];exact (h.sim.ro b hb).2⟩⟩,fun t=>(h.env t).step (fun _ h=>h) hw,⟨by rw [hsz];exact h.step.size,h1.trans h.step.os,h2.trans h.step.tape,h3.trans h.step.output,fun k hk hn=>⟨(hold k (by omega)).trans (h.step.keep k hk hn).1,(h.step.keep k hk hn).2⟩,h.step.mono,h.step.new⟩,h.defers,h.size⟩
 obtain ⟨y,hy,ho⟩:=h.sim.own b o hb;refine ⟨y,(hold b ?_).trans hy,ho.step (fun _ h=>h) hw⟩
 rintro rfl;rw [hS] at hb;cases hb
theorem Step.stands {R':Nat->Prop} {S':q00} (h:Step R S w R' S' w') {r:Nat} (hr:¬ R r) (hS:y01 S r=none) (hlt:r<w.heap.size):¬ R' r/\y01 S' r=none/\r<w'.heap.size/\w'.heap[r]?=w.heap[r]?:=by
 refine ⟨fun h'=>?_,(h.keep r hlt hS).2,Nat.lt_of_lt_of_le hlt h.size,(h.keep r hlt hS).1⟩
 rcases h.new r h' with h1 | h1 | h1
 ·exact hr h1
 ·exact h1 hS
 ·omega
theorem ypg {c:Code} {Q:Exit->Act->World->Prop} (J:Nat->Act->World->Prop) (n:Nat) (h0:J n a w) (h:∀ n a w,J n a w->c.wp P (Exit.then (fun a' w'=>∃ m,m<n/\J m a' w') Q) a w):(Code.loop c).wp P Q a w:=by
 classical
 let good:Act->World->Prop:=fun a' w'=>∃ m,J m a' w'
 have least:∀ a' w',good a' w'->∃ m,J m a' w'/\∀ k,J k a' w'->m<=k:=by
  intro a' w' ⟨m,hm⟩
  induction m using Nat.strongRecOn with
  | _ m ih=>
   by_cases hk:∃ k,k<m/\J k a' w'
   ·obtain ⟨k,hlt,hk⟩:=hk;exact ih k hlt hk
   ·exact ⟨m,hm,fun k hk'=>by
     rcases Nat.lt_or_ge k m with h | h
     ·exact absurd ⟨k,h,hk'⟩ hk
     ·exact h⟩
 let mu:Act->World->Nat:=fun a' w'=>if h:∃ m,J m a' w'/\∀ k,J k a' w'->m<=k then Classical.choose h else 0
 have mu_spec:∀ a' w',good a' w'->J (mu a' w') a' w'/\∀ k,J k a' w'->mu a' w'<=k:=by
  intro a' w' hg;have hl:=least a' w' hg
  show J (if h:_ then Classical.choose h else 0) a' w'/\_
  simp only [mu,dif_pos hl];exact Classical.choose_spec hl
 refine wp_loop good mu ⟨n,h0⟩ fun a' w' hg=>?_
 obtain ⟨hJ,_⟩:=mu_spec a' w' hg;refine wp_mono (h _ a' w' hJ) fun x a'' w'' hq=>?_
 cases x with
 | normal=>
  obtain ⟨m,hlt,hm⟩:=hq;exact ⟨⟨m,hm⟩,Nat.lt_of_le_of_lt ((mu_spec _ _ ⟨m,hm⟩).2 m hm) hlt⟩
 | _=>exact hq
theorem q4f {Qc:Exit->Act->World->Prop} {K:Env->q00->Prop} (hs:Sim R S w) (he:REnv R w e a.tmps) (hn:a.tmps.size=N) {ops:Array Oper} (sis:List SI) {lo:List Oper} (hok:q40 P N ops sis lo=true) (h:y0o P sis K (fun _ _=>False) e S)
  (hK:∀ R' S' w' e' a',K e' S'->Rel R S w a N R' S' w' e' a'->Qc .normal a' w'):wpList P ops Qc lo a w:=
 y4o ⟨hK,fun _ _ _ _ _ _ h=>h.elim⟩ sis lo hok (Rel.refl hs he hn) h
theorem ycs {f : Nat} {fn : Func} {c : Code} {res : List y7d} {args : List AV} {Q : AEnd → q00 → Prop} (hf : P.funcs[f]? = some fn) (hb : fn.body = some c) (h1 : (fn.name == "runtime.NumGoroutine") = false) (h2 : fn.ntmps = N) (h3 : args.length ≤ N) (h4 : ybd P res fn.results.toList = true)
  (h:∀ (R:Nat->Prop) (w:World) (a:Act),Sim R S w->REnv R w (y00 (q5k args)) a.tmps->a.tmps.size=N->c.wp P (PostOf R S w a N (x2l res Q)) a w):ACalls P f args S Q:=by
 refine fun R w vs hs hv=>.inl ⟨by unfold q84;rw [hf];simp only [hb,h1,Option.isSome_some,Bool.and_true,Bool.not_false],?_⟩
 have hsz:vs.size=args.length:=by have:=hv.1;simp at this;exact this.symm
 refine calls_of_wp hf hb ?_;refine wp_mono (h R w { tmps:=vs++Array.replicate (fn.ntmps-vs.size) undef,defers:=[] } hs (qaf hv _) (by simp;omega)) fun x a' w' hq=>?_
 have ret:∀ {K:Env->q00->Prop},K=ypf res Q->KC R S w { tmps:=vs++Array.replicate (fn.ntmps-vs.size) undef,defers:=[] } N K a' w' ->
   a'.defers=[]/\∃ v,(results fn a'.tmps).run P w'=.ok v w'/\∃ R' S' ae,x43 R' w' ae (.returned v)/\Q ae S'/\Sim R' S' w'/\Step R S w R' S' w':=by
  rintro K rfl ⟨R',S',e',hK,hr⟩;unfold ypf at hK;split at hK
  ·rename_i us hus
   obtain ⟨v',S'',hsh,hQ⟩:=hK;obtain ⟨v,k1,k2⟩:=q6r hr.sim hr.env h4 hus;obtain ⟨R'',k3,k4,k5⟩:=hsh R' w' v hr.sim k1;exact ⟨hr.defers,v,k2,R'',S'',.ret v',k4,hQ,k3,hr.step.trans k5⟩
  ·exact hK.elim
 unfold PostOf at hq;split at hq
 ·exact ret rfl hq
 ·obtain ⟨R',S',e',hK,hr⟩:=hq;exact hK.elim
 ·exact ret rfl hq
 ·obtain ⟨R',S',u,k1,k2,k3⟩:=hq;exact ⟨k3.defers,R',S',.pan u,k2,k1,k3.sim,k3.step⟩
 ·exact hq.elim
end
abbrev MO2:Bool×List EK:=(true,[.str,.str])
def enO (E:List (Ob×Nat)):List (AV×AV×Nat):=E.map fun p=>(.agg (obC p.1),.bool true,p.2)
structure KO (S:q00) (b:Nat) (E:List (Ob×Nat)) (clk:Nat):Prop where
 map:y01 S b=some (.map MO2 (enO E) clk)
 lt:∀ p∈E,p.2<clk
 nd:(E.map (·.2)).Nodup
 ku:(E.map (·.1)).Nodup
structure RgI (R0:Nat->Prop) (S0:q00) (w0:World) (a0:Act) (b r:Nat) (clk:Nat) (E D:List (Ob×Nat)) (R:Nat->Prop) (S:q00) (w:World) (e:Env) (a:Act) (v:AV):Prop where
 rel:Rel R0 S0 w0 a0 18 R S w e a
 nr:¬ R r
 ns:y01 S r=none
 lt:r<w.heap.size
 it:w.heap[r]?=some (.mapIter (some b) clk (D.map (·.2)).toArray clk)
 sub:Sub S0 S
 e6:e 6=.ptr r 0
 e3:e 3=v
 lst:LstN S0 S y0c 2 v ((D.map (·.1)).map obC)
 din:∀ p∈D,p∈E
 dnd:(D.map (·.2)).Nodup
theorem yia (x y:Ob):y02 PG ye4 [.agg (obC x),.agg (obC y)] (.int .i64 (yax x y)):=by
 intro S;refine xez ?_;unfold xbz;(try simp only [rwp,zA,zB,zC,zD,zE,zF,zG,zH,zI,rwb,reduceIte,obC]);refine q05 (y9k x.ty y.ty) ?_;(try simp only [rwp,zA,zB,zC,zD,zE,zF,zG,zH,zI,rwb,reduceIte]);refine q05 (y9k x.id y.id) ?_;(try simp only [rwp,zA,zB,zC,zD,zE,zF,zG,zH,zI,rwb,reduceIte]);refine q05 (xg0 _ _) ?_;exact q02 ⟨rfl,rfl⟩
theorem y33 {P:Program} {o:SOp} {d:Option Nat} {r:List SI} {K:Env->q00->Prop} {Qp:AV->q00->Prop} {e:Env} {S:q00} (h:fop P o d (y0o P r K Qp) Qp e S):y0o P (⟨d,o,none,[]⟩ :: r) K Qp e S:=y69 h
theorem wpl {P:Program} {R:Nat->Prop} {S:q00} {w:World} {a:Act} {N:Nat} {e:Env} (hs:Sim R S w) (he:REnv R w e a.tmps) (hn:a.tmps.size=N) (s:SI) {op:Oper} {lo:List Oper} {ops:Array Oper} {Qc:Exit->Act->World->Prop} (hok:ytb P N ops s op=true) {K:Env->q00->Prop} (h:aop P s K (fun _ _=>False) e S)
  (hK:∀ R' S' w' e' a',K e' S'->Rel R S w a N R' S' w' e' a'->wpList P ops Qc lo a' w'):wpList P ops Qc (op :: lo) a w:=by
 have h1:=q50 (Qc:=Qc) hs he hn hok h (fun _ _ _ _ _ h=>h.elim)
 have hrest:∀ a' w',KC R S w a N K a' w'->wpList P ops Qc lo a' w':=fun a' w' ⟨R',S',e',k,r⟩=>hK _ _ _ _ _ k r
 unfold wpList;split
 ·rename_i hw
  rw [if_pos hw] at h1;exact .inl (Oper.wp_mono hrest h1)
 ·rename_i hw
  rw [if_neg hw] at h1;exact hrest _ _ h1
theorem q79 {P:Program} {w w':World} {a:Act} {o:Oper} {lo:List Oper} {ops:Array Oper} {Qc:Exit->Act->World->Prop} {v:Value} (hg:o.guard=none) (hx:(execOp a.eval o).run P w=.ok (.value v) w') (h:wpList P ops Qc lo (a.put o.dst v) w'):wpList P ops Qc (o :: lo) a w:=
 wpList_plain hg fun K hK=>by unfold Oper.wp;rw [hx];exact hK _ _ h
theorem KO.sub {S S':q00} {b clk:Nat} {E:List (Ob×Nat)} (h:KO S b E clk) (hs:Sub S S'):KO S' b E clk:=⟨hs _ _ h.map,h.lt,h.nd,h.ku⟩
theorem KO.opens {R:Nat->Prop} {S:q00} {w:World} {b clk:Nat} {E:List (Ob×Nat)} (h:KO S b E clk) (hs:Sim R S w):∃ arr,w.heap[b]?=some (.map arr clk)/\arr.toList.map (·.born)=E.map (·.2) /\
  (∀ m∈arr.toList,∃ p∈E,m.born=p.2/\RV R w (.agg (obC p.1)) m.key/\RV R w (.bool true) m.val)/\∀ p∈E,∃ m∈arr.toList,m.born=p.2/\RV R w (.agg (obC p.1)) m.key/\RV R w (.bool true) m.val:=by
 obtain ⟨x,hx,hr⟩:=hs.own b _ h.map;cases hr with
 | map K es arr clock hl hh hk=>
  have hl':E.length=arr.size:=by unfold enO at hl;simpa using hl
  have get:∀ (i:Nat) (p:Ob×Nat) (m:MapEntry),E[i]?=some p->arr[i]?=some m->m.born=p.2/\RV R w (.agg (obC p.1)) m.key/\RV R w (.bool true) m.val:=by
   intro i p m hp hm;have:=hh i (.agg (obC p.1),.bool true,p.2) m (by unfold enO;rw [lC,hp];rfl) hm
   exact ⟨this.2.2,this.1,this.2.1⟩
  refine ⟨arr,hx,?_,fun m hm=>?_,fun p hp=>?_⟩
  ·refine List.ext_getElem? fun i=>?_
   rw [lC,lC,Array.getElem?_toList];cases hE:E[i]? with
   | none=>
    have:arr[i]?=none:=by
     rw [List.getElem?_eq_none_iff] at hE;rw [Array.getElem?_eq_none_iff];omega
    rw [this];rfl
   | some p=>
    have hi:=(List.getElem?_eq_some_iff.1 hE).1;have hm:arr[i]?=some (arr[i]'(by omega)):=Array.getElem?_eq_getElem (by omega)
    rw [hm];simp only [Option.map_some,(get i p _ hE hm).1]
  ·obtain ⟨i,hi⟩:=List.mem_iff_getElem?.1 hm;rw [Array.getElem?_toList] at hi;have hlt:i<E.length:=by have:=(Array.getElem?_eq_some_iff.1 hi).1;omega
   exact ⟨E[i],List.getElem_mem hlt,get i _ m (lF hlt) hi⟩
  ·obtain ⟨i,hi⟩:=List.mem_iff_getElem?.1 hp;have hlt:=(List.getElem?_eq_some_iff.1 hi).1;have hm:arr[i]?=some (arr[i]'(by omega)):=Array.getElem?_eq_getElem (by omega)
   exact ⟨arr[i]'(by omega),by simp,get i p _ hi hm⟩
theorem yps {N g:Nat} (hN:ywd N) (hg:∀ x y,y02 PG g [.agg (obC x),.agg (obC y)] (.int .i64 (yax x y))) {S0 S:q00} {v:AV} {M:List Ob} (hs:Sub S0 S) (h:LstN S0 S y0c 2 v (M.map obC)) (hl:M.length<=N) (hb:M.length<=100000) (hn:M.Nodup) {K:AV->q00->Prop} {Qp:AV->q00->Prop}
  (hK:∀ S1,Sub S0 S1->LstW S0 S1 y0c 2 v ((y0l ltO M).map obC)->K (.tup []) S1) :
  caW PG S (.func (.func ykd) [] []) [v,.func (.func g) [] []] K Qp:=by
 have fin:∀ (w:Nat->Ob) (S1:q00),Sub S0 S1->OwnL S0 S1 y0c 2 obC v M.length w->Rng M.length 0 M.length (at' M) w->Srt (ltC yax) 0 M.length w->K (.tup []) S1:=by
  intro w S1 hs1 ho hr hw;refine hK S1 hs1 ?_;have hp:∀ x,x∈M↔x∈vl M.length w:=by
   intro x
   conv=>lhs;rw [<- yj9 M]
   exact hr.perm.mem_iff
  have hnd:(vl M.length w).Nodup:=by
   refine hr.perm.nodup_iff.1 ?_;rw [yj9];exact hn
  have e:vl M.length w=y0l ltO M:=by
   obtain ⟨k1,k2,-⟩:=q2b stO M _ rfl;refine Asc.uniq stO ?_ k1 fun x=>by rw [k2,hp]
   unfold Asc;rw [List.pairwise_iff_getElem];intro i j hi hj hij;have hl1:(vl M.length w).length=M.length:=by simp [vl]
   have ei:(vl M.length w)[i]=w i:=by simp [vl]
   have ej:(vl M.length w)[j]=w j:=by simp [vl]
   have h1:=hw i j (Nat.zero_le _) hij (by omega)
   have h2:w i≠w j:=by
    intro h;have:=(List.getElem_inj (h₀:=hi) (h₁:=hj) hnd).1 (by rw [ei,ej];exact h)
    omega
   rw [ei,ej];cases h3:ltO (w i) (w j) with
   | true=>rfl
   | false=>exact absurd (stO.2 _ _ h3 h1) h2
  rw [<- e];exact OwnL.lstW (enc:=obC) (fun x=>rfl) ho
 obtain ⟨hr,⟨rfl,e⟩ | ⟨b,cap,rfl,h1,h2,h3,h4,h5⟩⟩:=h
 ·have e:M=[]:=by simpa using e
  subst e;refine q0c (hN .nils (fun _=>.nils) (fun _=>S) 0 g yax (x15 S) hg stO.ok (by omega) (at' [])) ?_
  rintro ae S1 ⟨rfl,w,rfl,k1,k2⟩;exact fin w _ hs (.inl ⟨rfl,rfl⟩) k1 k2
 ·simp only [lB] at h3 h5 h2 ⊢;have hsm:supd S b (.cells y0c (fl obC M.length (at' M)) (cap * 2))=S:=by
   funext c
   unfold supd;split
   ·rename_i e
    subst e;have:fl obC M.length (at' M)=(M.map obC).flatten:=by unfold fl;rw [yj9]
    rw [this];exact h2.symm
   ·rfl
  have q:=hN _ _ _ M.length g yax (x14 (S0:=S) (b:=b) h3 hb) hg stO.ok hl (at' M);rw [hsm] at q;refine q0c q ?_;rintro ae S1 ⟨rfl,w,rfl,k1,k2⟩;dsimp only;simp only [lB] at fin;exact fin w _ (Sub.supd h1 hs) (.inr ⟨b,cap,rfl,h1,by rw [q01,if_pos rfl],h3,h4⟩) k1 k2
theorem ykx {α β:Type} {f:α->β}:∀ {L:List α},(L.map f).Nodup->∀ {x y:α},x∈L->y∈L->f x=f y->x=y
 | [],_,x,y,h,_,_=>by cases h
 | a :: r,hn,x,y,hx,hy,h=>by
  rw [lP,List.nodup_cons] at hn;rcases List.mem_cons.1 hx with e1 | hx1
  ·rcases List.mem_cons.1 hy with e2 | hy1
   ·rw [e1,e2]
   ·exact absurd (List.mem_map.2 ⟨y,hy1,by rw [<- h,e1]⟩) hn.1
  ·rcases List.mem_cons.1 hy with e2 | hy1
   ·exact absurd (List.mem_map.2 ⟨x,hx1,by rw [h,e2]⟩) hn.1
   ·exact ykx hn.2 hx1 hy1 h
theorem yvt {α β γ:Type} {f:α->β} {g:α->γ}:∀ {L:List α},(L.map g).Nodup->(∀ x∈L,∀ y∈L,f x=f y->x=y)->(L.map f).Nodup
 | [],_,_=>List.nodup_nil
 | a :: r,hn,h=>by
  rw [lP,List.nodup_cons] at hn ⊢;refine ⟨fun hm=>?_,yvt hn.2 fun x hx y hy=>h x (lI _ hx) y (lI _ hy)⟩
  obtain ⟨y,hy,h1⟩:=List.mem_map.1 hm;have:=h y (lI _ hy) a List.mem_cons_self h1;subst this;exact hn.1 (List.mem_map.2 ⟨y,hy,rfl⟩)
theorem x6t:∃ k e,PG.underlying 125=some (.map k e):=by
 have h:(match PG.underlying 125 with | some (.map _ _)=>true | _=>false)=true:=by kernel_rfl
 split at h
 ·rename_i k e h2;exact ⟨k,e,h2⟩
 ·cases h
theorem yfc {S:q00} {b:Nat} {E:List (Ob×Nat)} {clk:Nat} (hk:KO S b E clk) (hl:E.length<=255) :
  ACalls PG 74 [.map (some b)] S fun ae S'=>ae=.ret (.sl 2 ((y0l ltO (E.map (·.1))).map obC))/\S'=S:=by
 refine ycs (N:=18) (res:=[.tmp 2]) Go.Proofs.Tryz.func74 rfl (by kernel_rfl) rfl (by show 1<=18;omega) (by kernel_rfl) ?_
 intro R0 w0 a0 hs0 he0 hn0;refine wp_seq ?_;refine wp_region_list (q4f hs0 he0 hn0 [⟨some 2,.mov (.c .nils),none,[]⟩] (K:=fun e S'=>e 0=.map (some b)/\S'=S) (by kernel_rfl) ⟨rfl,rfl⟩ ?_)
 rintro R1 S1 w1 e1 a1 ⟨q1,rfl⟩ r1;refine wp_seq ?_;refine wp_region_list (q4f r1.sim r1.env r1.size [⟨some 3,.mov (.c .nils),none,[]⟩] (K:=fun e S'=>e 0=.map (some b)/\e 3=.nils/\S'=S1) (by kernel_rfl) ⟨q1,rfl,rfl⟩ ?_)
 rintro R2 S2 w2 e2 a2 ⟨q2,q3,rfl⟩ r2;refine wp_seq (wp_seq ?_);refine wp_region_list (wpl r2.sim r2.env r2.size ⟨some 5,.mov (.t 0),none,[]⟩ (K:=fun e S'=>e 5=.map (some b)/\e 3=.nils/\S'=S2) (by kernel_rfl) ⟨q2,q3,rfl⟩ ?_)
 rintro R3 S3 w3 e3 a3 ⟨q4,q5,rfl⟩ r3;have rr:Rel R0 S3 w0 a0 18 R3 S3 w3 e3 a3:=(r1.trans r2).trans r3;have hv:a3.eval (.tmp 5)=.map (some b):=by
  have:=rr.env 5;unfold y2p at this;rw [q4] at this;generalize hz:a3.tmps.getD 5 undef=z at this;cases this;exact hz
 obtain ⟨arr,hb,-⟩:=hk.opens rr.sim;obtain ⟨kt,et,hT⟩:=x6t;refine q79 (w':=w3.alloc (.mapIter (some b) clk #[] clk)) (v:=.pointer (some ⟨w3.heap.size,0,none⟩)) rfl (by simp [execOp,hv,run_range_map w3 _ kt et b arr clk hT hb]) ?_
 obtain ⟨y1,y2,y3,y4⟩:=rr.sim.lay (.mapIter (some b) clk #[] clk);have r4:Rel R0 S3 w0 a0 18 R3 S3 (w3.alloc (.mapIter (some b) clk #[] clk)) (put e3 (some 6) (.ptr w3.heap.size 0)) (a3.put (some 6) (.pointer (some ⟨w3.heap.size,0,none⟩))):=
  rr.trans (Rel.put rr.sim rr.env rr.size y1 y2 (fun k hk=>by cases hk;omega) (.ptr _ _))
 have hI:RgI R0 S3 w0 a0 b w3.heap.size clk E [] R3 S3 (w3.alloc (.mapIter (some b) clk #[] clk)) (put e3 (some 6) (.ptr w3.heap.size 0)) (a3.put (some 6) (.pointer (some ⟨w3.heap.size,0,none⟩))) .nils:=
  ⟨r4,y4,y3,by simp,heap_alloc_new _ _,Sub.refl _,rfl,q5,LstN.nil,fun p hp=>(by cases hp),List.nodup_nil⟩
 have hw0:w0.heap.size<=w3.heap.size:=rr.step.size;refine wpList_nil ?_;refine wp_block (ypg (fun n a w=>∃ D R S' e v,RgI R0 S3 w0 a0 b w3.heap.size clk E D R S' w e a v/\n+D.length=E.length) E.length ⟨[],_,_,_,_,hI,by simp⟩ ?_)
 rintro n a w ⟨D,R,S,e,v,hI,hn⟩;have hk1:=hk.sub hI.sub;obtain ⟨arr,hb,hbn,hin,hout⟩:=hk1.opens hI.rel.sim;have h6:a.eval (.tmp 6)=.pointer (some ⟨w3.heap.size,0,none⟩):=by
  have:=hI.rel.env 6;unfold y2p at this;rw [hI.e6] at this;generalize hz:a.tmps.getD 6 undef=z at this;cases this;exact hz
 have hlt:∀ x∈arr.toList,x.born<clk:=fun m hm=>by
  obtain ⟨p,hp,h1,-⟩:=hin m hm;rw [h1];exact hk.lt p hp
 refine wp_seq (wp_region_list ?_);rcases run_next_at (P:=PG) w 0 w3.heap.size b clk clk _ arr clk hI.it hb hlt (Nat.le_refl _) with ⟨h0,hrun⟩ | ⟨m,hm,w4,hw4,hrun⟩
 ·refine q79 (w':=w) (v:=.tuple #[.bool false]) rfl (by simp [execOp,h6,hrun]) ?_
  have r5:=Rel.put (d:=some 7) hI.rel.sim hI.rel.env hI.rel.size hI.rel.sim (Step.refl _ _ _) (fun k hk=>by cases hk;omega) (u:=.tup [.bool false]) (v:=.tuple #[.bool false]) (RV.tup_iff.2 ⟨_,rfl,.cons (.bool _) .nil⟩)
  refine q4f r5.sim r5.env r5.size [⟨some 8,.extr (.t 7) 0,none,[]⟩] (K:=fun e' S'=>e' 8=.bool false/\e' 3=v/\S'=S) (by kernel_rfl) ⟨rfl,hI.e3,rfl⟩ ?_
  rintro R6 S6 w6 e6 a6 ⟨q6,q7,rfl⟩ r6;have rf:=(hI.rel.trans r5).trans r6;refine wp_seq (wp_cond_split (t:=false) ?_ (fun h=>by cases h) fun _=>wp_exit ?_)
  ·have:=r6.env 8;unfold y2p at this;rw [q6] at this;exact this.bool_inv
  have hDE:∀ x,x∈E↔x∈D:=fun x=>⟨fun hx=>by
   obtain ⟨m,hm,h1,-⟩:=hout x hx;have:m.born∈D.map (·.2):=by
    refine Decidable.byContradiction fun hne=>?_
    have:m∈leftOf arr (D.map (·.2)).toArray:=by
     unfold leftOf;rw [Array.mem_filter];exact ⟨by simpa using hm,by simpa using hne⟩
    have:=Array.size_pos_of_mem this;omega
   rw [h1] at this;obtain ⟨y,hy,h2⟩:=List.mem_map.1 this;have:=ykx hk.nd (hI.din y hy) hx h2;rw [<- this];exact hy,fun hx=>hI.din x hx⟩
  have hku:(D.map (·.1)).Nodup:=yvt hI.dnd fun x hx y hy h=>ykx hk.ku (hI.din x hx) (hI.din y hy) h
  have hsr:y0l ltO (E.map (·.1))=y0l ltO (D.map (·.1)):=by
   obtain ⟨k1,k2,-⟩:=q2b stO (E.map (·.1)) _ rfl;obtain ⟨k3,k4,-⟩:=q2b stO (D.map (·.1)) _ rfl;refine Asc.uniq stO k1 k3 fun x=>?_
   rw [k2,k4,List.mem_map,List.mem_map];exact ⟨fun ⟨y,h1,h2⟩=>⟨y,(hDE y).1 h1,h2⟩,fun ⟨y,h1,h2⟩=>⟨y,(hDE y).2 h1,h2⟩⟩
  have hdl:D.length<=E.length:=by omega
  show Code.wp _ _ _ _ _;refine wp_seq (wp_region_list (q4f rf.sim rf.env rf.size [⟨some 15,.mov (.t 3),none,[]⟩,⟨some 16,.call (.f ykd) [.t 15,.f ye4],none,[]⟩] (K:=fun e' S'=>e' 3=v/\Sub S3 S'/\LstW S3 S' y0c 2 v ((y0l ltO (D.map (·.1))).map obC)) (by kernel_rfl) ?_ ?_))
  ·refine y33 (show y0o PG _ _ _ (put e6 (some 15) (e6 3)) S6 from ?_)
   refine y33 (show caW PG S6 (.func (.func ykd) [] []) [e6 3,.func (.func ye4) [] []] (fun u S'=>(fun (e':Env) S'=>e' 3=v/\Sub S3 S'/\LstW S3 S' y0c 2 v ((y0l ltO (D.map (·.1))).map obC)) (put (put e6 (some 15) (e6 3)) (some 16) u) S') _ from ?_)
   rw [q7];refine yps yyn yia hI.sub hI.lst (by simp;omega) (by simp;omega) hku fun S1 h1 h2=>⟨q7,h1,h2⟩
  rintro R7 S7 w7 e7 a7 ⟨g1,g2,g3⟩ r7;refine wp_seq (wp_region_list (q4f r7.sim r7.env r7.size [⟨some 17,.mov (.t 3),none,[]⟩,⟨some 2,.mov (.t 17),none,[]⟩] (K:=fun e' S'=>e' 2=v/\S'=S7) (by kernel_rfl) ⟨g1,rfl⟩ ?_))
  rintro R8 S8 w8 e8 a8 ⟨g4,rfl⟩ r8;refine wp_ret ?_;refine ⟨R8,S8,e8,?_,(rf.trans r7).trans r8⟩;have fin:rtW [.tmp v] (fun ae S'=>ae=AEnd.ret (.sl 2 ((y0l ltO (E.map (·.1))).map obC))/\S'=S3) S8:=q5d S3 _ g2 (Fr.lstW g3) ⟨by rw [hsr],rfl⟩
  unfold x2l;dsimp only;unfold ypf;simp only [y5q,yz1,g4];exact fin
 ·obtain ⟨p,hp,k1,k2,k3⟩:=hin m (by
   unfold leftOf at hm;simp only [Array.toList_filter,lT] at hm;exact hm.1)
  have hnew:p.2 ∉ D.map (·.2):=by
   unfold leftOf at hm;simp only [Array.toList_filter,lT,Bool.not_eq_true'] at hm;have:=hm.2;rw [k1] at this;simpa using this
  have hsz:w4.heap=w.heap/\w4.os=w.os/\w4.tape=w.tape/\w4.output=w.output:=by rcases hw4 with rfl | rfl<;>exact ⟨rfl,rfl,rfl,rfl⟩
  refine q79 (w':=ChangeMaps.setBlock w4 w3.heap.size (.mapIter (some b) clk ((D.map (·.2)).toArray.push m.born) clk)) (v:=.tuple #[.bool true,m.key,m.val]) rfl (by simp [execOp,h6,hrun]) ?_
  have hheap:(ChangeMaps.setBlock w4 w3.heap.size (.mapIter (some b) clk ((D.map (·.2)).toArray.push m.born) clk)).heap=w.heap.setIfInBounds w3.heap.size (.mapIter (some b) clk ((D.map (·.2)).toArray.push m.born) clk):=by
   unfold ChangeMaps.setBlock;rw [hsz.1]
  generalize hw5:ChangeMaps.setBlock w4 w3.heap.size (.mapIter (some b) clk ((D.map (·.2)).toArray.push m.born) clk)=w5 at hheap;have h5s:w5.os=w.os/\w5.tape=w.tape/\w5.output=w.output:=by rw [<- hw5];exact hsz.2
  have hit5:w5.heap[w3.heap.size]?=some (.mapIter (some b) clk ((D++[p]).map (·.2)).toArray clk):=by
   rw [hheap,Array.getElem?_setIfInBounds_self_of_lt hI.lt];simp [k1]
  have ho5:∀ k,k≠w3.heap.size->w5.heap[k]?=w.heap[k]?:=fun k hk=>by rw [hheap,Array.getElem?_setIfInBounds_ne (Ne.symm hk)]
  have r5:=hI.rel.turn (w':=w5) hI.nr hI.ns hw0 (by rw [hheap];simp) ho5 h5s.1 h5s.2.1 h5s.2.2
  have rv5:∀ {u:AV} {x:Value},RV R w u x->RV R w5 u x:=fun h=>h.step (fun _ h=>h) fun c hc=>ho5 c (by rintro rfl;exact hI.nr hc)
  have r6:=Rel.put (d:=some 7) r5.sim r5.env r5.size r5.sim (Step.refl _ _ _) (fun k hk=>by cases hk;omega) (u:=.tup [.bool true,.agg (obC p.1),.bool true]) (v:=.tuple #[.bool true,m.key,m.val]) (RV.tup_iff.2 ⟨_,rfl,.cons (.bool _) (.cons (rv5 k2) (.cons (rv5 k3) .nil))⟩)
  refine q4f r6.sim r6.env r6.size [⟨some 8,.extr (.t 7) 0,none,[]⟩] (K:=fun e' S'=>e' 8=.bool true/\e' 3=v/\e' 6=.ptr w3.heap.size 0/\S'=S) (by kernel_rfl) ⟨rfl,hI.e3,hI.e6,rfl⟩ ?_
  rintro R7 S7 w7 e7 a7 ⟨q6,q7,q8,rfl⟩ r7;have hlt5:w3.heap.size<w5.heap.size:=by rw [hheap];simpa using hI.lt
  obtain ⟨z1,z2,z3,z4⟩:=r7.step.stands hI.nr hI.ns hlt5;rw [hit5] at z4;have rf:=(r5.trans r6).trans r7;refine wp_seq (wp_cond_split (t:=true) ?_ (fun _=>wp_skip ?_) fun h=>by cases h)
  ·have:=r7.env 8;unfold y2p at this;rw [q6] at this;exact this.bool_inv
  refine wp_block (wp_seq (wp_region_list ?_));obtain ⟨arr',hb',hbn',-,hout'⟩:=hk1.opens r7.sim;obtain ⟨m',hm',l1,l2,l3⟩:=hout' p hp;have h6':a7.eval (.tmp 6)=.pointer (some ⟨w3.heap.size,0,none⟩):=by
   have:=r7.env 6;unfold y2p at this;rw [q8] at this;generalize hz:a7.tmps.getD 6 undef=z at this;cases this;exact hz
  have hent:=run_entry_at (P:=PG) w7 w3.heap.size b clk (D.map (·.2)).toArray arr' clk m' (by rw [z4,l1];simp) hb' hm' (by rw [hbn'];exact hk.nd)
  refine q79 (w':=w7) (v:=.tuple #[m'.key,m'.val]) rfl (by simp [execOp,h6',hent]) ?_
  have r8:=Rel.put (d:=some 9) rf.sim rf.env rf.size rf.sim (Step.refl _ _ _) (fun k hk=>by cases hk;omega) (u:=.tup [.agg (obC p.1),.bool true]) (v:=.tuple #[m'.key,m'.val]) (RV.tup_iff.2 ⟨_,rfl,.cons l2 (.cons l3 .nil)⟩)
  refine q4f r8.sim r8.env r8.size [⟨some 10,.extr (.t 9) 0,none,[]⟩,⟨some 4,.alloc y0c [.str ⟨#[]⟩,.str ⟨#[]⟩],none,[]⟩,⟨none,.store 2 (.t 4) (.t 10),none,[]⟩]
   (K:=fun e' S'=>e' 3=v/\e' 6=.ptr w3.heap.size 0/\∃ x,e' 4=.ptr x 0/\y01 S7 x=none/\Sub S7 S'/\y01 S' x=some (.cells y0c (obC p.1) 2)) (by kernel_rfl) ?_ ?_
  ·refine y33 (show exW 0 (.tup [.agg (obC p.1),.bool true]) (fun u=>y0o PG _ _ _ (put (put e7 (some 9) (.tup [.agg (obC p.1),.bool true])) (some 10) u) S7) from ?_)
   show y0o PG _ _ _ (put (put e7 (some 9) (.tup [.agg (obC p.1),.bool true])) (some 10) (.agg (obC p.1))) S7;refine y33 (show alW S7 y0c [.str ⟨#[]⟩,.str ⟨#[]⟩] (fun u S'=>y0o PG _ _ _ (put (put (put e7 (some 9) (.tup [.agg (obC p.1),.bool true])) (some 10) (.agg (obC p.1))) (some 4) u) S') from ?_)
   intro x hx;refine y33 (show stW (supd S7 x (.cells y0c [.str ⟨#[]⟩,.str ⟨#[]⟩] 2)) 2 (.ptr x 0) (.agg (obC p.1)) _ from ?_)
   have ho:q0m (supd S7 x (.cells y0c [.str ⟨#[]⟩,.str ⟨#[]⟩] 2)) x=some (y0c,[.str ⟨#[]⟩,.str ⟨#[]⟩],2):=by unfold q0m;rw [q01,if_pos rfl]
   unfold stW q5c;dsimp only;rw [ho];refine ⟨rfl,Nat.le_refl _,rfl,?_⟩;refine ⟨q7,q8,x,rfl,hx,fun c o hc=>?_,?_⟩
   ·have:x≠c:=q0h hx hc;rw [q01,if_neg this,q01,if_neg this];exact hc
   ·rw [q01,if_pos rfl];rfl
  rintro R9 S9 w9 e9 a9 ⟨q9,q10,x,q11,q12,q13,q14⟩ r9;have o1:LstN S3 S9 y0c 2 v ((D.map (·.1)).map obC):=hI.lst.sub q13;refine wp_region_list (q4f r9.sim r9.env r9.size [⟨some 11,.mov (.t 3),none,[]⟩,⟨some 12,.load 2 true (.t 4),none,[]⟩,⟨some 13,.bslicr y0c 2 [.t 12],none,[]⟩,⟨some 14,.app y0c 2 32 (.t 11) (.t 13),none,[]⟩,⟨some 3,.mov (.t 14),none,[]⟩]
   (K:=fun e' S'=>∃ v',e' 3=v'/\e' 6=.ptr w3.heap.size 0/\Sub S3 S'/\LstN S3 S' y0c 2 v' (((D++[p]).map (·.1)).map obC)) (by kernel_rfl) ?_ ?_)
  ·refine y33 (show y0o PG _ _ _ (put e9 (some 11) (e9 3)) S9 from ?_)
   refine y33 (show ldW S9 2 true (e9 4) (fun u=>y0o PG _ _ _ (put (put e9 (some 11) (e9 3)) (some 12) u) S9) from ?_)
   rw [q11];have hc:(cellsOf S9 (.ptr x 0)).bind (mkA true 2)=some (.agg (obC p.1)):=by simp [cellsOf,q14,mkA,obC]
   unfold ldW;rw [hc]
   show y0o PG _ _ _ (put (put e9 (some 11) (e9 3)) (some 12) (.agg (obC p.1))) S9;refine y33 (show srW 2 [.agg (obC p.1)] (fun u=>y0o PG _ _ _ (put (put (put e9 (some 11) (e9 3)) (some 12) (.agg (obC p.1))) (some 13) u) S9) from ⟨⟨rfl,rfl,trivial⟩,?_⟩)
   refine y33 (show apW S9 y0c 2 32 (e9 3) (.sl 2 [obC p.1]) (fun u S'=>y0o PG _ _ _ (put (put (put (put e9 (some 11) (e9 3)) (some 12) (.agg (obC p.1))) (some 13) (.sl 2 [obC p.1])) (some 14) u) S') from ?_)
   rw [q9];have hdl:D.length<=E.length:=by omega
   refine LstN.app (hI.sub.trans q13) o1 (fun r hr=>by rw [List.mem_singleton.1 hr];rfl) (q1u fun r hr=>by rw [List.mem_singleton.1 hr];rfl) (by simp only [lB,lM];omega) fun v' S4 j1 j2 j3=>?_
   refine y33 ?_;refine ⟨v',rfl,q10,j1,?_⟩;rw [lE,lE];exact j2
  rintro R10 S10 w10 e10 a10 ⟨v',g1,g2,g3,g4⟩ r10;have r89:=(r8.trans r9).trans r10;obtain ⟨t1,t2,t3,t4⟩:=r89.step.stands z1 z2 z3;rw [z4] at t4;have hdn:((D++[p]).map (·.2)).Nodup:=by
   rw [lE,List.nodup_append];refine ⟨hI.dnd,by simp,fun a ha c hc=>?_⟩
   simp only [lP,List.map_nil,lS] at hc;rintro rfl;rw [hc] at ha;exact hnew ha
  have hdin:∀ q∈D++[p],q∈E:=fun q hq=>by
   rcases List.mem_append.1 hq with h | h
   ·exact hI.din q h
   ·rw [List.mem_singleton.1 h];exact hp
  have hlen:(D++[p]).length<=E.length:=by
   have:=y8g hdn (C:=E.map (·.2)) fun y hy=>by
    obtain ⟨q,hq,rfl⟩:=List.mem_map.1 hy;exact List.mem_map.2 ⟨q,hdin q hq,rfl⟩
   simpa using this
  simp only [lG,lM] at hlen;refine ⟨n-1,by omega,D++[p],R10,S10,e10,v',⟨rf.trans r89,t1,t2,t3,t4,g3,g2,g1,g4,hdin,hdn⟩,?_⟩
  simp only [lG,lM];omega
inductive Nt where
 | mk (lb:ByteArray) (nm:List ByteArray) (ks:List Nt)
 deriving Inhabited
mutual
def ntC:Nt->List AV
 | .mk l n k=>[.str l,.sl 1 (n.map fun s=>[AV.str s]),.sl 3 (xci k)]
def xci:List Nt->List (List AV)
 | []=>[]
 | t :: r=>ntC t :: xci r
end
theorem ydz:∀ (l:List Nt),xci l=l.map ntC
 | []=>rfl
 | t :: r=>by rw [xci,ydz r];rfl
theorem q9j (l:ByteArray) (n:List ByteArray) (k:List Nt):ntC (.mk l n k)=[.str l,.sl 1 (n.map fun s=>[AV.str s]),.sl 3 (k.map ntC)]:=by rw [ntC,ydz]
theorem q6v (t:Nt):(ntC t).length=3:=by cases t;rw [ntC];rfl
theorem ye0 (t:Nt):y09 (ntC t)=true:=by cases t;rw [ntC];rfl
abbrev y2n:=Ob->Rl->Nat->Option (Nt×Nat)
def q7t (s:List Ty) (ov:ByteArray) (node:y2n):List Nd->List Nt->Nat->Option (List Nt×Nat)
 | [],ks,w=>some (ks,w)
 | x :: r,ks,w=>match q0d s x.o.ty ov with
  | none=>q7t s ov node r ks w
  | some (_,_,rl)=>if x.rl=⟨#[]⟩ then (match node x.o rl w with
   | none=>none
   | some (k,w')=>q7t s ov node r (ks++[k]) w') else q7t s ov node r ks w
def lbE (k:Int):ByteArray:=if k=2 then ⟨#[111,114]⟩ else if k=3 then ⟨#[97,110,100]⟩ else ⟨#[110,111,116]⟩
def xeQ (E:q1k) (node:y2n) (o:Ob):Nat->Ex->Nat->Option (Nt×Nat)
 | 0,_,_=>none
 | m+1,.mk k n ov ks,w=>if k=0 then (match q0d E.s o.ty n with
   | some (_,_,r)=>node o r w
   | none=>none)
  else if k=1 then (match q7t E.s ov node (E.of ⟨o,n⟩) [] w with
   | none=>none
   | some (l,w')=>some (.mk (n++⟨#[46]⟩++ov) [] l,w'))
  else match ks with
   | [a,b]=>(match xeQ E node o m a w with
    | none=>none
    | some (x,w1)=>match xeQ E node o m b w1 with
     | none=>none
     | some (y,w2)=>some (.mk (lbE k) [] [x,y],w2))
   | _=>none
def xcn (o:Ob) (r:Rl):ByteArray:=q4r o++⟨#[35]⟩++r.name
def xnT (E:q1k) (f:List Nd->y2n) (P:List Nd) (o:Ob) (r:Rl) (w:Nat):Option (Nt×Nat):=
 if r.refs.length=0 then (match xeQ E (f (⟨o,r.name⟩ :: P)) o 12 r.ex w with
  | none=>none
  | some (k,w')=>some (.mk (xcn o r) [] [k],w'))
 else some (.mk (xcn o r) ((E.of ⟨o,r.name⟩).map q54) [],w)
def xnS (B:Int) (t:List Nd->y2n) (P:List Nd) (o:Ob) (r:Rl) (w:Nat):Option (Nt×Nat):=
 if B<(w:Int)+1 then none else if (⟨o,r.name⟩:Nd)∈P then some (.mk (xcn o r) [⟨#[46,46]⟩] [],w+1) else t P o r (w+1)
def xnQ (E:q1k) (B:Int):Nat->List Nd->y2n
 | 0=>xnS B fun _ _ _ _=>none
 | f+1=>xnS B (xnT E (xnQ E B f))
def yr5 (s:List Ty) (t:ByteArray):Nat->Ex->Bool
 | 0,_=>false
 | m+1,.mk k n ov ks=>if k=0 then (q0d s t n).isSome else if k=1 then true else match ks with
  | [a,b]=>yr5 s t m a&&yr5 s t m b
  | _=>false
theorem y41 {f:Ex->Int}:∀ {l:List (Ex×Bool)},q37 f l=0->∀ p∈l,f p.1=0
 | [],_,p,hp=>by cases hp
 | (e,o) :: r,h,p,hp=>by
  unfold q37 at h;split at h
  ·rename_i h0
   rcases List.mem_cons.1 hp with rfl | hp
   ·exact h0
   ·exact y41 h p hp
  ·rename_i h0
   exact absurd h h0
theorem yly {s:List Ty} {t:ByteArray}:∀ (m:Nat) (e:Ex) (o:Bool),y0d m e=true->(∀ p∈q0i e o,q4z s t p.1=0)->yr5 s t m e=true
 | 0,e,o,h,_=>by cases h
 | m+1,.mk k n ov ks,o,h,hl=>by
  unfold y0d at h;unfold yr5;split at h
  ·rename_i k0
   simp only [Bool.and_eq_true] at h;rw [if_pos k0];have:=hl (.mk k n ov ks,o) (by unfold q0i;rw [if_pos h.2];exact List.mem_singleton.2 rfl)
   unfold q4z at this;dsimp only [Ex.name] at this;cases hq:q0d s t n with
   | none=>rw [hq] at this;cases this
   | some q=>rfl
  ·rename_i k0
   rw [if_neg k0];split at h
   ·rename_i k1;rw [if_pos k1]
   ·rename_i k1
    rw [if_neg k1];split at h
    ·match ks,h with
     | [a,b],h=>
      simp only [two,Bool.and_eq_true] at h;have e1:q0i (.mk k n ov [a,b]) o=q0t k 0 [a,b] o:=by
       unfold q0i;rw [if_neg (by simp)]
      rw [e1] at hl;unfold q0t q0t at hl;simp only [Bool.and_eq_true];exact ⟨yly m a _ h.1 fun p hp=>hl p (lX _ hp),yly m b _ h.2 fun p hp=>hl p (List.mem_append_right _ (lX _ hp))⟩
     | [],h=>cases h
     | [_],h=>cases h
     | _ :: _ :: _ :: _,h=>cases h
    ·cases h
theorem x4m {s:List Ty} (h:y0a (y06 s)=0):∀ t∈s,∀ r∈t.rels,r.refs.length=0->yr5 s t.name 12 r.ex=true:=by
 intro t ht r hr h0;have hg:=q2x h;obtain ⟨i,hi⟩:=lO ht;obtain ⟨k,hk⟩:=lO hr;have hn:=hg.name hi hk;unfold q1r at hn;rw [if_pos h0] at hn;split at hn
 ·exact yly 12 r.ex false (y16 hg.may t ht r hr h0) (y41 hn)
 ·cases hn
set_option maxRecDepth 4000
abbrev yp4:Nat:=132
abbrev y08:Nat:=70
abbrev ypj:Nat:=9
abbrev spX:AV:=.iface 135 (.agg [])
def xpC (E:q1k) (B:Int) (bo bp w:Nat):List AV:=[.sl 2 (E.s.map tyC),.map (some bo),.int .i64 B,.int .i64 w,.map (some bp)]
structure x2g (E:q1k) (B:Int) (bc bo bp:Nat):Prop where
 s:OkS E.s
 may:∀ t∈E.s,∀ r∈t.rels,r.refs.length=0->y0d 12 r.ex=true
 fnd:∀ t∈E.s,∀ r∈t.rels,r.refs.length=0->yr5 E.s t.name 12 r.ex=true
 n1:bp≠bc
 n2:bo≠bc
 n3:bo≠bp
 B:B<=100000
 len:∀ n,(E.of n).length<=100000
 okd:∀ n,∀ x∈E.of n,OkD x
structure StX (E:q1k) (B:Int) (bc bo bp:Nat) (es:List (AV×AV×Nat)) (w:Nat) (S:q00):Prop where
 c:q0m S bc=some (yp4,xpC E B bo bp w,5)
 p:∃ clk,q2f S bp=some (MD,es,clk)
 of:KMap MD ndA S bo (fun n=>ofA (E.of n))
 w:(w:Int)<=B
def Out (bc bp:Nat) (S S':q00):Prop:=∀ c,c≠bc->c≠bp->y01 S' c=y01 S c
def OutS (bc bp:Nat) (S S':q00):Prop:=∀ c o,c≠bc->c≠bp->y01 S c=some o->y01 S' c=some o
def cut (S S':q00):q00:=fun c=>match S c with
 | none=>none
 | some _=>S' c
section
variable {E:q1k} {B:Int} {bc bo bp:Nat} {S S' S2:q00} {es es':List (AV×AV×Nat)} {w w':Nat}
theorem y23 (c:Nat):y01 (cut S S') c=if (y01 S c).isSome then y01 S' c else none:=by
 show (match S c with | none=>none | some _=>S' c)=if (S c).isSome then S' c else none
 cases S c<;>rfl
theorem ymi:Sub (cut S S') S':=fun c o h=>by
 rw [y23] at h;split at h
 ·exact h
 ·cases h
theorem Out.s (h:Out bc bp S S'):OutS bc bp S S':=fun c o h1 h2 h3=>(h c h1 h2).trans h3
theorem OutS.refl:OutS bc bp S S:=fun _ _ _ _ h=>h
theorem OutS.trans (h:OutS bc bp S S') (k:OutS bc bp S' S2):OutS bc bp S S2:=fun c o h1 h2 h3=>k c o h1 h2 (h c o h1 h2 h3)
theorem OutS.supd (h:OutS bc bp S S') {b:Nat} {o:AObj} (hb:b=bc\/b=bp\/y01 S b=none):OutS bc bp S (supd S' b o):=fun c x h1 h2 h3=>by
 have:b≠c:=by
  rintro rfl;rcases hb with e | e | e
  ·exact h1 e
  ·exact h2 e
  ·rw [e] at h3;cases h3
 rw [q01,if_neg this];exact h c x h1 h2 h3
theorem StX.nc (h:StX E B bc bo bp es w S):y01 S bc≠none:=by rw [objAt_some.1 h.c];simp
theorem StX.np (h:StX E B bc bo bp es w S):y01 S bp≠none:=by obtain ⟨clk,h⟩:=h.p;rw [mapObj_some.1 h];simp
theorem StX.no (h:StX E B bc bo bp es w S):y01 S bo≠none:=by obtain ⟨es,clk,h,-⟩:=h.of;rw [mapObj_some.1 h];simp
theorem StX.mono (h:StX E B bc bo bp es w S) (h1:y01 S' bc=y01 S bc) (h2:y01 S' bp=y01 S bp) (h3:y01 S' bo=y01 S bo):StX E B bc bo bp es w S':=by
 obtain ⟨clk,hp⟩:=h.p;obtain ⟨es2,clk2,k1,k2,k3⟩:=h.of;exact ⟨objAt_some.2 (h1.trans (objAt_some.1 h.c)),⟨clk,mapObj_some.2 (h2.trans (mapObj_some.1 hp))⟩,⟨es2,clk2,mapObj_some.2 (h3.trans (mapObj_some.1 k1)),k2,k3⟩,h.w⟩
theorem StX.upd (h:StX E B bc bo bp es w S) {b:Nat} (hb:b≠bc/\b≠bp/\b≠bo) (o:AObj):StX E B bc bo bp es w (supd S b o):=
 h.mono (by rw [q01,if_neg hb.1]) (by rw [q01,if_neg hb.2.1]) (by rw [q01,if_neg hb.2.2])
theorem StX.ne (h:StX E B bc bo bp es w S) {b:Nat} (hb:y01 S b=none):b≠bc/\b≠bp/\b≠bo:=by
 refine ⟨?_,?_,?_⟩
 ·rintro rfl;exact h.nc hb
 ·rintro rfl;exact h.np hb
 ·rintro rfl;exact h.no hb
theorem StX.cut (h:StX E B bc bo bp es w S) (k:StX E B bc bo bp es' w' S'):StX E B bc bo bp es' w' (cut S S'):=by
 have g:∀ c,y01 S c≠none->y01 (Go.HL.cut S S') c=y01 S' c:=fun c hc=>by
  rw [y23,if_pos];cases hq:y01 S c with
  | none=>exact absurd hq hc
  | some _=>rfl
 exact k.mono (g _ h.nc) (g _ h.np) (g _ h.no)
theorem OutS.cut (h:OutS bc bp S S'):Out bc bp S (cut S S'):=fun c h1 h2=>by
 rw [y23];cases hq:y01 S c with
 | none=>rfl
 | some o=>
  simp only [Option.isSome_some,if_true];exact h c o h1 h2 hq
theorem StX.work (h:StX E B bc bo bp es w S) (hn:x2g E B bc bo bp) (hw:(w':Int)<=B):StX E B bc bo bp es w' (Go.HL.supd S bc (.cells yp4 (xpC E B bo bp w') 5)):=by
 obtain ⟨clk,hp⟩:=h.p;exact ⟨by rw [objAt_supd,if_pos rfl],⟨clk,by rw [y1m,if_neg (Ne.symm hn.n1)];exact hp⟩,h.of.upd (Ne.symm hn.n2) _,hw⟩
end
def q6k (E:q1k) (B:Int) (bc bo bp:Nat) (es:List (AV×AV×Nat)) (S:q00) (q:Option (Nt×Nat)) (ae:AEnd) (S':q00):Prop:=match q with
 | some (t,w')=>ae=.ret (.agg (ntC t))/\StX E B bc bo bp es w' S'/\Out bc bp S S'
 | none=>ae=.pan spX/\OutS bc bp S S'
def ya1 (E:q1k) (B:Int) (bc bo bp:Nat) (node:y2n) (es:List (AV×AV×Nat)):Prop:=∀ (o:Ob) (r:Rl) (n:ByteArray) (i k:Nat),OkO o->q0d E.s o.ty n=some (i,k,r)->∀ (w:Nat) (S:q00),StX E B bc bo bp es w S ->
 ACalls PG x5j [.ptr bc 0,.agg (obC o),.agg (rlC r)] S (q6k E B bc bo bp es S (node o r w))
section
variable {E:q1k} {B:Int} {bc bo bp:Nat} {S S' S2:q00} {es es':List (AV×AV×Nat)} {w w':Nat}
theorem yew {QF:AEnd->q00->Prop} {b t tot:Nat} {cs cs':List AV} (ho:q0m S' b=some (t,cs,tot)) (hl:cs.length=3) (hf:Frs (cut S S') S' cs cs') (hQ:QF (.ret (.agg cs')) (cut S S')):rtW [.cell (.ptr b 0) 3 true] QF S':=by
 refine q5d (cut S S') (.agg cs') ymi ?_ hQ;have:q4b S' [.cell (.ptr b 0) 3 true]=some [.agg cs]:=by
  unfold q4b q4b yz0;have:=objAt_some.1 ho;have hm:mkA true 3 cs=some (.agg cs):=by
   unfold mkA;rw [if_pos rfl,if_pos (by omega),lH (by omega)]
  simp only [cellsOf,this,List.drop_zero,Option.bind_some,hm]
 rw [this];exact Fr.ag hf
theorem yr9 {QF:AEnd->q00->Prop} {b:Nat} {t:Nt} {zs:List AV} (hz:zs.length=3) (h:StX E B bc bo bp es w S) (hb:y01 S b=none) (h1:StX E B bc bo bp es' w' S') (h2:OutS bc bp (supd S b (.cells y08 zs 3)) S')
  (hQ:∀ S2,StX E B bc bo bp es' w' S2->Out bc bp S S2->QF (.ret (.agg (ntC t))) S2):stW S' 3 (.ptr b 0) (.agg (ntC t)) fun S=>rtW [.cell (.ptr b 0) 3 true] QF S:=by
 have hne:=h.ne hb;have ho:=h2 b _ hne.1 hne.2.1 (by rw [q01,if_pos rfl])
 have e:q1t zs 0 (ntC t)=ntC t:=by
  have:=q4w (ntC t) zs 0 (by rw [q6v,hz])
  simpa using this
 unfold stW q5c;dsimp only;rw [objAt_some.2 ho];refine ⟨q6v t,by rw [hz];exact Nat.le_refl _,ye0 t,?_⟩
 have ea:q09 (.agg (ntC t))=ntC t:=rfl;rw [ea,e];have hS:OutS bc bp S (supd S' b (.cells y08 (ntC t) 3)):=by
  refine OutS.supd (fun c o k1 k2 k3=>h2 c o k1 k2 ?_) (.inr (.inr hb))
  rw [q01,if_neg (q0h hb k3)];exact k3
 refine yew (S:=S) (by rw [objAt_supd,if_pos rfl]) (q6v t) (Frs.same _) (hQ _ (h.cut (h1.upd hne _)) hS.cut)
theorem StX.fresh (h:StX E B bc bo bp es w S) {b:Nat} (hb:y01 S b=none) (o:AObj):StX E B bc bo bp es w (supd S b o):=h.upd (h.ne hb) o
theorem OutS.cell {b:Nat} {o:AObj} (h:OutS bc bp (Go.HL.supd S b o) S') (hb:y01 S b=none):OutS bc bp S S':=fun c x h1 h2 h3=>h c x h1 h2 (by rw [q01,if_neg (q0h hb h3)];exact h3)
theorem q5x {f:Nat} {args:List AV} {q:Option (Nt×Nat)} {b:Nat} {zs:List AV} (hz:zs.length=3) (h:StX E B bc bo bp es w S) (hb:y01 S b=none)
  (hc:ACalls PG f args (supd S b (.cells y08 zs 3)) (q6k E B bc bo bp es' (supd S b (.cells y08 zs 3)) q)) :
  caW PG (supd S b (.cells y08 zs 3)) (.func (.func f) [] []) args (fun v S'=>stW S' 3 (.ptr b 0) v fun S2=>rtW [.cell (.ptr b 0) 3 true] (q6k E B bc bo bp es' S q) S2) (pqW (q6k E B bc bo bp es' S q)):=by
 refine q0c hc ?_;intro ae S' hp;unfold q6k at hp;cases q with
 | none=>
  obtain ⟨rfl,hp⟩:=hp;exact ⟨rfl,hp.cell hb⟩
 | some p=>
  obtain ⟨t,w'⟩:=p;obtain ⟨rfl,h1,h2⟩:=hp;dsimp only;exact yr9 hz h hb h1 h2.s fun S2 k1 k2=>⟨rfl,k1,k2⟩
theorem ym2 {QF:AEnd->q00->Prop} {cs cs':List AV} (hl:cs.length=3) (hf:Frs (cut S S') S' cs cs') (hQ:QF (.ret (.agg cs')) (cut S S')):rtW [.cell (.rop cs) 3 true] QF S':=by
 refine q5d (cut S S') (.agg cs') ymi ?_ hQ;have:q4b S' [.cell (.rop cs) 3 true]=some [.agg cs]:=by
  unfold q4b q4b yz0;have hm:mkA true 3 cs=some (.agg cs):=by
   unfold mkA;rw [if_pos rfl,if_pos (by omega),lH (by omega)]
  simp only [cellsOf,Option.bind_some,hm]
 rw [this];exact Fr.ag hf
theorem x1e (hX:x2g E B bc bo bp) {o:Ob} {k:Int} {n ov lb:ByteArray} {a b:Ex} {fa fb:Nat->Option (Nt×Nat)}
  (ha:∀ (w:Nat) (S:q00),StX E B bc bo bp es w S->ACalls PG ye3 [.ptr bc 0,.agg (obC o),.agg (exC a)] S (q6k E B bc bo bp es S (fa w)))
  (hb:∀ (w:Nat) (S:q00),StX E B bc bo bp es w S->ACalls PG ye3 [.ptr bc 0,.agg (obC o),.agg (exC b)] S (q6k E B bc bo bp es S (fb w))) (hS:StX E B bc bo bp es w S) :
  ACalls PG yug [.ptr bc 0,.str lb,.agg (obC o),.agg [.int .i64 k,.str n,.str ov,.sl 4 [exC a,exC b]]] S (q6k E B bc bo bp es S (match fa w with
   | none=>none
   | some (x,w1)=>match fb w1 with
    | none=>none
    | some (y,w2)=>some (.mk lb [] [x,y],w2))):=by
 refine xdt ?_;unfold xat;(try simp only [rwp,zA,zB,zC,zD,zE,zF,zG,zH,zI,rwb,reduceIte,obC,q0f]);intro b8 hb8;have q:=ha w _ (hS.fresh hb8 (.cells y08 [.str ⟨#[]⟩,.nils,.nils] 3));simp only [obC,q0f] at q;(try simp only [rwp,zA,zB,zC,zD,zE,zF,zG,zH,zI,rwb,reduceIte]);refine q0c q ?_;intro ae S1 hp;unfold q6k at hp;cases hs:fa w with
 | none=>
  rw [hs] at hp;obtain ⟨rfl,hp⟩:=hp;exact ⟨rfl,hp.cell hb8⟩
 | some p=>
  obtain ⟨⟨l1,n1,k1⟩,w1⟩:=p;rw [hs] at hp;obtain ⟨rfl,h1,h2⟩:=hp;dsimp only;rw [q9j];refine yij rfl ?_;(try simp only [rwp,zA,zB,zC,zD,zE,zF,zG,zH,zI,rwb,reduceIte]);have q:=hb w1 _ h1;simp only [obC,q0f] at q;refine q0c q ?_;intro ae S2 hp;unfold q6k at hp;cases hs2:fb w1 with
  | none=>
   rw [hs2] at hp;obtain ⟨rfl,hp⟩:=hp;exact ⟨rfl,(h2.s.trans hp).cell hb8⟩
  | some p=>
   obtain ⟨⟨l2,n2,k2⟩,w2⟩:=p;rw [hs2] at hp;obtain ⟨rfl,h3,h4⟩:=hp;dsimp only;rw [q9j];have hne:=hS.ne hb8;have ho8:q0m S2 b8=some (y08,[.str ⟨#[]⟩,.nils,.nils],3):=objAt_some.2 (by rw [h4 b8 hne.1 hne.2.1,h2 b8 hne.1 hne.2.1,q01,if_pos rfl])
   (try simp only [rwp,zA,zB,zC,zD,zE,zF,zG,zH,zI,rwb,reduceIte,ylc,ho8]);have hS8:OutS bc bp S S2:=(h2.s.trans h4.s).cell hb8;refine ym2 (S:=S) (cs':=ntC (.mk lb [] [.mk l1 n1 k1,.mk l2 n2 k2])) rfl ?_ ?_
   ·simp only [q9j,lP,List.map_nil];exact .cons (.same _) (.cons (.nils 1) (.cons (.same _) .nil))
   ·have hS9:OutS bc bp S (y0f (supd S2 b8 (.cells y08 [.str lb,.nils,.sl 3 [[.str l1,.sl 1 (n1.map fun s=>[AV.str s]),.sl 3 (k1.map ntC)],[.str l2,.sl 1 (n2.map fun s=>[AV.str s]),.sl 3 (k2.map ntC)]]] 3)) b8):=fun c x u1 u2 u3=>by
     have:=q0h hb8 u3;rw [q0b,if_neg this,q01,if_neg this];exact hS8 c x u1 u2 u3
    refine ⟨rfl,hS.cut ?_,hS9.cut⟩;refine h3.mono ?_ ?_ ?_
    ·rw [q0b,if_neg hne.1,q01,if_neg hne.1]
    ·rw [q0b,if_neg hne.2.1,q01,if_neg hne.2.1]
    ·rw [q0b,if_neg hne.2.2,q01,if_neg hne.2.2]
theorem LstN.rebase {S0 S1 S:q00} {t sz:Nat} {v:AV} {rows:List (List AV)} (h:LstN S0 S t sz v rows) (hk:∀ b off n cap,v=.own b off n cap->y01 S1 b=none):LstN S1 S t sz v rows:=by
 obtain ⟨hr,⟨rfl,rfl⟩ | ⟨b,cap,rfl,h1,h2,h3,h4,h5⟩⟩:=h
 ·exact ⟨hr,.inl ⟨rfl,rfl⟩⟩
 ·exact ⟨hr,.inr ⟨b,cap,rfl,hk _ _ _ _ rfl,h2,h3,h4,h5⟩⟩
theorem yhs {s:List Ty} {ov:ByteArray} {node:y2n} {x:Nd} {r:List Nd} {ks:List Nt} {w:Nat}:q7t s ov node (x :: r) ks w=match q0d s x.o.ty ov with
  | none=>q7t s ov node r ks w
  | some (_,_,rl)=>if x.rl=⟨#[]⟩ then (match node x.o rl w with
   | none=>none
   | some (k,w')=>q7t s ov node r (ks++[k]) w') else q7t s ov node r ks w:=rfl
theorem ye8 {s:ByteArray} (h:q0r s=true):s.size<=1125899906842624:=by
 unfold q0r at h;simp only [Bool.and_eq_true,decide_eq_true_eq] at h;omega
structure Ls (v:AV) (xs:List Nd):Prop where
 ln:∀ {S:q00} {K:AV->Prop},K (.int .i64 xs.length)->lnW S 1 v K
 ia:∀ {i:Nat} {x:Nd} {K:AV->Prop},xs[i]?=some x->K (.rop (ndC x))->iaW 3 v (.int .i64 i) K
theorem yte (xs:List Nd):Ls (q2q false .nils (ofA xs)) xs:=by
 unfold ofA;split
 ·rename_i h
  subst h;exact ⟨fun h=>by show lnW _ 1 .nils _;rw [qaa];exact h,fun h=>by cases h⟩
 ·refine ⟨fun h=>?_,fun h hk=>?_⟩
  ·show lnW _ 1 (.sl 3 (xs.map ndC)) _;(try simp only [rwp,zA,zB,zC,zD,zE,zF,zG,zH,zI,rwb,reduceIte,lB]);exact h
  ·show iaW 3 (.sl 3 (xs.map ndC)) _ _;(try simp only [rwp,zA,zB,zC,zD,zE,zF,zG,zH,zI,rwb,reduceIte,lC,h]);exact hk
theorem yrj (hX:x2g E B bc bo bp) {node:y2n} (hnode:ya1 E B bc bo bp node es) {o:Ob} (ho:OkO o) {k:Int} {n ov:ByteArray} {ka:AV} (hn:n.size<=1125899906842624) (hov:ov.size<=1125899906842624) (hS:StX E B bc bo bp es w S) :
  ACalls PG yuh [.ptr bc 0,.agg (obC o),.agg [.int .i64 k,.str n,.str ov,ka]] S (q6k E B bc bo bp es S (match q7t E.s ov node (E.of ⟨o,n⟩) [] w with
   | none=>none
   | some (l,w')=>some (.mk (n++⟨#[46]⟩++ov) [] l,w'))):=by
 have hc:=q07 hS.c;refine xdu ?_;unfold xau;(try simp only [rwp,zA,zB,zC,zD,zE,zF,zG,zH,zI,rwb,reduceIte,obC,ByteArray.size_append]);intro b6 hb6;have hS6:=hS.fresh hb6 (.cells y08 [.str ⟨#[]⟩,.nils,.nils] 3);have hd:(ByteArray.mk #[46]).size=1:=rfl;refine ⟨by omega,by omega,fun b7 hb7=>?_⟩
 have hS7:=hS6.fresh hb7 (.cells y08 [.str (n++⟨#[46]⟩++ov),.nils,.nils] 3);obtain ⟨d76,hb7'⟩:=yaw hb7;generalize hlab:n++⟨#[46]⟩++ov=lab at hS7 ⊢;have n6:=hS.ne hb6;have n7:=hS.ne hb7';(try simp only [rwp,zA,zB,zC,zD,zE,zF,zG,zH,zI,rwb,reduceIte,n6.1,n7.1,hc,xpC]);generalize hS1:supd (supd S b6 (.cells y08 [.str ⟨#[]⟩,.nils,.nils] 3)) b7 (.cells y08 [.str lab,.nils,.nils] 3)=S1 at hS7 ⊢;refine KMap.lki hS7.of ke_nd ⟨o,n⟩ ?_;have hls:=yte (E.of ⟨o,n⟩);generalize q2q false .nils (ofA (E.of ⟨o,n⟩))=lv at hls ⊢;have hxl:=hX.len ⟨o,n⟩;have hxd:=hX.okd ⟨o,n⟩;generalize E.of ⟨o,n⟩=xs at hls hxl hxd ⊢;refine hls.ln ?_;have g7:y01 S1 b7=some (.cells y08 [.str lab,.nils,.nils] 3):=by rw [<- hS1,q01,if_pos rfl]
 have g6:y01 S1 b6=some (.cells y08 [.str ⟨#[]⟩,.nils,.nils] 3):=by rw [<- hS1,q01,if_neg d76,q01,if_pos rfl]
 have hO1:OutS bc bp S S1:=by rw [<- hS1];exact (OutS.refl.supd (.inr (.inr hb6))).supd (.inr (.inr hb7'))
 refine LoopP.introS (fun x:Nat×Nat×AV×List Nt=>[(0,.ptr bc 0),(5,.rop [.int .i64 k,.str n,.str ov,ka]),(6,.ptr b6 0),(7,.ptr b7 0),(27,lv),(28,.int .i64 xs.length),(29,.int .i64 x.1)])
  (fun x S'=>x.1<=xs.length/\x.2.2.2.length<=x.1/\StX E B bc bo bp es x.2.1 S'/\OutS bc bp S S'/\y01 S' b6=some (.cells y08 [.str ⟨#[]⟩,.nils,.nils] 3)/\y01 S' b7=some (.cells y08 [.str lab,.nils,x.2.2.1] 3) /\
   LstN emp S' y08 3 x.2.2.1 (x.2.2.2.map ntC)/\(∀ c,y01 S1 c≠none->q0v x.2.2.1 c)/\q7t E.s ov node (xs.drop x.1) x.2.2.2 x.2.1=q7t E.s ov node xs [] w) (fun x=>xs.length-x.1) (0,w,.nils,[])
  ⟨Nat.zero_le _,Nat.le_refl _,hS7,hO1,g6,g7,LstN.nil,fun c _ b off n cap h=>(by cases h),rfl⟩ rfl ?_
 rintro ⟨i,w1,v,ks⟩ S2 ⟨hi,hkl,h1,h2,h3,h4,h5,h6,h7⟩ kk hkk;dsimp only at hi hkl h1 h2 h3 h4 h5 h6 h7 ⊢;(try simp only [rwp,zA,zB,zC,zD,zE,zF,zG,zH,zI,rwb,reduceIte,ywv]);cases a1:decide ((i:Int)<xs.length)
 ·have e:i=xs.length:=by have:=of_decide_eq_false a1;omega
  subst e;rw [List.drop_length] at h7;have h7:some (ks,w1)=q7t E.s ov node xs [] w:=h7;rw [<- h7];have ho7:=objAt_some.2 h4;have hc7:=q07 ho7;have ho6:=objAt_some.2 h3;have hv1:one v=true:=h5.one;(try simp only [rwp,zA,zB,zC,zD,zE,zF,zG,zH,zI,rwb,reduceIte,ho6,hc7,hv1]);have hS3:OutS bc bp S (y0f (supd S2 b6 (.cells y08 [.str lab,.nils,v] 3)) b6):=fun c y u1 u2 u3=>by
   have:=q0h hb6 u3;rw [q0b,if_neg this,q01,if_neg this];exact h2 c y u1 u2 u3
  refine ym2 (S:=S) (cs':=ntC (.mk lab [] ks)) rfl ?_ ⟨rfl,hS.cut ?_,hS3.cut⟩
  ·rw [q9j];refine .cons (.same _) (.cons (.nils 1) (.cons (Fr.lst (t:=y08) ?_) .nil));refine (h5.keepAt (S':=y0f (supd S2 b6 (.cells y08 [.str lab,.nils,v] 3)) b6) fun b off m cap hv=>?_).rebase fun b off m cap hv=>?_
   ·have:=h6 b6 (by rw [g6];simp) _ _ _ _ hv
    rw [q0b,if_neg this,q01,if_neg this]
   rw [y23];have:=h6 b;cases hq:y01 S b with
   | none=>rfl
   | some y=>
    exfalso;have h1b:y01 S1 b≠none:=by
     have hb6':b6≠b:=q0h hb6 hq;have hb7'':b7≠b:=q0h hb7' hq;rw [<- hS1,q01,if_neg hb7'',q01,if_neg hb6',hq];simp
    exact this h1b _ _ _ _ hv rfl
  ·refine h1.mono ?_ ?_ ?_
   ·rw [q0b,if_neg n6.1,q01,if_neg n6.1]
   ·rw [q0b,if_neg n6.2.1,q01,if_neg n6.2.1]
   ·rw [q0b,if_neg n6.2.2,q01,if_neg n6.2.2]
 ·have hlt:=of_decide_eq_true a1;obtain ⟨x,hx⟩:=q0e hlt;have hxo:=hxd x (lA hx);rw [q0j hx,yhs] at h7;have hc2:=q07 h1.c;have on:∀ b:Bool,q7t E.s ov node (xs.drop (i+1)) ks w1=q7t E.s ov node xs [] w->rcW kk [(0,.ptr bc 0),(5,.rop [.int .i64 k,.str n,.str ov,ka]),(6,.ptr b6 0),(7,.ptr b7 0),(27,lv),(28,.int .i64 xs.length),(29,.int .i64 ((IntKind.i64.wrap ((i:Int)+1))))] S2:=by
   intro _ hf
   (simp (disch:=omega) only [q04])
   exact q08 rfl (hkk (i+1,w1,v,ks) S2 ⟨by dsimp only;omega,by dsimp only;omega,h1,h2,h3,h4,h5,h6,hf⟩ (by dsimp only;omega))
  (try simp only [rwp,zA,zB,zC,zD,zE,zF,zG,zH,zI,rwb,reduceIte]);refine hls.ia hx ?_;(try simp only [rwp,zA,zB,zC,zD,zE,zF,zG,zH,zI,rwb,reduceIte,ndC,hc2,xpC]);have q:=q1n hX.s x.o.ty ov S2;simp only [scA] at q;refine q0c q ?_;rintro ae S' ⟨rfl,rfl⟩;cases hq:q0d E.s x.o.ty ov with
  | none=>
   rw [hq] at h7;dsimp only at h7 ⊢;(try simp only [rwp,zA,zB,zC,zD,zE,zF,zG,zH,zI,rwb,reduceIte,y0v]);refine yij rfl ?_;(try simp only [rwp,zA,zB,zC,zD,zE,zF,zG,zH,zI,rwb,reduceIte,yab]);exact on true h7
  | some p=>
   obtain ⟨fi,fk,r⟩:=p;rw [hq] at h7;dsimp only at h7 ⊢;(try simp only [rwp,zA,zB,zC,zD,zE,zF,zG,zH,zI,rwb,reduceIte,q0k]);refine yij rfl ?_;cases a2:decide (x.rl=⟨#[]⟩)
   ·rw [if_neg (of_decide_eq_false a2)] at h7;(try simp only [rwp,zA,zB,zC,zD,zE,zF,zG,zH,zI,rwb,reduceIte,yab]);exact on true h7
   ·rw [if_pos (of_decide_eq_true a2)] at h7;have ho7:=objAt_some.2 h4;have hc7:=q07 ho7;(try simp only [rwp,zA,zB,zC,zD,zE,zF,zG,zH,zI,rwb,reduceIte,yab,hc7]);have q:=hnode x.o r ov fi fk hxo.o hq w1 _ h1;simp only [obC,q0k] at q;refine q0c q ?_;intro ae S3 hp;unfold q6k at hp;cases hs:node x.o r w1 with
    | none=>
     rw [hs] at hp h7;obtain ⟨rfl,hp⟩:=hp;dsimp only at h7 ⊢
     show pqW _ _ _;unfold pqW;rw [<- h7];exact ⟨rfl,h2.trans hp⟩
    | some p=>
     obtain ⟨t,w3⟩:=p;rw [hs] at hp h7;obtain ⟨rfl,k1,k2⟩:=hp;dsimp only at h7 ⊢;have d1:∀ c,y01 S1 c≠none->c=b6\/c=b7\/y01 S c≠none:=fun c hc=>by
      rw [<- hS1,q01,q01] at hc;split at hc
      ·rename_i e;exact .inr (.inl e.symm)
      ·split at hc
       ·rename_i e;exact .inl e.symm
       ·exact .inr (.inr hc)
     have s1:∀ c,y01 S c≠none->y01 S1 c≠none:=fun c hc=>by
      rw [<- hS1,q01,q01];split
      ·simp
      ·split
       ·simp
       ·exact hc
     have g36:y01 S3 b6=some (.cells y08 [.str ⟨#[]⟩,.nils,.nils] 3):=(k2 b6 n6.1 n6.2.1).trans h3;have g37:y01 S3 b7=some (.cells y08 [.str lab,.nils,v] 3):=(k2 b7 n7.1 n7.2.1).trans h4;have dom3:∀ c,y01 S1 c≠none->∃ o,y01 S3 c=some o:=fun c hc=>by
      have:y01 S3 c≠none:=by
       rcases d1 c hc with rfl | rfl | hc
       ·rw [g36];simp
       ·rw [g37];simp
       ·by_cases e1:c=bc
        ·rw [e1];exact k1.nc
        ·by_cases e2:c=bp
         ·rw [e2];exact k1.np
         ·cases hq:y01 S c with
          | none=>exact absurd hq hc
          | some o=>rw [(h2.trans k2.s) c o e1 e2 hq];simp
      cases hq:y01 S3 c with
      | none=>exact absurd hq this
      | some o=>exact ⟨o,rfl⟩
     refine ⟨fun u hu b hb=>(by rw [List.mem_singleton.1 hu] at hb;cases hb;exact k2 b7 n7.1 n7.2.1),⟨q6v t,rfl⟩,?_⟩
     have o3:LstN emp S3 y08 3 v (ks.map ntC):=h5.keepAt fun b off m cap hv=>k2 b (fun e=>h6 bc hS7.nc _ _ _ _ hv e.symm) (fun e=>h6 bp hS7.np _ _ _ _ hv e.symm)
     show apW S3 y08 3 64 v (.sl 3 [ntC t]) _;refine LstN.app (Sub.emp S3) o3 (fun r hr=>by rw [List.mem_singleton.1 hr];exact q6v t) (q1u fun r hr=>by rw [List.mem_singleton.1 hr];exact ye0 t) (by simp only [lB,lM];omega) fun v' S4 j1 j2 j3=>?_
     have keep:∀ c,y01 S1 c≠none->y01 S4 c=y01 S3 c/\q0v v' c:=fun c hc=>by
      obtain ⟨o,ho⟩:=dom3 c hc;obtain ⟨u1,u2⟩:=j3 c o ho (h6 c hc);exact ⟨u1.trans ho.symm,u2⟩
     have g47:=(keep b7 (by rw [g7];simp)).1.trans g37
     have ho47:=objAt_some.2 g47;have hv1:=j2.one;obtain ⟨ha1,-⟩:=y3n hv1;(try simp only [rwp,zA,zB,zC,zD,zE,zF,zG,zH,zI,rwb,reduceIte,ho47,hv1,ha1])
     (simp (disch:=omega) only [q04])
     refine q08 rfl (hkk (i+1,w3,v',ks++[t]) _ ⟨by dsimp only;omega,by simp only [lG,lM];omega,?_,?_,?_,?_,?_,fun c hc=>(keep c hc).2,h7⟩ (by dsimp only;omega))
     ·exact (k1.mono (keep bc hS7.nc).1 (keep bp hS7.np).1 (keep bo hS7.no).1).upd n7 _
     ·refine OutS.supd (fun c o u1 u2 u3=>?_) (.inr (.inr hb7'))
      rw [(keep c (s1 c (by rw [u3];simp))).1]
      exact (h2.trans k2.s) c o u1 u2 u3
     ·rw [q01,if_neg d76,(keep b6 (by rw [g6];simp)).1]
      exact g36
     ·rw [q01,if_pos rfl]
     ·rw [lE];exact LstN.upd j2 (keep b7 (by rw [g7];simp)).2 _
theorem ymo (hX:x2g E B bc bo bp) {node:y2n} (hnode:ya1 E B bc bo bp node es) {o:Ob} (ho:OkO o):∀ (m:Nat) (e:Ex),y0d m e=true->yr5 E.s o.ty m e=true->∀ (w:Nat) (S:q00),StX E B bc bo bp es w S ->
  ACalls PG ye3 [.ptr bc 0,.agg (obC o),.agg (exC e)] S (q6k E B bc bo bp es S (xeQ E node o m e w))
 | 0,e,hm,_,w,S,hS=>by cases hm
 | m+1,.mk k n ov ks,hm,hf,w,S,hS=>by
  have ih:=ymo hX hnode ho m;have hc:=q07 hS.c;unfold y0d at hm;unfold yr5 at hf;refine xev ?_;unfold xbv xeQ;(try simp only [rwp,zA,zB,zC,zD,zE,zF,zG,zH,zI,rwb,reduceIte,obC,q0f,Ex.kind,Ex.name,Ex.over,Ex.kids]);intro b6 hb6;have hS6:=hS.fresh hb6 (.cells y08 [.str ⟨#[]⟩,.nils,.nils] 3)
  (refine q03 (fun k0=>?_) (fun k0=>?_)<;>(try simp only [hlc] at k0))
  ·rw [if_pos k0] at hf ⊢;have hc6:=q07 hS6.c;(try simp only [rwp,zA,zB,zC,zD,zE,zF,zG,zH,zI,rwb,reduceIte,hc6,xpC]);have q:=q1n hX.s o.ty n (supd S b6 (.cells y08 [.str ⟨#[]⟩,.nils,.nils] 3));simp only [scA] at q;refine q0c q ?_;rintro ae S' ⟨rfl,rfl⟩;cases hq:q0d E.s o.ty n with
   | none=>rw [hq] at hf;cases hf
   | some p=>
    obtain ⟨i,j,r⟩:=p;dsimp only;(try simp only [rwp,zA,zB,zC,zD,zE,zF,zG,zH,zI,rwb,reduceIte,q0k]);refine yij rfl ?_;(try simp only [rwp,zA,zB,zC,zD,zE,zF,zG,zH,zI,rwb,reduceIte]);have q:=hnode o r n i j ho hq w _ hS6;simp only [obC,q0k] at q;have:=q5x (q:=node o r w) rfl hS hb6 q;exact this
  ·rw [if_neg k0] at hm hf ⊢
   (refine q03 (fun k1=>?_) (fun k1=>?_)<;>(try simp only [hlc] at k1))
   ·rw [if_pos k1] at hm ⊢;simp only [Bool.and_eq_true] at hm;have q:=yrj (k:=k) (ka:=.sl 4 (ks.map exC)) hX hnode ho (ye8 hm.1) (ye8 hm.2.1) hS6;simp only [obC] at q;exact q5x rfl hS hb6 q
   ·rw [if_neg k1] at hm hf ⊢;have hk:k=2\/k=3\/k=4:=by
     refine Classical.byContradiction fun hn=>?_
     rw [if_neg hn] at hm;cases hm
    rw [if_pos hk] at hm;obtain ⟨a,b,rfl⟩:∃ a b,ks=[a,b]:=by
     match ks,hm with
     | [a,b],_=>exact ⟨a,b,rfl⟩
     | [],hm=>cases hm
     | [_],hm=>cases hm
     | _ :: _ :: _ :: _,hm=>cases hm
    simp only [two,Bool.and_eq_true] at hm hf;obtain ⟨ma,mb⟩:=hm;obtain ⟨fa,fb⟩:=hf;have q:=fun lb=>x1e (k:=k) (n:=n) (ov:=ov) (lb:=lb) hX (ih a ma fa) (ih b mb fb) hS6
    simp only [obC] at q;rcases hk with rfl | rfl | rfl
    ·(try simp only [rwp,zA,zB,zC,zD,zE,zF,zG,zH,zI,rwb,reduceIte,hwR,reduceCtorEq,Int.reduceEq]);simp only [<- q3s];exact q5x rfl hS hb6 (q ⟨#[111,114]⟩)
    ·(try simp only [rwp,zA,zB,zC,zD,zE,zF,zG,zH,zI,rwb,reduceIte,hwR,reduceCtorEq,Int.reduceEq]);simp only [<- q3s];exact q5x rfl hS hb6 (q ⟨#[97,110,100]⟩)
    ·(try simp only [rwp,zA,zB,zC,zD,zE,zF,zG,zH,zI,rwb,reduceIte,hwR,reduceCtorEq,Int.reduceEq]);simp only [<- q3s];exact q5x rfl hS hb6 (q ⟨#[110,111,116]⟩)
end
set_option maxRecDepth 4000
section
variable {E:q1k} {B:Int} {bc bo bp:Nat} {S S' S2:q00} {es es':List (AV×AV×Nat)} {w w':Nat}
theorem ymh (hS:StX E B bc bo bp es w S) (hT:StX E B bc bo bp es' w' S') (h:OutS bc bp S S') {b:Nat} (hb:y01 S' b=none):y01 S b=none:=by
 cases hq:y01 S b with
 | none=>rfl
 | some o=>
  exfalso;by_cases e1:b=bc
  ·subst e1;exact hT.nc hb
  ·by_cases e2:b=bp
   ·subst e2;exact hT.np hb
   ·rw [h b o e1 e2 hq] at hb;cases hb
theorem y6d {b6 t1 t2:Nat} {lab:ByteArray} {v1 v2:AV} {ns:List ByteArray} {ks:List Nt} (hS:StX E B bc bo bp es w S) (hb6:y01 S b6=none) (h1:StX E B bc bo bp es' w' S') (h2:OutS bc bp S S')
  (l1:LstN emp S' t1 1 v1 (ns.map fun s=>[AV.str s])) (l2:LstN emp S' t2 3 v2 (ks.map ntC)) (a1:∀ c,y01 S c≠none->q0v v1 c/\q0v v2 c) (a6:q0v v1 b6/\q0v v2 b6) :
  rtW [.cell (.ptr b6 0) 3 true] (q6k E B bc bo bp es' S (some (.mk lab ns ks,w'))) (supd S' b6 (.cells y08 [.str lab,v1,v2] 3)):=by
 have n6:=hS.ne hb6;have hS3:OutS bc bp S (supd S' b6 (.cells y08 [.str lab,v1,v2] 3)):=OutS.supd h2 (.inr (.inr hb6));refine yew (S:=S) (cs':=ntC (.mk lab ns ks)) (by rw [objAt_supd,if_pos rfl]) rfl ?_ ⟨rfl,hS.cut (h1.upd n6 _),hS3.cut⟩
 have base:∀ {v:AV} {t sz:Nat} {rows:List (List AV)},LstN emp S' t sz v rows->(∀ c,y01 S c≠none->q0v v c)->q0v v b6->Fr (cut S (supd S' b6 (.cells y08 [.str lab,v1,v2] 3))) (supd S' b6 (.cells y08 [.str lab,v1,v2] 3)) v (.sl sz rows):=by
  intro v t sz rows hl ha hb;refine Fr.lst (t:=t) ((hl.upd hb _).rebase fun b off m cap hv=>?_)
  rw [y23];cases hq:y01 S b with
  | none=>rfl
  | some y=>exact absurd rfl (ha b (by rw [hq];simp) _ _ _ _ hv)
 rw [q9j];exact .cons (.same _) (.cons (base l1 (fun c hc=>(a1 c hc).1) a6.1) (.cons (base l2 (fun c hc=>(a1 c hc).2) a6.2) .nil))
theorem q4a (c:Nat):q0v .nils c:=fun b off n cap h=>by cases h
theorem q8e {b n cap c:Nat} (h:c≠b):q0v (.own b 0 n cap) c:=fun b' off n' cap' h'=>by cases h';exact h
theorem yfb (hX:x2g E B bc bo bp) {fu:Nat} {P:List Nd} (hP:PathE es P) (hl:P.length+fu=50) {t:List Nd->y2n} (ht0:fu=0->t=fun _ _ _ _=>none)
  (ht1:∀ f,fu=f+1->∃ g:List Nd->y2n,t=xnT E g/\∀ P es,PathE es P->P.length+f=50->ya1 E B bc bo bp (g P) es):ya1 E B bc bo bp (xnS B t P) es:=by
 intro o r n fi fk ho hf w S hS;obtain ⟨hti,ty,hty,hrn,hk⟩:=q0z hf;have hr:r.refs.length=0->y0d 12 r.ex=true:=hX.may ty (lA hty) r (lA hk);have hr2:r.refs.length=0->yr5 E.s ty.name 12 r.ex=true:=hX.fnd ty (lA hty) r (lA hk);have hc:=q07 hS.c;have hoc:=hS.c;have hrs:r.name.size<=1125899906842624:=((hX.s.at hty).at hk).name;have hB:=hX.B;refine xiq ?_;unfold xh2;(try simp only [rwp,zA,zB,zC,zD,zE,zF,zG,zH,zI,rwb,reduceIte,obC,q0k]);intro b6 hb6;have hS6:=hS.fresh hb6 (.cells y08 [.str ⟨#[]⟩,.nils,.nils] 3);have n6:=hS.ne hb6;have q:=q2z ho;simp only [obC] at q;refine q05 q ?_;have hol:=q66 ho;have hd:(ByteArray.mk #[35]).size=1:=rfl;(try simp only [rwp,zA,zB,zC,zD,zE,zF,zG,zH,zI,rwb,reduceIte,ByteArray.size_append]);refine ⟨by omega,by omega,fun b7 hb7=>?_⟩
 obtain ⟨d76,hb7'⟩:=yaw hb7;have n7:=hS.ne hb7';generalize hlab:q4r o++⟨#[35]⟩++r.name=lab;(try simp only [rwp,zA,zB,zC,zD,zE,zF,zG,zH,zI,rwb,reduceIte,n6.1,n7.1,hc,xpC,hoc,Ne.symm n6.1,Ne.symm n7.1]);have hlab':xcn o r=lab:=hlab;have hw:=hS.w
 (simp (disch:=omega) only [q04])
 have hT0:OutS bc bp S (supd (supd (supd S b6 (.cells y08 [.str ⟨#[]⟩,.nils,.nils] 3)) b7 (.cells y08 [.str lab,.nils,.nils] 3)) bc (.cells yp4 [.sl 2 (E.s.map tyC),.map (some bo),.int .i64 B,.int .i64 ((w:Int)+1),.map (some bp)] 5)):=
  ((OutS.refl.supd (.inr (.inr hb6))).supd (.inr (.inr hb7'))).supd (.inl rfl)
 have gT6:y01 (supd (supd (supd S b6 (.cells y08 [.str ⟨#[]⟩,.nils,.nils] 3)) b7 (.cells y08 [.str lab,.nils,.nils] 3)) bc (.cells yp4 [.sl 2 (E.s.map tyC),.map (some bo),.int .i64 B,.int .i64 ((w:Int)+1),.map (some bp)] 5)) b6=some (.cells y08 [.str ⟨#[]⟩,.nils,.nils] 3):=by
  rw [q01,if_neg (Ne.symm n6.1),q01,if_neg d76,q01,if_pos rfl]
 have gT7:y01 (supd (supd (supd S b6 (.cells y08 [.str ⟨#[]⟩,.nils,.nils] 3)) b7 (.cells y08 [.str lab,.nils,.nils] 3)) bc (.cells yp4 [.sl 2 (E.s.map tyC),.map (some bo),.int .i64 B,.int .i64 ((w:Int)+1),.map (some bp)] 5)) b7=some (.cells y08 [.str lab,.nils,.nils] 3):=by
  rw [q01,if_neg (Ne.symm n7.1),q01,if_pos rfl]
 have hTs:¬ B<(w:Int)+1->StX E B bc bo bp es (w+1) (supd (supd (supd S b6 (.cells y08 [.str ⟨#[]⟩,.nils,.nils] 3)) b7 (.cells y08 [.str lab,.nils,.nils] 3)) bc (.cells yp4 [.sl 2 (E.s.map tyC),.map (some bo),.int .i64 B,.int .i64 ((w:Int)+1),.map (some bp)] 5)):=fun h=>
  StX.work ((hS.fresh hb6 _).upd n7 _) hX (by omega)
 generalize supd (supd (supd S b6 _) b7 _) bc _=T at hT0 gT6 gT7 hTs ⊢;unfold xnS;cases a1:decide (B<(w:Int)+1)
 ·have b1:=of_decide_eq_false a1;rw [if_neg b1];have hT:=hTs b1;have hcT:=q07 hT.c;(try simp only [rwp,zA,zB,zC,zD,zE,zF,zG,zH,zI,rwb,reduceIte,x8y,hcT,xpC]);have hKp:KMap MD ndA T bp (fun n=>if n∈P then some (.bool true) else none):=by
   obtain ⟨clk,hp⟩:=hT.p;exact ⟨es,clk,hp,fun x hx=>(by obtain ⟨n,e⟩:=hP.key x hx;rw [e];exact ke_nd.ok n),hP.get⟩
  have ho6:=objAt_some.2 gT6;have ho7:=objAt_some.2 gT7;refine KMap.lki hKp ke_nd ⟨o,r.name⟩ ?_;by_cases hn:(⟨o,r.name⟩:Nd)∈P
  ·simp only [if_pos hn];(try simp only [rwp,zA,zB,zC,zD,zE,zF,zG,zH,zI,rwb,reduceIte]);refine ⟨⟨rfl,rfl,trivial⟩,fun b hb=>?_⟩
   have hbS:=ymh hS hT hT0 hb;have d6:b≠b6:=by rintro rfl;rw [gT6] at hb;cases hb
   have d7:b≠b7:=by rintro rfl;rw [gT7] at hb;cases hb
   (try simp only [rwp,zA,zB,zC,zD,zE,zF,zG,zH,zI,rwb,reduceIte,ho6,ho7,d6,d7,Ne.symm d6,Ne.symm d7,d76,Ne.symm d76]);rw [hlab'];refine y6d (t1:=ypj) (t2:=y08) (S':=supd (supd T b (.cells ypj [.str ⟨#[46,46]⟩] 1)) b7 (.cells y08 [.str lab,.own b 0 1 1,.nils] 3)) hS hb6 ((hT.fresh hb _).upd n7 _) ((hT0.supd (.inr (.inr hbS))).supd (.inr (.inr hb7'))) ?_ LstN.nil (fun c hc=>⟨q8e (by rintro rfl;exact hc hbS),q4a c⟩) ⟨q8e (Ne.symm d6),q4a _⟩
   refine ⟨fun r hr=>by rw [List.mem_singleton.1 hr];rfl,.inr ⟨b,1,rfl,rfl,?_,Nat.le_refl _,by decide,by decide⟩⟩
   rw [q01,if_neg (Ne.symm d7),q01,if_pos rfl];rfl
  ·simp only [if_neg hn];obtain ⟨clk,hmp⟩:=hT.p;(try simp only [rwp,zA,zB,zC,zD,zE,zF,zG,zH,zI,rwb,reduceIte,y63,hmp,q7o]);have hen:=hP.len;by_cases hf0:fu=0
   ·rw [decide_eq_true (show ((es.length:Int)=50) by omega)]
    (try simp only [rwp,zA,zB,zC,zD,zE,zF,zG,zH,zI,rwb,reduceIte]);rw [ht0 hf0];exact q5o ⟨rfl,hT0⟩
   ·rw [decide_eq_false (show ¬ ((es.length:Int)=50) by omega)]
    obtain ⟨f,hf1⟩:∃ f,fu=f+1:=⟨fu-1,by omega⟩
    obtain ⟨g,rfl,hg⟩:=ht1 f hf1;unfold xnT;rw [hlab'];(try simp only [rwp,zA,zB,zC,zD,zE,zF,zG,zH,zI,rwb,reduceIte,x8x])
    (refine q03 (fun h0=>?_) (fun h0=>?_)<;>(try simp only [hlc] at h0))
    ·rw [if_neg (show ¬ r.refs.length=0 by omega)]
     (try simp only [rwp,zA,zB,zC,zD,zE,zF,zG,zH,zI,rwb,reduceIte,hcT,xpC]);refine KMap.lki hT.of ke_nd ⟨o,r.name⟩ ?_;have hls:=yte (E.of ⟨o,r.name⟩);generalize q2q false .nils (ofA (E.of ⟨o,r.name⟩))=lv at hls ⊢;have hxl:=hX.len ⟨o,r.name⟩;have hxd:=hX.okd ⟨o,r.name⟩;generalize E.of ⟨o,r.name⟩=xs at hls hxl hxd ⊢;refine hls.ln ?_;refine LoopP.introS (fun x:Nat×AV=>[(6,.ptr b6 0),(7,.ptr b7 0),(68,lv),(69,.int .i64 xs.length),(70,.int .i64 x.1)])
      (fun x S'=>x.1<=xs.length/\(∀ c,c≠b7->y01 T c≠none->y01 S' c=y01 T c)/\y01 S' b7=some (.cells y08 [.str lab,x.2,.nils] 3)/\LstN emp S' ypj 1 x.2 (((xs.take x.1).map q54).map fun s=>[AV.str s])/\∀ c,y01 T c≠none->q0v x.2 c) (fun x=>xs.length-x.1) (0,.nils)
      ⟨Nat.zero_le _,fun _ _ _=>rfl,gT7,LstN.nil,fun c _=>q4a c⟩ rfl ?_
     rintro ⟨i,v⟩ S2 ⟨hi,k1,k2,k3,k4⟩ kk hkk;dsimp only at hi k1 k2 k3 k4 ⊢;have st2:StX E B bc bo bp es (w+1) S2:=hT.mono (k1 bc (Ne.symm n7.1) hT.nc) (k1 bp (Ne.symm n7.2.1) hT.np) (k1 bo (Ne.symm n7.2.2) hT.no);have out2:OutS bc bp S S2:=fun c x u1 u2 u3=>by
      have h:=hT0 c x u1 u2 u3;rw [k1 c (Ne.symm (q0h hb7' u3)) (by rw [h];simp)]
      exact h
     have g6:y01 S2 b6=some (.cells y08 [.str ⟨#[]⟩,.nils,.nils] 3):=(k1 b6 (Ne.symm d76) (by rw [gT6];simp)).trans gT6
     have o6:=objAt_some.2 g6;have o7:=objAt_some.2 k2;have c7:=q07 o7;have hv1:=k3.one;obtain ⟨ha1,-⟩:=y3n hv1;(try simp only [rwp,zA,zB,zC,zD,zE,zF,zG,zH,zI,rwb,reduceIte,x8w]);cases a2:decide ((i:Int)<xs.length)
     ·have e:i=xs.length:=by have:=of_decide_eq_false a2;omega
      subst e;rw [lU] at k3;(try simp only [rwp,zA,zB,zC,zD,zE,zF,zG,zH,zI,rwb,reduceIte,o6,c7,hv1]);exact y6d hS hb6 st2 out2 k3 (LstN.nil (t:=y08)) (fun c hc=>⟨k4 c (fun h=>hc (ymh hS hT hT0 h)),q4a c⟩) ⟨k4 b6 (by rw [gT6];simp),q4a _⟩
     ·have hlt:=of_decide_eq_true a2;obtain ⟨x,hx⟩:=q0e hlt;have hxo:=hxd x (lA hx);(try simp only [rwp,zA,zB,zC,zD,zE,zF,zG,zH,zI,rwb,reduceIte]);refine hls.ia hx ?_;(try simp only [rwp,zA,zB,zC,zD,zE,zF,zG,zH,zI,rwb,reduceIte,ndC,c7]);have q:=q48 hxo;simp only [ndC] at q;refine q05 q ?_;(try simp only [rwp,zA,zB,zC,zD,zE,zF,zG,zH,zI,rwb,reduceIte]);have hll:((xs.take i).map q54).length<=i:=by rw [lB];exact List.length_take_le _ _
      refine LstN.app (Sub.emp S2) k3 (xs:=[[.str (q54 x)]]) (fun r hr=>by rw [List.mem_singleton.1 hr];rfl) (q1u fun r hr=>by rw [List.mem_singleton.1 hr];rfl) (by simp only [lB,lM] at hll ⊢;omega) fun v' S4 j1 j2 j3=>?_
      have keep:∀ c,y01 T c≠none->y01 S4 c=y01 S2 c/\q0v v' c:=fun c hc=>by
       have:y01 S2 c≠none:=by
        by_cases e:c=b7
        ·rw [e,k2];simp
        ·rw [k1 c e hc];exact hc
       cases hq:y01 S2 c with
       | none=>exact absurd hq this
       | some o=>exact j3 c o hq (k4 c hc)
      have g47:=(keep b7 (by rw [gT7];simp)).1.trans k2
      have o47:=objAt_some.2 g47;have hv2:=j2.one;obtain ⟨ha2,-⟩:=y3n hv2;(try simp only [rwp,zA,zB,zC,zD,zE,zF,zG,zH,zI,rwb,reduceIte,o47,hv2,ha2])
      (simp (disch:=omega) only [q04])
      refine q08 rfl (hkk (i+1,v') _ ⟨by dsimp only;omega,fun c u1 u2=>?_,?_,?_,fun c hc=>(keep c hc).2⟩ (by dsimp only;omega))
      ·rw [q01,if_neg (Ne.symm u1),(keep c u2).1];exact k1 c u1 u2
      ·rw [q01,if_pos rfl]
      ·rw [q0w hx,lE,lE];exact LstN.upd j2 (keep b7 (by rw [gT7];simp)).2 _
    ·rw [if_pos (show r.refs.length=0 by omega)]
     (try simp only [rwp,zA,zB,zC,zD,zE,zF,zG,zH,zI,rwb,reduceIte,hcT,xpC]);have hg0:y0e es (ndA ⟨o,r.name⟩)=none:=by rw [hP.get,if_neg hn]
     have hset:y0m es (ndA ⟨o,r.name⟩) (.bool true) clk=(es++[(ndA ⟨o,r.name⟩,.bool true,clk)],clk+1):=by
      unfold y0m;rw [q4t hg0]
     have e2:y0m es (.agg [.str o.ty,.str o.id,.str r.name]) (.bool true) clk=(es++[(ndA ⟨o,r.name⟩,.bool true,clk)],clk+1):=hset;(try simp only [rwp,zA,zB,zC,zD,zE,zF,zG,zH,zI,rwb,reduceIte,y1k,hmp]);rw [e2];dsimp only;have hT':StX E B bc bo bp (es++[(ndA ⟨o,r.name⟩,.bool true,clk)]) (w+1) (supd T bp (.map MD (es++[(ndA ⟨o,r.name⟩,.bool true,clk)]) (clk+1))):=
      ⟨by rw [q3k,if_neg hX.n1];exact hT.c,⟨clk+1,by rw [mapObj_supd_map,if_pos rfl]⟩,hT.of.upd (Ne.symm hX.n3) _,hT.w⟩
     have hnm:ty.name=o.ty:=by
      obtain ⟨⟨x,hx,h1⟩,-⟩:=firstI_some.1 hti;rw [hty] at hx;cases hx;exact of_decide_eq_true h1
     have hr0:r.refs.length=0:=by omega
     have q:=ymo hX (hg (⟨o,r.name⟩ :: P) _ (hP.push hn clk) (by simp only [lD];omega)) ho 12 r.ex (hr hr0) (by rw [<- hnm];exact hr2 hr0) (w+1) _ hT'
     simp only [obC,q0f] at q;refine q0c q ?_;intro ae S3 hp;unfold q6k at hp;cases hs:xeQ E (g (⟨o,r.name⟩ :: P)) o 12 r.ex (w+1) with
     | none=>
      rw [hs] at hp;obtain ⟨rfl,hp⟩:=hp;exact ⟨rfl,fun c x u1 u2 u3=>hp c x u1 u2 (by rw [q01,if_neg (Ne.symm u2)];exact hT0 c x u1 u2 u3)⟩
     | some p=>
      obtain ⟨kk,w3⟩:=p;rw [hs] at hp;obtain ⟨rfl,k1,k2⟩:=hp;dsimp only;have h3:∀ c,c≠bc->c≠bp->y01 S3 c=y01 T c:=fun c u1 u2=>by rw [k2 c u1 u2,q01,if_neg (Ne.symm u2)]
      refine ⟨⟨q6v kk,rfl,trivial⟩,fun b hb=>?_⟩
      have hbb:=k1.ne hb;have hbS:y01 S b=none:=by
       refine ymh hS hT hT0 ?_;rw [<- h3 b hbb.1 hbb.2.1];exact hb
      have g6:=(h3 b6 n6.1 n6.2.1).trans gT6;have g7:=(h3 b7 n7.1 n7.2.1).trans gT7;have d6:b≠b6:=by rintro rfl;rw [g6] at hb;cases hb
      have d7:b≠b7:=by rintro rfl;rw [g7] at hb;cases hb
      have o6:=objAt_some.2 g6;have o7:=objAt_some.2 g7;have hc3:=q07 k1.c;obtain ⟨clk2,hm3⟩:=k1.p;(try simp only [rwp,zA,zB,zC,zD,zE,zF,zG,zH,zI,rwb,reduceIte,o6,o7,d6,d7,Ne.symm d6,Ne.symm d7,d76,Ne.symm d76,hc3,xpC,n7.1,hbb.1]);have hmb:∀ c,c=bp->y01 (supd (supd S3 b (.cells 70 (ntC kk++[]) 3)) b7 (.cells y08 [.str lab,.nils,.own b 0 1 1] 3)) c=some (.map MD (es++[(ndA ⟨o,r.name⟩,.bool true,clk)]) clk2):=by
       rintro c rfl;rw [q01,if_neg n7.2.1,q01,if_neg hbb.2.1];exact mapObj_some.1 hm3
      refine ⟨bp,es++[(ndA ⟨o,r.name⟩,.bool true,clk)],clk2,rfl,hmb bp rfl,ke_nd.ok ⟨o,r.name⟩,?_⟩;have hf':q16 (es++[(ndA ⟨o,r.name⟩,.bool true,clk)]) (.agg [.str o.ty,.str o.id,.str r.name])=some (es.length,.bool true,clk):=q8s (k:=ndA ⟨o,r.name⟩) (q3w (ke_nd.ok _)) (q4t hg0);rw [hf'];dsimp only;rw [List.eraseIdx_append_of_length_le (Nat.le_refl _),Nat.sub_self];simp only [List.eraseIdx_cons_zero,lJ];(try simp only [rwp,zA,zB,zC,zD,zE,zF,zG,zH,zI,rwb,reduceIte,o6,o7,d6,d7,Ne.symm d6,Ne.symm d7,d76,Ne.symm d76,n7.2.1,n6.2.1,Ne.symm n7.2.1,Ne.symm n6.2.1]);have hfin:StX E B bc bo bp es w3 (supd (supd (supd S3 b (.cells y08 (ntC kk) 3)) b7 (.cells y08 [.str lab,.nils,.own b 0 1 1] 3)) bp (.map MD es clk2)):=by
       have h1:=(k1.upd hbb (.cells y08 (ntC kk) 3)).upd n7 (.cells y08 [.str lab,.nils,.own b 0 1 1] 3);exact ⟨by rw [q3k,if_neg hX.n1];exact h1.c,⟨clk2,by rw [mapObj_supd_map,if_pos rfl]⟩,h1.of.upd (Ne.symm hX.n3) _,h1.w⟩
      have hout:OutS bc bp S (supd (supd (supd S3 b (.cells y08 (ntC kk) 3)) b7 (.cells y08 [.str lab,.nils,.own b 0 1 1] 3)) bp (.map MD es clk2)):=by
       refine OutS.supd (OutS.supd (OutS.supd (fun c x u1 u2 u3=>?_) (.inr (.inr hbS))) (.inr (.inr hb7'))) (.inr (.inl rfl))
       rw [h3 c u1 u2];exact hT0 c x u1 u2 u3
      refine y6d (t1:=ypj) (t2:=y08) hS hb6 hfin hout LstN.nil ?_ (fun c hc=>⟨q4a c,q8e (by rintro rfl;exact hc hbS)⟩) ⟨q4a _,q8e (Ne.symm d6)⟩
      refine ⟨fun r hr=>by rw [List.mem_singleton.1 hr];exact q6v kk,.inr ⟨b,1,rfl,rfl,?_,Nat.le_refl _,by decide,by simp⟩⟩
      rw [q01,if_neg (Ne.symm hbb.2.1),q01,if_neg (Ne.symm d7),q01,if_pos rfl];simp
 ·rw [if_pos (of_decide_eq_true a1)];(try simp only [rwp,zA,zB,zC,zD,zE,zF,zG,zH,zI,rwb,reduceIte]);exact q5o ⟨rfl,hT0⟩
theorem x1d (hX:x2g E B bc bo bp):∀ (fu:Nat) (P:List Nd) (es:List (AV×AV×Nat)),PathE es P->P.length+fu=50->ya1 E B bc bo bp (xnQ E B fu P) es:=by
 intro fu
 induction fu with
 | zero=>
  intro P es hP hl;exact yfb hX hP hl (fun _=>rfl) (fun f h=>by cases h)
 | succ fu ih=>
  intro P es hP hl;exact yfb hX hP hl (fun h=>by cases h) (fun f h=>by cases h;exact ⟨xnQ E B fu,rfl,ih⟩)
end
set_option maxRecDepth 4000
def yhh (s:List Ty) (B:Int):Bool:=decide (0<=B)&&(decide (B<=100000)&&decide (y0a (y06 s)=0))
theorem ymu {s:List Ty} (hs:OkS s) (hN:OkN s) (B:Int):y02 PG x5l [scA s,.int .i64 B] (.bool (yhh s B)):=by
 intro S;refine xiv ?_;unfold xh7 yhh;have q1:=q86 hs hN;obtain ⟨x,y,z,hc⟩:=yc7 s;have hz:y0a (y06 s)=z:=by rw [hc,q25]
 rw [hc] at q1;rw [hz];simp only [scA,flA] at q1;(try simp only [rwp,zA,zB,zC,zD,zE,zF,zG,zH,zI,rwb,reduceIte,scA]);cases a1:decide (0<=B)
 ·(try simp only [rwp,zA,zB,zC,zD,zE,zF,zG,zH,zI,rwb,reduceIte,ynz]);exact q02 ⟨rfl,rfl⟩
 ·cases a2:decide (B<=100000)
  ·(try simp only [rwp,zA,zB,zC,zD,zE,zF,zG,zH,zI,rwb,reduceIte,ynz]);exact q02 ⟨rfl,rfl⟩
  ·(try simp only [rwp,zA,zB,zC,zD,zE,zF,zG,zH,zI,rwb,reduceIte,ynz]);refine q05 q1 ?_;(try simp only [rwp,zA,zB,zC,zD,zE,zF,zG,zH,zI,rwb,reduceIte]);exact q02 ⟨rfl,rfl⟩
theorem ycf {s:List Ty} (hs:OkS s) {t:Tu} (ht:OkU t):y02 PG ykl ([]++[.agg (tuC t)]++[.rop [.sl 2 (s.map tyC)]]) (.bool (!decide (q1z s t=0))):=by
 intro S;refine xf0 ?_;unfold xc0;have q:=q5y hs ht;simp only [scA] at q;(try simp only [rwp,zA,zB,zC,zD,zE,zF,zG,zH,zI,rwb,reduceIte,tuC]);refine q05 q ?_;(try simp only [rwp,zA,zB,zC,zD,zE,zF,zG,zH,zI,rwb,reduceIte]);exact q02 ⟨rfl,rfl⟩
theorem y9f {s:List Ty} (hs:OkS s) {l:List Tu} (hl:OkL l) (S:q00) :
  ACalls PG yzz [scA s,.sl 6 (l.map tuC)] S fun ae S'=>∃ a,ae=.ret a/\Sub S S'/\LstW S S' y7b 6 a ((q0a s l).map tuC):=by
 refine xiu ?_;unfold xh6;have hn:=hl.n;(try simp only [rwp,zA,zB,zC,zD,zE,zF,zG,zH,zI,rwb,reduceIte,scA]);refine q0c (x1m (by omega) S) ?_
 rintro ae S1 ⟨a,rfl,h1,h2⟩;dsimp only;have q:=yn0 (g:=ykl) (fi:=[]) (ca:=[.rop [.sl 2 (s.map tyC)]]) (p:=fun t=>!decide (q1z s t=0)) h1 h2 (by omega) (fun i hi=>ycf hs (hl.ok _ (by
  have:at' l i=l[i]'hi:=by unfold at';simp [hi]
  rw [this];exact List.getElem_mem hi)))
 refine q0c q ?_;rintro ae S2 ⟨a',rfl,h3,h4⟩;dsimp only;(try simp only [rwp,zA,zB,zC,zD,zE,zF,zG,zH,zI,rwb,reduceIte]);refine q02 ⟨a',rfl,h3,?_⟩;rw [yj9] at h4;have e:(l.filter fun t=>!(!decide (q1z s t=0)))=q0a s l:=by
  unfold q0a
  congr 1
  funext t
  rw [Bool.not_not]
 rw [e] at h4;exact h4
def zNt:Nt:=.mk ⟨#[]⟩ [] []
def xT (t:Nt) (w e:Int):AV:=.tup [.agg (ntC t),.int .i64 w,.int .i64 e]
def yp3:Ob:=⟨⟨#[]⟩,⟨#[]⟩⟩
def xcq (s:List Ty) (l:List Tu) (B:Int) (n:Nd):AV:=
 if yhh s B=true then (match q0d s n.o.ty n.rl with
  | none=>xT zNt 0 6
  | some (_,_,r)=>match xnQ (y07 s l yp3) B 50 [] n.o r 0 with
   | none=>xT zNt 0 12
   | some (t,w)=>xT t w 0)
 else xT zNt 0 1
section
variable {S0 S1:q00} {b1 b2 b3 t1 t2 t3:Nat} {x2 x3:AV} {QF:AEnd->q00->Prop}
abbrev yz2 (b1 b2 b3:Nat):List RW:=[.cell (.ptr b1 0) 3 true,.cell (.ptr b2 0) 1 false,.cell (.ptr b3 0) 1 false]
theorem yz8 {cs zs cs':List AV} (h1:q0m S1 b1=some (t1,zs,3)) (hz:zs.length=3) (hl:cs.length=3) (h2:q0m S1 b2=some (t2,[x2],1)) (h3:q0m S1 b3=some (t3,[x3],1)) (d1:b1≠b2) (d2:b1≠b3) (d3:b2≠b3)
  (n1:y01 S0 b1=none) (n2:y01 S0 b2=none) (n3:y01 S0 b3=none) (hs:Sub S0 S1) {w e:Int} (ho:y09 cs=true) (hf:∀ S,Frs S0 S cs cs') (hQ:QF (.ret (.tup [.agg cs',.int .i64 w,.int .i64 e])) S0) :
  stW S1 3 (.ptr b1 0) (.agg cs) fun S=>stW S 1 (.ptr b2 0) (.int .i64 w) fun S=>stW S 1 (.ptr b3 0) (.int .i64 e) fun S=>rtW (yz2 b1 b2 b3) QF S:=by
 obtain ⟨c1,c2,c3,rfl⟩:∃ a b c,cs=[a,b,c]:=by
  match cs,hl with
  | [a,b,c],_=>exact ⟨a,b,c,rfl⟩
 obtain ⟨z1,z2,z3,rfl⟩:∃ a b c,zs=[a,b,c]:=by
  match zs,hz with
  | [a,b,c],_=>exact ⟨a,b,c,rfl⟩
 simp only [y09,Bool.and_eq_true] at ho;(try simp only [rwp,zA,zB,zC,zD,zE,zF,zG,zH,zI,rwb,reduceIte,h1,h2,h3,d1,d2,d3,Ne.symm d1,Ne.symm d2,Ne.symm d3,ho.1,ho.2.1,ho.2.2.1]);refine q5d S0 _ (Sub.supd n3 (Sub.supd n2 (Sub.supd n1 hs))) ?_ hQ;(try simp only [rwp,zA,zB,zC,zD,zE,zF,zG,zH,zI,rwb,reduceIte,h1,h2,h3,d1,d2,d3,Ne.symm d1,Ne.symm d2,Ne.symm d3]);exact Fr.tu (.cons (Fr.ag (hf _)) (.cons (.same _) (.cons (.same _) .nil)))
end
set_option maxRecDepth 4000
theorem ykc:∀ S0 S:q00,Frs S0 S [.str ⟨#[]⟩,.nils,.nils] (ntC zNt):=fun S0 S=>by
 unfold zNt;rw [q9j];exact .cons (.same _) (.cons (.nils 1) (.cons (.nils 3) .nil))
theorem x4x {s:List Ty} {l:List Tu} (hl:OkL l) {who:Ob} (n:Nd):∀ x∈(y07 s l who).of n,OkD x:=by
 intro x hx;obtain ⟨t,ht,rfl⟩:=List.mem_map.1 (show x∈(ofF (q0a s l) n).map Tu.s from hx)
 exact ((q46 hl).ok t (List.mem_filter.1 ht).1).s
theorem yrr {s:List Ty} (hs:OkS s) (hN:OkN s) {l:List Tu} (hl:OkL l) {n:Nd} (hno:OkO n.o) (B:Int) :
  y02 PG x00 [scA s,.sl 6 (l.map tuC),.agg (obC n.o),.str n.rl,.int .i64 B] (xcq s l B n):=by
 intro S
 suffices key:∀ QF:AEnd->q00->Prop,QF (.ret (xcq s l B n)) S->ACalls PG x00 [scA s,.sl 6 (l.map tuC),.agg (obC n.o),.str n.rl,.int .i64 B] S QF from key _ ⟨rfl,rfl⟩
 intro QF hQ;refine xjh ?_;unfold xg7;have q1:=ymu hs hN B;have q2:=q1n hs n.o.ty n.rl;simp only [scA] at q1 q2;(try simp only [rwp,zA,zB,zC,zD,zE,zF,zG,zH,zI,rwb,reduceIte,scA,obC]);intro b1 hb1 b2 hb2 b3 hb3;obtain ⟨d21,hb2'⟩:=yaw hb2;obtain ⟨d32,hb3'⟩:=yaw hb3;obtain ⟨d31,hb3'⟩:=yaw hb3';generalize hS3:supd _ b3 _=S3;have h31:q0m S3 b1=some (y08,[.str ⟨#[]⟩,.nils,.nils],3):=by rw [<- hS3];(try simp only [rwp,zA,zB,zC,zD,zE,zF,zG,zH,zI,rwb,reduceIte,d21,d31,d32,Ne.symm d21,Ne.symm d31,Ne.symm d32])
 have h32:q0m S3 b2=some (3,[.int .i64 0],1):=by rw [<- hS3];(try simp only [rwp,zA,zB,zC,zD,zE,zF,zG,zH,zI,rwb,reduceIte,d21,d31,d32,Ne.symm d21,Ne.symm d31,Ne.symm d32])
 have h33:q0m S3 b3=some (30,[.int .i64 0],1):=by rw [<- hS3];(try simp only [rwp,zA,zB,zC,zD,zE,zF,zG,zH,zI,rwb,reduceIte,d21,d31,d32,Ne.symm d21,Ne.symm d31,Ne.symm d32])
 have hs3:Sub S S3:=by rw [<- hS3];exact Sub.supd hb3' (Sub.supd hb2' (Sub.supd hb1 (Sub.refl _)))
 have c31:=q07 h31;refine q05 q1 ?_;unfold xcq at hQ;cases hm:yhh s B
 ·rw [hm,if_neg (by simp)] at hQ
  (try simp only [rwp,zA,zB,zC,zD,zE,zF,zG,zH,zI,rwb,reduceIte,c31]);exact yz8 h31 rfl rfl h32 h33 (Ne.symm d21) (Ne.symm d31) (Ne.symm d32) hb1 hb2' hb3' hs3 rfl (fun _=>ykc _ _) hQ
 ·rw [hm,if_pos rfl] at hQ;(try simp only [rwp,zA,zB,zC,zD,zE,zF,zG,zH,zI,rwb,reduceIte]);have hm':=hm;unfold yhh at hm';simp only [Bool.and_eq_true,decide_eq_true_eq] at hm';obtain ⟨hB0,hB1,hk⟩:=hm';have hg:=q2x hk;refine q0c (q2 _) ?_;rintro ae S' ⟨rfl,rfl⟩;cases hq:q0d s n.o.ty n.rl with
  | none=>
   rw [hq] at hQ;dsimp only at hQ ⊢;(try simp only [rwp,zA,zB,zC,zD,zE,zF,zG,zH,zI,rwb,reduceIte,y0v,c31]);exact yz8 h31 rfl rfl h32 h33 (Ne.symm d21) (Ne.symm d31) (Ne.symm d32) hb1 hb2' hb3' hs3 rfl (fun _=>ykc _ _) hQ
  | some p=>
   obtain ⟨i,k,r⟩:=p;rw [hq] at hQ;dsimp only at hQ ⊢;(try simp only [rwp,zA,zB,zC,zD,zE,zF,zG,zH,zI,rwb,reduceIte,q0k]);intro bo hbo bp hbp;obtain ⟨dpo,hbp'⟩:=yaw hbp;(try simp only [rwp,zA,zB,zC,zD,zE,zF,zG,zH,zI,rwb,reduceIte]);refine ⟨rfl,rfl,fun bc hbc=>?_⟩
   obtain ⟨dcp,hbc'⟩:=yaw hbc;obtain ⟨dco,hbc'⟩:=yaw hbc';have Sn:∀ {b:Nat},y01 S' b=none->b≠b1/\b≠b2/\b≠b3/\y01 S b=none:=by
    intro b hb;refine ⟨?_,?_,?_,?_⟩
    ·rintro rfl;rw [objAt_some.1 h31] at hb;cases hb
    ·rintro rfl;rw [objAt_some.1 h32] at hb;cases hb
    ·rintro rfl;rw [objAt_some.1 h33] at hb;cases hb
    ·cases hq:y01 S b with
     | none=>rfl
     | some o=>rw [hs3 b o hq] at hb;cases hb
   obtain ⟨o1,o2,o3,no⟩:=Sn hbo;obtain ⟨p1,p2,p3,np⟩:=Sn hbp';obtain ⟨c1,c2,c3,nc⟩:=Sn hbc';generalize hS5:supd _ bc _=S5;have g5:∀ c,y01 S5 c=if bc=c then some (.cells yp4 (xpC (y07 s l yp3) B bo bp 0) 5) else if bp=c then some (.map MD [] 0) else if bo=c then some (.map MD [] 0) else y01 S' c:=by
    intro c;rw [<- hS5,q01,q01,q01];rfl
   have f5:Sub S S5:=by rw [<- hS5];exact Sub.supd nc (Sub.supd np (Sub.supd no hs3))
   have s51:y01 S5 b1=some (.cells y08 [.str ⟨#[]⟩,.nils,.nils] 3):=by rw [g5,if_neg c1,if_neg p1,if_neg o1];exact objAt_some.1 h31
   have s52:y01 S5 b2=some (.cells 3 [.int .i64 0] 1):=by rw [g5,if_neg c2,if_neg p2,if_neg o2];exact objAt_some.1 h32
   have s53:y01 S5 b3=some (.cells 30 [.int .i64 0] 1):=by rw [g5,if_neg c3,if_neg p3,if_neg o3];exact objAt_some.1 h33
   have s5p:y01 S5 bp=some (.map MD [] 0):=by rw [g5,if_neg dcp,if_pos rfl]
   have s5c:y01 S5 bc=some (.cells yp4 (xpC (y07 s l yp3) B bo bp 0) 5):=by rw [g5,if_pos rfl]
   have s5o:y01 S5 bo=some (.map MD [] 0):=by rw [g5,if_neg dco,if_neg dpo,if_pos rfl]
   have hKs:∀ c,(c=b1\/c=b2\/c=b3\/c=bp\/c=bc)->c≠bo/\y01 S5 c≠none:=by
    rintro c (rfl | rfl | rfl | rfl | rfl)
    ·exact ⟨Ne.symm o1,by rw [s51];simp⟩
    ·exact ⟨Ne.symm o2,by rw [s52];simp⟩
    ·exact ⟨Ne.symm o3,by rw [s53];simp⟩
    ·exact ⟨dpo,by rw [s5p];simp⟩
    ·exact ⟨dco,by rw [s5c];simp⟩
   have q3:=y9f hs hl S5;simp only [scA] at q3;refine q0c q3 ?_;rintro ae S6 ⟨cv,rfl,w1,w2⟩;dsimp only;have hlc:(q0a s l).length<=l.length:=lK _ _;have hokc:=(q46 hl (s:=s)).ok;have hln:=hl.n;rw [w2.ln,lB];refine LoopP.frz (S1:=S5) (l':=[(7,AV.rop [AV.str n.o.ty,AV.str n.o.id]),(10,.ptr b1 0),(11,.ptr b2 0),(12,.ptr b3 0),(13,.rop (rlC r)),(15,.ptr bc 0),(43,.sl 6 ((q0a s l).map tuC)),(44,.int .i64 (q0a s l).length),(45,.int .i64 0)]) (FrS.sub w1)
    (.cons (.same _) (.cons (.same _) (.cons (.same _) (.cons (.same _) (.cons (by rw [q0k];exact .same _) (.cons (.same _) (.cons (Fr.lstW w2) (.cons (.same _) (.cons (.same _) .nil))))))))) ?_
   have hLL:∀ n,ofL (q0a s l) n=((y07 s l yp3).of n).map ndC:=fun n=>rfl
   have hX:bo≠bc->bo≠bp->bp≠bc->x2g (y07 s l yp3) B bc bo bp:=fun u1 u2 u3=>by
    refine ⟨hs,y16 hg.may,x4m hk,u3,u1,u2,hB1,fun m=>?_,x4x hl⟩
    show ((ofF (q0a s l) m).map Tu.s).length<=100000;rw [lB];exact Nat.le_trans (lK _ _) (q46 hl).n
   generalize hL:q0a s l=L at hlc hokc hLL ⊢;refine LoopP.introS (fun i:Nat=>[(7,AV.rop [AV.str n.o.ty,AV.str n.o.id]),(10,.ptr b1 0),(11,.ptr b2 0),(12,.ptr b3 0),(13,.rop (rlC r)),(15,.ptr bc 0),(43,.sl 6 (L.map tuC)),(44,.int .i64 L.length),(45,.int .i64 i)])
    (fun i S2=>i<=L.length/\Sub S S2/\(∃ es clk,OfM S S2 39 bo (fun c=>c=b1\/c=b2\/c=b3\/c=bp\/c=bc) (ofL (L.take i)) es clk)/\∀ c,(c=b1\/c=b2\/c=b3\/c=bp\/c=bc)->y01 S2 c=y01 S5 c) (fun i=>L.length-i) 0
    ⟨by omega,f5,⟨[],0,OfM.nil no s5o hKs⟩,fun c _=>rfl⟩ rfl ?_
   rintro i S2 ⟨hi,j1,⟨es,clk,hO⟩,j2⟩ kk hkk;have s2c:=j2 bc (by simp)
   rw [s5c] at s2c;have s2o:=objAt_some.2 s2c;have hc2:=q07 s2o;(try simp only [rwp,zA,zB,zC,zD,zE,zF,zG,zH,zI,rwb,reduceIte,ywf]);cases a1:decide ((i:Int)<L.length)
   ·refine q47 ?_;have hEnd:∀ (LL:LE) (x:AV) (S4:q00),LL=[(10,.ptr b1 0),(11,.ptr b2 0),(12,.ptr b3 0)]\/LL=[(10,.ptr b1 0),(11,.ptr b2 0),(12,.ptr b3 0),(15,.ptr bc 0)]->q2k (fun S=>rtW (yz2 b1 b2 b3) QF S) (.ptr b1 0) (.ptr b2 0) (.ptr b3 0) x S4->x7t PG dfx36 tf_lists_Expand_1 QF [.ptr b1 0,.ptr b2 0,.ptr b3 0] x LL S4:=by
     rintro LL x S4 (rfl | rfl) h<;>exact Eq.mpr (q9y (T:=fun S=>rtW (yz2 b1 b2 b3) QF S)) h
    have eil:i=L.length:=by have:=of_decide_eq_false a1;omega
    subst eil;rw [lU] at hO;rw [xjz];unfold xge;rw [q0k];(try simp only [rwp,zA,zB,zC,zD,zE,zF,zG,zH,zI,rwb,reduceIte])
    let Sz:q00:=supd (supd (supd (supd (supd (supd S b1 (.cells y08 [.str ⟨#[]⟩,.nils,.nils] 3)) b2 (.cells 3 [.int .i64 0] 1)) b3 (.cells 30 [.int .i64 0] 1)) bo (.map MD (ybr (ofL L) es) clk)) bc (.cells yp4 (xpC (y07 s l yp3) B bo bp 0) 5)) bp (.map MD [] 0)
    have g0:∀ c,y01 Sz c=if bp=c then some (.map MD [] 0) else if bc=c then some (.cells yp4 (xpC (y07 s l yp3) B bo bp 0) 5) else if bo=c then some (.map MD (ybr (ofL L) es) clk) else if b3=c then some (.cells 30 [.int .i64 0] 1) else if b2=c then some (.cells 3 [.int .i64 0] 1) else if b1=c then some (.cells y08 [.str ⟨#[]⟩,.nils,.nils] 3) else y01 S c:=fun c=>rfl
    have hof:∀ m,ofA ((y07 s l yp3).of m)=(y0e es (ndA m)).map fun _=>AV.sl 3 (ofL L m):=by
     intro m;unfold ofA;cases hm:y0e es (ndA m) with
     | none=>
      have:=hO.no m hm;rw [hLL,List.map_eq_nil_iff] at this;rw [this];rfl
     | some v=>
      have:=(hO.yes m v hm).1;rw [hLL] at this ⊢;rw [if_neg fun h=>this (by rw [h];rfl)]
      rfl
    have hfk:∀ x∈ybr (ofL L) es,∃ n,x.1=ndA n:=by
     intro x hx;unfold ybr at hx;obtain ⟨y,hy,rfl⟩:=List.mem_map.1 hx;exact hO.key y hy
    have hSz:StX (y07 s l yp3) B bc bo bp [] 0 Sz:=by
     refine ⟨objAt_some.2 (by rw [g0,if_neg (Ne.symm dcp),if_pos rfl]),⟨0,mapObj_some.2 (by rw [g0,if_pos rfl])⟩,⟨ybr (ofL L) es,clk,mapObj_some.2 (by rw [g0,if_neg dpo,if_neg dco,if_pos rfl]),fun x hx=>?_,fun m=>?_⟩,by omega⟩
     ·obtain ⟨m,hm⟩:=hfk x hx;rw [hm];exact ke_nd.ok m
     ·rw [y61 hO.key];exact (hof m).symm
    have q4:=x1d (hX (Ne.symm dco) (Ne.symm dpo) (Ne.symm dcp)) 50 [] [] ⟨fun x hx=>(by cases hx),rfl,fun m=>by simp [qa8]⟩ rfl n.o r n.rl i k hno hq 0 Sz hSz
    have hfr:FrS Sz S2:=by
     intro b o' hb;rw [g0] at hb;split at hb
     ·rename_i e;subst e;cases hb;exact ⟨_,(j2 _ (by simp)).trans s5p,.same _⟩
     ·split at hb
      ·rename_i e;subst e;cases hb;exact ⟨_,(j2 _ (by simp)).trans s5c,.same _⟩
      ·split at hb
       ·rename_i e
        subst e;cases hb;refine ⟨_,hO.map,hO.fr fun b hb=>?_⟩
        rw [g0] at hb;split at hb
        ·rename_i e;exact .inr (.inl (by simp [e]))
        ·split at hb
         ·rename_i e;exact .inr (.inl (by simp [e]))
         ·split at hb
          ·rename_i e;exact .inl e.symm
          ·split at hb
           ·rename_i e;exact .inr (.inl (by simp [e]))
           ·split at hb
            ·rename_i e;exact .inr (.inl (by simp [e]))
            ·split at hb
             ·rename_i e;exact .inr (.inl (by simp [e]))
             ·exact .inr (.inr hb)
       ·split at hb
        ·rename_i e;subst e;cases hb;exact ⟨_,(j2 _ (by simp)).trans s53,.same _⟩
        ·split at hb
         ·rename_i e;subst e;cases hb;exact ⟨_,(j2 _ (by simp)).trans s52,.same _⟩
         ·split at hb
          ·rename_i e;subst e;cases hb;exact ⟨_,(j2 _ (by simp)).trans s51,.same _⟩
          ·exact ⟨_,j1 b o' hb,.same _⟩
    have t1:y01 Sz b1=some (.cells y08 [.str ⟨#[]⟩,.nils,.nils] 3):=by rw [g0,if_neg p1,if_neg c1,if_neg o1,if_neg d31,if_neg d21,if_pos rfl]
    have t2:y01 Sz b2=some (.cells 3 [.int .i64 0] 1):=by rw [g0,if_neg p2,if_neg c2,if_neg o2,if_neg d32,if_pos rfl]
    have t3:y01 Sz b3=some (.cells 30 [.int .i64 0] 1):=by rw [g0,if_neg p3,if_neg c3,if_neg o3,if_pos rfl]
    have hsub:∀ S3,OutS bc bp Sz S3->Sub S S3:=fun S3 ho c x hx=>by
     refine ho c x (q0h nc hx).symm (q0h np hx).symm ?_;rw [g0,if_neg (q0h np hx),if_neg (q0h nc hx),if_neg (q0h no hx),if_neg (q0h hb3' hx),if_neg (q0h hb2' hx),if_neg (q0h hb1 hx)];exact hx
    simp only [obC,q0k] at q4;refine q0c (ACalls.frz hfr (Frs.same _) q4) ?_;intro ae S3 hq4;unfold q6k at hq4;cases ha:xnQ (y07 s l yp3) B 50 [] n.o r 0 with
    | none=>
     rw [ha] at hq4 hQ;obtain ⟨rfl,hx⟩:=hq4;dsimp only at hQ ⊢;refine hEnd _ _ _ (.inr rfl) ?_;unfold q2k;(try simp only [rwp,zA,zB,zC,zD,zE,zF,zG,zH,zI,rwb,reduceIte,spX,q4k]);exact yz8 (objAt_some.2 (hx _ _ (Ne.symm c1) (Ne.symm p1) t1)) rfl rfl (objAt_some.2 (hx _ _ (Ne.symm c2) (Ne.symm p2) t2)) (objAt_some.2 (hx _ _ (Ne.symm c3) (Ne.symm p3) t3)) (Ne.symm d21) (Ne.symm d31) (Ne.symm d32) hb1 hb2' hb3' (hsub S3 hx) rfl (fun _=>ykc _ _) hQ
    | some p=>
     obtain ⟨⟨lb,ns,ks⟩,w3⟩:=p;rw [ha] at hq4 hQ;obtain ⟨rfl,k1,k2⟩:=hq4;dsimp only at hQ ⊢;have r1:=(k2 b1 (Ne.symm c1) (Ne.symm p1)).trans t1;have r2:=(k2 b2 (Ne.symm c2) (Ne.symm p2)).trans t2;have r3:=(k2 b3 (Ne.symm c3) (Ne.symm p3)).trans t3;have hsE:=hsub S3 k2.s;have rco:=k1.c;have rcc:=q07 rco;have r1o:=objAt_some.2 r1;have r1c:=q07 r1o;have r2o:=objAt_some.2 r2;have r3o:=objAt_some.2 r3;rw [q9j];(try simp only [rwp,zA,zB,zC,zD,zE,zF,zG,zH,zI,rwb,reduceIte,r1o,r1c,rcc,rco,xpC,c1,Ne.symm c1,y67,d21,d31,d32,Ne.symm d21,Ne.symm d31,Ne.symm d32,r2o,r3o]);refine ⟨fun _ _=>trivial,?_⟩
     refine hEnd _ _ _ (.inl rfl) ?_;unfold q2k;(try simp only [rwp,zA,zB,zC,zD,zE,zF,zG,zH,zI,rwb,reduceIte]);refine q18 S (Sub.supd hb3' (Sub.supd hb2' (Sub.supd hb1 hsE))) ?_;(try simp only [rwp,zA,zB,zC,zD,zE,zF,zG,zH,zI,rwb,reduceIte,r1o,r2o,r3o,d21,d31,d32,Ne.symm d21,Ne.symm d31,Ne.symm d32]);unfold xT at hQ;rw [q9j] at hQ;exact hQ
   ·have hlt:=of_decide_eq_true a1;obtain ⟨t,ht⟩:=q0e hlt;(try simp only [rwp,zA,zB,zC,zD,zE,zF,zG,zH,zI,rwb,reduceIte,ht,tuC]);(try simp only [rwp,zA,zB,zC,zD,zE,zF,zG,zH,zI,rwb,reduceIte,hc2,xpC]);have hnx:=yqe ht;refine hO.push j1 (ndT t) rfl rfl ?_ fun S4 es2 clk2 u1 u2 u3=>?_
    ·have:(ofL (L.take i) (ndT t)).length<=i:=by
      unfold ofL ofF;rw [lB,lB];exact Nat.le_trans (lK _ _) (List.length_take_le _ _)
     omega
    ·(simp (disch:=omega) only [q04])
     have e:ofL (L.take (i+1))=fun m=>if m=ndT t then ofL (L.take i) (ndT t)++[ndC t.s] else ofL (L.take i) m:=by
      funext m
      rw [hnx];by_cases hm:m=ndT t
      ·rw [if_pos hm,if_pos hm,hm]
      ·rw [if_neg hm,if_neg hm,lJ]
     exact q08 rfl (hkk (i+1) S4 ⟨by omega,u1,⟨es2,clk2,by rw [e];exact u2⟩,fun c hc=>(u3 c hc).trans (j2 c hc)⟩ (by omega))
set_option maxRecDepth 4000
theorem yn3:∀ (x y:List UInt8),Op.bytesLess x y=decide (Lib.compareBytes x y<0)
 | [],[]=>rfl
 | [],_ :: _=>rfl
 | _ :: _,[]=>rfl
 | a :: x,b :: y=>by
  have ih:=yn3 x y;unfold Op.bytesLess Lib.compareBytes;by_cases h1:a<b
  ·rw [if_pos h1,decide_eq_true h1];rfl
  ·rw [if_neg h1,decide_eq_false h1,Bool.false_or];by_cases h2:b<a
   ·rw [if_pos h2];have:(a==b)=false:=by
     rw [beq_eq_false_iff_ne];rintro rfl;exact h1 h2
    rw [this];rfl
   ·rw [if_neg h2];have:a=b:=by
     rw [UInt8.lt_iff_toNat_lt] at h1 h2;exact UInt8.toNat_inj.1 (by omega)
    rw [this,ih,beq_self_eq_true,Bool.true_and]
theorem x81 (a b:Ob):y02 PG yvf [.agg (obC a),.agg (obC b)] (.bool (ltO a b)):=by
 intro S;refine xey ?_;unfold xby;have e:ltO a b=(decide (y4f a.ty b.ty<0)||(decide (a.ty=b.ty)&&decide (y4f a.id b.id<0))):=by
  unfold ltO yax;by_cases h:y4f a.ty b.ty=0
  ·rw [if_pos h,q93 h];have:y4f b.ty b.ty=0:=ycb _;rw [this];simp
  ·rw [if_neg h];have hne:¬ a.ty=b.ty:=fun he=>h (by rw [he];exact ycb _)
   rw [decide_eq_false hne,Bool.false_and,Bool.or_false]
 rw [e];(try simp only [rwp,zA,zB,zC,zD,zE,zF,zG,zH,zI,rwb,reduceIte,obC,Lib.toList_data,yn3]);cases a1:decide (y4f a.ty b.ty<0)
 ·(try simp only [rwp,zA,zB,zC,zD,zE,zF,zG,zH,zI,rwb,reduceIte,ygl]);cases a2:decide (a.ty=b.ty)
  ·(try simp only [rwp,zA,zB,zC,zD,zE,zF,zG,zH,zI,rwb,reduceIte,yap]);exact q02 ⟨rfl,rfl⟩
  ·(try simp only [rwp,zA,zB,zC,zD,zE,zF,zG,zH,zI,rwb,reduceIte,yap,Lib.toList_data,yn3]);exact q02 ⟨rfl,rfl⟩
 ·(try simp only [rwp,zA,zB,zC,zD,zE,zF,zG,zH,zI,rwb,reduceIte,ygl,yap]);exact q02 ⟨rfl,rfl⟩
theorem LstW.appL {S0 S:q00} {t sz bytes:Nat} {v x:AV} {rows xs:List (List AV)} {K:AV->q00->Prop} (hs:Sub S0 S) (h:LstW S0 S t sz v rows) (hap:yay S sz x=some (xs.length,xs.flatten)) (hx:∀ r∈xs,r.length=sz) (ho:y09 xs.flatten=true) (hb:(rows.length+xs.length) * bytes<=140737488355328)
  (hK:∀ v' S',Sub S0 S'->LstW S0 S' t sz v' (rows++xs)->(∀ c o,y01 S c=some o->q0v v c->y01 S' c=some o/\q0v v' c)->K v' S'):apW S t sz bytes v x K:=by
 refine ⟨xs.length,xs.flatten,hap,ho,?_⟩;obtain ⟨hr,h⟩:=h;have hall:∀ r∈rows++xs,r.length=sz:=fun r hm=>(List.mem_append.1 hm).elim (hr r) (hx r)
 have hfx:=q2i hx;have hfr:=q2i hr;have hfl:(rows++xs).flatten.length=(rows.length+xs.length) * sz:=by rw [q2i hall,lG]
 rcases h with ⟨rfl,rfl⟩ | ⟨b,cap,cs,rfl,h1,h2,h3,h4,h5,h6⟩
 ·dsimp only;simp only [lL,Nat.zero_add] at hb;refine ⟨hb,?_⟩;split
  ·rename_i h0
   have:xs=[]:=List.length_eq_zero_iff.1 h0;subst this;exact hK _ _ hs LstW.nil fun c o hc _=>⟨hc,fun b off n cap e=>by cases e⟩
  ·intro b cap hbn k1 k2;have hb0:=Sub.none hs hbn;refine hK _ _ (hs.supd hb0) ⟨hall,.inr ⟨b,cap,xs.flatten,by simp,hb0,by rw [q01,if_pos rfl],?_,by rw [lR,hfx];exact Nat.le_refl _,by simpa using k1,k2⟩⟩ fun c o hc _=>?_
   ·rw [lR,lH (by rw [hfx];exact Nat.le_refl _)]
   ·have hne:b≠c:=q0h hbn hc;exact ⟨by rw [q01,if_neg hne];exact hc,fun b' off n cap h=>by cases h;exact Ne.symm hne⟩
 ·refine ⟨_,h2,h5,h6,h4,hb,fun b' cap' k1 k2 k3=>?_⟩
  rw [h3];have hb0:y01 S0 b'=none:=by
   rcases k1 with rfl | k1
   ·exact h1
   ·exact Sub.none hs k1
  have hsub:Sub S0 (supd (y0f S b) b' (.cells t (rows.flatten++xs.flatten) (cap' * sz))):=by
   refine Sub.supd hb0 fun c o hc=>?_
   have hne:b≠c:=by rintro rfl;rw [h1] at hc;cases hc
   rw [q0b,if_neg hne];exact hs c o hc
  refine hK _ _ hsub ⟨hall,.inr ⟨b',cap',rows.flatten++xs.flatten,by simp,hb0,by rw [q01,if_pos rfl],?_,?_,by simpa using k2,k3⟩⟩ fun c o hc ha=>?_
  ·rw [<- List.flatten_append,lH (by rw [hfl,lG];exact Nat.le_refl _)]
  ·rw [<- List.flatten_append,hfl,lG];exact Nat.le_refl _
  ·have hcb:c≠b:=ha b 0 _ _ rfl;have hcb':b'≠c:=by
    rcases k1 with rfl | k1
    ·exact Ne.symm hcb
    ·exact q0h k1 hc
   exact ⟨by rw [q01,if_neg hcb',q0b,if_neg (Ne.symm hcb)];exact hc,fun b'' off n cap h=>by cases h;exact Ne.symm hcb'⟩
theorem Fr.lst14 {S0 S:q00} {t sz:Nat} {v:AV} {rows:List (List AV)} (h:LstW S0 S t sz v rows):Fr S0 S v (.sl sz rows):=by
 obtain ⟨hr,⟨rfl,rfl⟩ | ⟨b,cap,cs,rfl,h1,h2,h3,h4,h5,h6⟩⟩:=h
 ·exact .nils sz
 ·exact .ownW t sz b _ cap rows cs hr h1 h2 h3 rfl h5
theorem LstW.selfX {S0 S:q00} {t sz:Nat} {v:AV} {rows:List (List AV)} (h:LstW S0 S t sz v rows):yay S sz v=some (rows.length,rows.flatten):=by
 obtain ⟨hr,⟨rfl,rfl⟩ | ⟨b,cap,cs,rfl,h1,h2,h3,h4,h5,h6⟩⟩:=h
 ·rfl
 ·unfold yay;dsimp only;rw [h2];dsimp only;rw [if_pos (by omega),List.drop_zero,h3]
theorem LstW.trunc {S0 S:q00} {t sz b n cap k:Nat} {rows:List (List AV)} (h:LstW S0 S t sz (.own b 0 n cap) rows) (hk:k<=n):LstW S0 S t sz (.own b 0 k cap) (rows.take k)/\rows.length=n/\n<=cap:=by
 obtain ⟨hr,⟨e,-⟩ | ⟨b1,cap1,cs,e,h1,h2,h3,h4,h5,h6⟩⟩:=h
 ·cases e
 ·cases e
  have hr':∀ r∈rows.take k,r.length=sz:=fun r hm=>hr r (List.mem_of_mem_take hm)
  have hl:(rows.take k).length=k:=by rw [List.length_take];omega
  refine ⟨⟨hr',.inr ⟨b,cap,cs,by rw [hl],h1,h2,?_,?_,by omega,h6⟩⟩,rfl,h5⟩
  ·have e1:rows.flatten.take (k * sz)=(rows.take k).flatten:=by
    have:=congrArg (List.take (k * sz)) (show (rows.take k).flatten++(rows.drop k).flatten=rows.flatten by rw [<- List.flatten_append,List.take_append_drop])
    rw [<- this,List.take_append_of_le_length (by rw [q2i hr',hl];exact Nat.le_refl _),lH (by rw [q2i hr',hl];exact Nat.le_refl _)]
   rw [hl,<- e1,<- h3,List.take_take,Nat.min_eq_left (Nat.mul_le_mul_right _ hk)]
  ·rw [hl];exact Nat.le_trans (Nat.mul_le_mul_right _ hk) h4
theorem LstW.dropX {S0 S:q00} {t sz b n cap k:Nat} {rows:List (List AV)} (h:LstW S0 S t sz (.own b 0 n cap) rows) (hk:k<=n):yay S sz (.own b (if cap=k then 0 else 0+k * sz) (n-k) (cap-k))=some (n-k,(rows.drop k).flatten):=by
 obtain ⟨hr,⟨e,-⟩ | ⟨b1,cap1,cs,e,h1,h2,h3,h4,h5,h6⟩⟩:=h
 ·cases e
 ·cases e
  have hr':∀ r∈rows.take k,r.length=sz:=fun r hm=>hr r (List.mem_of_mem_take hm)
  have hl:(rows.take k).length=k:=by rw [List.length_take];omega
  unfold yay;dsimp only;rw [h2];dsimp only;by_cases hc:cap=k
  ·have e0:rows.length-k=0:=by omega
   rw [if_pos hc,e0,Nat.zero_mul,if_pos (by omega),List.take_zero,List.drop_of_length_le (by omega)]
   rfl
  ·rw [if_neg hc,Nat.zero_add];have hsum:k * sz+(rows.length-k) * sz=rows.length * sz:=by rw [<- Nat.add_mul];congr 1;omega
   rw [if_pos (by omega)]
   congr 2
   have e2:(cs.drop (k * sz)).take ((rows.length-k) * sz)=(cs.take (rows.length * sz)).drop (k * sz):=by rw [List.drop_take];congr 1;omega
   rw [e2,h3];have:=congrArg (List.drop (k * sz)) (show (rows.take k).flatten++(rows.drop k).flatten=rows.flatten by rw [<- List.flatten_append,List.take_append_drop])
   rw [<- this,List.drop_left' (by rw [q2i hr',hl])]
theorem yys {sz:Nat} {k:IntKind} {K:AV->Prop}:slW sz .nils (some (.int k ((0:Nat):Int))) none K=K .nils:=rfl
theorem yyr {sz:Nat} {k:IntKind} {K:AV->Prop}:slW sz .nils none (some (.int k ((0:Nat):Int))) K=K .nils:=rfl
theorem y2j {S:q00} {sz:Nat} {xs:List (List AV)}:yay S sz (.sl sz xs)=some (xs.length,xs.flatten):=by simp [yay]
theorem yk7 {M:List Ob}:y09 (M.map obC).flatten=true:=q1u fun r hr=>by
 obtain ⟨o,-,rfl⟩:=List.mem_map.1 hr;rfl
theorem yvx {M:List Ob}:∀ r∈M.map obC,r.length=2:=fun r hr=>by
 obtain ⟨o,-,rfl⟩:=List.mem_map.1 hr;rfl
theorem yff {M:List Ob} (hM:M.length<=1000):y02 PG x5k [.sl 2 (M.map obC)] (.sl 2 ((y0l ltO M).map obC)):=by
 intro S;refine xir ?_;unfold xh3;refine LoopP.introS (fun x:Nat×AV=>[(0,.sl 2 (M.map obC)),(3,x.2),(4,.int .i64 x.1)]) (fun x S'=>x.1<=M.length/\Sub S S'/\LstW S S' y0c 2 x.2 ((y0l ltO (M.take x.1)).map obC)) (fun x=>M.length-x.1) (0,.nils)
  ⟨by dsimp only;omega,Sub.refl _,LstW.nil⟩ rfl ?_
 rintro ⟨i,ov⟩ S1 ⟨hi,s1,o1⟩ kk hkk;dsimp only at hi o1 ⊢;(try simp only [rwp,zA,zB,zC,zD,zE,zF,zG,zH,zI,rwb,reduceIte,x90,lB]);cases a1:decide ((i:Int)<M.length)
 ·have e:i=M.length:=by have:=of_decide_eq_false a1;omega
  subst e;rw [lU] at o1;(try simp only [rwp,zA,zB,zC,zD,zE,zF,zG,zH,zI,rwb,reduceIte]);exact q5d S _ s1 (Fr.lst14 o1) ⟨rfl,rfl⟩
 ·have hlt:=of_decide_eq_true a1;obtain ⟨x,hx⟩:=q0e hlt;have hnx:y0l ltO (M.take (i+1))=y3v ltO (y0l ltO (M.take i)) x:=by rw [q0w hx,y7l]
  obtain ⟨-,-,hlen⟩:=q2b stO (M.take i) _ rfl;have hti:=List.length_take_le i M;generalize y0l ltO (M.take i)=L at o1 hnx hlen;have hL:L.length<=1000:=by omega
  (try simp only [rwp,zA,zB,zC,zD,zE,zF,zG,zH,zI,rwb,reduceIte]);refine LoopP.introS (fun k:Nat=>[(0,.sl 2 (M.map obC)),(3,ov),(4,.int .i64 i),(5,.int .i64 k)]) (fun k S'=>S'=S1/\k<=L.length/\∀ y∈L.take k,ltO y x=true) (fun k=>L.length-k) 0 ⟨rfl,by omega,fun y hy=>by simp at hy⟩ rfl ?_
  rintro k S2 ⟨e2,hk,hlo⟩ kk2 hkk2;rw [e2];(try simp only [rwp,zA,zB,zC,zD,zE,zF,zG,zH,zI,rwb,reduceIte,x8z]);rw [o1.ln,lB];have hnext:∀ {v':AV} {S3:q00},Sub S S3->LstW S S3 y0c 2 v' ((y3v ltO L x).map obC)->rcW kk [(0,.sl 2 (M.map obC)),(3,v'),(4,.int .i64 ((i:Int)+1))] S3:=by
   intro v' S3 h1 h2;rw [show (i:Int)+1=((i+1:Nat):Int) by omega]
   exact q08 rfl (hkk (i+1,v') _ ⟨by dsimp only;omega,h1,by dsimp only;rw [hnx];exact h2⟩ (by dsimp only;omega))
  -- put in at k
  have put:(∀ y,L[k]?=some y->ltO y x=false/\¬ y=x)->ynx (fun ae S'=>ae=.ret (.sl 2 ((y0l ltO M).map obC))/\S'=S) kk (.sl 2 (M.map obC)) ov (.int .i64 i) (.int .i64 k) (.bool false) S1:=by
   intro hno;have hins:y3v ltO L x=L.take k++x :: L.drop k:=by
    rw [ybp hlo]
    congr 1
    cases hd:L.drop k with
    | nil=>rfl
    | cons y r=>
     have hy:L[k]?=some y:=by
      have:=congrArg (fun l=>l[0]?) hd
      simpa using this
     obtain ⟨n1,n2⟩:=hno y hy;unfold y3v;rw [if_neg (by rw [n1];simp),if_neg n2]
   have hrest:∀ (v48:AV) (S3:q00),Sub S S3->LstW S S3 y0c 2 v48 ((L.drop k).map obC)->(∀ (tv:AV),LstW S S1 y0c 2 tv ((L.take k).map obC)->(∀ b off n cap,tv=.own b off n cap->∃ n' cap',ov=.own b 0 n' cap')->LstW S S3 y0c 2 tv ((L.take k).map obC)/\∀ b off n cap,tv=.own b off n cap->q0v v48 b)->∀ tv:AV,LstW S S1 y0c 2 tv ((L.take k).map obC)->(∀ b off n cap,tv=.own b off n cap->∃ n' cap',ov=.own b 0 n' cap') ->
     apW S3 27 2 32 tv (.sl 2 [obC x]) fun v57 S=>apW S 27 2 32 v57 v48 fun v60 S=>rcW kk [(0,.sl 2 (M.map obC)),(3,v60),(4,.int .i64 ((i:Int)+1))] S:=by
    intro v48 S3 s3 o3 hkeep tv ht htb;obtain ⟨ht3,hta⟩:=hkeep tv ht htb;have hlt:(L.take k).length=k:=by rw [List.length_take];omega
    refine LstW.appL s3 ht3 (xs:=[obC x]) y2j (fun r hr=>by rw [List.mem_singleton.1 hr];rfl) (q1u fun r hr=>by rw [List.mem_singleton.1 hr];rfl) (by simp only [lB,lM];omega) fun v57 S4 s4 o4 j4=>?_
    have hv48:∀ b off n cap,v48=.own b off n cap->q0v tv b:=by
     intro b off n cap e b' off' n' cap' e';exact Ne.symm (hta b' _ _ _ e' b _ _ _ e)
    obtain ⟨o48,-⟩:=LstW.keep o3 hv48 j4;refine LstW.appL s4 o4 o48.selfX yvx yk7 (by simp only [lB,lG,lM,List.length_drop];omega) fun v60 S5 s5 o5 _=>?_
    refine hnext s5 ?_;rw [hins];simpa using o5
   (try simp only [rwp,zA,zB,zC,zD,zE,zF,zG,zH,zI,rwb,reduceIte,ynx]);obtain ⟨hr1,⟨rfl,e0⟩ | ⟨b,cap,cs,rfl,-⟩⟩:=id o1
   ·have e0:L=[]:=by simpa using e0
    subst e0;have ek:k=0:=by simpa using hk
    subst ek;(try simp only [rwp,zA,zB,zC,zD,zE,zF,zG,zH,zI,rwb,reduceIte,lC,hx,obC]);(try (simp (disch:=omega) only [q04]));refine Eq.mpr yys ?_;refine ⟨0,[],rfl,rfl,by decide,?_⟩
    rw [if_pos rfl];refine Eq.mpr yyr ?_;(try simp only [rwp,zA,zB,zC,zD,zE,zF,zG,zH,zI,rwb,reduceIte,lC,hx,obC]);(try (simp (disch:=omega) only [q04]));exact hrest .nils S1 s1 LstW.nil (fun tv h1 h2=>⟨h1,fun b off n cap e=>by obtain ⟨n',cap',h⟩:=h2 b off n cap e;cases h⟩) .nils LstW.nil (fun b off n cap e=>by cases e)
   ·simp only [lB] at o1 hrest ⊢;have ho1:=o1;obtain ⟨tr1,-,tr3⟩:=LstW.trunc (k:=k) o1 hk;have dx:=LstW.dropX (k:=k) o1 hk;rw [Nat.zero_add,<- List.map_drop] at dx;(try simp only [rwp,zA,zB,zC,zD,zE,zF,zG,zH,zI,rwb,reduceIte,lC,hx,obC]);refine ⟨by omega,by omega,?_⟩
    refine LstW.appL s1 (LstW.nil (S0:=S)) (xs:=(L.drop k).map obC) (by rw [dx];simp) yvx yk7 (by simp only [lB,List.length_drop,lL];omega) fun v48 S3 s3 o3 j3=>?_
    rw [lR] at o3;refine ⟨by omega,by omega,?_⟩
    rw [show AV.own b (if cap=0 then 0 else 0) (k-0) (cap-0)=.own b 0 k cap by simp]
    (try (simp (disch:=omega) only [q04]));refine hrest v48 S3 s3 o3 (fun tv h1 h2=>?_) (.own b 0 k cap) (by rw [List.map_take];exact tr1) (fun b' off n' cap' e=>by cases e;exact ⟨L.length,cap,rfl⟩)
    obtain ⟨hr2,⟨e,e0⟩ | ⟨b2,cap2,cs2,e,g1,g2,g3⟩⟩:=id h1
    ·exact ⟨⟨hr2,.inl ⟨e,e0⟩⟩,fun b' off n' cap' e'=>by rw [e] at e';cases e'⟩
    ·have hk3:=j3 b2 _ g2 (fun _ _ _ _ e=>by cases e)
     exact ⟨⟨hr2,.inr ⟨b2,cap2,cs2,e,g1,hk3.1,g3⟩⟩,fun b' off n' cap' e'=>by rw [e] at e';cases e';exact hk3.2⟩
  rw [show ∀ K:AV->Prop,biW .lss (.int .i64 (k:Int)) (.int .i64 (L.length:Int)) K=K (.bool (decide ((k:Int)<L.length))) from fun K=>rfl]
  cases a2:decide ((k:Int)<L.length)
  ·(try simp only [rwp,zA,zB,zC,zD,zE,zF,zG,zH,zI,rwb,reduceIte,yny]);rw [o1.ln,lB];(try simp only [rwp,zA,zB,zC,zD,zE,zF,zG,zH,zI,rwb,reduceIte,a2]);exact put fun y hy=>by
    have:=(List.getElem?_eq_some_iff.1 hy).1;have:=of_decide_eq_false a2;omega
  ·have hkl:=of_decide_eq_true a2;obtain ⟨y,hy⟩:=q0e hkl;obtain ⟨b1,cap,cs,rfl,hcs,hrow,hle⟩:=o1.get (i:=k) (r:=obC y) (by rw [lC,hy];rfl)
   simp only [lB] at o1 put hnext hkk hkk2 hrow ⊢;obtain ⟨rest,hd1⟩:=y6i (hrow.trans (show obC y=[.str y.ty,.str y.id] from rfl))
   (try simp only [rwp,zA,zB,zC,zD,zE,zF,zG,zH,zI,rwb,reduceIte,hcs,lB,Int.toNat_natCast,Nat.zero_add,hd1,lC,hx,obC]);refine ⟨hkl,?_⟩;refine q05 (x81 y x) ?_;cases a3:ltO y x
   ·(try simp only [rwp,zA,zB,zC,zD,zE,zF,zG,zH,zI,rwb,reduceIte,yny]);(try simp only [rwp,zA,zB,zC,zD,zE,zF,zG,zH,zI,rwb,reduceIte,a2,hcs,lB,Int.toNat_natCast,Nat.zero_add,hd1,lC,hx,obC]);refine ⟨hkl,?_⟩;have hdec:=q7m (a:=y) (b:=x);cases a4:(decide (y.ty=x.ty)&&decide (y.id=x.id))
    ·rw [a4] at hdec;exact put fun y' hy'=>by
      rw [hy] at hy';cases hy';exact ⟨a3,of_decide_eq_false hdec⟩
    ·rw [a4] at hdec;have e:=of_decide_eq_true hdec;(try simp only [rwp,zA,zB,zC,zD,zE,zF,zG,zH,zI,rwb,reduceIte,ynx]);(try (simp (disch:=omega) only [q04]));refine hnext s1 ?_;have hins:y3v ltO L x=L:=by
      rw [ybp hlo];have hd:L.drop k=y :: L.drop (k+1):=by
       obtain ⟨h3,h4⟩:=List.getElem?_eq_some_iff.1 hy;rw [<- h4];exact List.drop_eq_getElem_cons h3
      conv=>rhs;rw [<- List.take_append_drop k L]
      rw [hd];unfold y3v;rw [if_neg (by rw [a3];simp),if_pos e]
     rw [hins];exact o1
   ·(try simp only [rwp,zA,zB,zC,zD,zE,zF,zG,zH,zI,rwb,reduceIte,yny]);(try (simp (disch:=omega) only [q04]));rw [show (k:Int)+1=((k+1:Nat):Int) by omega]
    refine q08 rfl (hkk2 (k+1) _ ⟨e2 ▸ rfl,by omega,fun z hz=>?_⟩ (by omega))
    rw [q0w hy] at hz;rcases List.mem_append.1 hz with hz | hz
    ·exact hlo z hz
    ·rw [List.mem_singleton.1 hz];exact a3
set_option maxRecDepth 4000
structure Tk where
 s:ByteArray
 line:Int
 col:Int
instance:Inhabited Tk:=⟨⟨⟨#[]⟩,0,0⟩⟩
def tkC (t:Tk):List AV:=[.str t.s,.int .i64 t.line,.int .i64 t.col]
structure Rd where
 at':Nat
 op:Int
 dl:Int
 dc:Int
 de:Int
def rdC (T:List Tk) (r:Rd):List AV:=[.sl 3 (T.map tkC),.int .i64 r.at',.int .i64 r.op,.int .i64 r.dl,.int .i64 r.dc,.int .i64 r.de]
def rdO (T:List Tk) (r:Rd):AObj:=.cells 145 (rdC T r) 6
def AFunR (f b:Nat) (xs:List AV) (T:List Tk) (r:Rd) (v:AV) (r':Rd):Prop:=∀ S,y01 S b=some (rdO T r)->ACalls PG f (.ptr b 0 :: xs) S fun ae S'=>ae=.ret v/\S'=supd S b (rdO T r')
theorem q8p {S:q00} {b:Nat} {T:List Tk} {r:Rd} (h:y01 S b=some (rdO T r)):q0m S b=some (145,[.sl 3 (T.map tkC),.int .i64 r.at',.int .i64 r.op,.int .i64 r.dl,.int .i64 r.dc,.int .i64 r.de],6):=objAt_some.2 h
theorem q0x {S:q00} {b:Nat} {o:AObj} (h:y01 S b=some o):supd S b o=S:=by
 funext c
 unfold supd;by_cases hc:b=c
 ·subst hc;rw [if_pos rfl];exact h.symm
 ·rw [if_neg hc]
def nxP (T:List Tk) (r:Rd):Tk:=T.getD r.at' default
def q5i (t:Tk) (e:Int) (r:Rd):Rd:=if r.de=0 then { r with dl:=t.line,dc:=t.col,de:=e } else r
def isP (T:List Tk) (s:ByteArray) (r:Rd):Bool:=decide (r.de=0)&&decide ((nxP T r).s=s)
def isR (T:List Tk) (s:ByteArray) (r:Rd):Rd:=if isP T s r then { r with at':=r.at'+1 } else r
def q23 (T:List Tk) (s:ByteArray) (r:Rd):Rd:=if isP T s r then isR T s r else q5i (nxP T r) 8 r
def q2r (T:List Tk) (r:Rd):ByteArray:=if q0r (nxP T r).s=true/\r.de=0 then (nxP T r).s else ⟨#[]⟩
def q0o (T:List Tk) (r:Rd):Rd:=if q0r (nxP T r).s=true/\r.de=0 then { r with at':=r.at'+1 } else q5i (nxP T r) 8 r
structure y0k (T:List Tk):Prop where
 len:T.length<=5000
 size:∀ t∈T,t.s.size<=1125899906842624
 last:∀ t,T[T.length-1]?=some t->t.s=⟨#[]⟩\/t.s=⟨#[63]⟩
def InR (T:List Tk) (r:Rd):Prop:=r.at'<T.length
theorem y8f {T:List Tk} {r:Rd} (h:InR T r):T[r.at']?=some (nxP T r):=by
 unfold nxP InR at *;rw [List.getD_eq_getElem?_getD,lF h];rfl
theorem y4i {T:List Tk} {r:Rd} {b:Nat} (t:Tk) (e:Int):AFunR x5a b [.agg (tkC t),.int .i64 e] T r (.tup []) (q5i t e r):=by
 intro S h;have ho:=q8p h;refine xif ?_;unfold xgr;(try simp only [rwp,hwR,zA,zB,zC,zD,zE,zF,zG,zH,zI,tkC,q07 ho])
 (refine q03 (fun h0=>?_) (fun h0=>?_)<;>(try simp only [hlc] at h0))
 ·(try simp only [rwp,hwR,zA,zB,zC,zD,zE,zF,zG,zH,zI,ho]);exact q2s ⟨rfl,by rw [q5i,if_pos h0];rfl⟩
 ·exact q2s ⟨rfl,by rw [q5i,if_neg h0,q0x h]⟩
theorem q61 {T:List Tk} {r:Rd} {b:Nat} (hT:y0k T) (hr:InR T r):AFunR x5b b [] T r (.agg (tkC (nxP T r))) r:=by
 intro S h;have ho:=q8p h;have hx:=y8f hr;refine xig ?_;unfold xgs;intro b2 hb2;have hne:b2≠b:=q0h hb2 h;(try simp only [rwp,hwR,zA,zB,zC,zD,zE,zF,zG,zH,zI,q07 ho,if_neg hne,hx,tkC]);refine q18 S (by rw [q38 hb2];exact Sub.refl S) ?_
 (try simp only [rwp,hwR,zA,zB,zC,zD,zE,zF,zG,zH,zI])
 first | exact ⟨rfl,(q0x h).symm⟩ | exact (q0x h).symm
theorem yw7 {T:List Tk} {r:Rd} {b:Nat} (hT:y0k T) (hr:InR T r) (s:ByteArray):AFunR x5e b [.str s] T r (.bool (isP T s r)) (isR T s r):=by
 intro S h;have ho:=q8p h;have hx:=y8f hr;have hl:=hT.len;have hr':r.at'<T.length:=hr;refine xij ?_;unfold xgv;(try simp only [rwp,hwR,zA,zB,zC,zD,zE,zF,zG,zH,zI,q07 ho]);cases a1:decide (r.de=0) with
 | false=>
  (try simp only [rwp,hwR,zA,zB,zC,zD,zE,zF,zG,zH,zI,yns]);have hp:isP T s r=false:=by rw [isP,a1];rfl
  exact q02 ⟨by rw [hp],by rw [isR,hp];exact (q0x h).symm⟩
 | true=>
  (try simp only [rwp,hwR,zA,zB,zC,zD,zE,zF,zG,zH,zI,hx,tkC]);cases a2:decide ((nxP T r).s=s) with
  | false=>
   (try simp only [rwp,hwR,zA,zB,zC,zD,zE,zF,zG,zH,zI,yns]);have hp:isP T s r=false:=by rw [isP,a1,a2];rfl
   exact q02 ⟨by rw [hp],by rw [isR,hp];exact (q0x h).symm⟩
  | true=>
   (try simp only [rwp,hwR,zA,zB,zC,zD,zE,zF,zG,zH,zI,yns,q07 ho,ho]);have hp:isP T s r=true:=by rw [isP,a1,a2];rfl
   (simp (disch:=omega) only [q04])
   exact q02 ⟨by rw [hp],by rw [isR,hp];rfl⟩
theorem AFunR.ca {f b:Nat} {xs:List AV} {T:List Tk} {r r':Rd} {v:AV} (h:AFunR f b xs T r v r') {S:q00} (hS:y01 S b=some (rdO T r)) {K Qp:AV->q00->Prop} (hK:K v (supd S b (rdO T r'))):caW PG S (.func (.func f) [] []) (.ptr b 0 :: xs) K Qp:=
 q0c (h S hS) fun ae S' ⟨h1,h2⟩=>by subst h1;subst h2;exact hK
theorem q1h {S:q00} {b:Nat} {T:List Tk} {r:Rd}:y01 (supd S b (rdO T r)) b=some (rdO T r):=by rw [q01,if_pos rfl]
theorem q9k {T:List Tk} {s:ByteArray} {r:Rd} (h:isP T s r=false):isR T s r=r:=by rw [isR,h];rfl
theorem ymt {T:List Tk} {r:Rd} {b:Nat} (hT:y0k T) (hr:InR T r) (s:ByteArray):AFunR yv9 b [.str s] T r (.tup []) (q23 T s r):=by
 intro S h;refine xer ?_;unfold xbr;refine (yw7 hT hr s).ca h ?_;cases hp:isP T s r with
 | true=>
  (try simp only [rwp,hwR,zA,zB,zC,zD,zE,zF,zG,zH,zI]);exact q2s ⟨rfl,by rw [q23,hp];rfl⟩
 | false=>
  (try simp only [rwp,hwR,zA,zB,zC,zD,zE,zF,zG,zH,zI]);have hi:=q9k hp;rw [hi];refine (q61 hT hr).ca q1h ?_;(try simp only [rwp,hwR,zA,zB,zC,zD,zE,zF,zG,zH,zI,tkC]);refine (y4i (nxP T r) 8).ca q1h ?_;(try simp only [rwp,hwR,zA,zB,zC,zD,zE,zF,zG,zH,zI]);exact q2s ⟨rfl,by rw [q23,hp];rfl⟩
theorem y2c {T:List Tk} {r:Rd} {b:Nat} (hT:y0k T) (hr:InR T r):AFunR x5d b [] T r (.str (q2r T r)) (q0o T r):=by
 intro S h;have hx:=y8f hr;have hl:=hT.len;have hr':r.at'<T.length:=hr;refine xii ?_;unfold xgu;refine (q61 hT hr).ca h ?_;rw [q0x h];have ho:=q8p h;(try simp only [rwp,hwR,zA,zB,zC,zD,zE,zF,zG,zH,zI,tkC]);refine q05 (q0y (hT.size _ (lA hx))) ?_;cases hn:q0r (nxP T r).s with
 | false=>
  (try simp only [rwp,hwR,zA,zB,zC,zD,zE,zF,zG,zH,zI,ynr]);have hc:¬ (q0r (nxP T r).s=true/\r.de=0):=by rw [hn];simp
  refine (y4i (nxP T r) 8).ca h ?_;(try simp only [rwp,hwR,zA,zB,zC,zD,zE,zF,zG,zH,zI]);exact q02 ⟨by rw [q2r,if_neg hc],by rw [q0o,if_neg hc]⟩
 | true=>
  (try simp only [rwp,hwR,zA,zB,zC,zD,zE,zF,zG,zH,zI,q07 ho]);cases a1:decide (r.de=0) with
  | false=>
   have hc:¬ (q0r (nxP T r).s=true/\r.de=0):=fun h=>by rw [decide_eq_true h.2] at a1;cases a1
   (try simp only [rwp,hwR,zA,zB,zC,zD,zE,zF,zG,zH,zI,ynr]);refine (y4i (nxP T r) 8).ca h ?_;(try simp only [rwp,hwR,zA,zB,zC,zD,zE,zF,zG,zH,zI]);exact q02 ⟨by rw [q2r,if_neg hc],by rw [q0o,if_neg hc]⟩
  | true=>
   have hc:q0r (nxP T r).s=true/\r.de=0:=⟨hn,of_decide_eq_true a1⟩;(try simp only [rwp,hwR,zA,zB,zC,zD,zE,zF,zG,zH,zI,ynr,q07 ho,ho])
   (simp (disch:=omega) only [q04])
   exact q02 ⟨by rw [q2r,if_pos hc],by rw [q0o,if_pos hc];rfl⟩
mutual
def hgt:Ex->Nat
 | .mk _ _ _ ks=>ypb ks+1
def ypb:List Ex->Nat
 | []=>0
 | e :: r=>max (hgt e) (ypb r)
end
mutual
theorem yvz:∀ e:Ex,hgt e<=esz e
 | .mk _ _ _ ks=>by
  unfold hgt esz;have:=yln ks;omega
theorem yln:∀ l:List Ex,ypb l<=yf3 l
 | []=>by simp [ypb]
 | e :: r=>by
  unfold ypb yf3;have h1:=yvz e;have h2:=yln r;omega
end
theorem yrq:∀ (e:Ex),OkE e->esz e<=1125899906842624->y02 PG ytp [.agg (exC e)] (.int .i64 (hgt e)):=by
 intro e he
 induction he with
 | mk k n o ks hk hn ho hks ih=>
  intro hsz S;have hle:=yvz (.mk k n o ks);rw [hgt] at hle;refine xd0 ?_;unfold xa0;(try simp only [rwp,hwR,zA,zB,zC,zD,zE,zF,zG,zH,zI,q0f,Ex.kind,Ex.name,Ex.over,Ex.kids]);refine LoopP.introS (fun p:Nat×Nat=>[(1,.rop [.int .i64 k,.str n,.str o,.sl 4 (ks.map exC)]),(3,.int .i64 p.2),(4,.int .i64 p.1)])
   (fun p S'=>S'=S/\p.1<=ks.length/\max p.2 (ypb (ks.drop p.1))=ypb ks) (fun p=>ks.length-p.1) (0,0) ⟨rfl,by omega,by simp⟩ rfl ?_
  rintro ⟨i,m⟩ S1 ⟨rfl,hi,hf⟩ q hq;dsimp only at hi hf;(try simp only [rwp,hwR,zA,zB,zC,zD,zE,zF,zG,zH,zI,ywj])
  (refine q03 (fun hlt=>?_) (fun hlt=>?_)<;>(try simp only [hlc] at hlt))
  ·obtain ⟨x,hx⟩:=q0e hlt;have hkid:=ym9 (k:=k) (n:=n) (o:=o) (lA hx);rw [q0j hx,ypb] at hf;(try simp only [rwp,hwR,zA,zB,zC,zD,zE,zF,zG,zH,zI,hx]);refine q05 (ih x (lA hx) (by omega)) ?_
   (try simp only [rwp,hwR,zA,zB,zC,zD,zE,zF,zG,zH,zI])
   (refine q03 (fun hc=>?_) (fun hc=>?_)<;>(try simp only [hlc] at hc))
   ·(simp (disch:=omega) only [q04])
    exact q08 rfl (hq (i+1,hgt x) _ ⟨rfl,by dsimp only;omega,by dsimp only;omega⟩ (by dsimp only;omega))
   ·(simp (disch:=omega) only [q04])
    exact q08 rfl (hq (i+1,m) _ ⟨rfl,by dsimp only;omega,by dsimp only;omega⟩ (by dsimp only;omega))
  ·rw [q15 hlt,ypb] at hf;have:m=ypb ks:=by omega
   subst this
   (simp (disch:=omega) only [q04])
   exact q02 ⟨by rw [hgt];rfl,rfl⟩
def y38 (k:Int) (a c:Ex):Ex:=.mk k ⟨#[]⟩ ⟨#[]⟩ [a,c]
def y58 (k:Int) (t:Tk) (a c:Ex) (r:Rd):Rd:=if r.de=0/\12<hgt (y38 k a c) then q5i t 9 r else r
theorem y5a {k:Int} {a c:Ex} (ha:OkE a) (hc:OkE c):OkE (y38 k a c):=.mk k _ _ _ (by simp) (by decide) (by decide) fun e he=>by
 simp at he;rcases he with rfl | rfl<;>assumption
theorem y59 {k:Int} {a c:Ex}:esz (y38 k a c)=esz a+esz c+1:=by simp [y38,esz,yf3];omega
theorem x7x {T:List Tk} {r:Rd} {b:Nat} (k:Int) (t:Tk) {a c:Ex} (ha:OkE a) (hc:OkE c) (hsz:r.de=0->esz a+esz c+1<=1125899906842624):AFunR yue b [.int .i64 k,.agg (tkC t),.agg (exC a),.agg (exC c)] T r (.agg (exC (y38 k a c))) (y58 k t a c r):=by
 intro S h;have ho:=q8p h;refine xdr ?_;unfold xar;(try simp only [rwp,hwR,zA,zB,zC,zD,zE,zF,zG,zH,zI,tkC,q0f]);intro b2 hb2;have hne:b2≠b:=q0h hb2 h;(try simp only [rwp,hwR,zA,zB,zC,zD,zE,zF,zG,zH,zI,q07 ho,if_neg hne,q1j]);have h2:∀ r2,y01 (supd (supd S b2 (.cells 51 [.int .i64 0,.str ⟨#[]⟩,.str ⟨#[]⟩,.nils] 4)) b (rdO T r2)) b=some (rdO T r2):=fun r2=>q1h
 have hS0:y01 (supd S b2 (.cells 51 [.int .i64 0,.str ⟨#[]⟩,.str ⟨#[]⟩,.nils] 4)) b=some (rdO T r):=by rw [q01,if_neg hne];exact h
 have fin:∀ S2 r',q0m S2 b2=some (51,[.int .i64 0,.str ⟨#[]⟩,.str ⟨#[]⟩,.nils],4)->(∀ x,b2≠x->y01 S2 x=y01 (supd S b (rdO T r')) x)->r'=y58 k t a c r ->
   yg3 (fun ae S'=>ae=.ret (.agg (exC (y38 k a c)))/\S'=supd S b (rdO T (y58 k t a c r))) (.ptr b2 0) (.rop [.int .i64 k,.str ⟨#[]⟩,.str ⟨#[]⟩,.sl 4 [exC a,exC c]]) S2:=by
  intro S2 r' hob hS2 hr';unfold yg3;have hb2':y01 (supd S b (rdO T r')) b2=none:=by rw [q01,if_neg (Ne.symm hne)];exact hb2
  have hsub:Sub (supd S b (rdO T r')) (y0f (supd S2 b2 (.cells 51 [.int .i64 k,.str ⟨#[]⟩,.str ⟨#[]⟩,.sl 4 [exC a,exC c]] 4)) b2):=by
   intro x o hx;have hxb:b2≠x:=by rintro rfl;rw [hb2'] at hx;cases hx
   rw [q0b,if_neg hxb,q01,if_neg hxb];rw [hS2 x hxb];exact hx
  simp only [q0f] at hsub;(try simp only [rwp,hwR,zA,zB,zC,zD,zE,zF,zG,zH,zI,hob,q0f,q1j]);refine q18 _ hsub ?_;(try simp only [rwp,hwR,zA,zB,zC,zD,zE,zF,zG,zH,zI]);refine ⟨?_,by rw [hr']⟩
  simp only [y38,Ex.kind,Ex.name,Ex.over,Ex.kids,lP,List.map_nil,q0f]
 simp only [q0f] at fin;cases a1:decide (r.de=0) with
 | false=>
  (try simp only [rwp,hwR,zA,zB,zC,zD,zE,zF,zG,zH,zI,yg4]);refine fin _ r q0l (fun x hx=>by rw [q01,if_neg hx,q0x h]) ?_
  rw [y58,if_neg (fun h=>by rw [decide_eq_true h.1] at a1;cases a1)]
 | true=>
  have hde:=of_decide_eq_true a1;(try simp only [rwp,hwR,zA,zB,zC,zD,zE,zF,zG,zH,zI]);have hH:=yrq (y38 k a c) (y5a ha hc) (by rw [y59];exact hsz hde)
  simp only [y38,q0f,Ex.kind,Ex.name,Ex.over,Ex.kids,lP,List.map_nil] at hH;refine q05 hH ?_;(try simp only [rwp,hwR,zA,zB,zC,zD,zE,zF,zG,zH,zI,yg4])
  (refine q03 (fun hg=>?_) (fun hg=>?_)<;>(try simp only [hlc] at hg))
  ·refine (y4i t 9).ca hS0 ?_;refine fin _ (q5i t 9 r) (by rw [q0n (Ne.symm hne)];exact q0l) (fun x hx=>?_) ?_
   ·rw [q01,q01,q01,if_neg hx]
   ·rw [y58,if_pos ⟨hde,by simp only [y38];omega⟩]
  ·refine fin _ r q0l (fun x hx=>by rw [q01,if_neg hx,q0x h]) ?_
   rw [y58,if_neg (fun h=>by have:=h.2;simp only [y38] at this;omega)]
def y2q:Ex:=.mk 0 ⟨#[]⟩ ⟨#[]⟩ []
def sLP:ByteArray:=⟨#[40]⟩
def sRP:ByteArray:=⟨#[41]⟩
def x3v:ByteArray:=⟨#[46]⟩
def q2h (T:List Tk) (ex:Rd->Ex×Rd) (r:Rd):Ex×Rd:=
 if isP T sLP r then
  (if 12<r.op+1 then (y2q,q5i (nxP T r) 9 { isR T sLP r with op:=r.op+1 })
  else ((ex { isR T sLP r with op:=r.op+1 }).1,{ q23 T sRP (ex { isR T sLP r with op:=r.op+1 }).2 with op:=(q23 T sRP (ex { isR T sLP r with op:=r.op+1 }).2).op-1 }))
 else if isP T x3v (q0o T r) then (.mk 1 (q2r T r) (q2r T (isR T x3v (q0o T r))) [],q0o T (isR T x3v (q0o T r)))
 else (.mk 0 (q2r T r) ⟨#[]⟩ [],q0o T r)
def opL (T:List Tk) (tk:ByteArray->Option Int) (sub:Rd->Ex×Rd):Nat->Ex×Rd->Ex×Rd
 | 0,p=>p
 | f+1,(e,r)=>if r.de=0 then (match tk (nxP T r).s with
   | some k=>opL T tk sub f (y38 k e (sub { r with at':=r.at'+1 }).1,y58 k (nxP T r) e (sub { r with at':=r.at'+1 }).1 (sub { r with at':=r.at'+1 }).2)
   | none=>(e,r)) else (e,r)
def y5b (s:ByteArray):Option Int:=if s=⟨#[38]⟩ then some 3 else none
def q9x (s:ByteArray):Option Int:=if s=⟨#[43]⟩ then some 2 else if s=⟨#[45]⟩ then some 4 else none
def q30 (T:List Tk) (ex:Rd->Ex×Rd) (r:Rd):Ex×Rd:=opL T y5b (q2h T ex) T.length (q2h T ex r)
def q5f (T:List Tk) (ex:Rd->Ex×Rd) (r:Rd):Ex×Rd:=opL T q9x (q30 T ex) T.length (q30 T ex r)
def y6e (T:List Tk):Nat->Rd->Ex×Rd
 | 0=>q5f T fun r=>(y2q,r)
 | n+1=>q5f T (y6e T n)
structure Pre (T:List Tk) (n:Nat) (r:Rd):Prop where
 inr:InR T r
 op0:0<=r.op
 op13:r.op<=13
 ok:r.de=0->r.op<=12/\12<=r.op+n
structure StepR (T:List Tk) (r r':Rd) (w:Nat):Prop where
 inr:InR T r'
 mono:r.at'<=r'.at'
 fault:r'.de=0->r.de=0
 op1:r.op<=r'.op
 op2:r'.op<=13
 op:r'.de=0->r'.op=r.op
 sz:r'.de=0->w+r.at'<=r'.at'
theorem StepR.pre {T:List Tk} {r r':Rd} {n w:Nat} (h:StepR T r r' w) (hp:Pre T n r):Pre T n r':=
 ⟨h.inr,by have:=hp.op0;have:=h.op1;omega,h.op2,fun h0=>by have h1:=h.op h0;rw [h1];exact hp.ok (h.fault h0)⟩
theorem StepR.trans {T:List Tk} {r r1 r2:Rd} {w1 w2:Nat} (h:StepR T r r1 w1) (k:StepR T r1 r2 w2):StepR T r r2 (w1+w2):=
 ⟨k.inr,Nat.le_trans h.mono k.mono,fun h0=>h.fault (k.fault h0),by have:=h.op1;have:=k.op1;omega,k.op2,fun h0=>(k.op h0).trans (h.op (k.fault h0)),fun h0=>by have:=h.sz (k.fault h0);have:=k.sz h0;omega⟩
theorem StepR.le {T:List Tk} {r r1:Rd} {w w':Nat} (h:StepR T r r1 w) (hw:w'<=w):StepR T r r1 w':=
 ⟨h.inr,h.mono,h.fault,h.op1,h.op2,h.op,fun h0=>by have:=h.sz h0;omega⟩
theorem StepR.refl {T:List Tk} {r:Rd} {n:Nat} (hp:Pre T n r):StepR T r r 0:=⟨hp.inr,Nat.le_refl _,id,Int.le_refl _,hp.op13,fun _=>rfl,fun _=>by omega⟩
theorem x08 {T:List Tk} (hT:y0k T) {r:Rd} (hr:InR T r) (h1:(nxP T r).s≠⟨#[]⟩) (h2:(nxP T r).s≠⟨#[63]⟩):r.at'+1<T.length:=by
 have hx:=y8f hr;unfold InR at hr;rcases Nat.lt_or_ge (r.at'+1) T.length with h | h
 ·exact h
 ·have e:T.length-1=r.at':=by omega
  have:=hT.last (nxP T r) (by rw [e];exact hx)
  rcases this with h3 | h3
  ·exact absurd h3 h1
  ·exact absurd h3 h2
theorem adv {T:List Tk} (hT:y0k T) {r:Rd} {n:Nat} (hp:Pre T n r) (h1:(nxP T r).s≠⟨#[]⟩) (h2:(nxP T r).s≠⟨#[63]⟩):StepR T r { r with at':=r.at'+1 } 1:=
 ⟨x08 hT hp.inr h1 h2,Nat.le_succ _,id,Int.le_refl _,hp.op13,fun _=>rfl,fun _=>by dsimp only;omega⟩
theorem yey {T:List Tk} {r r1:Rd} (t:Tk) {e:Int} (he:e≠0) (w':Nat) (h1:InR T r1) (h2:r.at'<=r1.at') (h3:r.op<=r1.op) (h4:r1.op<=13):StepR T r (q5i t e r1) w':=by
 have hne:¬ (q5i t e r1).de=0:=by
  unfold q5i;split
  ·exact he
  ·assumption
 have e1:(q5i t e r1).at'=r1.at':=by unfold q5i;split<;>rfl
 have e2:(q5i t e r1).op=r1.op:=by unfold q5i;split<;>rfl
 exact ⟨by unfold InR;rw [e1];exact h1,by rw [e1];exact h2,fun h0=>absurd h0 hne,by rw [e2];exact h3,by rw [e2];exact h4,fun h0=>absurd h0 hne,fun h0=>absurd h0 hne⟩
theorem q7z {T:List Tk} {r r1:Rd} {w:Nat} (t:Tk) {e:Int} (he:e≠0) (w':Nat) (h:StepR T r r1 w):StepR T r (q5i t e r1) w':=yey t he w' h.inr h.mono h.op1 h.op2
theorem ybo {T:List Tk} {s:ByteArray} {r:Rd} (h:isP T s r=true):r.de=0/\(nxP T r).s=s:=by
 unfold isP at h;simpa using h
theorem q2n {T:List Tk} (hT:y0k T) {s:ByteArray} {r:Rd} {n:Nat} (hp:Pre T n r) (h:isP T s r=true) (h1:s≠⟨#[]⟩) (h2:s≠⟨#[63]⟩):StepR T r (isR T s r) 1:=by
 obtain ⟨-,h4⟩:=ybo h;rw [isR,if_pos h];exact adv hT hp (by rw [h4];exact h1) (by rw [h4];exact h2)
theorem q4s {T:List Tk} (hT:y0k T) {s:ByteArray} {r:Rd} {n:Nat} (hp:Pre T n r) (h1:s≠⟨#[]⟩) (h2:s≠⟨#[63]⟩):StepR T r (q23 T s r) 1:=by
 unfold q23;cases h:isP T s r with
 | true=>rw [if_pos rfl];exact q2n hT hp h h1 h2
 | false=>rw [if_neg (by simp)];exact q7z _ (by decide) 1 (StepR.refl hp)
theorem yky {s:ByteArray} (h:q0r s=true):s≠⟨#[]⟩/\s≠⟨#[63]⟩:=by
 constructor
 ·rintro rfl
  revert h
  decide +kernel
 ·rintro rfl
  revert h
  decide +kernel
theorem q22 {T:List Tk} (hT:y0k T) {r:Rd} {n:Nat} (hp:Pre T n r):StepR T r (q0o T r) 1:=by
 unfold q0o;split
 ·rename_i h
  obtain ⟨h1,h2⟩:=yky h.1;exact adv hT hp h1 h2
 ·exact q7z _ (by decide) 1 (StepR.refl hp)
theorem q2t {T:List Tk} (hT:y0k T) {r:Rd} (hr:InR T r):(q2r T r).size<=1125899906842624:=by
 unfold q2r;split
 ·exact hT.size _ (lA (y8f hr))
 ·exact Nat.zero_le _
theorem q4d {T:List Tk} {r r1:Rd} {w:Nat} (k:Int) (t:Tk) (a c:Ex) (h:StepR T r r1 w):StepR T r (y58 k t a c r1) w:=by
 unfold y58;split
 ·exact q7z _ (by decide) w h
 ·exact h
structure yiy (T:List Tk) (r:Rd) (p:Ex×Rd):Prop where
 st:StepR T r p.2 (esz p.1)
 ok:OkE p.1
theorem q7l {k:Int} {n o:ByteArray} (hn:n.size<=1125899906842624) (ho:o.size<=1125899906842624):OkE (.mk k n o []):=.mk k n o [] (by simp) hn ho fun e he=>by (cases he)
theorem y6h {k:Int} {n o:ByteArray}:esz (.mk k n o [])=1:=by simp [esz,yf3]
def yix (T:List Tk) (n:Nat) (ex:Rd->Ex×Rd):Prop:=∀ m,n=m+1->∀ r,Pre T m r->yiy T r (ex r)
theorem yvw {T:List Tk} (hT:y0k T) {n:Nat} {r:Rd} (hp:Pre T n r) (h:isP T sLP r=true) (h12:¬ 12<r.op+1):∃ m,n=m+1/\Pre T m { isR T sLP r with op:=r.op+1 }:=by
 obtain ⟨h1,h2⟩:=ybo h;obtain ⟨k1,k2⟩:=hp.ok h1;have hs:=q2n hT hp h (by decide +kernel) (by decide +kernel)
 refine ⟨n-1,by omega,hs.inr,?_,?_,fun _=>?_⟩
 ·have:=hp.op0;dsimp only;omega
 ·dsimp only;omega
 ·dsimp only;omega
theorem y2i {T:List Tk} (hT:y0k T) {n:Nat} {ex:Rd->Ex×Rd} (hex:yix T n ex) {r:Rd} (hp:Pre T n r):yiy T r (q2h T ex r):=by
 unfold q2h;split
 ·rename_i h
  have hs:=q2n hT hp h (by decide +kernel) (by decide +kernel)
  obtain ⟨h1,h2⟩:=ybo h;split
  ·rename_i h12
   have h5:r.op=12:=by have:=(hp.ok h1).1;omega
   refine ⟨?_,q7l (Nat.zero_le _) (Nat.zero_le _)⟩;exact yey _ (by decide) _ hs.inr hs.mono (by dsimp only;omega) (by dsimp only;omega)
  ·rename_i h12
   obtain ⟨m,hm,hp2⟩:=yvw hT hp h h12;have he:=hex m hm _ hp2;generalize ex { isR T sLP r with op:=r.op+1 }=q at he
   obtain ⟨e,r3⟩:=q;have hp3:=he.st.pre hp2;have hm2:=q4s hT hp3 (s:=sRP) (by decide +kernel) (by decide +kernel)
   have h6:=he.st.trans hm2;dsimp only at h6 ⊢;refine ⟨⟨h6.inr,?_,fun h0=>?_,?_,?_,fun h0=>?_,fun h0=>?_⟩,he.ok⟩
   ·have:=hs.mono;have:=h6.mono;dsimp only at *;omega
   ·exact hs.fault (h6.fault h0)
   ·have:=h6.op1;dsimp only at *;omega
   ·have:=h6.op2;dsimp only at *;omega
   ·have:=h6.op h0;dsimp only at *;omega
   ·have h7:=h6.sz h0;have h8:=hs.mono;dsimp only at *;omega
 ·have hn:=q22 hT hp;have hpn:=hn.pre hp;split
  ·rename_i h
   have h1:=q2n hT hpn h (by decide +kernel) (by decide +kernel)
   have hp1:=h1.pre hpn;have h2:=q22 hT hp1;refine ⟨?_,q7l (q2t hT hp.inr) (q2t hT hp1.inr)⟩;rw [y6h];exact ((hn.trans h1).trans h2).le (by omega)
  ·refine ⟨?_,q7l (q2t hT hp.inr) (Nat.zero_le _)⟩;rw [y6h];exact hn
def ysu (tk:ByteArray->Option Int):Prop:=tk ⟨#[]⟩=none/\tk ⟨#[63]⟩=none
theorem yk6 {T:List Tk} (hT:y0k T) {n:Nat} {tk:ByteArray->Option Int} (htk:ysu tk) {sub:Rd->Ex×Rd} (hsub:∀ r,Pre T n r->yiy T r (sub r)) {r0:Rd} (hp0:Pre T n r0):∀ {f:Nat} {p:Ex×Rd},yiy T r0 p->yiy T r0 (opL T tk sub f p)
 | 0,p,h=>h
 | f+1,(e,r),h=>by
  unfold opL;split
  ·rename_i h0
   split
   ·rename_i k hk
    have hp:=h.st.pre hp0;have ha:=adv hT hp (fun h1=>by rw [h1,htk.1] at hk;cases hk) (fun h1=>by rw [h1,htk.2] at hk;cases hk)
    have hs:=hsub _ (ha.pre hp);refine yk6 hT htk hsub hp0 ⟨q4d _ _ _ _ ?_,y5a h.ok hs.ok⟩;have hst:=h.st;have hss:=hs.st;dsimp only at hst ha hss ⊢;rw [y59];exact ((hst.trans ha).trans hss).le (by omega)
   ·exact h
  ·exact h
theorem y3e:ysu y5b:=⟨by decide +kernel,by decide +kernel⟩
theorem signs_expr:ysu q9x:=⟨by decide +kernel,by decide +kernel⟩
theorem y13 {T:List Tk} (hT:y0k T) {n:Nat} {ex:Rd->Ex×Rd} (hex:yix T n ex) {r:Rd} (hp:Pre T n r):yiy T r (q30 T ex r):=yk6 hT y3e (fun _ h=>y2i hT hex h) hp (y2i hT hex hp)
theorem y8w {T:List Tk} (hT:y0k T) {n:Nat} {ex:Rd->Ex×Rd} (hex:yix T n ex) {r:Rd} (hp:Pre T n r):yiy T r (q5f T ex r):=yk6 hT signs_expr (fun _ h=>y13 hT hex h) hp (y13 hT hex hp)
theorem yc1 {T:List Tk} (hT:y0k T):∀ {n:Nat} {r:Rd},Pre T n r->yiy T r (y6e T n r)
 | 0,r,hp=>y8w hT (fun m h=>by omega) hp
 | n+1,r,hp=>y8w hT (fun m h r hr=>by
  have:n=m:=by omega
  subst this;exact yc1 hT hr) hp
set_option maxRecDepth 4000
theorem ypr {S S1:q00} (h:Sub S S1) (b:Nat) (o:AObj):Sub (supd S b o) (supd S1 b o):=by
 intro x y hx;rw [q01] at hx ⊢;split
 ·rename_i hb;rw [if_pos hb] at hx;exact hx
 ·rename_i hb;rw [if_neg hb] at hx;exact h x y hx
theorem ypq {S:q00} {b b2:Nat} {o x y:AObj} (hb2:y01 S b2=none) (hne:b2≠b):Sub (supd S b o) (supd (supd (supd S b2 x) b o) b2 y):=
 Sub.supd (by rw [q01,if_neg (Ne.symm hne)];exact hb2) (ypr (Sub.fresh x hb2) b o)
theorem ydi {T:List Tk} {a:Nat} {o x y z:Int}:(AObj.cells 145 [.sl 3 (T.map tkC),.int .i64 a,.int .i64 o,.int .i64 x,.int .i64 y,.int .i64 z] 6)=rdO T ⟨a,o,x,y,z⟩:=rfl
abbrev c41:AObj:=.cells 51 [.int .i64 0,.str ⟨#[]⟩,.str ⟨#[]⟩,.nils] 4
def ynn (T:List Tk) (n b:Nat) (ex:Rd->Ex×Rd):Prop:=∀ m,n=m+1->∀ r,Pre T m r->AFunR ye2 b [] T r (.agg (exC (ex r).1)) (ex r).2
theorem ywa {T:List Tk} (hT:y0k T) {n b:Nat} {ex:Rd->Ex×Rd} (hex:yix T n ex) (hexW:ynn T n b ex) {r:Rd} (hp:Pre T n r):AFunR ytq b [] T r (.agg (exC (q2h T ex r).1)) (q2h T ex r).2:=by
 intro S h;have hl:=hT.len;have hr':r.at'<T.length:=hp.inr;have h0:=hp.op0;have h13:=hp.op13;refine xd1 ?_;unfold xa1;intro b2 hb2;have hne:b2≠b:=q0h hb2 h;have hS0:y01 (supd S b2 c41) b=some (rdO T r):=by rw [q01,if_neg hne];exact h
 refine (q61 hT hp.inr).ca hS0 ?_;rw [q0x hS0];(try simp only [rwp,hwR,zA,zB,zC,zD,zE,zF,zG,zH,zI,tkC]);refine (yw7 hT hp.inr sLP).ca hS0 ?_;have fin:∀ (k:Int) (s o:ByteArray) (v:AV) (e:Ex) (r':Rd),e=.mk k s o e.kids->q2h T ex r=(e,r')->(v=.nils/\e.kids=[]\/v=.sl 4 (e.kids.map exC)) ->
   rtW [.cell (.ptr b2 0) 4 true] (fun ae S'=>ae=.ret (.agg (exC (q2h T ex r).1))/\S'=supd S b (rdO T (q2h T ex r).2)) (supd (supd (supd S b2 c41) b (rdO T r')) b2 (.cells 51 [.int .i64 k,.str s,.str o,v] 4)):=by
  intro k s o v e r' he0 he hv;rw [he];refine q5d (supd S b (rdO T r')) (.agg (exC e)) (ypq hb2 hne) ?_ ⟨rfl,rfl⟩;rw [he0,q0f];(try simp only [rwp,hwR,zA,zB,zC,zD,zE,zF,zG,zH,zI]);refine .ag (.cons (.same _) (.cons (.same _) (.cons (.same _) (.cons ?_ .nil))));rcases hv with ⟨rfl,h2⟩ | rfl
  ·rw [Ex.kids,h2];exact .nils 4
  ·exact .same _
 have hob:∀ o,q0m (supd (supd S b2 c41) b o) b2=some (51,[.int .i64 0,.str ⟨#[]⟩,.str ⟨#[]⟩,.nils],4):=fun o=>by rw [q0n (Ne.symm hne)];exact q0l
 cases hi:isP T sLP r with
 | true=>
  have hs:=q2n hT hp hi (by decide +kernel) (by decide +kernel)
  have hir:isR T sLP r={ r with at':=r.at'+1 }:=by rw [isR,if_pos hi]
  (try simp only [rwp,hwR,zA,zB,zC,zD,zE,zF,zG,zH,zI,q07 (q8p q1h),q8p q1h,hir]);rw [q04 (by omega) (by omega)]
  simp only [ydi]
  (refine q03 (fun h12=>?_) (fun h12=>?_)<;>(try simp only [hlc] at h12))
  ·refine (y4i (nxP T r) 9).ca q1h ?_;(try simp only [rwp,hwR,zA,zB,zC,zD,zE,zF,zG,zH,zI,hob]);refine fin 0 _ _ _ y2q _ rfl ?_ (.inl ⟨rfl,rfl⟩);rw [q2h,if_pos hi,if_pos h12,hir]
  ·obtain ⟨m,hm,hp2⟩:=yvw hT hp hi h12;have he:=hex m hm _ hp2;rw [hir] at hp2 he;refine (hexW m hm _ hp2).ca q1h ?_;have hat:q2h T ex r=((ex { r with at':=r.at'+1,op:=r.op+1 }).1,{ q23 T sRP (ex { r with at':=r.at'+1,op:=r.op+1 }).2 with op:=(q23 T sRP (ex { r with at':=r.at'+1,op:=r.op+1 }).2).op-1 }):=by
    rw [q2h,if_pos hi,if_neg h12,hir]
   generalize ex { r with at':=r.at'+1,op:=r.op+1 }=q at he hat
   obtain ⟨e,r3⟩:=q;have hp3:=he.st.pre hp2;have hm2:=q4s hT hp3 (s:=sRP) (by decide +kernel) (by decide +kernel)
   have hp4:=hm2.pre hp3;have o1:=hp4.op0;have o2:=hp4.op13;dsimp only at o1 o2;(try simp only [rwp,hwR,zA,zB,zC,zD,zE,zF,zG,zH,zI,q0f]);refine (ymt hT hp3.inr sRP).ca q1h ?_;(try simp only [rwp,hwR,zA,zB,zC,zD,zE,zF,zG,zH,zI,q07 (q8p q1h),q8p q1h]);rw [q04 (by omega) (by omega)]
   simp only [ydi];(try simp only [rwp,hwR,zA,zB,zC,zD,zE,zF,zG,zH,zI,hob,if_neg (Ne.symm hne)]);have hf:=fin e.kind e.name e.over _ e _ (by cases e;rfl) hat (.inr rfl)
   simp only [q0f] at hf;exact hf
 | false=>
  rw [q9k hi];have hn:=q22 hT hp;have hpn:=hn.pre hp;(try simp only [rwp,hwR,zA,zB,zC,zD,zE,zF,zG,zH,zI]);refine (y2c hT hp.inr).ca q1h ?_;(try simp only [rwp,hwR,zA,zB,zC,zD,zE,zF,zG,zH,zI]);refine (yw7 hT hpn.inr x3v).ca q1h ?_;cases hd:isP T x3v (q0o T r) with
  | true=>
   have h1:=q2n hT hpn hd (by decide +kernel) (by decide +kernel)
   have hp1:=h1.pre hpn;(try simp only [rwp,hwR,zA,zB,zC,zD,zE,zF,zG,zH,zI]);refine (y2c hT hp1.inr).ca q1h ?_;(try simp only [rwp,hwR,zA,zB,zC,zD,zE,zF,zG,zH,zI,hob]);refine fin _ _ _ _ (.mk 1 (q2r T r) (q2r T (isR T x3v (q0o T r))) []) _ rfl ?_ (.inl ⟨rfl,rfl⟩);rw [q2h,if_neg (by rw [hi];simp),if_pos hd]
  | false=>
   rw [q9k hd];(try simp only [rwp,hwR,zA,zB,zC,zD,zE,zF,zG,zH,zI,hob]);refine fin _ _ _ _ (.mk 0 (q2r T r) ⟨#[]⟩ []) _ rfl ?_ (.inl ⟨rfl,rfl⟩);rw [q2h,if_neg (by rw [hi];simp),if_neg (by rw [hd];simp)]
theorem ydy {T:List Tk} {tk:ByteArray->Option Int} {sub:Rd->Ex×Rd} {f:Nat} {p:Ex×Rd} (h:¬ (p.2.de=0/\(tk (nxP T p.2).s).isSome=true)):opL T tk sub f p=p:=by
 cases f with
 | zero=>rfl
 | succ f=>
  obtain ⟨e,r⟩:=p;unfold opL;split
  ·rename_i h0
   split
   ·rename_i k hk
    exact absurd ⟨h0,by rw [hk];rfl⟩ h
   ·rfl
  ·rfl
theorem y5v {T:List Tk} (hT:y0k T) {n:Nat} {tk:ByteArray->Option Int} (htk:ysu tk) {sub:Rd->Ex×Rd} (hsub:∀ r,Pre T n r->yiy T r (sub r)):∀ {f g:Nat} {p:Ex×Rd},Pre T n p.2->T.length<=f+p.2.at'->T.length<=g+p.2.at'->opL T tk sub f p=opL T tk sub g p
 | 0,g,p,hp,h1,h2=>by have h3:p.2.at'<T.length:=hp.inr;omega
 | f+1,0,p,hp,h1,h2=>by have h3:p.2.at'<T.length:=hp.inr;omega
 | f+1,g+1,(e,r),hp,h1,h2=>by
  dsimp only at h1 h2;unfold opL;split
  ·rename_i h0
   split
   ·rename_i k hk
    have ha:=adv hT hp (fun h1=>by rw [h1,htk.1] at hk;cases hk) (fun h1=>by rw [h1,htk.2] at hk;cases hk)
    have hs:=hsub _ (ha.pre hp);have h5:=q4d k (nxP T r) e (sub { r with at':=r.at'+1 }).1 hs.st
    have h6:=h5.mono;dsimp only at h6 hp;exact y5v hT htk hsub (h5.pre (ha.pre hp)) (by dsimp only;omega) (by dsimp only;omega)
   ·rfl
  ·rfl
structure TrI (S:q00) (b b2 b3:Nat) (T:List Tk) (p:Ex×Rd) (S':q00):Prop where
 rd:y01 S' b=some (rdO T p.2)
 c3:y01 S' b3=some (.cells 51 (exC p.1) 4)
 c2:y01 S' b2=some c41
 oth:∀ x,b≠x->b3≠x->b2≠x->y01 S' x=y01 S x
theorem TrI.step {S S':q00} {b b2 b3:Nat} {T:List Tk} {p:Ex×Rd} (h:TrI S b b2 b3 T p S') (n1:b2≠b) (n2:b3≠b) (n3:b3≠b2) (e:Ex) (r':Rd):TrI S b b2 b3 T (e,r') (supd (supd S' b (rdO T r')) b3 (.cells 51 (exC e) 4)):=
 ⟨by rw [q01,if_neg n2,q01,if_pos rfl],by rw [q01,if_pos rfl],by rw [q01,if_neg n3,q01,if_neg (Ne.symm n1)];exact h.c2,fun x h1 h2 h3=>by rw [q01,if_neg h2,q01,if_neg h1];exact h.oth x h1 h2 h3⟩
theorem TrI.sub {S S':q00} {b b2 b3:Nat} {T:List Tk} {p:Ex×Rd} (h:TrI S b b2 b3 T p S') (n1:b2≠b) (n2:b3≠b) (n3:b3≠b2) (k2:y01 S b2=none) (k3:y01 S b3=none) (o:AObj):Sub (supd S b (rdO T p.2)) (y0f (supd S' b2 o) b2):=by
 intro x y hx;have h2:b2≠x:=by
  rintro rfl;rw [q01,if_neg (Ne.symm n1),k2] at hx;cases hx
 have h3:b3≠x:=by
  rintro rfl;rw [q01,if_neg (Ne.symm n2),k3] at hx;cases hx
 rw [q0b,if_neg h2,q01,if_neg h2];rw [q01] at hx;by_cases hb:b=x
 ·subst hb;rw [if_pos rfl] at hx;rw [h.rd];exact hx
 ·rw [if_neg hb] at hx;rw [h.oth x hb h3 h2];exact hx
theorem yw5 {T:List Tk} (hT:y0k T) {n b:Nat} {ex:Rd->Ex×Rd} (hex:yix T n ex) (hexW:ynn T n b ex) {r:Rd} (hp:Pre T n r):AFunR yuf b [] T r (.agg (exC (q30 T ex r).1)) (q30 T ex r).2:=by
 intro S h;have hl:=hT.len;refine xds ?_;unfold xas;intro b2 hb2;have n1:b2≠b:=q0h hb2 h;have hS0:y01 (supd S b2 c41) b=some (rdO T r):=by rw [q01,if_neg n1];exact h
 (try simp only [rwp,hwR,zA,zB,zC,zD,zE,zF,zG,zH,zI]);refine (ywa hT hex hexW hp).ca hS0 ?_;intro b3 hb3;have n2:b3≠b:=q0h hb3 q1h;have n3:b3≠b2:=q0h hb3 (x:=c41) (by rw [q01,if_neg (Ne.symm n1),q01,if_pos rfl])
 have k3:y01 S b3=none:=by rw [q01,if_neg (Ne.symm n2),q01,if_neg (Ne.symm n3)] at hb3;exact hb3
 have hI0:TrI S b b2 b3 T (q2h T ex r) (supd (supd (supd S b2 c41) b (rdO T (q2h T ex r).2)) b3 (.cells 51 (exC (q2h T ex r).1) 4)):=
  ⟨by rw [q01,if_neg n2,q01,if_pos rfl],by rw [q01,if_pos rfl],by rw [q01,if_neg n3,q01,if_neg (Ne.symm n1),q01,if_pos rfl],fun x h1 h2 h3=>by rw [q01,if_neg h2,q01,if_neg h1,q01,if_neg h3]⟩
 have hat:=y2i hT hex hp;have hfin:opL T y5b (q2h T ex) T.length (q2h T ex r)=q30 T ex r:=rfl;simp only [q0f] at hI0;(try simp only [rwp,hwR,zA,zB,zC,zD,zE,zF,zG,zH,zI,q0f,q1j]);rw [<- q0f];simp only [<- q0f] at hI0;generalize q2h T ex r=p0 at hI0 hat hfin;refine LoopP.introS (fun _:Ex×Rd=>[(0,.ptr b 0),(2,.ptr b2 0),(3,.ptr b3 0)])
  (fun p S'=>TrI S b b2 b3 T p S'/\yiy T r p/\opL T y5b (q2h T ex) T.length p=q30 T ex r) (fun p=>T.length-p.2.at') p0 ⟨by simpa only [q0f] using hI0,hat,hfin⟩ rfl ?_
 clear hI0 hat hfin;rintro ⟨e,r1⟩ S1 ⟨hI,hE,hf⟩ q hq;have hp1:=hE.st.pre hp;have hin:r1.at'<T.length:=hp1.inr;have ho:=q8p hI.rd;(try simp only [rwp,hwR,zA,zB,zC,zD,zE,zF,zG,zH,zI,ywu,q07 ho]);have stop:¬ (r1.de=0/\(y5b (nxP T r1).s).isSome=true)->yaa (fun ae S'=>ae=.ret (.agg (exC (q30 T ex r).1))/\S'=supd S b (rdO T (q30 T ex r).2)) q (.ptr b 0) (.ptr b2 0) (.ptr b3 0) (.bool false) S1:=fun hn=>by
  rw [ydy hn] at hf;rw [<- hf];unfold yaa;have hsub:=hI.sub n1 n2 n3 hb2 k3;have hc3:=objAt_some.2 hI.c3;have hc2:=objAt_some.2 hI.c2;simp only [q0f] at hc3;(try simp only [rwp,hwR,zA,zB,zC,zD,zE,zF,zG,zH,zI,q07 hc3,hc2,q0f,q1j]);refine q18 _ (hsub _) ?_;(try simp only [rwp,hwR,zA,zB,zC,zD,zE,zF,zG,zH,zI,q0f])
 cases a1:decide (r1.de=0) with
 | false=>
  (try simp only [rwp,hwR,zA,zB,zC,zD,zE,zF,zG,zH,zI]);exact stop fun h=>by rw [decide_eq_true h.1] at a1;cases a1
 | true=>
  have hde:r1.de=0:=of_decide_eq_true a1;(try simp only [rwp,hwR,zA,zB,zC,zD,zE,zF,zG,zH,zI]);refine (q61 hT hp1.inr).ca hI.rd ?_;rw [q0x hI.rd];(try simp only [rwp,hwR,zA,zB,zC,zD,zE,zF,zG,zH,zI,tkC]);cases a2:decide ((nxP T r1).s=⟨#[38]⟩) with
  | false=>
   (try simp only [rwp,hwR,zA,zB,zC,zD,zE,zF,zG,zH,zI]);exact stop fun h=>by
    have:=of_decide_eq_false a2;rw [y5b,if_neg this] at h;cases h.2
  | true=>
   have hk:y5b (nxP T r1).s=some 3:=by rw [y5b,if_pos (of_decide_eq_true a2)]
   have ha:=adv hT hp1 (fun h1=>by rw [h1] at hk;revert hk;decide +kernel) (fun h1=>by rw [h1] at hk;revert hk;decide +kernel)
   have hpa:=ha.pre hp1;have hs:=y2i hT hex hpa;have hps:=hs.st.pre hpa;have hfu:opL T y5b (q2h T ex) T.length (y38 3 e (q2h T ex { r1 with at':=r1.at'+1 }).1,y58 3 (nxP T r1) e (q2h T ex { r1 with at':=r1.at'+1 }).1 (q2h T ex { r1 with at':=r1.at'+1 }).2)=q30 T ex r:=by
    rw [<- hf];obtain ⟨m,hm⟩:∃ m,T.length=m+1:=⟨T.length-1,by omega⟩
    have h5:=q4d 3 (nxP T r1) e (q2h T ex { r1 with at':=r1.at'+1 }).1 hs.st
    have h6:=h5.mono;dsimp only at h6
    conv=>rhs;rw [hm,opL,if_pos hde]
    simp only [hk];exact y5v hT y3e (fun _ h=>y2i hT hex h) (h5.pre hpa) (by dsimp only;omega) (by dsimp only;omega)
   have hE2:yiy T r (y38 3 e (q2h T ex { r1 with at':=r1.at'+1 }).1,y58 3 (nxP T r1) e (q2h T ex { r1 with at':=r1.at'+1 }).1 (q2h T ex { r1 with at':=r1.at'+1 }).2):=by
    refine ⟨q4d _ _ _ _ ?_,y5a hE.ok hs.ok⟩;have hst:=hE.st;have hss:=hs.st;dsimp only at hst ha hss ⊢;rw [y59];exact ((hst.trans ha).trans hss).le (by omega)
   have hmu:r1.at'+1<=(y58 3 (nxP T r1) e (q2h T ex { r1 with at':=r1.at'+1 }).1 (q2h T ex { r1 with at':=r1.at'+1 }).2).at':=(q4d 3 (nxP T r1) e _ hs.st).mono
   (try simp only [rwp,hwR,zA,zB,zC,zD,zE,zF,zG,zH,zI,yaa]);refine (q61 hT hp1.inr).ca hI.rd ?_;rw [q0x hI.rd];(try simp only [rwp,hwR,zA,zB,zC,zD,zE,zF,zG,zH,zI,tkC,q07 ho,ho])
   (simp (disch:=omega) only [q04])
   rw [show ((r1.at':Int)+1)=((r1.at'+1:Nat):Int) from rfl]
   simp only [ydi];refine (ywa hT hex hexW hpa).ca q1h ?_;generalize q2h T ex { r1 with at':=r1.at'+1 }=p2 at hs hps hfu hE2 hmu
   obtain ⟨c,r2⟩:=p2;have hbd:r2.de=0->esz e+esz c+1<=1125899906842624:=fun h0=>by
    have h7:=hs.st.sz h0;have h8:=hE.st.sz (ha.fault (hs.st.fault h0));have h9:r2.at'<T.length:=hps.inr;dsimp only at h7 h8;omega
   have htwo:=x7x (T:=T) (r:=r2) (b:=b) 3 (nxP T r1) hE.ok hs.ok hbd;dsimp only at htwo hfu hE2 hmu;have c3:∀ r',q0m (supd S1 b (rdO T r')) b3=some (51,exC e,4):=fun r'=>by rw [q0n (Ne.symm n2)];exact objAt_some.2 hI.c3
   have st:=hI.step n1 n2 n3 (y38 3 e c) (y58 3 (nxP T r1) e c r2);simp only [q0f] at c3 st;(try simp only [rwp,hwR,zA,zB,zC,zD,zE,zF,zG,zH,zI,q0f,q07 (c3 r2)]);simp only [<- q0f];refine htwo.ca q1h ?_;generalize y38 3 e c=e3 at hfu hE2 st ⊢;generalize y58 3 (nxP T r1) e c r2=r3 at hfu hE2 st c3 hmu ⊢;(try simp only [rwp,hwR,zA,zB,zC,zD,zE,zF,zG,zH,zI,q0f,c3 r3,q1j]);exact q08 rfl (hq (e3,r3) _ ⟨by simpa only [q0f] using st,hE2,hfu⟩ (by dsimp only;omega))
set_option maxRecDepth 4000
theorem yfd {T:List Tk} (hT:y0k T) {n b:Nat} {ex:Rd->Ex×Rd} (hex:yix T n ex) (hexW:ynn T n b ex) {r:Rd} (hp:Pre T n r):AFunR ye2 b [] T r (.agg (exC (q5f T ex r).1)) (q5f T ex r).2:=by
 intro S h;have hl:=hT.len;refine xep ?_;unfold xbp;intro b2 hb2;have n1:b2≠b:=q0h hb2 h;have hS0:y01 (supd S b2 c41) b=some (rdO T r):=by rw [q01,if_neg n1];exact h
 (try simp only [rwp,hwR,zA,zB,zC,zD,zE,zF,zG,zH,zI]);refine (yw5 hT hex hexW hp).ca hS0 ?_;intro b3 hb3;have n2:b3≠b:=q0h hb3 q1h;have n3:b3≠b2:=q0h hb3 (x:=c41) (by rw [q01,if_neg (Ne.symm n1),q01,if_pos rfl])
 have k3:y01 S b3=none:=by rw [q01,if_neg (Ne.symm n2),q01,if_neg (Ne.symm n3)] at hb3;exact hb3
 have hI0:TrI S b b2 b3 T (q30 T ex r) (supd (supd (supd S b2 c41) b (rdO T (q30 T ex r).2)) b3 (.cells 51 (exC (q30 T ex r).1) 4)):=
  ⟨by rw [q01,if_neg n2,q01,if_pos rfl],by rw [q01,if_pos rfl],by rw [q01,if_neg n3,q01,if_neg (Ne.symm n1),q01,if_pos rfl],fun x h1 h2 h3=>by rw [q01,if_neg h2,q01,if_neg h1,q01,if_neg h3]⟩
 have hat:=y13 hT hex hp;have hfin:opL T q9x (q30 T ex) T.length (q30 T ex r)=q5f T ex r:=rfl;simp only [q0f] at hI0;(try simp only [rwp,hwR,zA,zB,zC,zD,zE,zF,zG,zH,zI,q0f,q1j]);rw [<- q0f];simp only [<- q0f] at hI0;generalize q30 T ex r=p0 at hI0 hat hfin;refine LoopP.introS (fun _:Ex×Rd=>[(0,.ptr b 0),(2,.ptr b2 0),(3,.ptr b3 0)])
  (fun p S'=>TrI S b b2 b3 T p S'/\yiy T r p/\opL T q9x (q30 T ex) T.length p=q5f T ex r) (fun p=>T.length-p.2.at') p0 ⟨by simpa only [q0f] using hI0,hat,hfin⟩ rfl ?_
 clear hI0 hat hfin;rintro ⟨e,r1⟩ S1 ⟨hI,hE,hf⟩ q hq;have hp1:=hE.st.pre hp;have hin:r1.at'<T.length:=hp1.inr;have ho:=q8p hI.rd;(try simp only [rwp,hwR,zA,zB,zC,zD,zE,zF,zG,zH,zI,yxp,q07 ho]);have stop:¬ (r1.de=0/\(q9x (nxP T r1).s).isSome=true)->y52 (fun ae S'=>ae=.ret (.agg (exC (q5f T ex r).1))/\S'=supd S b (rdO T (q5f T ex r).2)) q (.ptr b 0) (.ptr b2 0) (.ptr b3 0) (.bool false) S1:=fun hn=>by
  rw [ydy hn] at hf;rw [<- hf];unfold y52;have hsub:=hI.sub n1 n2 n3 hb2 k3;have hc3:=objAt_some.2 hI.c3;have hc2:=objAt_some.2 hI.c2;simp only [q0f] at hc3;(try simp only [rwp,hwR,zA,zB,zC,zD,zE,zF,zG,zH,zI,q07 hc3,hc2,q0f,q1j]);refine q18 _ (hsub _) ?_;(try simp only [rwp,hwR,zA,zB,zC,zD,zE,zF,zG,zH,zI,q0f])
 cases a1:decide (r1.de=0) with
 | false=>
  (try simp only [rwp,hwR,zA,zB,zC,zD,zE,zF,zG,zH,zI,yam,y53]);exact stop fun h=>by rw [decide_eq_true h.1] at a1;cases a1
 | true=>
  have hde:r1.de=0:=of_decide_eq_true a1;(try simp only [rwp,hwR,zA,zB,zC,zD,zE,zF,zG,zH,zI]);refine (q61 hT hp1.inr).ca hI.rd ?_;rw [q0x hI.rd];(try simp only [rwp,hwR,zA,zB,zC,zD,zE,zF,zG,zH,zI,tkC]);have low:∀ k:Int,q9x (nxP T r1).s=some k->ygb (fun ae S'=>ae=.ret (.agg (exC (q5f T ex r).1))/\S'=supd S b (rdO T (q5f T ex r).2)) q (.ptr b 0) (.ptr b2 0) (.ptr b3 0) (.rop (tkC (nxP T r1))) (.int .i64 k) S1:=by
   intro k hk;have ha:=adv hT hp1 (fun h1=>by rw [h1,signs_expr.1] at hk;cases hk) (fun h1=>by rw [h1,signs_expr.2] at hk;cases hk)
   have hpa:=ha.pre hp1;have hs:=y13 hT hex hpa;have hps:=hs.st.pre hpa;have hfu:opL T q9x (q30 T ex) T.length (y38 k e (q30 T ex { r1 with at':=r1.at'+1 }).1,y58 k (nxP T r1) e (q30 T ex { r1 with at':=r1.at'+1 }).1 (q30 T ex { r1 with at':=r1.at'+1 }).2)=q5f T ex r:=by
    rw [<- hf];obtain ⟨m,hm⟩:∃ m,T.length=m+1:=⟨T.length-1,by omega⟩
    have h5:=q4d k (nxP T r1) e (q30 T ex { r1 with at':=r1.at'+1 }).1 hs.st
    have h6:=h5.mono;dsimp only at h6
    conv=>rhs;rw [hm,opL,if_pos hde]
    simp only [hk];exact y5v hT signs_expr (fun _ h=>y13 hT hex h) (h5.pre hpa) (by dsimp only;omega) (by dsimp only;omega)
   have hE2:yiy T r (y38 k e (q30 T ex { r1 with at':=r1.at'+1 }).1,y58 k (nxP T r1) e (q30 T ex { r1 with at':=r1.at'+1 }).1 (q30 T ex { r1 with at':=r1.at'+1 }).2):=by
    refine ⟨q4d _ _ _ _ ?_,y5a hE.ok hs.ok⟩;have hst:=hE.st;have hss:=hs.st;dsimp only at hst ha hss ⊢;rw [y59];exact ((hst.trans ha).trans hss).le (by omega)
   have hmu:r1.at'+1<=(y58 k (nxP T r1) e (q30 T ex { r1 with at':=r1.at'+1 }).1 (q30 T ex { r1 with at':=r1.at'+1 }).2).at':=(q4d k (nxP T r1) e _ hs.st).mono
   unfold ygb;(try simp only [rwp,hwR,zA,zB,zC,zD,zE,zF,zG,zH,zI,tkC,q07 ho,ho])
   (simp (disch:=omega) only [q04])
   rw [show ((r1.at':Int)+1)=((r1.at'+1:Nat):Int) from rfl]
   simp only [ydi];refine (yw5 hT hex hexW hpa).ca q1h ?_;generalize q30 T ex { r1 with at':=r1.at'+1 }=p2 at hs hps hfu hE2 hmu
   obtain ⟨c,r2⟩:=p2;have hbd:r2.de=0->esz e+esz c+1<=1125899906842624:=fun h0=>by
    have h7:=hs.st.sz h0;have h8:=hE.st.sz (ha.fault (hs.st.fault h0));have h9:r2.at'<T.length:=hps.inr;dsimp only at h7 h8;omega
   have htwo:=x7x (T:=T) (r:=r2) (b:=b) k (nxP T r1) hE.ok hs.ok hbd;dsimp only at htwo hfu hE2 hmu;have c3:∀ r',q0m (supd S1 b (rdO T r')) b3=some (51,exC e,4):=fun r'=>by rw [q0n (Ne.symm n2)];exact objAt_some.2 hI.c3
   have st:=hI.step n1 n2 n3 (y38 k e c) (y58 k (nxP T r1) e c r2);simp only [q0f] at c3 st;(try simp only [rwp,hwR,zA,zB,zC,zD,zE,zF,zG,zH,zI,q0f,q07 (c3 r2)]);simp only [<- q0f];refine htwo.ca q1h ?_;generalize y38 k e c=e3 at hfu hE2 st ⊢;generalize y58 k (nxP T r1) e c r2=r3 at hfu hE2 st c3 hmu ⊢;(try simp only [rwp,hwR,zA,zB,zC,zD,zE,zF,zG,zH,zI,q0f,c3 r3,q1j]);exact q08 rfl (hq (e3,r3) _ ⟨by simpa only [q0f] using st,hE2,hfu⟩ (by dsimp only;omega))
  simp only [tkC] at low;cases a2:decide ((nxP T r1).s=⟨#[43]⟩) with
  | true=>
   have e2:=of_decide_eq_true a2;have hk:q9x (nxP T r1).s=some 2:=by rw [q9x,if_pos e2]
   have e3:decide ((nxP T r1).s=⟨#[45]⟩)=false:=by rw [e2];decide +kernel
   (try simp only [rwp,hwR,zA,zB,zC,zD,zE,zF,zG,zH,zI,yam,y53,y52]);refine (q61 hT hp1.inr).ca hI.rd ?_;rw [q0x hI.rd];(try simp only [rwp,hwR,zA,zB,zC,zD,zE,zF,zG,zH,zI,tkC,e3]);exact low 2 hk
  | false=>
   (try simp only [rwp,hwR,zA,zB,zC,zD,zE,zF,zG,zH,zI,yam]);refine (q61 hT hp1.inr).ca hI.rd ?_;rw [q0x hI.rd];(try simp only [rwp,hwR,zA,zB,zC,zD,zE,zF,zG,zH,zI,tkC]);cases a3:decide ((nxP T r1).s=⟨#[45]⟩) with
   | true=>
    have hk:q9x (nxP T r1).s=some 4:=by rw [q9x,if_neg (of_decide_eq_false a2),if_pos (of_decide_eq_true a3)]
    (try simp only [rwp,hwR,zA,zB,zC,zD,zE,zF,zG,zH,zI,y53,y52]);refine (q61 hT hp1.inr).ca hI.rd ?_;rw [q0x hI.rd];(try simp only [rwp,hwR,zA,zB,zC,zD,zE,zF,zG,zH,zI,tkC,a3]);exact low 4 hk
   | false=>
    (try simp only [rwp,hwR,zA,zB,zC,zD,zE,zF,zG,zH,zI,y53]);exact stop fun h=>by
     have h1:=of_decide_eq_false a2;have h2:=of_decide_eq_false a3;rw [q9x,if_neg h1,if_neg h2] at h;cases h.2
theorem yw8 {T:List Tk} (hT:y0k T) {b:Nat}:∀ {n:Nat} {r:Rd},Pre T n r->AFunR ye2 b [] T r (.agg (exC (y6e T n r).1)) (y6e T n r).2
 | 0,r,hp=>yfd hT (fun m h=>by omega) (fun m h=>by omega) hp
 | n+1,r,hp=>yfd hT (fun m h r hr=>by
   have:n=m:=by omega
   subst this;exact yc1 hT hr) (fun m h r hr=>by
   have:n=m:=by omega
   subst this;exact yw8 hT hr) hp
def ybc:ByteArray:=⟨#[35]⟩
def y5k:ByteArray:=⟨#[124]⟩
def q1g:ByteArray:=⟨#[58]⟩
def y0i (T:List Tk) (r:Rd):Rf×Rd:=
 if isP T ybc (q0o T r) then (⟨q2r T r,q2r T (isR T ybc (q0o T r))⟩,q0o T (isR T ybc (q0o T r)))
 else (⟨q2r T r,⟨#[]⟩⟩,q0o T r)
def q5h (T:List Tk):Nat->List Rf×Rd->List Rf×Rd
 | 0,p=>p
 | f+1,(l,r)=>if isP T y5k r then q5h T f (l++[(y0i T (isR T y5k r)).1],(y0i T (isR T y5k r)).2) else (l,r)
def y0j (T:List Tk) (r:Rd):(Rl×Bool)×Rd:=
 if isP T q0g r then
  ((⟨q2r T (isR T q0g r),(q5h T T.length ([(y0i T (q23 T q1g (q0o T (isR T q0g r)))).1],(y0i T (q23 T q1g (q0o T (isR T q0g r)))).2)).1,y2q⟩,true),
   (q5h T T.length ([(y0i T (q23 T q1g (q0o T (isR T q0g r)))).1],(y0i T (q23 T q1g (q0o T (isR T q0g r)))).2)).2)
 else if isP T q1l r then
  ((⟨q2r T (isR T q1l r),[],(y6e T 12 (q23 T q1g (q0o T (isR T q1l r)))).1⟩,true),(y6e T 12 (q23 T q1g (q0o T (isR T q1l r)))).2)
 else ((⟨⟨#[]⟩,[],y2q⟩,false),r)
def q4c (T:List Tk):Nat->List Rl×Rd->List Rl×Rd
 | 0,p=>p
 | f+1,(l,r)=>if (y0j T r).1.2=true then q4c T f (l++[(y0j T r).1.1],(y0j T r).2) else (l,(y0j T r).2)
def q2e (T:List Tk):Nat->List Ty×Rd->List Ty×Rd
 | 0,p=>p
 | f+1,(l,r)=>if isP T q29 r then
   q2e T f (l++[⟨q2r T (isR T q29 r),(q4c T T.length ([],q0o T (isR T q29 r))).1⟩],(q4c T T.length ([],q0o T (isR T q29 r))).2)
  else (l,r)
def y47 (T:List Tk) (r:Rd):Rd:=if r.de=0/\¬ (nxP T r).s=⟨#[]⟩ then q5i (nxP T r) 8 r else r
def rd0:Rd:=⟨0,0,0,0,0⟩
def q7i (T:List Tk):List Ty×AV:=
 if (y47 T (q2e T T.length ([],rd0)).2).de=0 then ((q2e T T.length ([],rd0)).1,.agg [.int .i64 0,.int .i64 0,.int .i64 0])
 else ([],.agg [.int .i64 (y47 T (q2e T T.length ([],rd0)).2).dl,.int .i64 (y47 T (q2e T T.length ([],rd0)).2).dc,.int .i64 (y47 T (q2e T T.length ([],rd0)).2).de])
theorem y5t {T:List Tk} (hT:y0k T) {r:Rd} {n:Nat} (hp:Pre T n r):StepR T r (y0i T r).2 1/\OkF (y0i T r).1:=by
 have hn:=q22 hT hp;have hpn:=hn.pre hp;unfold y0i;split
 ·rename_i h
  have h1:=q2n hT hpn h (by decide +kernel) (by decide +kernel)
  have hp1:=h1.pre hpn;have h2:=q22 hT hp1;exact ⟨((hn.trans h1).trans h2).le (by omega),q2t hT hp.inr,q2t hT hp1.inr⟩
 ·exact ⟨hn,q2t hT hp.inr,Nat.zero_le _⟩
structure ywe (T:List Tk) (r:Rd) (p:List Rf×Rd):Prop where
 st:StepR T r p.2 p.1.length
 len:p.1.length<=p.2.at'+1
 ok:∀ f∈p.1,OkF f
theorem y1d {T:List Tk} (hT:y0k T) {n:Nat} {r0 r:Rd} (hp0:Pre T n r0) {l:List Rf} (h:ywe T r0 (l,r)) (hi:isP T y5k r=true) :
  ywe T r0 (l++[(y0i T (isR T y5k r)).1],(y0i T (isR T y5k r)).2)/\r.at'+1<=(y0i T (isR T y5k r)).2.at':=by
 have hp:=h.st.pre hp0;have h1:=q2n hT hp hi (by decide +kernel) (by decide +kernel)
 obtain ⟨h2,h3⟩:=y5t hT (h1.pre hp);have e1:(isR T y5k r).at'=r.at'+1:=by rw [isR,if_pos hi]
 have h4:=h2.mono;have h5:=h.len;dsimp only at h4 h5 e1 h2;refine ⟨⟨?_,?_,fun f hf=>?_⟩,by omega⟩
 ·have h6:=(h.st.trans h1).trans h2;exact h6.le (by simp)
 ·simp only [lG,lD,lL];omega
 ·rcases List.mem_append.1 hf with hf | hf
  ·exact h.ok f hf
  ·rw [List.mem_singleton.1 hf];exact h3
theorem ydh {T:List Tk} (hT:y0k T) {n:Nat} {r0:Rd} (hp0:Pre T n r0):∀ {f:Nat} {p:List Rf×Rd},ywe T r0 p->ywe T r0 (q5h T f p)
 | 0,p,h=>h
 | f+1,(l,r),h=>by
  unfold q5h;split
  ·rename_i hi
   exact ydh hT hp0 (y1d hT hp0 h hi).1
  ·exact h
theorem y3j {T:List Tk} (hT:y0k T) {n:Nat} {r0:Rd} (hp0:Pre T n r0):∀ {f g:Nat} {p:List Rf×Rd},ywe T r0 p->T.length<=f+p.2.at'->T.length<=g+p.2.at'->q5h T f p=q5h T g p
 | 0,g,p,h,h1,h2=>by have h3:p.2.at'<T.length:=h.st.inr;omega
 | f+1,0,p,h,h1,h2=>by have h3:p.2.at'<T.length:=h.st.inr;omega
 | f+1,g+1,(l,r),h,h1,h2=>by
  dsimp only at h1 h2;unfold q5h;split
  ·rename_i hi
   obtain ⟨k1,k2⟩:=y1d hT hp0 h hi;exact y3j hT hp0 k1 (by dsimp only;omega) (by dsimp only;omega)
  ·rfl
theorem x4o {T:List Tk} (hT:y0k T) {r:Rd} (hp:Pre T 12 r):StepR T r (y0j T r).2 (if (y0j T r).1.2 then rsz (y0j T r).1.1 else 0)/\OkR (y0j T r).1.1/\((y0j T r).1.2=true->r.at'+1<=(y0j T r).2.at'):=by
 unfold y0j;split
 ·rename_i hi
  have h1:=q2n hT hp hi (by decide +kernel) (by decide +kernel)
  have hp1:=h1.pre hp;have h2:=q22 hT hp1;have hp2:=h2.pre hp1;have h3:=q4s hT hp2 (s:=q1g) (by decide +kernel) (by decide +kernel)
  have hp3:=h3.pre hp2;obtain ⟨h4,h5⟩:=y5t hT hp3;have hR0:ywe T (q23 T q1g (q0o T (isR T q0g r))) ([(y0i T (q23 T q1g (q0o T (isR T q0g r)))).1],(y0i T (q23 T q1g (q0o T (isR T q0g r)))).2):=
   ⟨h4,by simp,fun f hf=>by rw [List.mem_singleton.1 hf];exact h5⟩
  have hR:=ydh hT hp3 (f:=T.length) hR0;generalize q5h T T.length ([(y0i T (q23 T q1g (q0o T (isR T q0g r)))).1],(y0i T (q23 T q1g (q0o T (isR T q0g r)))).2)=p at hR;obtain ⟨l,r'⟩:=p;have hl:=hR.len;have hin:r'.at'<T.length:=hR.st.inr;have hTl:=hT.len;have e1:(isR T q0g r).at'=r.at'+1:=by rw [isR,if_pos hi]
  refine ⟨?_,⟨q2t hT hp1.inr,?_,hR.ok,q7l (Nat.zero_le _) (Nat.zero_le _)⟩,fun _=>?_⟩
  ·have h6:=((h1.trans h2).trans h3).trans hR.st;refine h6.le ?_;simp only [if_true,rsz,y2q,y6h];omega
  ·dsimp only at hl ⊢;omega
  ·have:=h2.mono;have:=h3.mono;have:=hR.st.mono;dsimp only at *;omega
 ·split
  ·rename_i hi
   have h1:=q2n hT hp hi (by decide +kernel) (by decide +kernel)
   have hp1:=h1.pre hp;have h2:=q22 hT hp1;have hp2:=h2.pre hp1;have h3:=q4s hT hp2 (s:=q1g) (by decide +kernel) (by decide +kernel)
   have hp3:=h3.pre hp2;have h4:=yc1 hT hp3;have e1:(isR T q1l r).at'=r.at'+1:=by rw [isR,if_pos hi]
   refine ⟨?_,⟨q2t hT hp1.inr,by simp,fun f hf=>(by cases hf),h4.ok⟩,fun _=>?_⟩
   ·have h6:=((h1.trans h2).trans h3).trans h4.st;refine h6.le ?_;simp only [if_true,rsz,lL];omega
   ·have:=h2.mono;have:=h3.mono;have:=h4.st.mono;dsimp only at *;omega
  ·exact ⟨StepR.refl hp,⟨Nat.zero_le _,by simp,fun f hf=>(by cases hf),q7l (Nat.zero_le _) (Nat.zero_le _)⟩,fun h=>by cases h⟩
set_option maxRecDepth 4000
abbrev c53:AObj:=.cells 171 [.str ⟨#[]⟩,.str ⟨#[]⟩] 2
abbrev c43:AObj:=.cells 53 [.str ⟨#[]⟩,.nils,.int .i64 0,.str ⟨#[]⟩,.str ⟨#[]⟩,.nils] 6
theorem x7z {T:List Tk} (hT:y0k T) {n b:Nat} {r:Rd} (hp:Pre T n r):AFunR yv8 b [] T r (.agg (rfC (y0i T r).1)) (y0i T r).2:=by
 intro S h;refine xeq ?_;unfold xbq;intro b2 hb2;have n1:b2≠b:=q0h hb2 h;have hS0:y01 (supd S b2 c53) b=some (rdO T r):=by rw [q01,if_neg n1];exact h
 have hn:=q22 hT hp;have hpn:=hn.pre hp;(try simp only [rwp,hwR,zA,zB,zC,zD,zE,zF,zG,zH,zI]);refine (y2c hT hp.inr).ca hS0 ?_;(try simp only [rwp,hwR,zA,zB,zC,zD,zE,zF,zG,zH,zI]);intro b3 hb3;have n2:b3≠b:=q0h hb3 q1h;have n3:b3≠b2:=q0h hb3 (x:=c53) (by rw [q01,if_neg (Ne.symm n1),q01,if_pos rfl])
 have k3:y01 S b3=none:=by rw [q01,if_neg (Ne.symm n2),q01,if_neg (Ne.symm n3)] at hb3;exact hb3
 (try simp only [rwp,hwR,zA,zB,zC,zD,zE,zF,zG,zH,zI]);have hrd:∀ o,y01 (supd (supd (supd S b2 c53) b (rdO T (q0o T r))) b3 o) b=some (rdO T (q0o T r)):=fun o=>by rw [q01,if_neg n2,q01,if_pos rfl]
 refine (yw7 hT hpn.inr ybc).ca (hrd _) ?_;have fin:∀ (f:Rf) (r':Rd) (S2:q00),y0i T r=(f,r')->q0m S2 b3=some (171,rfC f,2)->q0m S2 b2=some (171,[.str ⟨#[]⟩,.str ⟨#[]⟩],2)->(∀ x,b2≠x->b3≠x->y01 S2 x=y01 (supd S b (rdO T r')) x) ->
   ygc (fun ae S'=>ae=.ret (.agg (rfC (y0i T r).1))/\S'=supd S b (rdO T (y0i T r).2)) (.ptr b2 0) (.ptr b3 0) S2:=by
  intro f r' S2 he h3 h2 hS2;rw [he];unfold ygc;have hsub:∀ o,Sub (supd S b (rdO T r')) (y0f (supd S2 b2 o) b2):=fun o x y hx=>by
   have e2:b2≠x:=by rintro rfl;rw [q01,if_neg (Ne.symm n1),hb2] at hx;cases hx
   have e3:b3≠x:=by rintro rfl;rw [q01,if_neg (Ne.symm n2),k3] at hx;cases hx
   rw [q0b,if_neg e2,q01,if_neg e2,hS2 x e2 e3];exact hx
  simp only [rfC] at h3;(try simp only [rwp,hwR,zA,zB,zC,zD,zE,zF,zG,zH,zI,q07 h3,h2]);refine q18 _ (hsub _) ?_;(try simp only [rwp,hwR,zA,zB,zC,zD,zE,zF,zG,zH,zI,rfC])
 cases hi:isP T ybc (q0o T r) with
 | true=>
  have h1:=q2n hT hpn hi (by decide +kernel) (by decide +kernel)
  have hp1:=h1.pre hpn;(try simp only [rwp,hwR,zA,zB,zC,zD,zE,zF,zG,zH,zI]);refine (y2c hT hp1.inr).ca q1h ?_;have ob3:∀ X cs o,q0m (supd (supd X b3 (.cells 171 cs 2)) b o) b3=some (171,cs,2):=fun X cs o=>by rw [q0n (Ne.symm n2)];exact q0l
  (try simp only [rwp,hwR,zA,zB,zC,zD,zE,zF,zG,zH,zI,ob3]);refine fin ⟨q2r T r,q2r T (isR T ybc (q0o T r))⟩ (q0o T (isR T ybc (q0o T r))) _ ?_ q0l ?_ fun x e2 e3=>?_
  ·rw [y0i,if_pos hi]
  ·rw [q0n n3,q0n (Ne.symm n1),q0n n3,q0n (Ne.symm n1)];exact q0l
  ·simp only [q01,if_neg e2,if_neg e3];by_cases hb:b=x
   ·subst hb;simp
   ·simp [hb]
 | false=>
  rw [q9k hi];(try simp only [rwp,hwR,zA,zB,zC,zD,zE,zF,zG,zH,zI]);refine fin ⟨q2r T r,⟨#[]⟩⟩ (q0o T r) _ ?_ ?_ ?_ fun x e2 e3=>?_
  ·rw [y0i,if_neg (by rw [hi];simp)]
  ·rw [q0n (Ne.symm n2)];exact q0l
  ·rw [q0n (Ne.symm n1),q0n n3,q0n (Ne.symm n1)];exact q0l
  ·simp only [q01,if_neg e2,if_neg e3];by_cases hb:b=x
   ·subst hb;simp
   ·simp [hb]
structure RlI (S:q00) (b b2 b4:Nat) (T:List Tk) (name:ByteArray) (p:List Rf×Rd) (S':q00):Prop where
 rd:y01 S' b=some (rdO T p.2)
 c2:y01 S' b2=some c43
 c4:∃ v,y01 S' b4=some (.cells 53 [.str name,v,.int .i64 0,.str ⟨#[]⟩,.str ⟨#[]⟩,.nils] 6)/\LstN (y0f S b) S' 171 2 v (p.1.map rfC)/\q0v v b/\q0v v b2/\q0v v b4
 sub:Sub (y0f S b) S'
theorem LstN.base2 {S S':q00} {b t sz:Nat} {v:AV} {rows:List (List AV)} {o:AObj} (h:LstN (y0f S b) S' t sz v rows) (ha:q0v v b):LstN (supd S b o) S' t sz v rows:=by
 obtain ⟨hr,h⟩:=h;refine ⟨hr,?_⟩;rcases h with h | ⟨c,cap,rfl,h1,h2⟩
 ·exact .inl h
 ·refine .inr ⟨c,cap,rfl,?_,h2⟩;have:=ha c 0 _ _ rfl;rw [q0b,if_neg this] at h1;rw [q01,if_neg this];exact h1
theorem q3z {c:Nat}:q0v .nils c:=fun b off n cap h=>by cases h
theorem ybm {S S':q00} {Y:Prop} {b off:Nat} (h:y01 S' b=y01 S b) (hY:Y):kpW [.ptr b off] S S' Y:=by
 refine ⟨fun v hv c hc=>?_,hY⟩
 rw [lS] at hv;subst hv;simp [blk] at hc;subst hc;exact h
theorem RlI.more {S S1:q00} {b b2 b4:Nat} {T:List Tk} {name:ByteArray} {l:List Rf} {r r2:Rd} (h:RlI S b b2 b4 T name (l,r) S1) (n1:b2≠b) (n2:b4≠b) (n3:b4≠b2) (k2:y01 S b2=none) (k4:y01 S b4=none) (hlen:l.length<=100000) (f:Rf) {v:AV} (hv:y01 S1 b4=some (.cells 53 [.str name,v,.int .i64 0,.str ⟨#[]⟩,.str ⟨#[]⟩,.nils] 6)) {K:q00->Prop} (hK:∀ S3,RlI S b b2 b4 T name (l++[f],r2) S3->K S3) :
  apW (supd S1 b (rdO T r2)) 171 2 32 v (.sl 2 [[.str f.ty,.str f.rl]]) fun v' S2=>soW (q0m S2 b4) S2 1 b4 1 v' K:=by
 obtain ⟨hrd,hc2,⟨v0,hv0,hl,a1,a2,a4⟩,hsub⟩:=h;rw [hv] at hv0;cases hv0;dsimp only at hl hrd;have hb0:y01 (y0f S b) b=none:=by rw [q0b,if_pos rfl]
 have hb4:y01 (y0f S b) b4=none:=by rw [q0b,if_neg (Ne.symm n2)];exact k4
 refine (hl.upd a1 (rdO T r2)).app (hsub.supd hb0) (xs:=[[.str f.ty,.str f.rl]]) (fun r hr=>by rw [lS] at hr;subst hr;rfl) rfl (by simp;omega) ?_
 intro v' S2 h1 h2 h3;obtain ⟨q1,q2⟩:=h3 b (rdO T r2) (by rw [q01,if_pos rfl]) a1
 obtain ⟨q3,q4⟩:=h3 b4 _ (by rw [q01,if_neg (Ne.symm n2)];exact hv) a4
 obtain ⟨q5,q6⟩:=h3 b2 _ (by rw [q01,if_neg (Ne.symm n1)];exact hc2) a2
 rw [objAt_some.2 q3,q3h];have hone:=h2.one;have hac:q09 v'=[v']:=by cases v'<;>first | rfl | cases hone
 rw [hac];refine ⟨rfl,by simp,by simp [y09,hone],hK _ ⟨?_,?_,⟨v',?_,?_,q2,q6,q4⟩,?_⟩⟩
 ·rw [q01,if_neg n2];exact q1
 ·rw [q01,if_neg n3];exact q5
 ·rw [q01,if_pos rfl];rfl
 ·simpa [rfC] using h2.upd q4 _
 ·exact h1.supd hb4
theorem yyi {S:q00} {b:Nat} {T:List Tk} {S2:q00} {r':Rd} {b2:Nat} {o:AObj} (h:Sub (y0f S b) S2) (hb:y01 S2 b=some (rdO T r')) (k2:y01 S b2=none) (n1:b2≠b):Sub (supd S b (rdO T r')) (supd S2 b2 o):=by
 intro x y hx;have e2:b2≠x:=by rintro rfl;rw [q01,if_neg (Ne.symm n1),k2] at hx;cases hx
 rw [q01,if_neg e2];rw [q01] at hx;by_cases hbx:b=x
 ·subst hbx;rw [if_pos rfl] at hx;rw [hb];exact hx
 ·rw [if_neg hbx] at hx;exact h x y (by rw [q0b,if_neg hbx];exact hx)
theorem xfw {T:List Tk} (hT:y0k T) {b:Nat} {r:Rd} (hp:Pre T 12 r):AFunR x5c b [] T r (.tup [.agg (rlC (y0j T r).1.1),.bool (y0j T r).1.2]) (y0j T r).2:=by
 intro S h;have hTl:=hT.len;refine xih ?_;unfold xgt;intro b2 hb2;have n1:b2≠b:=q0h hb2 h;(try simp only [rwp,hwR,zA,zB,zC,zD,zE,zF,zG,zH,zI]);intro b4 hb4;have n2:b4≠b:=q0h hb4 (x:=rdO T r) (by rw [q01,if_neg n1];exact h)
 have n3:b4≠b2:=q0h hb4 (x:=c43) (by rw [q01,if_pos rfl])
 have k4:y01 S b4=none:=by rw [q01,if_neg (Ne.symm n3)] at hb4;exact hb4
 have m1:=Ne.symm n1;have m2:=Ne.symm n2;have m3:=Ne.symm n3;(try simp only [rwp,hwR,zA,zB,zC,zD,zE,zF,zG,zH,zI]);have fin:∀ (x:Rl) (ok:Bool) (r':Rd) (S2:q00) (n:ByteArray) (v:AV) (k:Int) (a o:ByteArray) (w:AV),y0j T r=((x,ok),r')->y01 S2 b=some (rdO T r')->Sub (y0f S b) S2 ->
   Frs (supd S b (rdO T r')) (supd S2 b2 (.cells 53 [.str n,v,.int .i64 k,.str a,.str o,w] 6)) [.str n,v,.int .i64 k,.str a,.str o,w] (rlC x) ->
   rtW [.cell (.ptr b2 0) 6 true,.tmp (.bool ok)] (fun ae S'=>ae=.ret (.tup [.agg (rlC (y0j T r).1.1),.bool (y0j T r).1.2])/\S'=supd S b (rdO T (y0j T r).2)) (supd S2 b2 (.cells 53 [.str n,v,.int .i64 k,.str a,.str o,w] 6)):=by
  intro x ok r' S2 n v k a o w he hb hsub hfr;rw [he];refine q5d (supd S b (rdO T r')) (.tup [.agg (rlC x),.bool ok]) (yyi hsub hb hb2 n1) ?_ ⟨rfl,rfl⟩;(try simp only [rwp,hwR,zA,zB,zC,zD,zE,zF,zG,zH,zI]);exact .tu (.cons (.ag hfr) (.cons (.same _) .nil))
 have hS0:y01 (supd (supd S b2 c43) b4 c43) b=some (rdO T r):=by rw [q01,if_neg n2,q01,if_neg n1];exact h
 have hsub0:Sub (y0f S b) (supd (supd S b2 c43) b4 c43):=by
  intro x y hx;have hbx:b≠x:=by rintro rfl;rw [q0b,if_pos rfl] at hx;cases hx
  rw [q0b,if_neg hbx] at hx;rw [q01,if_neg (q0h k4 hx),q01,if_neg (q0h hb2 hx)];exact hx
 refine (yw7 hT hp.inr q0g).ca hS0 ?_;cases hi:isP T q0g r with
 | true=>
  have h1:=q2n hT hp hi (by decide +kernel) (by decide +kernel)
  have hp1:=h1.pre hp;have h2:=q22 hT hp1;have hp2:=h2.pre hp1;have h3:=q4s hT hp2 (s:=q1g) (by decide +kernel) (by decide +kernel)
  have hp3:=h3.pre hp2;obtain ⟨h4,h5⟩:=y5t hT hp3;(try simp only [rwp,hwR,zA,zB,zC,zD,zE,zF,zG,zH,zI]);refine (y2c hT hp1.inr).ca q1h ?_;have ob4:∀ X cs o,q0m (supd (supd X b4 (.cells 53 cs 6)) b o) b4=some (53,cs,6):=fun X cs o=>by rw [q0n m2];exact q0l
  (try simp only [rwp,hwR,zA,zB,zC,zD,zE,zF,zG,zH,zI,ob4]);have hrd:∀ X cs r',y01 (supd (supd X b (rdO T r')) b4 (.cells 53 cs 6)) b=some (rdO T r'):=fun X cs r'=>by rw [q01,if_neg n2];exact q1h
  refine (ymt hT hp2.inr q1g).ca (hrd _ _ _) ?_;(try simp only [rwp,hwR,zA,zB,zC,zD,zE,zF,zG,zH,zI,q07 (ob4 _ _ _)]);refine (x7z hT hp3).ca q1h ?_;refine ybm (by rw [q01,if_neg m2]) ?_
  refine ⟨⟨rfl,rfl⟩,?_⟩;have hI0:RlI S b b2 b4 T (q2r T (isR T q0g r)) ([],q23 T q1g (q0o T (isR T q0g r)))
    (supd (supd (supd (supd (supd S b2 c43) b4 c43) b (rdO T (q0o T (isR T q0g r)))) b4 (.cells 53 [.str (q2r T (isR T q0g r)),.nils,.int .i64 0,.str ⟨#[]⟩,.str ⟨#[]⟩,.nils] 6)) b (rdO T (q23 T q1g (q0o T (isR T q0g r))))):=by
   refine ⟨q1h,?_,⟨.nils,?_,.nil,q3z,q3z,q3z⟩,?_⟩
   ·simp [q01,m1,m2,m3,n1,n2,n3]
   ·simp [q01,m1,m2,m3,n1,n2,n3]
   ·have hb0:y01 (y0f S b) b=none:=by rw [q0b,if_pos rfl]
    have hb4':y01 (y0f S b) b4=none:=by rw [q0b,if_neg m2];exact k4
    exact ((hsub0.supd hb0).supd hb4').supd hb0
  have hrel:y0j T r=((⟨q2r T (isR T q0g r),(q5h T T.length ([(y0i T (q23 T q1g (q0o T (isR T q0g r)))).1],(y0i T (q23 T q1g (q0o T (isR T q0g r)))).2)).1,y2q⟩,true),(q5h T T.length ([(y0i T (q23 T q1g (q0o T (isR T q0g r)))).1],(y0i T (q23 T q1g (q0o T (isR T q0g r)))).2)).2):=by
   rw [y0j,if_pos hi]
  refine hI0.more n1 n2 n3 hb2 k4 (by simp) (y0i T (q23 T q1g (q0o T (isR T q0g r)))).1 (r2:=(y0i T (q23 T q1g (q0o T (isR T q0g r)))).2) (v:=.nils) ?_ ?_
  ·rw [q01,if_neg m2,q01,if_pos rfl]
  clear hI0;intro S3 hI;generalize q2r T (isR T q0g r)=nm at hI hrel;have hR0:ywe T (q23 T q1g (q0o T (isR T q0g r))) ([(y0i T (q23 T q1g (q0o T (isR T q0g r)))).1],(y0i T (q23 T q1g (q0o T (isR T q0g r)))).2):=
   ⟨h4,by simp,fun f hf=>by rw [List.mem_singleton.1 hf];exact h5⟩
  generalize q23 T q1g (q0o T (isR T q0g r))=r3 at hI hrel hp3 hR0;rw [lR] at hI;generalize ([(y0i T r3).1],(y0i T r3).2)=p0 at hI hrel hR0;refine LoopP.introS (fun _:List Rf×Rd=>[(0,.ptr b 0),(2,.ptr b2 0),(4,.ptr b4 0)])
   (fun p S'=>RlI S b b2 b4 T nm p S'/\ywe T r3 p/\q5h T T.length p=q5h T T.length p0) (fun p=>T.length-p.2.at') p0 ⟨hI,hR0,rfl⟩ rfl ?_
  clear hI hR0;rintro ⟨l,r4⟩ S4 ⟨hI,hR,hf⟩ q hq;have hp4:=hR.st.pre hp3;have hin:r4.at'<T.length:=hp4.inr;have hll:=hR.len;dsimp only at hll;have hI':=hI;obtain ⟨krd,kc2,⟨v,kv,klst,a1,a2,a4⟩,ksub⟩:=hI';dsimp only at krd klst;(try simp only [rwp,hwR,zA,zB,zC,zD,zE,zF,zG,zH,zI,x8s]);refine (yw7 hT hp4.inr y5k).ca krd ?_;cases hb:isP T y5k r4 with
  | true=>
   obtain ⟨hR2,hmu⟩:=y1d hT hp3 hR hb;have h6:=q2n hT hp4 hb (by decide +kernel) (by decide +kernel)
   have hp6:=h6.pre hp4;have hob:q0m (supd S4 b (rdO T (isR T y5k r4))) b4=some (53,[.str nm,v,.int .i64 0,.str ⟨#[]⟩,.str ⟨#[]⟩,.nils],6):=by rw [q0n m2];exact objAt_some.2 kv
   have hf2:q5h T T.length (l++[(y0i T (isR T y5k r4)).1],(y0i T (isR T y5k r4)).2)=q5h T T.length p0:=by
    rw [<- hf];obtain ⟨m,hm⟩:∃ m,T.length=m+1:=⟨T.length-1,by omega⟩
    conv=>rhs;rw [hm,q5h,if_pos hb]
    exact y3j hT hp3 hR2 (by dsimp only;omega) (by dsimp only;omega)
   have hI2:RlI S b b2 b4 T nm (l,isR T y5k r4) (supd S4 b (rdO T (isR T y5k r4))):=by
    refine ⟨q1h,by rw [q01,if_neg m1];exact kc2,⟨v,by rw [q01,if_neg m2];exact kv,klst.upd a1 _,a1,a2,a4⟩,ksub.supd (by rw [q0b,if_pos rfl])⟩
   (try simp only [rwp,hwR,zA,zB,zC,zD,zE,zF,zG,zH,zI,q07 hob]);refine (x7z hT hp6).ca q1h ?_;refine ybm (by rw [q01,if_neg m2]) ?_
   refine ⟨⟨rfl,rfl⟩,?_⟩;refine hI2.more n1 n2 n3 hb2 k4 (by omega) (y0i T (isR T y5k r4)).1 (r2:=(y0i T (isR T y5k r4)).2) (v:=v) ?_ ?_
   ·rw [q01,if_neg m2];exact kv
   intro S5 hI5;exact q08 rfl (hq (l++[(y0i T (isR T y5k r4)).1],(y0i T (isR T y5k r4)).2) S5 ⟨hI5,hR2,hf2⟩ (by dsimp only;omega))
  | false=>
   rw [q9k hb,q0x krd];have hstop:q5h T T.length (l,r4)=(l,r4):=by
    cases T.length with
    | zero=>rfl
    | succ m=>rw [q5h,if_neg (by rw [hb];simp)]
   rw [hstop] at hf;rw [<- hf] at hrel;have ob2:=objAt_some.2 kc2;have ob4':=objAt_some.2 kv;have hone:=klst.one;have hac:q09 v=[v]:=by cases v<;>first | rfl | cases hone
   (try simp only [rwp,hwR,zA,zB,zC,zD,zE,zF,zG,zH,zI,q07 ob4',ob2,q1j]);refine ⟨hone,fin ⟨nm,l,y2q⟩ true r4 S4 nm v 0 _ _ _ hrel krd ksub ?_⟩;rw [q0k];exact .cons (.same _) (.cons (Fr.lst ((klst.upd a2 _).base2 a1)) (.cons (.same _) (.cons (.same _) (.cons (.same _) (.cons (.nils 4) .nil)))))
 | false=>
  rw [q9k hi,q0x hS0];(try simp only [rwp,hwR,zA,zB,zC,zD,zE,zF,zG,zH,zI]);refine (yw7 hT hp.inr q1l).ca hS0 ?_;cases hd:isP T q1l r with
  | true=>
   have h1:=q2n hT hp hd (by decide +kernel) (by decide +kernel)
   have hp1:=h1.pre hp;have h2:=q22 hT hp1;have hp2:=h2.pre hp1;have h3:=q4s hT hp2 (s:=q1g) (by decide +kernel) (by decide +kernel)
   have hp3:=h3.pre hp2;(try simp only [rwp,hwR,zA,zB,zC,zD,zE,zF,zG,zH,zI]);refine (y2c hT hp1.inr).ca q1h ?_;have ob4:∀ X cs o,q0m (supd (supd X b4 (.cells 53 cs 6)) b o) b4=some (53,cs,6):=fun X cs o=>by rw [q0n m2];exact q0l
   (try simp only [rwp,hwR,zA,zB,zC,zD,zE,zF,zG,zH,zI,ob4]);have hrd:∀ X cs r',y01 (supd (supd X b (rdO T r')) b4 (.cells 53 cs 6)) b=some (rdO T r'):=fun X cs r'=>by rw [q01,if_neg n2];exact q1h
   refine (ymt hT hp2.inr q1g).ca (hrd _ _ _) ?_;(try simp only [rwp,hwR,zA,zB,zC,zD,zE,zF,zG,zH,zI]);refine (yw8 hT hp3).ca q1h ?_;have hrel:y0j T r=((⟨q2r T (isR T q1l r),[],(y6e T 12 (q23 T q1g (q0o T (isR T q1l r)))).1⟩,true),(y6e T 12 (q23 T q1g (q0o T (isR T q1l r)))).2):=by
    rw [y0j,if_neg (by rw [hi];simp),if_pos hd]
   generalize q2r T (isR T q1l r)=nm at hrel ⊢;generalize y6e T 12 (q23 T q1g (q0o T (isR T q1l r)))=pe at hrel ⊢;obtain ⟨e,r5⟩:=pe;dsimp only at hrel ⊢;rw [q1b];have hb0:y01 (y0f S b) b=none:=by rw [q0b,if_pos rfl]
   have hb4':y01 (y0f S b) b4=none:=by rw [q0b,if_neg m2];exact k4
   have q1:∀ X cs,y01 (supd (supd X b4 (.cells 53 cs 6)) b (rdO T r5)) b=some (rdO T r5):=fun X cs=>q1h
   have q2:q0m (supd (supd (supd (supd (supd S b2 c43) b4 c43) b (rdO T (q0o T (isR T q1l r)))) b4 (.cells 53 [.str nm,.nils,.int .i64 0,.str ⟨#[]⟩,.str ⟨#[]⟩,.nils] 6)) b (rdO T r5)) b4=some (53,[.str nm,.nils,.int .i64 0,.str ⟨#[]⟩,.str ⟨#[]⟩,.nils],6):=ob4 _ _ _;have q3:q0m (supd (supd (supd (supd (supd S b2 c43) b4 c43) b (rdO T (q0o T (isR T q1l r)))) b4 (.cells 53 [.str nm,.nils,.int .i64 0,.str ⟨#[]⟩,.str ⟨#[]⟩,.nils] 6)) b (rdO T r5)) b2=some (53,[.str ⟨#[]⟩,.nils,.int .i64 0,.str ⟨#[]⟩,.str ⟨#[]⟩,.nils],6):=by
    refine objAt_some.2 ?_;simp [q01,m1,m2,m3,n1,n2,n3]
   have q4:Sub (y0f S b) (supd (supd (supd (supd (supd S b2 c43) b4 c43) b (rdO T (q0o T (isR T q1l r)))) b4 (.cells 53 [.str nm,.nils,.int .i64 0,.str ⟨#[]⟩,.str ⟨#[]⟩,.nils] 6)) b (rdO T r5)):=((hsub0.supd hb0).supd hb4').supd hb0;have q1:=q1 (supd (supd (supd S b2 c43) b4 c43) b (rdO T (q0o T (isR T q1l r)))) [.str nm,.nils,.int .i64 0,.str ⟨#[]⟩,.str ⟨#[]⟩,.nils];generalize supd (supd (supd (supd (supd S b2 c43) b4 c43) b (rdO T (q0o T (isR T q1l r)))) b4 (.cells 53 [.str nm,.nils,.int .i64 0,.str ⟨#[]⟩,.str ⟨#[]⟩,.nils] 6)) b (rdO T r5)=S5 at q1 q2 q3 q4 ⊢;(try simp only [rwp,hwR,zA,zB,zC,zD,zE,zF,zG,zH,zI,q2,q3,q0f,q1j,if_neg n3]);refine fin ⟨nm,[],e⟩ true r5 _ nm .nils e.kind _ _ _ hrel (by rw [q01,if_neg n2];exact q1) (q4.supd hb4') ?_
   rw [q0k];exact .cons (.same _) (.cons (.nils 2) (.cons (.same _) (.cons (.same _) (.cons (.same _) (.cons (.same _) .nil)))))
  | false=>
   rw [q9k hd,q0x hS0];have hrel:y0j T r=((⟨⟨#[]⟩,[],y2q⟩,false),r):=by
    rw [y0j,if_neg (by rw [hi];simp),if_neg (by rw [hd];simp)]
   (try simp only [rwp,hwR,zA,zB,zC,zD,zE,zF,zG,zH,zI,if_neg n3,if_neg m3]);refine fin ⟨⟨#[]⟩,[],y2q⟩ false r _ _ .nils 0 _ _ _ hrel hS0 hsub0 ?_;rw [q0k];exact .cons (.same _) (.cons (.nils 2) (.cons (.same _) (.cons (.same _) (.cons (.same _) (.cons (.nils 4) .nil)))))
set_option maxRecDepth 4000
def bl (s:ByteArray):List UInt8:=s.data.toList
def mkB (l:List UInt8):ByteArray:=⟨l.toArray⟩
theorem x6q (s:ByteArray):mkB (bl s)=s:=by cases s;rfl
theorem q63 (s:ByteArray):(bl s).length=s.size:=by cases s;simp [bl,ByteArray.size]
theorem y4m (s:ByteArray) (i j:Nat):bl (s.extract i j)=((bl s).take j).drop i:=by
 unfold bl;rw [ByteArray.data_extract,Array.toList_extract,List.extract_eq_take_drop,List.drop_take]
theorem q6f (s:ByteArray) (i j:Nat):s.extract i j=mkB (((bl s).take j).drop i):=by rw [<- y4m,x6q]
theorem y9o (s:ByteArray) (i:Nat):s[i]?=(bl s)[i]?:=q8c s i
def q3r:Nat->List UInt8->Nat
 | _,[]=>0
 | i,c :: r=>if atN i c.toNat then q3r (i+1) r+1 else 0
theorem ycz:∀ {l:List UInt8} {i:Nat},q3r i l<=l.length
 | [],i=>by simp [q3r]
 | c :: r,i=>by
  unfold q3r;have:=ycz (l:=r) (i:=i+1);split
  ·simp;omega
  ·simp
theorem x7w {s:ByteArray} (hs:s.size<=1125899906842624):y02 PG yvb [.str s] (.int .i64 (q3r 0 (bl s))):=by
 intro S;refine xet ?_;unfold xbt;refine LoopP.introS (fun i:Nat=>[(0,.str s),(3,.int .i64 i)]) (fun i S'=>S'=S/\i<=s.size/\q3r 0 (bl s)=i+q3r i ((bl s).drop i)) (fun i=>s.size-i) 0 ⟨rfl,by omega,by simp⟩ rfl ?_
 rintro i S' ⟨rfl,hi,hf⟩ r hr;cases h0:decide ((i:Int)<s.size) with
 | false=>
  have hd:(bl s).drop i=[]:=List.drop_of_length_le (by rw [q63];have:=of_decide_eq_false h0;omega)
  rw [hd,q3r] at hf;(try simp only [rwp,hwR,zA,zB,zC,zD,zE,zF,zG,zH,zI,yp1,h0,ygk,ygj,ygi,ygh,ygg,ygf,yge,ygd,y7a,y79]);exact q02 ⟨by rw [hf];rfl,rfl⟩
 | true=>
  have hlt:=of_decide_eq_true h0;obtain ⟨b,hb⟩:=q59 hlt;have hd:=q0j (l:=bl s) (by rw [<- y9o];exact hb)
  rw [hd,q3r] at hf;have ea:atN i b.toNat=((decide (97<=(b.toNat:Int))&&decide ((b.toNat:Int)<=122))||(decide (0<(i:Int))&&(decide ((b.toNat:Int)=95)||(decide (48<=(b.toNat:Int))&&decide ((b.toNat:Int)<=57))))):=by
   have:(!decide ((i:Int)=0))=decide (0<(i:Int)):=by rw [<- decide_not];congr 1;exact propext (by omega)
   simp only [atN,q6l,y22,this]
  have good:atN i b.toNat=true->r [(0,.str s),(3,.int .i64 ((i:Int)+1))] S':=fun h=>by
   rw [if_pos h] at hf;exact hr (i+1) _ ⟨rfl,by omega,by omega⟩ (by omega)
  have bad:atN i b.toNat=false->q3r 0 (bl s)=i:=fun h=>by
   rw [if_neg (by rw [h];simp)] at hf
   exact hf
  cases h1:decide (97<=(b.toNat:Int))<;>cases h2:decide ((b.toNat:Int)<=122)<;>cases h3:decide (0<(i:Int))<;>cases h4:decide ((b.toNat:Int)=95)<;>cases h5:decide (48<=(b.toNat:Int))<;>cases h6:decide ((b.toNat:Int)<=57) <;>
   simp only [h1,h2,h3,h4,h5,h6,Bool.true_and,Bool.false_and,Bool.and_true,Bool.and_false,Bool.or_true,Bool.true_or,Bool.or_false,Bool.false_or,Bool.not_true,Bool.not_false] at ea <;>
   (try simp only [rwp,hwR,zA,zB,zC,zD,zE,zF,zG,zH,zI,yp1,h0,hb,ygk,ygj,ygi,ygh,ygg,ygf,yge,ygd,y7a,y79,h1,h2,h3,h4,h5,h6]) <;>
   first
    | exact q02 ⟨by rw [bad ea],rfl⟩
    | ((simp (disch:=omega) only [q04]);exact q08 rfl (good ea))
set_option maxRecDepth 4000
def signs:ByteArray:=⟨#[58,124,35,43,45,38,46,40,41]⟩
def yba (c:UInt8):ByteArray:=if c∈[58,124,35,43,45,38,46,40,(41:UInt8)] then mkB [c] else ⟨#[63]⟩
theorem yjq {i:Nat} {c:UInt8} (h:signs[i]?=some c):c∈[58,124,35,43,45,38,46,40,(41:UInt8)]/\signs.extract i (i+1)=mkB [c]:=by
 rw [y9o] at h;have hm:=lA h;refine ⟨hm,?_⟩;rw [q6f,List.drop_take,show i+1-i=1 by omega,q0j h]
 rfl
theorem x7y (c:UInt8):y02 PG yva [.int .u8 c.toNat] (.str (yba c)):=by
 intro S;refine xes ?_;unfold xbs;refine LoopP.introS (fun i:Nat=>[(0,.int .u8 c.toNat),(3,.str signs),(4,.int .i64 i)]) (fun i S'=>S'=S/\i<=9/\∀ j b,j<i->signs[j]?=some b->b≠c) (fun i=>9-i) 0 ⟨rfl,by omega,by omega⟩ rfl ?_
 rintro i S' ⟨rfl,hi,hn⟩ r hr;have hsz:signs.size=9:=rfl;(try simp only [rwp,hwR,zA,zB,zC,zD,zE,zF,zG,zH,zI,yxq,hsz])
 (refine q03 (fun hlt=>?_) (fun hlt=>?_)<;>(try simp only [hlc] at hlt))
 ·obtain ⟨b,hb⟩:=q59 (s:=signs) (i:=i) (by rw [hsz];omega)
  obtain ⟨h1,h2⟩:=yjq hb;(try simp only [rwp,hwR,zA,zB,zC,zD,zE,zF,zG,zH,zI,hb])
  (refine q03 (fun he=>?_) (fun he=>?_)<;>(try simp only [hlc] at he))
  ·have hbc:b=c:=UInt8.toNat_inj.1 (by omega)
   subst hbc
   (simp (disch:=omega) only [q04])
   (try simp only [rwp,hwR,zA,zB,zC,zD,zE,zF,zG,zH,zI,hsz]);refine ⟨by omega,by omega,?_⟩
   rw [show ((i:Int)+1).toNat=i+1 by omega,h2]
   exact q02 ⟨by rw [yba,if_pos h1],rfl⟩
  ·(simp (disch:=omega) only [q04])
   refine q08 rfl (hr (i+1) _ ⟨rfl,by omega,fun j x hj hx=>?_⟩ (by omega))
   rcases Nat.lt_succ_iff_lt_or_eq.1 hj with h | rfl
   ·exact hn j x h hx
   ·rw [hb] at hx;cases hx;rintro rfl;exact he rfl
 ·refine q02 ⟨?_,rfl⟩;rw [yba,if_neg];intro hm;obtain ⟨j,hj⟩:=lO hm;have h9:signs[j]?=some c:=by rw [y9o];exact hj
  exact hn j c (by have:=q8b h9;omega) h9 rfl
def y0r:Nat->List UInt8->Nat->Nat->List Tk
 | 0,_,_,_=>[]
 | _+1,[],line,col=>[⟨⟨#[]⟩,line,col⟩]
 | f+1,c :: r,line,col=>
  if c.toNat=32\/c.toNat=9\/c.toNat=10 then y0r f r (if c.toNat=10 then line+1 else line) (if c.toNat=10 then 1 else col+1)
  else if q3r 0 (c :: r)=0 then (if yba c=⟨#[63]⟩ then [⟨⟨#[63]⟩,line,col⟩] else ⟨yba c,line,col⟩ :: y0r f r line (col+1))
  else ⟨mkB ((c :: r).take (q3r 0 (c :: r))),line,col⟩ :: y0r f ((c :: r).drop (q3r 0 (c :: r))) line (col+q3r 0 (c :: r))
def yd2 (s:ByteArray):List Tk:=y0r (s.size+1) (bl s) 1 1
theorem yro {s:ByteArray} (hs:s.size<=4096):y02 PG x5f [.str s] (.sl 3 ((yd2 s).map tkC)):=by
 intro S;refine xik ?_;unfold xgw;refine LoopP.introS (fun p:AV×Nat×Nat×Nat=>[(0,.str s),(3,p.1),(4,.int .i64 p.2.1),(5,.int .i64 p.2.2.1),(6,.int .i64 p.2.2.2)])
  (fun p S'=>p.2.2.2<=s.size/\p.2.1<=p.2.2.2+1/\p.2.2.1<=p.2.2.2+1/\Sub S S'/\∃ (d:List Tk) (f:Nat),s.size-p.2.2.2<f/\d.length<=p.2.2.2/\LstN S S' 149 3 p.1 (d.map tkC)/\d++y0r f ((bl s).drop p.2.2.2) p.2.1 p.2.2.1=yd2 s) (fun p=>s.size-p.2.2.2) (.nils,1,1,0)
  ⟨Nat.zero_le _,Nat.le_refl _,Nat.le_refl _,Sub.refl S,[],s.size+1,by dsimp only;omega,by simp,.nil,rfl⟩ rfl ?_
 rintro ⟨v,line,col,i⟩ S1 ⟨hi,hln,hcl,hs1,d,f,hf,hd,hl,ht⟩ q hq;dsimp only at hi hln hcl hf hd hl ht;obtain ⟨f,rfl⟩:∃ m,f=m+1:=⟨f-1,by omega⟩
 (try simp only [rwp,hwR,zA,zB,zC,zD,zE,zF,zG,zH,zI,x8t])
 (refine q03 (fun hlt=>?_) (fun hlt=>?_)<;>(try simp only [hlc] at hlt))
 ·obtain ⟨c,hc⟩:=q59 hlt;have hdc:=q0j (l:=bl s) (by rw [<- y9o];exact hc)
  rw [hdc,y0r] at ht;(try simp only [rwp,hwR,zA,zB,zC,zD,zE,zF,zG,zH,zI,hc]);have ws:∀ w:Bool,w=(decide (c.toNat=32\/c.toNat=9\/c.toNat=10))->ysy (fun ae S'=>ae=.ret (.sl 3 ((yd2 s).map tkC))/\S'=S) q (.str s) v (.int .i64 line) (.int .i64 col) (.int .i64 i) (.int .u8 c.toNat) (.bool w) S1:=by
   intro w hw;unfold ysy;cases w with
   | true=>
    have hw:=of_decide_eq_true hw.symm;rw [if_pos hw] at ht;cases a3:decide ((c.toNat:Int)=10) with
    | true=>
     have h10:c.toNat=10:=by have:=of_decide_eq_true a3;omega
     rw [if_pos h10,if_pos h10] at ht;(try simp only [rwp,hwR,zA,zB,zC,zD,zE,zF,zG,zH,zI,a3])
     (simp (disch:=omega) only [q04])
     refine q08 rfl (hq (v,line+1,1,i+1) S1 ⟨by dsimp only;omega,by dsimp only;omega,by dsimp only;omega,hs1,d,f,by dsimp only;omega,by dsimp only;omega,hl,ht⟩ (by dsimp only;omega))
    | false=>
     have h10:¬ c.toNat=10:=by have:=of_decide_eq_false a3;omega
     rw [if_neg h10,if_neg h10] at ht;(try simp only [rwp,hwR,zA,zB,zC,zD,zE,zF,zG,zH,zI,a3])
     (simp (disch:=omega) only [q04])
     refine q08 rfl (hq (v,line,col+1,i+1) S1 ⟨by dsimp only;omega,by dsimp only;omega,by dsimp only;omega,hs1,d,f,by dsimp only;omega,by dsimp only;omega,hl,ht⟩ (by dsimp only;omega))
   | false=>
    have hw:=of_decide_eq_false hw.symm;rw [if_neg hw] at ht;have low:∀ (x:ByteArray) (w:Nat),1<=w->i+w<=s.size->yd2 s=d++(if x=⟨#[63]⟩ then [⟨⟨#[63]⟩,line,col⟩] else ⟨x,line,col⟩ :: y0r f ((bl s).drop (i+w)) line (col+w))->ysx (fun ae S'=>ae=.ret (.sl 3 ((yd2 s).map tkC))/\S'=S) q (.str s) v (.int .i64 line) (.int .i64 col) (.int .i64 i) (.int .i64 w) (.str x) S1:=by
     intro x w hw1 hw2 hx;unfold ysx;(try simp only [rwp,hwR,zA,zB,zC,zD,zE,zF,zG,zH,zI]);refine hl.app hs1 (xs:=[tkC ⟨x,line,col⟩]) (fun r hr=>by rw [lS] at hr;subst hr;rfl) rfl (by simp;omega) ?_
     intro v' S2 h1 h2 _;(try simp only [rwp,hwR,zA,zB,zC,zD,zE,zF,zG,zH,zI])
     (refine q03 (fun hq3=>?_) (fun hq3=>?_)<;>(try simp only [hlc] at hq3))
     ·rw [if_pos hq3] at hx;have e1:(d.map tkC)++[tkC ⟨x,line,col⟩]=(yd2 s).map tkC:=by rw [hx,hq3];simp
      rw [e1] at h2;exact q42 h1 h2 ⟨rfl,rfl⟩
     ·rw [if_neg (by simpa using hq3)] at hx
      (simp (disch:=omega) only [q04])
      rw [show (i:Int)+(w:Int)=((i+w:Nat):Int) from rfl,show (col:Int)+(w:Int)=((col+w:Nat):Int) from rfl]
      refine q08 rfl (hq (v',line,col+w,i+w) S2 ⟨by dsimp only;omega,by dsimp only;omega,by dsimp only;omega,h1,d++[⟨x,line,col⟩],f,by dsimp only;omega,by simp;omega,by simpa using h2,?_⟩ (by dsimp only;omega))
      dsimp only;rw [hx];simp
    have hbe:bl (s.extract i s.size)=c :: (bl s).drop (i+1):=by
     rw [y4m,lH (by rw [q63];exact Nat.le_refl _),hdc]
    have hwl:=ycz (l:=c :: (bl s).drop (i+1)) (i:=0);have hcl2:(c :: (bl s).drop (i+1)).length=s.size-i:=by rw [<- hdc,List.length_drop,q63]
    rw [hcl2] at hwl;have hcw:=x7w (s:=s.extract i s.size) (by rw [ByteArray.size_extract];omega)
    rw [hbe] at hcw;(try simp only [rwp,hwR,zA,zB,zC,zD,zE,zF,zG,zH,zI]);refine ⟨by omega,by omega,?_⟩
    refine q05 hcw ?_;have hw0:∀ r,q3r 0 (c :: r)≠0->c≠63:=fun r h=>by
     rintro rfl
     apply h
     unfold q3r;rw [if_neg (by decide)]
    have hw0:=hw0 ((bl s).drop (i+1));have htk:(c :: (bl s).drop (i+1)).drop (q3r 0 (c :: (bl s).drop (i+1)))=(bl s).drop (i+q3r 0 (c :: (bl s).drop (i+1))):=by
     rw [<- hdc,List.drop_drop]
    have hex:s.extract i (i+q3r 0 (c :: (bl s).drop (i+1)))=mkB ((c :: (bl s).drop (i+1)).take (q3r 0 (c :: (bl s).drop (i+1)))):=by
     rw [q6f,List.drop_take,Nat.add_sub_cancel_left,hdc]
    rw [htk] at ht;generalize hn:q3r 0 (c :: (bl s).drop (i+1))=n at *;(try simp only [rwp,hwR,zA,zB,zC,zD,zE,zF,zG,zH,zI])
    (simp (disch:=omega) only [q04])
    (try simp only [rwp,hwR,zA,zB,zC,zD,zE,zF,zG,zH,zI]);refine ⟨by omega,by omega,?_⟩
    rw [show ((i:Int)+(n:Int)).toNat=i+n by omega,hex]
    (refine q03 (fun hn0=>?_) (fun hn0=>?_)<;>(try simp only [hlc] at hn0))
    ·have hn0:n=0:=by omega
     refine q05 (x7y c) ?_;rw [if_pos hn0] at ht;refine low _ 1 (by omega) (by omega) ?_
     rw [<- ht]
    ·have hn0:¬ n=0:=by omega
     rw [if_neg hn0] at ht;refine low _ n (by omega) (by omega) ?_
     rw [<- ht,if_neg];intro h63;have h1:=congrArg bl h63;obtain ⟨m,hm⟩:∃ m,n=m+1:=⟨n-1,by omega⟩
     rw [hm,List.take_succ_cons] at h1;have h2:c :: ((bl s).drop (i+1)).take m=[63]:=by
      have:bl (mkB (c :: ((bl s).drop (i+1)).take m))=c :: ((bl s).drop (i+1)).take m:=by simp [bl,mkB]
      rw [<- this,h1];rfl
     exact hw0 hn0 (List.cons.inj h2).1
  cases a1:decide ((c.toNat:Int)=32)<;>cases a2:decide ((c.toNat:Int)=9)<;>cases a3:decide ((c.toNat:Int)=10) <;>
   (try simp only [rwp,hwR,zA,zB,zC,zD,zE,zF,zG,zH,zI,x2t,a1,a2,a3])<;>refine ws _ ?_<;>simp only [decide_eq_true_eq,decide_eq_false_iff_not] at a1 a2 a3<;>(symm;first | exact decide_eq_true (by omega) | exact decide_eq_false (by omega))
 ·rw [List.drop_of_length_le (by rw [q63];omega),y0r] at ht
  (try simp only [rwp,hwR,zA,zB,zC,zD,zE,zF,zG,zH,zI]);refine hl.app hs1 (xs:=[tkC ⟨⟨#[]⟩,line,col⟩]) (fun r hr=>by rw [lS] at hr;subst hr;rfl) rfl (by simp;omega) ?_
  intro v' S2 h1 h2 _;have e1:(d.map tkC)++[tkC ⟨⟨#[]⟩,line,col⟩]=(yd2 s).map tkC:=by rw [<- ht];simp
  rw [e1] at h2;exact q42 h1 h2 ⟨rfl,rfl⟩
theorem q7b:∀ {f:Nat} {l:List UInt8} {a b:Nat},(y0r f l a b).length<=l.length+1
 | 0,l,a,b=>by simp [y0r]
 | f+1,[],a,b=>by simp [y0r]
 | f+1,c :: r,a,b=>by
  unfold y0r;split
  ·have:=q7b (f:=f) (l:=r) (a:=if c.toNat=10 then a+1 else a) (b:=if c.toNat=10 then 1 else b+1)
   simp only [lD];omega
  ·split
   ·split
    ·simp
    ·have:=q7b (f:=f) (l:=r) (a:=a) (b:=b+1);simp only [lD];omega
   ·rename_i h0
    have:=q7b (f:=f) (l:=(c :: r).drop (q3r 0 (c :: r))) (a:=a) (b:=b+q3r 0 (c :: r));have h2:((c :: r).drop (q3r 0 (c :: r))).length<=r.length:=by
     rw [List.length_drop,lD];omega
    simp only [lD];omega
theorem yea {l:List UInt8}:(mkB l).size=l.length:=by simp [mkB,ByteArray.size]
theorem yh6 {c:UInt8}:(yba c).size<=1:=by
 unfold yba;split
 ·rw [yea];exact Nat.le_refl _
 ·decide
theorem q7a:∀ {f:Nat} {l:List UInt8} {a b:Nat},∀ t∈y0r f l a b,t.s.size<=l.length+1
 | 0,l,a,b,t,ht=>by cases ht
 | f+1,[],a,b,t,ht=>by
  rw [y0r,lS] at ht;subst ht;exact Nat.zero_le _
 | f+1,c :: r,a,b,t,ht=>by
  unfold y0r at ht;split at ht
  ·have:=q7a t ht;simp only [lD];omega
  ·split at ht
   ·split at ht
    ·rw [lS] at ht;subst ht;exact Nat.le_add_left _ _
    ·rcases List.mem_cons.1 ht with rfl | ht
     ·have:=yh6 (c:=c);dsimp only;omega
     ·have:=q7a t ht;simp only [lD];omega
   ·rcases List.mem_cons.1 ht with rfl | ht
    ·dsimp only;rw [yea,List.length_take];omega
    ·have:=q7a t ht;rw [List.length_drop] at this;omega
theorem q7c:∀ {f:Nat} {l:List UInt8} {a b:Nat} {t:Tk},(y0r f l a b).getLast?=some t->l.length<f->t.s=⟨#[]⟩\/t.s=⟨#[63]⟩
 | 0,l,a,b,t,ht,hf=>by omega
 | f+1,[],a,b,t,ht,hf=>by
  rw [y0r] at ht;simp at ht;subst ht;exact .inl rfl
 | f+1,c :: r,a,b,t,ht,hf=>by
  have hne:∀ {f:Nat} {l:List UInt8} {a b:Nat},l.length<f->y0r f l a b≠[]:=by
   intro f
   induction f with
   | zero=>intro l a b h;omega
   | succ f ih=>
    intro l a b h;cases l with
    | nil=>simp [y0r]
    | cons c r=>
     unfold y0r;simp only [lD] at h;split
     ·exact ih (by omega)
     ·split
      ·split<;>simp
      ·simp
  simp only [lD] at hf;unfold y0r at ht;split at ht
  ·exact q7c ht (by omega)
  ·split at ht
   ·split at ht
    ·simp at ht;subst ht;exact .inr rfl
    ·rw [List.getLast?_cons_of_ne_nil (hne (by omega))] at ht
     exact q7c ht (by omega)
   ·rename_i h0
    have hl:((c :: r).drop (q3r 0 (c :: r))).length<f:=by
     rw [List.length_drop,lD];omega
    rw [List.getLast?_cons_of_ne_nil (hne hl)] at ht;exact q7c ht hl
theorem yjf {s:ByteArray} (hs:s.size<=4096):y0k (yd2 s):=by
 have h1:=q7b (f:=s.size+1) (l:=bl s) (a:=1) (b:=1);rw [q63] at h1;refine ⟨?_,fun t ht=>?_,fun t ht=>?_⟩
 ·unfold yd2;omega
 ·have:=q7a t ht;rw [q63] at this;omega
 ·rw [<- List.getLast?_eq_getElem?] at ht;exact q7c ht (by rw [q63];omega)
structure ysv (T:List Tk) (r:Rd) (p:List Rl×Rd):Prop where
 st:StepR T r p.2 0
 len:p.1.length<=p.2.at'
 ok:∀ x∈p.1,OkR x
 sz:p.2.de=0->∀ x∈p.1,rsz x<=p.2.at'
theorem y1c {T:List Tk} (hT:y0k T) {r0 r:Rd} (hp0:Pre T 12 r0) {l:List Rl} (h:ysv T r0 (l,r)) :
  ((y0j T r).1.2=true->ysv T r0 (l++[(y0j T r).1.1],(y0j T r).2)/\r.at'+1<=(y0j T r).2.at')/\ysv T r0 (l,(y0j T r).2):=by
 have hp:=h.st.pre hp0;obtain ⟨h1,h2,h3⟩:=x4o hT hp;have h5:=h.len;have h6:=h1.mono;dsimp only at h1 h5 h6 hp;refine ⟨fun hf=>⟨⟨(h.st.trans h1).le (by omega),?_,fun x hx=>?_,fun h0 x hx=>?_⟩,h3 hf⟩,⟨(h.st.trans h1).le (by omega),by dsimp only;omega,h.ok,fun h0 x hx=>?_⟩⟩
 ·have:=h3 hf;dsimp only at this;simp only [lG,lD,lL];omega
 ·rcases List.mem_append.1 hx with hx | hx
  ·exact h.ok x hx
  ·rw [List.mem_singleton.1 hx];exact h2
 ·dsimp only at h0 ⊢;rcases List.mem_append.1 hx with hx | hx
  ·have:=h.sz (h1.fault h0) x hx;dsimp only at this;omega
  ·rw [List.mem_singleton.1 hx];have:=h1.sz h0;rw [if_pos hf] at this;omega
 ·dsimp only at h0 ⊢;have:=h.sz (h1.fault h0) x hx;dsimp only at this;omega
theorem ydg {T:List Tk} (hT:y0k T) {r0:Rd} (hp0:Pre T 12 r0):∀ {f:Nat} {p:List Rl×Rd},ysv T r0 p->ysv T r0 (q4c T f p)
 | 0,p,h=>h
 | f+1,(l,r),h=>by
  obtain ⟨k1,k2⟩:=y1c hT hp0 h;unfold q4c;split
  ·rename_i hi
   exact ydg hT hp0 (k1 hi).1
  ·exact k2
theorem y3h {T:List Tk} (hT:y0k T) {r0:Rd} (hp0:Pre T 12 r0):∀ {f g:Nat} {p:List Rl×Rd},ysv T r0 p->T.length<=f+p.2.at'->T.length<=g+p.2.at'->q4c T f p=q4c T g p
 | 0,g,p,h,h1,h2=>by have h3:p.2.at'<T.length:=h.st.inr;omega
 | f+1,0,p,h,h1,h2=>by have h3:p.2.at'<T.length:=h.st.inr;omega
 | f+1,g+1,(l,r),h,h1,h2=>by
  dsimp only at h1 h2;obtain ⟨k1,k2⟩:=y1c hT hp0 h;unfold q4c;split
  ·rename_i hi
   obtain ⟨k3,k4⟩:=k1 hi;exact y3h hT hp0 k3 (by dsimp only;omega) (by dsimp only;omega)
  ·rfl
structure x2h (T:List Tk) (p:List Ty×Rd):Prop where
 pre:Pre T 12 p.2
 len:p.1.length<=p.2.at'
 ok:∀ t∈p.1,OkT t
 sz:p.2.de=0->∀ t∈p.1,∀ x∈t.rels,rsz x<=p.2.at'
theorem q8l {T:List Tk} (hT:y0k T) {l:List Ty} {r:Rd} (h:x2h T (l,r)) (hi:isP T q29 r=true) :
  Pre T 12 (isR T q29 r)/\Pre T 12 (q0o T (isR T q29 r))/\ysv T (q0o T (isR T q29 r)) (q4c T T.length ([],q0o T (isR T q29 r))) /\
  x2h T (l++[⟨q2r T (isR T q29 r),(q4c T T.length ([],q0o T (isR T q29 r))).1⟩],(q4c T T.length ([],q0o T (isR T q29 r))).2)/\r.at'+1<=(q4c T T.length ([],q0o T (isR T q29 r))).2.at':=by
 have hp:Pre T 12 r:=h.pre;have h1:=q2n hT hp hi (by decide +kernel) (by decide +kernel)
 have hp1:=h1.pre hp;have h2:=q22 hT hp1;have hp2:=h2.pre hp1;have e1:(isR T q29 r).at'=r.at'+1:=by rw [isR,if_pos hi]
 have hR:=ydg hT hp2 (f:=T.length) (p:=([],q0o T (isR T q29 r))) ⟨StepR.refl hp2,Nat.zero_le _,fun x hx=>(by cases hx),fun _ x hx=>(by cases hx)⟩
 have hn:=q2t hT hp1.inr;generalize q4c T T.length ([],q0o T (isR T q29 r))=p at hR;obtain ⟨rs,r3⟩:=p;have m1:=h2.mono;have m2:=hR.st.mono;have m3:=hR.len;have m4:=h.len;have hin:r3.at'<T.length:=hR.st.inr;have hTl:=hT.len;dsimp only at m2 m3 m4 ⊢;refine ⟨hp1,hp2,hR,⟨hR.st.pre hp2,?_,fun t ht=>?_,fun h0 t ht x hx=>?_⟩,by omega⟩
 ·simp only [lG,lD,lL];omega
 ·rcases List.mem_append.1 ht with ht | ht
  ·exact h.ok t ht
  ·rw [List.mem_singleton.1 ht];exact ⟨hn,by dsimp only;omega,hR.ok⟩
 ·dsimp only at h0 ⊢;rcases List.mem_append.1 ht with ht | ht
  ·have:=h.sz (h1.fault (h2.fault (hR.st.fault h0))) t ht x hx;dsimp only at this;omega
  ·rw [List.mem_singleton.1 ht] at hx;exact hR.sz h0 x hx
theorem y7j {T:List Tk} (hT:y0k T):∀ {f:Nat} {p:List Ty×Rd},x2h T p->x2h T (q2e T f p)
 | 0,p,h=>h
 | f+1,(l,r),h=>by
  unfold q2e;split
  ·rename_i hi
   exact y7j hT (q8l hT h hi).2.2.2.1
  ·exact h
theorem y10 {T:List Tk} (hT:y0k T):∀ {f g:Nat} {p:List Ty×Rd},x2h T p->T.length<=f+p.2.at'->T.length<=g+p.2.at'->q2e T f p=q2e T g p
 | 0,g,p,h,h1,h2=>by have h3:p.2.at'<T.length:=h.pre.inr;omega
 | f+1,0,p,h,h1,h2=>by have h3:p.2.at'<T.length:=h.pre.inr;omega
 | f+1,g+1,(l,r),h,h1,h2=>by
  dsimp only at h1 h2;unfold q2e;split
  ·rename_i hi
   obtain ⟨-,-,-,k3,k4⟩:=q8l hT h hi;exact y10 hT k3 (by dsimp only;omega) (by dsimp only;omega)
  ·rfl
theorem xjx {T:List Tk} (h:0<T.length):Pre T 12 rd0:=⟨h,by decide,by decide,fun _=>by decide⟩
theorem ts0 {T:List Tk} (h:0<T.length):x2h T ([],rd0):=⟨xjx h,Nat.zero_le _,fun t ht=>(by cases ht),fun _ t ht=>(by cases ht)⟩
theorem yre {T:List Tk} {r:Rd} (hp:Pre T 12 r):StepR T r (y47 T r) 0:=by
 unfold y47;split
 ·exact q7z _ (by decide) 0 (StepR.refl hp)
 ·exact StepR.refl hp
theorem yk1 {T:List Tk} (hT:y0k T) (h:0<T.length):OkS (q7i T).1/\∀ t∈(q7i T).1,∀ x∈t.rels,rsz x<=T.length:=by
 have hR:=y7j hT (f:=T.length) (ts0 h);have hin:(q2e T T.length ([],rd0)).2.at'<T.length:=hR.pre.inr;have hl:=hR.len;have hTl:=hT.len;unfold q7i;split
 ·rename_i h0
  refine ⟨⟨by dsimp only;omega,hR.ok⟩,fun t ht x hx=>?_⟩
  have:=hR.sz ((yre hR.pre).fault h0) t ht x hx;omega
 ·exact ⟨⟨Nat.zero_le _,fun t ht=>(by cases ht)⟩,fun t ht=>(by cases ht)⟩
end Go.HL
