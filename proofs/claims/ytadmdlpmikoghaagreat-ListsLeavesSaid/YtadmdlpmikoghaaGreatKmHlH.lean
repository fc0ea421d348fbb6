/- A part of a proof. -/
import Derived.Test.YtadmdlpmikoghaaGreatKmHlG
set_option linter.unusedSimpArgs false
set_option linter.unusedVariables false
namespace Go.HL
inductive q64 where
 | skip
 | reg (sis:List SI) (keep:List Nat)
 | regl (ixs:List Nat) (sis:List SI) (keep:List Nat)
 | regd (sis:List SI) (p:Plan) (keep:List Nat)
 | seq (a b:q64)
 | cond (x:SX) (a b:q64)
 | block (id:Nat) (c:q64)
 | loop (c:q64)
 | exit (id:Nat)
 | ret
 deriving Inhabited
def sisAt (ixs:List Nat) (sis:List SI) (n:Nat):List SI:=(List.range n).map fun i=>((ixs.zip sis).lookup i).getD default
def planOf:List Nat→Plan
 | []=>.done
 | i :: r=>.go i (planOf r)
def ndup:List Nat→Bool
 | []=>true
 | i :: r=>!r.contains i&&ndup r
def linOk (n:Nat) (ixs:List Nat) (sis:List SI):Bool:=ixs.length==sis.length&&ndup ixs&&ixs.all fun i=>decide (i<n)
theorem lookup_zip:∀ {ixs:List Nat} {sis:List SI},ndup ixs=true→∀ (k:Nat) (i:Nat) (s:SI),ixs[k]?=some i→sis[k]?=some s→(ixs.zip sis).lookup i=some s
 | [],sis,_,k,i,s,h,_=>by simp at h
 | j :: ixs,[],_,k,i,s,_,h=>by simp at h
 | j :: ixs,t :: sis,hn,0,i,s,h,h'=>by simp at h h';subst h;subst h';simp [List.lookup]
 | j :: ixs,t :: sis,hn,k+1,i,s,h,h'=>by
  simp only [ndup,Bool.and_eq_true,Bool.not_eq_true'] at hn
  simp at h h'
  have hne:(i==j)=false:=by
   simp only [beq_eq_false_iff_ne]
   rintro rfl
   have:i∈ixs:=List.mem_of_getElem? h
   simp [this] at hn
  simp only [List.zip_cons_cons,List.lookup,hne]
  exact lookup_zip hn.2 k i s h h'
theorem sisAt_get {n:Nat} {ixs:List Nat} {sis:List SI} (h:linOk n ixs sis=true) {k i:Nat} {s:SI} (hi:ixs[k]?=some i) (hs:sis[k]?=some s):(sisAt ixs sis n)[i]?=some s:=by
 simp only [linOk,Bool.and_eq_true,List.all_eq_true,decide_eq_true_eq] at h
 have hlt:=h.2 i (List.mem_of_getElem? hi)
 simp [sisAt,hlt,lookup_zip h.1.2 k i s hi hs]
theorem dwp_lin {P:Program} {L:List SI} {K:Env→q00→Prop} {Qp:AV→q00→Prop}:∀ {ixs:List Nat} {sis:List SI},ixs.length=sis.length→(∀ (k i:Nat) (s:SI),ixs[k]?=some i→sis[k]?=some s→L[i]?=some s) →
  ∀ {e:Env} {S:q00},aops P sis K Qp e S→dwp P L K Qp (planOf ixs) e S
 | [],[],_,_,e,S,h=>h
 | [],_ :: _,hl,_,_,_,_=>by cases hl
 | _ :: _,[],hl,_,_,_,_=>by cases hl
 | i :: ixs,s :: sis,hl,hL,e,S,h=>by
  have h0:=hL 0 i s rfl rfl
  simp only [planOf,dwp,h0]
  exact q93 (fun e' S' h=>dwp_lin (by simpa using hl) (fun k i s h1 h2=>hL (k+1) i s (by simpa using h1) (by simpa using h2)) h) h
structure APost where
 norm:Env→q00→Prop
 exit:Nat→Env→q00→Prop
 ret:Env→q00→Prop
 pan:AV→q00→Prop
def PostOf (R:Nat→Prop) (S:q00) (w:World) (a:Act) (N:Nat) (Q:APost):Exit→Act→World→Prop
 | .normal,a',w'=>KC R S w a N Q.norm a' w'
 | .exit id,a',w'=>KC R S w a N (Q.exit id) a' w'
 | .ret,a',w'=>KC R S w a N Q.ret a' w'
 | .panic [⟨v,false,false⟩],a',w'=>∃ R' S' u,Q.pan u S'∧RV R' w' u v∧Rel R S w a N R' S' w' (lget []) a'
 | _,_,_=>False
def q2i (P:Program) (N:Nat):q64→Code→Bool
 | .skip,.skip=>true
 | .reg sis _,.region _ ops d=>!d&&q3e P N ops sis ops.toList
 | .regl ixs sis _,.region _ ops d=>d&&linOk ops.size ixs sis&&drawOk P N ops (sisAt ixs sis ops.size) (planOf ixs)
 | .regd sis p _,.region _ ops d=>d&&drawOk P N ops sis p
 | .seq a b,.seq c d=>q2i P N a c&&q2i P N b d
 | .cond x a b,.cond y c d=>xok x y&&q2i P N a c&&q2i P N b d
 | .block i a,.block j c=>i==j&&q2i P N a c
 | .loop a,.loop c=>q2i P N a c
 | .exit i,.exit j=>i==j
 | .ret,.ret=>true
 | _,_=>false
def Aw (P:Program) (N:Nat) (sc:q64) (Q:APost) (e:Env) (S:q00):Prop:=
 ∀ (c:Code),q2i P N sc c=true→∀ (R:Nat→Prop) (w:World) (a:Act),Sim R S w→REnv R w e a.tmps→a.tmps.size=N→c.wp P (PostOf R S w a N Q) a w
section
variable {P:Program} {N:Nat} {Q:APost} {e:Env} {S:q00}
theorem KC.trans {R R1:Nat→Prop} {S S1:q00} {w w1:World} {a a1:Act} {e1:Env} (hr:Rel R S w a N R1 S1 w1 e1 a1) {K:Env→q00→Prop} {a':Act} {w':World} (h:KC R1 S1 w1 a1 N K a' w'):KC R S w a N K a' w':=
 let ⟨R',S',e',hK,hr'⟩:=h
 ⟨R',S',e',hK,hr.trans hr'⟩
theorem PostOf.trans {R R1:Nat→Prop} {S S1:q00} {w w1:World} {a a1:Act} {e1:Env} (hr:Rel R S w a N R1 S1 w1 e1 a1):∀ {x:Exit} {a':Act} {w':World},PostOf R1 S1 w1 a1 N Q x a' w'→PostOf R S w a N Q x a' w':=by
 intro x a' w' h
 unfold PostOf at h ⊢
 split at h
 ·exact h.trans hr
 ·exact h.trans hr
 ·exact h.trans hr
 ·obtain ⟨R',S',u,h1,h2,h3⟩:=h
  exact ⟨R',S',u,h1,h2,hr.trans h3⟩
 ·exact h.elim
def Shift (e:Env) (S:q00) (e':Env) (S':q00):Prop:=∀ (R:Nat→Prop) (w:World) (tmps:Array Value),Sim R S w→REnv R w e tmps→∃ R',Sim R' S' w∧REnv R' w e' tmps∧Step R S w R' S' w
theorem Shift.refl (e:Env) (S:q00):Shift e S e S:=fun R w tmps hs he=>⟨R,hs,he,Step.refl _ _ _⟩
theorem Shift.trans {e' e'':Env} {S' S'':q00} (h:Shift e S e' S') (k:Shift e' S' e'' S''):Shift e S e'' S'':=fun R w tmps hs he=>
 let ⟨R1,h1,h2,h3⟩:=h R w tmps hs he
 let ⟨R2,k1,k2,k3⟩:=k R1 w tmps h1 h2
 ⟨R2,k1,k2,h3.trans k3⟩
theorem Shift.sub {S':q00} (h:Sub S' S):Shift e S e S':=fun R w tmps hs he=>⟨R,hs.sub h,he,(Step.refl _ _ _).sub h⟩
theorem Shift.keep (ks:List Nat):Shift e S (lget (q46 ks e)) S:=fun R w tmps hs he=>⟨R,hs,he.keep ks,Step.refl _ _ _⟩
theorem Shift.kc {R R1:Nat→Prop} {S1:q00} {w w1:World} {a a1:Act} {e1:Env} (hr:Rel R S w a N R1 S1 w1 e1 a1) {e':Env} {S':q00} (h:Shift e1 S1 e' S'):∃ R',Rel R S w a N R' S' w1 e' a1:=by
 obtain ⟨R',h1,h2,h3⟩:=h R1 w1 a1.tmps hr.sim hr.env
 exact ⟨R',h1,h2,hr.step.trans h3,hr.defers,hr.size⟩
theorem Aw.shift {sc:q64} {e':Env} {S':q00} (hsh:Shift e S e' S') (h:Aw P N sc Q e' S'):Aw P N sc Q e S:=fun c hc R w a hs he hn=>by
 obtain ⟨R',h1,h2,h3⟩:=hsh R w a.tmps hs he
 exact wp_mono (h c hc R' w a h1 h2 hn) fun _ _ _=>PostOf.trans ⟨h1,h2,h3,rfl,hn⟩
theorem Aw.skip (h:Q.norm e S):Aw P N .skip Q e S:=fun c hc R w a hs he hn=>by
 cases c<;>first | (cases hc;done) | skip
 exact wp_skip ⟨R,S,e,h,Rel.refl hs he hn⟩
theorem Aw.exit {id:Nat} (h:Q.exit id e S):Aw P N (.exit id) Q e S:=fun c hc R w a hs he hn=>by
 cases c<;>first | (cases hc;done) | skip
 simp only [q2i,beq_iff_eq] at hc
 subst hc
 exact wp_exit ⟨R,S,e,h,Rel.refl hs he hn⟩
theorem Aw.ret (h:Q.ret e S):Aw P N .ret Q e S:=fun c hc R w a hs he hn=>by
 cases c<;>first | (cases hc;done) | skip
 exact wp_ret ⟨R,S,e,h,Rel.refl hs he hn⟩
theorem Aw.seq {x y:q64} (h:Aw P N x { Q with norm:=Aw P N y Q } e S):Aw P N (.seq x y) Q e S:=fun c hc R w a hs he hn=>by
 cases c<;>first | (cases hc;done) | skip
 simp only [q2i,Bool.and_eq_true] at hc
 refine wp_seq (wp_mono (h _ hc.1 R w a hs he hn) fun x a' w' hq=>?_)
 unfold PostOf at hq
 split at hq
 ·obtain ⟨R',S',e',hK,hr⟩:=hq
  exact wp_mono (hK _ hc.2 R' _ _ hr.sim hr.env hr.size) fun _ _ _=>PostOf.trans hr
 ·exact hq
 ·exact hq
 ·exact hq
 ·exact hq.elim
def condA (v:AV) (p q:Prop):Prop:=match v with
 | .bool b=>(b=true→p)∧(b=false→q)
 | _=>False
theorem Aw.cond {x:SX} {y z:q64} (h:condA (ev e x) (Aw P N y Q e S) (Aw P N z Q e S)):Aw P N (.cond x y z) Q e S:=fun c hc R w a hs he hn=>by
 cases c<;>first | (cases hc;done) | skip
 simp only [q2i,Bool.and_eq_true] at hc
 have hv:=q1e hc.1.1 he
 unfold condA at h
 split at h
 ·rename_i b hb
  rw [hb] at hv
  exact wp_cond_split hv.bool_inv (fun hb=>h.1 hb _ hc.1.2 R w a hs he hn) (fun hb=>h.2 hb _ hc.2 R w a hs he hn)
 ·exact h.elim
theorem Aw.block {id:Nat} {x:q64} (h:Aw P N x { Q with exit:=fun i e S=>if i=id then Q.norm e S else Q.exit i e S } e S):Aw P N (.block id x) Q e S:=fun c hc R w a hs he hn=>by
 cases c<;>first | (cases hc;done) | skip
 simp only [q2i,Bool.and_eq_true,beq_iff_eq] at hc
 obtain ⟨rfl,hc⟩:=hc
 refine wp_block (wp_mono (h _ hc R w a hs he hn) fun x a' w' hq=>?_)
 unfold PostOf at hq
 split at hq
 ·exact hq
 ·rename_i i _ _
  obtain ⟨R',S',e',hK,hr⟩:=hq
  dsimp only at hK
  unfold Exit.inBlock
  dsimp only
  split at hK
  ·rw [if_pos ‹_›];exact ⟨R',S',e',hK,hr⟩
  ·rw [if_neg ‹_›];exact ⟨R',S',e',hK,hr⟩
 ·exact hq
 ·exact hq
 ·exact hq.elim
theorem Aw.loop {x:q64} (I:Nat→Env→q00→Prop) (n:Nat) (h0:I n e S) (h:∀ n e S,I n e S→Aw P N x { Q with norm:=fun e' S'=>∃ m,m<n∧I m e' S' } e S):Aw P N (.loop x) Q e S:=fun c hc R w a hs he hn=>by
 cases c<;>first | (cases hc;done) | skip
 rename_i body
 simp only [q2i] at hc
 have key:∀ (n:Nat) (R1:Nat→Prop) (S1:q00) (w1:World) (a1:Act) (e1:Env),Rel R S w a N R1 S1 w1 e1 a1→I n e1 S1→(Code.loop body).wp P (PostOf R S w a N Q) a1 w1:=by
  intro n R1 S1 w1 a1 e1 hr hI
  classical
  let J:Act→World→Nat→Prop:=fun a' w' m=>∃ R' S' e',I m e' S'∧Rel R S w a N R' S' w' e' a'
  let good:Act→World→Prop:=fun a' w'=>∃ m,J a' w' m
  let mu:Act→World→Nat:=fun a' w'=>if h:∃ m,J a' w' m∧∀ k,J a' w' k→m≤k then Classical.choose h else 0
  have least:∀ a' w',good a' w'→∃ m,J a' w' m∧∀ k,J a' w' k→m≤k:=by
   intro a' w' ⟨m,hm⟩
   induction m using Nat.strongRecOn with
   | _ m ih=>
    by_cases hk:∃ k,k<m∧J a' w' k
    ·obtain ⟨k,hlt,hk⟩:=hk
     exact ih k hlt hk
    ·exact ⟨m,hm,fun k hk'=>by
      rcases Nat.lt_or_ge k m with h | h
      ·exact absurd ⟨k,h,hk'⟩ hk
      ·exact h⟩
  have mu_spec:∀ a' w',good a' w'→J a' w' (mu a' w')∧∀ k,J a' w' k→mu a' w'≤k:=by
   intro a' w' hg
   have hl:=least a' w' hg
   show J a' w' (if h:_ then Classical.choose h else 0)∧_
   simp only [mu,dif_pos hl]
   exact Classical.choose_spec hl
  refine wp_loop good mu ⟨n,R1,S1,e1,hI,hr⟩ fun a' w' hg=>?_
  obtain ⟨⟨R',S',e',hI',hr'⟩,_⟩:=mu_spec a' w' hg
  refine wp_mono (h _ e' S' hI' body hc R' w' a' hr'.sim hr'.env hr'.size) fun x a'' w'' hq=>?_
  unfold PostOf at hq
  split at hq
  ·obtain ⟨R'',S'',e'',⟨m,hlt,hm⟩,hr''⟩:=hq
   have hJ:J _ _ m:=⟨R'',S'',e'',hm,hr'.trans hr''⟩
   have hg':good _ _:=⟨m,hJ⟩
   exact ⟨hg',Nat.lt_of_le_of_lt ((mu_spec _ _ hg').2 m hJ) hlt⟩
  ·exact KC.trans hr' hq
  ·exact KC.trans hr' hq
  ·obtain ⟨R'',S'',u,k1,k2,k3⟩:=hq
   exact ⟨R'',S'',u,k1,k2,hr'.trans k3⟩
  ·exact hq.elim
 exact key n R S w a e (Rel.refl hs he hn) h0
def Keep (keep:List Nat) (K:Env→q00→Prop):Env→q00→Prop:=fun e S=>K (lget (q46 keep e)) S
end
inductive RVar where
 | tmp (t:Nat)
 | cell (t n:Nat) (ag:Bool)
structure SFunc where
 n:Nat
 args:Nat
 res:List RVar
 code:q64
def resV (S:q00) (e:Env):RVar→Option AV
 | .tmp t=>some (e t)
 | .cell t n ag=>match cellsOf S (e t) with
  | some cs=>mkA ag n cs
  | none=>none
def resVs (S:q00) (e:Env):List RVar→Option (List AV)
 | []=>some []
 | r :: rs=>match resV S e r,resVs S e rs with
  | some v,some vs=>some (v :: vs)
  | _,_=>none
def tupA:List AV→AV
 | [v]=>v
 | vs=>.tup vs
def rvOk (P:Program):RVar→ResultVar→Bool
 | .tmp t,.tmp t'=>t==t'
 | .cell t n ag,.cell t' ty=>t==t'&&szT P ty==some n&&aggT P ty==some ag
 | _,_=>false
def rvsOk (P:Program):List RVar→List ResultVar→Bool
 | [],[]=>true
 | x :: xs,y :: ys=>rvOk P x y&&rvsOk P xs ys
 | _,_=>false
def funcOk (P:Program) (f:Nat) (F:SFunc):Bool:=match P.funcs[f]? with
 | some fn => !(fn.name == "runtime.NumGoroutine") && fn.ntmps == F.n && decide (F.args ≤ F.n) && rvsOk P F.res fn.results.toList && (match fn.body with
  | some c=>q2i P F.n F.code c
  | none=>false)
 | none=>false
def ShV (v:AV) (S:q00) (v':AV) (S':q00):Prop:=∀ (R:Nat→Prop) (w:World) (u:Value),Sim R S w→RV R w v u→∃ R',Sim R' S' w∧RV R' w v' u∧Step R S w R' S' w
theorem ShV.refl (v:AV) (S:q00):ShV v S v S:=fun R w u hs hv=>⟨R,hs,hv,Step.refl _ _ _⟩
theorem ShV.sub {v:AV} {S S':q00} (h:Sub S' S):ShV v S v S':=fun R w u hs hv=>⟨R,hs.sub h,hv,(Step.refl _ _ _).sub h⟩
def RetA (rs:List RVar) (Q:AEnd→q00→Prop) (e:Env) (S:q00):Prop:=match resVs S e rs with
 | some vs=>∃ v' S',ShV (tupA vs) S v' S'∧Q (.ret v') S'
 | none=>False
def FPost (rs:List RVar) (Q:AEnd→q00→Prop):APost where
 norm:=RetA rs Q
 exit:=fun _ _ _=>False
 ret:=RetA rs Q
 pan:=fun u S=>Q (.pan u) S
def q4t (args:List AV):List (Nat×AV):=args.zipIdx.map fun (v,i)=>(i,v)
def resRun (tmps:Array Value):ResultVar→Sem Value
 | .tmp t=>pure (tmps.getD t undef)
 | .cell a t=>do loadVar t (← asAddr (tmps.getD a undef))
section
variable {P:Program} {R:Nat→Prop} {S:q00} {w:World} {e:Env} {tmps:Array Value}
theorem run_res (hs:Sim R S w) (he:REnv R w e tmps) {r:RVar} {x:ResultVar} (hok:rvOk P r x=true) {u:AV} (hv:resV S e r=some u):∃ v,RV R w u v∧(resRun tmps x).run P w=.ok v w:=by
 cases r with
 | tmp t=>
  cases x<;>simp only [rvOk,beq_iff_eq] at hok
  ·subst hok
   simp only [resV,Option.some.injEq] at hv
   subst hv
   exact ⟨_,he t,rfl⟩
  ·cases hok
 | cell t n ag=>
  cases x<;>simp only [rvOk,Bool.and_eq_true,beq_iff_eq] at hok
  ·cases hok
  ·obtain ⟨⟨rfl,h1⟩,h2⟩:=hok
   simp only [resV] at hv
   split at hv
   ·rename_i cs hcs
    obtain ⟨a,vs,ha,hvs,hc⟩:=cells_at hs (he t) hcs
    obtain ⟨v,hv1,h3,h4⟩:=mkA_rv hv hvs
    refine ⟨v,hv1,?_⟩
    have:=q84 (P:=P) h1 h2 (w':=w) (a:=a) hc h3 h4
    simp only [resRun]
    rw [ha]
    simp [asAddr,this]
   ·cases hv
theorem run_ress (hs:Sim R S w) (he:REnv R w e tmps):∀ {rs:List RVar} {xs:List ResultVar},rvsOk P rs xs=true→∀ {us:List AV},resVs S e rs=some us→∃ vs,RVs R w us vs∧(xs.mapM (resRun tmps)).run P w=.ok vs w
 | [],[],_,us,h=>by
  simp only [resVs,Option.some.injEq] at h
  subst h
  exact ⟨[],.nil,rfl⟩
 | r :: rs,x :: xs,hok,us,h=>by
  simp only [rvsOk,Bool.and_eq_true] at hok
  simp only [resVs] at h
  split at h
  ·rename_i v vs h1 h2
   cases h
   obtain ⟨v',k1,k2⟩:=run_res hs he hok.1 h1
   obtain ⟨vs',k3,k4⟩:=run_ress hs he hok.2 h2
   refine ⟨v' :: vs',.cons k1 k3,?_⟩
   simp [List.mapM_cons,k2,k4]
  ·cases h
 | [],_ :: _,hok,_,_=>by cases hok
 | _ :: _,[],hok,_,_=>by cases hok
theorem results_eq (fn:Func) (tmps:Array Value):results fn tmps=(fn.results.mapM (resRun tmps) >>= fun vs=>pure (if h:vs.size=1 then vs[0] else .tuple vs)):=by
 unfold results
 exact congrArg (fun (g:ResultVar→Sem Value)=>fn.results.mapM g >>= fun vs=>(pure (if h:vs.size=1 then vs[0] else Value.tuple vs):Sem Value)) (funext fun x=>by cases x<;>rfl)
theorem q5r (hs:Sim R S w) (he:REnv R w e tmps) {fn:Func} {rs:List RVar} (hok:rvsOk P rs fn.results.toList=true) {us:List AV} (h:resVs S e rs=some us):∃ v,RV R w (tupA us) v∧(results fn tmps).run P w=.ok v w:=by
 obtain ⟨vs,h1,h2⟩:=run_ress hs he hok h
 have hm:(fn.results.mapM (resRun tmps)).run P w=.ok vs.toArray w:=by
  rw [Array.mapM_eq_mapM_toList]
  simp [h2]
 refine ⟨if h:vs.toArray.size=1 then vs.toArray[0] else .tuple vs.toArray,?_,?_⟩
 ·match us,vs,h1 with
  | [],[],h1=>exact RV.tup_iff.2 ⟨#[],rfl,.nil⟩
  | [u],[v],h1=>exact h1.head
  | u :: u' :: us,v :: v' :: vs,h1=>exact RV.tup_iff.2 ⟨(v :: v' :: vs).toArray,by simp,by simpa using h1⟩
  | [],_ :: _,h1=>cases h1.1
  | _ :: _,[],h1=>cases h1.1
  | [u],_ :: _ :: _,h1=>simpa using h1.1
  | _ :: _ :: _,[v],h1=>simpa using h1.1
 ·rw [results_eq]
  simp only [Sem.run_bind,hm,Result.andThen_ok]
  rfl
theorem q6o:∀ (args:List AV) (k t:Nat),lget ((args.zipIdx k).map fun (v,i)=>(i,v)) t=if k≤t then (args[t-k]?).getD .junk else .junk
 | [],k,t=>by simp [lget]
 | v :: r,k,t=>by
  simp only [List.zipIdx_cons,List.map_cons,q7k]
  by_cases h:k=t
  ·subst h;simp
  ·rw [if_neg h,q6o r (k+1) t]
   by_cases h2:k+1≤t
   ·have e1:t-k=(t-(k+1))+1:=by omega
    rw [if_pos h2,if_pos (by omega),e1]
    simp
   ·rw [if_neg h2,if_neg (by omega)]
theorem q92 {args:List AV} {vs:Array Value} (h:RVs R w args vs.toList) (n:Nat):REnv R w (lget (q4t args)) (vs++Array.replicate n undef):=fun t=>by
 unfold eget q4t
 rw [q6o]
 simp only [Nat.zero_le,if_true,Nat.sub_zero]
 cases ht:args[t]? with
 | none=>exact .junk _
 | some u=>
  have hlt:t<vs.size:=by
   have:=(List.getElem?_eq_some_iff.1 ht).1
   have:=h.1
   simp at this
   omega
  have:=h.2 t u ht
  simpa [Array.getElem?_append_left hlt,hlt] using this
theorem acalls_of {f:Nat} {F:SFunc} (hok:funcOk P f F=true) {args:List AV} (ha:args.length=F.args) {Q:AEnd→q00→Prop} (h:Aw P F.n F.code (FPost F.res Q) (lget (q4t args)) S):ACalls P f args S Q:=by
 unfold funcOk at hok
 cases hf:P.funcs[f]? with
 | none=>rw [hf] at hok;cases hok
 | some fn=>
  rw [hf] at hok
  cases hb:fn.body with
  | none=>simp [hb] at hok
  | some c=>
   simp only [hb,Bool.and_eq_true,beq_iff_eq,decide_eq_true_eq] at hok
   obtain ⟨⟨⟨⟨h1,h2⟩,h3⟩,h4⟩,h5⟩:=hok
   refine fun R w vs hs hv=>.inl ⟨by unfold q6y;rw [hf];simp only [hb,Option.isSome_some,Bool.and_true];exact h1,?_⟩
   have hsz:vs.size=F.args:=by rw [← ha];have:=hv.1;simp at this;exact this.symm
   refine calls_of_wp hf hb ?_
   refine wp_mono (h c h5 R w { tmps:=vs++Array.replicate (fn.ntmps-vs.size) undef,defers:=[] } hs (q92 hv _) (by simp;omega)) fun x a' w' hq=>?_
   have ret:∀ {K:Env→q00→Prop},K=RetA F.res Q→KC R S w { tmps:=vs++Array.replicate (fn.ntmps-vs.size) undef,defers:=[] } F.n K a' w' →
     a'.defers=[]∧∃ v,(results fn a'.tmps).run P w'=.ok v w'∧∃ R' S' ae,EndR R' w' ae (.returned v)∧Q ae S'∧Sim R' S' w'∧Step R S w R' S' w':=by
    rintro K rfl ⟨R',S',e',hK,hr⟩
    unfold RetA at hK
    split at hK
    ·rename_i us hus
     obtain ⟨v',S'',hsh,hQ⟩:=hK
     obtain ⟨v,k1,k2⟩:=q5r hr.sim hr.env h4 hus
     obtain ⟨R'',k3,k4,k5⟩:=hsh R' w' v hr.sim k1
     exact ⟨hr.defers,v,k2,R'',S'',.ret v',k4,hQ,k3,hr.step.trans k5⟩
    ·exact hK.elim
   unfold PostOf at hq
   split at hq
   ·exact ret rfl hq
   ·obtain ⟨R',S',e',hK,hr⟩:=hq;exact hK.elim
   ·exact ret rfl hq
   ·obtain ⟨R',S',u,k1,k2,k3⟩:=hq
    exact ⟨k3.defers,R',S',.pan u,k2,k1,k3.sim,k3.step⟩
   ·exact hq.elim
end
end Go.HL
