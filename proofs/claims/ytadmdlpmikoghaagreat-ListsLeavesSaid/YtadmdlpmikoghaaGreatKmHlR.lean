/- A part of a proof. -/
import Derived.Test.YtadmdlpmikoghaaGreatKmHlQ
import Derived.Defers
import Derived.Recover
set_option linter.unusedSimpArgs false
set_option linter.unusedVariables false
namespace Go.HL
def opsE (P:Program):List SI→(Env→q00→Prop)→(Env→AV→q00→Prop)→Env→q00→Prop
 | [],K,_,e,S=>K e S
 | s :: r,K,Qp,e,S=>oneW P s (opsE P r K Qp) (Qp e) e S
section
variable {P:Program} {R:Nat→Prop} {S:q00} {w:World} {a:Act} {N:Nat} {e:Env} {K:Env→q00→Prop} {Qc:Exit→Act→World→Prop}
theorem opsE_sound {Qp:Env→AV→q00→Prop} (hn:∀ R' S' w' e' a',K e' S'→Rel R S w a N R' S' w' e' a'→Qc .normal a' w')
  (hp:∀ e' u v R' S' w' a',Qp e' u S'→RV R' w' u v→Rel R S w a N R' S' w' e' a'→Qc (.panic [⟨v,false,false⟩]) a' w') {ops:Array Oper}:∀ (l:List SI) (lo:List Oper),q3e P N ops l lo=true→(l.all fun s=>s.g.isNone)=true →
  ∀ {R1:Nat→Prop} {S1:q00} {w1:World} {a1:Act} {e1:Env},Rel R S w a N R1 S1 w1 e1 a1→opsE P l K Qp e1 S1→wpList P ops Qc lo a1 w1
 | [],[],_,_,R1,S1,w1,a1,e1,hr,h=>hn _ _ _ _ _ h hr
 | s :: l,o :: lo,hok,hg,R1,S1,w1,a1,e1,hr,h=>by
  simp only [q3e,Bool.and_eq_true] at hok
  simp only [List.all_cons,Bool.and_eq_true,Option.isNone_iff_eq_none] at hg
  have hQ:QC R1 S1 w1 a1 (Qp e1) Qc:=fun u v R' S' w' hq hv hs hst=>hp e1 u v R' S' w' a1 hq hv ⟨hs,hr.env.step hr.sim hst,hr.step.trans hst,hr.defers,hr.size⟩
  have h1:=q4a (Qc:=Qc) hr.sim hr.env hr.size hok.1 (q6j hg.1 (fun _ _ h=>h) h) hQ
  have hrest:∀ a' w',KC R1 S1 w1 a1 N (opsE P l K Qp) a' w'→wpList P ops Qc lo a' w':=fun a' w' ⟨R',S',e',hK,hr'⟩=>opsE_sound hn hp l lo hok.2 hg.2 (hr.trans hr') hK
  unfold wpList
  split
  ·rename_i hw
   rw [if_pos hw] at h1
   exact .inl (Oper.wp_mono hrest h1)
  ·rename_i hw
   rw [if_neg hw] at h1
   exact hrest _ _ h1
 | [],_ :: _,hok,_,_,_,_,_,_,_,_=>by cases hok
 | _ :: _,[],hok,_,_,_,_,_,_,_,_=>by cases hok
def swpL (P:Program):List q4b→(LE→q00→Prop)→(LE→q00→Prop)→(AV→q00→Prop)→LE→q00→Prop
 | [],n,_,_,l,S=>n l S
 | t :: ts,n,r,p,l,S=>swp P t (fun l S=>swpL P ts n r p l S) (fun _ _ _=>False) r p l S
def spineOk (P:Program) (N:Nat):List q4b→Code→(Code→Bool)→Bool
 | [],c,f=>f c
 | t :: ts,.seq x y,f=>tcOk t&&q2i P N (toS t) x&&spineOk P N ts y f
 | _,_,_=>false
theorem swpL_sound {n r:LE→q00→Prop} {p:AV→q00→Prop} {f:Code→Bool}
  (hn:∀ c' l' R' S' w' a',f c'=true→n l' S'→Rel R S w a N R' S' w' (lget l') a'→c'.wp P Qc a' w')
  (hr:∀ l' R' S' w' a',r l' S'→Rel R S w a N R' S' w' (lget l') a'→Qc .ret a' w')
  (hp:∀ u v R' S' w' a',p u S'→RV R' w' u v→Rel R S w a N R' S' w' (lget []) a'→Qc (.panic [⟨v,false,false⟩]) a' w') :
  ∀ (ts:List q4b) (c:Code),spineOk P N ts c f=true→∀ {l:LE} {R1:Nat→Prop} {S1:q00} {w1:World} {a1:Act},Rel R S w a N R1 S1 w1 (lget l) a1→swpL P ts n r p l S1→c.wp P Qc a1 w1
 | [],c,hok,l,R1,S1,w1,a1,hrel,h=>hn c l R1 S1 w1 a1 hok h hrel
 | t :: ts,c,hok,l,R1,S1,w1,a1,hrel,h=>by
  cases c<;>first | (cases hok;done) | skip
  rename_i x y
  simp only [spineOk,Bool.and_eq_true] at hok
  let Q:APost:={ norm:=fun e S=>∃ l',e=lget l'∧swpL P ts n r p l' S,exit:=fun _ _ _=>False,ret:=fun e S=>∃ l',e=lget l'∧r l' S,pan:=p }
  have h1:Aw P N (toS t) Q (lget l) S1:=q6c hok.1.1 (fun l S h=>⟨l,rfl,h⟩) (fun i l S h=>h) (fun l S h=>⟨l,rfl,h⟩) (fun u S h=>h) h
  refine wp_seq (wp_mono (h1 x hok.1.2 R1 w1 a1 hrel.sim hrel.env hrel.size) fun q a' w' hq=>?_)
  unfold PostOf at hq
  split at hq
  ·obtain ⟨R',S',e',⟨l',rfl,hK⟩,hr'⟩:=hq
   exact swpL_sound hn hr hp ts y hok.2 (hrel.trans hr') hK
  ·obtain ⟨R',S',e',hK,hr'⟩:=hq;exact hK.elim
  ·obtain ⟨R',S',e',⟨l',rfl,hK⟩,hr'⟩:=hq
   exact hr l' R' S' _ _ hK (hrel.trans hr')
  ·obtain ⟨R',S',u,k1,k2,k3⟩:=hq
   exact hp u _ R' S' _ _ k1 k2 (hrel.trans k3)
  ·exact hq.elim
def dfrOk (P:Program) (N k fid:Nat) (caps:List Nat):Code→Bool
 | .region _ ops false=>(match ops.toList with
  | [o1,o2]=>siOk P N ops { d:=some k,o:=.mkf (.func fid) [] (caps.map .t) } o1&&o2.guard.isNone&&o2.dst.isNone&&(match o2.op with
   | .defer c=>(match c.callee with | .value (.tmp j)=>j==k | _=>false)&&c.args.isEmpty
   | _=>false)
  | _=>false)
 | _=>false
theorem wp_dfr {k fid:Nat} {caps:List Nat} {c:Code} (hok:dfrOk P N k fid caps c=true) (hk:k<N) (hs:Sim R S w) (he:REnv R w e a.tmps) (hN:a.tmps.size=N)
  (h:∀ R' w' tm us,RVs R' w' (caps.map e) us.toList→Rel R S w a N R' S w' (eupd e k (.func (.func fid) [] (caps.map e))) { tmps:=tm,defers:=a.defers }→Qc .normal { tmps:=tm,defers:={ target:=.fn (.func fid) us,args:=#[] } :: a.defers } w'):c.wp P Qc a w:=by
 cases c<;>first | (cases hok;done) | skip
 rename_i id ops d
 cases d<;>first | (cases hok;done) | skip
 simp only [dfrOk] at hok
 split at hok
 ·rename_i o1 o2 ho
  simp only [Bool.and_eq_true,Option.isNone_iff_eq_none] at hok
  obtain ⟨⟨⟨h1,h2⟩,h3⟩,h4⟩:=hok
  refine wp_region_list ?_
  rw [ho]
  have q1:=q4a (Qc:=Qc) (K:=fun e' S'=>e'=eupd e k (.func (.func fid) [] (caps.map e))∧S'=S) (Qp:=fun _ _=>False) hs he hN h1 (by
   unfold aop
   dsimp only
   show aeff P (.mkf (.func fid) [] (caps.map .t)) (some k) _ _ e S
   rw [aeff_mkf]
   simp only [put,List.map_nil,List.map_map]
   exact ⟨rfl,rfl⟩) (fun u v R' S' w' hq=>hq.elim)
  have hw:Region.wanted o1 (yielded ops a.tmps)=true:=by
   simp only [siOk,Bool.and_eq_true] at h1
   have:=h1.2
   unfold Region.wanted
   split at this
   ·rename_i hg;rw [hg]
   ·rename_i hg _;cases hg
   ·cases this
  rw [if_pos hw] at q1
  unfold wpList
  rw [if_pos hw]
  refine .inl (Oper.wp_mono (fun a1 w1 hK=>?_) q1)
  obtain ⟨R',S',e',⟨rfl,rfl⟩,hr⟩:=hK
  have hw2:Region.wanted o2 (yielded ops a1.tmps)=true:=by unfold Region.wanted;rw [h2]
  unfold wpList
  rw [if_pos hw2]
  obtain ⟨dst,op,ty,pos,aft,gd⟩:=o2
  dsimp only at h2 h3 h4
  subst h2
  subst h3
  cases op<;>try (cases h4;done)
  rename_i c
  obtain ⟨callee,args,argTypes⟩:=c
  dsimp only at h4
  simp only [Bool.and_eq_true] at h4
  obtain ⟨h5,h6⟩:=h4
  split at h5<;>try (cases h5;done)
  rename_i j
  have hj:j=k:=by simpa using h5
  subst hj
  have hargs:args=#[]:=by simpa using h6
  subst hargs
  have hv:=hr.env j
  unfold eget at hv
  rw [q1h,if_pos rfl] at hv
  have hz:∃ us,a1.eval (.tmp j)=.func (.func fid) #[] us∧RVs R' w1 (caps.map e) us.toList:=by
   have hev:a1.eval (.tmp j)=a1.tmps.getD j undef:=rfl
   rw [hev]
   generalize a1.tmps.getD j undef=u at hv
   cases hv
   rename_i vs us l1 l2 q1 q2
   have:vs=#[]:=Array.size_eq_zero_iff.1 l1.symm
   subst this
   exact ⟨us,rfl,⟨by simpa using q1,fun i u hi=>by simpa using q2 i u hi⟩⟩
  obtain ⟨us,hz,hus⟩:=hz
  refine .inl ?_
  unfold Oper.wp
  have hrun:(execOp a1.eval ⟨none,.defer { callee:=.value (.tmp j),args:=#[],argTypes },ty,pos,aft,none⟩).run P w1=.ok (.defer { target:=.fn (.func fid) us,args:=#[] }) w1:=by
   simp [execOp,resolve,hz,Deferred.ofValue]
  rw [hrun]
  simp only [Oper.upon,Act.put,wpList]
  have hd:=hr.defers
  obtain ⟨tm,df⟩:=a1
  dsimp only at hd ⊢
  subst hd
  exact h R' w1 tm us hus hr
 ·cases hok
end
def cloOk (P:Program) (fid:Nat) (F:TFunc) (k:Nat):Bool:=match P.funcs[fid]? with
 | some fn => !(fn.name == "runtime.NumGoroutine") && fn.ntmps == F.n && decide (F.args ≤ F.n) && decide (F.args ≤ k) && decide (k < F.n) && decide (0 < F.args) && fn.results.isEmpty && (match fn.body with
  | some (.seq (.region _ ops false) rest)=>(match ops with
   | ⟨[o1,o2]⟩=>o1.dst==some k&&o1.guard.isNone&&(match o1.op with
     | .call c=>(match c.callee with | .builtin .recover=>true | _=>false)&&c.args.isEmpty
     | _=>false)&&o2.dst==some (F.args-1)&&o2.guard.isNone&&(match o2.op with
     | .move (.tmp j)=>j==k
     | .assign (.tmp j)=>j==k
     | _=>false)
   | _=>false)&&tcOk F.code&&q2i P F.n (toS F.code) rest
  | _=>false)
 | none=>false
section
variable {P:Program} {R:Nat→Prop} {S:q00} {w:World}
theorem clo_sound {fid k:Nat} {F:TFunc} (hok:cloOk P fid F k=true) {caps:List AV} (hca:caps.length+1=F.args) {us:Array Value} (hs:Sim R S w) (hv:RVs R w caps us.toList) {x:AV} {xv:Value} (hx:RV R w x xv) {u u':FrameMode}
  (hm:∀ (c₀:Frame) (cs:List Frame),c₀.mode=u→(recoverD (c₀ :: cs)=some (xv,{ c₀ with mode:=u' } :: cs))∨(recoverD (c₀ :: cs)=none∧xv=.nilIface∧u'=u))
  {T:q00→Prop} (h:swp P F.code (fun _ S=>T S) (fun _ _ _=>False) (fun _ S=>T S) (fun _ _=>False) (q4t (caps++[x])) S) :
  CallsD P fid us u w fun e u2 w'=>(∃ r,e=.returned r)∧u2=u'∧∃ R' S',T S'∧Sim R' S' w'∧Step R S w R' S' w':=by
 unfold cloOk at hok
 cases hf:P.funcs[fid]? with
 | none=>rw [hf] at hok;cases hok
 | some fn=>
  rw [hf] at hok
  simp only [Bool.and_eq_true,decide_eq_true_eq,beq_iff_eq] at hok
  obtain ⟨⟨⟨⟨⟨⟨⟨-,hn⟩,ha⟩,hk1⟩,hk2⟩,ha0⟩,hres⟩,hbody⟩:=hok
  split at hbody
  ·rename_i _ _ ops rest hb
   simp only [Bool.and_eq_true] at hbody
   obtain ⟨⟨hops,htc⟩,hcode⟩:=hbody
   split at hops
   ·rename_i _ o1 o2
    simp only [Bool.and_eq_true,beq_iff_eq,Option.isNone_iff_eq_none] at hops
    obtain ⟨⟨⟨⟨⟨d1,g1⟩,p1⟩,d2⟩,g2⟩,p2⟩:=hops
    refine callsD_of_wpS hf hb fun c₀ cs hu=>?_
    apply wpS_seq
    apply wpS_region
    obtain ⟨dst1,op1,ty1,pos1,aft1,gd1⟩:=o1
    obtain ⟨dst2,op2,ty2,pos2,aft2,gd2⟩:=o2
    dsimp only at d1 g1 p1 d2 g2 p2
    subst d1;subst g1;subst d2;subst g2
    have hp1:∃ at',op1=.call { callee:=.builtin .recover,args:=#[],argTypes:=at' }:=by
     split at p1
     ·rename_i c
      obtain ⟨callee,cargs,cty⟩:=c
      simp only [Bool.and_eq_true] at p1
      obtain ⟨q1,q2⟩:=p1
      have h1:callee=.builtin .recover:=by
       cases callee with
       | builtin b=>cases b<;>first | rfl | (simp at q1)
       | _=>simp at q1
      subst h1
      exact ⟨cty,by rw [show cargs=#[] by simpa using q2]⟩
     ·cases p1
    obtain ⟨at',rfl⟩:=hp1
    have hp2:op2=.move (.tmp k)∨op2=.assign (.tmp k):=by
     split at p2
     ·rename_i j;left;rw [show j=k by simpa using p2]
     ·rename_i j;right;rw [show j=k by simpa using p2]
     ·cases p2
    let tm:Array Value:=us++Array.replicate (fn.ntmps-us.size) undef
    have hus:us.size=caps.length:=by have:=hv.1;simp at this;exact this.symm
    have htm:tm.size=F.n:=by simp [tm];omega
    let tm2:=(tm.setIfInBounds k xv).setIfInBounds (F.args-1) xv
    have hE0:REnv R w (lget (q4t caps)) tm:=q92 hv _
    have hE1:=hE0.put (d:=k) hx (by omega)
    have hE2:=hE1.put (d:=F.args-1) hx (by simp;omega)
    have hE:REnv R w (lget (q4t (caps++[x]))) tm2:=fun t=>by
     have ht:=hE2 t
     unfold eget at ht ⊢
     have e1:lget (q4t (caps++[x])) t=if t<caps.length then lget (q4t caps) t else if t=caps.length then x else .junk:=by
      unfold q4t
      rw [q6o,q6o]
      simp only [Nat.zero_le,if_true,Nat.sub_zero]
      by_cases h1:t<caps.length
      ·rw [if_pos h1,List.getElem?_append_left h1]
      ·rw [if_neg h1,List.getElem?_append_right (by omega)]
       by_cases h2:t=caps.length
       ·subst h2;simp
       ·rw [if_neg h2,List.getElem?_eq_none_iff.2 (by simp;omega)];rfl
     rw [e1]
     by_cases h1:t<caps.length
     ·rw [if_pos h1]
      simp only [q1h] at ht
      rw [if_neg (by omega),if_neg (by omega)] at ht
      exact ht
     ·rw [if_neg h1]
      by_cases h2:t=caps.length
      ·rw [if_pos h2]
       simp only [q1h] at ht
       rw [if_pos (by omega)] at ht
       exact ht
      ·rw [if_neg h2];exact .junk _
    have main:∀ cs',cs'={ c₀ with mode:=u' } :: cs→rest.wpS P (bodyPostS P fn c₀ cs fun e u2 w'=>(∃ r,e=.returned r)∧u2=u'∧∃ R' S',T S'∧Sim R' S' w'∧Step R S w R' S' w') { tmps:=tm2,defers:=[] } cs' w:=by
     rintro cs' rfl
     apply wpS_of_wp
     let Q:APost:={ norm:=fun _ S=>T S,exit:=fun _ _ _=>False,ret:=fun _ S=>T S,pan:=fun _ _=>False }
     have h1:Aw P F.n (toS F.code) Q (lget (q4t (caps++[x]))) S:=q6c htc (fun l S h=>h) (fun i l S h=>h) (fun l S h=>h) (fun u S h=>h) h
     refine wp_mono (h1 rest hcode R w { tmps:=tm2,defers:=[] } hs hE (by simp [tm2,htm])) fun q a' w' hq=>?_
     have hres:fn.results=#[]:=by simpa using hres
     have fin:KC R S w { tmps:=tm2,defers:=[] } F.n (fun _ S=>T S) a' w'→a'.defers=[]∧∃ u2,({ c₀ with mode:=u' } :: cs:List Frame)={ c₀ with mode:=u2 } :: cs∧∃ v,(results fn a'.tmps).run P w'=.ok v w'∧((∃ r,Ending.returned v=.returned r)∧u2=u'∧∃ R' S',T S'∧Sim R' S' w'∧Step R S w R' S' w'):=by
      rintro ⟨R',S',e',hK,hr⟩
      exact ⟨hr.defers,u',rfl,.tuple #[],by simp [results,hres],⟨_,rfl⟩,rfl,R',S',hK,hr.sim,hr.step⟩
     unfold PostOf at hq
     split at hq
     ·exact fin hq
     ·obtain ⟨R',S',e',hK,hr⟩:=hq;exact hK.elim
     ·exact fin hq
     ·obtain ⟨R',S',u,k1,k2,k3⟩:=hq;exact k1.elim
     ·exact hq.elim
    have hrange:List.range (Array.size (⟨[⟨some k,.call { callee:=.builtin .recover,args:=#[],argTypes:=at' },ty1,pos1,aft1,none⟩,⟨some (F.args-1),op2,ty2,pos2,aft2,none⟩]⟩:Array Oper))=[0,1]:=rfl
    rw [hrange]
    have hx1:∀ (ρ:Operand→Value) (w':World),(execOp ρ ⟨some k,.call { callee:=.builtin .recover,args:=#[],argTypes:=at' },ty1,pos1,aft1,none⟩).run P w'=.ok .recover w':=fun ρ w'=>by
     simp [execOp,resolve,invoke,builtin]
    have hx2:∀ (ρ:Operand→Value) (w':World),(execOp ρ ⟨some (F.args-1),op2,ty2,pos2,aft2,none⟩).run P w'=.ok (.value (ρ (.tmp k))) w':=fun ρ w'=>by
     rcases hp2 with rfl | rfl<;>simp [execOp]
    have hev:∀ v,({ tmps:=tm.setIfInBounds k v,defers:=[] }:Act).eval (.tmp k)=v:=fun v=>by
     simp [Act.eval,htm,hk2]
    have hput:∀ v,(({ tmps:=tm,defers:=[] }:Act).put (some k) v)={ tmps:=tm.setIfInBounds k v,defers:=[] }:=fun v=>rfl
    have hev2:∀ v,(({ tmps:=us++Array.replicate (fn.ntmps-us.size) undef,defers:=[] }:Act).put (some k) v).eval (.tmp k)=v:=hev
    rcases hm c₀ cs hu with h1 | ⟨h1,rfl,rfl⟩
    ·simp only [wpOpsS,List.getElem?_toArray,List.getElem?_cons_zero,List.getElem?_cons_succ,Region.wanted,if_true,hx1,hx2,h1,hev2,Oper.upon]
     exact main _ rfl
    ·simp only [wpOpsS,List.getElem?_toArray,List.getElem?_cons_zero,List.getElem?_cons_succ,Region.wanted,if_true,hx1,hx2,h1,hev2,Oper.upon]
     exact main _ (by subst hu;rfl)
   ·cases hops
  ·cases hbody
end
structure DFunc where
 n:Nat
 args:Nat
 res:List RVar
 pre:List q4b
 k:Nat
 fid:Nat
 caps:List Nat
 call:List SI
 keep:List Nat
 post:q4b
def tailOk (P:Program) (D:DFunc):Code→Bool
 | .seq d (.seq (.region _ ops false) q)=>dfrOk P D.n D.k D.fid D.caps d&&q3e P D.n ops D.call ops.toList&&(D.call.all fun s=>s.g.isNone)&&tcOk D.post&&q2i P D.n (toS D.post) q
 | _=>false
def dfnOk (P:Program) (f:Nat) (D:DFunc) (F:TFunc) (k:Nat):Bool:=match P.funcs[f]? with
 | some fn => !(fn.name == "runtime.NumGoroutine") && fn.ntmps == D.n && decide (D.args ≤ D.n) && decide (D.k < D.n) && rvsOk P D.res fn.results.toList && cloOk P D.fid F k && D.caps.length + 1 == F.args && q6y P D.fid && (match fn.body with
  | some c=>spineOk P D.n D.pre c (tailOk P D)
  | none=>false)
 | none=>false
def cloW (P:Program) (D:DFunc) (F:TFunc) (QF:AEnd→q00→Prop) (caps:List AV) (x:AV) (l:LE) (S:q00):Prop:=
 swp P F.code (fun _ S'=>rtW (D.res.map (toRW (lget l))) QF S') (fun _ _ _=>False) (fun _ S'=>rtW (D.res.map (toRW (lget l))) QF S') (fun _ _=>False) (q4t (caps++[x])) S
def endW (P:Program) (D:DFunc) (F:TFunc) (QF:AEnd→q00→Prop) (caps:List AV) (l:LE) (S:q00):Prop:=cloW P D F QF caps .nili l S
def panW (P:Program) (D:DFunc) (F:TFunc) (QF:AEnd→q00→Prop) (caps:List AV) (l:LE) (u:AV) (S:q00):Prop:=cloW P D F QF caps u l S
def dfrW (P:Program) (D:DFunc) (En:LE→q00→Prop) (Pn:LE→AV→q00→Prop) (l:LE) (S:q00):Prop:=
 opsE P D.call (fun e S1=>swp P D.post En (fun _ _ _=>False) En (fun _ _=>False) (q46 D.keep e) S1) (fun e u S1=>Pn (q46 D.keep e) u S1) (eupd (lget l) D.k (.func (.func D.fid) [] (D.caps.map (lget l)))) S
theorem acalls_dfr {P:Program} {f:Nat} {D:DFunc} {F:TFunc} {k:Nat} (hok:dfnOk P f D F k=true) {args:List AV} (ha:args.length=D.args) {QF:AEnd→q00→Prop} {S:q00}
  (h:swpL P D.pre (fun l S=>dfrW P D (endW P D F QF (D.caps.map (lget l))) (panW P D F QF (D.caps.map (lget l))) l S) (fun l S=>rtW (D.res.map (toRW (lget l))) QF S) (pqW QF) (q4t args) S):ACalls P f args S QF:=by
 unfold dfnOk at hok
 cases hf:P.funcs[f]? with
 | none=>rw [hf] at hok;cases hok
 | some fn=>
  rw [hf] at hok
  simp only [Bool.and_eq_true,beq_iff_eq,decide_eq_true_eq] at hok
  obtain ⟨⟨⟨⟨⟨⟨⟨⟨h1,h2⟩,h3⟩,hDk⟩,h4⟩,hclo⟩,hcl⟩,hco⟩,hbody⟩:=hok
  cases hb:fn.body with
  | none=>rw [hb] at hbody;cases hbody
  | some c=>
   rw [hb] at hbody
   refine fun R w vs hs hv=>.inl ⟨by unfold q6y;rw [hf];simp only [hb,Option.isSome_some,Bool.and_true];exact h1,?_⟩
   have hsz:vs.size=D.args:=by rw [← ha];have:=hv.1;simp at this;exact this.symm
   refine calls_of_wp_defers hf hb ?_
   -- results
   have ret:∀ {l:LE} {R1:Nat→Prop} {S1:q00} {w1:World} {tm:Array Value},Sim R1 S1 w1→REnv R1 w1 (lget l) tm→Step R S w R1 S1 w1→rtW (D.res.map (toRW (lget l))) QF S1 →
     ∃ v,(results fn tm).run P w1=.ok v w1∧∃ R' S' ae,EndR R' w1 ae (.returned v)∧QF ae S'∧Sim R' S' w1∧Step R S w R' S' w1:=by
    intro l R1 S1 w1 tm hs1 he1 hst hr
    have hr:=rtW_ret hr
    unfold RetA at hr
    split at hr
    ·rename_i us hus
     obtain ⟨v',S'',hsh,hQ⟩:=hr
     obtain ⟨v,k1,k2⟩:=q5r hs1 he1 h4 hus
     obtain ⟨R'',k3,k4,k5⟩:=hsh R1 w1 v hs1 k1
     exact ⟨v,k2,R'',S'',.ret v',k4,hQ,k3,hst.trans k5⟩
    ·exact hr.elim
   refine swpL_sound (Qc:=bodyPostD P fn _) (f:=tailOk P D) (n:=fun l S=>dfrW P D (endW P D F QF (D.caps.map (lget l))) (panW P D F QF (D.caps.map (lget l))) l S) (r:=fun l S=>rtW (D.res.map (toRW (lget l))) QF S) (p:=pqW QF) ?_ ?_ ?_ D.pre c hbody (Rel.refl hs (q92 hv _) (by simp;omega)) h
   ·intro c' l R1 S1 w1 a1 htail hd hr
    cases c'<;>first | (cases htail;done) | skip
    rename_i cd c2
    cases c2<;>first | (cases htail;done) | skip
    rename_i cg cq
    cases cg<;>first | (cases htail;done) | skip
    rename_i id ops dd
    cases dd<;>first | (cases htail;done) | skip
    simp only [tailOk,Bool.and_eq_true] at htail
    obtain ⟨⟨⟨⟨t1,t2⟩,t3⟩,t4⟩,t5⟩:=htail
    refine wp_seq ?_
    refine wp_dfr t1 hDk hr.sim hr.env hr.size fun R2 w2 tm us hus hr2=>?_
    have hd1:a1.defers=[]:=hr.defers
    have hcaps:(D.caps.map (lget l)).length+1=F.args:=by rw [List.length_map];exact hcl
    show (Code.seq (.region id ops false) cq).wp P (bodyPostD P fn _) { tmps:=tm,defers:={ target:=.fn (.func D.fid) us,args:=#[] } :: a1.defers } w2
    rw [hd1]
    let a2:Act:={ tmps:=tm,defers:=[{ target:=.fn (.func D.fid) us,args:=#[] }] }
    have hinv:∀ w':World,(invoke (.fn (.func D.fid) us) #[]).run P w'=.ok (.enter D.fid us) w':=fun w'=>by
     have:=q7s hco us (w:=w')
     simp [invoke,this]
    -- the deferred call,and the results
    have out:∀ {x:AV} {xv:Value} {u u':FrameMode} {l3:LE} {R3:Nat→Prop} {S3:q00} {w3:World} {tm3:Array Value},RV R3 w3 x xv→u≠.run→settle u'=.returning →
      (∀ (c₀:Frame) (cs:List Frame),c₀.mode=u→(recoverD (c₀ :: cs)=some (xv,{ c₀ with mode:=u' } :: cs))∨(recoverD (c₀ :: cs)=none∧xv=.nilIface∧u'=u)) →
      Sim R3 S3 w3→REnv R3 w3 (lget l3) tm3→RVs R3 w3 (D.caps.map (lget l)) us.toList→Step R S w R3 S3 w3→cloW P D F QF (D.caps.map (lget l)) x l3 S3 →
      Leaves P fn tm3 (fun en w'=>∃ R' S' ae,EndR R' w' ae en∧QF ae S'∧Sim R' S' w'∧Step R S w R' S' w') [{ target:=.fn (.func D.fid) us,args:=#[] }] u w3:=by
     intro x xv u u' l3 R3 S3 w3 tm3 hx hu hset hm hs3 he3 hv3 hst3 hw3
     refine leaves_cons hu (hinv w3) ((clo_sound hclo hcaps hs3 hv3 hx hm hw3).mono ?_)
     rintro e u2 w4 ⟨⟨r,rfl⟩,rfl,R4,S4,hT,hs4,hst4⟩
     show Leaves P fn tm3 _ [] (settle u2) w4
     rw [hset]
     exact ret hs4 (he3.step hs3 hst4) (hst3.trans hst4) hT
    have hst2:Step R S w R2 S1 w2:=hr.step.trans hr2.step
    refine wp_seq (wp_region_list (opsE_sound (R:=R2) (S:=S1) (w:=w2) (a:=a2) (N:=D.n) ?_ ?_ D.call ops.toList t2 t3 (Rel.refl hr2.sim hr2.env hr2.size) hd))
    ·intro R3 S3 w3 e3 a3 hK hr3
     show cq.wp P (bodyPostD P fn _) a3 w3
     let Q:APost:={ norm:=fun e S=>∃ l',e=lget l'∧endW P D F QF (D.caps.map (lget l)) l' S,exit:=fun _ _ _=>False,ret:=fun e S=>∃ l',e=lget l'∧endW P D F QF (D.caps.map (lget l)) l' S,pan:=fun _ _=>False }
     have hA:Aw P D.n (toS D.post) Q (lget (q46 D.keep e3)) S3:=q6c t4 (fun l S h=>⟨l,rfl,h⟩) (fun i l S h=>h) (fun l S h=>⟨l,rfl,h⟩) (fun u S h=>h) hK
     refine wp_mono (hA cq t5 R3 w3 a3 hr3.sim (hr3.env.keep _) hr3.size) fun q a4 w4 hq=>?_
     have fin:∀ {K:Env→q00→Prop},K=(fun e S=>∃ l',e=lget l'∧endW P D F QF (D.caps.map (lget l)) l' S)→KC R3 S3 w3 a3 D.n K a4 w4→Leaves P fn a4.tmps (fun en w'=>∃ R' S' ae,EndR R' w' ae en∧QF ae S'∧Sim R' S' w'∧Step R S w R' S' w') a4.defers .returning w4:=by
      rintro K rfl ⟨R4,S4,e4,⟨l4,rfl,hE⟩,hr4⟩
      have hd4:a4.defers=[{ target:=.fn (.func D.fid) us,args:=#[] }]:=hr4.defers.trans hr3.defers
      rw [hd4]
      have hst24:Step R2 S1 w2 R4 S4 w4:=hr3.step.trans hr4.step
      exact out (x:=.nili) (xv:=.nilIface) (u':=.returning) .nili (by simp) rfl (fun c₀ cs hm=>.inr ⟨by simp [recoverD,hm],rfl,rfl⟩) hr4.sim hr4.env (hr2.sim.rvs hst24 hus) (hst2.trans hst24) hE
     unfold PostOf at hq
     split at hq
     ·exact fin rfl hq
     ·obtain ⟨R',S',e',hK,hr⟩:=hq;exact hK.elim
     ·exact fin rfl hq
     ·obtain ⟨R',S',u,k1,k2,k3⟩:=hq;exact k1.elim
     ·exact hq.elim
    ·intro e3 u v R3 S3 w3 a3 hq hv3 hr3
     show Leaves P fn a3.tmps _ a3.defers (.panicking [⟨v,false,false⟩]) w3
     have hd3:a3.defers=[{ target:=.fn (.func D.fid) us,args:=#[] }]:=hr3.defers
     rw [hd3]
     exact out (x:=u) (xv:=v) (u':=.panicking [{ v:=v,recovered:=true }]) hv3 (by simp) rfl (fun c₀ cs hm=>.inl (by simp [recoverD,hm])) hr3.sim (hr3.env.keep _) (hr2.sim.rvs hr3.step hus) (hst2.trans hr3.step) hq
   ·intro l R1 S1 w1 a1 hr1 hr
    have hd:a1.defers=[]:=hr.defers
    show Leaves P fn a1.tmps _ a1.defers .returning w1
    rw [hd]
    exact ret hr.sim hr.env hr.step hr1
   ·intro u v R1 S1 w1 a1 hq hv1 hr
    have hd:a1.defers=[]:=hr.defers
    show Leaves P fn a1.tmps _ a1.defers (.panicking [⟨v,false,false⟩]) w1
    rw [hd]
    exact ⟨R1,S1,.pan u,hv1,hq,hr.sim,hr.step⟩
end Go.HL
