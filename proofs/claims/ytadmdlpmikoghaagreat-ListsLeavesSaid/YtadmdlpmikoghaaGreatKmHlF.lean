/- A part of a proof. -/
import Derived.Test.YtadmdlpmikoghaaGreatKmHlE
set_option linter.unusedSimpArgs false
set_option linter.unusedVariables false
namespace Go.HL
structure SI where
 d:Option Nat
 o:SOp
 g:Option (Nat×Bool):=none
 x:List Nat:=[]
 deriving Inhabited
def sok (P:Program) (o:SOp) (op:Op):Bool:=if isQ o then qok P o op else eok P o op
def blk:AV→Option Nat
 | .ptr b _=>some b
 | .map b=>b
 | _=>none
def Kept (x:List Nat) (e:Env) (S S':q00):Prop:=∀ t∈x,∀ b,blk (e t)=some b→sget S' b=sget S b
def KX (x:List Nat) (e:Env) (S:q00) (K:Env→q00→Prop):Env→q00→Prop:=match x with
 | []=>K
 | x=>fun e' S'=>Kept x e S S'∧K e' S'
theorem KX_iff {x:List Nat} {e:Env} {S:q00} {K:Env→q00→Prop} {e':Env} {S':q00}:KX x e S K e' S'↔Kept x e S S'∧K e' S':=by
 cases x with
 | nil=>exact ⟨fun h=>⟨fun t ht=>(by cases ht),h⟩,fun h=>h.2⟩
 | cons t x=>exact Iff.rfl
theorem Kept.refl (x:List Nat) (e:Env) (S:q00):Kept x e S S:=fun _ _ _ _=>rfl
def aop (P:Program) (s:SI) (K:Env→q00→Prop) (Qp:AV→q00→Prop) (e:Env) (S:q00):Prop:=
 match s.g with
 | none=>aeff P s.o s.d (KX s.x e S K) Qp e S
 | some (t,want)=>match e t with
  | .bool b=>if b=want then aeff P s.o s.d (KX s.x e S K) Qp e S else K (put e s.d q06) S
  | .tup []=>K (put e s.d q06) S
  | _=>False
def siOk (P:Program) (N:Nat) (ops:Array Oper) (s:SI) (op:Oper):Bool:=
 s.d==op.dst&&s.d.all (fun d=>decide (d<N))&&sok P s.o op.op&&(match s.g,op.guard with
  | none,none=>true
  | some (t,want),some (j,want')=>(ops[j]?).bind (·.dst)==some t&&decide (t<N)&&want==want'
  | _,_=>false)
section
variable {P:Program} {R:Nat→Prop} {S:q00} {w:World} {a:Act} {N:Nat} {e:Env} {K:Env→q00→Prop} {Qp:AV→q00→Prop} {Qc:Exit→Act→World→Prop}
theorem q5k {o:SOp} (hq:isQ o=true) {dst:Option Nat}:aeff P o dst K Qp e S=(match qev S (ev e) o with
  | some v=>K (put e dst v) S
  | none=>False):=by
 cases o<;>first | rfl | (cases hq)
theorem asound (hs:Sim R S w) (he:REnv R w e a.tmps) (hn:a.tmps.size=N) {op:Oper} (hd:q32 op.dst N) {o:SOp} (hok:sok P o op.op=true) (h:aeff P o op.dst K Qp e S) (hQ:QC R S w a Qp Qc):op.wp P a w (KC R S w a N K) Qc:=by
 unfold sok at hok
 by_cases hq:isQ o=true
 ·rw [if_pos hq] at hok
  rw [q5k hq] at h
  cases hv:qev S (ev e) o with
  | none=>rw [hv] at h;exact h.elim
  | some u=>
   rw [hv] at h
   obtain ⟨v,h1,h2⟩:=qsound hs he hok hv
   unfold Oper.wp
   rw [h2 w fun _=>Ext.refl w]
   exact q6p hs he hn hd h1 h
 ·rw [if_neg hq] at hok
  cases o<;>first | exact absurd rfl hq | skip
  case alloc=>exact sound_alloc hs he hn hd hok h
  case box=>exact sound_box hs he hn hd hok h
  case bslice=>exact q81 hs he hn hd hok h
  case boxr=>exact sound_boxr hs he hn hd hok h
  case bslicr=>exact sound_bslicr hs he hn hd hok h
  case mkmap=>exact sound_mkmap hs he hn hd hok h
  case mkslice=>exact sound_mkslice hs he hn hd hok h
  case store=>exact sound_store hs he hn hd hok h
  case mupd=>exact sound_mupd hs he hn hd hok h
  case ment=>exact sound_ment hs he hn hd hok h
  case mst=>exact sound_mst hs he hn hd hok h
  case mdel=>exact sound_mdel hs he hn hd hok h
  case call=>exact sound_call hs he hn hd hok h hQ
  case app=>exact sound_app hs he hn hd hok h
  case copy=>exact sound_copy hs he hn hd hok h
  case panic=>exact sound_panic hs he hok h hQ
  case ext=>exact sound_ext hs he hn hd hok h
theorem guard_run (he:REnv R w e a.tmps) (hn:a.tmps.size=N) {ops:Array Oper} {j t:Nat} (hj:(ops[j]?).bind (·.dst)=some t) (ht:t<N) (want:Bool):(∀ b,e t=.bool b→(yielded ops a.tmps j==some want)=(b==want))∧(e t=.tup []→(yielded ops a.tmps j==some want)=false):=by
 have h:=he t
 have hlt:t<a.tmps.size:=by omega
 have hy:yielded ops a.tmps j=match a.tmps.getD t undef with
   | .bool b=>some b
   | _=>none:=by
  unfold yielded
  rw [hj]
  simp only [Option.bind_some,Array.getElem?_eq_getElem hlt,Array.getD_eq_getD_getElem?,Option.getD_some]
  cases a.tmps[t]<;>rfl
 rw [hy]
 refine ⟨fun b hb=>?_,fun hb=>?_⟩
 ·unfold eget at h
  rw [hb] at h
  rw [h.bool_inv]
  simp
 ·unfold eget at h
  rw [hb] at h
  obtain ⟨vs,hv,hl⟩:=RV.tup_iff.1 h
  rw [hv]
  rfl
theorem q4a (hs:Sim R S w) (he:REnv R w e a.tmps) (hn:a.tmps.size=N) {ops:Array Oper} {s:SI} {op:Oper} (hok:siOk P N ops s op=true) (h:aop P s K Qp e S) (hQ:QC R S w a Qp Qc) :
  if Region.wanted op (yielded ops a.tmps) then op.wp P a w (KC R S w a N K) Qc else KC R S w a N K (a.put op.dst undef) w:=by
 simp only [siOk,Bool.and_eq_true,beq_iff_eq] at hok
 obtain ⟨⟨⟨h1,h2⟩,h3⟩,h4⟩:=hok
 have hd:q32 op.dst N:=fun k hk=>by
  rw [h1,hk] at h2
  simpa using h2
 unfold aop at h
 rw [h1] at h
 have hx:∀ e' S',KX s.x e S K e' S'→K e' S':=fun e' S' h=>(KX_iff.1 h).2
 have hdrop:∀ {w'} {a':Act},KC R S w a N (KX s.x e S K) a' w'→KC R S w a N K a' w':=fun ⟨R',S',e',hK,hr⟩=>⟨R',S',e',hx _ _ hK,hr⟩
 have hyes:=fun h=>Oper.wp_mono (fun _ _=>hdrop) (asound (K:=KX s.x e S K) hs he hn hd h3 h hQ)
 have hno:K (put e op.dst q06) S→KC R S w a N K (a.put op.dst undef) w:=fun h=>q6p hs he hn hd (q5f _ _) h
 unfold Region.wanted
 cases hg:op.guard with
 | none=>
  cases hsg:s.g with
  | none=>
   rw [hsg] at h
   simp only [if_true]
   exact hyes h
  | some q=>rw [hsg,hg] at h4;cases h4
 | some q=>
  obtain ⟨j,want⟩:=q
  cases hsg:s.g with
  | none=>rw [hsg,hg] at h4;cases h4
  | some q=>
   obtain ⟨t,want'⟩:=q
   rw [hsg,hg] at h4
   rw [hsg] at h
   simp only [Bool.and_eq_true,beq_iff_eq,decide_eq_true_eq] at h4
   obtain ⟨⟨h5,h6⟩,rfl⟩:=h4
   obtain ⟨g1,g2⟩:=guard_run he hn h5 h6 want'
   dsimp only at h ⊢
   split at h
   ·rename_i b hb
    have hb':=g1 b hb
    split at h
    ·rename_i e1
     subst e1
     rw [if_pos (by simpa using hb')]
     exact hyes h
    ·rename_i e1
     have:(b==want')=false:=by simpa using e1
     rw [if_neg (by rw [hb',this];simp)]
     exact hno h
   ·rename_i hb
    rw [if_neg (by rw [g2 hb];simp)]
    exact hno h
   ·exact h.elim
def aops (P:Program):List SI→(Env→q00→Prop)→(AV→q00→Prop)→Env→q00→Prop
 | [],K,_,e,S=>K e S
 | s :: r,K,Qp,e,S=>aop P s (aops P r K Qp) Qp e S
def q3e (P:Program) (N:Nat) (ops:Array Oper):List SI→List Oper→Bool
 | [],[]=>true
 | s :: r,o :: t=>siOk P N ops s o&&q3e P N ops r t
 | _,_=>false
structure Post (R:Nat→Prop) (S:q00) (w:World) (a:Act) (N:Nat) (K:Env→q00→Prop) (Qp:AV→q00→Prop) (Qc:Exit→Act→World→Prop):Prop where
 norm:∀ R' S' w' e' a',K e' S'→Rel R S w a N R' S' w' e' a'→Qc .normal a' w'
 pan:∀ u v R' S' w' a',Qp u S'→RV R' w' u v→Rel R S w a N R' S' w' (lget []) a'→Qc (.panic [⟨v,false,false⟩]) a' w'
theorem Post.qc {R1:Nat→Prop} {S1:q00} {w1:World} {a1:Act} {e1:Env} (h:Post R S w a N K Qp Qc) (hr:Rel R S w a N R1 S1 w1 e1 a1):QC R1 S1 w1 a1 Qp Qc:=fun u v R' S' w' hq hv hs hst=>
 h.pan u v R' S' w' a1 hq hv ⟨hs,REnv.junk _ _ _,hr.step.trans hst,hr.defers,hr.size⟩
theorem aops_sound (hP:Post R S w a N K Qp Qc) {ops:Array Oper}:∀ (l:List SI) (lo:List Oper),q3e P N ops l lo=true→∀ {R1:Nat→Prop} {S1:q00} {w1:World} {a1:Act} {e1:Env},Rel R S w a N R1 S1 w1 e1 a1→aops P l K Qp e1 S1→wpList P ops Qc lo a1 w1
 | [],[],_,R1,S1,w1,a1,e1,hr,h=>hP.norm _ _ _ _ _ h hr
 | s :: l,o :: lo,hok,R1,S1,w1,a1,e1,hr,h=>by
  simp only [q3e,Bool.and_eq_true] at hok
  have h1:=q4a (Qc:=Qc) hr.sim hr.env hr.size hok.1 h (hP.qc hr)
  have hrest:∀ a' w',KC R1 S1 w1 a1 N (aops P l K Qp) a' w'→wpList P ops Qc lo a' w':=fun a' w' ⟨R',S',e',hK,hr'⟩=>aops_sound hP l lo hok.2 (hr.trans hr') hK
  unfold wpList
  split
  ·rename_i hw
   rw [if_pos hw] at h1
   exact .inl (Oper.wp_mono hrest h1)
  ·rename_i hw
   rw [if_neg hw] at h1
   exact hrest _ _ h1
 | [],_ :: _,hok,_,_,_,_,_,_,_=>by cases hok
 | _ :: _,[],hok,_,_,_,_,_,_,_=>by cases hok
end
end Go.HL
