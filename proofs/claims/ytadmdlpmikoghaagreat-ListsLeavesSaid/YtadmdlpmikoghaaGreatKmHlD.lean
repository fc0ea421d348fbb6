/- A part of a proof. -/
import Derived.Test.YtadmdlpmikoghaaGreatKmHlC
set_option linter.unusedSimpArgs false
set_option linter.unusedVariables false
namespace Go.HL
theorem add_add (a:Addr) (m j:Nat):(a.add m).add j=a.add (m+j):=by
 unfold Addr.add
 by_cases h1:m=0<;>by_cases h2:j=0<;>simp [h1,h2,Nat.add_assoc]
theorem q4j (b o j:Nat):(⟨b,o,none⟩:Addr).add j=⟨b,o+j,none⟩:=by
 unfold Addr.add
 split<;>simp_all
def Ext (w w':World):Prop:=∀ k,k<w.heap.size→w'.heap[k]?=w.heap[k]?
theorem Ext.refl (w:World):Ext w w:=fun _ _=>rfl
theorem Ext.cell {w w':World} (h:Ext w w') {a:Addr} {v:Value} (hc:w.cell? a=some v):w'.cell? a=some v:=
 (World.cell?_of_block (h _ (World.block_lt_of_cell? w a hc))).trans hc
theorem Ext.obj {w w':World} (h:Ext w w') {b:Nat} {o:Obj} (hc:w.heap[b]?=some o):w'.heap[b]?=some o:=
 (h _ (Array.getElem?_eq_some_iff.1 hc).1).trans hc
section
variable {P:Program} {R:Nat→Prop} {S:q00} {w:World}
theorem cells_at (hs:Sim R S w) {p:AV} {v:Value} (hv:RV R w p v) {cs:List AV} (hc:cellsOf S p=some cs) :
  ∃ a vs,v=.pointer (some a)∧RVs R w cs vs∧∀ (j:Nat) u,vs[j]?=some u→w.cell? (a.add j)=some u:=by
 unfold cellsOf at hc
 split at hc
 ·rename_i b off
  cases hv
  split at hc
  ·rename_i t cs' tot hb
   cases hc
   obtain ⟨x,hx,hr⟩:=hs.own b _ hb
   cases hr
   rename_i arr vs hvs h
   refine ⟨_,vs.drop off,rfl,h.drop off,fun j u hj=>?_⟩
   rw [q4j]
   rw [List.getElem?_drop,← hvs,List.getElem?_take] at hj
   split at hj
   ·rw [cell_of_row w b (off+j) arr t (0,0) hx]
    simpa using hj
   ·cases hj
  ·cases hc
 ·rename_i cs'
  cases hc
  cases hv
  rename_i a f hR hcell h
  refine ⟨a,(List.range cs.length).map f,rfl,⟨by simp,fun i u hi=>?_⟩,fun j u hj=>?_⟩
  ·have hlt:=(List.getElem?_eq_some_iff.1 hi).1
   have:=h i u hi
   simpa [hlt] using this
  ·have hlt:j<cs.length:=by
    have:=(List.getElem?_eq_some_iff.1 hj).1
    simpa using this
   rw [hcell j hlt]
   simpa [hlt] using hj
 ·cases hc
theorem mkA_rv {ag:Bool} {n:Nat} {cs:List AV} {u:AV} (h:mkA ag n cs=some u) {vs:List Value} (hv:RVs R w cs vs):∃ v,RV R w u v∧(ag=true→n≤vs.length∧v=.agg (vs.take n).toArray)∧(ag=false→vs[0]?=some v):=by
 unfold mkA at h
 cases ag with
 | true=>
  simp only [if_true] at h
  split at h
  ·cases h
   refine ⟨.agg (vs.take n).toArray,RV.agg_iff.2 ⟨_,rfl,by simpa using hv.take n⟩,fun _=>⟨by rw [← hv.1];assumption,rfl⟩,fun h=>by cases h⟩
  ·cases h
 | false=>
  simp only [Bool.false_eq_true,if_false] at h
  obtain ⟨v,h1,h2⟩:=hv.get (i:=0) (u:=u) (by cases cs<;>simp_all)
  exact ⟨v,h2,fun h=>by simp at h,fun _=>h1⟩
theorem q84 {t n:Nat} {ag:Bool} (hn:szT P t=some n) (ha:aggT P t=some ag) {a:Addr} {vs:List Value} {w':World} (hc:∀ (j:Nat) u,vs[j]?=some u→w'.cell? (a.add j)=some u) {v:Value}
  (h1:ag=true→n≤vs.length∧v=.agg (vs.take n).toArray) (h2:ag=false→vs[0]?=some v):(loadVar t a).run P w'=.ok v w':=by
 unfold loadVar
 simp only [Sem.run_bind,run_isAgg ha,Result.andThen_ok]
 cases ag with
 | true=>
  obtain ⟨hl,rfl⟩:=h1 rfl
  simp only [if_true,Sem.run_bind,q0x hn,Result.andThen_ok]
  have:=run_loadCells_list (P:=P) w' a (vs.take n) (fun j u hj=>hc j u (by
   rw [List.getElem?_take] at hj
   split at hj
   ·exact hj
   ·cases hj))
  rw [show (vs.take n).length=n by simp;omega] at this
  simp [this]
 | false=>
  have:=hc 0 v (h2 rfl)
  simp only [Bool.false_eq_true,if_false,run_load]
  have e:a.add 0=a:=rfl
  rw [e] at this
  simp [this]
theorem binI_run {op:BinOp} {t:Nat} {k:IntKind} {a b:Int} {u:AV} (h:binI op k a b=some u):∃ v,RV R w u v∧∀ w',(binOp op t (.int k a) (.int k b)).run P w'=.ok v w':=by
 unfold binI at h
 cases op<;>simp only [Option.some.injEq] at h
 case add=>subst h;exact ⟨_,.int _ _,fun w'=>by simp [binOp,Op.intArith]⟩
 case sub=>subst h;exact ⟨_,.int _ _,fun w'=>by simp [binOp,Op.intArith]⟩
 case mul=>subst h;exact ⟨_,.int _ _,fun w'=>by simp [binOp,Op.intArith]⟩
 case quo=>
  split at h
  ·cases h
  ·cases h
   rename_i hb
   exact ⟨_,.int _ _,fun w'=>by simp [binOp,Op.intDiv,hb]⟩
 case rem=>
  split at h
  ·cases h
  ·cases h
   rename_i hb
   exact ⟨_,.int _ _,fun w'=>by simp [binOp,Op.intDiv,hb]⟩
 case and=>subst h;exact ⟨_,.int _ _,fun w'=>by simp [binOp,Op.intBits,Go.bits]⟩
 case or=>subst h;exact ⟨_,.int _ _,fun w'=>by simp [binOp,Op.intBits,Go.bits]⟩
 case xor=>subst h;exact ⟨_,.int _ _,fun w'=>by simp [binOp,Op.intBits,Go.bits]⟩
 case andNot=>subst h;exact ⟨_,.int _ _,fun w'=>by simp [binOp,Op.intBits,Go.bits]⟩
 case eql=>subst h;exact ⟨_,.bool _,fun w'=>by simp [binOp,Op.intCmp];rfl⟩
 case neq=>subst h;exact ⟨_,.bool _,fun w'=>by simp [binOp,Op.intCmp];rfl⟩
 case lss=>subst h;exact ⟨_,.bool _,fun w'=>by simp [binOp,Op.intCmp]⟩
 case leq=>subst h;exact ⟨_,.bool _,fun w'=>by simp [binOp,Op.intCmp]⟩
 case gtr=>subst h;exact ⟨_,.bool _,fun w'=>by simp [binOp,Op.intCmp]⟩
 case geq=>subst h;exact ⟨_,.bool _,fun w'=>by simp [binOp,Op.intCmp]⟩
 case shl=>
  split at h
  ·cases h
  ·cases h
   rename_i hb
   exact ⟨_,.int _ _,fun w'=>by simp [binOp,Op.shift,hb]⟩
 case shr=>
  split at h
  ·cases h
  ·cases h
   rename_i hb
   exact ⟨_,.int _ _,fun w'=>by simp [binOp,Op.shift,hb]⟩
theorem binSh_run {op:BinOp} {t:Nat} {k k':IntKind} {a b:Int} {u:AV} (hop:op=.shl∨op=.shr) (h:binI op k a b=some u):∃ v,RV R w u v∧∀ w',(binOp op t (.int k a) (.int k' b)).run P w'=.ok v w':=by
 rcases hop with rfl | rfl
 ·unfold binI at h
  dsimp only at h
  split at h
  ·cases h
  ·cases h
   rename_i hb
   exact ⟨_,.int _ _,fun w'=>by simp [binOp,Op.shift,hb]⟩
 ·unfold binI at h
  dsimp only at h
  split at h
  ·cases h
  ·cases h
   rename_i hb
   exact ⟨_,.int _ _,fun w'=>by simp [binOp,Op.shift,hb]⟩
theorem binS_run {op:BinOp} {t:Nat} {a b:ByteArray} {u:AV} (h:binS op a b=some u):∃ v,RV R w u v∧∀ w',(binOp op t (.string a) (.string b)).run P w'=.ok v w':=by
 unfold binS at h
 cases op<;>simp only [Option.some.injEq] at h<;>try (cases h;done)
 case add=>
  split at h
  ·cases h
   rename_i hb
   refine ⟨_,.str _,fun w'=>?_⟩
   have hm:IntKind.i64.max=9223372036854775807:=rfl
   have hb':¬ ((a.size+b.size:Nat):Int)>IntKind.i64.max:=by rw [hm];omega
   simp only [binOp,Op.stringOp,if_neg hb',Sem.run_pure]
  ·cases h
 case eql=>subst h;exact ⟨_,.bool _,fun w'=>by simp [binOp,Op.stringOp,q2y]⟩
 case neq=>subst h;exact ⟨_,.bool _,fun w'=>by simp [binOp,Op.stringOp,q2y]⟩
 case lss=>subst h;exact ⟨_,.bool _,fun w'=>by simp [binOp,Op.stringOp,q2y]⟩
 case leq=>subst h;exact ⟨_,.bool _,fun w'=>by simp [binOp,Op.stringOp,q2y]⟩
 case gtr=>subst h;exact ⟨_,.bool _,fun w'=>by simp [binOp,Op.stringOp,q2y]⟩
 case geq=>subst h;exact ⟨_,.bool _,fun w'=>by simp [binOp,Op.stringOp,q2y]⟩
theorem binA_run {op:BinOp} {t:Nat} {x y u:AV} (h:binA op x y=some u) {R':Nat→Prop} {w1:World} {v1 v2:Value} (h1:RV R' w1 x v1) (h2:RV R' w1 y v2) :
  ∃ v,RV R w u v∧∀ (w':World) (x' y':Operand),((do eqGuard op t x' y' v1 v2;binOp op t v1 v2:Sem Value)).run P w'=.ok v w':=by
 have key:∀ v,(∀ w',(binOp op t v1 v2).run P w'=.ok v w')→(∀ (x' y':Operand),eqGuard op t x' y' v1 v2=pure ())→∀ (w':World) (x' y':Operand),((do eqGuard op t x' y' v1 v2;binOp op t v1 v2:Sem Value)).run P w'=.ok v w':=by
  intro v hv hg w' x' y'
  simp [hg x' y',hv w']
 unfold binA at h
 split at h
 ·rename_i k a k' b
  cases h1
  cases h2
  have hg:∀ (x' y':Operand),eqGuard op t x' y' (.int k a) (.int k' b)=pure ():=fun x' y'=>by
   unfold eqGuard
   cases op<;>rfl
  split at h
  ·rename_i e
   subst e
   obtain ⟨v,hv,hr⟩:=binI_run (P:=P) (R:=R) (w:=w) (t:=t) h
   exact ⟨v,hv,key v hr hg⟩
  ·split at h
   ·obtain ⟨v,hv,hr⟩:=binSh_run (P:=P) (R:=R) (w:=w) (t:=t) (k':=k') (.inl rfl) h
    exact ⟨v,hv,key v hr hg⟩
   ·obtain ⟨v,hv,hr⟩:=binSh_run (P:=P) (R:=R) (w:=w) (t:=t) (k':=k') (.inr rfl) h
    exact ⟨v,hv,key v hr hg⟩
   ·cases h
 ·rename_i a b
  cases h1
  cases h2
  obtain ⟨v,hv,hr⟩:=binS_run (P:=P) (R:=R) (w:=w) (t:=t) h
  exact ⟨v,hv,key v hr fun x' y'=>by unfold eqGuard;cases op<;>rfl⟩
 ·cases h
theorem run_part' {t off n:Nat} {ag:Bool} (ha:aggT P t=some ag) (hs:szT P t=some n) (vs:Array Value) {cs:List AV} (hv:RVs R w cs vs.toList) (hn:off+n≤cs.length) {u:AV} (h1:ag=true∨n=1) (h:mkA ag n (cs.drop off)=some u) :
  ∃ v,RV R w u v∧∀ w',(part t vs off).run P w'=.ok v w':=by
 obtain ⟨v,hv1,h2,h3⟩:=mkA_rv h (hv.drop off)
 refine ⟨v,hv1,fun w'=>?_⟩
 unfold part
 simp only [Sem.run_bind,run_isAgg ha,Result.andThen_ok]
 cases ag with
 | true=>
  obtain ⟨hl,rfl⟩:=h2 rfl
  simp only [if_true,Sem.run_bind,q0x hs,Result.andThen_ok,Sem.run_pure]
  congr 2
  apply Array.ext'
  simp [Array.toList_extract,List.extract_eq_take_drop]
 | false=>
  have h4:=h3 rfl
  rw [List.getElem?_drop] at h4
  simp only [Nat.add_zero,Array.getElem?_toList] at h4
  simp only [Bool.false_eq_true,if_false,h4,Sem.run_pure]
theorem RV.int_inv {k:IntKind} {n:Int} {v:Value} (h:RV R w (.int k n) v):v=.int k n:=by cases h;rfl
theorem RV.bool_inv {b:Bool} {v:Value} (h:RV R w (.bool b) v):v=.bool b:=by cases h;rfl
theorem RV.str_inv {s:ByteArray} {v:Value} (h:RV R w (.str s) v):v=.string s:=by cases h;rfl
theorem bnd_inv {g:SX→AV} {ρ:Operand→Value} (hρ:∀ x y,xok x y=true→RV R w (g x) (ρ y)) {o:Option SX} {o':Option Operand} (ho:oxok o o'=true) {d:Nat} {l:Int} (hl:bnd g d o=some l) :
  (o'.map ρ=none∧l=d)∨∃ k,o'.map ρ=some (.int k l):=by
 cases o with
 | none=>
  cases o' with
  | none=>simp only [bnd,Option.some.injEq] at hl;exact .inl ⟨rfl,hl.symm⟩
  | some y=>cases ho
 | some x=>
  cases o' with
  | none=>cases ho
  | some y=>
   have hx:=hρ x y ho
   simp only [bnd] at hl
   split at hl
   ·rename_i k n hg
    cases hl
    rw [hg] at hx
    exact .inr ⟨k,by rw [Option.map_some,hx.int_inv]⟩
   ·cases hl
theorem q2s {k:IntKind} {l:Int} {y:Nat} (h0:0≤l) (h1:l≤y) (c:BoundsCode) (w':World):(Instr.sliceBound (.int k l) y c).run P w'=.ok l.toNat w':=by
 simp only [Instr.sliceBound,asIntOf,Sem.run_bind,Sem.run_pure,Result.andThen_ok]
 rw [if_pos ⟨h0,h1⟩]
 rfl
theorem bounds_run {g:SX→AV} {ρ:Operand→Value} (hρ:∀ x y,xok x y=true→RV R w (g x) (ρ y)) {lo hi:Option SX} {lo' hi':Option Operand} (hlo:oxok lo lo'=true) (hhi:oxok hi hi'=true) {len cap:Nat} {l h:Int}
  (hl:bnd g 0 lo=some l) (hh:bnd g len hi=some h) (h0:0≤l) (h1:l≤h) (h2:h≤cap) (isS:Bool) (w':World) :
  (Instr.sliceBounds isS len cap (lo'.map ρ) (hi'.map ρ) none).run P w'=.ok (l.toNat,h.toNat,cap) w':=by
 rcases bnd_inv hρ hlo hl with ⟨e1,rfl⟩ | ⟨k1,e1⟩<;>rcases bnd_inv hρ hhi hh with ⟨e2,rfl⟩ | ⟨k2,e2⟩<;>rw [e1,e2]<;>unfold Instr.sliceBounds
 ·simp
 ·have a2:=q2s (P:=P) (k:=k2) (y:=cap) (show 0≤h by omega) h2 (if isS then .sliceAcap else .sliceAlen) w'
  simp [a2]
 ·have a1:=q2s (P:=P) (k:=k1) (y:=len) h0 h1 .sliceB w'
  simp [a1]
 ·have a2:=q2s (P:=P) (k:=k2) (y:=cap) (show 0≤h by omega) h2 (if isS then .sliceAcap else .sliceAlen) w'
  have a1:=q2s (P:=P) (k:=k1) (y:=h.toNat) h0 (show l≤(h.toNat:Int) by omega) .sliceB w'
  simp [a1,a2]
theorem fieldT_inv {t f:Nat} {fd:Field} (h:q6r P t f=some fd):∃ fs,P.underlying t=some (.struct fs)∧fs[f]?=some fd:=by
 unfold q6r at h
 split at h
 ·rename_i fs hu;exact ⟨fs,hu,h⟩
 ·cases h
theorem q3i {t e:Nat} (h:q6w P t=some e):P.underlying t=some (.slice e):=by
 unfold q6w at h
 split at h
 ·rename_i e' hu;cases h;exact hu
 ·cases h
theorem run_fieldAt {t f:Nat} {fd:Field} (h:q6r P t f=some fd) (hs:(szT P fd.type).any (· != 0)=true) (a:Addr) (w':World):(Instr.fieldAt t (.pointer (some a)) f).run P w'=.ok (.pointer (some (a.add fd.offset))) w':=by
 obtain ⟨fs,hu,hf⟩:=fieldT_inv h
 cases hz:szT P fd.type with
 | none=>rw [hz] at hs;cases hs
 | some n=>
  rw [hz] at hs
  have hn:n≠0:=by simpa using hs
  unfold Instr.fieldAt
  simp [run_underlying hu,hf,Instr.sureAddr,fieldPlace,q0x hz,hn]
theorem run_indexAt {t e sz:Nat} (he:q6w P t=some e) (hs:szT P e=some sz) (a:Addr) (n c:Nat) (k:IntKind) (i:Int) (h0:0≤i) (h1:i<n) (w':World) :
  (Instr.indexAt t (.slice (some a) n c) (.int k i)).run P w'=.ok (.pointer (some (a.add (i.toNat * sz)))) w':=by
 have hu:=q3i he
 have hel:P.elem t=e:=by simp [Program.elem,hu]
 rw [run_indexAt_slice w' t a n c k i (by rw [hel];exact hu),if_pos ⟨h0,h1⟩,hel,q0x hs]
 rfl
theorem fillA_eq (cs:List AV):∀ (vs:List AV) (off:Nat),(q1j cs off vs).length=cs.length:=by
 intro vs
 induction vs generalizing cs with
 | nil=>intro off;rfl
 | cons v r ih=>intro off;rw [q1j,ih];simp
theorem q7o (vs:List Value):∀ (arr:Array Value) (off k:Nat),(vs.zipIdx k).foldl (fun cs (c,j)=>cs.setIfInBounds (off+j) c) arr=(vs.zipIdx 0).foldl (fun cs (c,j)=>cs.setIfInBounds (off+k+j) c) arr:=by
 induction vs with
 | nil=>intro arr off k;rfl
 | cons v r ih=>
  intro arr off k
  simp only [List.zipIdx_cons,List.foldl_cons,Nat.add_zero]
  rw [ih _ off (k+1),ih _ (off+k) (0+1)]
  simp only [Nat.add_assoc,Nat.zero_add]
theorem fill_rv:∀ (us:List AV) (vs:List Value),RVs R w us vs→∀ (cs:List AV) (arr:Array Value) (off:Nat),RVs R w cs arr.toList→off+us.length≤cs.length →
  RVs R w (q1j cs off us) ((vs.toArray.zipIdx.foldl (fun cs (c,j)=>cs.setIfInBounds (off+j) c) arr).toList):=by
 intro us
 induction us with
 | nil=>
  intro vs hv cs arr off hc _
  have:vs=[]:=List.eq_nil_of_length_eq_zero hv.1.symm
  subst this
  rw [← Array.foldl_toList,Array.toList_zipIdx]
  simpa [q1j] using hc
 | cons u r ih=>
  intro vs hv cs arr off hc hl
  match vs,hv with
  | v :: vs,hv=>
   have:=ih vs hv.tail (cs.set off u) (arr.setIfInBounds off v) (off+1) (by simpa using hc.set off hv.head) (by simp at hl ⊢;omega)
   rw [q1j]
   have e:(((v :: vs).toArray).zipIdx.foldl (fun cs (c,j)=>cs.setIfInBounds (off+j) c) arr)=(vs.toArray.zipIdx.foldl (fun cs (c,j)=>cs.setIfInBounds (off+1+j) c) (arr.setIfInBounds off v)):=by
    rw [← Array.foldl_toList,← Array.foldl_toList]
    simp only [Array.toList_zipIdx,List.zipIdx_cons,List.foldl_cons,Nat.add_zero,Nat.zero_add]
    rw [q7o vs (arr.setIfInBounds off v) off 1]
   rw [e]
   exact this
theorem q7a {u:AV} {v:Value} (h:RV R w u v) (hj:u≠.junk):RVs R w (q08 u) v.cells.toList:=by
 cases h with
 | junk v=>exact absurd rfl hj
 | agg cs vs hl h=>exact ⟨by simpa [q08,Value.cells] using hl,fun i u hi=>by simpa [Value.cells] using h i u hi⟩
 | _=>exact .cons (by constructor<;>assumption) .nil
theorem buildA_rv {g:SX→AV} {ρ:Operand→Value} (hρ:∀ x y,xok x y=true→RV R w (g x) (ρ y)) (fs:Array Field) (pl:Nat→Option (Nat×Nat)) (hp:∀ (i:Nat) f,fs[i]?=some f→∃ n,szT P f.type=some n∧pl i=some (f.offset,n)) :
  ∀ (ps:List (Nat×Nat×SX)) (qs:List (Nat×Operand)),q6g P fs ps qs=true→∀ (cells out:List AV) (arr:Array Value),RVs R w cells arr.toList→q49 g ps cells=some out →
   ∃ arr',Instr.fill pl arr (qs.map fun (i,x)=>(i,ρ x))=some arr'∧RVs R w out arr'.toList
 | [],[],_,cells,out,arr,hc,h=>by
  cases h
  exact ⟨arr,rfl,hc⟩
 | (off,n,x) :: r,(i,y) :: s,hok,cells,out,arr,hc,h=>by
  simp only [q6g,Bool.and_eq_true] at hok
  obtain ⟨⟨h1,h2⟩,h3⟩:=hok
  cases hf:fs[i]? with
  | none=>rw [hf] at h1;cases h1
  | some f=>
   rw [hf] at h1
   simp only [Bool.and_eq_true,beq_iff_eq] at h1
   obtain ⟨rfl,hsz⟩:=h1
   obtain ⟨m,hm,hpi⟩:=hp i f hf
   obtain rfl:m=n:=by rw [hm] at hsz;simpa using hsz
   simp only [q49] at h
   split at h
   ·rename_i hl
    have hv:=q7a (hρ x y h2) (by intro e;rw [e] at hl;simp [notJ] at hl)
    have hfill:=fill_rv _ _ hv cells arr f.offset hc (by rw [hl.1];exact hl.2.1)
    have hsz2:(ρ y).cells.size=m:=by rw [← Array.length_toList,← hv.1];exact hl.1
    have hsz3:arr.size=cells.length:=by rw [← Array.length_toList];exact hc.1.symm
    obtain ⟨arr',h4,h5⟩:=buildA_rv hρ fs pl hp r s h3 _ out _ (by simpa using hfill) h
    refine ⟨arr',?_,h5⟩
    simp only [List.map_cons,Instr.fill,hpi]
    have hc1:((ρ y).cells.size≠m||decide (f.offset+(ρ y).cells.size>arr.size))=false:=by
     simp [hsz2,hsz3];omega
    rw [if_neg (by rw [hc1];simp)]
    simpa using h4
   ·cases h
 | [],_ :: _,hok,_,_,_,_,_=>by cases hok
 | _ :: _,[],hok,_,_,_,_,_=>by cases hok
theorem xsok_rv {g:SX→AV} {ρ:Operand→Value} (hρ:∀ x y,xok x y=true→RV R w (g x) (ρ y)):∀ {xs:List SX} {ys:List Operand},xsok xs ys=true→RVs R w (xs.map g) (ys.map ρ)
 | [],[],_=>.nil
 | x :: xs,y :: ys,h=>by
  simp only [xsok,Bool.and_eq_true] at h
  exact .cons (hρ x y h.1) (xsok_rv hρ h.2)
 | [],_ :: _,h=>by cases h
 | _ :: _,[],h=>by cases h
theorem run_places (w':World):∀ (fs:List Field),(∀ f∈fs,(szT P f.type).isSome=true)→(fs.mapM fun f=>do pure (f.offset,← sizeOf f.type):Sem (List (Nat×Nat))).run P w'=.ok (fs.map fun f=>(f.offset,(szT P f.type).getD 0)) w'
 | [],_=>by simp
 | f :: r,h=>by
  have ih:=run_places w' r fun f hf=>h f (List.mem_cons_of_mem _ hf)
  obtain ⟨n,hn⟩:=Option.isSome_iff_exists.1 (h f List.mem_cons_self)
  simp only [List.mapM_cons,Sem.run_bind,q0x hn,Result.andThen_ok,Sem.run_pure,ih,List.map_cons,hn,Option.getD_some]
theorem eqnil1 {t:Nat} {ms:Array (String×TypeId)} (hu:P.underlying t=some (.interface ms)) (d:Nat) (w':World):(Op.equalIn (d+1) t .nilIface .nilIface).run P w'=.ok true w':=by
 simp only [Op.equalIn,Sem.run_bind,run_underlying hu,Result.andThen_ok,Sem.run_pure]
theorem eqnil2 {t:Nat} {ms:Array (String×TypeId)} (hu:P.underlying t=some (.interface ms)) (d:Nat) (q:Nat) (v:Value) (w':World):(Op.equalIn (d+1) t (.iface q v) .nilIface).run P w'=.ok false w':=by
 simp only [Op.equalIn,Sem.run_bind,run_underlying hu,Result.andThen_ok,Sem.run_pure]
theorem run_eqnil {t:Nat} {ms:Array (String×TypeId)} (hu:P.underlying t=some (.interface ms)) (neg:Bool) (v:Value) (b:Bool) (h:(Op.equalIn 10000 t v .nilIface).run P w=.ok b w) (hv:v=.nilIface∨∃ q u,v=.iface q u) (x':Operand) :
  ((do eqGuard (if neg then .neq else .eql) t x' (.const .nilIface) v .nilIface;binOp (if neg then .neq else .eql) t v .nilIface:Sem Value)).run P w=.ok (.bool (if neg then !b else b)) w:=by
 have hg:eqGuard (if neg then .neq else .eql) t x' (.const .nilIface) v .nilIface=pure ():=by
  rcases hv with rfl | ⟨q,u,rfl⟩
  ·unfold eqGuard;cases neg<;>simp
  ·unfold eqGuard;cases neg<;>rfl
 have hb:(binOp (if neg then .neq else .eql) t v .nilIface).run P w=.ok (.bool (if neg then !b else b)) w:=by
  have e:Op.equal t v .nilIface=Op.equalIn 10000 t v .nilIface:=rfl
  rcases hv with rfl | ⟨q,u,rfl⟩<;>cases neg
  ·show ((do pure (.bool (← Op.equal t .nilIface .nilIface))):Sem Value).run P w=_
   rw [e,Sem.run_bind,h];rfl
  ·show ((do pure (.bool (!(← Op.equal t .nilIface .nilIface)))):Sem Value).run P w=_
   rw [e,Sem.run_bind,h];rfl
  ·show ((do pure (.bool (← Op.equal t (.iface q u) .nilIface))):Sem Value).run P w=_
   rw [e,Sem.run_bind,h];rfl
  ·show ((do pure (.bool (!(← Op.equal t (.iface q u) .nilIface)))):Sem Value).run P w=_
   rw [e,Sem.run_bind,h];rfl
 rw [Sem.run_bind,hg,Sem.run_pure,Result.andThen_ok,hb]
set_option maxHeartbeats 4000000 in
theorem qsound (hs:Sim R S w) {e0:Env} {a0:Act} (he0:REnv R w e0 a0.tmps) {o:SOp} {op:Oper} (hok:qok P o op.op=true) {u:AV} (hv:qev S (ev e0) o=some u) :
  ∃ v,RV R w u v∧∀ w',(isL o=true→Ext w w')→(execOp a0.eval op).run P w'=.ok (.value v) w':=by
 have hρ:∀ x y,xok x y=true→RV R w (ev e0 x) (a0.eval y):=fun x y h=>q1e h he0
 have hcv:∀ v,a0.eval (.const v)=v:=fun _=>rfl
 generalize hgg:ev e0=g at hv hρ
 generalize hrr:a0.eval=ρ at hρ hcv ⊢
 obtain ⟨dst,op,ty,pos,aft,gd⟩:=op
 cases o with
 | mov x=>
  cases op<;>simp only [qok] at hok<;>try (cases hok;done)
  all_goals
   cases hv
   exact ⟨_,hρ _ _ hok,fun w' _=>by simp [execOp]⟩
 | pick c a b=>
  cases op<;>simp only [qok] at hok<;>try (cases hok;done)
  rename_i c' a' b'
  simp only [Bool.and_eq_true] at hok
  have hc:=hρ _ _ hok.1.1
  simp only [qev] at hv
  split at hv
  ·rename_i e
   cases hv
   rw [e] at hc
   have hb:=hc.bool_inv
   exact ⟨_,hρ _ _ hok.1.2,fun w' _=>by simp [execOp,hb,asBool]⟩
  ·rename_i e
   cases hv
   rw [e] at hc
   have hb:=hc.bool_inv
   exact ⟨_,hρ _ _ hok.2,fun w' _=>by simp [execOp,hb,asBool]⟩
  ·cases hv
 | load n ag x=>
  cases op<;>simp only [qok] at hok<;>try (cases hok;done)
  rename_i t y
  simp only [Bool.and_eq_true,beq_iff_eq] at hok
  simp only [qev] at hv
  split at hv
  ·rename_i cs hcs
   obtain ⟨a,vs,ha,hvs,hc⟩:=cells_at hs (hρ _ _ hok.2) hcs
   obtain ⟨v,hv1,h2,h3⟩:=mkA_rv hv hvs
   refine ⟨v,hv1,fun w' he=>?_⟩
   have:=q84 (P:=P) hok.1.1 hok.1.2 (w':=w') (a:=a) (fun j u hj=>(he rfl).cell (hc j u hj)) h2 h3
   simp [execOp,Instr.loadAt,ha,Instr.sureAddr,this]
  ·cases hv
 | nilck x=>
  cases op<;>simp only [qok] at hok<;>try (cases hok;done)
  rename_i y
  have hx:=hρ _ _ hok
  simp only [qev] at hv
  generalize hz:ρ y=z at hx
  split at hv
  ·rename_i e
   cases hv
   rw [e] at hx
   refine ⟨_,hx,fun w' _=>?_⟩
   cases hx
   simp [execOp,hz]
  ·rename_i e
   cases hv
   rw [e] at hx
   refine ⟨_,hx,fun w' _=>?_⟩
   cases hx
   simp [execOp,hz]
  ·cases hv
 | bin b x y=>
  cases op<;>simp only [qok] at hok<;>try (cases hok;done)
  rename_i b' t x' y' _
  simp only [Bool.and_eq_true,beq_iff_eq] at hok
  obtain ⟨⟨hb,h1⟩,h2⟩:=hok
  have hb':b=b':=by revert hb;cases b<;>cases b'<;>first | (intro _;rfl) | (intro h;cases h)
  subst hb'
  simp only [qev] at hv
  obtain ⟨v,hv1,hr⟩:=binA_run (P:=P) (t:=t) (R:=R) (w:=w) hv (hρ _ _ h1) (hρ _ _ h2)
  exact ⟨v,hv1,fun w' _=>by simp only [execOp,Sem.run_bind] at hr ⊢;rw [hr];rfl⟩
 | eqp neg K x y=>
  cases op<;>simp only [qok] at hok<;>try (cases hok;done)
  rename_i b t x' y' _
  simp only [Bool.and_eq_true,Bool.not_eq_true'] at hok
  obtain ⟨⟨⟨⟨⟨hb,hK⟩,hg⟩,hbool⟩,h1⟩,h2⟩:=hok
  have hK':keyT P t=some K:=by simpa using hK
  have hb':b=if neg then .neq else .eql:=by revert hb;cases b<;>cases neg<;>first | (intro _;rfl) | (intro h;cases h)
  simp only [qev] at hv
  split at hv
  ·rename_i hk
   simp only [Bool.and_eq_true] at hk
   cases hv
   refine ⟨_,.bool _,fun w' _=>?_⟩
   have e:=run_equal hK' hk.1 hk.2 (hρ _ _ h1) (hρ _ _ h2) w'
   obtain ⟨e1,-⟩:=q1u hk.1 (hρ _ _ h1)
   obtain ⟨e2,-⟩:=q1u hk.2 (hρ _ _ h2)
   have hform:(∃ xs ys,ρ x'=.agg xs∧ρ y'=.agg ys)∨(∃ p q,ρ x'=.bool p∧ρ y'=.bool q):=by
    cases hK1:K.1 with
    | true=>
     rw [hK1] at e1 e2
     exact .inl ⟨_,_,e1,e2⟩
    | false=>
     right
     rw [hK1] at hbool
     have hu:P.underlying t=some .bool:=by
      cases hu:P.underlying t with
      | none=>rw [hu] at hbool;simp at hbool
      | some d=>cases d<;>rw [hu] at hbool<;>simp at hbool<;>rfl
     have hKK:K=(false,[.bool]):=by
      have:=hK'
      simp [keyT,aggT,q8f,hu] at this
      exact this.symm
     subst hKK
     have g1:=hk.1
     have g2:=hk.2
     generalize g x=a1 at g1 h1 e1 e2
     generalize g y=a2 at g2 h2 e1 e2
     cases a1<;>simp [q0m,q17,ekOk] at g1
     cases a2<;>simp [q0m,q17,ekOk] at g2
     exact ⟨_,_,e1,e2⟩
   have hgd:(eqGuard b t x' y' (ρ x') (ρ y')).run P w'=.ok () w':=by
    rcases hform with ⟨xs,ys,f1,f2⟩ | ⟨p,q,f1,f2⟩
    ·rw [f1,f2];exact run_eqGuard_agg w' b t x' y' xs ys hg
    ·rw [f1,f2];unfold eqGuard;cases b<;>rfl
   have hbin:(binOp b t (ρ x') (ρ y')).run P w'=.ok (.bool (if neg then !q1d (g x) (g y) else q1d (g x) (g y))) w':=by
    subst hb'
    rcases hform with ⟨xs,ys,f1,f2⟩ | ⟨p,q,f1,f2⟩<;>rw [f1,f2] at e ⊢<;>cases neg<;>simp [binOp,e]
   simp [execOp,hgd,hbin]
  ·cases hv
 | eqnil neg x=>
  cases op<;>simp only [qok] at hok<;>try (cases hok;done)
  rename_i b t x' y' _
  simp only [Bool.and_eq_true] at hok
  obtain ⟨⟨⟨hb,h1⟩,hi⟩,hc⟩:=hok
  have hb':b=if neg then .neq else .eql:=by revert hb;cases b<;>cases neg<;>first | (intro _;rfl) | (intro h;cases h)
  subst hb'
  have hy:y'=.const .nilIface:=by
   cases y' with
   | const v=>cases v<;>first | rfl | (simp at hc)
   | _=>simp at hc
  subst hy
  obtain ⟨ms,hu⟩:∃ ms,P.underlying t=some (.interface ms):=by
   cases hu:P.underlying t with
   | none=>rw [hu] at hi;simp at hi
   | some d=>cases d<;>rw [hu] at hi<;>simp at hi;exact ⟨_,rfl⟩
  have hcn:=hcv .nilIface
  have hx:=hρ _ _ h1
  simp only [qev] at hv
  generalize hz:ρ x'=z at hx
  split at hv
  ·rename_i e
   cases hv
   rw [e] at hx
   cases hx
   refine ⟨_,.bool _,fun w' _=>?_⟩
   have:=run_eqnil (w:=w') hu neg .nilIface true (eqnil1 hu 9999 w') (.inl rfl) x'
   simp only [execOp,hz,hcn,Sem.run_bind] at this ⊢
   rw [this]
   cases neg<;>rfl
  ·rename_i e
   cases hv
   rw [e] at hx
   cases hx
   rename_i q _ u _
   refine ⟨_,.bool _,fun w' _=>?_⟩
   have:=run_eqnil (w:=w') hu neg (.iface q u) false (eqnil2 hu 9999 q u w') (.inr ⟨q,u,rfl⟩) x'
   simp only [execOp,hz,hcn,Sem.run_bind] at this ⊢
   rw [this]
   cases neg<;>rfl
  ·cases hv
 | not x=>
  cases op<;>simp only [qok] at hok<;>try (cases hok;done)
  rename_i b t y
  simp only [Bool.and_eq_true] at hok
  have hb:b=.not:=by have:=hok.1;revert this;cases b<;>first | (intro _;rfl) | (intro h;cases h)
  subst hb
  have hx:=hρ _ _ hok.2
  simp only [qev] at hv
  split at hv
  ·rename_i e
   cases hv
   rw [e] at hx
   have hz:=hx.bool_inv
   exact ⟨_,.bool _,fun w' _=>by simp [execOp,hz,Op.unary]⟩
  ·cases hv
 | conv k x=>
  cases op<;>simp only [qok] at hok<;>try (cases hok;done)
  rename_i s t y
  simp only [Bool.and_eq_true] at hok
  obtain ⟨⟨h1,h2⟩,h3⟩:=hok
  obtain ⟨d1,hd1⟩:=Option.isSome_iff_exists.1 h1
  have hd2:P.underlying t=some (.int k):=by
   cases hu:P.underlying t with
   | none=>rw [hu] at h2;simp at h2
   | some d=>cases d<;>rw [hu] at h2<;>simp at h2;subst h2;rfl
  have hx:=hρ _ _ h3
  simp only [qev] at hv
  split at hv
  ·rename_i e
   cases hv
   rw [e] at hx
   have hz:=hx.int_inv
   exact ⟨_,.int _ _,fun w' _=>by simp [execOp,hz,convert,run_underlying hd1,run_underlying hd2,Conv.intToInt]⟩
  ·cases hv
 | field off n ag x=>
  cases op<;>simp only [qok] at hok<;>try (cases hok;done)
  rename_i t y f
  simp only [Bool.and_eq_true] at hok
  cases hf:q6r P t f with
  | none=>rw [hf] at hok;simp at hok
  | some fd=>
   rw [hf] at hok
   simp only [Bool.and_eq_true,beq_iff_eq,Bool.or_eq_true] at hok
   obtain ⟨⟨⟨⟨rfl,hsz⟩,hag⟩,hn⟩,h3⟩:=hok
   have hx:=hρ _ _ h3
   simp only [qev] at hv
   split at hv
   ·rename_i cs e
    rw [e] at hx
    obtain ⟨vs,hz,hvs⟩:=RV.agg_iff.1 hx
    split at hv
    ·rename_i hl
     obtain ⟨fs,hu,hfs⟩:=fieldT_inv hf
     obtain ⟨v,hv1,hr⟩:=run_part' hag hsz vs hvs hl hn hv
     refine ⟨v,hv1,fun w' _=>?_⟩
     simp [execOp,hz,Instr.field,run_underlying hu,hfs,asAgg,hr]
    ·cases hv
   ·cases hv
 | faddr off x=>
  cases op<;>simp only [qok] at hok<;>try (cases hok;done)
  rename_i t y f
  simp only [Bool.and_eq_true] at hok
  cases hf:q6r P t f with
  | none=>rw [hf] at hok;simp at hok
  | some fd=>
   rw [hf] at hok
   simp only [Bool.and_eq_true,beq_iff_eq] at hok
   obtain ⟨⟨rfl,hsz⟩,h3⟩:=hok
   have hx:=hρ _ _ h3
   simp only [qev] at hv
   generalize hz:ρ y=z at hx
   split at hv
   ·rename_i e
    cases hv
    rw [e] at hx
    cases hx
    rename_i b o
    refine ⟨_,.ptr _ _,fun w' _=>?_⟩
    have:=run_fieldAt (P:=P) hf hsz ⟨b,o,none⟩ w'
    rw [q4j] at this
    simp [execOp,hz,this]
   ·rename_i cs e
    cases hv
    rw [e] at hx
    cases hx
    rename_i a f' hR hc h
    refine ⟨.pointer (some (a.add fd.offset)),.rop _ _ (fun i=>f' (fd.offset+i)) (fun hne=>?_) (fun i hi=>?_) (fun i u hi=>?_),fun w' _=>?_⟩
    ·have:(a.add fd.offset).block=a.block:=by unfold Addr.add;split<;>rfl
     rw [this]
     exact hR (by rintro rfl;simp at hne)
    ·rw [add_add]
     exact hc _ (by simp at hi;omega)
    ·rw [List.getElem?_drop] at hi
     exact h _ _ hi
    ·have:=run_fieldAt (P:=P) hf hsz a w'
     simp [execOp,hz,this]
   ·cases hv
 | iaddr sz x i=>
  cases op<;>simp only [qok] at hok<;>try (cases hok;done)
  rename_i t y j
  simp only [Bool.and_eq_true] at hok
  obtain ⟨⟨h1,h2⟩,h3⟩:=hok
  cases he:q6w P t with
  | none=>rw [he] at h1;simp at h1
  | some e=>
   rw [he] at h1
   have hsz:szT P e=some sz:=by simpa using h1
   have hx:=hρ _ _ h2
   have hi:=hρ _ _ h3
   simp only [qev] at hv
   generalize hz:ρ y=z at hx
   split at hv
   ·rename_i sz' xs k n e1 e2
    rw [e1] at hx
    rw [e2] at hi
    have hi':=hi.int_inv
    split at hv
    ·rename_i hc
     obtain ⟨rfl,h0⟩:=hc
     obtain ⟨cs,hcs,rfl⟩:=Option.map_eq_some_iff.1 hv
     have hlt:=(List.getElem?_eq_some_iff.1 hcs).1
     cases hx with
     | sl0=>simp at hcs
     | sl _ _ a n' c f' hxn hn hR hl hc h=>
      have hcl:=hl _ _ hcs
      refine ⟨.pointer (some (a.add (n.toNat * sz))),.rop _ _ (f' n.toNat) (fun hne=>?_) (fun q hq=>?_) (fun q u hq=>h _ _ _ _ hcs hq),fun w' _=>?_⟩
      ·have:(a.add (n.toNat * sz)).block=a.block:=by unfold Addr.add;split<;>rfl
       rw [this]
       exact hR
      ·rw [add_add]
       exact hc _ _ (by omega) (by omega)
      ·have:=run_indexAt (P:=P) he hsz a n' c k n h0 (by omega) w'
       simp [execOp,hz,hi',this]
    ·cases hv
   ·rename_i b off len cap k n e1 e2
    rw [e1] at hx
    rw [e2] at hi
    have hi':=hi.int_inv
    split at hv
    ·rename_i hc
     cases hv
     cases hx
     refine ⟨_,.ptr _ _,fun w' _=>?_⟩
     have:=run_indexAt (P:=P) he hsz ⟨b,off,none⟩ len cap k n hc.1 hc.2 w'
     rw [q4j] at this
     simp [execOp,hz,hi',this]
    ·cases hv
   ·cases hv
 | idxs x i=>
  cases op<;>simp only [qok] at hok<;>try (cases hok;done)
  rename_i t y j
  simp only [Bool.and_eq_true] at hok
  obtain ⟨⟨h1,h2⟩,h3⟩:=hok
  have hu:P.underlying t=some .string:=by
   cases hu:P.underlying t with
   | none=>rw [hu] at h1;simp at h1
   | some d=>cases d<;>rw [hu] at h1<;>simp at h1<;>rfl
  have hx:=hρ _ _ h2
  have hi:=hρ _ _ h3
  simp only [qev] at hv
  split at hv
  ·rename_i s k n e1 e2
   rw [e1] at hx
   rw [e2] at hi
   have hz:=hx.str_inv
   have hi':=hi.int_inv
   split at hv
   ·rename_i h0
    obtain ⟨b,hb,rfl⟩:=Option.map_eq_some_iff.1 hv
    refine ⟨_,.int _ _,fun w' _=>?_⟩
    simp [execOp,hz,hi',Instr.index,asIntOf,run_underlying hu,h0,hb]
   ·cases hv
  ·cases hv
 | idxa len sz ag x i=>
  cases op<;>simp only [qok] at hok<;>try (cases hok;done)
  rename_i t y j
  simp only [Bool.and_eq_true] at hok
  obtain ⟨⟨h1,h2⟩,h3⟩:=hok
  obtain ⟨e,hu,hsz,hag,hn⟩:∃ e,P.underlying t=some (.array len e)∧szT P e=some sz∧aggT P e=some ag∧(ag=true∨sz=1):=by
   cases hu:P.underlying t with
   | none=>rw [hu] at h1;simp at h1
   | some d=>
    cases d<;>rw [hu] at h1<;>simp at h1
    rename_i n e
    obtain ⟨⟨⟨rfl,h4⟩,h5⟩,h6⟩:=h1
    exact ⟨e,rfl,h4,h5,h6⟩
  have hx:=hρ _ _ h2
  have hi:=hρ _ _ h3
  simp only [qev] at hv
  split at hv
  ·rename_i cs k n e1 e2
   rw [e1] at hx
   rw [e2] at hi
   have hi':=hi.int_inv
   obtain ⟨vs,hz,hvs⟩:=RV.agg_iff.1 hx
   split at hv
   ·rename_i hc
    obtain ⟨h0,hlt,hl⟩:=hc
    obtain ⟨v,hv1,hr⟩:=run_part' hag hsz vs hvs hl hn hv
    refine ⟨v,hv1,fun w' _=>?_⟩
    simp [execOp,hz,hi',Instr.index,asIntOf,run_underlying hu,h0,hlt,q0x hsz,hr]
   ·cases hv
  ·cases hv
 | slics x lo hi=>
  cases op<;>simp only [qok] at hok<;>try (cases hok;done)
  rename_i t y l' h' m
  simp only [Bool.and_eq_true] at hok
  obtain ⟨⟨⟨⟨h1,h2⟩,h3⟩,h4⟩,h5⟩:=hok
  have hu:P.underlying t=some .string:=by
   cases hu:P.underlying t with
   | none=>rw [hu] at h1;simp at h1
   | some d=>cases d<;>rw [hu] at h1<;>simp at h1<;>rfl
  have hm:m=none:=by cases m<;>simp_all
  subst hm
  have hx:=hρ _ _ h2
  simp only [qev] at hv
  split at hv
  ·rename_i s e
   rw [e] at hx
   have hz:=hx.str_inv
   split at hv
   ·rename_i l h hl hh
    split at hv
    ·rename_i hc
     cases hv
     refine ⟨_,.str _,fun w' _=>?_⟩
     have:=bounds_run (P:=P) hρ h3 h4 hl hh hc.1 hc.2.1 (cap:=s.size) hc.2.2 false w'
     simp [execOp,hz,Instr.sliceAt,Instr.slice,run_underlying hu,this]
    ·cases hv
   ·cases hv
  ·cases hv
 | slicl sz x lo hi=>
  cases op<;>simp only [qok] at hok<;>try (cases hok;done)
  rename_i t y l' h' m
  simp only [Bool.and_eq_true] at hok
  obtain ⟨⟨⟨⟨h1,h2⟩,h3⟩,h4⟩,h5⟩:=hok
  cases he:q6w P t with
  | none=>rw [he] at h1;simp at h1
  | some e=>
   rw [he] at h1
   have hsz:szT P e=some sz:=by simpa using h1
   have hu:=q3i he
   have hm:m=none:=by cases m<;>simp_all
   subst hm
   have hx:=hρ _ _ h2
   have hrun:∀ (w':World) (A:Option Addr) (len cap:Nat) (l h:Int),bnd g 0 lo=some l→bnd g len hi=some h→0≤l→l≤h→h≤cap→ρ y=.slice A len cap →
     (execOp ρ ⟨dst,.slice t y l' h' none,ty,pos,aft,gd⟩).run P w'=.ok (.value (.slice (if cap=l.toNat then A else A.map (·.add (l.toNat * sz))) (h.toNat-l.toNat) (cap-l.toNat))) w':=by
    intro w' A len cap l h hl hh a1 a2 a3 hz
    have:=bounds_run (P:=P) hρ h3 h4 hl hh a1 a2 (cap:=cap) a3 true w'
    simp [execOp,hz,Instr.sliceAt,Instr.slice,run_underlying hu,this,q0x hsz]
   simp only [qev] at hv
   generalize hz:ρ y=z at hx
   split at hv
   ·rename_i sz' xs e1
    rw [e1] at hx
    split at hv
    ·rename_i l h hl hh
     split at hv
     ·rename_i hc
      cases hv
      obtain ⟨rfl,a1,a2,a3⟩:=hc
      cases hx with
      | sl0 _ A c=>
       have hl0:h=0:=by simp at a3;omega
       subst hl0
       have hl0:l=0:=by omega
       subst hl0
       refine ⟨.slice (if c=0 then A else A.map (·.add 0)) 0 (c-0),?_,fun w' _=>?_⟩
       ·simp;exact .sl0 _ _ _
       ·have:=hrun w' A 0 c 0 0 hl (by simpa using hh) (by omega) (by omega) (by omega) hz
        simpa using this
      | sl _ _ a n' c f' hxn hn hR hlen hc h'=>
       refine ⟨_,?_,fun w' _=>hrun w' (some a) n' c l h hl (by rw [← hxn];exact hh) a1 a2 (by omega) hz⟩
       by_cases hcl:c=l.toNat
       ·rw [if_pos hcl]
        have:(xs.take h.toNat).drop l.toNat=[]:=by
         apply List.drop_eq_nil_of_le
         rw [List.length_take];omega
        rw [this,show h.toNat-l.toNat=0 by omega]
        exact .sl0 _ _ _
       ·rw [if_neg hcl]
        have hbk:(a.add (l.toNat * sz)).block=a.block:=by unfold Addr.add;split<;>rfl
        refine .sl _ _ _ _ _ (fun i j=>f' (l.toNat+i) j) (by simp;omega) (by omega) (by rw [hbk];exact hR) (fun i cs hi=>?_) (fun i j hi hj=>?_) (fun i j cs u hi hj=>?_)
        ·rw [List.getElem?_drop,List.getElem?_take] at hi
         split at hi
         ·exact hlen _ _ hi
         ·cases hi
        ·rw [add_add,← Nat.add_assoc,← Nat.add_mul]
         exact hc _ _ (by omega) hj
        ·rw [List.getElem?_drop,List.getElem?_take] at hi
         split at hi
         ·exact h' _ _ _ _ hi hj
         ·cases hi
     ·cases hv
    ·cases hv
   ·rename_i b off n cap e1
    rw [e1] at hx
    cases hx
    split at hv
    ·rename_i l h hl hh
     split at hv
     ·rename_i hc
      cases hv
      obtain ⟨a1,a2,a3⟩:=hc
      refine ⟨_,?_,fun w' _=>hrun w' _ n cap l h hl hh a1 a2 a3 hz⟩
      by_cases hcl:cap=l.toNat
      ·rw [if_pos hcl,if_pos hcl]
       exact .own _ _ _ _
      ·rw [if_neg hcl,if_neg hcl,Option.map_some,q4j]
       exact .own _ _ _ _
     ·cases hv
    ·cases hv
   ·rename_i e1
    rw [e1] at hx
    cases hx
    split at hv
    ·rename_i hl hh
     cases hv
     refine ⟨_,.nils,fun w' _=>?_⟩
     have:=hrun w' none 0 0 0 0 hl hh (by omega) (by omega) (by omega) hz
     simpa using this
    ·cases hv
   ·cases hv
 | lookup K ok z x k=>
  cases op<;>simp only [qok] at hok<;>try (cases hok;done)
  rename_i t y j ok'
  simp only [Bool.and_eq_true,beq_iff_eq] at hok
  obtain ⟨⟨⟨rfl,h1⟩,h2⟩,h3⟩:=hok
  obtain ⟨kt,et,zv,hu,hK,hzv,hzc⟩:∃ kt et zv,P.underlying t=some (.map kt et)∧keyT P kt=some K∧q3x P et=some zv∧cok z zv=true:=by
   cases hu:P.underlying t with
   | none=>rw [hu] at h1;simp at h1
   | some d=>
    cases d<;>rw [hu] at h1<;>simp at h1
    rename_i kt et
    obtain ⟨h4,h5⟩:=h1
    cases hz:q3x P et with
    | none=>rw [hz] at h5;simp at h5
    | some zv=>rw [hz] at h5;exact ⟨kt,et,zv,rfl,h4,hz,h5⟩
  have hzr:∀ w',(zeroValue et).run P w'=.ok zv w':=by
   intro w'
   unfold q3x at hzv
   cases hi:P.info? et with
   | none=>rw [hi] at hzv;cases hzv
   | some i=>
    rw [hi] at hzv
    simp at hzv
    simp [zeroValue,typeInfo,hi,hzv]
  have hx:=hρ _ _ h2
  have hk:=hρ _ _ h3
  have hzz:=cok_rv hzc R w
  simp only [qev] at hv
  split at hv
  ·rename_i hko
   generalize hz:ρ y=zy at hx
   have mk:∀ (b:Bool) (u':AV) (v':Value),RV R w u' v'→RV R w (if ok=true then .tup [u',.bool b] else u') (if ok=true then .tuple #[v',.bool b] else v'):=by
    intro b u' v' h
    cases ok
    ·exact h
    ·exact RV.tup_iff.2 ⟨_,rfl,.cons h (.cons (.bool b) .nil)⟩
   split at hv
   ·rename_i e
    rw [e] at hx
    cases hx
    cases hv
    refine ⟨_,mk false z zv hzz,fun w' _=>?_⟩
    have hck:=q7g hK hko hk true w'
    have hfk:=q3f hK hko hk (RMEs.nil (R:=R) (w:=w)) (fun e he=>by cases he) w'
    simp [execOp,hz,Instr.lookup,run_underlying hu,hck,hfk,q0q,found,hzr]
   ·rename_i b e
    rw [e] at hx
    cases hx
    split at hv
    ·rename_i K' es clk hb
     split at hv
     ·rename_i hKK
      subst hKK
      obtain ⟨x0,hx0,hr⟩:=hs.own b _ hb
      cases hr
      rename_i arr hl hm hko'
      have hM:RMEs R w es arr.toList:=RMEs.of _ _ (by simpa using hl) (fun i e m he hm'=>hm i e m he (by simpa using hm'))
      have hfk:=fun w'=>q3f hK hko hk hM hko' w'
      have hgo:∀ w',Ext w w'→w'.heap[b]?=some (.map arr clk):=fun w' he=>he.obj hx0
      cases hf:q0q es (g k) with
      | none=>
       rw [hf] at hv
       cases hv
       refine ⟨_,mk false z zv hzz,fun w' he=>?_⟩
       have hck:=q7g hK hko hk arr.isEmpty w'
       have h5:=hfk w'
       rw [hf] at h5
       simp [execOp,hz,Instr.lookup,run_underlying hu,getObj,Sem.run,hgo w' (he rfl),hck,h5,found,hzr]
      | some q=>
       obtain ⟨i,v,bn⟩:=q
       rw [hf] at hv
       cases hv
       obtain ⟨kk,hi,-⟩:=q45 hf
       have hlt:i<arr.size:=by rw [← hl];exact (List.getElem?_eq_some_iff.1 hi).1
       have hrv:=(hm i _ _ hi (Array.getElem?_eq_getElem hlt)).2.1
       refine ⟨_,mk true v _ hrv,fun w' he=>?_⟩
       have hck:=q7g hK hko hk arr.isEmpty w'
       have h5:=hfk w'
       rw [hf] at h5
       simp [execOp,hz,Instr.lookup,run_underlying hu,getObj,Sem.run,hgo w' (he rfl),hck,h5,found,hlt]
     ·cases hv
    ·cases hv
   ·cases hv
  ·cases hv
 | extr x i=>
  cases op<;>simp only [qok] at hok<;>try (cases hok;done)
  rename_i y j
  simp only [Bool.and_eq_true,beq_iff_eq] at hok
  obtain ⟨rfl,h1⟩:=hok
  have hx:=hρ _ _ h1
  simp only [qev] at hv
  split at hv
  ·rename_i vs e
   rw [e] at hx
   obtain ⟨us,hz,hus⟩:=RV.tup_iff.1 hx
   obtain ⟨v,hv1,hv2⟩:=hus.get hv
   refine ⟨v,hv2,fun w' _=>?_⟩
   have:us[i]?=some v:=by simpa using hv1
   simp [execOp,hz,Instr.extract,this]
  ·cases hv
 | mki t x=>
  cases op<;>simp only [qok] at hok<;>try (cases hok;done)
  rename_i t' y
  simp only [Bool.and_eq_true,beq_iff_eq] at hok
  obtain ⟨⟨rfl,h1⟩,h2⟩:=hok
  have hx:=hρ _ _ h1
  cases hv
  refine ⟨_,.iface _ _ _ hx,fun w' _=>?_⟩
  cases hu:P.underlying t with
  | none=>rw [hu] at h2;simp at h2
  | some d=>
   rw [hu] at h2
   cases d<;>first | (simp at h2;done) | (simp [execOp,Instr.makeInterface,run_underlying hu])
 | asrt t ok z x=>
  cases op<;>simp only [qok] at hok<;>try (cases hok;done)
  rename_i y xt t' ok'
  simp only [Bool.and_eq_true,beq_iff_eq] at hok
  obtain ⟨⟨⟨⟨rfl,rfl⟩,h1⟩,h2⟩,h3⟩:=hok
  have hx:=hρ _ _ h1
  obtain ⟨zv,hzv,hzc⟩:∃ zv,q3x P t=some zv∧cok z zv=true:=by
   cases hz:q3x P t with
   | none=>rw [hz] at h3;simp at h3
   | some zv=>rw [hz] at h3;exact ⟨zv,rfl,h3⟩
  have hzr:∀ w',(zeroValue t).run P w'=.ok zv w':=by
   intro w'
   unfold q3x at hzv
   cases hi:P.info? t with
   | none=>rw [hi] at hzv;cases hzv
   | some i=>
    rw [hi] at hzv
    simp at hzv
    simp [zeroValue,typeInfo,hi,hzv]
  have hzz:=cok_rv hzc R w
  obtain ⟨d,hu,hd⟩:∃ d,P.underlying t=some d∧∀ ms,d≠.interface ms:=by
   cases hu:P.underlying t with
   | none=>rw [hu] at h2;simp at h2
   | some d=>exact ⟨d,rfl,fun ms e=>by subst e;rw [hu] at h2;simp at h2⟩
  simp only [qev] at hv
  generalize hz:ρ y=zy at hx
  split at hv
  ·rename_i t2 v2 e
   rw [e] at hx
   cases hx
   rename_i v hvv
   split at hv
   ·rename_i ht
    subst ht
    cases hv
    refine ⟨if ok=true then .tuple #[v,.bool true] else v,?_,fun w' _=>?_⟩
    ·cases ok
     ·exact hvv
     ·exact RV.tup_iff.2 ⟨_,rfl,.cons hvv (.cons (.bool true) .nil)⟩
    ·cases d<;>first | exact absurd rfl (hd _) | (cases ok<;>simp [execOp,hz,Instr.typeAssert,run_underlying hu])
   ·rename_i ht
    split at hv
    ·rename_i hk
     cases hv
     refine ⟨.tuple #[zv,.bool false],RV.tup_iff.2 ⟨_,rfl,.cons hzz (.cons (.bool false) .nil)⟩,fun w' _=>?_⟩
     cases d<;>first | exact absurd rfl (hd _) | simp [execOp,hz,Instr.typeAssert,run_underlying hu,ht,hk,hzr]
    ·cases hv
  ·rename_i e
   rw [e] at hx
   cases hx
   split at hv
   ·rename_i hk
    cases hv
    refine ⟨.tuple #[zv,.bool false],RV.tup_iff.2 ⟨_,rfl,.cons hzz (.cons (.bool false) .nil)⟩,fun w' _=>?_⟩
    cases d<;>first | exact absurd rfl (hd _) | simp [execOp,hz,Instr.typeAssert,run_underlying hu,hk,hzr]
   ·cases hv
  ·cases hv
 | mkf f xs ys=>
  cases op<;>simp only [qok] at hok<;>try (cases hok;done)
  rename_i f' xs' ys'
  simp only [Bool.and_eq_true,beq_iff_eq] at hok
  obtain ⟨⟨rfl,h1⟩,h2⟩:=hok
  have e1:=xsok_rv hρ h1
  have e2:=xsok_rv hρ h2
  cases hv
  refine ⟨.func f (xs'.map ρ) (ys'.map ρ),.func _ _ _ _ _ (by simpa using e1.1) (by simpa using e2.1) (fun i u hi=>?_) (fun i u hi=>?_),fun w' _=>by simp [execOp,Instr.makeFunc]⟩
  ·have:=e1.2 i u hi
   simpa using this
  ·have:=e2.2 i u hi
   simpa using this
 | max2 x y=>
  cases op<;>simp only [qok] at hok<;>try (cases hok;done)
  rename_i c
  obtain ⟨callee,args,argTypes⟩:=c
  simp only [Bool.and_eq_true] at hok
  obtain ⟨h1,h2⟩:=hok
  have hc:callee=.builtin .max:=by
   cases callee with
   | builtin b=>cases b<;>first | rfl | (simp at h1)
   | _=>simp at h1
  subst hc
  obtain ⟨l⟩:=args
  match l,h2 with
  | [x',y'],h2=>
   simp only [Bool.and_eq_true] at h2
   have hx:=hρ _ _ h2.1
   have hy:=hρ _ _ h2.2
   simp only [qev] at hv
   split at hv
   ·rename_i k a k' b e1 e2
    rw [e1] at hx
    rw [e2] at hy
    have hx':=hx.int_inv
    have hy':=hy.int_inv
    cases hv
    refine ⟨_,.int _ _,fun w' _=>?_⟩
    simp [execOp,resolve,invoke,builtin,hx',hy',Builtin.max_,Builtin.max2]
   ·cases hv
  | [],h2=>simp at h2
  | [_],h2=>simp at h2
  | _ :: _ :: _ :: _,h2=>simp at h2
 | len k x=>
  cases op<;>simp only [qok] at hok<;>try (cases hok;done)
  rename_i c
  obtain ⟨callee,args,argTypes⟩:=c
  simp only [Bool.and_eq_true] at hok
  obtain ⟨h1,h2⟩:=hok
  have hc:callee=.builtin .len:=by
   cases callee with
   | builtin b=>cases b<;>first | rfl | (simp at h1)
   | _=>simp at h1
  subst hc
  obtain ⟨l⟩:=args
  obtain ⟨m⟩:=argTypes
  match l,m,h2 with
  | [y],[t],h2=>
   simp only [Bool.and_eq_true] at h2
   obtain ⟨h3,h4⟩:=h2
   have hx:=hρ _ _ h3
   generalize hz:ρ y=zy at hx
   match k,h4 with
   | 0,h4=>
    have hu:P.underlying t=some .string:=by
     cases hu:P.underlying t with
     | none=>rw [hu] at h4;simp at h4
     | some d=>cases d<;>rw [hu] at h4<;>simp at h4<;>rfl
    simp only [qev] at hv
    split at hv
    ·rename_i s e
     rw [e] at hx
     cases hx
     cases hv
     refine ⟨_,.int _ _,fun w' _=>?_⟩
     simp [execOp,resolve,invoke,builtin,hz,Builtin.len_,run_underlying hu,goInt]
    ·cases hv
   | 1,h4=>
    obtain ⟨e',hu⟩:∃ e',P.underlying t=some (.slice e'):=by
     cases hu:P.underlying t with
     | none=>rw [hu] at h4;simp at h4
     | some d=>cases d<;>rw [hu] at h4<;>simp at h4;exact ⟨_,rfl⟩
    simp only [qev] at hv
    split at hv
    ·rename_i sz xs e
     rw [e] at hx
     cases hv
     refine ⟨_,.int _ _,fun w' _=>?_⟩
     cases hx with
     | sl0=>simp [execOp,resolve,invoke,builtin,hz,Builtin.len_,run_underlying hu,goInt]
     | sl _ _ a n c f hxn=>simp [execOp,resolve,invoke,builtin,hz,Builtin.len_,run_underlying hu,goInt,hxn]
    ·rename_i e
     rw [e] at hx
     cases hx
     cases hv
     refine ⟨_,.int _ _,fun w' _=>?_⟩
     simp [execOp,resolve,invoke,builtin,hz,Builtin.len_,run_underlying hu,goInt]
    ·rename_i e
     rw [e] at hx
     cases hx
     cases hv
     refine ⟨_,.int _ _,fun w' _=>?_⟩
     simp [execOp,resolve,invoke,builtin,hz,Builtin.len_,run_underlying hu,goInt]
    ·cases hv
   | 2,h4=>
    obtain ⟨kt,et,hu⟩:∃ kt et,P.underlying t=some (.map kt et):=by
     cases hu:P.underlying t with
     | none=>rw [hu] at h4;simp at h4
     | some d=>cases d<;>rw [hu] at h4<;>simp at h4;exact ⟨_,_,rfl⟩
    simp only [qev] at hv
    split at hv
    ·rename_i b e
     rw [e] at hx
     cases hx
     split at hv
     ·rename_i K es clk hb
      cases hv
      obtain ⟨x0,hx0,hr⟩:=hs.own b _ hb
      cases hr
      rename_i arr hl hm hko'
      refine ⟨_,.int _ _,fun w' he=>?_⟩
      have hgo:=(he rfl).obj hx0
      simp [execOp,resolve,invoke,builtin,hz,Builtin.len_,run_underlying hu,goInt,getObj,Sem.run,hgo,hl]
     ·cases hv
    ·cases hv
   | n+3,h4=>simp at h4
  | [],_,h2=>simp at h2
  | _ :: _ :: _,_,h2=>simp at h2
  | [_],[],h2=>simp at h2
  | [_],_ :: _ :: _,h2=>simp at h2
 | build zs ps=>
  cases op<;>simp only [qok] at hok<;>try (cases hok;done)
  rename_i t qs
  cases hu:P.underlying t with
  | none=>rw [hu] at hok;simp at hok
  | some d=>
   cases hzv:q3x P t with
   | none=>rw [hu,hzv] at hok;cases d<;>simp at hok
   | some zv=>
    rw [hu,hzv] at hok
    have zrun:∀ (zs':Array Value) (w':World),zv=.agg zs'→(zeroValue t).run P w'=.ok (.agg zs') w':=fun zs' w' e=>by
     unfold q3x at hzv
     cases hi:P.info? t with
     | none=>rw [hi] at hzv;cases hzv
     | some i=>
      rw [hi] at hzv
      simp at hzv
      simp [zeroValue,typeInfo,hi,hzv,e]
    cases d<;>simp only [Bool.false_eq_true] at hok
    case struct fs=>
     simp only [Bool.and_eq_true] at hok
     obtain ⟨⟨h1,h2⟩,h3⟩:=hok
     cases zv<;>simp only [Bool.false_eq_true] at h1
     rename_i zs'
     have hzz:=q7q h1 R w
     obtain ⟨cells,hb,rfl⟩:=Option.map_eq_some_iff.1 hv
     have hall:∀ f∈fs.toList,(szT P f.type).isSome=true:=fun f hf=>Array.all_eq_true_iff_forall_mem.1 h2 f (by simpa using hf)
     obtain ⟨arr',ha,hv1⟩:=buildA_rv hρ fs (fun i=>((fs.toList.map fun f=>(f.offset,(szT P f.type).getD 0)).toArray)[i]?) (fun i f hf=>by
      obtain ⟨n,hn⟩:=Option.isSome_iff_exists.1 (hall f (by simpa using Array.mem_of_getElem? hf))
      exact ⟨n,hn,by simp [hf,hn]⟩) ps qs.toList h3 zs cells zs' hzz hb
     refine ⟨.agg arr',RV.agg_iff.2 ⟨_,rfl,hv1⟩,fun w' _=>?_⟩
     have hzr:=zrun zs' w' rfl
     have hpl:=run_places (P:=P) w' fs.toList hall
     have hmm:(fs.mapM fun f=>do pure (f.offset,← sizeOf f.type):Sem (Array (Nat×Nat))).run P w'=.ok (fs.toList.map fun f=>(f.offset,(szT P f.type).getD 0)).toArray w':=by
      rw [Array.mapM_eq_mapM_toList]
      simp only [bind_pure_comp] at hpl ⊢
      simp [hpl]
     simp only [execOp,Instr.build,Sem.run_bind,hzr,run_underlying hu,Result.andThen_ok,hmm,Value.cells]
     have hq:(Array.map (fun x=>(x.1,ρ x.2)) qs).toList=qs.toList.map fun (i,x)=>(i,ρ x):=by simp
     rw [hq]
     have ha':=ha
     simp only [ha',Sem.run_pure,Result.andThen_ok]
    case array len el=>
     simp only [Bool.and_eq_true] at hok
     obtain ⟨h1,h3⟩:=hok
     cases zv<;>simp only [Bool.false_eq_true] at h1
     rename_i zs'
     cases hsz:szT P el with
     | none=>rw [hsz] at h3;cases h3
     | some sz=>
      rw [hsz] at h3
      have hzz:=q7q h1 R w
      obtain ⟨cells,hb,rfl⟩:=Option.map_eq_some_iff.1 hv
      obtain ⟨arr',ha,hv1⟩:=buildA_rv hρ (arrFs len el sz) (fun i=>some (i * sz,sz)) (fun i f hf=>by
       unfold arrFs at hf
       rw [Array.getElem?_map] at hf
       obtain ⟨j,hj,rfl⟩:=Option.map_eq_some_iff.1 hf
       have:j=i:=by
        have:=(Array.getElem?_eq_some_iff.1 hj).2
        simpa using this.symm
       subst this
       exact ⟨sz,hsz,rfl⟩) ps qs.toList h3 zs cells zs' hzz hb
      refine ⟨.agg arr',RV.agg_iff.2 ⟨_,rfl,hv1⟩,fun w' _=>?_⟩
      have hzr:=zrun zs' w' rfl
      simp only [execOp,Instr.build,Sem.run_bind,hzr,run_underlying hu,Result.andThen_ok,q0x hsz,Value.cells]
      have hq:(Array.map (fun x=>(x.1,ρ x.2)) qs).toList=qs.toList.map fun (i,x)=>(i,ρ x):=by simp
      rw [hq]
      have ha':=ha
      simp only [ha',Sem.run_pure,Result.andThen_ok]
 | _=>simp [qev] at hv
end
end Go.HL
