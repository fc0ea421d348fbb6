/- A part of a proof. -/
import Derived.Test.YtadmdlpmikoghaaGreatKmHlA
set_option linter.unusedSimpArgs false
set_option linter.unusedVariables false
namespace Go.HL
def cval:AV→Value
 | .int k n=>.int k n
 | .str s=>.string s
 | .bool b=>.bool b
 | _=>undef
def eq1:AV→AV→Bool
 | .int _ a,.int _ b=>a==b
 | .str a,.str b=>decide (a=b)
 | .bool a,.bool b=>a==b
 | _,_=>false
def eqs:List AV→List AV→Bool
 | x :: xs,y :: ys=>eq1 x y&&eqs xs ys
 | _,_=>true
theorem q0r {k:EK} {x:AV} (h:ekOk k x=true):(∃ i n,k=.int i∧x=.int i n)∨(∃ s,k=.str∧x=.str s)∨(∃ b,k=.bool∧x=.bool b):=by
 cases k<;>cases x<;>simp_all [ekOk]
theorem ek_cval {k:EK} {x:AV} (h:ekOk k x=true) {R:Nat→Prop} {w:World} {v:Value} (hv:RV R w x v):v=cval x:=by
 rcases q0r h with ⟨i,n,rfl,rfl⟩ | ⟨s,rfl,rfl⟩ | ⟨b,rfl,rfl⟩<;>cases hv<;>rfl
theorem q3c:∀ {ks:List EK} {xs:List AV},q17 ks xs=true→ks.length=xs.length
 | [],[],_=>rfl
 | k :: ks,x :: xs,h=>by simp only [q17,Bool.and_eq_true] at h;simp [q3c h.2]
 | [],_ :: _,h=>by cases h
 | _ :: _,[],h=>by cases h
theorem eks_cval:∀ {ks:List EK} {xs:List AV},q17 ks xs=true→∀ {R:Nat→Prop} {w:World} {vs:List Value},RVs R w xs vs→vs=xs.map cval
 | [],[],_,R,w,[],h=>rfl
 | [],[],_,R,w,v :: vs,h=>by cases h.1
 | k :: ks,x :: xs,h,R,w,[],hv=>by cases hv.1
 | k :: ks,x :: xs,h,R,w,v :: vs,hv=>by
  simp only [q17,Bool.and_eq_true] at h
  rw [ek_cval h.1 hv.head,eks_cval h.2 hv.tail]
  rfl
 | [],_ :: _,h,_,_,_,_=>by cases h
 | _ :: _,[],h,_,_,_,_=>by cases h
theorem eks_append:∀ {ks ls:List EK} {xs:List AV},q17 (ks++ls) xs=true→q17 ks (xs.take ks.length)=true∧q17 ls (xs.drop ks.length)=true
 | [],ls,xs,h=>⟨rfl,by simpa using h⟩
 | k :: ks,ls,[],h=>by cases h
 | k :: ks,ls,x :: xs,h=>by
  simp only [List.cons_append,q17,Bool.and_eq_true] at h
  have:=eks_append h.2
  simp [q17,h.1,this.1,this.2]
theorem eqs_append:∀ (n:Nat) (xs ys:List AV),eqs xs ys=(eqs (xs.take n) (ys.take n)&&eqs (xs.drop n) (ys.drop n))
 | 0,xs,ys=>by simp [eqs]
 | n+1,[],ys=>by cases ys<;>simp [eqs]
 | n+1,x :: xs,[]=>by simp [eqs]
 | n+1,x :: xs,y :: ys=>by simp [eqs,eqs_append n xs ys,Bool.and_assoc]
def szT (P:Program) (t:Nat):Option Nat:=(P.info? t).map (·.size)
def aggT (P:Program) (t:Nat):Option Bool:=match P.underlying t with
 | some (.struct _) | some (.array _ _)=>some true
 | some _=>some false
 | none=>none
def flatFs (P:Program) (go:Nat→Option (List EK)):List Field→Nat→Option (List EK)
 | [],_=>some []
 | f :: r, off => if f.name == "_" || f.offset != off then none else
  match go f.type with
  | none=>none
  | some ks=>if szT P f.type==some ks.length then (flatFs P go r (off+ks.length)).map (ks++·) else none
def q8f (P:Program):Nat→Nat→Option (List EK)
 | 0,_=>none
 | d+1,t=>match P.underlying t with
  | some (.int k)=>some [.int k]
  | some .string=>some [.str]
  | some .bool=>some [.bool]
  | some (.struct fs)=>if P.stoodInHeld t then none else flatFs P (q8f P d) fs.toList 0
  | _=>none
def keyT (P:Program) (t:Nat):Option (Bool×List EK):=match aggT P t,q8f P 20 t with
 | some a,some ks=>some (a,ks)
 | _,_=>none
def mkV (ag:Bool) (vs:List Value):Value:=if ag then .agg vs.toArray else vs.headD undef
section
variable {P:Program}
theorem run_isAgg {t:Nat} {ag:Bool} (h:aggT P t=some ag) (w:World):(isAgg t).run P w=.ok ag w:=by
 unfold aggT at h
 unfold isAgg
 cases hu:P.underlying t with
 | none=>rw [hu] at h;cases h
 | some d=>
  rw [hu] at h
  simp only [Sem.run_bind,run_underlying hu,Result.andThen_ok]
  cases d<;>simp_all
theorem q0x {t n:Nat} (h:szT P t=some n) (w:World):(sizeOf t).run P w=.ok n w:=by
 obtain ⟨i,hi,rfl⟩:=Option.map_eq_some_iff.1 h
 simp [sizeOf,typeInfo,hi]
theorem run_part {t off n:Nat} {ag:Bool} (ha:aggT P t=some ag) (hs:szT P t=some n) (h1:ag=false→n=1) (vs:List Value) (hn:off+n≤vs.length) (w:World) :
  (part t vs.toArray off).run P w=.ok (mkV ag ((vs.drop off).take n)) w:=by
 unfold part
 simp only [Sem.run_bind,run_isAgg ha,Result.andThen_ok]
 cases ag with
 | true=>
  simp only [if_true,Sem.run_bind,q0x hs,Result.andThen_ok,Sem.run_pure,mkV]
  congr 2
  apply Array.ext'
  simp [Array.toList_extract,List.extract_eq_take_drop]
 | false=>
  obtain rfl:=h1 rfl
  have hlt:off<vs.length:=by omega
  simp only [Bool.false_eq_true,if_false,List.getElem?_toArray,List.getElem?_eq_getElem hlt,Sem.run_pure,mkV]
  congr 1
  rw [List.drop_eq_getElem_cons hlt]
  rfl
theorem flat_agg {d t:Nat} {ks:List EK} (h:q8f P d t=some ks):∃ ag,aggT P t=some ag∧(ag=false→ks.length=1):=by
 cases d with
 | zero=>cases h
 | succ d=>
  unfold q8f at h
  unfold aggT
  split at h
  ·rename_i k hu;cases h;rw [hu];exact ⟨false,rfl,fun _=>rfl⟩
  ·rename_i hu;cases h;rw [hu];exact ⟨false,rfl,fun _=>rfl⟩
  ·rename_i hu;cases h;rw [hu];exact ⟨false,rfl,fun _=>rfl⟩
  ·rename_i fs hu;rw [hu];exact ⟨true,rfl,fun h=>by cases h⟩
  ·cases h
theorem q4f {ks ls:List EK} {xs:List AV} {off:Nat} (h:q17 (ks++ls) (xs.drop off)=true) :
  q17 ks ((xs.drop off).take ks.length)=true∧q17 ls (xs.drop (off+ks.length))=true:=by
 have:=eks_append h
 rw [List.drop_drop] at this
 exact this
theorem q2y (s s':ByteArray):(s.toList==s'.toList)=decide (s=s'):=by
 by_cases e:s=s'
 ·subst e;simp
 ·rw [decide_eq_false e,beq_eq_false_iff_ne]
  intro h
  rw [ByteArray.toList_eq,ByteArray.toList_eq] at h
  exact e (ByteArray.ext (Array.ext' h))
theorem q2h {k:EK} {xs:List AV} (h:q17 [k] xs=true):∃ x,xs=[x]∧ekOk k x=true:=by
 match xs,h with
 | [x],h=>exact ⟨x,rfl,by simpa [q17] using h⟩
 | [],h=>cases h
 | _ :: _ :: _,h=>simp [q17] at h
theorem q5p (xs:List AV) (off n:Nat):((xs.map cval).drop off).take n=((xs.drop off).take n).map cval:=by
 rw [List.map_take,List.map_drop]
theorem flat_eq:∀ (d t:Nat) (ks:List EK),q8f P d t=some ks→∀ (D:Nat),d≤D→∀ (xs ys:List AV),q17 ks xs=true→q17 ks ys=true→∀ (ag:Bool),aggT P t=some ag→∀ w:World,
  (Op.equalIn D t (mkV ag (xs.map cval)) (mkV ag (ys.map cval))).run P w=.ok (eqs xs ys) w:=by
 intro d
 induction d with
 | zero=>intro t ks h;cases h
 | succ d ih=>
  intro t ks h D hD xs ys hx hy ag hag w
  obtain ⟨D,rfl⟩:∃ m,D=m+1:=⟨D-1,by omega⟩
  unfold q8f at h
  split at h
  ·rename_i k hu
   cases h
   have:ag=false:=by simpa [aggT,hu] using hag.symm
   subst this
   obtain ⟨x,rfl,hx1⟩:=q2h hx
   obtain ⟨y,rfl,hy1⟩:=q2h hy
   rcases q0r hx1 with ⟨i,n,h1,rfl⟩ | ⟨s,h1,rfl⟩ | ⟨b,h1,rfl⟩<;>cases h1
   rcases q0r hy1 with ⟨i,m,h1,rfl⟩ | ⟨s,h1,rfl⟩ | ⟨b,h1,rfl⟩<;>cases h1
   simp [mkV,cval,run_equalIn_int w D t k k n m hu,eqs,eq1]
  ·rename_i hu
   cases h
   have:ag=false:=by simpa [aggT,hu] using hag.symm
   subst this
   obtain ⟨x,rfl,hx1⟩:=q2h hx
   obtain ⟨y,rfl,hy1⟩:=q2h hy
   rcases q0r hx1 with ⟨i,n,h1,rfl⟩ | ⟨s,h1,rfl⟩ | ⟨b,h1,rfl⟩<;>cases h1
   rcases q0r hy1 with ⟨i,m,h1,rfl⟩ | ⟨s',h1,rfl⟩ | ⟨b,h1,rfl⟩<;>cases h1
   simp [mkV,cval,run_equalIn_string w D t s s' hu,eqs,eq1,q2y]
  ·rename_i hu
   cases h
   have:ag=false:=by simpa [aggT,hu] using hag.symm
   subst this
   obtain ⟨x,rfl,hx1⟩:=q2h hx
   obtain ⟨y,rfl,hy1⟩:=q2h hy
   rcases q0r hx1 with ⟨i,n,h1,rfl⟩ | ⟨s,h1,rfl⟩ | ⟨b,h1,rfl⟩<;>cases h1
   rcases q0r hy1 with ⟨i,m,h1,rfl⟩ | ⟨s',h1,rfl⟩ | ⟨b',h1,rfl⟩<;>cases h1
   simp [mkV,cval,run_equalIn_bool' w D t b b' hu,eqs,eq1]
  ·rename_i fs hu
   have:ag=true:=by simpa [aggT,hu] using hag.symm
   subst this
   split at h
   ·cases h
   ·rename_i hst
    have hf:P.fieldsOf t=fs:=by simp [Program.fieldsOf,hu]
    show (Op.equalIn (D+1) t (.agg (xs.map cval).toArray) (.agg (ys.map cval).toArray)).run P w=_
    rw [run_equalIn_struct w D t _ _ (by rw [hf];exact hu) (by simpa using hst),hf]
    have key:∀ (l:List Field) (off:Nat) (ls:List EK),flatFs P (q8f P d) l off=some ls→off≤xs.length→off≤ys.length→q17 ls (xs.drop off)=true→q17 ls (ys.drop off)=true →
      (Op.eqFields D (xs.map cval).toArray (ys.map cval).toArray l).run P w=.ok (eqs (xs.drop off) (ys.drop off)) w:=by
     intro l
     induction l with
     | nil=>
      intro off ls hl _ _ h1 h2
      cases hl
      cases hxs:xs.drop off with
      | nil=>simp [Op.eqFields,eqs]
      | cons a r=>rw [hxs] at h1;cases h1
     | cons f r ihl=>
      intro off ls hl o1 o2 h1 h2
      unfold flatFs at hl
      split at hl
      ·cases hl
      ·rename_i hc
       simp only [Bool.or_eq_true,beq_iff_eq,bne_iff_ne,ne_eq,not_or,Decidable.not_not] at hc
       obtain ⟨hn,ho⟩:=hc
       split at hl
       ·cases hl
       ·rename_i ks1 hk1
        split at hl
        ·rename_i hsz
         obtain ⟨ks2,hk2,rfl⟩:=Option.map_eq_some_iff.1 hl
         obtain ⟨ag1,ha1,hg1⟩:=flat_agg hk1
         have hsz':szT P f.type=some ks1.length:=by simpa using hsz
         have a1:=q4f h1
         have a2:=q4f h2
         have l1:=q3c h1
         have l2:=q3c h2
         simp only [List.length_append,List.length_drop] at l1 l2
         have p1:=run_part (P:=P) ha1 hsz' hg1 (xs.map cval) (off:=off) (by rw [List.length_map];omega) w
         have p2:=run_part (P:=P) ha1 hsz' hg1 (ys.map cval) (off:=off) (by rw [List.length_map];omega) w
         rw [q5p] at p1 p2
         have e1:=ih f.type ks1 hk1 D (by omega) _ _ a1.1 a2.1 ag1 ha1 w
         have r1:=ihl (off+ks1.length) ks2 hk2 (by omega) (by omega) a1.2 a2.2
         rw [Op.eqFields,if_pos hn]
         subst ho
         simp only [Sem.run_bind,p1,p2,e1,Result.andThen_ok]
         rw [eqs_append ks1.length (xs.drop f.offset) (ys.drop f.offset),List.drop_drop,List.drop_drop]
         cases eqs ((xs.drop f.offset).take ks1.length) ((ys.drop f.offset).take ks1.length)
         ·simp
         ·simpa using r1
        ·cases hl
    have:=key fs.toList 0 ks h (Nat.zero_le _) (Nat.zero_le _) (by simpa using hx) (by simpa using hy)
    simpa using this
  ·cases h
theorem flat_key (em:Bool):∀ (d t:Nat) (ks:List EK),q8f P d t=some ks→∀ (D:Nat),d≤D→∀ (xs:List AV),q17 ks xs=true→∀ (ag:Bool),aggT P t=some ag→∀ w:World,
  (Instr.checkKey em D t (mkV ag (xs.map cval))).run P w=.ok () w:=by
 intro d
 induction d with
 | zero=>intro t ks h;cases h
 | succ d ih=>
  intro t ks h D hD xs hx ag hag w
  obtain ⟨D,rfl⟩:∃ m,D=m+1:=⟨D-1,by omega⟩
  unfold q8f at h
  split at h
  ·rename_i k hu
   cases h
   simp [Instr.checkKey,run_underlying hu]
  ·rename_i hu
   cases h
   simp [Instr.checkKey,run_underlying hu]
  ·rename_i hu
   cases h
   simp [Instr.checkKey,run_underlying hu]
  ·rename_i fs hu
   have:ag=true:=by simpa [aggT,hu] using hag.symm
   subst this
   split at h
   ·cases h
   ·rename_i hst
    show (Instr.checkKey em (D+1) t (.agg (xs.map cval).toArray)).run P w=_
    simp only [Instr.checkKey,Sem.run_bind,run_underlying hu,Result.andThen_ok]
    rw [← Array.forIn_toList]
    have key:∀ (l:List Field) (off:Nat) (ls:List EK),flatFs P (q8f P d) l off=some ls→off≤xs.length→q17 ls (xs.drop off)=true →
      (forIn (m:=Sem) l () fun (f:Field) (_:Unit)=>do
       if f.name ≠ "_" then
        Instr.checkKey em D f.type (← part f.type (xs.map cval).toArray f.offset)
        pure (ForInStep.yield ())
       else pure (ForInStep.yield ())).run P w=.ok () w:=by
     intro l
     induction l with
     | nil=>intro off ls hl _ h1;simp
     | cons f r ihl=>
      intro off ls hl o1 h1
      unfold flatFs at hl
      split at hl
      ·cases hl
      ·rename_i hc
       simp only [Bool.or_eq_true,beq_iff_eq,bne_iff_ne,ne_eq,not_or,Decidable.not_not] at hc
       obtain ⟨hn,ho⟩:=hc
       split at hl
       ·cases hl
       ·rename_i ks1 hk1
        split at hl
        ·rename_i hsz
         obtain ⟨ks2,hk2,rfl⟩:=Option.map_eq_some_iff.1 hl
         obtain ⟨ag1,ha1,hg1⟩:=flat_agg hk1
         have hsz':szT P f.type=some ks1.length:=by simpa using hsz
         have a1:=q4f h1
         have l1:=q3c h1
         simp only [List.length_append,List.length_drop] at l1
         have p1:=run_part (P:=P) ha1 hsz' hg1 (xs.map cval) (off:=off) (by rw [List.length_map];omega) w
         rw [q5p] at p1
         have e1:=ih f.type ks1 hk1 D (by omega) _ a1.1 ag1 ha1 w
         have r1:=ihl (off+ks1.length) ks2 hk2 (by omega) a1.2
         subst ho
         simp only [List.forIn_cons,Sem.run_bind,hn,ne_eq,not_false_eq_true,if_true,p1,e1,Result.andThen_ok,Sem.run_pure]
         exact r1
        ·cases hl
    have:=key fs.toList 0 ks h (Nat.zero_le _) (by simpa using hx)
    simp at this ⊢
    rw [this]
    rfl
  ·cases h
def q1d (a b:AV):Bool:=eqs (q2f a) (q2f b)
def q0q:List (AV×AV×Nat)→AV→Option (Nat×AV×Nat)
 | [],_=>none
 | e :: r,k=>if q1d k e.1 then some (0,e.2) else (q0q r k).map fun p=>(p.1+1,p.2)
theorem q45:∀ {es:List (AV×AV×Nat)} {k:AV} {i:Nat} {q:AV×Nat},q0q es k=some (i,q)→∃ kk,es[i]?=some (kk,q)∧q1d k kk=true
 | [],k,i,q,h=>by cases h
 | e :: r,k,i,q,h=>by
  simp only [q0q] at h
  split at h
  ·rename_i he
   simp only [Option.some.injEq,Prod.mk.injEq] at h
   obtain ⟨rfl,rfl⟩:=h
   exact ⟨e.1,rfl,he⟩
  ·obtain ⟨p,hp,hq⟩:=Option.map_eq_some_iff.1 h
   simp only [Prod.mk.injEq] at hq
   obtain ⟨rfl,rfl⟩:=hq
   obtain ⟨kk,h1,h2⟩:=q45 (i:=p.1) (q:=p.2) hp
   exact ⟨kk,by simpa using h1,h2⟩
theorem q1u {K:Bool×List EK} {x:AV} (h:q0m K x=true) {R:Nat→Prop} {w:World} {v:Value} (hv:RV R w x v) :
  v=mkV K.1 ((q2f x).map cval)∧q17 K.2 (q2f x)=true:=by
 unfold q0m at h
 split at h
 ·rename_i cs
  simp only [Bool.and_eq_true] at h
  obtain ⟨vs,rfl,hvs⟩:=RV.agg_iff.1 hv
  have:=eks_cval h.2 hvs
  refine ⟨?_,h.2⟩
  rw [h.1]
  show _=Value.agg ((cs.map cval).toArray)
  rw [← this]
 ·rename_i hn
  simp only [Bool.and_eq_true,Bool.not_eq_true'] at h
  have hk:q2f x=[x]:=by
   cases x<;>first | rfl | exact absurd rfl (hn _)
  rw [hk,h.1]
  obtain ⟨k,hk2⟩:∃ k,K.2=[k]:=by
   have h2:=h.2
   cases hK:K.2 with
   | nil=>rw [hK] at h2;cases h2
   | cons a r=>
    cases r with
    | nil=>exact ⟨a,rfl⟩
    | cons b r=>rw [hK] at h2;simp [q17] at h2
  have h2:=h.2
  rw [hk2] at h2
  have h3:ekOk k x=true:=by simpa [q17] using h2
  exact ⟨ek_cval h3 hv,by rw [hk2];exact h2⟩
theorem q7g {t:Nat} {K:Bool×List EK} (hK:keyT P t=some K) {x:AV} (h:q0m K x=true) {R:Nat→Prop} {w:World} {v:Value} (hv:RV R w x v) (em:Bool) (w':World) :
  (Instr.checkKey em 10000 t v).run P w'=.ok () w':=by
 unfold keyT at hK
 split at hK
 ·rename_i a ks ha hks
  cases hK
  obtain ⟨rfl,h2⟩:=q1u h hv
  exact flat_key em 20 t ks hks 10000 (by omega) _ h2 a ha w'
 ·cases hK
theorem run_equal {t:Nat} {K:Bool×List EK} (hK:keyT P t=some K) {x y:AV} (h:q0m K x=true) (h':q0m K y=true) {R R':Nat→Prop} {w1 w2:World} {v u:Value} (hv:RV R w1 x v) (hu:RV R' w2 y u) (w:World) :
  (Op.equal t v u).run P w=.ok (q1d x y) w:=by
 unfold keyT at hK
 split at hK
 ·rename_i a ks ha hks
  cases hK
  obtain ⟨rfl,h2⟩:=q1u h hv
  obtain ⟨rfl,h3⟩:=q1u h' hu
  exact flat_eq 20 t ks hks 10000 (by omega) _ _ h2 h3 a ha w
 ·cases hK
theorem sameNow_eq {t:Nat} {K:Bool×List EK} (hK:keyT P t=some K) {d:TypeDesc} (hd:P.underlying t=some d) {x y:AV} (h:q0m K x=true) (h':q0m K y=true) {R R':Nat→Prop} {w1 w2:World} {v u:Value}
  (hv:RV R w1 x v) (hu:RV R' w2 y u):Instr.sameNow d v u=none∨Instr.sameNow d v u=some (q1d x y):=by
 obtain ⟨rfl,h2⟩:=q1u h hv
 obtain ⟨rfl,h3⟩:=q1u h' hu
 unfold keyT at hK
 split at hK
 ·rename_i a ks ha hks
  cases hK
  unfold q8f at hks
  rw [hd] at hks
  unfold aggT at ha
  rw [hd] at ha
  cases d<;>simp_all
  case int k=>
   subst hks
   obtain ⟨x1,e1,g1⟩:=q2h h2
   obtain ⟨y1,e2,g2⟩:=q2h h3
   rcases q0r g1 with ⟨i,n,f1,rfl⟩ | ⟨s,f1,rfl⟩ | ⟨b,f1,rfl⟩<;>cases f1
   rcases q0r g2 with ⟨i,m,f1,rfl⟩ | ⟨s,f1,rfl⟩ | ⟨b,f1,rfl⟩<;>cases f1
   simp [q1d,e1,e2,eqs,eq1,mkV,cval,Instr.sameNow]
  case string=>
   subst hks
   obtain ⟨x1,e1,g1⟩:=q2h h2
   obtain ⟨y1,e2,g2⟩:=q2h h3
   rcases q0r g1 with ⟨i,n,f1,rfl⟩ | ⟨s,f1,rfl⟩ | ⟨b,f1,rfl⟩<;>cases f1
   rcases q0r g2 with ⟨i,m,f1,rfl⟩ | ⟨s',f1,rfl⟩ | ⟨b,f1,rfl⟩<;>cases f1
   simp [q1d,e1,e2,eqs,eq1,mkV,cval,Instr.sameNow,beq_toListBytes,q2y]
  case bool=>
   subst hks
   obtain ⟨x1,e1,g1⟩:=q2h h2
   obtain ⟨y1,e2,g2⟩:=q2h h3
   rcases q0r g1 with ⟨i,n,f1,rfl⟩ | ⟨s,f1,rfl⟩ | ⟨b,f1,rfl⟩<;>cases f1
   rcases q0r g2 with ⟨i,m,f1,rfl⟩ | ⟨s',f1,rfl⟩ | ⟨b',f1,rfl⟩<;>cases f1
   simp [q1d,e1,e2,eqs,eq1,mkV,cval,Instr.sameNow]
  case struct fs=>exact .inl (by simp [mkV,Instr.sameNow])
 ·cases hK
def found (p:Option (Nat×AV×Nat)) (ms:List MapEntry):Option (Nat×Value):=p.map fun q=>(q.1,((ms[q.1]?).map (·.val)).getD undef)
def RME (R:Nat→Prop) (w:World) (e:AV×AV×Nat) (m:MapEntry):Prop:=RV R w e.1 m.key∧RV R w e.2.1 m.val∧m.born=e.2.2
inductive RMEs (R:Nat→Prop) (w:World):List (AV×AV×Nat)→List MapEntry→Prop
 | nil:RMEs R w [] []
 | cons {e m es ms} (h:RME R w e m) (hs:RMEs R w es ms):RMEs R w (e :: es) (m :: ms)
theorem RMEs.of {R:Nat→Prop} {w:World}:∀ (es:List (AV×AV×Nat)) (ms:List MapEntry),es.length=ms.length→(∀ (i:Nat) (e:AV×AV×Nat) (m:MapEntry),es[i]?=some e→ms[i]?=some m→RME R w e m)→RMEs R w es ms
 | [],[],_,_=>.nil
 | e :: es,m :: ms,h,k=>.cons (k 0 e m rfl rfl) (RMEs.of es ms (by simpa using h) fun i e' m' he hm=>k (i+1) e' m' (by simpa using he) (by simpa using hm))
 | [],_ :: _,h,_=>by cases h
 | _ :: _,[],h,_=>by cases h
theorem RMEs.out {R:Nat→Prop} {w:World} {es:List (AV×AV×Nat)} {ms:List MapEntry} (h:RMEs R w es ms):es.length=ms.length∧∀ (i:Nat) (e:AV×AV×Nat) (m:MapEntry),es[i]?=some e→ms[i]?=some m→RME R w e m:=by
 induction h with
 | nil=>exact ⟨rfl,fun i e m h=>by simp at h⟩
 | cons h hs ih=>
  refine ⟨by simp [ih.1],fun i e m he hm=>?_⟩
  cases i with
  | zero=>simp at he hm;subst he;subst hm;exact h
  | succ i=>exact ih.2 i e m (by simpa using he) (by simpa using hm)
theorem found_cons (es:List (AV×AV×Nat)) (k:AV) (m:MapEntry) (ms:List MapEntry) :
  found ((q0q es k).map fun p=>(p.1+1,p.2)) (m :: ms)=(found (q0q es k) ms).map fun p=>(p.1+1,p.2):=by
 cases q0q es k<;>simp [found]
theorem q3f {t:Nat} {K:Bool×List EK} (hK:keyT P t=some K) {x:AV} (h:q0m K x=true) {R:Nat→Prop} {w1:World} {v:Value} (hv:RV R w1 x v) {R':Nat→Prop} {w2:World} {es:List (AV×AV×Nat)} {ms:List MapEntry}
  (hm:RMEs R' w2 es ms) (hk:∀ e∈es,q0m K e.1=true) (w:World):(Instr.findKey t v ms).run P w=.ok (found (q0q es x) ms) w:=by
 obtain ⟨d,hd⟩:∃ d,P.underlying t=some d:=by
  unfold keyT at hK
  split at hK
  ·rename_i a ks ha hks
   unfold aggT at ha
   cases hu:P.underlying t with
   | none=>rw [hu] at ha;cases ha
   | some d=>exact ⟨d,rfl⟩
  ·cases hK
 have now:∀ (es:List (AV×AV×Nat)) (ms:List MapEntry),RMEs R' w2 es ms→(∀ e∈es,q0m K e.1=true)→∀ i,Instr.findNow d v ms i=none∨Instr.findNow d v ms i=some ((found (q0q es x) ms).map fun p=>(p.1+i,p.2)):=by
  intro es ms hm
  induction hm with
  | nil=>intro _ i;exact .inr rfl
  | cons he hs ih=>
   intro hk i
   rename_i e m es ms
   have hke:=hk e List.mem_cons_self
   rcases sameNow_eq hK hd h hke hv he.1 with hq | hq
   ·exact .inl (by simp [Instr.findNow,hq])
   ·cases hb:q1d x e.1 with
    | true=>exact .inr (by simp [Instr.findNow,hq,hb,q0q,found])
    | false=>
     rw [hb] at hq
     rcases ih (fun e' he'=>hk e' (List.mem_cons_of_mem _ he')) (i+1) with h1 | h1
     ·exact .inl (by simp [Instr.findNow,hq,h1])
     ·refine .inr ?_
      simp only [Instr.findNow,hq,h1,q0q,hb,Bool.false_eq_true,if_false,found_cons]
      cases found (q0q es x) ms<;>simp;omega
 have ask:∀ (es:List (AV×AV×Nat)) (ms:List MapEntry),RMEs R' w2 es ms→(∀ e∈es,q0m K e.1=true)→∀ i,(Instr.findAsking t v ms i).run P w=.ok ((found (q0q es x) ms).map fun p=>(p.1+i,p.2)) w:=by
  intro es ms hm
  induction hm with
  | nil=>intro _ i;simp [Instr.findAsking,q0q,found]
  | cons he hs ih=>
   intro hk i
   rename_i e m es ms
   have hke:=hk e List.mem_cons_self
   have hq:=run_equal hK h hke hv he.1 w
   cases hb:q1d x e.1 with
   | true=>simp [Instr.findAsking,hq,hb,q0q,found]
   | false=>
    have h1:=ih (fun e' he'=>hk e' (List.mem_cons_of_mem _ he')) (i+1)
    simp only [Instr.findAsking,Sem.run_bind,hq,hb,Result.andThen_ok,Bool.false_eq_true,if_false,h1,q0q,found_cons]
    congr 1
    cases found (q0q es x) ms<;>simp;omega
 unfold Instr.findKey
 simp only [Sem.run_bind,run_underlying hd,Result.andThen_ok]
 rcases now es ms hm hk 0 with h1 | h1
 ·simp only [h1]
  have:=ask es ms hm hk 0
  rw [this]
  cases found (q0q es x) ms<;>rfl
 ·simp only [h1,Sem.run_pure]
  cases found (q0q es x) ms<;>rfl
end
end Go.HL
