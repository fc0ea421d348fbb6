/- A part of a proof. -/
import Derived.Test.YtadmdlpmikoghaaGreatKmM1
import Derived.Test.YtadmdlpmikoghaaGreatKmHlS8
set_option maxRecDepth 4000
set_option linter.unusedSimpArgs false
set_option linter.unusedVariables false
namespace Go.HL
open Nat renaming reduceAdd→zA,reduceLeDiff→zB,reduceLT→zC,reduceSub→zD,reduceMul→zE,reduceEqDiff→zF,reduceBEq→zG
open Int renaming reduceAdd→zH,reduceToNat→zI
abbrev MD:Bool×List EK:=(true,[.str,.str,.str])
def ndA (n:Nd):AV:=.agg (ndC n)
theorem ke_nd:KE MD ndA:=⟨fun n=>by simp [ndA,ndC,q0m,q17,ekOk],fun n m h=>by
 obtain ⟨⟨a,b⟩,c⟩:=n
 obtain ⟨⟨d,e⟩,f⟩:=m
 simp only [ndA,ndC,AV.agg.injEq,List.cons.injEq,AV.str.injEq,and_true] at h
 obtain ⟨rfl,rfl,rfl⟩:=h
 rfl⟩
theorem foldE_cons {α σ:Type} {step:σ→α→Option (Bool×σ)} {x:α} {r:List α} {a:σ}:q4q step (x :: r) a=match step a x with
  | none=>none
  | some (true,a')=>some (true,a')
  | some (false,a')=>q4q step r a':=rfl
theorem KMap.lki {κ:Type} {M:Bool×List EK} {enc:κ→AV} {S:q00} {b:Nat} {f:κ→Option AV} {ok:Bool} {z:AV} {K:AV→Prop} (h:KMap M enc S b f) (he:KE M enc) (k:κ) (hk:K (q28 ok z (f k))):lkW S M ok z (.map (some b)) (enc k) K:=Eq.mpr (h.lk he k) hk
def q2r (pv:AV) (X:q00→Prop) (St:Nat→q00→Prop) (q:Option (Bool×Nat)) (ae:AEnd) (S':q00):Prop:=match q with
 | some (b,w')=>ae=.ret (.bool b)∧St w' S'
 | none=>ae=.pan pv∧X S'
section
variable {xs:List Nd} {g:Nat} {fi ca:List AV} {St:Nat→q00→Prop} {step:Nat→Nd→Option (Bool×Nat)} {pv:AV} {X:q00→Prop}
theorem q61 (hb:xs.length≤1125899906842624) (hp:∀ x∈xs,∀ w S,St w S→ACalls PG g (fi++[.agg (ndC x)]++ca) S (q2r pv X St (step w x))) {w:Nat} {S:q00} (h0:St w S) :
  ACalls PG nrx186 [.sl 3 (xs.map ndC),.func (.func g) fi ca] S fun ae S'=>match q4q step xs w with
   | some (b,w')=>(∃ i:Int,ae=.ret (.int .i64 i)∧decide (0≤i)=b)∧St w' S'
   | none=>ae=.pan pv∧X S':=by
 refine wx186 ?_
 unfold Bx186
 (try simp only [rwp,zA,zB,zC,zD,zE,zF,zG,zH,zI])
 refine LoopP.introS (fun i:Nat=>[(0,.sl 3 (xs.map ndC)),(1,.func (.func g) fi ca),(7,.int .i64 xs.length),(8,.int .i64 i)]) (fun i S'=>i≤xs.length∧∃ w',St w' S'∧q4q step (xs.drop i) w'=q4q step xs w) (fun i=>xs.length-i) 0 ⟨by omega,w,h0,rfl⟩ rfl ?_
 rintro i S' ⟨hi,w1,h1,h2⟩ r hr
 unfold C186_1
 (try simp only [rwp,zA,zB,zC,zD,zE,zF,zG,zH,zI])
 (refine q04 (fun hlt=>?_) (fun hlt=>?_)<;>(try simp only [hlc] at hlt))
 ·obtain ⟨x,hx⟩:=q0s hlt
  have q:=hp x (List.mem_of_getElem? hx) w1 S' h1
  rw [q0z hx,foldE_cons] at h2
  (try simp only [rwp,zA,zB,zC,zD,zE,zF,zG,zH,zI,hx,ndC])
  refine caW_ofv q ?_
  intro ae S2 hq
  unfold q2r at hq
  cases hs:step w1 x with
  | none=>
   rw [hs] at hq h2
   obtain ⟨rfl,hx⟩:=hq
   show pqW _ _ _
   unfold pqW
   rw [← h2]
   exact ⟨rfl,hx⟩
  | some p=>
   obtain ⟨b,w2⟩:=p
   rw [hs] at hq h2
   obtain ⟨rfl,h3⟩:=hq
   dsimp only at h2 ⊢
   cases b with
   | true=>
    dsimp only at h2
    (try simp only [rwp,zA,zB,zC,zD,zE,zF,zG,zH,zI])
    refine q02 ?_
    rw [← h2]
    exact ⟨⟨i,rfl,by simp⟩,h3⟩
   | false=>
    dsimp only at h2
    (try simp only [rwp,zA,zB,zC,zD,zE,zF,zG,zH,zI])
    (simp (disch:=omega) only [q03])
    exact q09 rfl (hr (i+1) S2 ⟨by omega,w2,h3,h2⟩ (by omega))
 ·have e:xs.drop i=[]:=q37 hlt
  rw [e] at h2
  refine q02 ?_
  rw [← h2]
  exact ⟨⟨-1,rfl,rfl⟩,h1⟩
theorem q4s (hb:xs.length≤1125899906842624) (hp:∀ x∈xs,∀ w S,St w S→ACalls PG g (fi++[.agg (ndC x)]++ca) S (q2r pv X St (step w x))) {w:Nat} {S:q00} (h0:St w S) :
  ACalls PG nrx147 [.sl 3 (xs.map ndC),.func (.func g) fi ca] S (q2r pv X St (q4q step xs w)):=by
 refine wx147 ?_
 unfold Bx147
 refine q0c (q61 hb hp h0) ?_
 intro ae S' hq
 unfold q2r
 cases hf:q4q step xs w with
 | none=>
  rw [hf] at hq
  obtain ⟨rfl,hx⟩:=hq
  exact ⟨rfl,hx⟩
 | some p=>
  obtain ⟨b,w2⟩:=p
  rw [hf] at hq
  obtain ⟨⟨i,rfl,h1⟩,h2⟩:=hq
  dsimp only
  (try simp only [rwp,zA,zB,zC,zD,zE,zF,zG,zH,zI])
  exact q02 ⟨by rw [h1],h2⟩
theorem q72 {w:Nat} {S:q00} (h0:St w S) :
  ACalls PG nrx147 [.nils,.func (.func g) fi ca] S (q2r pv X St (q4q step [] w)):=by
 refine wx147 ?_
 unfold Bx147
 have q:AFunS PG nrx186 [.nils,.func (.func g) fi ca] S (.int .i64 (-1)):=by
  refine wx186 ?_
  unfold Bx186
  (try simp only [rwp,zA,zB,zC,zD,zE,zF,zG,zH,zI])
  refine LoopP.introS (fun _:Nat=>[(0,.nils),(1,.func (.func g) fi ca),(7,.int .i64 0),(8,.int .i64 0)]) (fun i S'=>S'=S) (fun i=>i) 0 rfl rfl ?_
  rintro i S' rfl r hr
  (try simp only [rwp,zA,zB,zC,zD,zE,zF,zG,zH,zI,rwb,reduceIte,C186_1,Int.lt_irrefl])
  exact q02 ⟨rfl,rfl⟩
 refine q1l q ?_
 (try simp only [rwp,zA,zB,zC,zD,zE,zF,zG,zH,zI])
 exact q02 ⟨rfl,h0⟩
def ofA (l:List Nd):Option AV:=if l=[] then none else some (.sl 3 (l.map ndC))
theorem q48 (hb:xs.length≤1125899906842624) (hp:∀ x∈xs,∀ w S,St w S→ACalls PG g (fi++[.agg (ndC x)]++ca) S (q2r pv X St (step w x))) {w:Nat} {S:q00} (h0:St w S) :
  ACalls PG nrx147 [q28 false .nils (ofA xs),.func (.func g) fi ca] S (q2r pv X St (q4q step xs w)):=by
 unfold ofA
 split
 ·rename_i h;subst h;exact q72 h0
 ·exact q4s hb hp h0
end
abbrev tySe:Nat:=94
abbrev spV:AV:=.iface 100 (.agg [])
structure PathE (es:List (AV×AV×Nat)) (P:List Nd):Prop where
 key:∀ x∈es,∃ n,x.1=ndA n
 len:es.length=P.length
 get:∀ n,mget es (ndA n)=if n∈P then some (.bool true) else none
def seC (E:q1v) (B:Int) (bo bp w:Nat):List AV:=[.sl 2 (E.s.map tyC),.map (some bo),.str E.who.ty,.str E.who.id,.int .i64 B,.int .i64 w,.map (some bp)]
def stE (E:q1v) (B:Int) (bc bo bp:Nat) (S0:q00) (w:Nat) (es:List (AV×AV×Nat)) (clk:Nat):q00:=supd (supd S0 bc (.cells tySe (seC E B bo bp w) 7)) bp (.map MD es clk)
structure SeOk (E:q1v) (B:Int) (bc bo bp:Nat) (S0:q00):Prop where
 s:OkS E.s
 may:∀ t∈E.s,∀ r∈t.rels,r.refs.length=0→mayE 12 r.ex=true
 n1:bp≠bc
 nc:sget S0 bc=none
 np:sget S0 bp=none
 n2:bo≠bc
 n3:bo≠bp
 of:KMap MD ndA S0 bo (fun n=>ofA (E.of n))
 B:B≤100000
 len:∀ n,(E.of n).length≤100000
section
variable {E:q1v} {B:Int} {bc bo bp:Nat} {S0:q00}
def StE (E:q1v) (B:Int) (bc bo bp:Nat) (S0:q00) (es:List (AV×AV×Nat)) (w:Nat) (S:q00):Prop:=(w:Int)≤B∧∃ clk,S=stE E B bc bo bp S0 w es clk
def AskOk (E:q1v) (B:Int) (bc bo bp:Nat) (S0:q00) (ask:Nd→Nat→Option (Bool×Nat)) (es:List (AV×AV×Nat)):Prop:=∀ n w S,StE E B bc bo bp S0 es w S →
 ACalls PG nrx51 [.ptr bc 0,.agg (obC n.o),.str n.rl] S (q2r spV (Sub S0) (StE E B bc bo bp S0 es) (ask n w))
theorem stE_c (h:SeOk E B bc bo bp S0) {w:Nat} {es:List (AV×AV×Nat)} {clk:Nat}:q0i (stE E B bc bo bp S0 w es clk) bc=some (tySe,seC E B bo bp w,7):=by
 unfold stE
 rw [q2v,if_neg h.n1,objAt_supd,if_pos rfl]
theorem stE_of (h:SeOk E B bc bo bp S0) {w:Nat} {es:List (AV×AV×Nat)} {clk:Nat}:KMap MD ndA (stE E B bc bo bp S0 w es clk) bo (fun n=>ofA (E.of n)):=(h.of.upd (Ne.symm h.n2) _).upd (Ne.symm h.n3) _
theorem c_stands_1 (h:SeOk E B bc bo bp S0) {ask:Nd→Nat→Option (Bool×Nat)} {es:List (AV×AV×Nat)} (hask:AskOk E B bc bo bp S0 ask es) (x:Nd) (w:Nat) (S:q00) (hS:StE E B bc bo bp S0 es w S) :
  ACalls PG nrx148 ([]++[.agg (ndC x)]++[.rop [.ptr bc 0]]) S (q2r spV (Sub S0) (StE E B bc bo bp S0 es) (stepT E.who ask w x)):=by
 obtain ⟨hw,clk,rfl⟩:=hS
 have hc:=q07 (stE_c h (w:=w) (es:=es) (clk:=clk))
 refine wx148 ?_
 unfold Bx148
 (try simp only [rwp,zA,zB,zC,zD,zE,zF,zG,zH,zI,rwb,reduceIte,ndC])
 unfold stepT
 (refine q04 (fun h0=>?_) (fun h0=>?_)<;>(try simp only [hlc] at h0))
 ·rw [if_pos h0]
  (try simp only [rwp,zA,zB,zC,zD,zE,zF,zG,zH,zI,rwb,reduceIte,hc,seC,eqW_def])
  have eo:decide (x.o=E.who)=(decide (x.o.ty=E.who.ty)&&decide (x.o.id=E.who.id)):=by
   rw [Bool.eq_iff_iff]
   cases x.o;cases E.who
   simp
  exact q02 ⟨by rw [eo],hw,clk,rfl⟩
 ·rw [if_neg h0]
  refine q0c (hask x w _ ⟨hw,clk,rfl⟩) ?_
  intro ae S' hq
  unfold q2r at hq ⊢
  cases hs:ask x w with
  | none=>rw [hs] at hq;obtain ⟨rfl,hx⟩:=hq;exact ⟨rfl,hx⟩
  | some p=>
   obtain ⟨b,w2⟩:=p
   rw [hs] at hq
   obtain ⟨rfl,h1⟩:=hq
   exact q02 ⟨rfl,h1⟩
theorem c_expr_1 (h:SeOk E B bc bo bp S0) {ask:Nd→Nat→Option (Bool×Nat)} {es:List (AV×AV×Nat)} (hask:AskOk E B bc bo bp S0 ask es) (k n:AV) (ov:ByteArray) (ks:AV) (x:Nd) (w:Nat) (S:q00) (hS:StE E B bc bo bp S0 es w S) :
  ACalls PG nrx185 ([]++[.agg (ndC x)]++[.rop [.ptr bc 0],.rop [k,n,.str ov,ks]]) S (q2r spV (Sub S0) (StE E B bc bo bp S0 es) (stepA ov ask w x)):=by
 refine wx185 ?_
 unfold Bx185
 (try simp only [rwp,zA,zB,zC,zD,zE,zF,zG,zH,zI,rwb,reduceIte,ndC])
 unfold stepA
 cases h0:decide (x.rl=⟨#[]⟩)
 ·have h1:=of_decide_eq_false h0
  rw [if_neg h1]
  (try simp only [rwp,zA,zB,zC,zD,zE,zF,zG,zH,zI,rwb,reduceIte])
  exact q02 ⟨rfl,hS⟩
 ·have h1:=of_decide_eq_true h0
  rw [if_pos h1]
  (try simp only [rwp,zA,zB,zC,zD,zE,zF,zG,zH,zI,rwb,reduceIte,ndC])
  refine q0c (hask ⟨x.o,ov⟩ w _ hS) ?_
  intro ae S' hq
  unfold q2r at hq ⊢
  cases hs:ask ⟨x.o,ov⟩ w with
  | none=>rw [hs] at hq;obtain ⟨rfl,hx⟩:=hq;exact ⟨rfl,hx⟩
  | some p=>
   obtain ⟨b,w2⟩:=p
   rw [hs] at hq
   obtain ⟨rfl,h1⟩:=hq
   (try simp only [rwp,zA,zB,zC,zD,zE,zF,zG,zH,zI,rwb,reduceIte])
   exact q02 ⟨rfl,h1⟩
theorem c_exprE (h:SeOk E B bc bo bp S0) {ask:Nd→Nat→Option (Bool×Nat)} {es:List (AV×AV×Nat)} (hask:AskOk E B bc bo bp S0 ask es) (o:Ob):∀ (m:Nat) (e:Ex),mayE m e=true→∀ (w:Nat) (S:q00),StE E B bc bo bp S0 es w S →
  ACalls PG nrx146 [.ptr bc 0,.agg (obC o),.agg (exC e)] S (q2r spV (Sub S0) (StE E B bc bo bp S0 es) (exQ E ask o m e w))
 | 0,e,hm,w,S,hS=>by cases hm
 | m+1,.mk k n ov ks,hm,w,S,hS=>by
  have ih:=c_exprE h hask o m
  have hS0:=hS
  obtain ⟨hw,clk,rfl⟩:=hS
  have hc:=q07 (stE_c h (w:=w) (es:=es) (clk:=clk))
  have hof:=stE_of h (w:=w) (es:=es) (clk:=clk)
  unfold mayE at hm
  refine wx146 ?_
  unfold Bx146 exQ
  (try simp only [rwp,zA,zB,zC,zD,zE,zF,zG,zH,zI,rwb,reduceIte,obC,q0f,Ex.kind,Ex.name,Ex.over,Ex.kids])
  (refine q04 (fun k0=>?_) (fun k0=>?_)<;>(try simp only [hlc] at k0))
  ·rw [if_pos k0]
   refine q0c (hask ⟨o,n⟩ w _ hS0) ?_
   intro ae S' hq
   unfold q2r at hq ⊢
   cases hs:ask ⟨o,n⟩ w with
   | none=>rw [hs] at hq;obtain ⟨rfl,hx⟩:=hq;exact ⟨rfl,hx⟩
   | some p=>
    obtain ⟨b,w2⟩:=p
    rw [hs] at hq
    obtain ⟨rfl,h1⟩:=hq
    exact q02 ⟨rfl,h1⟩
  ·rw [if_neg k0] at hm ⊢
   (refine q04 (fun k1=>?_) (fun k1=>?_)<;>(try simp only [hlc] at k1))
   ·rw [if_pos k1]
    (try simp only [rwp,zA,zB,zC,zD,zE,zF,zG,zH,zI,rwb,reduceIte,hc,seC])
    refine KMap.lki hof ke_nd ⟨o,n⟩ ?_
    refine q0c (q48 (step:=stepA ov ask) (Nat.le_trans (h.len _) (by decide)) (fun x _ w S hS=>c_expr_1 h hask _ _ ov _ x w S hS) hS0) ?_
    intro ae S' hq
    unfold q2r at hq ⊢
    cases hs:q4q (stepA ov ask) (E.of ⟨o,n⟩) w with
    | none=>rw [hs] at hq;obtain ⟨rfl,hx⟩:=hq;exact ⟨rfl,hx⟩
    | some p=>
     obtain ⟨b,w2⟩:=p
     rw [hs] at hq
     obtain ⟨rfl,h1⟩:=hq
     exact q02 ⟨rfl,h1⟩
   ·rw [if_neg k1] at hm ⊢
    have hk:k=2∨k=3∨k=4:=by
     refine Classical.byContradiction fun hn=>?_
     rw [if_neg hn] at hm
     cases hm
    rw [if_pos hk] at hm
    obtain ⟨a,b,rfl⟩:∃ a b,ks=[a,b]:=by
     match ks,hm with
     | [a,b],_=>exact ⟨a,b,rfl⟩
     | [],hm=>cases hm
     | [_],hm=>cases hm
     | _ :: _ :: _ :: _,hm=>cases hm
    simp only [two,Bool.and_eq_true] at hm
    obtain ⟨ma,mb⟩:=hm
    have first:=ih a ma w _ hS0
    have second:=fun w2 S2 hS2=>ih b mb w2 S2 hS2
    simp only [obC] at first second
    have fin:∀ (K:AV→q00→Prop),(∀ x w1 S1,exQ E ask o m a w=some (x,w1)→StE E B bc bo bp S0 es w1 S1→K (.bool x) S1)→∀ ae S',q2r spV (Sub S0) (StE E B bc bo bp S0 es) (exQ E ask o m a w) ae S'→(match (generalizing:=false) ae with
      | .ret v=>K v S'
      | .pan v=>pqW (q2r spV (Sub S0) (StE E B bc bo bp S0 es) (comb k (exQ E ask o m a w) (exQ E ask o m b))) v S'):=by
     intro K hK ae S' hq
     unfold q2r at hq
     cases hs:exQ E ask o m a w with
     | none=>rw [hs] at hq;obtain ⟨rfl,hx⟩:=hq;exact ⟨rfl,hx⟩
     | some p=>
      obtain ⟨x,w2⟩:=p
      rw [hs] at hq
      obtain ⟨rfl,h1⟩:=hq
      exact hK x w2 S' hs h1
    have fin2:∀ (x:Bool) (w1:Nat) (K:AV→q00→Prop),exQ E ask o m a w=some (x,w1)→¬ x=decide (k=2)→(∀ y w2 S2,exQ E ask o m b w1=some (y,w2)→StE E B bc bo bp S0 es w2 S2→K (.bool y) S2)→∀ ae S',q2r spV (Sub S0) (StE E B bc bo bp S0 es) (exQ E ask o m b w1) ae S'→(match (generalizing:=false) ae with
      | .ret v=>K v S'
      | .pan v=>pqW (q2r spV (Sub S0) (StE E B bc bo bp S0 es) (comb k (exQ E ask o m a w) (exQ E ask o m b))) v S'):=by
     intro x w1 K hx hne hK ae S' hq
     rw [hx]
     unfold comb
     dsimp only
     rw [if_neg hne]
     unfold q2r at hq
     cases hs:exQ E ask o m b w1 with
     | none=>rw [hs] at hq;obtain ⟨rfl,hx⟩:=hq;exact ⟨rfl,hx⟩
     | some p=>
      obtain ⟨y,w2⟩:=p
      rw [hs] at hq
      obtain ⟨rfl,h1⟩:=hq
      exact hK y w2 S' hs h1
    rcases hk with rfl | rfl | rfl
    ·(try simp only [rwp,zA,zB,zC,zD,zE,zF,zG,zH,zI,rwb,reduceIte,hwR,reduceCtorEq,Int.reduceEq])
     refine q0c first (fin _ fun x w1 S1 hx hS1=>?_)
     cases x
     ·(try simp only [rwp,zA,zB,zC,zD,zE,zF,zG,zH,zI,rwb,reduceIte,hwR,reduceCtorEq,Int.reduceEq])
      refine q0c (second w1 S1 hS1) (fin2 _ _ _ hx (by decide) fun y w2 S2 hy hS2=>?_)
      (try simp only [rwp,zA,zB,zC,zD,zE,zF,zG,zH,zI,rwb,reduceIte,hwR,reduceCtorEq,Int.reduceEq])
      refine q02 ?_
      rw [hx]
      unfold comb
      dsimp only
      rw [if_neg (by decide),hy]
      exact ⟨rfl,hS2⟩
     ·(try simp only [rwp,zA,zB,zC,zD,zE,zF,zG,zH,zI,rwb,reduceIte,hwR,reduceCtorEq,Int.reduceEq])
      refine q02 ?_
      rw [hx]
      exact ⟨rfl,hS1⟩
    ·(try simp only [rwp,zA,zB,zC,zD,zE,zF,zG,zH,zI,rwb,reduceIte,hwR,reduceCtorEq,Int.reduceEq])
     refine q0c first (fin _ fun x w1 S1 hx hS1=>?_)
     cases x
     ·(try simp only [rwp,zA,zB,zC,zD,zE,zF,zG,zH,zI,rwb,reduceIte,hwR,reduceCtorEq,Int.reduceEq])
      refine q02 ?_
      rw [hx]
      exact ⟨rfl,hS1⟩
     ·(try simp only [rwp,zA,zB,zC,zD,zE,zF,zG,zH,zI,rwb,reduceIte,hwR,reduceCtorEq,Int.reduceEq])
      refine q0c (second w1 S1 hS1) (fin2 _ _ _ hx (by decide) fun y w2 S2 hy hS2=>?_)
      (try simp only [rwp,zA,zB,zC,zD,zE,zF,zG,zH,zI,rwb,reduceIte,hwR,reduceCtorEq,Int.reduceEq])
      refine q02 ?_
      rw [hx]
      unfold comb
      dsimp only
      rw [if_neg (by decide),hy]
      exact ⟨rfl,hS2⟩
    ·(try simp only [rwp,zA,zB,zC,zD,zE,zF,zG,zH,zI,rwb,reduceIte,hwR,reduceCtorEq,Int.reduceEq])
     refine q0c first (fin _ fun x w1 S1 hx hS1=>?_)
     cases x
     ·(try simp only [rwp,zA,zB,zC,zD,zE,zF,zG,zH,zI,rwb,reduceIte,hwR,reduceCtorEq,Int.reduceEq])
      refine q02 ?_
      rw [hx]
      exact ⟨rfl,hS1⟩
     ·(try simp only [rwp,zA,zB,zC,zD,zE,zF,zG,zH,zI,rwb,reduceIte,hwR,reduceCtorEq,Int.reduceEq])
      refine q0c (second w1 S1 hS1) (fin2 _ _ _ hx (by decide) fun y w2 S2 hy hS2=>?_)
      (try simp only [rwp,zA,zB,zC,zD,zE,zF,zG,zH,zI,rwb,reduceIte,hwR,reduceCtorEq,Int.reduceEq])
      refine q02 ?_
      rw [hx]
      unfold comb
      dsimp only
      rw [if_neg (by decide),hy]
      exact ⟨rfl,hS2⟩
theorem c_stands (h:SeOk E B bc bo bp S0) {ask:Nd→Nat→Option (Bool×Nat)} {es:List (AV×AV×Nat)} (hask:AskOk E B bc bo bp S0 ask es) (n:Nd) (r:Rl) (hr:r.refs.length=0→mayE 12 r.ex=true) (w:Nat) (S:q00) (hS:StE E B bc bo bp S0 es w S) :
  ACalls PG nrx101 [.ptr bc 0,.agg (ndC n),.agg (rlC r)] S (q2r spV (Sub S0) (StE E B bc bo bp S0 es) (bodyQ E ask n r w)):=by
 have hS0:=hS
 obtain ⟨hw,clk,rfl⟩:=hS
 have hc:=q07 (stE_c h (w:=w) (es:=es) (clk:=clk))
 have hof:=stE_of h (w:=w) (es:=es) (clk:=clk)
 refine wx101 ?_
 unfold Bx101 bodyQ
 (try simp only [rwp,zA,zB,zC,zD,zE,zF,zG,zH,zI,rwb,reduceIte,ndC,q0g])
 (refine q04 (fun h0=>?_) (fun h0=>?_)<;>(try simp only [hlc] at h0))
 ·have h1:r.refs.length=0:=by omega
  rw [if_pos h1]
  have q:=c_exprE h hask n.o 12 r.ex (hr h1) w _ hS0
  simp only [obC,q0f] at q
  refine q0c q ?_
  intro ae S' hq
  unfold q2r at hq ⊢
  cases hs:exQ E ask n.o 12 r.ex w with
  | none=>rw [hs] at hq;obtain ⟨rfl,hx⟩:=hq;exact ⟨rfl,hx⟩
  | some p=>
   obtain ⟨b,w2⟩:=p
   rw [hs] at hq
   obtain ⟨rfl,h1⟩:=hq
   exact q02 ⟨rfl,h1⟩
 ·have h1:¬ r.refs.length=0:=by omega
  rw [if_neg h1]
  (try simp only [rwp,zA,zB,zC,zD,zE,zF,zG,zH,zI,rwb,reduceIte,hc,seC])
  refine KMap.lki hof ke_nd n ?_
  refine q0c (q48 (step:=stepT E.who ask) (Nat.le_trans (h.len _) (by decide)) (fun x _ w S hS=>c_stands_1 h hask x w S hS) hS0) ?_
  intro ae S' hq
  unfold q2r at hq ⊢
  cases hs:q4q (stepT E.who ask) (E.of n) w with
  | none=>rw [hs] at hq;obtain ⟨rfl,hx⟩:=hq;exact ⟨rfl,hx⟩
  | some p=>
   obtain ⟨b,w2⟩:=p
   rw [hs] at hq
   obtain ⟨rfl,h1⟩:=hq
   exact q02 ⟨rfl,h1⟩
theorem stE_w (h:SeOk E B bc bo bp S0) {w w':Nat} {es:List (AV×AV×Nat)} {clk:Nat}:supd (stE E B bc bo bp S0 w es clk) bc (.cells tySe (seC E B bo bp w') 7)=stE E B bc bo bp S0 w' es clk:=by
 unfold stE
 funext k
 simp only [supd]
 have:=h.n1
 split<;>split<;>(try split)<;>first | rfl | (exfalso;omega)
theorem stE_sub (h:SeOk E B bc bo bp S0) {w:Nat} {es:List (AV×AV×Nat)} {clk:Nat}:Sub S0 (stE E B bc bo bp S0 w es clk):=Sub.supd h.np (Sub.fresh _ h.nc)
theorem stE_m {w:Nat} {es es':List (AV×AV×Nat)} {clk clk':Nat}:supd (stE E B bc bo bp S0 w es clk) bp (.map MD es' clk')=stE E B bc bo bp S0 w es' clk':=by
 unfold stE
 funext k
 simp only [supd]
 split<;>rfl
theorem stE_map {w:Nat} {es:List (AV×AV×Nat)} {clk:Nat}:q1z (stE E B bc bo bp S0 w es clk) bp=some (MD,es,clk):=mapObj_some.2 (by unfold stE;rw [q01,if_pos rfl])
end
theorem q44 {es:List (AV×AV×Nat)} {k:AV} (h:mget es k=none):q0q es k=none:=by
 unfold mget at h
 exact Option.map_eq_none_iff.1 h
theorem q7j {k v:AV} {c:Nat} (hk:q1d k k=true):∀ {es:List (AV×AV×Nat)},q0q es k=none→q0q (es++[(k,v,c)]) k=some (es.length,v,c)
 | [],_=>by simp [q0q,hk]
 | x :: r,h=>by
  simp only [q0q] at h
  split at h
  ·cases h
  ·rename_i hx
   have h2:q0q r k=none:=by simpa using h
   simp only [List.cons_append,q0q,if_neg hx,q7j hk h2]
   rfl
theorem mget_snoc {k v k':AV} {c:Nat}:∀ {es:List (AV×AV×Nat)},mget (es++[(k,v,c)]) k'=match mget es k' with
  | some u=>some u
  | none=>if q1d k' k then some v else none
 | []=>by simp [mget,q0q]
 | x :: r=>by
  rw [List.cons_append,q1r,q1r]
  split
  ·rfl
  ·exact mget_snoc
theorem ndA_eq (n m:Nd):q1d (ndA n) (ndA m)=decide (n=m):=by
 have hk:=ke_nd
 by_cases h:n=m
 ·subst h
  rw [decide_eq_true rfl]
  exact q39 (hk.ok n)
 ·rw [decide_eq_false h]
  cases hq:q1d (ndA n) (ndA m) with
  | false=>rfl
  | true=>exact absurd (hk.inj _ _ ((q3h (hk.ok n) (hk.ok m)).1 hq)) h
theorem PathE.push {es:List (AV×AV×Nat)} {P:List Nd} (h:PathE es P) {n:Nd} (hn:n ∉ P) (clk:Nat):PathE (es++[(ndA n,.bool true,clk)]) (n :: P) where
 key:=fun x hx=>by
  rcases List.mem_append.1 hx with h1 | h1
  ·exact h.key x h1
  ·rw [List.mem_singleton.1 h1];exact ⟨n,rfl⟩
 len:=by rw [List.length_append,h.len];rfl
 get:=fun m=>by
  rw [mget_snoc,h.get]
  by_cases h1:m∈P
  ·rw [if_pos h1,if_pos (List.mem_cons_of_mem _ h1)]
  ·rw [if_neg h1]
   dsimp only
   rw [ndA_eq]
   by_cases h2:m=n
   ·subst h2;simp
   ·rw [decide_eq_false h2,if_neg (by simp),if_neg (by simp [h1,h2])]
theorem PathE.map {E:q1v} {B:Int} {bc bo bp:Nat} {S0:q00} {es:List (AV×AV×Nat)} {P:List Nd} (h:PathE es P) {w clk:Nat}:KMap MD ndA (stE E B bc bo bp S0 w es clk) bp (fun n=>if n∈P then some (.bool true) else none):=
 ⟨es,clk,stE_map,fun x hx=>by obtain ⟨n,e⟩:=h.key x hx;rw [e];exact ke_nd.ok n,h.get⟩
theorem q50 {S:q00} {t:Nat} {v:AV} {Qp:AV→q00→Prop} (h:Qp (.iface t v) S):paW S (.iface t v) Qp:=⟨t,v,rfl,h⟩
section
variable {E:q1v} {B:Int} {bc bo bp:Nat} {S0:q00}
theorem c_ask (h:SeOk E B bc bo bp S0):∀ (fu:Nat) (P:List Nd) (es:List (AV×AV×Nat)),PathE es P→P.length+fu=50→AskOk E B bc bo bp S0 (askQ E B fu P) es:=by
 intro fu
 induction fu with
 | zero=>
  intro P es hP hl n w S hS
  obtain ⟨hw,clk,rfl⟩:=hS
  have hc:=q07 (stE_c h (w:=w) (es:=es) (clk:=clk))
  have ho:=stE_c h (w:=w) (es:=es) (clk:=clk)
  have hm:=fun w=>stE_map (E:=E) (B:=B) (bc:=bc) (bo:=bo) (bp:=bp) (S0:=S0) (w:=w) (es:=es) (clk:=clk)
  have hB:=h.B
  have hen:=hP.len
  refine wx51 ?_
  unfold Bx51 askQ
  (try simp only [rwp,zA,zB,zC,zD,zE,zF,zG,zH,zI,rwb,reduceIte,obC,hc,seC])
  have q:=q1g h.s n.o.ty n.rl (stE E B bc bo bp S0 w es clk)
  simp only [scA] at q
  refine q0c q ?_
  rintro ae S' ⟨rfl,rfl⟩
  cases hq:q0o E.s n.o.ty n.rl with
  | none=>
   dsimp only
   (try simp only [rwp,zA,zB,zC,zD,zE,zF,zG,zH,zI,rwb,reduceIte,zeroR])
   refine alst rfl ?_
   (try simp only [rwp,zA,zB,zC,zD,zE,zF,zG,zH,zI,rwb,reduceIte])
   exact q02 ⟨rfl,hw,clk,rfl⟩
  | some p=>
   obtain ⟨i,k,r⟩:=p
   dsimp only
   (try simp only [rwp,zA,zB,zC,zD,zE,zF,zG,zH,zI,rwb,reduceIte,q0g])
   refine alst rfl ?_
   (try simp only [rwp,zA,zB,zC,zD,zE,zF,zG,zH,zI,rwb,reduceIte,hc,seC,ho])
   (simp (disch:=omega) only [q03])
   have e1:supd (stE E B bc bo bp S0 w es clk) bc (.cells tySe [.sl 2 (E.s.map tyC),.map (some bo),.str E.who.ty,.str E.who.id,.int .i64 B,.int .i64 ((w:Int)+1),.map (some bp)] 7)=stE E B bc bo bp S0 (w+1) es clk:=stE_w h
   rw [e1]
   cases a1:decide (B<(w:Int)+1)
   ·(try simp only [rwp,zA,zB,zC,zD,zE,zF,zG,zH,zI,rwb,reduceIte,lnW_map,hm,q6m])
    rw [decide_eq_true (show ((es.length:Int)=50) by omega)]
    (try simp only [rwp,zA,zB,zC,zD,zE,zF,zG,zH,zI,rwb,reduceIte])
    exact q50 ⟨rfl,stE_sub h⟩
   ·(try simp only [rwp,zA,zB,zC,zD,zE,zF,zG,zH,zI,rwb,reduceIte])
    exact q50 ⟨rfl,stE_sub h⟩
 | succ fu ih=>
  intro P es hP hl n w S hS
  obtain ⟨hw,clk,rfl⟩:=hS
  have hc:=q07 (stE_c h (w:=w) (es:=es) (clk:=clk))
  have ho:=stE_c h (w:=w) (es:=es) (clk:=clk)
  have hm:=fun w=>stE_map (E:=E) (B:=B) (bc:=bc) (bo:=bo) (bp:=bp) (S0:=S0) (w:=w) (es:=es) (clk:=clk)
  have hB:=h.B
  have hen:=hP.len
  refine wx51 ?_
  unfold Bx51 askQ
  (try simp only [rwp,zA,zB,zC,zD,zE,zF,zG,zH,zI,rwb,reduceIte,obC,hc,seC])
  have q:=q1g h.s n.o.ty n.rl (stE E B bc bo bp S0 w es clk)
  simp only [scA] at q
  refine q0c q ?_
  rintro ae S' ⟨rfl,rfl⟩
  cases hq:q0o E.s n.o.ty n.rl with
  | none=>
   dsimp only
   (try simp only [rwp,zA,zB,zC,zD,zE,zF,zG,zH,zI,rwb,reduceIte,zeroR])
   refine alst rfl ?_
   (try simp only [rwp,zA,zB,zC,zD,zE,zF,zG,zH,zI,rwb,reduceIte])
   exact q02 ⟨rfl,hw,clk,rfl⟩
  | some p=>
   obtain ⟨i,k,r⟩:=p
   obtain ⟨-,ty,hty,-,hk⟩:=q23 hq
   have hr:r.refs.length=0→mayE 12 r.ex=true:=h.may ty (List.mem_of_getElem? hty) r (List.mem_of_getElem? hk)
   dsimp only
   (try simp only [rwp,zA,zB,zC,zD,zE,zF,zG,zH,zI,rwb,reduceIte,q0g])
   refine alst rfl ?_
   (try simp only [rwp,zA,zB,zC,zD,zE,zF,zG,zH,zI,rwb,reduceIte,hc,seC,ho])
   (simp (disch:=omega) only [q03])
   have e1:supd (stE E B bc bo bp S0 w es clk) bc (.cells tySe [.sl 2 (E.s.map tyC),.map (some bo),.str E.who.ty,.str E.who.id,.int .i64 B,.int .i64 ((w:Int)+1),.map (some bp)] 7)=stE E B bc bo bp S0 (w+1) es clk:=stE_w h
   rw [e1]
   cases a1:decide (B<(w:Int)+1)
   ·have b1:=of_decide_eq_false a1
    rw [if_neg b1]
    (try simp only [rwp,zA,zB,zC,zD,zE,zF,zG,zH,zI,rwb,reduceIte,lnW_map,hm,q6m])
    rw [decide_eq_false (show ¬ ((es.length:Int)=50) by omega)]
    (try simp only [rwp,zA,zB,zC,zD,zE,zF,zG,zH,zI,rwb,reduceIte,C51_1])
    have hc1:=q07 (stE_c h (w:=w+1) (es:=es) (clk:=clk))
    (try simp only [rwp,zA,zB,zC,zD,zE,zF,zG,zH,zI,rwb,reduceIte,hc1,seC])
    refine KMap.lki hP.map ke_nd n ?_
    by_cases hn:n∈P
    ·simp only [if_pos hn]
     (try simp only [rwp,zA,zB,zC,zD,zE,zF,zG,zH,zI,rwb,reduceIte])
     exact q02 ⟨rfl,by omega,clk,rfl⟩
    ·simp only [if_neg hn]
     (try simp only [rwp,zA,zB,zC,zD,zE,zF,zG,zH,zI,rwb,reduceIte,hc1,seC,muW_map,hm])
     have hg0:mget es (ndA n)=none:=by rw [hP.get,if_neg hn]
     have hset:mset es (ndA n) (.bool true) clk=(es++[(ndA n,.bool true,clk)],clk+1):=by
      unfold mset
      rw [q44 hg0]
     have e2:mset es (.agg [.str n.o.ty,.str n.o.id,.str n.rl]) (.bool true) clk=(es++[(ndA n,.bool true,clk)],clk+1):=hset
     rw [e2,stE_m]
     have hP2:=hP.push hn clk
     have q2:=c_stands h (ih (n :: P) _ hP2 (by simp only [List.length_cons];omega)) n r hr (w+1) _ ⟨by omega,clk+1,rfl⟩
     simp only [ndC,q0g] at q2
     refine q0c q2 ?_
     intro ae S2 hq2
     unfold q2r at hq2
     cases hs:bodyQ E (askQ E B fu (n :: P)) n r (w+1) with
     | none=>rw [hs] at hq2;obtain ⟨rfl,hx⟩:=hq2;exact ⟨rfl,hx⟩
     | some p2=>
      obtain ⟨b,w2⟩:=p2
      rw [hs] at hq2
      obtain ⟨rfl,hw2,clk2,rfl⟩:=hq2
      have hc2:=q07 (stE_c h (w:=w2) (es:=es++[(ndA n,.bool true,clk)]) (clk:=clk2))
      dsimp only
      (try simp only [rwp,zA,zB,zC,zD,zE,zF,zG,zH,zI,rwb,reduceIte,hc2,seC])
      have hf:=q7j (k:=ndA n) (v:=.bool true) (c:=clk) (q39 (ke_nd.ok n)) (q44 hg0)
      refine ⟨bp,es++[(ndA n,.bool true,clk)],clk2,rfl,mapObj_some.1 stE_map,ke_nd.ok n,?_⟩
      have hf':q0q (es++[(ndA n,.bool true,clk)]) (.agg [.str n.o.ty,.str n.o.id,.str n.rl])=some (es.length,.bool true,clk):=hf
      rw [hf']
      dsimp only
      rw [List.eraseIdx_append_of_length_le (Nat.le_refl _),Nat.sub_self]
      simp only [List.eraseIdx_cons_zero,List.append_nil]
      rw [stE_m]
      exact q02 ⟨rfl,hw2,clk2,rfl⟩
   ·have b1:=of_decide_eq_true a1
    rw [if_pos b1]
    (try simp only [rwp,zA,zB,zC,zD,zE,zF,zG,zH,zI,rwb,reduceIte])
    exact q50 ⟨rfl,stE_sub h⟩
end
structure OfM (S0 S:q00) (t bo:Nat) (Ks:Nat→Prop) (f:Nd→List (List AV)) (es:List (AV×AV×Nat)) (clk:Nat):Prop where
 map:sget S bo=some (.map MD es clk)
 b0:sget S0 bo=none
 key:∀ x∈es,∃ n,x.1=ndA n
 nd:(es.map fun x=>x.2.2).Nodup
 ku:∀ (i j:Nat) (x y:AV×AV×Nat),es[i]?=some x→es[j]?=some y→x.1=y.1→i=j
 lt:∀ x∈es,x.2.2<clk
 no:∀ n,mget es (ndA n)=none→f n=[]
 yes:∀ n v,mget es (ndA n)=some v→f n≠[]∧LstN S0 S t 3 v (f n)∧q1b v bo∧∀ c,Ks c→q1b v c
 apart:∀ n m v u,n≠m→mget es (ndA n)=some v→mget es (ndA m)=some u→∀ b off k cap,u=.own b off k cap→q1b v b
 ks:∀ c,Ks c→c≠bo∧sget S c≠none
theorem findIdx_bn {bn:Nat}:∀ {es:List (AV×AV×Nat)} {i:Nat} {x:AV×AV×Nat},(es.map fun x=>x.2.2).Nodup→es[i]?=some x→x.2.2=bn→es.findIdx? (fun x=>x.2.2==bn)=some i:=by
 intro es i x hnd hx hb
 have hi:=(List.getElem?_eq_some_iff.1 hx).1
 rw [List.findIdx?_eq_some_iff_getElem]
 refine ⟨hi,?_,fun j hj=>?_⟩
 ·have:=(List.getElem?_eq_some_iff.1 hx).2
  simp [this,hb]
 ·intro hq
  have hj2:j<es.length:=by omega
  have h1:es[j].2.2=bn:=by simpa using hq
  have h2:es[i].2.2=bn:=by rw [(List.getElem?_eq_some_iff.1 hx).2];exact hb
  have:=(List.getElem_inj (xs:=es.map fun (x:AV×AV×Nat)=>x.2.2) (i:=j) (j:=i) (h₀:=by simpa using hj2) (h₁:=by simpa using hi) hnd).1 (by simp [h1,h2])
  omega
theorem mget_no {es:List (AV×AV×Nat)} {n:Nd} (hk:∀ x∈es,∃ n,x.1=ndA n) (h:mget es (ndA n)=none):∀ x∈es,x.1≠ndA n:=by
 induction es with
 | nil=>intro x hx;cases hx
 | cons y r ih=>
  rw [q1r] at h
  obtain ⟨m,hm⟩:=hk y (by simp)
  intro x hx
  split at h
  ·cases h
  ·rename_i hq
   rcases List.mem_cons.1 hx with rfl | hx
   ·intro e
    rw [e,ndA_eq] at hq
    simp at hq
   ·exact ih (fun z hz=>hk z (List.mem_cons_of_mem _ hz)) h x hx
theorem mfind_key {es:List (AV×AV×Nat)} {n:Nd} {i:Nat} {v:AV} {bn:Nat} (hk:∀ x∈es,∃ n,x.1=ndA n) (h:q0q es (ndA n)=some (i,v,bn)):es[i]?=some (ndA n,v,bn):=by
 obtain ⟨kk,h1,h2⟩:=q45 h
 obtain ⟨m,hm⟩:=hk _ (List.mem_of_getElem? h1)
 dsimp only at hm
 subst hm
 rw [ndA_eq] at h2
 rw [h1,of_decide_eq_true h2]
theorem mget_mset {es:List (AV×AV×Nat)} {n m:Nd} {v:AV} {clk:Nat} (hk:∀ x∈es,∃ n,x.1=ndA n):mget (mset es (ndA n) v clk).1 (ndA m)=if m=n then some v else mget es (ndA m):=by
 have hko:keysOk MD es:=fun x hx=>by obtain ⟨n,e⟩:=hk x hx;rw [e];exact ke_nd.ok n
 rw [q3g,q6n (ke_nd.ok n) _ _ hko (ke_nd.ok m)]
 by_cases h:m=n
 ·subst h;simp
 ·rw [if_neg fun e=>h (ke_nd.inj _ _ e),if_neg h]
section
variable {S0 S:q00} {t bo:Nat} {Ks:Nat→Prop} {f:Nd→List (List AV)} {es:List (AV×AV×Nat)} {clk:Nat}
theorem OfM.put (h:OfM S0 S t bo Ks f es clk) {n:Nd} {v v':AV} {row:List AV} {S2:q00} {es':List (AV×AV×Nat)} {clk':Nat} (hv:mget es (ndA n)=some v∨(mget es (ndA n)=none∧v=.nils))
  (h2:LstN S0 S2 t 3 v' (f n++[row])) (hF:∀ c o,c≠bo→sget S c=some o→q1b v c→sget S2 c=some o∧q1b v' c) (hvb:q1b v' bo)
  (he:es'=(mset es (ndA n) v' clk).1) (hkey:∀ x∈es',∃ n,x.1=ndA n) (hnd:(es'.map fun x=>x.2.2).Nodup) (hku:∀ (i j:Nat) (x y:AV×AV×Nat),es'[i]?=some x→es'[j]?=some y→x.1=y.1→i=j) (hlt:∀ x∈es',x.2.2<clk') :
  OfM S0 (supd S2 bo (.map MD es' clk')) t bo Ks (fun m=>if m=n then f n++[row] else f m) es' clk':=by
 have hg:∀ m,mget es' (ndA m)=if m=n then some v' else mget es (ndA m):=fun m=>by rw [he,mget_mset h.key]
 have hva:∀ c,Ks c→q1b v c:=fun c hc=>by
  rcases hv with hv | ⟨-,rfl⟩
  ·exact (h.yes n v hv).2.2.2 c hc
  ·intro b off k cap e;cases e
 refine ⟨by rw [q01,if_pos rfl],h.b0,hkey,hnd,hku,hlt,fun m hm=>?_,fun m u hm=>?_,fun m p u x hmp hm hp=>?_,fun c hc=>⟨(h.ks c hc).1,?_⟩⟩
 ·rw [hg] at hm
  by_cases hmn:m=n
  ·rw [if_pos hmn] at hm;cases hm
  ·rw [if_neg hmn] at hm ⊢
   exact h.no m hm
 ·rw [hg] at hm
  by_cases hmn:m=n
  ·rw [if_pos hmn] at hm ⊢
   cases hm
   refine ⟨by simp,h2.upd hvb _,hvb,fun c hc=>?_⟩
   cases ho:sget S c with
   | none=>exact absurd ho (h.ks c hc).2
   | some o=>exact (hF c o (h.ks c hc).1 ho (hva c hc)).2
  ·rw [if_neg hmn] at hm ⊢
   obtain ⟨k1,k2,k3,k4⟩:=h.yes m u hm
   refine ⟨k1,LstN.upd ?_ k3 _,k3,k4⟩
   obtain ⟨hr,hl⟩:=k2
   refine ⟨hr,?_⟩
   rcases hl with hl | ⟨b,cap,rfl,q1,q2,q3⟩
   ·exact .inl hl
   ·refine .inr ⟨b,cap,rfl,q1,?_,q3⟩
    have hav:q1b v b:=by
     rcases hv with hv | ⟨-,rfl⟩
     ·exact h.apart n m v _ (Ne.symm hmn) hv hm b _ _ _ rfl
     ·intro b off k cap e;cases e
    exact (hF b _ (Ne.symm (k3 b _ _ _ rfl)) q2 hav).1
 ·rw [hg] at hm hp
  intro b off k cap hx
  have other:∀ (m:Nd) (u:AV),m≠n→mget es (ndA m)=some u→∀ b off k cap,u=.own b off k cap→q1b v' b:=by
   intro m u hmn hm b off k cap e
   subst e
   obtain ⟨k1,k2,k3,k4⟩:=h.yes m _ hm
   have hav:q1b v b:=by
    rcases hv with hv | ⟨-,rfl⟩
    ·exact h.apart n m v _ (Ne.symm hmn) hv hm b _ _ _ rfl
    ·intro b off k cap e;cases e
   obtain ⟨hr,hl⟩:=k2
   rcases hl with ⟨e,-⟩ | ⟨b1,cap1,e,q1,q2,q3⟩
   ·cases e
   ·cases e
    exact (hF b _ (Ne.symm (k3 b _ _ _ rfl)) q2 hav).2
  by_cases hmn:m=n
  ·rw [if_pos hmn] at hm
   cases hm
   have hpn:p≠n:=fun e=>hmp (hmn.trans e.symm)
   rw [if_neg hpn] at hp
   exact other p x hpn hp b off k cap hx
  ·rw [if_neg hmn] at hm
   by_cases hpn:p=n
   ·rw [if_pos hpn] at hp
    cases hp
    subst hx
    intro b1 off1 k1 cap1 e
    exact Ne.symm (other m u hmn hm b1 off1 k1 cap1 e b off k cap rfl)
   ·rw [if_neg hpn] at hp
    exact h.apart m p u x hmp hm hp b off k cap hx
 ·rw [q01,if_neg (Ne.symm (h.ks c hc).1)]
  cases ho:sget S c with
  | none=>exact absurd ho (h.ks c hc).2
  | some o=>rw [(hF c o (h.ks c hc).1 ho (hva c hc)).1];simp
theorem OfM.push (h:OfM S0 S t bo Ks f es clk) (hs:Sub S0 S) (n:Nd) {row:List AV} {bytes:Nat} {K:q00→Prop} (hr:row.length=3) (ho:ones row=true) (hb:((f n).length+1) * bytes≤140737488355328)
  (hK:∀ S' es' clk',Sub S0 S'→OfM S0 S' t bo Ks (fun m=>if m=n then f n++[row] else f m) es' clk'→(∀ c,Ks c→sget S' c=sget S c)→K S') :
  meW S MD .nils (.map (some bo)) (ndA n) fun v S=>exW 0 v fun v70=>exW 1 v fun v76=>apW S t 3 bytes v70 (.sl 3 [row]) fun v75 S=>mtW S (.map (some bo)) v76 v75 K:=by
 have keep:∀ {v v':AV} {S1 S2:q00},(∀ c,Ks c→q1b v c)→(∀ c o,c≠bo→sget S c=some o→q1b v c→sget S2 c=some o∧q1b v' c)→∀ es' clk',∀ c,Ks c→sget (supd S2 bo (.map MD es' clk')) c=sget S c:=by
  intro v v' S1 S2 hv hF es' clk' c hc
  rw [q01,if_neg (Ne.symm (h.ks c hc).1)]
  cases ho:sget S c with
  | none=>exact absurd ho (h.ks c hc).2
  | some o=>exact (hF c o (h.ks c hc).1 ho (hv c hc)).1
 cases hq:mget es (ndA n) with
 | none=>
  have hm:=q44 hq
  have hf:=h.no n hq
  refine ⟨bo,es,clk,rfl,h.map,ke_nd.ok n,?_⟩
  rw [hm]
  dsimp only
  rw [q6v,exW_succ,q6v]
  have hsub1:Sub S0 (supd S bo (.map MD (es++[(ndA n,.nils,clk)]) (clk+1))):=Sub.supd h.b0 hs
  refine LstN.app hsub1 (LstN.nil (S0:=S0)) (fun r hr'=>by rw [List.mem_singleton.1 hr'];exact hr) (q2u fun r hr'=>by rw [List.mem_singleton.1 hr'];exact ho) (by rw [hf] at hb;simpa using hb) fun v' S2 h1 h2 h3=>?_
  rw [List.nil_append] at h2
  have hbo2:=h3 bo _ (by rw [q01,if_pos rfl]) (fun b off k cap e=>by cases e)
  have hF:∀ c o,c≠bo→sget S c=some o→q1b .nils c→sget S2 c=some o∧q1b v' c:=fun c o hc hso ha=>h3 c o (by rw [q01,if_neg (Ne.symm hc)];exact hso) ha
  have hnd:((es++[(ndA n,AV.nils,clk)]).map fun x=>x.2.2).Nodup:=by
   rw [List.map_append,List.nodup_append]
   refine ⟨h.nd,by simp,fun a ha b hb=>?_⟩
   obtain ⟨x,hx,rfl⟩:=List.mem_map.1 ha
   have:=h.lt x hx
   simp at hb
   omega
  have hset:(mset es (ndA n) v' clk)=(es++[(ndA n,v',clk)],clk+1):=by unfold mset;rw [hm]
  have hku:∀ (i j:Nat) (x y:AV×AV×Nat),(es++[(ndA n,v',clk)])[i]?=some x→(es++[(ndA n,v',clk)])[j]?=some y→x.1=y.1→i=j:=by
   intro i j x y hx hy hxy
   have hno:=mget_no h.key hq
   rw [List.getElem?_append] at hx hy
   split at hx<;>split at hy
   ·exact h.ku i j x y hx hy hxy
   ·rw [List.getElem?_singleton] at hy
    split at hy
    ·cases hy
     exact absurd hxy (hno x (List.mem_of_getElem? hx))
    ·cases hy
   ·rw [List.getElem?_singleton] at hx
    split at hx
    ·cases hx
     exact absurd hxy.symm (hno y (List.mem_of_getElem? hy))
    ·cases hx
   ·rw [List.getElem?_singleton] at hx hy
    split at hx
    ·split at hy
     ·omega
     ·cases hy
    ·cases hx
  refine ⟨bo,MD,es++[(ndA n,.nils,clk)],clk+1,es.length,ndA n,.nils,clk,rfl,hbo2.1,rfl,findIdx_bn hnd (x:=(ndA n,.nils,clk)) (by simp) rfl,by simp,?_⟩
  have e:(es++[(ndA n,AV.nils,clk)]).set es.length (ndA n,v',clk)=es++[(ndA n,v',clk)]:=by simp
  rw [e]
  refine hK _ _ _ (Sub.supd h.b0 h1) (h.put (n:=n) (v:=.nils) (.inr ⟨hq,rfl⟩) (by rw [hf];exact h2) hF hbo2.2 (by rw [hset]) (fun x hx=>?_) (by simpa using hnd) hku fun x hx=>?_) (keep (S1:=S) (fun c _ b off k cap e=>by cases e) hF _ _)
  ·rcases List.mem_append.1 hx with hx | hx
   ·exact h.key x hx
   ·rw [List.mem_singleton.1 hx];exact ⟨n,rfl⟩
  ·rcases List.mem_append.1 hx with hx | hx
   ·have:=h.lt x hx;omega
   ·rw [List.mem_singleton.1 hx];exact Nat.lt_succ_self _
 | some v=>
  obtain ⟨hne,hl,hvb,hvk⟩:=h.yes n v hq
  have hm:∃ i bn,q0q es (ndA n)=some (i,v,bn):=by
   unfold mget at hq
   cases hmf:q0q es (ndA n) with
   | none=>rw [hmf] at hq;cases hq
   | some p=>
    obtain ⟨i,u,bn⟩:=p
    rw [hmf] at hq
    simp at hq
    subst hq
    exact ⟨i,bn,rfl⟩
  obtain ⟨i,bn,hm⟩:=hm
  have hi:=mfind_key h.key hm
  refine ⟨bo,es,clk,rfl,h.map,ke_nd.ok n,?_⟩
  rw [hm]
  dsimp only
  have e0:es.set i (ndA n,v,bn)=es:=by
   apply List.ext_getElem?
   intro j
   rw [List.getElem?_set]
   split
   ·rename_i hij
    subst hij
    rw [if_pos (List.getElem?_eq_some_iff.1 hi).1,hi]
   ·rfl
  rw [e0,q6v,exW_succ,q6v]
  have e1:supd S bo (.map MD es clk)=S:=by
   funext c
   unfold supd
   split
   ·rename_i hc;subst hc;exact h.map.symm
   ·rfl
  rw [e1]
  refine LstN.app hs hl (fun r hr'=>by rw [List.mem_singleton.1 hr'];exact hr) (q2u fun r hr'=>by rw [List.mem_singleton.1 hr'];exact ho) (by simpa using hb) fun v' S2 h1 h2 h3=>?_
  have hbo2:=h3 bo _ h.map hvb
  have hF:∀ c o,c≠bo→sget S c=some o→q1b v c→sget S2 c=some o∧q1b v' c:=fun c o _ hso ha=>h3 c o hso ha
  have hset:(mset es (ndA n) v' clk)=(es.set i (ndA n,v',bn),clk):=by unfold mset;rw [hm]
  refine ⟨bo,MD,es,clk,i,ndA n,v,bn,rfl,hbo2.1,rfl,findIdx_bn h.nd hi rfl,hi,?_⟩
  have hlt:=(List.getElem?_eq_some_iff.1 hi).1
  have hmap:(es.set i (ndA n,v',bn)).map (fun x=>x.2.2)=es.map fun x=>x.2.2:=by
   rw [List.map_set]
   apply List.ext_getElem?
   intro j
   rw [List.getElem?_set]
   split
   ·rename_i hij
    subst hij
    rw [if_pos (by simpa using hlt),List.getElem?_map,hi];rfl
   ·rfl
  refine hK _ _ _ (Sub.supd h.b0 h1) (h.put (n:=n) (v:=v) (.inl hq) h2 hF hbo2.2 (by rw [hset]) (fun x hx=>?_) (by rw [hmap];exact h.nd) (fun i2 j2 x y hx hy hxy=>?_) fun x hx=>?_) (keep (S1:=S) hvk hF _ _)
  ·rcases List.mem_or_eq_of_mem_set hx with hx | rfl
   ·exact h.key x hx
   ·exact ⟨n,rfl⟩
  ·have hget:∀ (k:Nat) (z:AV×AV×Nat),(es.set i (ndA n,v',bn))[k]?=some z→∃ z',es[k]?=some z'∧z'.1=z.1:=by
    intro k z hz
    rw [List.getElem?_set] at hz
    split at hz
    ·rename_i hik
     subst hik
     cases hz
     exact ⟨_,hi,rfl⟩
    ·exact ⟨z,hz,rfl⟩
   obtain ⟨x',hx',ex⟩:=hget i2 x hx
   obtain ⟨y',hy',ey⟩:=hget j2 y hy
   exact h.ku i2 j2 x' y' hx' hy' (by rw [ex,ey,hxy])
  ·rcases List.mem_or_eq_of_mem_set hx with hx | rfl
   ·exact h.lt x hx
   ·exact h.lt (ndA n,v,bn) (List.mem_of_getElem? hi)
end
def ndD:AV→Nd
 | .agg [.str a,.str b,.str c]=>⟨⟨a,b⟩,c⟩
 | _=>⟨⟨⟨#[]⟩,⟨#[]⟩⟩,⟨#[]⟩⟩
theorem ndD_A (n:Nd):ndD (ndA n)=n:=rfl
def frzM (f:Nd→List (List AV)) (es:List (AV×AV×Nat)):List (AV×AV×Nat):=es.map fun x=>(x.1,.sl 3 (f (ndD x.1)),x.2.2)
theorem mget_frz {f:Nd→List (List AV)} {n:Nd}:∀ {es:List (AV×AV×Nat)},(∀ x∈es,∃ n,x.1=ndA n)→mget (frzM f es) (ndA n)=(mget es (ndA n)).map fun _=>.sl 3 (f n)
 | [],_=>rfl
 | x :: r,h=>by
  obtain ⟨m,hm⟩:=h x (by simp)
  have ih:=mget_frz (f:=f) (n:=n) (es:=r) fun y hy=>h y (List.mem_cons_of_mem _ hy)
  unfold frzM at ih ⊢
  rw [List.map_cons,q1r,q1r,hm,ndA_eq]
  dsimp only
  by_cases e:n=m
  ·subst e
   simp [ndD_A]
  ·rw [decide_eq_false e,if_neg (by simp),if_neg (by simp)]
   exact ih
section
variable {S0 S:q00} {t bo:Nat} {Ks:Nat→Prop} {f:Nd→List (List AV)} {es:List (AV×AV×Nat)} {clk:Nat}
theorem OfM.fr (h:OfM S0 S t bo Ks f es clk) {S1:q00} (h1:∀ b,sget S1 b≠none→b=bo∨Ks b∨sget S0 b≠none):FrO S1 S (.map MD es clk) (.map MD (frzM f es) clk):=by
 refine .map MD es _ clk (by simp [frzM]) fun i e e' he he'=>?_
 unfold frzM at he'
 rw [List.getElem?_map,he] at he'
 simp only [Option.map_some,Option.some.injEq] at he'
 subst he'
 obtain ⟨n,hn⟩:=h.key e (List.mem_of_getElem? he)
 refine ⟨rfl,?_,rfl⟩
 dsimp only
 rw [hn,ndD_A]
 have hg:mget es (ndA n)=some e.2.1:=by
  cases hq:mget es (ndA n) with
  | none=>exact absurd hn (mget_no h.key hq e (List.mem_of_getElem? he))
  | some u=>
   unfold mget at hq
   cases hmf:q0q es (ndA n) with
   | none=>rw [hmf] at hq;cases hq
   | some p=>
    obtain ⟨j,u',bn⟩:=p
    have hj:=mfind_key h.key hmf
    have:=h.ku i j _ _ he hj hn
    subst this
    rw [he] at hj
    cases hj
    rw [hmf] at hq
    exact hq.symm
 obtain ⟨-,⟨hr,hl⟩,hvb,hvk⟩:=h.yes n _ hg
 rcases hl with ⟨e1,e2⟩ | ⟨b,cap,e1,q1,q2,q3,-,-⟩
 ·rw [e1,e2];exact .nils 3
 ·rw [e1] at hvb hvk ⊢
  refine .own t 3 b _ cap (f n) hr ?_ q2 rfl q3
  cases hs:sget S1 b with
  | none=>rfl
  | some o=>
   rcases h1 b (by rw [hs];simp) with rfl | hk | h0
   ·exact absurd rfl (hvb _ _ _ _ rfl)
   ·exact absurd rfl (hvk b hk _ _ _ _ rfl)
   ·exact absurd q1 h0
end
set_option maxRecDepth 4000
def ndT (t:Tu):Nd:=⟨t.o,t.rl⟩
def ofR (s:List Ty) (l:List Tu) (n:Nd):List (List AV):=((ofF (q0d s l) n).map Tu.s).map ndC
theorem of_take {s:List Ty} {l:List Tu} {i:Nat} {t:Tu} (h:l[i]?=some t) (n:Nd):ofR s (l.take (i+1)) n=ofR s (l.take i) n++if q1m s t=0∧n=ndT t then [ndC t.s] else []:=by
 unfold ofR q0d ofF
 rw [q31 h]
 by_cases h1:q1m s t=0
 ·by_cases h2:n=ndT t
  ·rw [if_pos (decide_eq_true h1),if_pos ⟨h1,h2⟩,List.filter_append,List.map_append,List.map_append]
   subst h2
   simp [ndT]
  ·rw [if_pos (decide_eq_true h1),if_neg fun h=>h2 h.2,List.filter_append,List.map_append,List.map_append]
   have:(decide (t.o=n.o)&&decide (t.rl=n.rl))=false:=by
    rw [Bool.eq_false_iff]
    intro hq
    simp only [Bool.and_eq_true,decide_eq_true_eq] at hq
    refine h2 ?_
    cases n
    simp only [ndT,Nd.mk.injEq]
    exact ⟨hq.1.symm,hq.2.symm⟩
   simp [this]
 ·rw [if_neg (show ¬ (decide (q1m s t=0)=true) by simp [h1]),if_neg fun h=>h1 h.1,List.append_nil,List.append_nil]
section
variable {S0 S1:q00} {b1 b2 b3 t1 t2 t3:Nat} {x1 x2 x3:AV} {QF:AEnd→q00→Prop}
abbrev res3 (b1 b2 b3:Nat):List RW:=[.cell (.ptr b1 0) 1 false,.cell (.ptr b2 0) 1 false,.cell (.ptr b3 0) 1 false]
theorem put3 (h1:q0i S1 b1=some (t1,[x1],1)) (h2:q0i S1 b2=some (t2,[x2],1)) (h3:q0i S1 b3=some (t3,[x3],1)) (d1:b1≠b2) (d2:b1≠b3) (d3:b2≠b3)
  (n1:sget S0 b1=none) (n2:sget S0 b2=none) (n3:sget S0 b3=none) (hs:Sub S0 S1) {a:Bool} {w e:Int} (hQ:QF (.ret (.tup [.bool a,.int .i64 w,.int .i64 e])) S0) :
  stW S1 1 (.ptr b1 0) (.bool a) fun S=>stW S 1 (.ptr b2 0) (.int .i64 w) fun S=>stW S 1 (.ptr b3 0) (.int .i64 e) fun S=>rtW (res3 b1 b2 b3) QF S:=by
 (try simp only [rwp,zA,zB,zC,zD,zE,zF,zG,zH,zI,rwb,reduceIte,h1,h2,h3,d1,d2,d3,Ne.symm d1,Ne.symm d2,Ne.symm d3])
 refine q0y S0 (Sub.supd n3 (Sub.supd n2 (Sub.supd n1 hs))) ?_
 (try simp only [rwp,zA,zB,zC,zD,zE,zF,zG,zH,zI,rwb,reduceIte,h1,h2,h3,d1,d2,d3,Ne.symm d1,Ne.symm d2,Ne.symm d3])
 exact hQ
end
theorem frsh {S:q00} {b c:Nat} {o:AObj} (h:sget (supd S b o) c=none):c≠b∧sget S c=none:=by
 rw [q01] at h
 split at h
 ·cases h
 ·rename_i hn;exact ⟨fun e=>hn e.symm,h⟩
theorem q3k {Y N:Prop} (h:N):cnW (.bool false) Y N:=⟨fun h=>by (cases h),fun _=>h⟩
theorem c_engine_Check {s:List Ty} (hs:OkS s) (hN:OkN s) {l:List Tu} (hl:OkL l) (n:Nd) (who:Ob) (B:Int) :
  AFun PG nrx18 [scA s,.sl 6 (l.map tuC),.agg (obC n.o),.str n.rl,.agg (obC who),.int .i64 B] (chk15 (envE s l who) B n):=by
 intro S
 suffices key:∀ QF:AEnd→q00→Prop,QF (.ret (chk15 (envE s l who) B n)) S→ACalls PG nrx18 [scA s,.sl 6 (l.map tuC),.agg (obC n.o),.str n.rl,.agg (obC who),.int .i64 B] S QF from key _ ⟨rfl,rfl⟩
 intro QF hQ
 refine wx18 ?_
 unfold Ax18
 have q1:=q70 hs hN
 obtain ⟨x,y,z,hc⟩:=chkF_fl s
 have hz:errA (chkF s)=z:=by rw [hc,q40]
 rw [hc] at q1
 have q2:=q1g hs n.o.ty n.rl
 simp only [scA,flA] at q1 q2
 (try simp only [rwp,zA,zB,zC,zD,zE,zF,zG,zH,zI,rwb,reduceIte,scA,obC])
 intro b1 hb1 b2 hb2 b3 hb3
 obtain ⟨d21,hb2'⟩:=frsh hb2
 obtain ⟨d32,hb3'⟩:=frsh hb3
 obtain ⟨d31,hb3'⟩:=frsh hb3'
 generalize hS3:supd _ b3 _=S3
 have h31:q0i S3 b1=some (4,[.bool false],1):=by rw [← hS3];(try simp only [rwp,zA,zB,zC,zD,zE,zF,zG,zH,zI,rwb,reduceIte,d21,d31,d32,Ne.symm d21,Ne.symm d31,Ne.symm d32])
 have h32:q0i S3 b2=some (3,[.int .i64 0],1):=by rw [← hS3];(try simp only [rwp,zA,zB,zC,zD,zE,zF,zG,zH,zI,rwb,reduceIte,d21,d31,d32,Ne.symm d21,Ne.symm d31,Ne.symm d32])
 have h33:q0i S3 b3=some (30,[.int .i64 0],1):=by rw [← hS3];(try simp only [rwp,zA,zB,zC,zD,zE,zF,zG,zH,zI,rwb,reduceIte,d21,d31,d32,Ne.symm d21,Ne.symm d31,Ne.symm d32])
 have hs3:Sub S S3:=by rw [← hS3];exact Sub.supd hb3' (Sub.supd hb2' (Sub.supd hb1 (Sub.refl _)))
 have hf3:∀ b,sget S3 b≠none→b=b1∨b=b2∨b=b3∨sget S b≠none:=by
  intro b hb
  rw [← hS3,q01,q01,q01] at hb
  split at hb
  ·rename_i e;exact .inr (.inr (.inl e.symm))
  ·split at hb
   ·rename_i e;exact .inr (.inl e.symm)
   ·split at hb
    ·rename_i e;exact .inl e.symm
    ·exact .inr (.inr (.inr hb))
 have bad:∀ b:Bool,(b=true→B<0∨100000<B∨errA (chkF s)≠0)→(b=false→¬ (B<0∨100000<B∨errA (chkF s)≠0)) →
   CA18_2 QF (fun l S=>dfrW PG dfx18 (endW PG dfx18 tf_engine_Check_1 QF (dfx18.caps.map (lget l))) (panW PG dfx18 tf_engine_Check_1 QF (dfx18.caps.map (lget l))) l S)
    (.sl 6 (l.map tuC)) (.str n.rl) (.int .i64 B) (.rop [.sl 2 (s.map tyC)]) (.rop [.str n.o.ty,.str n.o.id]) (.rop [.str who.ty,.str who.id]) (.ptr b1 0) (.ptr b2 0) (.ptr b3 0) (.bool b) S3:=by
  intro b k1 k2
  unfold chk15 at hQ
  cases b
  ·have h0:=k2 rfl
   rw [if_neg (show ¬ (B<0∨100000<B∨errA (chkF (envE s l who).s)≠0) from h0)] at hQ
   have hk:errA (chkF s)=0:=by
    refine Classical.byContradiction fun hn=>h0 (.inr (.inr hn))
   have hg:=chk_good hk
   (try simp only [rwp,zA,zB,zC,zD,zE,zF,zG,zH,zI,rwb,reduceIte,CA18_2])
   refine q0c (q2 _) ?_
   rintro ae S' ⟨rfl,rfl⟩
   have he:(envE s l who).s=s:=rfl
   rw [he] at hQ
   cases hq:q0o s n.o.ty n.rl with
   | none=>
    rw [hq,if_pos rfl] at hQ
    dsimp only
    (try simp only [rwp,zA,zB,zC,zD,zE,zF,zG,zH,zI,rwb,reduceIte,zeroR])
    exact put3 h31 h32 h33 (Ne.symm d21) (Ne.symm d31) (Ne.symm d32) hb1 hb2' hb3' hs3 hQ
   | some p=>
    obtain ⟨i,k,r⟩:=p
    rw [hq,if_neg (by simp)] at hQ
    dsimp only
    (try simp only [rwp,zA,zB,zC,zD,zE,zF,zG,zH,zI,rwb,reduceIte,q0g])
    intro bo hbo bp hbp
    obtain ⟨dpo,hbp'⟩:=frsh hbp
    (try simp only [rwp,zA,zB,zC,zD,zE,zF,zG,zH,zI,rwb,reduceIte])
    refine ⟨rfl,rfl,fun bc hbc=>?_⟩
    obtain ⟨dcp,hbc'⟩:=frsh hbc
    obtain ⟨dco,hbc'⟩:=frsh hbc'
    have Sn:∀ {b:Nat},sget S' b=none→b≠b1∧b≠b2∧b≠b3∧sget S b=none:=by
     intro b hb
     refine ⟨?_,?_,?_,?_⟩
     ·rintro rfl;rw [objAt_some.1 h31] at hb;cases hb
     ·rintro rfl;rw [objAt_some.1 h32] at hb;cases hb
     ·rintro rfl;rw [objAt_some.1 h33] at hb;cases hb
     ·cases hq:sget S b with
      | none=>rfl
      | some o=>rw [hs3 b o hq] at hb;cases hb
    obtain ⟨o1,o2,o3,no⟩:=Sn hbo
    obtain ⟨p1,p2,p3,np⟩:=Sn hbp'
    obtain ⟨c1,c2,c3,nc⟩:=Sn hbc'
    generalize hS5:supd _ bc _=S5
    have g5:∀ c,sget S5 c=if bc=c then some (.cells tySe (seC (envE s l who) B bo bp 0) 7) else if bp=c then some (.map MD [] 0) else if bo=c then some (.map MD [] 0) else sget S' c:=by
     intro c
     rw [← hS5,q01,q01,q01]
     rfl
    have f5:Sub S S5:=by rw [← hS5];exact Sub.supd nc (Sub.supd np (Sub.supd no hs3))
    have s51:sget S5 b1=some (.cells 4 [.bool false] 1):=by rw [g5,if_neg c1,if_neg p1,if_neg o1];exact objAt_some.1 h31
    have s52:sget S5 b2=some (.cells 3 [.int .i64 0] 1):=by rw [g5,if_neg c2,if_neg p2,if_neg o2];exact objAt_some.1 h32
    have s53:sget S5 b3=some (.cells 30 [.int .i64 0] 1):=by rw [g5,if_neg c3,if_neg p3,if_neg o3];exact objAt_some.1 h33
    have s5p:sget S5 bp=some (.map MD [] 0):=by rw [g5,if_neg dcp,if_pos rfl]
    have s5c:sget S5 bc=some (.cells tySe (seC (envE s l who) B bo bp 0) 7):=by rw [g5,if_pos rfl]
    have s5o:sget S5 bo=some (.map MD [] 0):=by rw [g5,if_neg dco,if_neg dpo,if_pos rfl]
    have hKs:∀ c,(c=b1∨c=b2∨c=b3∨c=bp∨c=bc)→c≠bo∧sget S5 c≠none:=by
     rintro c (rfl | rfl | rfl | rfl | rfl)
     ·exact ⟨Ne.symm o1,by rw [s51];simp⟩
     ·exact ⟨Ne.symm o2,by rw [s52];simp⟩
     ·exact ⟨Ne.symm o3,by rw [s53];simp⟩
     ·exact ⟨dpo,by rw [s5p];simp⟩
     ·exact ⟨dco,by rw [s5c];simp⟩
    refine LoopP.introS (fun i:Nat=>[(3,AV.str n.rl),(6,AV.rop [AV.sl 2 (List.map tyC s)]),(8,AV.rop [AV.str n.o.ty,AV.str n.o.id]),(12,AV.ptr b1 0),(13,AV.ptr b2 0),(14,AV.ptr b3 0),(17,.ptr bc 0),(50,AV.sl 6 (List.map tuC l)),(51,AV.int IntKind.i64 ↑l.length),(52,.int .i64 i)])
     (fun i S2=>i≤l.length∧Sub S S2∧(∃ es clk,OfM S S2 39 bo (fun c=>c=b1∨c=b2∨c=b3∨c=bp∨c=bc) (ofR s (l.take i)) es clk)∧∀ c,(c=b1∨c=b2∨c=b3∨c=bp∨c=bc)→sget S2 c=sget S5 c) (fun i=>l.length-i) 0
     ⟨by omega,f5,⟨[],0,⟨s5o,no,fun x hx=>(by cases hx),by simp,fun i j x y hx=>by simp at hx,fun x hx=>(by cases hx),fun m _=>rfl,fun m v hv=>(by cases hv),fun m p v u _ hv=>(by cases hv),hKs⟩⟩,fun c _=>rfl⟩ rfl ?_
    rintro i S2 ⟨hi,j1,⟨es,clk,hO⟩,j2⟩ kk hkk
    have hln:=hl.n
    have s2c:=j2 bc (by simp)
    rw [s5c] at s2c
    have s2o:=objAt_some.2 s2c
    have hc2:=q07 s2o
    (try simp only [rwp,zA,zB,zC,zD,zE,zF,zG,zH,zI,rwb,reduceIte,CA18_3])
    cases a1:decide ((i:Int)<l.length)
    ·refine q3k ?_
     have hEnd:∀ (L:LE) (x:AV) (S4:q00),L=[(12,.ptr b1 0),(13,.ptr b2 0),(14,.ptr b3 0)]∨L=[(12,.ptr b1 0),(13,.ptr b2 0),(14,.ptr b3 0),(17,.ptr bc 0)]→q25 (fun S=>rtW (res3 b1 b2 b3) QF S) (.ptr b1 0) (.ptr b2 0) (.ptr b3 0) x S4→cloW PG dfx18 tf_engine_Check_1 QF [.ptr b1 0,.ptr b2 0,.ptr b3 0] x L S4:=by
      rintro L x S4 (rfl | rfl) h<;>exact Eq.mpr (q8j (T:=fun S=>rtW (res3 b1 b2 b3) QF S)) h
     have eil:i=l.length:=by have:=of_decide_eq_false a1;omega
     subst eil
     rw [List.take_length] at hO
     rw [gx18]
     unfold Gx18
     (try simp only [rwp,zA,zB,zC,zD,zE,zF,zG,zH,zI,rwb,reduceIte])
     let S0':q00:=supd (supd (supd (supd S b1 (.cells 4 [.bool false] 1)) b2 (.cells 3 [.int .i64 0] 1)) b3 (.cells 30 [.int .i64 0] 1)) bo (.map MD (frzM (ofR s l) es) clk)
     have g0:∀ c,sget S0' c=if bo=c then some (.map MD (frzM (ofR s l) es) clk) else if b3=c then some (.cells 30 [.int .i64 0] 1) else if b2=c then some (.cells 3 [.int .i64 0] 1) else if b1=c then some (.cells 4 [.bool false] 1) else sget S c:=fun c=>rfl
     have hsub0:Sub S S0':=Sub.supd no (Sub.supd hb3' (Sub.supd hb2' (Sub.supd hb1 (Sub.refl _))))
     have hof:∀ m,ofA ((envE s l who).of m)=(mget es (ndA m)).map fun _=>AV.sl 3 (ofR s l m):=by
      intro m
      unfold ofA
      cases hm:mget es (ndA m) with
      | none=>
       have:=hO.no m hm
       unfold ofR at this
       rw [List.map_eq_nil_iff] at this
       rw [show (envE s l who).of m=(ofF (q0d s l) m).map Tu.s from rfl,this]
       rfl
      | some v=>
       have:=(hO.yes m v hm).1
       unfold ofR at this
       rw [if_neg fun h=>this (by rw [show (ofF (q0d s l) m).map Tu.s=(envE s l who).of m from rfl,h];rfl)]
       rfl
     have hfk:∀ x∈frzM (ofR s l) es,∃ n,x.1=ndA n:=by
      intro x hx
      unfold frzM at hx
      obtain ⟨y,hy,rfl⟩:=List.mem_map.1 hx
      exact hO.key y hy
     have hOk:SeOk (envE s l who) B bc bo bp S0':=by
      refine ⟨hs,sc_may hg.may,Ne.symm dcp,?_,?_,Ne.symm dco,Ne.symm dpo,⟨frzM (ofR s l) es,clk,mapObj_some.2 (by rw [g0,if_pos rfl]),fun x hx=>?_,fun m=>?_⟩,by omega,fun m=>?_⟩
      ·rw [g0,if_neg (Ne.symm dco),if_neg (Ne.symm c3),if_neg (Ne.symm c2),if_neg (Ne.symm c1)];exact nc
      ·rw [g0,if_neg (Ne.symm dpo),if_neg (Ne.symm p3),if_neg (Ne.symm p2),if_neg (Ne.symm p1)];exact np
      ·obtain ⟨m,hm⟩:=hfk x hx
       rw [hm]
       exact ke_nd.ok m
      ·rw [mget_frz hO.key];exact (hof m).symm
      ·show ((ofF (q0d s l) m).map Tu.s).length≤100000
       rw [List.length_map]
       exact Nat.le_trans (List.length_filter_le _ _) (q3j hl).n
     have q4:=c_ask hOk 50 [] [] ⟨fun x hx=>(by cases hx),rfl,fun m=>by simp [q8t]⟩ rfl n 0 (stE (envE s l who) B bc bo bp S0' 0 [] 0) ⟨by omega,0,rfl⟩
     have hfr:FrS (stE (envE s l who) B bc bo bp S0' 0 [] 0) S2:=by
      intro b o' hb
      unfold stE at hb
      rw [q01,q01,g0] at hb
      split at hb
      ·rename_i e;subst e;cases hb;exact ⟨_,(j2 _ (by simp)).trans s5p,.same _⟩
      ·split at hb
       ·rename_i e;subst e;cases hb;exact ⟨_,(j2 _ (by simp)).trans s5c,.same _⟩
       ·split at hb
        ·rename_i e
         subst e
         cases hb
         refine ⟨_,hO.map,hO.fr fun b hb=>?_⟩
         unfold stE at hb
         rw [q01,q01,g0] at hb
         split at hb
         ·rename_i e;exact .inr (.inl (by simp [e]))
         ·split at hb
          ·rename_i e;exact .inr (.inl (by simp [e]))
          ·split at hb
           ·rename_i e;exact .inl e.symm
           ·split at hb
            ·rename_i e;exact .inr (.inl (by simp [e]))
            ·split at hb
             ·rename_i e;exact .inr (.inl (by simp [e]))
             ·split at hb
              ·rename_i e;exact .inr (.inl (by simp [e]))
              ·exact .inr (.inr hb)
        ·split at hb
         ·rename_i e;subst e;cases hb;exact ⟨_,(j2 _ (by simp)).trans s53,.same _⟩
         ·split at hb
          ·rename_i e;subst e;cases hb;exact ⟨_,(j2 _ (by simp)).trans s52,.same _⟩
          ·split at hb
           ·rename_i e;subst e;cases hb;exact ⟨_,(j2 _ (by simp)).trans s51,.same _⟩
           ·exact ⟨_,j1 b o' hb,.same _⟩
     have t1:sget S0' b1=some (.cells 4 [.bool false] 1):=by rw [g0,if_neg o1,if_neg d31,if_neg d21,if_pos rfl]
     have t2:sget S0' b2=some (.cells 3 [.int .i64 0] 1):=by rw [g0,if_neg o2,if_neg d32,if_pos rfl]
     have t3:sget S0' b3=some (.cells 30 [.int .i64 0] 1):=by rw [g0,if_neg o3,if_pos rfl]
     simp only [obC] at q4
     refine q0c (ACalls.frz hfr (Frs.same _) q4) ?_
     intro ae S3 hq4
     unfold q2r at hq4
     cases ha:askQ (envE s l who) B 50 [] n 0 with
     | none=>
      rw [ha] at hq4 hQ
      obtain ⟨rfl,hx⟩:=hq4
      dsimp only
      refine hEnd _ _ _ (.inr rfl) ?_
      unfold q25
      (try simp only [rwp,zA,zB,zC,zD,zE,zF,zG,zH,zI,rwb,reduceIte,spV])
      exact put3 (objAt_some.2 (hx _ _ t1)) (objAt_some.2 (hx _ _ t2)) (objAt_some.2 (hx _ _ t3)) (Ne.symm d21) (Ne.symm d31) (Ne.symm d32) hb1 hb2' hb3' (hsub0.trans hx) hQ
     | some p=>
      obtain ⟨b,w2⟩:=p
      rw [ha] at hq4 hQ
      obtain ⟨rfl,hw,clk',rfl⟩:=hq4
      dsimp only
      have eE:∀ c,sget (stE (envE s l who) B bc bo bp S0' w2 [] clk') c=if bp=c then some (.map MD [] clk') else if bc=c then some (.cells tySe (seC (envE s l who) B bo bp w2) 7) else sget S0' c:=fun c=>rfl
      have r1:=eE b1
      rw [if_neg p1,if_neg c1,t1] at r1
      have r2:=eE b2
      rw [if_neg p2,if_neg c2,t2] at r2
      have r3:=eE b3
      rw [if_neg p3,if_neg c3,t3] at r3
      have rc:=eE bc
      rw [if_neg (Ne.symm dcp),if_pos rfl] at rc
      have hsE:Sub S (stE (envE s l who) B bc bo bp S0' w2 [] clk'):=hsub0.trans (stE_sub hOk)
      have rco:=objAt_some.2 rc
      have rcc:=q07 rco
      have r1o:=objAt_some.2 r1
      have r1c:=q07 r1o
      generalize stE (envE s l who) B bc bo bp S0' w2 [] clk'=SE at r1 r2 r3 rc rco rcc r1o r1c hsE ⊢
      have r2o:=objAt_some.2 r2
      have r3o:=objAt_some.2 r3
      (try simp only [rwp,zA,zB,zC,zD,zE,zF,zG,zH,zI,rwb,reduceIte,r1o,r1c,rcc,rco,seC,c1,Ne.symm c1,kpW_cons,d21,d31,d32,Ne.symm d21,Ne.symm d31,Ne.symm d32,r2o,r3o])
      refine hEnd _ _ _ (.inl rfl) ?_
      unfold q25
      (try simp only [rwp,zA,zB,zC,zD,zE,zF,zG,zH,zI,rwb,reduceIte])
      refine q0y S (Sub.supd hb3' (Sub.supd hb2' (Sub.supd hb1 hsE))) ?_
      (try simp only [rwp,zA,zB,zC,zD,zE,zF,zG,zH,zI,rwb,reduceIte,r1o,r2o,r3o,d21,d31,d32,Ne.symm d21,Ne.symm d31,Ne.symm d32])
      exact hQ
    ·have hlt:=of_decide_eq_true a1
     obtain ⟨t,ht⟩:=q0s hlt
     have q3:=q59 hs (hl.ok t (List.mem_of_getElem? ht))
     simp only [scA] at q3
     (try simp only [rwp,zA,zB,zC,zD,zE,zF,zG,zH,zI,rwb,reduceIte,ht,tuC])
     refine q05 q3 ?_
     (try simp only [rwp,zA,zB,zC,zD,zE,zF,zG,zH,zI,rwb,reduceIte,hc2,seC])
     have hnx:=of_take (s:=s) ht
     cases a2:decide (q1m s t=0)
     ·(try simp only [rwp,zA,zB,zC,zD,zE,zF,zG,zH,zI,rwb,reduceIte,CA18_4])
      (simp (disch:=omega) only [q03])
      have e:ofR s (l.take (i+1))=ofR s (l.take i):=by
       funext m
       rw [hnx,if_neg fun h=>(of_decide_eq_false a2) h.1,List.append_nil]
      exact q09 rfl (hkk (i+1) S2 ⟨by omega,j1,⟨es,clk,by rw [e];exact hO⟩,j2⟩ (by omega))
     ·(try simp only [rwp,zA,zB,zC,zD,zE,zF,zG,zH,zI,rwb,reduceIte])
      refine hO.push j1 (ndT t) rfl rfl ?_ fun S4 es2 clk2 u1 u2 u3=>?_
      ·have:(ofR s (l.take i) (ndT t)).length≤i:=by
        unfold ofR ofF q0d
        rw [List.length_map,List.length_map]
        exact Nat.le_trans (List.length_filter_le _ _) (Nat.le_trans (List.length_filter_le _ _) (List.length_take_le _ _))
       omega
      ·(try simp only [rwp,zA,zB,zC,zD,zE,zF,zG,zH,zI,rwb,reduceIte,CA18_4])
       (simp (disch:=omega) only [q03])
       have e:ofR s (l.take (i+1))=fun m=>if m=ndT t then ofR s (l.take i) (ndT t)++[ndC t.s] else ofR s (l.take i) m:=by
        funext m
        rw [hnx]
        by_cases hm:m=ndT t
        ·rw [if_pos ⟨of_decide_eq_true a2,hm⟩,if_pos hm,hm]
        ·rw [if_neg fun h=>hm h.2,if_neg hm,List.append_nil]
       exact q09 rfl (hkk (i+1) S4 ⟨by omega,u1,⟨es2,clk2,by rw [e];exact u2⟩,fun c hc=>(u3 c hc).trans (j2 c hc)⟩ (by omega))
  ·rw [if_pos (show (B<0∨100000<B∨errA (chkF (envE s l who).s)≠0) from k1 rfl)] at hQ
   (try simp only [rwp,zA,zB,zC,zD,zE,zF,zG,zH,zI,rwb,reduceIte,CA18_2])
   exact put3 h31 h32 h33 (Ne.symm d21) (Ne.symm d31) (Ne.symm d32) hb1 hb2' hb3' hs3 hQ
 have hbad:∀ b:Bool,b=(!decide (z=0)||decide (B<0)||decide (100000<B))→(b=true→B<0∨100000<B∨errA (chkF s)≠0)∧(b=false→¬ (B<0∨100000<B∨errA (chkF s)≠0)):=by
  rintro b rfl
  rw [hz]
  constructor
  ·intro h
   simp only [Bool.or_eq_true,Bool.not_eq_true',decide_eq_true_eq,decide_eq_false_iff_not] at h
   omega
  ·intro h
   simp only [Bool.or_eq_false_iff,Bool.not_eq_false',decide_eq_true_eq,decide_eq_false_iff_not] at h
   omega
 (try simp only [rwp,zA,zB,zC,zD,zE,zF,zG,zH,zI,rwb,reduceIte,CA18_1])
 cases hb:(decide (B<0)||decide (100000<B))
 ·(try simp only [rwp,zA,zB,zC,zD,zE,zF,zG,zH,zI,rwb,reduceIte])
  refine q05 q1 ?_
  (try simp only [rwp,zA,zB,zC,zD,zE,zF,zG,zH,zI,rwb,reduceIte])
  have e:(!decide (z=0))=(!decide (z=0)||decide (B<0)||decide (100000<B)):=by rw [Bool.or_assoc,hb,Bool.or_false]
  exact bad _ (hbad _ e).1 (hbad _ e).2
 ·(try simp only [rwp,zA,zB,zC,zD,zE,zF,zG,zH,zI,rwb,reduceIte])
  refine bad true (fun _=>?_) (fun h=>by cases h)
  simp only [Bool.or_eq_true,decide_eq_true_eq] at hb
  omega
set_option maxRecDepth 4000
theorem q2j {o:Ob} (ho:OkO o):AFun PG nrx40 [.agg (obC o)] (.str (q30 o)):=by
 intro S
 refine wx40 ?_
 unfold Bx40
 (try simp only [rwp,zA,zB,zC,zD,zE,zF,zG,zH,zI,rwb,reduceIte,obC])
 refine q05 (q1t ho.ty) ?_
 have h1:=ho.ty
 have h2:=ho.id
 (try simp only [rwp,zA,zB,zC,zD,zE,zF,zG,zH,zI,rwb,reduceIte])
 refine q05 (c_ref10_ID ho.id) ?_
 cases a1:q0p o.ty<;>cases a2:idB o.id<;>(try simp only [rwp,zA,zB,zC,zD,zE,zF,zG,zH,zI,rwb,reduceIte,C40_1,ByteArray.size_append])
 ·exact q02 ⟨by simp [q30,obB,a1],rfl⟩
 ·exact q02 ⟨by simp [q30,obB,a1],rfl⟩
 ·exact q02 ⟨by simp [q30,obB,a1,a2],rfl⟩
 ·have:(ByteArray.mk #[58]).size=1:=rfl
  exact ⟨by omega,by omega,q02 ⟨by simp [q30,obB,a1,a2],rfl⟩⟩
theorem q3l {n:Nd} (hn:OkD n):AFun PG nrx39 [.agg (ndC n)] (.str (q36 n)):=by
 intro S
 refine wx39 ?_
 unfold Bx39
 (try simp only [rwp,zA,zB,zC,zD,zE,zF,zG,zH,zI,rwb,reduceIte,ndC])
 have q:=q2j hn.o
 simp only [obC] at q
 have h1:=q4d hn.o
 have h2:=hn.rl
 refine q05 q ?_
 (try simp only [rwp,zA,zB,zC,zD,zE,zF,zG,zH,zI,rwb,reduceIte])
 refine q05 (q1t hn.rl) ?_
 (try simp only [rwp,zA,zB,zC,zD,zE,zF,zG,zH,zI,rwb,reduceIte])
 rw [q4w]
 cases a1:obB n.o
 ·(try simp only [rwp,zA,zB,zC,zD,zE,zF,zG,zH,zI,rwb,reduceIte,C39_1])
  exact q02 ⟨by simp [q36,q30,a1],rfl⟩
 ·cases a2:decide (n.rl=⟨#[]⟩)
  ·(try simp only [rwp,zA,zB,zC,zD,zE,zF,zG,zH,zI,rwb,reduceIte,C39_1,a2])
   have a2:=of_decide_eq_false a2
   cases a3:q0p n.rl
   ·(try simp only [rwp,zA,zB,zC,zD,zE,zF,zG,zH,zI,rwb,reduceIte])
    exact q02 ⟨by simp [q36,a1,a2,a3],rfl⟩
   ·(try simp only [rwp,zA,zB,zC,zD,zE,zF,zG,zH,zI,rwb,reduceIte,ByteArray.size_append])
    have:(ByteArray.mk #[35]).size=1:=rfl
    exact ⟨by omega,by omega,q02 ⟨by simp [q36,a1,a2,a3],rfl⟩⟩
  ·(try simp only [rwp,zA,zB,zC,zD,zE,zF,zG,zH,zI,rwb,reduceIte,C39_1,a2])
   have a2:=of_decide_eq_true a2
   exact q02 ⟨by simp [q36,a1,a2],rfl⟩
theorem q7u {t:Tu} (ht:OkU t):AFun PG nrx120 [.agg (tuC t)] (.str (q8d t)):=by
 intro S
 refine wx120 ?_
 unfold Bx120
 (try simp only [rwp,zA,zB,zC,zD,zE,zF,zG,zH,zI,rwb,reduceIte,tuC])
 have q1:=q2j ht.o
 have q2:=q3l ht.s
 simp only [obC] at q1
 simp only [ndC] at q2
 have h1:=q4d ht.o
 have h2:=showN_le ht.s
 have h3:=ht.rl
 refine q05 q1 ?_
 (try simp only [rwp,zA,zB,zC,zD,zE,zF,zG,zH,zI,rwb,reduceIte])
 refine q05 q2 ?_
 (try simp only [rwp,zA,zB,zC,zD,zE,zF,zG,zH,zI,rwb,reduceIte])
 refine q05 (q1t ht.rl) ?_
 (try simp only [rwp,zA,zB,zC,zD,zE,zF,zG,zH,zI,rwb,reduceIte])
 have e:=tuB_eq t
 rw [q4w,showN_nil]
 cases a1:obB t.o
 ·(try simp only [rwp,zA,zB,zC,zD,zE,zF,zG,zH,zI,rwb,reduceIte,C120_1,C120_2])
  exact q02 ⟨by simp [q8d,e,a1],rfl⟩
 ·cases a2:(obB t.s.o&&(decide (t.s.rl=⟨#[]⟩)||q0p t.s.rl))
  ·(try simp only [rwp,zA,zB,zC,zD,zE,zF,zG,zH,zI,rwb,reduceIte,C120_1,C120_2])
   exact q02 ⟨by simp only [q8d,e,a1,a2];rfl,rfl⟩
  ·(try simp only [rwp,zA,zB,zC,zD,zE,zF,zG,zH,zI,rwb,reduceIte,C120_1])
   cases a3:q0p t.rl
   ·(try simp only [rwp,zA,zB,zC,zD,zE,zF,zG,zH,zI,rwb,reduceIte,C120_2])
    exact q02 ⟨by simp only [q8d,e,a1,a2,a3];rfl,rfl⟩
   ·(try simp only [rwp,zA,zB,zC,zD,zE,zF,zG,zH,zI,rwb,reduceIte,C120_2,ByteArray.size_append])
    have:(ByteArray.mk #[35]).size=1:=rfl
    have:(ByteArray.mk #[64]).size=1:=rfl
    exact ⟨by omega,by omega,by omega,by omega,q02 ⟨by simp only [q8d,e,a1,a2,a3];rfl,rfl⟩⟩
theorem c_ref13_Allowed {s:List Ty} (hs:OkS s) {t:Tu} (ht:OkU t):AFun PG nrx68 [scA s,.agg (tuC t)] (.int .i64 (q1m s t)):=by
 intro S
 refine wx68 ?_
 unfold Bx68
 have q:=q7u ht
 simp only [tuC] at q
 have hty:=hs.types
 (try simp only [rwp,zA,zB,zC,zD,zE,zF,zG,zH,zI,rwb,reduceIte,scA,tuC])
 refine q05 q ?_
 (try simp only [rwp,zA,zB,zC,zD,zE,zF,zG,zH,zI,rwb,reduceIte])
 rw [showT_nil]
 cases a1:tuB t
 ·(try simp only [rwp,zA,zB,zC,zD,zE,zF,zG,zH,zI,rwb,reduceIte])
  exact q02 ⟨by simp [q1m,a1],rfl⟩
 ·(try simp only [rwp,zA,zB,zC,zD,zE,zF,zG,zH,zI,rwb,reduceIte])
  have q2:=c_ref12_Find hs t.o.ty t.rl
  simp only [scA] at q2
  have loop:∀ (v5:List AV) (fd:Bool) (K:Bool→Prop),(∀ b:Bool,b=(typF s t.s.o.ty).isSome→C68_2 (fun ae S'=>ae=.ret (.int .i64 (q1m s t))∧S'=S) (.rop (tuC t)) (.rop v5) (.bool (!fd||!b)) S) →
    LoopP (fun r0 l S1=>C68_1 (fun ae S'=>ae=.ret (.int .i64 (q1m s t))∧S'=S) r0 (lget l 2) (lget l 3) (lget l 5) (lget l 6) (lget l 7) (lget l 8) S1) [(2,.rop [.sl 2 (s.map tyC)]),(3,.rop (tuC t)),(5,.rop v5),(6,.bool fd),(7,.bool false),(8,.int .i64 0)] S:=by
   intro v5 fd K hK
   refine LoopP.intro (fun i:Nat=>[(2,.rop [.sl 2 (s.map tyC)]),(3,.rop (tuC t)),(5,.rop v5),(6,.bool fd),(7,.bool ((s.take i).any fun u=>decide (u.name=t.s.o.ty))),(8,.int .i64 i)]) (fun _=>S) (fun i=>i≤s.length) (fun i=>s.length-i) 0 (by omega) rfl (Sub.refl S) ?_
   intro i hi k hk
   (try simp only [rwp,zA,zB,zC,zD,zE,zF,zG,zH,zI,rwb,reduceIte,C68_1])
   (refine q04 (fun hlt=>?_) (fun hlt=>?_)<;>(try simp only [hlc] at hlt))
   ·obtain ⟨u,hu⟩:=q0s hlt
    have hn:=hk (i+1) (by omega) (by omega)
    rw [q79 hu] at hn
    cases a2:(s.take i).any fun u=>decide (u.name=t.s.o.ty)
    ·rw [a2,Bool.false_or] at hn
     (try simp only [rwp,zA,zB,zC,zD,zE,zF,zG,zH,zI,rwb,reduceIte,hu,tyC,tuC])
     (simp (disch:=omega) only [q03])
     exact q09 rfl hn
    ·rw [a2,Bool.true_or] at hn
     (try simp only [rwp,zA,zB,zC,zD,zE,zF,zG,zH,zI,rwb,reduceIte,hu,tyC,tuC])
     (simp (disch:=omega) only [q03])
     exact q09 rfl hn
   ·have e:s.take i=s:=List.take_of_length_le (by omega)
    rw [e,typ_any]
    have:=hK _ rfl
    cases fd
    ·(try simp only [rwp,zA,zB,zC,zD,zE,zF,zG,zH,zI,rwb,reduceIte])
     simpa only [Bool.not_false,Bool.true_or] using this
    ·(try simp only [rwp,zA,zB,zC,zD,zE,zF,zG,zH,zI,rwb,reduceIte])
     simpa only [Bool.not_true,Bool.false_or] using this
  cases hq:q0o s t.o.ty t.rl with
  | none=>
   rw [hq] at q2
   refine q05 q2 ?_
   (try simp only [rwp,zA,zB,zC,zD,zE,zF,zG,zH,zI,rwb,reduceIte,zeroR])
   refine loop _ false (fun _=>True) fun b hb=>?_
   (try simp only [rwp,zA,zB,zC,zD,zE,zF,zG,zH,zI,rwb,reduceIte,C68_2])
   exact q02 ⟨by simp [q1m,a1,hq],rfl⟩
  | some q3=>
   obtain ⟨i,k,r⟩:=q3
   obtain ⟨-,ty,h2,-,h4⟩:=q23 hq
   have hok:=(hs.at h2).at h4
   have hrl:=hok.refs
   rw [hq] at q2
   refine q05 q2 ?_
   (try simp only [rwp,zA,zB,zC,zD,zE,zF,zG,zH,zI,rwb,reduceIte,q0g])
   refine loop _ true (fun _=>True) fun b hb=>?_
   cases b
   ·(try simp only [rwp,zA,zB,zC,zD,zE,zF,zG,zH,zI,rwb,reduceIte,C68_2])
    exact q02 ⟨by simp only [q1m,a1,hq,← hb];rfl,rfl⟩
   ·(try simp only [rwp,zA,zB,zC,zD,zE,zF,zG,zH,zI,rwb,reduceIte,C68_2])
    have hval:q1m s t=if r.refs.any (fun f=>decide (t.s.o.ty=f.ty)&&decide (t.s.rl=f.rl)) then 0 else 10:=by simp only [q1m,a1,hq,← hb];rfl
    refine LoopP.intro (fun i:Nat=>[(3,.rop (tuC t)),(5,.rop [.str r.name,.sl 2 (r.refs.map rfC),.int .i64 r.ex.kind,.str r.ex.name,.str r.ex.over,.sl 4 (r.ex.kids.map exC)]),(9,.int .i64 i)]) (fun _=>S) (fun i=>i≤r.refs.length∧(r.refs.take i).any (fun f=>decide (t.s.o.ty=f.ty)&&decide (t.s.rl=f.rl))=false) (fun i=>r.refs.length-i) 0 ⟨by omega,rfl⟩ rfl (Sub.refl S) ?_
    rintro i ⟨hi,hn⟩ k hk
    (try simp only [rwp,zA,zB,zC,zD,zE,zF,zG,zH,zI,rwb,reduceIte,C68_3])
    (refine q04 (fun hlt=>?_) (fun hlt=>?_)<;>(try simp only [hlc] at hlt))
    ·obtain ⟨f,hf⟩:=q0s hlt
     have hs:=q79 (p:=fun f:Rf=>decide (t.s.o.ty=f.ty)&&decide (t.s.rl=f.rl)) hf
     rw [hn,Bool.false_or] at hs
     (try simp only [rwp,zA,zB,zC,zD,zE,zF,zG,zH,zI,rwb,reduceIte,hf,rfC,tuC])
     have comm:∀ a b:ByteArray,decide (a=b)=decide (b=a):=fun a b=>by rw [Bool.eq_iff_iff];simp [eq_comm]
     rw [comm f.ty]
     cases b1:decide (t.s.o.ty=f.ty)
     ·(try simp only [rwp,zA,zB,zC,zD,zE,zF,zG,zH,zI,rwb,reduceIte])
      (simp (disch:=omega) only [q03])
      exact q09 rfl (hk (i+1) ⟨by omega,by rw [hs,b1];rfl⟩ (by omega))
     ·(try simp only [rwp,zA,zB,zC,zD,zE,zF,zG,zH,zI,rwb,reduceIte,hf,rfC,tuC])
      rw [comm f.rl]
      cases b2:decide (t.s.rl=f.rl)
      ·(try simp only [rwp,zA,zB,zC,zD,zE,zF,zG,zH,zI,rwb,reduceIte])
       (simp (disch:=omega) only [q03])
       exact q09 rfl (hk (i+1) ⟨by omega,by rw [hs,b1,b2];rfl⟩ (by omega))
      ·(try simp only [rwp,zA,zB,zC,zD,zE,zF,zG,zH,zI,rwb,reduceIte])
       refine q02 ⟨?_,rfl⟩
       rw [hval,if_pos (List.any_eq_true.2 ⟨f,List.mem_of_getElem? hf,by rw [b1,b2];rfl⟩)]
    ·have e:r.refs.take i=r.refs:=List.take_of_length_le (by omega)
     rw [e] at hn
     exact q02 ⟨by rw [hval,hn];rfl,rfl⟩
theorem c_ref14_Counts {s:List Ty} (hs:OkS s) {l:List Tu} (hl:OkL l):AFun PG nrx29 [scA s,.sl 6 (l.map tuC)] (.sl 6 ((q0d s l).map tuC)):=by
 intro S
 refine wx29 ?_
 unfold Bx29
 have hn:=hl.n
 (try simp only [rwp,zA,zB,zC,zD,zE,zF,zG,zH,zI,rwb,reduceIte,scA])
 refine LoopP.introS (fun p:Nat×AV=>[(1,.sl 6 (l.map tuC)),(2,.rop [.sl 2 (s.map tyC)]),(5,p.2),(6,.int .i64 p.1)]) (fun p S'=>p.1≤l.length∧Sub S S'∧LstN S S' tyTu 6 p.2 ((q0d s (l.take p.1)).map tuC)) (fun p=>l.length-p.1) (0,.nils) ⟨by omega,Sub.refl S,LstN.nil⟩ rfl ?_
 rintro ⟨i,v⟩ S' ⟨hi,hsub,hv⟩ k hk
 dsimp only at hi hsub hv
 (try simp only [rwp,zA,zB,zC,zD,zE,zF,zG,zH,zI,rwb,reduceIte,C29_1])
 (refine q04 (fun hlt=>?_) (fun hlt=>?_)<;>(try simp only [hlc] at hlt))
 ·obtain ⟨t,ht⟩:=q0s hlt
  have q:=c_ref13_Allowed hs (hl.ok t (List.mem_of_getElem? ht))
  simp only [scA,tuC] at q
  have e:=q31 (p:=fun t=>decide (q1m s t=0)) ht
  (try simp only [rwp,zA,zB,zC,zD,zE,zF,zG,zH,zI,rwb,reduceIte,ht,tuC])
  refine q05 q ?_
  (try simp only [rwp,zA,zB,zC,zD,zE,zF,zG,zH,zI,rwb,reduceIte])
  have hlen:(q0d s (l.take i)).length≤i:=Nat.le_trans (List.length_filter_le _ _) (by rw [List.length_take];omega)
  cases a1:decide (q1m s t=0)
  ·rw [a1] at e
   (try simp only [rwp,zA,zB,zC,zD,zE,zF,zG,zH,zI,rwb,reduceIte])
   (simp (disch:=omega) only [q03])
   exact q09 rfl (hk (i+1,v) S' ⟨by dsimp only;omega,hsub,by dsimp only;rw [q0d,e];simpa [q0d] using hv⟩ (by dsimp only;omega))
  ·rw [a1] at e
   (try simp only [rwp,zA,zB,zC,zD,zE,zF,zG,zH,zI,rwb,reduceIte,ht,tuC])
   refine LstN.tu (t:=t) hsub hv (by omega) fun v' S2 h1 h2=>?_
   (simp (disch:=omega) only [q03])
   exact q09 rfl (hk (i+1,v') S2 ⟨by dsimp only;omega,h1,by dsimp only;rw [q0d,e];exact h2⟩ (by dsimp only;omega))
 ·have e:l.take i=l:=List.take_of_length_le (by omega)
  rw [e] at hv
  exact q5s hsub hv ⟨rfl,rfl⟩
set_option maxRecDepth 4000
def LstW (S0 S:q00) (t sz:Nat) (v:AV) (rows:List (List AV)):Prop:=
 (∀ r∈rows,r.length=sz)∧((v=.nils∧rows=[])∨∃ b cap cs,v=.own b 0 rows.length cap∧sget S0 b=none∧sget S b=some (.cells t cs (cap * sz))∧cs.take (rows.length * sz)=rows.flatten∧rows.length * sz≤cs.length∧rows.length≤cap∧cap≤maxLen)
section
variable {S0 S:q00} {t sz bytes:Nat} {v:AV} {rows xs:List (List AV)} {K:AV→q00→Prop}
theorem LstW.ln {K:AV→Prop} {S':q00} (h:LstW S0 S t sz v rows):lnW S' 1 v K=K (.int .i64 rows.length):=by
 obtain ⟨hr,⟨rfl,rfl⟩ | ⟨b,cap,cs,rfl,-⟩⟩:=h
 ·rw [q8x];rfl
 ·rw [lnW_own]
end
section
variable {E:q1v} {L:List Tu} {B:Int} {bc:Nat} {S0:q00} {P:List Nd} {ask:Nd→Nat→Option (Bool×Nat)}
theorem seen {P:List Nd} {n:Nd} {i:Nat} (h:∀ (j:Nat) (m:Nd),j<i→P.reverse[j]?=some m→¬ m=n) (hi:P.length≤i):n ∉ P:=fun hn=>by
 obtain ⟨j,hj⟩:=List.getElem?_of_mem (List.mem_reverse.2 hn)
 have hlt:=(List.getElem?_eq_some_iff.1 hj).1
 rw [List.length_reverse] at hlt
 exact h j n (by omega) hj rfl
end
set_option maxRecDepth 4000
theorem q90:∀ (vs cs:List AV) (off:Nat),off+vs.length≤cs.length→q1j cs off vs=cs.take off++(vs++cs.drop (off+vs.length))
 | [],cs,off,h=>by simp [q1j]
 | v :: r,cs,off,h=>by
  simp only [List.length_cons] at h
  have ih:=q90 r (cs.set off v) (off+1) (by rw [List.length_set];omega)
  show q1j (cs.set off v) (off+1) r=_
  rw [ih]
  have hlt:off<cs.length:=by omega
  have e1:(cs.set off v).take (off+1)=cs.take off++[v]:=by
   rw [List.set_eq_take_append_cons_drop,if_pos hlt,List.take_append,List.length_take,Nat.min_eq_left (by omega)]
   have:off+1-off=1:=by omega
   rw [this,List.take_of_length_le (by rw [List.length_take];omega)]
   rfl
  have e2:(cs.set off v).drop (off+1+r.length)=cs.drop (off+(v :: r).length):=by
   rw [List.drop_set_of_lt (by omega)]
   congr 1
   simp only [List.length_cons]
   omega
  rw [e1,e2,List.append_assoc]
  rfl
section
variable {α:Type} {enc:α→List AV} {sz:Nat}
def upv (v:Nat→α) (i:Nat) (x:α):Nat→α:=fun k=>if k=i then x else v k
def fl (enc:α→List AV) (n:Nat) (v:Nat→α):List AV:=((vl n v).map enc).flatten
theorem sw_upv {v:Nat→α} {i j:Nat}:upv (upv v i (v j)) j (v i)=sw v i j:=rfl
theorem fl_rows (he:∀ x,(enc x).length=sz) {n:Nat} {v:Nat→α}:∀ r∈(vl n v).map enc,r.length=sz:=fun r hr=>by
 obtain ⟨x,-,rfl⟩:=List.mem_map.1 hr
 exact he x
theorem q2x (he:∀ x,(enc x).length=sz) {n:Nat} {v:Nat→α}:(fl enc n v).length=n * sz:=by
 unfold fl
 rw [q8z (fl_rows he),List.length_map,q1x]
theorem vl_add {n k:Nat} {v:Nat→α}:vl (n+k) v=vl n v++(List.range' n k).map v:=by
 unfold vl
 rw [← List.map_append,List.range_eq_range',List.range_eq_range']
 congr 1
 have:=List.range'_append (s:=0) (m:=n) (n:=k) (step:=1)
 rw [show 0+1 * n=n by omega] at this
 exact this.symm
theorem vl_succ {n:Nat} {v:Nat→α}:vl (n+1) v=vl n v++[v n]:=by rw [vl_add];rfl
theorem fl_split (he:∀ x,(enc x).length=sz) {n i:Nat} (hi:i≤n) {v:Nat→α}:∃ rest,fl enc n v=fl enc i v++rest:=by
 obtain ⟨k,rfl⟩:∃ k,n=i+k:=⟨n-i,by omega⟩
 refine ⟨(((List.range' i k).map v).map enc).flatten,?_⟩
 unfold fl
 rw [vl_add,List.map_append,List.flatten_append]
theorem fl_take (he:∀ x,(enc x).length=sz) {n i:Nat} (hi:i≤n) {v:Nat→α}:(fl enc n v).take (i * sz)=fl enc i v:=by
 obtain ⟨rest,e⟩:=fl_split (v:=v) he hi
 rw [e,List.take_append_of_le_length (by rw [q2x he];exact Nat.le_refl _),List.take_of_length_le (by rw [q2x he];exact Nat.le_refl _)]
theorem fl_succ {n:Nat} {v:Nat→α}:fl enc (n+1) v=fl enc n v++enc (v n):=by
 unfold fl
 rw [vl_succ,List.map_append,List.flatten_append]
 simp
theorem fl_drop (he:∀ x,(enc x).length=sz) {n i:Nat} (hi:i<n) {v:Nat→α}:∃ rest,(fl enc n v).drop (i * sz)=enc (v i)++rest:=by
 obtain ⟨rest,e⟩:=fl_split (v:=v) (i:=i+1) he hi
 refine ⟨rest,?_⟩
 rw [e,fl_succ,List.append_assoc,List.drop_append_of_le_length (by rw [q2x he];exact Nat.le_refl _),List.drop_of_length_le (by rw [q2x he];exact Nat.le_refl _)]
 rfl
theorem fl_cong {n:Nat} {v w:Nat→α} (h:∀ i,i<n→v i=w i):fl enc n v=fl enc n w:=by
 unfold fl vl
 congr 2
 exact List.map_congr_left fun i hi=>h i (by simpa using hi)
theorem fl_fill (he:∀ x,(enc x).length=sz) {n i:Nat} (hi:i<n) {v:Nat→α} {x:α}:q1j (fl enc n v) (i * sz) (enc x)=fl enc n (upv v i x):=by
 have hle:i * sz+sz≤n * sz:=by
  calc i * sz+sz=(i+1) * sz:=by rw [Nat.succ_mul]
   _≤n * sz:=Nat.mul_le_mul_right _ hi
 rw [q90 _ _ _ (by rw [he,q2x he];exact hle),fl_take he (by omega),he]
 obtain ⟨k,rfl⟩:∃ k,n=i+1+k:=⟨n-(i+1),by omega⟩
 have e:∀ w:Nat→α,fl enc (i+1+k) w=fl enc i w++(enc (w i)++(((List.range' (i+1) k).map w).map enc).flatten):=by
  intro w
  have:fl enc (i+1+k) w=fl enc (i+1) w++(((List.range' (i+1) k).map w).map enc).flatten:=by
   unfold fl
   rw [vl_add,List.map_append,List.flatten_append]
  rw [this,fl_succ,List.append_assoc]
 rw [e v,e (upv v i x)]
 have e1:fl enc i (upv v i x)=fl enc i v:=fl_cong fun j hj=>if_neg (by omega)
 have e2:(List.range' (i+1) k).map (upv v i x)=(List.range' (i+1) k).map v:=List.map_congr_left fun j hj=>if_neg (by simp at hj;omega)
 have e3:upv v i x i=x:=if_pos rfl
 rw [e1,e2,e3]
 have hd:∀ R:List AV,(fl enc i v++(enc (v i)++R)).drop (i * sz+sz)=R:=fun R=>by
  rw [← List.append_assoc,List.drop_left' (by rw [List.length_append,q2x he,he])]
 rw [hd]
end
def OwnL {α:Type} (S0 S:q00) (t sz:Nat) (enc:α→List AV) (a:AV) (n:Nat) (v:Nat→α):Prop:=
 (a=.nils∧n=0)∨∃ b cap,a=.own b 0 n cap∧sget S0 b=none∧sget S b=some (.cells t (fl enc n v) (cap * sz))∧n≤cap∧cap≤maxLen
theorem OwnL.lstW {α:Type} {S0 S:q00} {t sz:Nat} {enc:α→List AV} (he:∀ x,(enc x).length=sz) {a:AV} {n:Nat} {v:Nat→α} (h:OwnL S0 S t sz enc a n v):LstW S0 S t sz a ((vl n v).map enc):=by
 refine ⟨fl_rows he,?_⟩
 rcases h with ⟨rfl,rfl⟩ | ⟨b,cap,rfl,h1,h2,h3,h4⟩
 ·exact .inl ⟨rfl,rfl⟩
 ·refine .inr ⟨b,cap,_,?_,h1,h2,?_,?_,?_,h4⟩
  ·rw [List.length_map,q1x]
  ·rw [List.length_map,q1x,List.take_of_length_le (by rw [q2x he];exact Nat.le_refl _)];rfl
  ·rw [List.length_map,q1x,q2x he];exact Nat.le_refl _
  ·rw [List.length_map,q1x];exact h3
def at' {α:Type} [Inhabited α] (l:List α):Nat→α:=fun i=>l.getD i default
theorem vl_at {α:Type} [Inhabited α] (l:List α):vl l.length (at' l)=l:=vl_of l default
instance:Inhabited Tu:=⟨⟨⟨⟨#[]⟩,⟨#[]⟩⟩,⟨#[]⟩,⟨⟨⟨#[]⟩,⟨#[]⟩⟩,⟨#[]⟩⟩⟩⟩
instance:Inhabited Ob:=⟨⟨⟨#[]⟩,⟨#[]⟩⟩⟩
theorem q26 (t:Tu):(tuC t).length=6:=rfl
theorem c_Clone {l:List Tu} (hb:l.length≤100000) (S:q00):ACalls PG nrx113 [.sl 6 (l.map tuC)] S fun ae S'=>∃ a,ae=.ret a∧Sub S S'∧OwnL S S' tyTu 6 tuC a l.length (at' l):=by
 refine wx113 ?_
 unfold Bx113
 have hfl:fl tuC l.length (at' l)=(l.map tuC).flatten:=by unfold fl;rw [vl_at]
 have app:bsW S tyTu 6 [] fun v5 S2=>apW S2 tyTu 6 96 v5 (.sl 6 (l.map tuC)) fun v7 S1=>rtW [.tmp v7] (fun ae S'=>∃ a,ae=.ret a∧Sub S S'∧OwnL S S' tyTu 6 tuC a l.length (at' l)) S1:=by
  refine ⟨trivial,fun b hb0=>?_⟩
  refine ⟨l.length,(l.map tuC).flatten,by simp [appX],q2u fun r hr=>by obtain ⟨t,-,rfl⟩:=List.mem_map.1 hr;rfl,?_⟩
  refine ⟨[],by rw [q01,if_pos rfl];rfl,Nat.le_refl _,Nat.zero_le _,by simp,by simp only [List.length_nil];omega,fun b' cap' k1 k2 k3=>?_⟩
  have hb':sget S b'=none:=by
   rcases k1 with rfl | k1
   ·exact hb0
   ·rw [q01] at k1
    split at k1
    ·cases k1
    ·exact k1
  refine q02 ⟨_,rfl,Sub.supd hb' (fun c o hc=>?_),.inr ⟨b',cap',by simp,hb',by rw [q01,if_pos rfl,hfl];simp,by simpa using k2,k3⟩⟩
  have hne:b≠c:=q0e hb0 hc
  rw [q0a,if_neg hne,q01,if_neg hne]
  exact hc
 cases l with
 | nil=>exact ⟨q3k app,⟨fun _=>q02 ⟨_,rfl,Sub.refl _,.inl ⟨rfl,rfl⟩⟩,fun h=>by cases h⟩⟩
 | cons t r=>exact q3k app
section
variable {S0 S:q00} {a:AV} {n:Nat} {u:Nat→Tu} {g:Nat} {fi ca:List AV} {p:Tu→Bool}
theorem c_IndexT (h:OwnL S0 S tyTu 6 tuC a n u) (hb:n≤100000) (hp:∀ i,i<n→AFun PG g (fi++[.agg (tuC (u i))]++ca) (.bool (p (u i)))) :
  ACalls PG nrx155 [a,.func (.func g) fi ca] S fun ae S'=>S'=S∧((ae=.ret (.int .i64 (-1))∧∀ i,i<n→p (u i)=false)∨∃ k:Nat,k<n∧ae=.ret (.int .i64 k)∧p (u k)=true∧∀ i,i<k→p (u i)=false):=by
 refine wx155 ?_
 unfold Bx155
 have hl:=h.lstW q26
 rw [hl.ln,List.length_map,q1x]
 refine LoopP.introS (fun i:Nat=>[(0,a),(1,.func (.func g) fi ca),(7,.int .i64 n),(8,.int .i64 i)]) (fun i S'=>S'=S∧i≤n∧∀ j,j<i→p (u j)=false) (fun i=>n-i) 0 ⟨rfl,by omega,fun j hj=>by omega⟩ rfl ?_
 rintro i S' ⟨rfl,hi,hno⟩ kk hkk
 (try simp only [rwp,zA,zB,zC,zD,zE,zF,zG,zH,zI,rwb,reduceIte,C155_1])
 (refine q04 (fun hlt=>?_) (fun hlt=>?_)<;>(try simp only [hlc] at hlt))
 ·have hin:i<n:=by omega
  rcases h with ⟨rfl,e⟩ | ⟨b,cap,rfl,h1,h2,h3,h4⟩
  ·omega
  ·have hc:=q07 (objAt_some.2 h2)
   obtain ⟨rest,hd⟩:=fl_drop (v:=u) q26 hin
   rw [show tuC (u i)=[.str (u i).o.ty,.str (u i).o.id,.str (u i).rl,.str (u i).s.o.ty,.str (u i).s.o.id,.str (u i).s.rl] from rfl] at hd
   simp only [List.cons_append,List.nil_append] at hd
   (try simp only [rwp,zA,zB,zC,zD,zE,zF,zG,zH,zI,rwb,reduceIte,hc,Int.toNat_natCast,Nat.zero_add,hd])
   refine ⟨hlt,?_⟩
   have q:=hp i hin
   rw [show tuC (u i)=[.str (u i).o.ty,.str (u i).o.id,.str (u i).rl,.str (u i).s.o.ty,.str (u i).s.o.id,.str (u i).s.rl] from rfl] at q
   refine caW_purev q ?_
   cases hq:p (u i)
   ·(try simp only [rwp,zA,zB,zC,zD,zE,zF,zG,zH,zI,rwb,reduceIte])
    (simp (disch:=omega) only [q03])
    refine q09 rfl (hkk (i+1) _ ⟨rfl,by omega,fun j hj=>?_⟩ (by omega))
    by_cases e:j=i
    ·rw [e];exact hq
    ·exact hno j (by omega)
   ·(try simp only [rwp,zA,zB,zC,zD,zE,zF,zG,zH,zI,rwb,reduceIte])
    exact q02 ⟨rfl,.inr ⟨i,hin,rfl,hq,hno⟩⟩
 ·(try simp only [rwp,zA,zB,zC,zD,zE,zF,zG,zH,zI,rwb,reduceIte])
  exact q02 ⟨rfl,.inl ⟨rfl,fun j hj=>hno j (by omega)⟩⟩
end
theorem filter_none {α:Type} {p:α→Bool} {n:Nat} {u:Nat→α} (h:∀ i,i<n→p (u i)=true):(vl n u).filter p=vl n u:=by
 rw [List.filter_eq_self]
 intro x hx
 obtain ⟨i,hi,rfl⟩:=List.mem_map.1 hx
 exact h i (by simpa using hi)
theorem c_DeleteT {S0 S:q00} {a:AV} {n:Nat} {u:Nat→Tu} {g:Nat} {fi ca:List AV} {p:Tu→Bool} (hs:Sub S0 S) (h:OwnL S0 S tyTu 6 tuC a n u) (hb:n≤100000) (hp:∀ i,i<n→AFun PG g (fi++[.agg (tuC (u i))]++ca) (.bool (p (u i)))) :
  ACalls PG nrx112 [a,.func (.func g) fi ca] S fun ae S'=>∃ a',ae=.ret a'∧Sub S0 S'∧LstW S0 S' tyTu 6 a' (((vl n u).filter fun t=>!p t).map tuC):=by
 refine wx112 ?_
 unfold Bx112
 refine q0c (c_IndexT h hb hp) ?_
 rintro ae S' ⟨rfl,⟨rfl,hno⟩ | ⟨k,hk,rfl,hpk,hno⟩⟩
 ·dsimp only
  (try simp only [rwp,zA,zB,zC,zD,zE,zF,zG,zH,zI,rwb,reduceIte])
  refine q02 ⟨a,rfl,hs,?_⟩
  rw [filter_none (p:=fun t=>!p t) (n:=n) (u:=u) fun i hi=>by simp [hno i hi]]
  exact h.lstW q26
 ·rcases h with ⟨rfl,e⟩ | ⟨b,cap,rfl,h1,h2,h3,h4⟩
  ·omega
  ·dsimp only
   (try simp only [rwp,zA,zB,zC,zD,zE,zF,zG,zH,zI,rwb,reduceIte])
   rw [decide_eq_false (show ¬ (k:Int)=-1 by omega)]
   (try simp only [rwp,zA,zB,zC,zD,zE,zF,zG,zH,zI,rwb,reduceIte])
   (simp (disch:=omega) only [q03])
   refine LoopP.introS (fun x:Nat×Nat=>[(0,.own b 0 n cap),(1,.func (.func g) fi ca),(5,.int .i64 x.1),(6,.int .i64 x.2)])
    (fun x S2=>x.1<x.2∧x.2≤n∧∃ v,S2=supd S' b (.cells tyTu (fl tuC n v) (cap * 6))∧vl x.1 v=(vl x.2 u).filter (fun t=>!p t)∧∀ i,x.2≤i→v i=u i) (fun x=>n-x.2) (k,k+1)
    ⟨by dsimp only;omega,by dsimp only;omega,u,?_,?_,fun _ _=>rfl⟩ rfl ?_
   ·funext c
    unfold supd
    split
    ·rename_i e;subst e;exact h2
    ·rfl
   ·dsimp only
    rw [vl_succ,List.filter_append,filter_none (p:=fun t=>!p t) (n:=k) (u:=u) fun i hi=>by simp [hno i hi]]
    simp [hpk]
   ·rintro ⟨i,j⟩ S2 ⟨hij,hj,v,rfl,hv,hr⟩ kk hkk
    dsimp only at hij hj hv hr ⊢
    (try simp only [rwp,zA,zB,zC,zD,zE,zF,zG,zH,zI,rwb,reduceIte,C112_1])
    have ho:q0i (supd S' b (.cells tyTu (fl tuC n v) (cap * 6))) b=some (tyTu,fl tuC n v,cap * 6):=q0h
    have hc:=q07 ho
    (refine q04 (fun hlt=>?_) (fun hlt=>?_)<;>(try simp only [hlc] at hlt))
    ·have hjn:j<n:=by omega
     obtain ⟨rest,hd⟩:=fl_drop (v:=v) q26 hjn
     rw [hr j (Nat.le_refl _)] at hd
     have ec:tuC (u j)=[.str (u j).o.ty,.str (u j).o.id,.str (u j).rl,.str (u j).s.o.ty,.str (u j).s.o.id,.str (u j).s.rl]:=rfl
     rw [ec] at hd
     simp only [List.cons_append,List.nil_append] at hd
     (try simp only [rwp,zA,zB,zC,zD,zE,zF,zG,zH,zI,rwb,reduceIte,hc,Int.toNat_natCast,Nat.zero_add,hd])
     refine ⟨hlt,?_⟩
     have q:=hp j hjn
     rw [ec] at q
     refine caW_purev q ?_
     have fs:(vl (j+1) u).filter (fun t=>!p t)=(vl j u).filter (fun t=>!p t)++if p (u j) then [] else [u j]:=by
      rw [vl_succ,List.filter_append]
      congr 1
      cases hq:p (u j)<;>simp [hq]
     cases hq:p (u j)
     ·rw [hq] at fs
      have ff:=fl_fill (v:=v) (x:=u j) q26 (show i<n by omega)
      rw [ec] at ff
      (try simp only [rwp,zA,zB,zC,zD,zE,zF,zG,zH,zI,rwb,reduceIte,ho,Int.toNat_natCast,Nat.zero_add,ff])
      refine ⟨by omega,?_⟩
      have fits:i * 6+6≤(fl tuC n v).length:=by rw [q2x q26];omega
      (simp (disch:=omega) only [q03])
      (try simp only [rwp,zA,zB,zC,zD,zE,zF,zG,zH,zI,rwb,reduceIte,fits,q0u])
      refine q09 rfl (hkk (i+1,j+1) _ ⟨by dsimp only;omega,by dsimp only;omega,upv v i (u j),rfl,?_,fun m hm=>?_⟩ (by dsimp only;omega))
      ·dsimp only
       rw [fs,← hv,vl_succ]
       have e1:vl i (upv v i (u j))=vl i v:=by unfold vl;exact List.map_congr_left fun m hm=>if_neg (by simp at hm;omega)
       rw [e1]
       congr 1
       rw [show upv v i (u j) i=u j from if_pos rfl]
       rfl
      ·dsimp only at hm ⊢
       rw [show upv v i (u j) m=v m from if_neg (by omega)]
       exact hr m (by omega)
     ·rw [hq] at fs
      (try simp only [rwp,zA,zB,zC,zD,zE,zF,zG,zH,zI,rwb,reduceIte])
      (simp (disch:=omega) only [q03])
      refine q09 rfl (hkk (i,j+1) _ ⟨by dsimp only;omega,by dsimp only;omega,v,rfl,?_,fun m hm=>hr m (by dsimp only at hm;omega)⟩ (by dsimp only;omega))
      dsimp only
      rw [fs,hv]
      simp
    ·have e:j=n:=by omega
     subst e
     (try simp only [rwp,zA,zB,zC,zD,zE,zF,zG,zH,zI,rwb,reduceIte,loI,hiI,cutI])
     refine ⟨by omega,by omega,⟨tyTu,fl tuC j v,cap * 6,by rw [q01,if_pos rfl],?_,rfl,rfl,?_⟩⟩
     ·rw [q2x q26]
      split
      ·omega
      ·omega
     ·refine ⟨Int.le_refl 0,by omega,?_⟩
      rw [show AV.own b (if cap=0 then 0 else 0) (i-0) (cap-0)=.own b 0 i cap by simp,q0u,← hv]
      refine q02 ⟨_,rfl,Sub.supd h1 hs,fl_rows q26,.inr ⟨b,cap,_,by rw [List.length_map,q1x],h1,by rw [q01,if_pos rfl],?_,?_,by rw [List.length_map,q1x];omega,h4⟩⟩
      ·rw [List.length_map,q1x]
       split
       ·rename_i e
        have ej:j-i=0:=by omega
        rw [ej]
        exact fl_take q26 (by omega)
       ·rw [q90 _ _ _ (by rw [q8s,q2x q26];simp only [List.length_cons,List.length_nil];omega),List.take_append_of_le_length (by rw [List.length_take,q2x q26];omega),List.take_take,Nat.min_self]
        exact fl_take q26 (by omega)
      ·rw [List.length_map,q1x]
       split
       ·rename_i e
        have ej:j-i=0:=by omega
        rw [ej]
        show i * 6≤(fl tuC j v).length
        rw [q2x q26]
        omega
       ·rw [q90 _ _ _ (by rw [q8s,q2x q26];simp only [List.length_cons,List.length_nil];omega)]
        simp only [List.length_append,List.length_take,q2x q26]
        omega
set_option maxRecDepth 4000
set_option maxRecDepth 4000
abbrev tyOb:Nat:=27
set_option maxRecDepth 4000
set_option maxRecDepth 4000
abbrev MO:Bool×List EK:=(true,[.str,.str])
def obA (o:Ob):AV:=.agg (obC o)
theorem ke_ob:KE MO obA:=⟨fun n=>by simp [obA,obC,q0m,q17,ekOk],fun n m h=>by
 obtain ⟨a,b⟩:=n
 obtain ⟨d,e⟩:=m
 simp only [obA,obC,AV.agg.injEq,List.cons.injEq,AV.str.injEq,and_true] at h
 obtain ⟨rfl,rfl⟩:=h
 rfl⟩
section
variable {S0 S S':q00} {t bo:Nat} {Ks Ks':Nat→Prop} {f:Nd→List (List AV)} {es:List (AV×AV×Nat)} {clk:Nat}
theorem OfM.nil {bo:Nat} (hb:sget S0 bo=none) (hs:sget S bo=some (.map MD [] 0)) (hK:∀ c,Ks c→c≠bo∧sget S c≠none):OfM S0 S t bo Ks (fun _=>[]) [] 0:=
 ⟨hs,hb,fun x hx=>(by cases hx),by simp,fun i j x y hx=>by simp at hx,fun x hx=>(by cases hx),fun m _=>rfl,fun m v hv=>(by cases hv),fun m p v u _ hv=>(by cases hv),hK⟩
end
set_option maxRecDepth 4000
set_option maxRecDepth 4000
set_option maxRecDepth 4000
set_option maxRecDepth 4000
theorem Fr.lstW {S0 S:q00} {t sz:Nat} {v:AV} {rows:List (List AV)} (h:LstW S0 S t sz v rows):Fr S0 S v (.sl sz rows):=by
 obtain ⟨hr,⟨rfl,rfl⟩ | ⟨b,cap,cs,rfl,h1,h2,h3,h4,h5,h6⟩⟩:=h
 ·exact .nils sz
 ·exact .ownW t sz b _ cap rows cs hr h1 h2 h3 rfl h5
theorem LstN.keepAt {S0 S S':q00} {t sz:Nat} {v:AV} {rows:List (List AV)} (h:LstN S0 S t sz v rows) (hk:∀ b off n cap,v=.own b off n cap→sget S' b=sget S b):LstN S0 S' t sz v rows:=by
 obtain ⟨hr,h⟩:=h
 refine ⟨hr,?_⟩
 rcases h with h | ⟨b,cap,rfl,h1,h2,h3⟩
 ·exact .inl h
 ·exact .inr ⟨b,cap,rfl,h1,by rw [hk b _ _ _ rfl];exact h2,h3⟩
def ofL (L:List Tu) (n:Nd):List (List AV):=((ofF L n).map Tu.s).map ndC
theorem ofL_take {L:List Tu} {i:Nat} {t:Tu} (h:L[i]?=some t) (n:Nd):ofL (L.take (i+1)) n=ofL (L.take i) n++if n=ndT t then [ndC t.s] else []:=by
 unfold ofL ofF
 rw [q31 h,List.map_append,List.map_append]
 congr 1
 by_cases h2:n=ndT t
 ·rw [if_pos h2]
  subst h2
  simp [ndT]
 ·rw [if_neg h2]
  have:(decide (t.o=n.o)&&decide (t.rl=n.rl))=false:=by
   rw [Bool.eq_false_iff]
   intro hq
   simp only [Bool.and_eq_true,decide_eq_true_eq] at hq
   refine h2 ?_
   cases n
   simp only [ndT,Nd.mk.injEq]
   exact ⟨hq.1.symm,hq.2.symm⟩
  simp [this]
set_option maxRecDepth 4000
section
variable {α:Type} {lt:α→α→Bool}
structure StOk (lt:α→α→Bool):Prop where
 ok:LtOk lt
 tot:∀ x y,lt x y=false→lt y x=false→x=y
theorem StOk.irr (h:StOk lt) (x:α):lt x x=false:=Le.refl h.ok x
theorem StOk.le_lt (h:StOk lt) {x y z:α} (h1:lt y x=false) (h2:lt y z=true):lt x z=true:=by
 cases e:lt x z with
 | true=>rfl
 | false=>
  have:=h.ok.tr z x y e h1
  rw [h2] at this
  cases this
theorem StOk.trans (h:StOk lt) {x y z:α} (h1:lt x y=true) (h2:lt y z=true):lt x z=true:=h.le_lt (h.ok.asy _ _ h1) h2
def Asc (lt:α→α→Bool) (l:List α):Prop:=l.Pairwise fun x y=>lt x y=true
theorem Asc.uniq (h:StOk lt):∀ {l m:List α},Asc lt l→Asc lt m→(∀ x,x∈l↔x∈m)→l=m
 | [],[],_,_,_=>rfl
 | [],b :: m,_,_,hm=>by have:=(hm b).2 (by simp);cases this
 | a :: l,[],_,_,hm=>by have:=(hm a).1 (by simp);cases this
 | a :: l,b :: m,ha,hb,hm=>by
  obtain ⟨ha1,ha2⟩:=List.pairwise_cons.1 ha
  obtain ⟨hb1,hb2⟩:=List.pairwise_cons.1 hb
  have hab:a=b:=by
   rcases List.mem_cons.1 ((hm a).1 (by simp)) with e | e
   ·exact e
   ·rcases List.mem_cons.1 ((hm b).2 (by simp)) with e' | e'
    ·exact e'.symm
    ·have h1:=hb1 a e
     have h2:=ha1 b e'
     rw [h.ok.asy _ _ h2] at h1
     cases h1
  subst hab
  rw [Asc.uniq h (l:=l) (m:=m) ha2 hb2 fun x=>?_]
  constructor
  ·intro hx
   rcases List.mem_cons.1 ((hm x).1 (List.mem_cons_of_mem _ hx)) with e | e
   ·subst e
    have:=ha1 x hx
    rw [h.irr] at this
    cases this
   ·exact e
  ·intro hx
   rcases List.mem_cons.1 ((hm x).2 (List.mem_cons_of_mem _ hx)) with e | e
   ·subst e
    have:=hb1 x hx
    rw [h.irr] at this
    cases this
   ·exact e
variable [DecidableEq α]
def dd (u:Nat→α):Nat→List α
 | 0=>[]
 | i+1=>if 0<i∧u i=u (i-1) then dd u i else dd u i++[u i]
def insO (lt:α→α→Bool):List α→α→List α
 | [],x=>[x]
 | y :: r,x=>if lt y x=true then y :: insO lt r x else if y=x then y :: r else x :: y :: r
theorem mem_insO {x z:α}:∀ {l:List α},z∈insO lt l x↔z∈l∨z=x
 | []=>by simp [insO]
 | y :: r=>by
  have ih:=mem_insO (x:=x) (z:=z) (l:=r)
  unfold insO
  split
  ·rw [List.mem_cons,List.mem_cons,ih,or_assoc]
  ·split
   ·rename_i e
    subst e
    simp only [List.mem_cons]
    constructor
    ·exact .inl
    ·rintro (h | h)
     ·exact h
     ·exact .inl h
   ·simp only [List.mem_cons]
    constructor
    ·rintro (h | h)
     ·exact .inr h
     ·exact .inl h
    ·rintro (h | h)
     ·exact .inr h
     ·exact .inl h
theorem insO_len {x:α}:∀ {l:List α},(insO lt l x).length≤l.length+1
 | []=>by simp [insO]
 | y :: r=>by
  have ih:=insO_len (x:=x) (l:=r)
  unfold insO
  split
  ·simp only [List.length_cons];omega
  ·split<;>simp
theorem insO_asc (h:StOk lt) {x:α}:∀ {l:List α},Asc lt l→Asc lt (insO lt l x)
 | [],_=>List.pairwise_singleton _ _
 | y :: r,hl=>by
  obtain ⟨h1,h2⟩:=List.pairwise_cons.1 hl
  have ih:=insO_asc h (x:=x) (l:=r) h2
  unfold insO
  split
  ·rename_i hyx
   refine List.pairwise_cons.2 ⟨fun z hz=>?_,ih⟩
   rcases mem_insO.1 hz with hz | rfl
   ·exact h1 z hz
   ·exact hyx
  ·rename_i hyx
   split
   ·exact hl
   ·rename_i hne
    have hlt:lt x y=true:=by
     cases e:lt x y with
     | true=>rfl
     | false=>exact absurd (h.tot _ _ (by simpa using hyx) e) hne
    refine List.pairwise_cons.2 ⟨fun z hz=>?_,hl⟩
    rcases List.mem_cons.1 hz with rfl | hz
    ·exact hlt
    ·exact h.trans hlt (h1 z hz)
def srtO (lt:α→α→Bool) (l:List α):List α:=l.foldl (insO lt) []
theorem srtO_snoc {l:List α} {x:α}:srtO lt (l++[x])=insO lt (srtO lt l) x:=by
 unfold srtO
 rw [List.foldl_append]
 rfl
theorem q7f (h:StOk lt):∀ (l:List α) (n:Nat),l.length=n→Asc lt (srtO lt l)∧(∀ z,z∈srtO lt l↔z∈l)∧(srtO lt l).length≤l.length:=by
 intro l n
 induction n generalizing l with
 | zero=>
  intro hl
  have:l=[]:=List.length_eq_zero_iff.1 hl
  subst this
  exact ⟨List.Pairwise.nil,fun z=>by simp [srtO],Nat.le_refl _⟩
 | succ n ih=>
  intro hl
  rcases List.eq_nil_or_concat l with rfl | ⟨r,x,e⟩
  ·cases hl
  ·rw [e] at hl ⊢
   simp only [List.concat_eq_append,List.length_append,List.length_singleton] at hl ⊢
   obtain ⟨h1,h2,h3⟩:=ih r (by omega)
   rw [srtO_snoc]
   refine ⟨insO_asc h h1,fun z=>?_,Nat.le_trans insO_len (by omega)⟩
   rw [mem_insO,h2,List.mem_append,List.mem_singleton]
end
set_option maxRecDepth 4000
abbrev cmpB (a b:ByteArray):Int:=Lib.compareBytes a.data.toList b.data.toList
theorem cb_anti:∀ (l m:List UInt8),Lib.compareBytes l m =-Lib.compareBytes m l
 | [],[]=>rfl
 | [],_ :: _=>rfl
 | _ :: _,[]=>rfl
 | a :: r,b :: q=>by
  have ih:=cb_anti r q
  unfold Lib.compareBytes
  by_cases h1:a<b
  ·have h2:¬ b<a:=by rw [UInt8.lt_iff_toNat_lt] at h1 ⊢;omega
   rw [if_pos h1,if_neg h2,if_pos h1]
  ·by_cases h2:b<a
   ·rw [if_neg h1,if_pos h2,if_pos h2];rfl
   ·rw [if_neg h1,if_neg h2,if_neg h2,if_neg h1];exact ih
theorem cb_eq:∀ (l m:List UInt8),Lib.compareBytes l m=0→l=m
 | [],[],_=>rfl
 | [],_ :: _,h=>by cases h
 | _ :: _,[],h=>by cases h
 | a :: r,b :: q,h=>by
  have ih:=cb_eq r q
  unfold Lib.compareBytes at h
  by_cases h1:a<b
  ·rw [if_pos h1] at h;cases h
  ·by_cases h2:b<a
   ·rw [if_neg h1,if_pos h2] at h;cases h
   ·rw [if_neg h1,if_neg h2] at h
    have:a=b:=by
     rw [UInt8.lt_iff_toNat_lt] at h1 h2
     exact UInt8.toNat_inj.1 (by omega)
    rw [this,ih h]
theorem cb_trans:∀ (l m k:List UInt8),Lib.compareBytes l m≤0→Lib.compareBytes m k≤0→Lib.compareBytes l k≤0
 | [],_,[],_,_=>Int.le_refl 0
 | [],_,_ :: _,_,_=>by show (-1:Int)≤0;decide
 | a :: r,[],_,h,_=>by
  have h:(1:Int)≤0:=h
  omega
 | a :: r,b :: q,[],_,h=>by
  have h:(1:Int)≤0:=h
  omega
 | a :: r,b :: q,c :: p,h1,h2=>by
  have ih:=cb_trans r q p
  unfold Lib.compareBytes at h1 h2 ⊢
  simp only [UInt8.lt_iff_toNat_lt] at h1 h2 ⊢
  by_cases x1:a.toNat<b.toNat
  ·by_cases x2:b.toNat<c.toNat
   ·rw [if_pos (by omega)];decide
   ·by_cases x3:c.toNat<b.toNat
    ·rw [if_neg x2,if_pos x3] at h2;exact absurd h2 (by decide)
    ·rw [if_pos (by omega)];decide
  ·by_cases x3:b.toNat<a.toNat
   ·rw [if_neg x1,if_pos x3] at h1;exact absurd h1 (by decide)
   ·rw [if_neg x1,if_neg x3] at h1
    by_cases x2:b.toNat<c.toNat
    ·rw [if_pos (by omega)];decide
    ·by_cases x4:c.toNat<b.toNat
     ·rw [if_neg x2,if_pos x4] at h2;exact absurd h2 (by decide)
     ·rw [if_neg x2,if_neg x4] at h2
      rw [if_neg (by omega),if_neg (by omega)]
      exact ih h1 h2
def cmpO (a b:Ob):Int:=if cmpB a.ty b.ty=0 then cmpB a.id b.id else cmpB a.ty b.ty
def ltO (a b:Ob):Bool:=decide (cmpO a b<0)
theorem cmpB_eq {a b:ByteArray} (h:cmpB a b=0):a=b:=by
 have:=cb_eq _ _ h
 obtain ⟨⟨la⟩⟩:=a
 obtain ⟨⟨lb⟩⟩:=b
 have e:la=lb:=this
 rw [e]
theorem q57 (a b:Ob):cmpO a b =-cmpO b a:=by
 have h1:=cb_anti a.ty.data.toList b.ty.data.toList
 have h2:=cb_anti a.id.data.toList b.id.data.toList
 unfold cmpO cmpB
 split<;>split<;>omega
theorem cmpO_eq {a b:Ob} (h:cmpO a b=0):a=b:=by
 unfold cmpO at h
 split at h
 ·rename_i h1
  cases a;cases b
  simp only at h h1
  rw [cmpB_eq h,cmpB_eq h1]
 ·contradiction
theorem cmpO_trans {a b c:Ob} (h1:cmpO a b≤0) (h2:cmpO b c≤0):cmpO a c≤0:=by
 unfold cmpO at h1 h2 ⊢
 by_cases e1:cmpB a.ty b.ty=0
 ·rw [if_pos e1] at h1
  have e:=cmpB_eq e1
  rw [e]
  by_cases e2:cmpB b.ty c.ty=0
  ·rw [if_pos e2] at h2 ⊢
   exact cb_trans _ _ _ h1 h2
  ·rw [if_neg e2] at h2 ⊢
   exact h2
 ·rw [if_neg e1] at h1
  by_cases e2:cmpB b.ty c.ty=0
  ·have e:=cmpB_eq e2
   rw [← e,if_neg e1]
   exact h1
  ·rw [if_neg e2] at h2
   have h3:cmpB a.ty c.ty≤0:=cb_trans _ _ _ h1 h2
   by_cases e3:cmpB a.ty c.ty=0
   ·exfalso
    have e:=cmpB_eq e3
    rw [← e] at h2
    have:=cb_anti a.ty.data.toList b.ty.data.toList
    unfold cmpB at h1 h2 e1 e2
    omega
   ·rw [if_neg e3];exact h3
theorem stO:StOk ltO:=by
 refine ⟨⟨fun x y h=>?_,fun x y z h1 h2=>?_⟩,fun x y h1 h2=>?_⟩
 ·unfold ltO at h ⊢
  have:=q57 x y
  rw [decide_eq_true_eq] at h
  rw [decide_eq_false_iff_not]
  omega
 ·unfold ltO at h1 h2 ⊢
  rw [decide_eq_false_iff_not] at h1 h2 ⊢
  have a1:=q57 y x
  have a2:=q57 z y
  have a3:=q57 z x
  have:=cmpO_trans (a:=x) (b:=y) (c:=z) (by omega) (by omega)
  omega
 ·unfold ltO at h1 h2
  rw [decide_eq_false_iff_not] at h1 h2
  have:=q57 x y
  exact cmpO_eq (by omega)
theorem c_cmpstring (a b:ByteArray):AFun PG 166 [.str a,.str b] (.int .i64 (cmpB a b)):=by
 intro S R w vs hs hv
 obtain ⟨l⟩:=vs
 match l,hv with
 | [],hv=>cases hv.1
 | [_],hv=>cases hv.1
 | _ :: _ :: _ :: _,hv=>cases hv.1
 | [x,y],hv=>
  have h1:RV R w (.str a) x:=hv.head
  have h2:RV R w (.str b) y:=hv.tail.head
  cases h1
  cases h2
  refine .inr ⟨_,w,?_,R,S,.ret (.int .i64 (cmpB a b)),.int _ _,⟨rfl,rfl⟩,hs,Step.refl _ _ _⟩
  rw [run_callFunc_extern Go.Proofs.Tryz.func166 (by kernel_rfl) (by kernel_rfl) (by kernel_rfl) (e:=Extern.BytealgCompare.compare) (by kernel_rfl),Lib.run_compareString]
  rfl
theorem c_CompareString (a b:ByteArray):AFun PG nrx117 [.str a,.str b] (.int .i64 (cmpB a b)):=by
 intro S
 refine wx117 ?_
 unfold Bx117
 refine q05 (c_cmpstring a b) ?_
 exact q02 ⟨rfl,rfl⟩
theorem c_Compare (a b:ByteArray):AFun PG nrx62 [.str a,.str b] (.int .i64 (cmpB a b)):=by
 intro S
 refine wx62 ?_
 unfold Bx62
 refine q05 (c_CompareString a b) ?_
 exact q02 ⟨rfl,rfl⟩
theorem c_Or2 (x y:Int):AFun PG nrx61 [.sl 1 [[.int .i64 x],[.int .i64 y]]] (.int .i64 (if x=0 then y else x)):=by
 intro S
 refine wx61 ?_
 unfold Bx61
 (try simp only [rwp,zA,zB,zC,zD,zE,zF,zG,zH,zI,rwb,reduceIte,List.length_cons,List.length_nil])
 refine LoopP.introS (fun i:Nat=>[(3,.int .i64 0),(6,.sl 1 [[.int .i64 x],[.int .i64 y]]),(7,.int .i64 2),(8,.int .i64 i)]) (fun i S'=>S'=S∧i≤2∧(0<i→x=0)∧(1<i→y=0)) (fun i=>2-i) 0 ⟨rfl,by omega,fun h=>by omega,fun h=>by omega⟩ rfl ?_
 rintro i S' ⟨rfl,hi,h1,h2⟩ kk hkk
 (try simp only [rwp,zA,zB,zC,zD,zE,zF,zG,zH,zI,rwb,reduceIte,C61_1])
 (refine q04 (fun hlt=>?_) (fun hlt=>?_)<;>(try simp only [hlc] at hlt))
 ·have h01:i=0∨i=1:=by omega
  have step:(i=0→x=0)→(i=1→y=0)→rcW kk [(3,.int .i64 0),(6,.sl 1 [[.int .i64 x],[.int .i64 y]]),(7,.int .i64 2),(8,.int .i64 (IntKind.i64.wrap (↑i+1)))] S':=by
   intro q1 q2
   (simp (disch:=omega) only [q03])
   exact q09 rfl (hkk (i+1) _ ⟨rfl,by omega,fun _=>h01.elim q1 (fun e=>h1 (by omega)),fun h=>q2 (by omega)⟩ (by omega))
  rcases h01 with e | e
  ·subst e
   (try simp only [rwp,zA,zB,zC,zD,zE,zF,zG,zH,zI,rwb,reduceIte,List.getElem?_cons_zero])
   cases a1:decide (x=0)
   ·(try simp only [rwp,zA,zB,zC,zD,zE,zF,zG,zH,zI,rwb,reduceIte])
    exact q02 ⟨by rw [if_neg (of_decide_eq_false a1)],rfl⟩
   ·(try simp only [rwp,zA,zB,zC,zD,zE,zF,zG,zH,zI,rwb,reduceIte])
    exact step (fun _=>of_decide_eq_true a1) (fun h=>by omega)
  ·subst e
   have hx:=h1 (by omega)
   (try simp only [rwp,zA,zB,zC,zD,zE,zF,zG,zH,zI,rwb,reduceIte,List.getElem?_cons_zero,List.getElem?_cons_succ])
   cases a1:decide (y=0)
   ·(try simp only [rwp,zA,zB,zC,zD,zE,zF,zG,zH,zI,rwb,reduceIte])
    exact q02 ⟨by rw [if_pos hx],rfl⟩
   ·(try simp only [rwp,zA,zB,zC,zD,zE,zF,zG,zH,zI,rwb,reduceIte])
    exact step (fun h=>by omega) (fun _=>of_decide_eq_true a1)
 ·(try simp only [rwp,zA,zB,zC,zD,zE,zF,zG,zH,zI,rwb,reduceIte])
  have hx:=h1 (by omega)
  have hy:=h2 (by omega)
  exact q02 ⟨by rw [if_pos hx,hy],rfl⟩
set_option maxRecDepth 4000
theorem quoN {x y:Int} {a b:Nat} {K:AV→Prop} (hx:x=a) (hy:y=b) (hb:0<b) (ha:a≤1000000) (hk:K (.int .i64 ((a / b:Nat):Int))):biW .quo (.int .i64 x) (.int .i64 y) K:=by
 subst hx
 subst hy
 have h0:¬ (b:Int)=0:=by omega
 have e:biW .quo (.int .i64 (a:Int)) (.int .i64 (b:Int)) K=K (.int .i64 (IntKind.i64.wrap ((a:Int).tdiv b))):=by
  have e1:biW .quo (.int .i64 (a:Int)) (.int .i64 (b:Int)) K=q0k (if (b:Int)=0 then none else some (.int .i64 (IntKind.i64.wrap ((a:Int).tdiv b)))) K:=rfl
  rw [e1,if_neg h0]
  rfl
 rw [e,show (a:Int).tdiv b=((a / b:Nat):Int) from rfl]
 have:a / b≤a:=Nat.div_le_self _ _
 generalize a / b=q at this hk ⊢
 (simp (disch:=omega) only [q03])
 exact hk
structure Dat (D:AV) (pt:Nat→AV) (SS:(Nat→Ob)→q00) (n:Nat):Prop where
 ia:∀ {i:Nat} {x:Int} {K:AV→Prop},x=i→i<n→K (pt i)→iaW 2 D (.int .i64 x) K
 ld:∀ {v:Nat→Ob} {i:Nat} {K:AV→Prop},i<n→K (.agg (obC (v i)))→ldW (SS v) 2 true (pt i) K
 st:∀ {v:Nat→Ob} {i:Nat} {x:Ob} {KT:q00→Prop},i<n→KT (SS (upv v i x))→stW (SS v) 2 (pt i) (.agg (obC x)) KT
 ln:∀ {v:Nat→Ob} {K:AV→Prop},K (.int .i64 n)→lnW (SS v) 1 D K
 bd:n≤100000
 fr:∀ {v:Nat→Ob} {c:Nat} {X:AObj} {i:Nat} {K:AV→Prop},sget (SS v) c=none→i<n→K (.agg (obC (v i)))→ldW (supd (SS v) c X) 2 true (pt i) K
 fs:∀ {v:Nat→Ob} {c:Nat} {X:AObj} {i:Nat} {x:Ob} {KT:q00→Prop},sget (SS v) c=none→i<n→KT (supd (SS (upv v i x)) c X)→stW (supd (SS v) c X) 2 (pt i) (.agg (obC x)) KT
 fn:∀ {v w:Nat→Ob} {c:Nat},sget (SS v) c=none→sget (SS w) c=none
theorem supd_swap {S:q00} {b c:Nat} (h:b≠c) (x y:AObj):supd (supd S b x) c y=supd (supd S c y) b x:=by
 funext d
 unfold supd
 by_cases h1:c=d
 ·subst h1;simp [h]
 ·by_cases h2:b=d<;>simp [h1,h2]
theorem dat_own {S0:q00} {b n cap:Nat} (hn:n≤cap) (hb:n≤100000):Dat (.own b 0 n cap) (fun i=>.ptr b (i * 2)) (fun v=>supd S0 b (.cells tyOb (fl obC n v) (cap * 2))) n:=by
 have hlen:∀ x:Ob,(obC x).length=2:=fun x=>rfl
 have ne:∀ {v:Nat→Ob} {c:Nat},sget (supd S0 b (.cells tyOb (fl obC n v) (cap * 2))) c=none→b≠c:=by
  intro v c hc e
  rw [q01,if_pos e] at hc
  cases hc
 refine ⟨fun {i x K} e hi hk=>?_,fun {v i K} hi hk=>?_,fun {v i x KT} hi hk=>?_,fun {v K} hk=>?_,hb,fun {v c X i K} hc hi hk=>?_,fun {v c X i x KT} hc hi hk=>?_,fun {v w c} hc=>?_⟩
 ·subst e
  rw [iaW_own]
  refine ⟨by omega,by omega,?_⟩
  simpa using hk
 ·have hc:=q07 (q0h (S:=supd S0 b (.cells tyOb (fl obC n v) (cap * 2))) (b:=b) (t:=tyOb) (tot:=cap * 2) (cs:=fl obC n v))
  rw [q0u] at hc
  obtain ⟨rest,hd⟩:=fl_drop (v:=v) hlen hi
  rw [ldW_ptr,hc,lcW_some,hd,mkW_agg]
  exact hk
 ·have ho:=q0h (S:=S0) (b:=b) (t:=tyOb) (tot:=cap * 2) (cs:=fl obC n v)
  rw [q3y,ho,q35]
  refine ⟨rfl,?_,rfl,?_⟩
  ·rw [q2x hlen];omega
  ·rw [show q08 (.agg (obC x))=obC x from rfl,fl_fill hlen hi,q0u]
   exact hk
 ·rw [lnW_own];exact hk
 ·have hne:=ne hc
  have hc:=q07 (objAt_some.2 (show sget (supd (supd S0 b (.cells tyOb (fl obC n v) (cap * 2))) c X) b=some (.cells tyOb (fl obC n v) (cap * 2)) by rw [q01,if_neg (Ne.symm hne),q01,if_pos rfl]))
  obtain ⟨rest,hd⟩:=fl_drop (v:=v) hlen hi
  rw [ldW_ptr,hc,lcW_some,hd,mkW_agg]
  exact hk
 ·have hne:=ne hc
  have ho:=objAt_some.2 (show sget (supd (supd S0 b (.cells tyOb (fl obC n v) (cap * 2))) c X) b=some (.cells tyOb (fl obC n v) (cap * 2)) by rw [q01,if_neg (Ne.symm hne),q01,if_pos rfl])
  rw [q3y,ho,q35]
  refine ⟨rfl,?_,rfl,?_⟩
  ·rw [q2x hlen];omega
  ·rw [show q08 (.agg (obC x))=obC x from rfl,fl_fill hlen hi,supd_swap (Ne.symm hne),q0u]
   exact hk
 ·have hne:=ne hc
  rw [q01,if_neg hne] at hc ⊢
  exact hc
section
variable {D:AV} {pt:Nat→AV} {SS:(Nat→Ob)→q00} {n g:Nat} {c:Ob→Ob→Int}
abbrev fnG (g:Nat):AV:=.func (.func g) [] []
def ltC (c:Ob→Ob→Int) (x y:Ob):Bool:=decide (c x y<0)
theorem c_ins (hD:Dat D pt SS n) (hg:∀ x y,AFun PG g [.agg (obC x),.agg (obC y)] (.int .i64 (c x y))) (ho:LtOk (ltC c)) {a b:Nat} (hab:a≤b) (hb:b≤n) (v:Nat→Ob) :
  ACalls PG nrx156 [D,.int .i64 a,.int .i64 b,fnG g] (SS v) fun ae S'=>ae=.ret (.tup [])∧∃ w,S'=SS w∧Rng n a b v w∧Srt (ltC c) a b w:=by
 have hn:=hD.bd
 refine wx156 ?_
 unfold Bx156
 (try simp only [rwp,zA,zB,zC,zD,zE,zF,zG,zH,zI,rwb,reduceIte])
 (simp (disch:=omega) only [q03])
 refine LoopP.introS (fun i:Nat=>[(0,D),(1,.int .i64 a),(2,.int .i64 b),(3,fnG g),(8,.int .i64 i)]) (fun i S'=>a+1≤i∧i≤b+1∧∃ w,S'=SS w∧Rng n a b v w∧Srt (ltC c) a i w) (fun i=>b+1-i) (a+1)
  ⟨by omega,by omega,v,rfl,Rng.refl _ _ _ _,Srt.one (by omega)⟩ (by rfl) ?_
 rintro i S1 ⟨hi1,hi2,w,rfl,hr,hs⟩ kk hkk
 (try simp only [rwp,zA,zB,zC,zD,zE,zF,zG,zH,zI,rwb,reduceIte,C156_1])
 (refine q04 (fun hlt=>?_) (fun hlt=>?_)<;>(try simp only [hlc] at hlt))
 ·refine LoopP.introS (fun j:Nat=>[(0,D),(1,.int .i64 a),(2,.int .i64 b),(3,fnG g),(8,.int .i64 i),(9,.int .i64 j)]) (fun j S'=>∃ u,S'=SS u∧Rng n a b v u∧InsI (ltC c) a i j u) (fun j=>j) i
   ⟨w,rfl,hr,InsI.start hs (by omega)⟩ rfl ?_
  rintro j S2 ⟨u,rfl,hru,hu⟩ kk2 hkk2
  have h1:=hu.lo
  have h2:=hu.hi
  have stop:(j=a∨Le (ltC c) (u (j-1)) (u j))→rcW kk [(0,D),(1,.int .i64 a),(2,.int .i64 b),(3,fnG g),(8,.int .i64 (IntKind.i64.wrap (↑i+1)))] (SS u):=by
   intro hq
   (simp (disch:=omega) only [q03])
   exact q09 rfl (hkk (i+1) _ ⟨by omega,by omega,u,rfl,hru,hu.stop ho hq⟩ (by omega))
  (try simp only [rwp,zA,zB,zC,zD,zE,zF,zG,zH,zI,rwb,reduceIte,C156_2])
  cases a1:decide ((a:Int)<j)
  ·(try simp only [rwp,zA,zB,zC,zD,zE,zF,zG,zH,zI,rwb,reduceIte,C156_3])
   exact stop (.inl (by have:=of_decide_eq_false a1;omega))
  ·have haj:=of_decide_eq_true a1
   (try simp only [rwp,zA,zB,zC,zD,zE,zF,zG,zH,zI,rwb,reduceIte])
   refine hD.ia (i:=j) rfl (by omega) ?_
   (try simp only [rwp,zA,zB,zC,zD,zE,zF,zG,zH,zI,rwb,reduceIte])
   (simp (disch:=omega) only [q03])
   refine hD.ia (i:=j-1) (by omega) (by omega) ?_
   refine hD.ld (by omega) (hD.ld (by omega) ?_)
   refine q05 (hg _ _) ?_
   (try simp only [rwp,zA,zB,zC,zD,zE,zF,zG,zH,zI,rwb,reduceIte])
   cases a2:decide (c (u j) (u (j-1))<0)
   ·(try simp only [rwp,zA,zB,zC,zD,zE,zF,zG,zH,zI,rwb,reduceIte,C156_3])
    exact stop (.inr a2)
   ·(try simp only [rwp,zA,zB,zC,zD,zE,zF,zG,zH,zI,rwb,reduceIte,C156_3])
    (simp (disch:=omega) only [q03])
    refine hD.ia (i:=j-1) (by omega) (by omega) ?_
    refine hD.ia (i:=j) rfl (by omega) ?_
    refine hD.ld (by omega) (hD.ld (by omega) ?_)
    refine hD.ia (i:=j) rfl (by omega) ?_
    refine hD.st (by omega) ?_
    refine hD.ia (i:=j-1) (by omega) (by omega) ?_
    refine hD.st (by omega) ?_
    rw [sw_upv]
    (try simp only [rwp,zA,zB,zC,zD,zE,zF,zG,zH,zI,rwb,reduceIte])
    (try (simp (disch:=omega) only [q03]))
    have ej:(j:Int)-1=((j-1:Nat):Int):=by omega
    rw [ej]
    exact q09 rfl (hkk2 (j-1) _ ⟨_,rfl,hru.trans (Rng.sw (by omega) (by omega) (by omega) (by omega) hb),hu.step ho (by omega) a2⟩ (by omega))
 ·(try simp only [rwp,zA,zB,zC,zD,zE,zF,zG,zH,zI,rwb,reduceIte])
  exact q2b ⟨rfl,w,rfl,hr,fun p q h1 h2 h3=>hs p q h1 h2 (by omega)⟩
end
def SortOk (N:Nat):Prop:=∀ (D:AV) (pt:Nat→AV) (SS:(Nat→Ob)→q00) (n g:Nat) (c:Ob→Ob→Int),Dat D pt SS n→(∀ x y,AFun PG g [.agg (obC x),.agg (obC y)] (.int .i64 (c x y)))→LtOk (ltC c)→n≤N→∀ v:Nat→Ob,
 ACalls PG nrx59 [D,fnG g] (SS v) fun ae S'=>ae=.ret (.tup [])∧∃ w,S'=SS w∧Rng n 0 n v w∧Srt (ltC c) 0 n w
def len8:ByteArray:=⟨#[0,1,2,2,3,3,3,3,4,4,4,4,4,4,4,4,5,5,5,5,5,5,5,5,5,5,5,5,5,5,5,5,6,6,6,6,6,6,6,6,6,6,6,6,6,6,6,6,6,6,6,6,6,6,6,6,6,6,6,6,6,6,6,6,7,7,7,7,7,7,7,7,7,7,7,7,7,7,7,7,7,7,7,7,7,7,7,7,7,7,7,7,7,7,7,7,7,7,7,7,7,7,7,7,7,7,7,7,7,7,7,7,7,7,7,7,7,7,7,7,7,7,7,7,7,7,7,7,8,8,8,8,8,8,8,8,8,8,8,8,8,8,8,8,8,8,8,8,8,8,8,8,8,8,8,8,8,8,8,8,8,8,8,8,8,8,8,8,8,8,8,8,8,8,8,8,8,8,8,8,8,8,8,8,8,8,8,8,8,8,8,8,8,8,8,8,8,8,8,8,8,8,8,8,8,8,8,8,8,8,8,8,8,8,8,8,8,8,8,8,8,8,8,8,8,8,8,8,8,8,8,8,8,8,8,8,8,8,8,8,8,8,8,8,8,8,8,8,8,8,8,8,8,8,8,8]⟩
def lenF (n:Nat):Nat:=(len8.data.toList.getD n 0).toNat
theorem lenF_ok:∀ n:Fin 256,n.1<2 ^ lenF n.1∧(n.1=0∨2 ^ lenF n.1≤2 * n.1)∧lenF n.1≤8:=by decide +kernel
theorem c_Len64 {n:Nat} (hn:n<256):AFun PG nrx165 [.int .u64 n] (.int .i64 (lenF n)):=by
 intro S
 refine wx165 ?_
 unfold Bx165
 (try simp only [rwp,zA,zB,zC,zD,zE,zF,zG,zH,zI,rwb,reduceIte,C165_1,C165_2])
 rw [decide_eq_false (show ¬ (4294967296:Int)≤n by omega)]
 refine q3k ?_
 rw [decide_eq_false (show ¬ (65536:Int)≤n by omega)]
 refine q3k ?_
 rw [decide_eq_false (show ¬ (256:Int)≤n by omega)]
 refine q3k ?_
 have hb:len8[n]?=some (len8.data.toList.getD n 0).toNat.toUInt8:=by
  rw [q76]
  have hl:n<len8.data.toList.length:=by show n<256;exact hn
  rw [List.getD_eq_getElem?_getD,List.getElem?_eq_getElem hl]
  simp
 have h8:lenF n≤8:=(lenF_ok ⟨n,hn⟩).2.2
 have hw:IntKind.u8.wrap (n:Int)=n:=(show ∀ n:Fin 256,IntKind.u8.wrap (n.1:Int)=n.1 by decide +kernel) ⟨n,hn⟩
 have hv:((len8.data.toList.getD n 0).toNat.toUInt8).toNat=lenF n:=by
  unfold lenF
  simp
 show C165_3 _ (.int .u64 n) (.int .i64 0) S
 unfold C165_3
 change (cvW .u8 (.int .u64 n) fun v21=>isW (.str len8) v21 fun v22=>_)
 (try simp only [rwp,zA,zB,zC,zD,zE,zF,zG,zH,zI,rwb,reduceIte,hw,hb])
 rw [hv]
 (simp (disch:=omega) only [q03])
 exact q02 ⟨by rw [Int.zero_add],rfl⟩
theorem c_Len {n:Nat} (hn:n<256):AFun PG nrx116 [.int .u64 n] (.int .i64 (lenF n)):=by
 intro S
 refine wx116 ?_
 unfold Bx116
 (try simp only [rwp,zA,zB,zC,zD,zE,zF,zG,zH,zI,rwb,reduceIte])
 refine q05 (c_Len64 hn) ?_
 exact q02 ⟨rfl,rfl⟩
set_option maxRecDepth 4000
set_option maxRecDepth 4000
set_option maxRecDepth 4000
theorem dat_nil (S:q00):Dat .nils (fun _=>.nils) (fun _=>S) 0:=⟨fun _ h=>absurd h (by omega),fun h=>absurd h (by omega),fun h=>absurd h (by omega),fun hk=>by rw [q8x];exact hk,by omega,fun _ h=>absurd h (by omega),fun _ h=>absurd h (by omega),fun h=>h⟩
set_option maxRecDepth 4000
section
variable {D:AV} {pt:Nat→AV} {SS:(Nat→Ob)→q00} {n g:Nat} {c:Ob→Ob→Int}
theorem c_sift (hD:Dat D pt SS n) (hg:∀ x y,AFun PG g [.agg (obC x),.agg (obC y)] (.int .i64 (c x y))) (ho:LtOk (ltC c)) {f lo hi:Nat} (hh:f+hi≤n) (hlo:lo≤n) (v:Nat→Ob) (h0:Sif (ltC c) f lo hi lo v) :
  ACalls PG nrx194 [D,.int .i64 lo,.int .i64 hi,.int .i64 f,fnG g] (SS v) fun ae S'=>ae=.ret (.tup [])∧∃ w,S'=SS w∧Rng n f (f+hi) v w∧Hp (ltC c) f lo hi w:=by
 have hn:=hD.bd
 refine wx194 ?_
 unfold Bx194
 refine LoopP.introS (fun r:Nat=>[(0,D),(2,.int .i64 hi),(3,.int .i64 f),(4,fnG g),(10,.int .i64 r)]) (fun r S'=>r≤n∧∃ w,S'=SS w∧Rng n f (f+hi) v w∧Sif (ltC c) f lo hi r w) (fun r=>n-r) lo
  ⟨hlo,v,rfl,Rng.refl _ _ _ _,h0⟩ rfl ?_
 rintro r S1 ⟨hrn,w,rfl,hr,hs⟩ kk hkk
 (try simp only [rwp,zA,zB,zC,zD,zE,zF,zG,zH,zI,rwb,reduceIte,C194_1])
 (try (simp (disch:=omega) only [q03]))
 cases a1:decide ((hi:Int)≤2 * r+1)
 ·have hch:2 * r+1<hi:=by have:=of_decide_eq_false a1;omega
  have fin:∀ ch:Nat,Best (ltC c) f hi r ch w→C194_3 (fun ae S'=>ae=.ret (.tup [])∧∃ w,S'=SS w∧Rng n f (f+hi) v w∧Hp (ltC c) f lo hi w) kk D (.int .i64 hi) (.int .i64 f) (fnG g) (.int .i64 r) (.int .i64 ch) (SS w):=by
   intro ch hb
   have h1:=hb.cc
   have h2:=hb.cl
   (try simp only [rwp,zA,zB,zC,zD,zE,zF,zG,zH,zI,rwb,reduceIte,C194_3])
   (try (simp (disch:=omega) only [q03]))
   refine hD.ia (i:=f+r) (by omega) (by omega) ?_
   (try simp only [rwp,zA,zB,zC,zD,zE,zF,zG,zH,zI,rwb,reduceIte])
   (try (simp (disch:=omega) only [q03]))
   refine hD.ia (i:=f+ch) (by omega) (by omega) (hD.ld (by omega) (hD.ld (by omega) ?_))
   refine q05 (hg _ _) ?_
   (try simp only [rwp,zA,zB,zC,zD,zE,zF,zG,zH,zI,rwb,reduceIte])
   cases a2:decide (c (w (f+r)) (w (f+ch))<0)
   ·(try simp only [rwp,zA,zB,zC,zD,zE,zF,zG,zH,zI,rwb,reduceIte])
    exact q2b ⟨rfl,w,rfl,hr,hs.stop ho hb a2⟩
   ·(try simp only [rwp,zA,zB,zC,zD,zE,zF,zG,zH,zI,rwb,reduceIte])
    (try (simp (disch:=omega) only [q03]))
    refine hD.ia (i:=f+ch) (by omega) (by omega) ?_
    (try simp only [rwp,zA,zB,zC,zD,zE,zF,zG,zH,zI,rwb,reduceIte])
    (try (simp (disch:=omega) only [q03]))
    refine hD.ia (i:=f+r) (by omega) (by omega) (hD.ld (by omega) (hD.ld (by omega) ?_))
    refine hD.ia (i:=f+r) (by omega) (by omega) (hD.st (by omega) ?_)
    refine hD.ia (i:=f+ch) (by omega) (by omega) (hD.st (by omega) ?_)
    rw [sw_upv]
    exact q09 rfl (hkk ch _ ⟨by omega,_,rfl,hr.trans (Rng.sw (by omega) (by omega) (by omega) (by omega) hh),hs.step ho hb a2⟩ (by omega))
  (try simp only [rwp,zA,zB,zC,zD,zE,zF,zG,zH,zI,rwb,reduceIte])
  (try (simp (disch:=omega) only [q03]))
  cases a3:decide ((2:Int) * r+1+1<hi)
  ·(try simp only [rwp,zA,zB,zC,zD,zE,zF,zG,zH,zI,rwb,reduceIte,C194_2])
   have q:=fin (2 * r+1) ⟨.inl rfl,hch,fun d hd hdh=>by
    have:=of_decide_eq_false a3
    have e:d=2 * r+1:=by omega
    rw [e]
    exact Le.refl ho _⟩
   rw [show ((2 * r+1:Nat):Int)=2 * (r:Int)+1 by omega] at q
   exact q
  ·have hlt:=of_decide_eq_true a3
   (try simp only [rwp,zA,zB,zC,zD,zE,zF,zG,zH,zI,rwb,reduceIte])
   (try (simp (disch:=omega) only [q03]))
   refine hD.ia (i:=f+(2 * r+1)) (by omega) (by omega) ?_
   (try simp only [rwp,zA,zB,zC,zD,zE,zF,zG,zH,zI,rwb,reduceIte])
   (try (simp (disch:=omega) only [q03]))
   refine hD.ia (i:=f+(2 * r+2)) (by omega) (by omega) (hD.ld (by omega) (hD.ld (by omega) ?_))
   refine q05 (hg _ _) ?_
   (try simp only [rwp,zA,zB,zC,zD,zE,zF,zG,zH,zI,rwb,reduceIte])
   cases a4:decide (c (w (f+(2 * r+1))) (w (f+(2 * r+2)))<0)
   ·(try simp only [rwp,zA,zB,zC,zD,zE,zF,zG,zH,zI,rwb,reduceIte,C194_2])
    have q:=fin (2 * r+1) ⟨.inl rfl,hch,fun d hd hdh=>by
     rcases hd with rfl | rfl
     ·exact Le.refl ho _
     ·exact a4⟩
    rw [show ((2 * r+1:Nat):Int)=2 * (r:Int)+1 by omega] at q
    exact q
   ·(try simp only [rwp,zA,zB,zC,zD,zE,zF,zG,zH,zI,rwb,reduceIte,C194_2])
    (try (simp (disch:=omega) only [q03]))
    have q:=fin (2 * r+2) ⟨.inr rfl,by omega,fun d hd hdh=>by
     rcases hd with rfl | rfl
     ·exact Le.of_lt ho a4
     ·exact Le.refl ho _⟩
    rw [show ((2 * r+2:Nat):Int)=2 * (r:Int)+1+1 by omega] at q
    exact q
 ·(try simp only [rwp,zA,zB,zC,zD,zE,zF,zG,zH,zI,rwb,reduceIte])
  exact q2b ⟨rfl,w,rfl,hr,hs.stop0 (by have:=of_decide_eq_true a1;omega)⟩
theorem c_heap (hD:Dat D pt SS n) (hg:∀ x y,AFun PG g [.agg (obC x),.agg (obC y)] (.int .i64 (c x y))) (ho:LtOk (ltC c)) {a b:Nat} (hab:a<b) (hb:b≤n) (v:Nat→Ob) :
  ACalls PG nrx157 [D,.int .i64 a,.int .i64 b,fnG g] (SS v) fun ae S'=>ae=.ret (.tup [])∧∃ w,S'=SS w∧Rng n a b v w∧Srt (ltC c) a b w:=by
 have hn:=hD.bd
 refine wx157 ?_
 unfold Bx157
 obtain ⟨hi,rfl⟩:∃ hi,b=a+hi:=⟨b-a,by omega⟩
 (try simp only [rwp,zA,zB,zC,zD,zE,zF,zG,zH,zI,rwb,reduceIte])
 (try (simp (disch:=omega) only [q03]))
 have e1:((a+hi:Nat):Int)-a=hi:=by omega
 rw [e1]
 refine quoN (a:=hi-1) (b:=2) (by omega) rfl (by omega) (by omega) ?_
 refine LoopP.introS (fun m:Nat=>[(0,D),(3,fnG g),(8,.int .i64 a),(9,.int .i64 0),(10,.int .i64 hi),(11,.int .i64 ((m:Int)-1))]) (fun m S'=>m≤hi∧∃ w,S'=SS w∧Rng n a (a+hi) v w∧Hp (ltC c) a m hi w) (fun m=>m) ((hi-1) / 2+1)
  ⟨by omega,v,rfl,Rng.refl _ _ _ _,fun p q h1 h2 h3=>by omega⟩ (by rw [show (((hi-1) / 2+1:Nat):Int)-1=(((hi-1) / 2:Nat):Int) by omega]) ?_
 rintro m S1 ⟨hm,w,rfl,hr,hp⟩ kk hkk
 (try simp only [rwp,zA,zB,zC,zD,zE,zF,zG,zH,zI,rwb,reduceIte,C157_1])
 cases a1:decide ((0:Int)≤(m:Int)-1)
 ·have e:m=0:=by have:=of_decide_eq_false a1;omega
  subst e
  (try simp only [rwp,zA,zB,zC,zD,zE,zF,zG,zH,zI,rwb,reduceIte])
  (try (simp (disch:=omega) only [q03]))
  refine LoopP.introS (fun m:Nat=>[(0,D),(3,fnG g),(8,.int .i64 a),(9,.int .i64 0),(12,.int .i64 ((m:Int)-1))]) (fun m S'=>m≤hi∧∃ w,S'=SS w∧Rng n a (a+hi) v w∧Pop (ltC c) a m hi w) (fun m=>m) hi
   ⟨by omega,w,rfl,hr,⟨hp,Srt.one (by omega),fun i j h1 h2 h3=>by omega⟩⟩ rfl ?_
  rintro m S2 ⟨hm2,u,rfl,hru,hpu⟩ kk2 hkk2
  (try simp only [rwp,zA,zB,zC,zD,zE,zF,zG,zH,zI,rwb,reduceIte,C157_2])
  cases a2:decide ((0:Int)≤(m:Int)-1)
  ·have e:m=0:=by have:=of_decide_eq_false a2;omega
   subst e
   (try simp only [rwp,zA,zB,zC,zD,zE,zF,zG,zH,zI,rwb,reduceIte])
   exact q2b ⟨rfl,u,rfl,hru,hpu.s⟩
  ·have hle:=of_decide_eq_true a2
   obtain ⟨i,rfl⟩:∃ i,m=i+1:=⟨m-1,by omega⟩
   rw [show ((i+1:Nat):Int)-1=(i:Int) by omega]
   (try simp only [rwp,zA,zB,zC,zD,zE,zF,zG,zH,zI,rwb,reduceIte])
   (try (simp (disch:=omega) only [q03]))
   refine hD.ia (i:=a+i) (by omega) (by omega) (hD.ia (i:=a) rfl (by omega) (hD.ld (by omega) (hD.ld (by omega) ?_)))
   refine hD.ia (i:=a) rfl (by omega) (hD.st (by omega) (hD.ia (i:=a+i) (by omega) (by omega) (hD.st (by omega) ?_)))
   rw [sw_upv]
   refine q0c (c_sift hD hg ho (f:=a) (lo:=0) (hi:=i) (by omega) (by omega) _ (Sif.start hpu.pre)) ?_
   rintro ae S3 ⟨rfl,x,rfl,hrx,hpx⟩
   dsimp only
   (try simp only [rwp,zA,zB,zC,zD,zE,zF,zG,zH,zI,rwb,reduceIte])
   (try (simp (disch:=omega) only [q03]))
   exact q09 rfl (hkk2 i _ ⟨by omega,x,rfl,(hru.trans (Rng.sw (by omega) (by omega) (by omega) (by omega) hb)).trans (hrx.mono (Nat.le_refl _) (by omega)),hpu.step ho (by omega) (by omega) hrx hpx⟩ (by omega))
 ·have hle:=of_decide_eq_true a1
  obtain ⟨i,rfl⟩:∃ i,m=i+1:=⟨m-1,by omega⟩
  rw [show ((i+1:Nat):Int)-1=(i:Int) by omega]
  (try simp only [rwp,zA,zB,zC,zD,zE,zF,zG,zH,zI,rwb,reduceIte])
  refine q0c (c_sift hD hg ho (f:=a) (lo:=i) (hi:=hi) (by omega) (by omega) w (Sif.start hp)) ?_
  rintro ae S3 ⟨rfl,x,rfl,hrx,hpx⟩
  dsimp only
  (try simp only [rwp,zA,zB,zC,zD,zE,zF,zG,zH,zI,rwb,reduceIte])
  (try (simp (disch:=omega) only [q03]))
  exact q09 rfl (hkk i _ ⟨by omega,x,rfl,hr.trans hrx,hpx⟩ (by omega))
end
set_option maxRecDepth 4000
section
variable {D:AV} {pt:Nat→AV} {SS:(Nat→Ob)→q00} {n g:Nat} {c:Ob→Ob→Int}
theorem Dat.swap (hD:Dat D pt SS n) {i j:Nat} {x y x' y':Int} {v:Nat→Ob} {KT:q00→Prop} (ex:x=i) (ey:y=j) (ex':x'=i) (ey':y'=j) (hi:i<n) (hj:j<n) (hk:KT (SS (sw v j i))) :
  iaW 2 D (.int .i64 x) fun p=>iaW 2 D (.int .i64 y) fun q=>ldW (SS v) 2 true p fun a=>ldW (SS v) 2 true q fun b=>iaW 2 D (.int .i64 y') fun r=>stW (SS v) 2 r a fun S=>iaW 2 D (.int .i64 x') fun t=>stW S 2 t b KT:=by
 refine hD.ia ex hi (hD.ia ey hj (hD.ld hi (hD.ld hj (hD.ia ey' hj (hD.st hj (hD.ia ex' hi (hD.st hi ?_)))))))
 rw [sw_upv]
 exact hk
theorem Dat.cmp (hD:Dat D pt SS n) (hg:∀ x y,AFun PG g [.agg (obC x),.agg (obC y)] (.int .i64 (c x y))) {i j:Nat} {x y:Int} {v:Nat→Ob} {K Qp:AV→q00→Prop} (ex:x=i) (ey:y=j) (hi:i<n) (hj:j<n) (hk:K (.int .i64 (c (v i) (v j))) (SS v)) :
  iaW 2 D (.int .i64 x) fun p=>iaW 2 D (.int .i64 y) fun q=>ldW (SS v) 2 true p fun a=>ldW (SS v) 2 true q fun b=>caW PG (SS v) (fnG g) [a,b] K Qp:=
 hD.ia ex hi (hD.ia ey hj (hD.ld hi (hD.ld hj (q05 (hg _ _) hk))))
theorem c_partition (hD:Dat D pt SS n) (hg:∀ x y,AFun PG g [.agg (obC x),.agg (obC y)] (.int .i64 (c x y))) (ho:LtOk (ltC c)) {a b p:Nat} (hap:a≤p) (hpb:p<b) (hb:b≤n) (v:Nat→Ob) :
  ACalls PG nrx163 [D,.int .i64 a,.int .i64 b,.int .i64 p,fnG g] (SS v) fun ae S'=>∃ (w:Nat→Ob) (m:Nat) (al:Bool),ae=.ret (.tup [.int .i64 m,.bool al])∧S'=SS w∧Rng n a b v w∧Cut (ltC c) a b m w:=by
 have hn:=hD.bd
 refine wx163 ?_
 unfold Bx163
 refine hD.swap rfl rfl rfl rfl (by omega) (by omega) ?_
 have hr0:Rng n a b v (sw v a p):=Rng.sw (by omega) (by omega) hap hpb hb
 generalize sw v a p=v0 at hr0
 (try simp only [rwp,zA,zB,zC,zD,zE,zF,zG,zH,zI,rwb,reduceIte])
 (try (simp (disch:=omega) only [q03]))
 generalize hQ:(fun ae S'=>∃ (w:Nat→Ob) (m:Nat) (al:Bool),ae=AEnd.ret (.tup [.int .i64 m,.bool al])∧S'=SS w∧Rng n a b v w∧Cut (ltC c) a b m w)=QF
 have fin:∀ (w:Nat→Ob) (i j:Nat) (al:Bool),Rng n a b v w→Par (ltC c) a b i j w→j<i→rtW [.tmp (.int .i64 j),.tmp (.bool al)] QF (SS (sw w j a)):=by
  intro w i j al hr hp hij
  have h1:=hp.i1
  have h2:=hp.ij
  have h3:=hp.j1
  subst hQ
  exact rtW_two ⟨_,j,al,rfl,rfl,hr.trans (Rng.sw (by omega) (by omega) (by omega) (by omega) hb),hp.cut ho hij⟩
 refine LoopP.introS (fun i:Nat=>[(0,D),(1,.int .i64 a),(4,fnG g),(12,.int .i64 i),(13,.int .i64 ((b-1:Nat):Int))]) (fun i S'=>S'=SS v0∧Par (ltC c) a b i (b-1) v0) (fun i=>b-i) (a+1)
  ⟨rfl,⟨by omega,by omega,by omega,fun k h1 h2=>by omega,fun k h1 h2=>by omega⟩⟩ (by rw [show ((b-1:Nat):Int)=(b:Int)-1 by omega];rfl) ?_
 rintro i S1 ⟨rfl,hp⟩ kk hkk
 have hi1:=hp.i1
 have hij:=hp.ij
 (try simp only [rwp,zA,zB,zC,zD,zE,zF,zG,zH,zI,rwb,reduceIte,C163_1])
 have next:(∀ j:Nat,i≤j→j≤b-1→Le (ltC c) (v0 a) (v0 i))→LoopP (fun r0 l S=>C163_3 QF r0 (lget l 0) (lget l 1) (lget l 4) (lget l 12) (lget l 13) S) [(0,D),(1,.int .i64 a),(4,fnG g),(12,.int .i64 i),(13,.int .i64 ((b-1:Nat):Int))] (SS v0):=by
  intro hle
  refine LoopP.introS (fun j:Nat=>[(0,D),(1,.int .i64 a),(4,fnG g),(12,.int .i64 i),(13,.int .i64 j)]) (fun j S'=>S'=SS v0∧Par (ltC c) a b i j v0) (fun j=>j) (b-1) ⟨rfl,hp⟩ rfl ?_
  rintro j S2 ⟨rfl,hp2⟩ kk2 hkk2
  have hj1:=hp2.j1
  have hij2:=hp2.ij
  (try simp only [rwp,zA,zB,zC,zD,zE,zF,zG,zH,zI,rwb,reduceIte,C163_3])
  cases a1:decide ((i:Int)≤j)
  ·have hlt:j<i:=by have:=of_decide_eq_false a1;omega
   (try simp only [rwp,zA,zB,zC,zD,zE,zF,zG,zH,zI,rwb,reduceIte,C163_4,decide_eq_true (show (j:Int)<i by omega)])
   refine hD.swap rfl rfl rfl rfl (by omega) (by omega) ?_
   exact fin v0 i j true hr0 hp2 hlt
  ·have hle2:i≤j:=by have:=of_decide_eq_true a1;omega
   (try simp only [rwp,zA,zB,zC,zD,zE,zF,zG,zH,zI,rwb,reduceIte])
   refine hD.cmp hg (i:=j) (j:=a) rfl rfl (by omega) (by omega) ?_
   (try simp only [rwp,zA,zB,zC,zD,zE,zF,zG,zH,zI,rwb,reduceIte])
   cases a2:decide (c (v0 j) (v0 a)<0)
   ·(try simp only [rwp,zA,zB,zC,zD,zE,zF,zG,zH,zI,rwb,reduceIte,C163_4])
    (try (simp (disch:=omega) only [q03]))
    rw [show (j:Int)-1=((j-1:Nat):Int) by omega]
    refine q09 rfl (hkk2 (j-1) _ ⟨rfl,hi1,by omega,by omega,hp2.l,fun k h1 h2=>?_⟩ (by omega))
    by_cases e:k=j
    ·rw [e];exact a2
    ·exact hp2.r k (by omega) h2
   ·(try simp only [rwp,zA,zB,zC,zD,zE,zF,zG,zH,zI,rwb,reduceIte,C163_4,decide_eq_false (show ¬ (j:Int)<i by omega)])
    refine hD.swap rfl rfl rfl rfl (by omega) (by omega) ?_
    (try simp only [rwp,zA,zB,zC,zD,zE,zF,zG,zH,zI,rwb,reduceIte])
    (try (simp (disch:=omega) only [q03]))
    obtain ⟨hp3,hlt3⟩:=hp2.swap hle2 (hle j hle2 (by omega)) a2
    have hr3:Rng n a b v (sw v0 i j):=hr0.trans (Rng.sw (by omega) (by omega) (by omega) (by omega) hb)
    generalize sw v0 i j=v1 at hp3 hr3
    clear hkk hkk2 hle hp hp2 hr0 a2
    have ei:(i:Int)+1=((i+1:Nat):Int):=by omega
    have ej:(j:Int)-1=((j-1:Nat):Int):=by omega
    rw [ei,ej]
    generalize i+1=i at hp3
    generalize j-1=j at hp3
    refine LoopP.introS (fun x:Nat×Nat=>[(0,D),(1,.int .i64 a),(4,fnG g),(12,.int .i64 x.1),(13,.int .i64 x.2)]) (fun x S'=>∃ w,S'=SS w∧Rng n a b v w∧Par (ltC c) a b x.1 x.2 w) (fun x=>x.2) (i,j) ⟨v1,rfl,hr3,hp3⟩ rfl ?_
    rintro ⟨i,j⟩ S3 ⟨w,rfl,hr,hp⟩ kk hkk
    dsimp only at hp ⊢
    unfold C163_5
    have hj0:=hp.j1
    refine LoopP.introS (fun i:Nat=>[(0,D),(1,.int .i64 a),(4,fnG g),(12,.int .i64 i),(13,.int .i64 j)]) (fun i S'=>S'=SS w∧Par (ltC c) a b i j w) (fun i=>b-i) i ⟨rfl,hp⟩ rfl ?_
    rintro i2 S4 ⟨rfl,hp4⟩ kk2 hkk2
    have hi4:=hp4.i1
    have hij4:=hp4.ij
    (try simp only [rwp,zA,zB,zC,zD,zE,zF,zG,zH,zI,rwb,reduceIte,C163_6])
    have next:(∀ j2:Nat,i2≤j2→j2≤j→Le (ltC c) (w a) (w i2))→LoopP (fun r1 l S=>C163_8 QF kk r1 (lget l 0) (lget l 1) (lget l 4) (lget l 12) (lget l 13) S) [(0,D),(1,.int .i64 a),(4,fnG g),(12,.int .i64 i2),(13,.int .i64 j)] (SS w):=by
     intro hle
     refine LoopP.introS (fun j2:Nat=>[(0,D),(1,.int .i64 a),(4,fnG g),(12,.int .i64 i2),(13,.int .i64 j2)]) (fun j2 S'=>S'=SS w∧j2≤j∧Par (ltC c) a b i2 j2 w) (fun j2=>j2) j ⟨rfl,Nat.le_refl _,hp4⟩ rfl ?_
     rintro j2 S5 ⟨rfl,hjj,hp5⟩ kk3 hkk3
     have hj5:=hp5.j1
     have hij5:=hp5.ij
     (try simp only [rwp,zA,zB,zC,zD,zE,zF,zG,zH,zI,rwb,reduceIte,C163_8])
     cases a1:decide ((i2:Int)≤j2)
     ·have hlt:j2<i2:=by have:=of_decide_eq_false a1;omega
      (try simp only [rwp,zA,zB,zC,zD,zE,zF,zG,zH,zI,rwb,reduceIte,C163_9,decide_eq_true (show (j2:Int)<i2 by omega)])
      refine hD.swap rfl rfl rfl rfl (by omega) (by omega) ?_
      exact fin w i2 j2 false hr hp5 hlt
     ·have hle2:i2≤j2:=by have:=of_decide_eq_true a1;omega
      (try simp only [rwp,zA,zB,zC,zD,zE,zF,zG,zH,zI,rwb,reduceIte])
      refine hD.cmp hg (i:=j2) (j:=a) rfl rfl (by omega) (by omega) ?_
      (try simp only [rwp,zA,zB,zC,zD,zE,zF,zG,zH,zI,rwb,reduceIte])
      cases a2:decide (c (w j2) (w a)<0)
      ·(try simp only [rwp,zA,zB,zC,zD,zE,zF,zG,zH,zI,rwb,reduceIte,C163_9])
       (try (simp (disch:=omega) only [q03]))
       rw [show (j2:Int)-1=((j2-1:Nat):Int) by omega]
       refine q09 rfl (hkk3 (j2-1) _ ⟨rfl,by omega,hi4,by omega,by omega,hp5.l,fun k h1 h2=>?_⟩ (by omega))
       by_cases e:k=j2
       ·rw [e];exact a2
       ·exact hp5.r k (by omega) h2
      ·(try simp only [rwp,zA,zB,zC,zD,zE,zF,zG,zH,zI,rwb,reduceIte,C163_9,decide_eq_false (show ¬ (j2:Int)<i2 by omega)])
       refine hD.swap rfl rfl rfl rfl (by omega) (by omega) ?_
       (try simp only [rwp,zA,zB,zC,zD,zE,zF,zG,zH,zI,rwb,reduceIte])
       (try (simp (disch:=omega) only [q03]))
       obtain ⟨hp6,hlt6⟩:=hp5.swap hle2 (hle j2 hle2 hjj) a2
       rw [show (i2:Int)+1=((i2+1:Nat):Int) by omega,show (j2:Int)-1=((j2-1:Nat):Int) by omega]
       exact q09 rfl (hkk (i2+1,j2-1) _ ⟨_,rfl,hr.trans (Rng.sw (by omega) (by omega) (by omega) (by omega) hb),hp6⟩ (by dsimp only;omega))
    cases a1:decide ((i2:Int)≤j)
    ·(try simp only [rwp,zA,zB,zC,zD,zE,zF,zG,zH,zI,rwb,reduceIte,C163_7])
     exact next fun j2 h1 h2=>by have:=of_decide_eq_false a1;omega
    ·have hle2:i2≤j:=by have:=of_decide_eq_true a1;omega
     (try simp only [rwp,zA,zB,zC,zD,zE,zF,zG,zH,zI,rwb,reduceIte])
     refine hD.cmp hg (i:=i2) (j:=a) rfl rfl (by omega) (by omega) ?_
     (try simp only [rwp,zA,zB,zC,zD,zE,zF,zG,zH,zI,rwb,reduceIte])
     cases a2:decide (c (w i2) (w a)<0)
     ·(try simp only [rwp,zA,zB,zC,zD,zE,zF,zG,zH,zI,rwb,reduceIte,C163_7])
      exact next fun _ _ _=>a2
     ·(try simp only [rwp,zA,zB,zC,zD,zE,zF,zG,zH,zI,rwb,reduceIte,C163_7])
      (try (simp (disch:=omega) only [q03]))
      rw [show (i2:Int)+1=((i2+1:Nat):Int) by omega]
      refine q09 rfl (hkk2 (i2+1) _ ⟨rfl,by omega,hp4.j1,by omega,fun k h1 h2=>?_,hp4.r⟩ (by omega))
      by_cases e:k=i2
      ·rw [e];exact a2
      ·exact hp4.l k h1 (by omega)
 cases a1:decide ((i:Int)≤((b-1:Nat):Int))
 ·(try simp only [rwp,zA,zB,zC,zD,zE,zF,zG,zH,zI,rwb,reduceIte,C163_2])
  exact next fun j h1 h2=>by have:=of_decide_eq_false a1;omega
 ·have hle2:i≤b-1:=by have:=of_decide_eq_true a1;omega
  (try simp only [rwp,zA,zB,zC,zD,zE,zF,zG,zH,zI,rwb,reduceIte])
  refine hD.cmp hg (i:=i) (j:=a) rfl rfl (by omega) (by omega) ?_
  (try simp only [rwp,zA,zB,zC,zD,zE,zF,zG,zH,zI,rwb,reduceIte])
  cases a2:decide (c (v0 i) (v0 a)<0)
  ·(try simp only [rwp,zA,zB,zC,zD,zE,zF,zG,zH,zI,rwb,reduceIte,C163_2])
   exact next fun _ _ _=>a2
  ·(try simp only [rwp,zA,zB,zC,zD,zE,zF,zG,zH,zI,rwb,reduceIte,C163_2])
   (try (simp (disch:=omega) only [q03]))
   rw [show (i:Int)+1=((i+1:Nat):Int) by omega]
   refine q09 rfl (hkk (i+1) _ ⟨rfl,by omega,hp.j1,by omega,fun k h1 h2=>?_,hp.r⟩ (by omega))
   by_cases e:k=i
   ·rw [e];exact a2
   ·exact hp.l k h1 (by omega)
theorem c_partitionE (hD:Dat D pt SS n) (hg:∀ x y,AFun PG g [.agg (obC x),.agg (obC y)] (.int .i64 (c x y))) (ho:LtOk (ltC c)) {a b p:Nat} (hap:a≤p) (hpb:p<b) (hb:b≤n) (v:Nat→Ob) :
  ACalls PG nrx162 [D,.int .i64 a,.int .i64 b,.int .i64 p,fnG g] (SS v) fun ae S'=>∃ (w:Nat→Ob) (m:Nat),ae=.ret (.int .i64 m)∧S'=SS w∧Rng n a b v w∧w a=v p∧a<m∧m≤b∧∀ k,a≤k→k<m→Le (ltC c) (w k) (w a):=by
 have hn:=hD.bd
 refine wx162 ?_
 unfold Bx162
 refine hD.swap rfl rfl rfl rfl (by omega) (by omega) ?_
 have hr0:Rng n a b v (sw v a p):=Rng.sw (by omega) (by omega) hap hpb hb
 have hv0:sw v a p a=v p:=sw_i
 generalize sw v a p=v0 at hr0 hv0
 (try simp only [rwp,zA,zB,zC,zD,zE,zF,zG,zH,zI,rwb,reduceIte])
 (try (simp (disch:=omega) only [q03]))
 generalize hQ:(fun ae S'=>∃ (w:Nat→Ob) (m:Nat),ae=AEnd.ret (.int .i64 m)∧S'=SS w∧Rng n a b v w∧w a=v p∧a<m∧m≤b∧∀ k,a≤k→k<m→Le (ltC c) (w k) (w a))=QF
 refine LoopP.introS (fun x:Nat×Nat=>[(0,D),(1,.int .i64 a),(4,fnG g),(11,.int .i64 x.1),(12,.int .i64 x.2)]) (fun x S'=>∃ w,S'=SS w∧Rng n a b v w∧w a=v p∧ParE (ltC c) a b x.1 x.2 w) (fun x=>x.2) (a+1,b-1)
  ⟨v0,rfl,hr0,hv0,⟨by dsimp only;omega,by dsimp only;omega,by dsimp only;omega,fun k h1 h2=>by dsimp only at h2;omega,fun k h1 h2=>by dsimp only at h1;omega⟩⟩ (by dsimp only;rw [show ((b-1:Nat):Int)=(b:Int)-1 by omega];rfl) ?_
 rintro ⟨i,j⟩ S3 ⟨w,rfl,hr,hwa,hp⟩ kk hkk
 dsimp only at hp ⊢
 unfold C162_1
 have hj0:=hp.j1
 refine LoopP.introS (fun i:Nat=>[(0,D),(1,.int .i64 a),(4,fnG g),(11,.int .i64 i),(12,.int .i64 j)]) (fun i S'=>S'=SS w∧ParE (ltC c) a b i j w) (fun i=>b-i) i ⟨rfl,hp⟩ rfl ?_
 rintro i2 S4 ⟨rfl,hp4⟩ kk2 hkk2
 have hi4:=hp4.i1
 have hij4:=hp4.ij
 (try simp only [rwp,zA,zB,zC,zD,zE,zF,zG,zH,zI,rwb,reduceIte,C162_2])
 have next:(∀ j2:Nat,i2≤j2→j2≤j→ltC c (w a) (w i2)=true)→LoopP (fun r1 l S=>C162_4 QF kk r1 (lget l 0) (lget l 1) (lget l 4) (lget l 11) (lget l 12) S) [(0,D),(1,.int .i64 a),(4,fnG g),(11,.int .i64 i2),(12,.int .i64 j)] (SS w):=by
  intro hle
  refine LoopP.introS (fun j2:Nat=>[(0,D),(1,.int .i64 a),(4,fnG g),(11,.int .i64 i2),(12,.int .i64 j2)]) (fun j2 S'=>S'=SS w∧j2≤j∧ParE (ltC c) a b i2 j2 w) (fun j2=>j2) j ⟨rfl,Nat.le_refl _,hp4⟩ rfl ?_
  rintro j2 S5 ⟨rfl,hjj,hp5⟩ kk3 hkk3
  have hj5:=hp5.j1
  have hij5:=hp5.ij
  (try simp only [rwp,zA,zB,zC,zD,zE,zF,zG,zH,zI,rwb,reduceIte,C162_4])
  cases a1:decide ((i2:Int)≤j2)
  ·have hlt:j2<i2:=by have:=of_decide_eq_false a1;omega
   (try simp only [rwp,zA,zB,zC,zD,zE,zF,zG,zH,zI,rwb,reduceIte,C162_5,decide_eq_true (show (j2:Int)<i2 by omega)])
   subst hQ
   refine q02 ⟨w,i2,rfl,rfl,hr,hwa,hi4,by omega,fun k h1 h2=>?_⟩
   by_cases e:k=a
   ·rw [e];exact Le.refl ho _
   ·exact hp5.l k (by omega) h2
  ·have hle2:i2≤j2:=by have:=of_decide_eq_true a1;omega
   (try simp only [rwp,zA,zB,zC,zD,zE,zF,zG,zH,zI,rwb,reduceIte])
   refine hD.cmp hg (i:=a) (j:=j2) rfl rfl (by omega) (by omega) ?_
   (try simp only [rwp,zA,zB,zC,zD,zE,zF,zG,zH,zI,rwb,reduceIte])
   cases a2:decide (c (w a) (w j2)<0)
   ·(try simp only [rwp,zA,zB,zC,zD,zE,zF,zG,zH,zI,rwb,reduceIte,C162_5,decide_eq_false (show ¬ (j2:Int)<i2 by omega)])
    refine hD.swap rfl rfl rfl rfl (by omega) (by omega) ?_
    (try simp only [rwp,zA,zB,zC,zD,zE,zF,zG,zH,zI,rwb,reduceIte])
    (try (simp (disch:=omega) only [q03]))
    obtain ⟨hp6,hlt6⟩:=hp5.swap hle2 (hle j2 hle2 hjj) a2
    rw [show (i2:Int)+1=((i2+1:Nat):Int) by omega,show (j2:Int)-1=((j2-1:Nat):Int) by omega]
    exact q09 rfl (hkk (i2+1,j2-1) _ ⟨_,rfl,hr.trans (Rng.sw (by omega) (by omega) (by omega) (by omega) hb),(sw_o (by omega) (by omega)).trans hwa,hp6⟩ (by dsimp only;omega))
   ·(try simp only [rwp,zA,zB,zC,zD,zE,zF,zG,zH,zI,rwb,reduceIte,C162_5])
    (try (simp (disch:=omega) only [q03]))
    rw [show (j2:Int)-1=((j2-1:Nat):Int) by omega]
    refine q09 rfl (hkk3 (j2-1) _ ⟨rfl,by omega,hi4,by omega,by omega,hp5.l,fun k h1 h2=>?_⟩ (by omega))
    by_cases e:k=j2
    ·rw [e];exact a2
    ·exact hp5.r k (by omega) h2
 cases a1:decide ((i2:Int)≤j)
 ·(try simp only [rwp,zA,zB,zC,zD,zE,zF,zG,zH,zI,rwb,reduceIte,C162_3])
  exact next fun j2 h1 h2=>by have:=of_decide_eq_false a1;omega
 ·have hle2:i2≤j:=by have:=of_decide_eq_true a1;omega
  (try simp only [rwp,zA,zB,zC,zD,zE,zF,zG,zH,zI,rwb,reduceIte])
  refine hD.cmp hg (i:=a) (j:=i2) rfl rfl (by omega) (by omega) ?_
  (try simp only [rwp,zA,zB,zC,zD,zE,zF,zG,zH,zI,rwb,reduceIte])
  cases a2:decide (c (w a) (w i2)<0)
  ·(try simp only [rwp,zA,zB,zC,zD,zE,zF,zG,zH,zI,rwb,reduceIte,C162_3])
   (try (simp (disch:=omega) only [q03]))
   rw [show (i2:Int)+1=((i2+1:Nat):Int) by omega]
   refine q09 rfl (hkk2 (i2+1) _ ⟨rfl,by omega,hp4.j1,by omega,fun k h1 h2=>?_,hp4.r⟩ (by omega))
   by_cases e:k=i2
   ·rw [e];exact a2
   ·exact hp4.l k h1 (by omega)
  ·(try simp only [rwp,zA,zB,zC,zD,zE,zF,zG,zH,zI,rwb,reduceIte,C162_3])
   exact next fun _ _ _=>a2
theorem c_reverse (hD:Dat D pt SS n) {a b:Nat} (hab:a<b) (hb:b≤n) (F:AV) (v:Nat→Ob) :
  ACalls PG nrx160 [D,.int .i64 a,.int .i64 b,F] (SS v) fun ae S'=>ae=.ret (.tup [])∧∃ w,S'=SS w∧Rng n a b v w:=by
 have hn:=hD.bd
 refine wx160 ?_
 unfold Bx160
 (try simp only [rwp,zA,zB,zC,zD,zE,zF,zG,zH,zI,rwb,reduceIte])
 (try (simp (disch:=omega) only [q03]))
 rw [show (b:Int)-1=((b-1:Nat):Int) by omega]
 refine LoopP.introS (fun x:Nat×Nat=>[(0,D),(8,.int .i64 x.1),(9,.int .i64 x.2)]) (fun x S'=>a≤x.1∧x.2<b∧x.1≤x.2+1∧∃ w,S'=SS w∧Rng n a b v w) (fun x=>x.2) (a,b-1) ⟨by dsimp only;omega,by dsimp only;omega,by dsimp only;omega,v,rfl,Rng.refl _ _ _ _⟩ rfl ?_
 rintro ⟨i,j⟩ S1 ⟨h1,h2,h3,w,rfl,hr⟩ kk hkk
 dsimp only at h1 h2 h3 ⊢
 (try simp only [rwp,zA,zB,zC,zD,zE,zF,zG,zH,zI,rwb,reduceIte,C160_1])
 cases a1:decide ((i:Int)<j)
 ·(try simp only [rwp,zA,zB,zC,zD,zE,zF,zG,zH,zI,rwb,reduceIte])
  exact q2b ⟨rfl,w,rfl,hr⟩
 ·have hlt:=of_decide_eq_true a1
  (try simp only [rwp,zA,zB,zC,zD,zE,zF,zG,zH,zI,rwb,reduceIte])
  refine hD.swap rfl rfl rfl rfl (by omega) (by omega) ?_
  (try simp only [rwp,zA,zB,zC,zD,zE,zF,zG,zH,zI,rwb,reduceIte])
  (try (simp (disch:=omega) only [q03]))
  rw [show (i:Int)+1=((i+1:Nat):Int) by omega,show (j:Int)-1=((j-1:Nat):Int) by omega]
  exact q09 rfl (hkk (i+1,j-1) _ ⟨by dsimp only;omega,by dsimp only;omega,by dsimp only;omega,_,rfl,hr.trans (Rng.sw (by omega) (by omega) (by omega) (by omega) hb)⟩ (by dsimp only;omega))
end
set_option maxRecDepth 4000
section
variable {D:AV} {pt:Nat→AV} {SS:(Nat→Ob)→q00} {n g:Nat} {c:Ob→Ob→Int} {cb:Nat} {v:Nat→Ob}
abbrev swC (k:Int):AObj:=.cells 3 [.int .i64 k] 1
theorem c_order2 (hD:Dat D pt SS n) (hg:∀ x y,AFun PG g [.agg (obC x),.agg (obC y)] (.int .i64 (c x y))) (hc:sget (SS v) cb=none) {i j k:Nat} (hi:i<n) (hj:j<n) (hk:k≤100000) :
  ACalls PG nrx212 [D,.int .i64 i,.int .i64 j,.ptr cb 0,fnG g] (supd (SS v) cb (swC k)) fun ae S'=>∃ x y k':Nat,ae=.ret (.tup [.int .i64 x,.int .i64 y])∧S'=supd (SS v) cb (swC k')∧k'≤k+1∧((x=i∧y=j)∨(x=j∧y=i)):=by
 refine wx212 ?_
 unfold Bx212
 refine hD.ia rfl hj (hD.ia rfl hi (hD.fr hc hj (hD.fr hc hi (q05 (hg _ _) ?_))))
 have ho:=q0h (S:=SS v) (b:=cb) (t:=3) (cs:=[.int .i64 k]) (tot:=1)
 have hcl:=q07 ho
 (try simp only [rwp,zA,zB,zC,zD,zE,zF,zG,zH,zI,rwb,reduceIte])
 cases a1:decide (c (v j) (v i)<0)
 ·(try simp only [rwp,zA,zB,zC,zD,zE,zF,zG,zH,zI,rwb,reduceIte])
  exact rtW_two ⟨i,j,k,rfl,rfl,by omega,.inl ⟨rfl,rfl⟩⟩
 ·(try simp only [rwp,zA,zB,zC,zD,zE,zF,zG,zH,zI,rwb,reduceIte,hcl,ho,q0u])
  (simp (disch:=omega) only [q03])
  refine rtW_two ⟨j,i,k+1,rfl,?_,by omega,.inr ⟨rfl,rfl⟩⟩
  rw [show ((k+1:Nat):Int)=(k:Int)+1 by omega]
theorem c_median (hD:Dat D pt SS n) (hg:∀ x y,AFun PG g [.agg (obC x),.agg (obC y)] (.int .i64 (c x y))) (hc:sget (SS v) cb=none) {i j l k:Nat} (hi:i<n) (hj:j<n) (hl:l<n) (hk:k≤1000) :
  ACalls PG nrx198 [D,.int .i64 i,.int .i64 j,.int .i64 l,.ptr cb 0,fnG g] (supd (SS v) cb (swC k)) fun ae S'=>∃ m k':Nat,ae=.ret (.int .i64 m)∧S'=supd (SS v) cb (swC k')∧k'≤k+3∧(m=i∨m=j∨m=l):=by
 refine wx198 ?_
 unfold Bx198
 refine q0c (c_order2 hD hg hc hi hj (by omega)) ?_
 rintro ae S1 ⟨x,y,k1,rfl,rfl,h1,h2⟩
 dsimp only
 (try simp only [rwp,zA,zB,zC,zD,zE,zF,zG,zH,zI,rwb,reduceIte])
 refine q0c (c_order2 hD hg hc (i:=y) (j:=l) (by omega) hl (by omega)) ?_
 rintro ae S2 ⟨x2,y2,k2,rfl,rfl,h3,h4⟩
 dsimp only
 (try simp only [rwp,zA,zB,zC,zD,zE,zF,zG,zH,zI,rwb,reduceIte])
 refine q0c (c_order2 hD hg hc (i:=x) (j:=x2) (by omega) (by omega) (by omega)) ?_
 rintro ae S3 ⟨x3,y3,k3,rfl,rfl,h5,h6⟩
 dsimp only
 (try simp only [rwp,zA,zB,zC,zD,zE,zF,zG,zH,zI,rwb,reduceIte])
 exact q02 ⟨y3,k3,rfl,rfl,by omega,by omega⟩
theorem c_medianA (hD:Dat D pt SS n) (hg:∀ x y,AFun PG g [.agg (obC x),.agg (obC y)] (.int .i64 (c x y))) (hc:sget (SS v) cb=none) {i k:Nat} (h0:0<i) (hi:i+1<n) (hk:k≤1000) :
  ACalls PG nrx197 [D,.int .i64 i,.ptr cb 0,fnG g] (supd (SS v) cb (swC k)) fun ae S'=>∃ m k':Nat,ae=.ret (.int .i64 m)∧S'=supd (SS v) cb (swC k')∧k'≤k+3∧i≤m+1∧m≤i+1:=by
 have hn:=hD.bd
 refine wx197 ?_
 unfold Bx197
 (try simp only [rwp,zA,zB,zC,zD,zE,zF,zG,zH,zI,rwb,reduceIte])
 (simp (disch:=omega) only [q03])
 rw [show (i:Int)-1=((i-1:Nat):Int) by omega,show (i:Int)+1=((i+1:Nat):Int) by omega]
 refine q0c (c_median hD hg hc (i:=i-1) (j:=i) (l:=i+1) (by omega) (by omega) (by omega) hk) ?_
 rintro ae S1 ⟨m,k1,rfl,rfl,h1,h2⟩
 dsimp only
 exact q02 ⟨m,k1,rfl,rfl,by omega,by omega,by omega⟩
theorem c_pivot (hD:Dat D pt SS n) (hg:∀ x y,AFun PG g [.agg (obC x),.agg (obC y)] (.int .i64 (c x y))) {a b:Nat} (hab:a+12<b) (hb:b≤n) :
  ACalls PG nrx159 [D,.int .i64 a,.int .i64 b,fnG g] (SS v) fun ae S'=>∃ (p:Nat) (h:Int),ae=.ret (.tup [.int .i64 p,.int .i64 h])∧S'=SS v∧a≤p∧p<b:=by
 have hn:=hD.bd
 refine wx159 ?_
 unfold Bx159
 obtain ⟨l,rfl⟩:∃ l,b=a+l:=⟨b-a,by omega⟩
 (try simp only [rwp,zA,zB,zC,zD,zE,zF,zG,zH,zI,rwb,reduceIte])
 (try (simp (disch:=omega) only [q03]))
 rw [show ((a+l:Nat):Int)-a=(l:Int) by omega]
 intro cb hcb
 have fin:∀ (p k:Nat),a≤p→p<a+l→C159_1 (fun ae S'=>∃ (p:Nat) (h:Int),ae=.ret (.tup [.int .i64 p,.int .i64 h])∧S'=SS v∧a≤p∧p<a+l) (.ptr cb 0) (.int .i64 p) (supd (SS v) cb (swC k)):=by
  intro p k h1 h2
  have hcl:=q07 (q0h (S:=SS v) (b:=cb) (t:=3) (cs:=[.int .i64 k]) (tot:=1))
  (try simp only [rwp,zA,zB,zC,zD,zE,zF,zG,zH,zI,rwb,reduceIte,C159_1,hcl])
  have out:∀ h:Int,rtW [.tmp (.int .i64 p),.tmp (.int .i64 h)] (fun ae S'=>∃ (p:Nat) (h:Int),ae=.ret (.tup [.int .i64 p,.int .i64 h])∧S'=SS v∧a≤p∧p<a+l) (supd (SS v) cb (swC k)):=fun h=>q0y (SS v) (Sub.supd hcb (Sub.refl _)) ⟨p,h,rfl,rfl,h1,h2⟩
  cases a1:decide ((k:Int)=0)
  ·(try simp only [rwp,zA,zB,zC,zD,zE,zF,zG,zH,zI,rwb,reduceIte])
   cases a2:decide ((k:Int)=12)
   ·(try simp only [rwp,zA,zB,zC,zD,zE,zF,zG,zH,zI,rwb,reduceIte]);exact out 0
   ·(try simp only [rwp,zA,zB,zC,zD,zE,zF,zG,zH,zI,rwb,reduceIte]);exact out 2
  ·(try simp only [rwp,zA,zB,zC,zD,zE,zF,zG,zH,zI,rwb,reduceIte]);exact out 1
 refine quoN (a:=l) (b:=4) rfl rfl (by omega) (by omega) ?_
 have hq:3≤l / 4∧4 * (l / 4)≤l:=by omega
 generalize hq4:l / 4=q at hq
 (try simp only [rwp,zA,zB,zC,zD,zE,zF,zG,zH,zI,rwb,reduceIte])
 (try (simp (disch:=omega) only [q03]))
 refine quoN (a:=l) (b:=4) rfl rfl (by omega) (by omega) ?_
 rw [hq4]
 (try simp only [rwp,zA,zB,zC,zD,zE,zF,zG,zH,zI,rwb,reduceIte])
 (try (simp (disch:=omega) only [q03]))
 refine quoN (a:=l) (b:=4) rfl rfl (by omega) (by omega) ?_
 rw [hq4]
 (try simp only [rwp,zA,zB,zC,zD,zE,zF,zG,zH,zI,rwb,reduceIte])
 (try (simp (disch:=omega) only [q03]))
 rw [show (a:Int)+(q:Int) * 1=((a+q:Nat):Int) by omega,show (a:Int)+(q:Int) * 2=((a+2 * q:Nat):Int) by omega,show (a:Int)+(q:Int) * 3=((a+3 * q:Nat):Int) by omega]
 (try simp only [rwp,zA,zB,zC,zD,zE,zF,zG,zH,zI,rwb,reduceIte,decide_eq_true (show (8:Int)≤l by omega)])
 cases a1:decide ((50:Int)≤l)
 ·(try simp only [rwp,zA,zB,zC,zD,zE,zF,zG,zH,zI,rwb,reduceIte])
  refine q0c (c_median hD hg hcb (k:=0) (i:=a+q) (j:=a+2 * q) (l:=a+3 * q) (by omega) (by omega) (by omega) (by omega)) ?_
  rintro ae S1 ⟨m,k1,rfl,rfl,h1,h2⟩
  dsimp only
  exact fin m k1 (by omega) (by omega)
 ·have hl:=of_decide_eq_true a1
  (try simp only [rwp,zA,zB,zC,zD,zE,zF,zG,zH,zI,rwb,reduceIte])
  refine q0c (c_medianA hD hg hcb (k:=0) (i:=a+q) (by omega) (by omega) (by omega)) ?_
  rintro ae S1 ⟨m1,k1,rfl,rfl,h1,h2,h2'⟩
  dsimp only
  refine q0c (c_medianA hD hg hcb (i:=a+2 * q) (by omega) (by omega) (by omega)) ?_
  rintro ae S2 ⟨m2,k2,rfl,rfl,h3,h4,h4'⟩
  dsimp only
  refine q0c (c_medianA hD hg hcb (i:=a+3 * q) (by omega) (by omega) (by omega)) ?_
  rintro ae S3 ⟨m3,k3,rfl,rfl,h5,h6,h6'⟩
  dsimp only
  refine q0c (c_median hD hg hcb (i:=m1) (j:=m2) (l:=m3) (by omega) (by omega) (by omega) (by omega)) ?_
  rintro ae S4 ⟨m,k4,rfl,rfl,h7,h8⟩
  dsimp only
  exact fin m k4 (by omega) (by omega)
theorem u64w {x:Nat} (h:x<18446744073709551616):IntKind.u64.wrap (x:Int)=x:=by
 have e:IntKind.u64.wrap (x:Int)=(x:Int) % (18446744073709551616:Int):=rfl
 rw [e]
 omega
theorem and_u64 (x:Int) {m:Nat} (hm:m<1000):∃ q:Nat,q≤m∧Go.bits .and .u64 x m=q:=by
 refine ⟨(BitVec.ofInt 64 x &&& BitVec.ofInt 64 (m:Int)).toNat,?_,?_⟩
 ·rw [BitVec.toNat_and]
  refine Nat.le_trans Nat.and_le_right ?_
  rw [BitVec.toNat_ofInt]
  omega
 ·exact u64w (BitVec.isLt _)
theorem shl13 (a:Int):∃ a':Int,∀ K:AV→Prop,biW .shl (.int .u64 a) (.int .u64 13) K=K (.int .u64 a'):=⟨_,fun K=>rfl⟩
theorem shl17 (a:Int):∃ a':Int,∀ K:AV→Prop,biW .shl (.int .u64 a) (.int .u64 17) K=K (.int .u64 a'):=⟨_,fun K=>rfl⟩
theorem shr7 (a:Int):∃ a':Int,∀ K:AV→Prop,biW .shr (.int .u64 a) (.int .u64 7) K=K (.int .u64 a'):=⟨_,fun K=>rfl⟩
abbrev rnC (r:Int):AObj:=.cells 272 [.int .u64 r] 1
theorem c_Next {S:q00} (r:Int):ACalls PG nrx196 [.ptr cb 0] (supd S cb (rnC r)) fun ae S'=>∃ r':Int,ae=.ret (.int .u64 r')∧S'=supd S cb (rnC r'):=by
 refine wx196 ?_
 unfold Bx196
 have ho:∀ x:Int,q0i (supd S cb (rnC x)) cb=some (272,[.int .u64 x],1):=fun x=>q0h
 have hcl:=fun x=>q07 (ho x)
 obtain ⟨r1,e1⟩:=shl13 r
 (try simp only [rwp,zA,zB,zC,zD,zE,zF,zG,zH,zI,rwb,reduceIte,hcl,ho,e1,biW_xor,q0u])
 obtain ⟨r2,e2⟩:=shr7 (Go.bits .xor .u64 r r1)
 generalize Go.bits .xor .u64 r r1=x1 at e2 ⊢
 (try simp only [rwp,zA,zB,zC,zD,zE,zF,zG,zH,zI,rwb,reduceIte,hcl,ho,e2,biW_xor,q0u])
 obtain ⟨r3,e3⟩:=shl17 (Go.bits .xor .u64 x1 r2)
 generalize Go.bits .xor .u64 x1 r2=x2 at e3 ⊢
 (try simp only [rwp,zA,zB,zC,zD,zE,zF,zG,zH,zI,rwb,reduceIte,hcl,ho,e3,biW_xor,q0u])
 exact q02 (QF:=fun ae S'=>∃ r':Int,ae=.ret (.int .u64 r')∧S'=supd S cb (rnC r')) ⟨_,rfl,rfl⟩
theorem c_pow2 {l:Nat} (hl:l<256):AFun PG nrx195 [.int .i64 l] (.int .u64 ((2 ^ lenF l:Nat):Int)):=by
 intro S
 refine wx195 ?_
 unfold Bx195
 (try simp only [rwp,zA,zB,zC,zD,zE,zF,zG,zH,zI,rwb,reduceIte])
 rw [u64w (by omega)]
 refine q05 (c_Len hl) ?_
 have h8:=(lenF_ok ⟨l,hl⟩).2.2
 dsimp only at h8
 generalize lenF l=q at h8
 have e:∀ K:AV→Prop,biW .shl (.int .u64 1) (.int .i64 (q:Int)) K=q0k (if (q:Int)<0 then none else some (.int .u64 (IntKind.u64.wrap (1 * 2 ^ min (q:Int).toNat 64)))) K:=fun K=>rfl
 rw [e,if_neg (by omega)]
 have hq:min (q:Int).toNat 64=q:=by omega
 rw [hq,Int.one_mul,show (2:Int) ^ q=((2 ^ q:Nat):Int) by push_cast;rfl,u64w (Nat.lt_of_le_of_lt (Nat.pow_le_pow_right (by decide) h8) (by decide))]
 simp only [someA_some]
 exact q02 ⟨rfl,rfl⟩
theorem c_break (hD:Dat D pt SS n) {a b:Nat} (hab:a+12<b) (hb:b≤n) (hl:b<a+256) (F:AV) :
  ACalls PG nrx158 [D,.int .i64 a,.int .i64 b,F] (SS v) fun ae S'=>ae=.ret (.tup [])∧∃ w,S'=SS w∧Rng n a b v w:=by
 have hn:=hD.bd
 refine wx158 ?_
 unfold Bx158
 obtain ⟨l,rfl⟩:∃ l,b=a+l:=⟨b-a,by omega⟩
 (try simp only [rwp,zA,zB,zC,zD,zE,zF,zG,zH,zI,rwb,reduceIte])
 (try (simp (disch:=omega) only [q03]))
 rw [show ((a+l:Nat):Int)-a=(l:Int) by omega]
 (try simp only [rwp,zA,zB,zC,zD,zE,zF,zG,zH,zI,rwb,reduceIte,decide_eq_true (show (8:Int)≤l by omega)])
 rw [u64w (by omega)]
 intro cb hcb
 (try simp only [rwp,zA,zB,zC,zD,zE,zF,zG,zH,zI,rwb,reduceIte,q0h,q0u])
 refine q05 (c_pow2 (by omega)) ?_
 obtain ⟨p1,p2,p3⟩:=lenF_ok ⟨l,by omega⟩
 dsimp only at p1 p2 p3
 generalize hP:2 ^ lenF l=P at p1 p2 ⊢
 refine quoN (a:=l) (b:=4) rfl rfl (by omega) (by omega) ?_
 have hq:3≤l / 4∧4 * (l / 4)≤l:=by omega
 generalize hq4:l / 4=q at hq
 (try simp only [rwp,zA,zB,zC,zD,zE,zF,zG,zH,zI,rwb,reduceIte])
 (try (simp (disch:=omega) only [q03]))
 rw [show (a:Int)+(q:Int) * 2-1=((a+2 * q-1:Nat):Int) by omega]
 refine LoopP.introS (fun i:Nat=>[(0,D),(1,.int .i64 a),(8,.int .i64 l),(9,.ptr cb 0),(10,.int .u64 P),(11,.int .i64 i)]) (fun i S'=>a+2 * q-1≤i∧i≤a+2 * q+2∧∃ (w:Nat→Ob) (r:Int),S'=supd (SS w) cb (rnC r)∧Rng n a (a+l) v w) (fun i=>a+2 * q+2-i) (a+2 * q-1)
  ⟨by omega,by omega,v,_,rfl,Rng.refl _ _ _ _⟩ rfl ?_
 rintro i S1 ⟨hi1,hi2,w,r,rfl,hr⟩ kk hkk
 have hcw:=hD.fn (w:=w) hcb
 unfold C158_1
 refine quoN (a:=l) (b:=4) rfl rfl (by omega) (by omega) ?_
 rw [hq4]
 (try simp only [rwp,zA,zB,zC,zD,zE,zF,zG,zH,zI,rwb,reduceIte])
 (try (simp (disch:=omega) only [q03]))
 cases a1:decide ((i:Int)≤(a:Int)+(q:Int) * 2+1)
 ·(try simp only [rwp,zA,zB,zC,zD,zE,zF,zG,zH,zI,rwb,reduceIte])
  exact q0y (SS w) (Sub.supd hcw (Sub.refl _)) ⟨rfl,w,rfl,hr⟩
 ·have hle:=of_decide_eq_true a1
  (try simp only [rwp,zA,zB,zC,zD,zE,zF,zG,zH,zI,rwb,reduceIte])
  refine q0c (c_Next (S:=SS w) r) ?_
  rintro ae S2 ⟨r',rfl,rfl⟩
  dsimp only
  (try simp only [rwp,zA,zB,zC,zD,zE,zF,zG,zH,zI,rwb,reduceIte])
  rw [show (P:Int)-1=((P-1:Nat):Int) by omega,u64w (by omega)]
  obtain ⟨o,ho1,ho2⟩:=and_u64 r' (m:=P-1) (by omega)
  (try simp only [rwp,zA,zB,zC,zD,zE,zF,zG,zH,zI,rwb,reduceIte,biW_and,ho2])
  (simp (disch:=omega) only [q03])
  have fin:∀ x:Nat,x<l→C158_2 (fun ae S'=>ae=.ret (.tup [])∧∃ w,S'=SS w∧Rng n a (a+l) v w) kk D (.int .i64 a) (.int .i64 l) (.ptr cb 0) (.int .u64 P) (.int .i64 i) (.int .i64 x) (supd (SS w) cb (rnC r')):=by
   intro x hx
   (try simp only [rwp,zA,zB,zC,zD,zE,zF,zG,zH,zI,rwb,reduceIte,C158_2])
   (try (simp (disch:=omega) only [q03]))
   refine hD.ia (i:=a+x) (by omega) (by omega) (hD.ia (i:=i) rfl (by omega) (hD.fr hcw (by omega) (hD.fr hcw (by omega) ?_)))
   refine hD.ia (i:=i) rfl (by omega) (hD.fs hcw (by omega) (hD.ia (i:=a+x) (by omega) (by omega) (hD.fs (hD.fn hcw) (by omega) ?_)))
   rw [sw_upv]
   (try simp only [rwp,zA,zB,zC,zD,zE,zF,zG,zH,zI,rwb,reduceIte])
   (try (simp (disch:=omega) only [q03]))
   rw [show (i:Int)+1=((i+1:Nat):Int) by omega]
   exact q09 rfl (hkk (i+1) _ ⟨by omega,by omega,_,r',rfl,hr.trans (Rng.sw (by omega) (by omega) (by omega) (by omega) hb)⟩ (by omega))
  cases a2:decide ((l:Int)≤o)
  ·(try simp only [rwp,zA,zB,zC,zD,zE,zF,zG,zH,zI,rwb,reduceIte])
   exact fin o (by have:=of_decide_eq_false a2;omega)
  ·have hlo:=of_decide_eq_true a2
   (try simp only [rwp,zA,zB,zC,zD,zE,zF,zG,zH,zI,rwb,reduceIte])
   (try (simp (disch:=omega) only [q03]))
   rw [show (o:Int)-l=((o-l:Nat):Int) by omega]
   exact fin (o-l) (by omega)
end
set_option maxRecDepth 4000
section
variable {α:Type} {lt:α→α→Bool} {n a b m A B:Nat} {v w x:Nat→α}
def PreF (lt:α→α→Bool) (a b:Nat) (v:Nat→α):Prop:=0<a→∀ k,a≤k→k<b→Le lt (v (a-1)) (v k)
theorem PreF.rng (h:PreF lt a b v) (hb:b≤n) (hr:Rng n a b v w):PreF lt a b w:=fun h0 k h1 h2=>by
 obtain ⟨j,j1,j2,e⟩:=hr.mem hb h1 h2
 rw [e,hr.out (a-1) (.inl (by omega))]
 exact h h0 j j1 j2
theorem Pdq.pre (hp:PreF lt A B v) (hb:B≤n) (hr:Rng n A B v w) (h:Pdq lt A B a b w):PreF lt a b w:=fun h0 k h1 h2=>by
 have e1:=h.pa
 have e2:=h.pb
 by_cases e:a=A
 ·subst e
  exact hp.rng hb hr h0 k h1 (by omega)
 ·exact h.lm (a-1) k (by omega) (by omega) h1 (by omega)
theorem Cut.left (h:Cut lt a b m v) (hb:b≤n) (hr:Rng n a m v w):Cut lt a b m w:=by
 have h1:=h.cb
 refine ⟨h.ca,h.cb,fun k k1 k2=>?_,fun k k1 k2=>?_⟩
 ·obtain ⟨j,j1,j2,e⟩:=hr.mem (by omega) k1 k2
  rw [e,hr.out m (.inr (Nat.le_refl _))]
  exact h.l j j1 j2
 ·rw [hr.out m (.inr (Nat.le_refl _)),hr.out k (.inr (by omega))]
  exact h.r k k1 k2
theorem Cut.right (h:Cut lt a b m v) (hb:b≤n) (hr:Rng n (m+1) b v w):Cut lt a b m w:=by
 refine ⟨h.ca,h.cb,fun k k1 k2=>?_,fun k k1 k2=>?_⟩
 ·rw [hr.out m (.inl (by omega)),hr.out k (.inl (by omega))]
  exact h.l k k1 k2
 ·obtain ⟨j,j1,j2,e⟩:=hr.mem hb (i:=k) (by omega) k2
  rw [e,hr.out m (.inl (by omega))]
  exact h.r j (by omega) j2
end
section
variable {D:AV} {pt:Nat→AV} {SS:(Nat→Ob)→q00} {n g:Nat} {c:Ob→Ob→Int}
theorem c_partial (hD:Dat D pt SS n) (hg:∀ x y,AFun PG g [.agg (obC x),.agg (obC y)] (.int .i64 (c x y))) (ho:LtOk (ltC c)) {a b:Nat} (hab:a<b) (hb:b≤n) (v:Nat→Ob) (hp:PreF (ltC c) a b v) :
  ACalls PG nrx161 [D,.int .i64 a,.int .i64 b,fnG g] (SS v) fun ae S'=>∃ (r:Bool) (w:Nat→Ob),ae=.ret (.bool r)∧S'=SS w∧Rng n a b v w∧(r=true→Srt (ltC c) a b w):=by
 have hn:=hD.bd
 refine wx161 ?_
 unfold Bx161
 (try simp only [rwp,zA,zB,zC,zD,zE,zF,zG,zH,zI,rwb,reduceIte])
 (try (simp (disch:=omega) only [q03]))
 generalize hQ:(fun ae S'=>∃ (r:Bool) (w:Nat→Ob),ae=AEnd.ret (.bool r)∧S'=SS w∧Rng n a b v w∧(r=true→Srt (ltC c) a b w))=QF
 refine LoopP.introS (fun x:Nat×Nat=>[(0,D),(1,.int .i64 a),(2,.int .i64 b),(3,fnG g),(9,.int .i64 x.1),(10,.int .i64 x.2)]) (fun x S'=>a+1≤x.1∧x.1≤b∧x.2≤5∧∃ w,S'=SS w∧Rng n a b v w∧Srt (ltC c) a x.1 w) (fun x=>5-x.2) (a+1,0)
  ⟨Nat.le_refl _,hab,by dsimp only;omega,v,rfl,Rng.refl _ _ _ _,Srt.one (Nat.le_refl _)⟩ (by dsimp only;rw [show ((a+1:Nat):Int)=(a:Int)+1 by omega];rfl) ?_
 rintro ⟨i0,j⟩ S1 ⟨hi0,hi0b,hj,w,rfl,hr,hs0⟩ kk hkk
 dsimp only at hi0 hi0b hj hs0 ⊢
 (try simp only [rwp,zA,zB,zC,zD,zE,zF,zG,zH,zI,rwb,reduceIte,C161_1])
 have no:∀ u:Nat→Ob,Rng n a b v u→rtW [.tmp (.bool false)] QF (SS u):=fun u hu=>by
  subst hQ
  exact q02 ⟨false,u,rfl,rfl,hu,fun h=>by cases h⟩
 cases a1:decide ((j:Int)<5)
 ·(try simp only [rwp,zA,zB,zC,zD,zE,zF,zG,zH,zI,rwb,reduceIte])
  exact no w hr
 ·have hj5:j<5:=by have:=of_decide_eq_true a1;omega
  (try simp only [rwp,zA,zB,zC,zD,zE,zF,zG,zH,zI,rwb,reduceIte])
  refine LoopP.introS (fun i:Nat=>[(0,D),(1,.int .i64 a),(2,.int .i64 b),(3,fnG g),(9,.int .i64 i),(10,.int .i64 j)]) (fun i S'=>a+1≤i∧i≤b∧S'=SS w∧Srt (ltC c) a i w) (fun i=>b-i) i0 ⟨hi0,hi0b,rfl,hs0⟩ rfl ?_
  rintro i S2 ⟨hi,hib,rfl,hs⟩ kk2 hkk2
  -- on to the next round
  have again:∀ u:Nat→Ob,Rng n a b v u→Srt (ltC c) a i u→rcW kk [(0,D),(1,.int .i64 a),(2,.int .i64 b),(3,fnG g),(9,.int .i64 i),(10,.int .i64 ((j:Int)+1))] (SS u):=fun u hu hsu=>by
   rw [show (j:Int)+1=((j+1:Nat):Int) by omega]
   exact q09 rfl (hkk (i,j+1) _ ⟨hi,hib,by dsimp only;omega,u,rfl,hu,hsu⟩ (by dsimp only;omega))
  have right:∀ u:Nat→Ob,Rng n a b v u→Srt (ltC c) a i u→C161_5 QF kk D (.int .i64 a) (.int .i64 b) (fnG g) (.int .i64 i) (.int .i64 j) (SS u):=by
   intro u hu hsu
   (try simp only [rwp,zA,zB,zC,zD,zE,zF,zG,zH,zI,rwb,reduceIte,C161_5])
   (try (simp (disch:=omega) only [q03]))
   cases a3:decide ((2:Int)≤(b:Int)-i)
   ·(try simp only [rwp,zA,zB,zC,zD,zE,zF,zG,zH,zI,rwb,reduceIte])
    (try (simp (disch:=omega) only [q03]))
    exact again u hu hsu
   ·(try simp only [rwp,zA,zB,zC,zD,zE,zF,zG,zH,zI,rwb,reduceIte])
    (try (simp (disch:=omega) only [q03]))
    rw [show (i:Int)+1=((i+1:Nat):Int) by omega]
    refine LoopP.introS (fun q:Nat=>[(0,D),(1,.int .i64 a),(2,.int .i64 b),(3,fnG g),(9,.int .i64 i),(10,.int .i64 j),(12,.int .i64 q)]) (fun q S'=>i+1≤q∧q≤b∧∃ x,S'=SS x∧Rng n a b v x∧Srt (ltC c) a i x) (fun q=>b-q) (i+1) ⟨Nat.le_refl _,by have:=of_decide_eq_true a3;omega,u,rfl,hu,hsu⟩ rfl ?_
    rintro q S3 ⟨hq1,hq2,x,rfl,hx,hsx⟩ kk3 hkk3
    (try simp only [rwp,zA,zB,zC,zD,zE,zF,zG,zH,zI,rwb,reduceIte,C161_6])
    cases a4:decide ((q:Int)<b)
    ·(try simp only [rwp,zA,zB,zC,zD,zE,zF,zG,zH,zI,rwb,reduceIte])
     (try (simp (disch:=omega) only [q03]))
     exact again x hx hsx
    ·have hqb:=of_decide_eq_true a4
     (try simp only [rwp,zA,zB,zC,zD,zE,zF,zG,zH,zI,rwb,reduceIte])
     refine hD.ia (i:=q) rfl (by omega) ?_
     (try simp only [rwp,zA,zB,zC,zD,zE,zF,zG,zH,zI,rwb,reduceIte])
     (try (simp (disch:=omega) only [q03]))
     refine hD.ia (i:=q-1) (by omega) (by omega) (hD.ld (by omega) (hD.ld (by omega) (q05 (hg _ _) ?_)))
     (try simp only [rwp,zA,zB,zC,zD,zE,zF,zG,zH,zI,rwb,reduceIte])
     cases a5:decide (c (x q) (x (q-1))<0)
     ·(try simp only [rwp,zA,zB,zC,zD,zE,zF,zG,zH,zI,rwb,reduceIte])
      (try (simp (disch:=omega) only [q03]))
      exact again x hx hsx
     ·(try simp only [rwp,zA,zB,zC,zD,zE,zF,zG,zH,zI,rwb,reduceIte])
      (try (simp (disch:=omega) only [q03]))
      refine hD.swap (i:=q-1) (j:=q) (by omega) rfl (by omega) rfl (by omega) (by omega) ?_
      (try simp only [rwp,zA,zB,zC,zD,zE,zF,zG,zH,zI,rwb,reduceIte])
      (try (simp (disch:=omega) only [q03]))
      rw [show (q:Int)+1=((q+1:Nat):Int) by omega]
      exact q09 rfl (hkk3 (q+1) _ ⟨by omega,by omega,_,rfl,hx.trans (Rng.sw (by omega) (by omega) (by omega) (by omega) hb),hsx.same fun k k1 k2=>sw_o (by omega) (by omega)⟩ (by omega))
  (try simp only [rwp,zA,zB,zC,zD,zE,zF,zG,zH,zI,rwb,reduceIte,C161_2])
  cases a2:decide ((i:Int)<b)
  ·have e:i=b:=by have:=of_decide_eq_false a2;omega
   subst e
   (try simp only [rwp,zA,zB,zC,zD,zE,zF,zG,zH,zI,rwb,reduceIte,C161_3,decide_true])
   subst hQ
   exact q02 ⟨true,w,rfl,rfl,hr,fun _=>hs⟩
  ·have hlt:=of_decide_eq_true a2
   (try simp only [rwp,zA,zB,zC,zD,zE,zF,zG,zH,zI,rwb,reduceIte])
   refine hD.ia (i:=i) rfl (by omega) ?_
   (try simp only [rwp,zA,zB,zC,zD,zE,zF,zG,zH,zI,rwb,reduceIte])
   (try (simp (disch:=omega) only [q03]))
   refine hD.ia (i:=i-1) (by omega) (by omega) (hD.ld (by omega) (hD.ld (by omega) (q05 (hg _ _) ?_)))
   (try simp only [rwp,zA,zB,zC,zD,zE,zF,zG,zH,zI,rwb,reduceIte])
   cases a3:decide (c (w i) (w (i-1))<0)
   ·(try simp only [rwp,zA,zB,zC,zD,zE,zF,zG,zH,zI,rwb,reduceIte,C161_3])
    (try (simp (disch:=omega) only [q03]))
    rw [show (i:Int)+1=((i+1:Nat):Int) by omega]
    exact q09 rfl (hkk2 (i+1) _ ⟨by omega,by omega,rfl,hs.snoc ho (by omega) a3⟩ (by omega))
   ·(try simp only [rwp,zA,zB,zC,zD,zE,zF,zG,zH,zI,rwb,reduceIte,C161_3,decide_eq_false (show ¬ (i:Int)=b by omega)])
    (try (simp (disch:=omega) only [q03]))
    cases a4:decide ((b:Int)-a<50)
    ·(try simp only [rwp,zA,zB,zC,zD,zE,zF,zG,zH,zI,rwb,reduceIte])
     (try (simp (disch:=omega) only [q03]))
     refine hD.swap (i:=i-1) (j:=i) (by omega) rfl (by omega) rfl (by omega) (by omega) ?_
     (try simp only [rwp,zA,zB,zC,zD,zE,zF,zG,zH,zI,rwb,reduceIte])
     (try (simp (disch:=omega) only [q03]))
     have hr1:Rng n a b v (sw w i (i-1)):=hr.trans (Rng.sw (by omega) (by omega) (by omega) (by omega) hb)
     have hs1:Srt (ltC c) a (i-1) (sw w i (i-1)):=fun p q p1 p2 p3=>by
      rw [sw_o (by omega) (by omega),sw_o (by omega) (by omega)]
      exact hs p q p1 p2 (by omega)
     generalize sw w i (i-1)=w1 at hr1 hs1
     cases a5:decide ((2:Int)≤(i:Int)-a)
     ·(try simp only [rwp,zA,zB,zC,zD,zE,zF,zG,zH,zI,rwb,reduceIte])
      exact right w1 hr1 (Srt.one (by have:=of_decide_eq_false a5;omega))
     ·(try simp only [rwp,zA,zB,zC,zD,zE,zF,zG,zH,zI,rwb,reduceIte])
      (try (simp (disch:=omega) only [q03]))
      rw [show (i:Int)-1=((i-1:Nat):Int) by omega]
      refine LoopP.introS (fun q:Nat=>[(0,D),(1,.int .i64 a),(2,.int .i64 b),(3,fnG g),(9,.int .i64 i),(10,.int .i64 j),(11,.int .i64 q)]) (fun q S'=>∃ x,S'=SS x∧Rng n a b v x∧InsI (ltC c) a (i-1) q x) (fun q=>q) (i-1) ⟨w1,rfl,hr1,InsI.start hs1 (by omega)⟩ rfl ?_
      rintro q S3 ⟨x,rfl,hx,hix⟩ kk3 hkk3
      have h1:=hix.lo
      have h2:=hix.hi
      have stop:(q=a∨Le (ltC c) (x (q-1)) (x q))→C161_5 QF kk D (.int .i64 a) (.int .i64 b) (fnG g) (.int .i64 i) (.int .i64 j) (SS x):=fun hq=>by
       have:=hix.stop ho hq
       rw [show i-1+1=i by omega] at this
       exact right x hx this
      (try simp only [rwp,zA,zB,zC,zD,zE,zF,zG,zH,zI,rwb,reduceIte,C161_4])
      cases a6:decide ((1:Int)≤q)
      ·(try simp only [rwp,zA,zB,zC,zD,zE,zF,zG,zH,zI,rwb,reduceIte])
       exact stop (.inl (by have:=of_decide_eq_false a6;omega))
      ·have hq1:=of_decide_eq_true a6
       (try simp only [rwp,zA,zB,zC,zD,zE,zF,zG,zH,zI,rwb,reduceIte])
       refine hD.ia (i:=q) rfl (by omega) ?_
       (try simp only [rwp,zA,zB,zC,zD,zE,zF,zG,zH,zI,rwb,reduceIte])
       (try (simp (disch:=omega) only [q03]))
       refine hD.ia (i:=q-1) (by omega) (by omega) (hD.ld (by omega) (hD.ld (by omega) (q05 (hg _ _) ?_)))
       (try simp only [rwp,zA,zB,zC,zD,zE,zF,zG,zH,zI,rwb,reduceIte])
       cases a7:decide (c (x q) (x (q-1))<0)
       ·(try simp only [rwp,zA,zB,zC,zD,zE,zF,zG,zH,zI,rwb,reduceIte])
        exact stop (.inr a7)
       ·have hqa:a<q:=by
         refine Classical.byContradiction fun hq=>?_
         have e:q=a:=by omega
         subst e
         have:=(hp.rng hb hx) (by omega) q (Nat.le_refl _) hab
         unfold Le ltC at this
         rw [a7] at this
         cases this
        (try simp only [rwp,zA,zB,zC,zD,zE,zF,zG,zH,zI,rwb,reduceIte])
        (try (simp (disch:=omega) only [q03]))
        refine hD.swap (i:=q-1) (j:=q) (by omega) rfl (by omega) rfl (by omega) (by omega) ?_
        (try simp only [rwp,zA,zB,zC,zD,zE,zF,zG,zH,zI,rwb,reduceIte])
        (try (simp (disch:=omega) only [q03]))
        rw [show (q:Int)-1=((q-1:Nat):Int) by omega]
        exact q09 rfl (hkk3 (q-1) _ ⟨_,rfl,hx.trans (Rng.sw (by omega) (by omega) (by omega) (by omega) hb),hix.step ho hqa a7⟩ (by omega))
    ·(try simp only [rwp,zA,zB,zC,zD,zE,zF,zG,zH,zI,rwb,reduceIte])
     exact no w hr
end
end Go.HL
