/- A part of a proof. -/
import Derived.Test.YtadmdlpmikoghaaGreatKiM1
import Derived.Test.YtadmdlpmikoghaaGreatKiHlS1
import Derived.Test.YtadmdlpmikoghaaGreatKiHlS3
import Derived.Test.YtadmdlpmikoghaaGreatKiHlS5
import Derived.Test.YtadmdlpmikoghaaGreatKiHlS6
import Derived.Test.YtadmdlpmikoghaaGreatKiHlS8
import Derived.Test.YtadmdlpmikoghaaGreatKiHlS9
import Derived.Test.YtadmdlpmikoghaaGreatKiHlQ
import Derived.Test.YtadmdlpmikoghaaGreatKiHlS10
import Derived.Test.YtadmdlpmikoghaaGreatKiHlS12
import Derived.Defers
import Derived.Recover
import Derived.Test.YtadmdlpmikoghaaGreatKiHlP
import Derived.Test.YtadmdlpmikoghaaGreatKiHlS2
import Derived.Test.YtadmdlpmikoghaaGreatKiHlS4
import Derived.Test.YtadmdlpmikoghaaGreatKiHlS7
import Derived.Lib.Bytealg
import Derived.Laws.Externs
import Derived.Test.YtadmdlpmikoghaaGreatKiHlS13
import Derived.Test.YtadmdlpmikoghaaGreatKiHlS11
import Derived.Test.YtadmdlpmikoghaaGreatKiHlS14
import Derived.Lib.Strings
set_option maxRecDepth 4000
set_option linter.unusedSimpArgs false
set_option linter.unusedVariables false
namespace Go.HL
open Nat renaming reduceAdd→zA,reduceLeDiff→zB,reduceLT→zC,reduceSub→zD,reduceMul→zE,reduceEqDiff→zF,reduceBEq→zG
open Int renaming reduceAdd→zH,reduceToNat→zI
section
variable {α:Type} {enc:α→List AV} {xs:List α} {S:q00} {g:Nat} {fi ca:List AV} {p:α→Bool}
theorem q8b (hl:∀ x∈xs,(enc x).length=2) (hb:xs.length≤1125899906842624) (hp:∀ x∈xs,AFunS PG g (fi++[.agg (enc x)]++ca) S (.bool (p x))) :
  AFunS PG nrx127 [.sl 2 (xs.map enc),.func (.func g) fi ca] S (.int .i64 (oi (q0k p xs))):=by
 refine wx127 ?_
 unfold Bx127
 (try simp only [rwp,zA,zB,zC,zD,zE,zF,zG,zH,zI])
 refine LoopP.intro (fun i:Nat=>[(0,.sl 2 (xs.map enc)),(1,.func (.func g) fi ca),(7,.int .i64 xs.length),(8,.int .i64 i)]) (fun _=>S) (fun i=>i≤xs.length∧∀ j x,j<i→xs[j]?=some x→p x=false) (fun i=>xs.length-i) 0 ⟨by omega,by omega⟩ rfl (Sub.refl S) ?_
 rintro i ⟨hi,hn⟩ r hr
 unfold C127_1
 (try simp only [rwp,zA,zB,zC,zD,zE,zF,zG,zH,zI])
 (refine q04 (fun hlt=>?_) (fun hlt=>?_)<;>(try simp only [hlc] at hlt))
 ·obtain ⟨x,hx⟩:=q0t hlt
  (try simp only [rwp,zA,zB,zC,zD,zE,zF,zG,zH,zI,hx])
  rw [tkW_all (hl x (List.mem_of_getElem? hx))]
  refine caW_atv (hp x (List.mem_of_getElem? hx)) ?_
  (refine q04 (fun he=>?_) (fun he=>?_)<;>(try simp only [rwp,zA,zB,zC,zD,zE,zF,zG,zH,zI,he]))
  ·have:q0k p xs=some i:=firstI_some.2 ⟨⟨x,hx,he⟩,hn⟩
   exact q03 ⟨by rw [this];rfl,rfl⟩
  ·(simp (disch:=omega) only [q08])
   refine q0a rfl (hr (i+1) ⟨by omega,fun j u hj hu=>?_⟩ (by omega))
   rcases Nat.lt_succ_iff_lt_or_eq.1 hj with h | rfl
   ·exact hn j u h hu
   ·rw [hx] at hu;cases hu;exact he
 ·have:q0k p xs=none:=firstI_none.2 fun j u hu=>hn j u (by have:=(List.getElem?_eq_some_iff.1 hu).1;omega) hu
  exact q03 ⟨by rw [this];rfl,rfl⟩
theorem q5o (hl:∀ x∈xs,(enc x).length=2) (hb:xs.length≤1125899906842624) (hp:∀ x∈xs,AFunS PG g (fi++[.agg (enc x)]++ca) S (.bool (p x))) :
  AFunS PG nrx80 [.sl 2 (xs.map enc),.func (.func g) fi ca] S (.bool (xs.any p)):=by
 refine wx80 ?_
 unfold Bx80
 refine q1a (q8b hl hb hp) ?_
 (try simp only [rwp,zA,zB,zC,zD,zE,zF,zG,zH,zI])
 exact q03 ⟨by rw [oi_some,q2w],rfl⟩
end
theorem c_Index_Ref {l:List Rf} (hl:l.length≤1125899906842624) (f:Rf):AFun PG nrx145 [.sl 2 (l.map rfC),.agg (rfC f)] (.int .i64 (oi (q0k (fun g=>decide (f.ty=g.ty)&&decide (f.rl=g.rl)) l))):=by
 intro S
 refine wx145 ?_
 unfold Bx145
 (try simp only [rwp,zA,zB,zC,zD,zE,zF,zG,zH,zI,rfC])
 refine LoopP.intro (fun i:Nat=>[(0,.sl 2 (l.map rfC)),(3,.rop [.str f.ty,.str f.rl]),(7,.int .i64 l.length),(8,.int .i64 i)]) (fun _=>S) (fun i=>i≤l.length∧∀ j x,j<i→l[j]?=some x→(decide (f.ty=x.ty)&&decide (f.rl=x.rl))=false) (fun i=>l.length-i) 0 ⟨by omega,by omega⟩ rfl (Sub.refl S) ?_
 rintro i ⟨hi,hn⟩ r hr
 unfold C145_1
 (try simp only [rwp,zA,zB,zC,zD,zE,zF,zG,zH,zI])
 (refine q04 (fun hlt=>?_) (fun hlt=>?_)<;>(try simp only [hlc] at hlt))
 ·obtain ⟨x,hx⟩:=q0t hlt
  (try simp only [rwp,zA,zB,zC,zD,zE,zF,zG,zH,zI,hx,rfC,eqW_def])
  (refine q04 (fun he=>?_) (fun he=>?_)<;>(try simp only [rwp,zA,zB,zC,zD,zE,zF,zG,zH,zI,he]))
  ·have:q0k (fun g:Rf=>decide (f.ty=g.ty)&&decide (f.rl=g.rl)) l=some i:=firstI_some.2 ⟨⟨x,hx,he⟩,hn⟩
   exact q03 ⟨by rw [this];rfl,rfl⟩
  ·(simp (disch:=omega) only [q08])
   refine q0a rfl (hr (i+1) ⟨by omega,fun j u hj hu=>?_⟩ (by omega))
   rcases Nat.lt_succ_iff_lt_or_eq.1 hj with h | rfl
   ·exact hn j u h hu
   ·rw [hx] at hu;cases hu;exact he
 ·have:q0k (fun g:Rf=>decide (f.ty=g.ty)&&decide (f.rl=g.rl)) l=none:=firstI_none.2 fun j u hu=>hn j u (by have:=(List.getElem?_eq_some_iff.1 hu).1;omega) hu
  exact q03 ⟨by rw [this];rfl,rfl⟩
theorem c_Contains_Ref {l:List Rf} (hl:l.length≤1125899906842624) (f:Rf):AFun PG nrx100 [.sl 2 (l.map rfC),.agg (rfC f)] (.bool (l.any fun g=>decide (f.ty=g.ty)&&decide (f.rl=g.rl))):=by
 intro S
 refine wx100 ?_
 unfold Bx100
 have q:=c_Index_Ref hl f
 simp only [rfC] at q
 (try simp only [rwp,zA,zB,zC,zD,zE,zF,zG,zH,zI,rfC])
 refine q06 q ?_
 (try simp only [rwp,zA,zB,zC,zD,zE,zF,zG,zH,zI])
 exact q03 ⟨by rw [oi_some,q2w],rfl⟩
def q4q (s:List Ty) (t:Tu):Int:=if tuB t then (match q0o s t.o.ty t.rl with
  | none=>6
  | some (_,_,r)=>if (typF s t.s.o.ty).isSome then (if r.refs.any fun f=>decide (t.s.o.ty=f.ty)&&decide (t.s.rl=f.rl) then 0 else 10) else 6) else 1
theorem q7f {u:Ty} {t:Tu}:AFun PG nrx99 [.agg (tyC u),.rop (tuC t)] (.bool (decide (u.name=t.s.o.ty))):=by
 intro S
 refine wx99 ?_
 unfold Bx99
 (try simp only [rwp,zA,zB,zC,zD,zE,zF,zG,zH,zI,tyC,tuC])
 exact q03 ⟨rfl,rfl⟩
theorem typ_any {s:List Ty} {n:ByteArray}:(s.any fun u=>decide (u.name=n))=(typF s n).isSome:=by rw [typF,q2w]
theorem c_tuple_Allowed {s:List Ty} (hs:OkS s) {t:Tu} (ht:OkU t):AFun PG nrx49 [scA s,.agg (tuC t)] (.int .i64 (q4q s t)):=by
 intro S
 refine wx49 ?_
 unfold Bx49
 have q:=q7g ht
 simp only [tuC] at q
 (try simp only [rwp,zA,zB,zC,zD,zE,zF,zG,zH,zI,rwb,reduceIte,scA,tuC])
 refine q06 q ?_
 (try simp only [rwp,zA,zB,zC,zD,zE,zF,zG,zH,zI,rwb,reduceIte])
 rw [showT_nil]
 cases a1:tuB t
 ·(try simp only [rwp,zA,zB,zC,zD,zE,zF,zG,zH,zI,rwb,reduceIte])
  exact q03 ⟨by simp [q4q,a1],rfl⟩
 ·(try simp only [rwp,zA,zB,zC,zD,zE,zF,zG,zH,zI,rwb,reduceIte])
  have q2:=c_rules_Find hs t.o.ty t.rl
  simp only [scA] at q2
  cases hq:q0o s t.o.ty t.rl with
  | none=>
   refine q10 (q2 S) ?_
   rintro ae S' ⟨rfl,rfl⟩
   rw [hq]
   dsimp only
   (try simp only [rwp,zA,zB,zC,zD,zE,zF,zG,zH,zI,rwb,reduceIte,C49_1,zeroR])
   exact q03 ⟨by simp [q4q,a1,hq],rfl⟩
  | some q3=>
   obtain ⟨i,k,r⟩:=q3
   obtain ⟨-,ty,h2,-,h4⟩:=q1u hq
   have hok:=(hs.at h2).at h4
   refine q10 (q2 S) ?_
   rintro ae S' ⟨rfl,rfl⟩
   rw [hq]
   dsimp only
   (try simp only [rwp,zA,zB,zC,zD,zE,zF,zG,zH,zI,rwb,reduceIte,q0u])
   refine q1a (q5o (enc:=tyC) (fi:=[]) (p:=fun u:Ty=>decide (u.name=t.s.o.ty)) (fun x _=>rfl) hs.types fun u _=>q7f (u:=u) (t:=t) S') ?_
   rw [typ_any]
   cases a2:(typF s t.s.o.ty).isSome
   ·(try simp only [rwp,zA,zB,zC,zD,zE,zF,zG,zH,zI,rwb,reduceIte,C49_1])
    exact q03 ⟨by simp only [q4q,a1,hq,a2];rfl,rfl⟩
   ·(try simp only [rwp,zA,zB,zC,zD,zE,zF,zG,zH,zI,rwb,reduceIte,C49_1])
    have q4:=c_Contains_Ref hok.refs ⟨t.s.o.ty,t.s.rl⟩
    simp only [rfC] at q4
    refine q06 q4 ?_
    cases a3:(r.refs.any fun f=>decide (t.s.o.ty=f.ty)&&decide (t.s.rl=f.rl))
    ·(try simp only [rwp,zA,zB,zC,zD,zE,zF,zG,zH,zI,rwb,reduceIte])
     exact q03 ⟨by simp only [q4q,a1,hq,a2,a3];rfl,rfl⟩
    ·(try simp only [rwp,zA,zB,zC,zD,zE,zF,zG,zH,zI,rwb,reduceIte])
     exact q03 ⟨by simp only [q4q,a1,hq,a2,a3];rfl,rfl⟩
def q18 (s:List Ty) (l:List Tu):List Tu:=l.filter fun t=>decide (q4q s t=0)
def ofF (l:List Tu) (n:Nd):List Tu:=l.filter fun t=>decide (t.o=n.o)&&decide (t.rl=n.rl)
theorem q3z {α:Type} {p:α→Bool} {l:List α} {i:Nat} {x:α} (h:l[i]?=some x):(l.take (i+1)).filter p=(l.take i).filter p++if p x then [x] else []:=by
 rw [q14 h,List.filter_append]
 congr 1
 cases hp:p x<;>simp [hp]
abbrev tyTu:Nat:=41
theorem LstN.tu {S0 S:q00} {v:AV} {l:List Tu} {t:Tu} {K:AV→q00→Prop} (hs:Sub S0 S) (h:LstN S0 S tyTu 6 v (l.map tuC)) (hl:l.length≤1000000) (hK:∀ v' S',Sub S0 S'→LstN S0 S' tyTu 6 v' ((l++[t]).map tuC)→K v' S'):apW S tyTu 6 96 v (.sl 6 [tuC t]) K:=by
 refine LstN.app hs h (fun r hr=>by rw [List.mem_singleton.1 hr];rfl) (q3r fun r hr=>by rw [List.mem_singleton.1 hr];rfl) (by simp only [List.length_map,List.length_singleton];omega) fun v' S' h1 h2 _=>?_
 exact hK v' S' h1 (by simpa using h2)
structure OkL (l:List Tu):Prop where
 n:l.length≤100000
 ok:∀ t∈l,OkU t
def smallF (s:List Ty) (l:List Tu):Bool:=fewF s 60&&decide ((l.length:Int)≤30)
theorem c_law14_Small {s:List Ty} (hs:OkS s) (l:List Tu):AFun PG nrx17 [scA s,.sl 6 (l.map tuC)] (.bool (smallF s l)):=by
 intro S
 refine wx17 ?_
 unfold Bx17
 (try simp only [rwp,zA,zB,zC,zD,zE,zF,zG,zH,zI,rwb,reduceIte,scA])
 refine q06 (by simpa only [scA] using c_law11_Few hs (most:=60) (by decide) (by decide)) ?_
 cases a1:fewF s 60<;>(try simp only [rwp,zA,zB,zC,zD,zE,zF,zG,zH,zI,rwb,reduceIte])<;>exact q03 ⟨by simp [smallF,a1],rfl⟩
def q4f {α σ:Type} (step:σ→α→Option (Bool×σ)):List α→σ→Option (Bool×σ)
 | [],a=>some (false,a)
 | x :: r,a=>match step a x with
  | none=>none
  | some (true,a')=>some (true,a')
  | some (false,a')=>q4f step r a'
structure q1f where
 s:List Ty
 of:Nd→List Nd
 who:Ob
def stepT (who:Ob) (ask:Nd→Nat→Option (Bool×Nat)) (w:Nat) (x:Nd):Option (Bool×Nat):=if x.rl=⟨#[]⟩ then some (decide (x.o=who),w) else ask x w
def stepA (over:ByteArray) (ask:Nd→Nat→Option (Bool×Nat)) (w:Nat) (x:Nd):Option (Bool×Nat):=if x.rl=⟨#[]⟩ then ask ⟨x.o,over⟩ w else some (false,w)
def comb (k:Int) (p:Option (Bool×Nat)) (q:Nat→Option (Bool×Nat)):Option (Bool×Nat):=match p with
 | none=>none
 | some (x,w1)=>if x=decide (k=2) then some (x,w1) else match q w1 with
  | none=>none
  | some (y,w2)=>some (if k=4 then !y else y,w2)
def exQ (E:q1f) (ask:Nd→Nat→Option (Bool×Nat)) (o:Ob):Nat→Ex→Nat→Option (Bool×Nat)
 | 0,_,_=>none
 | m+1,.mk k n ov ks,w=>if k=0 then ask ⟨o,n⟩ w else if k=1 then q4f (stepA ov ask) (E.of ⟨o,n⟩) w else match ks with
  | [a,b]=>comb k (exQ E ask o m a w) (exQ E ask o m b)
  | _=>none
def bodyQ (E:q1f) (ask:Nd→Nat→Option (Bool×Nat)) (n:Nd) (r:Rl) (w:Nat):Option (Bool×Nat):=
 if r.refs.length=0 then exQ E ask n.o 12 r.ex w else q4f (stepT E.who ask) (E.of n) w
def Bu {α:Type} (b:Int) (f g:α→Nat→Option (Bool×Nat)):Prop:=∀ n w x w',f n w=some (x,w')→w≤w'∧((w:Int)≤b→((w':Int)≤b→g n w=some (x,w'))∧(b<(w':Int)→g n w=none))
section
variable {b:Int} {E:q1f} {f g:Nd→Nat→Option (Bool×Nat)}
theorem Bu.fold {α:Type} {s t:Nat→α→Option (Bool×Nat)} (h:Bu b (fun x w=>s w x) (fun x w=>t w x)):Bu b (q4f s) (q4f t):=by
 intro l
 induction l with
 | nil=>
  intro w y w' e
  simp only [q4f,Option.some.injEq,Prod.mk.injEq] at e
  obtain ⟨rfl,rfl⟩:=e
  exact ⟨Nat.le_refl _,fun hw=>⟨fun _=>rfl,fun h=>by omega⟩⟩
 | cons x r ih=>
  intro w y w' e
  unfold q4f at e ⊢
  cases hs:s w x with
  | none=>rw [hs] at e;cases e
  | some q=>
   obtain ⟨z,w1⟩:=q
   rw [hs] at e
   obtain ⟨h1,h2⟩:=h x w z w1 hs
   dsimp only at h2
   cases z with
   | true=>
    simp only [Option.some.injEq,Prod.mk.injEq] at e
    obtain ⟨rfl,rfl⟩:=e
    exact ⟨h1,fun hw=>⟨fun h=>by rw [(h2 hw).1 h],fun h=>by rw [(h2 hw).2 h]⟩⟩
   | false=>
    obtain ⟨k1,k2⟩:=ih w1 y w' e
    refine ⟨by omega,fun hw=>?_⟩
    by_cases h4:(w1:Int)≤b
    ·rw [(h2 hw).1 h4]
     exact k2 h4
    ·rw [(h2 hw).2 (by omega)]
     exact ⟨fun h=>by omega,fun _=>rfl⟩
theorem Bu.told {who:Ob} (h:Bu b f g):Bu b (fun x w=>stepT who f w x) (fun x w=>stepT who g w x):=by
 intro x w y w' e
 dsimp only at e ⊢
 unfold stepT at e ⊢
 split at e
 ·rename_i h0
  simp only [if_pos h0]
  simp only [Option.some.injEq,Prod.mk.injEq] at e
  obtain ⟨rfl,rfl⟩:=e
  exact ⟨Nat.le_refl _,fun hw=>⟨fun _=>rfl,fun h=>by omega⟩⟩
 ·rename_i h0
  simp only [if_neg h0]
  exact h x w y w' e
theorem Bu.arr {over:ByteArray} (h:Bu b f g):Bu b (fun x w=>stepA over f w x) (fun x w=>stepA over g w x):=by
 intro x w y w' e
 dsimp only at e ⊢
 unfold stepA at e ⊢
 split at e
 ·rename_i h0
  simp only [if_pos h0]
  exact h _ w y w' e
 ·rename_i h0
  simp only [if_neg h0]
  simp only [Option.some.injEq,Prod.mk.injEq] at e
  obtain ⟨rfl,rfl⟩:=e
  exact ⟨Nat.le_refl _,fun hw=>⟨fun _=>rfl,fun h=>by omega⟩⟩
theorem Bu.ex (h:Bu b f g) (o:Ob):∀ m,Bu b (exQ E f o m) (exQ E g o m)
 | 0=>fun e w y w' h=>by cases h
 | m+1=>by
  have ih:=Bu.ex h o m
  rintro ⟨k,n,ov,ks⟩ w y w' e
  unfold exQ at e ⊢
  split at e
  ·rename_i h0
   simp only [if_pos h0]
   exact h _ w y w' e
  ·rename_i h0
   simp only [if_neg h0]
   split at e
   ·rename_i h1
    simp only [if_pos h1]
    exact Bu.fold (Bu.arr h) _ w y w' e
   ·rename_i h1
    simp only [if_neg h1]
    match ks,e with
    | [x1,x2],e=>
     dsimp only at e ⊢
     unfold comb at e ⊢
     cases hs:exQ E f o m x1 w with
     | none=>rw [hs] at e;cases e
     | some q=>
      obtain ⟨z,w1⟩:=q
      rw [hs] at e
      obtain ⟨k1,k2⟩:=ih x1 w z w1 hs
      dsimp only at e
      split at e
      ·rename_i h2
       simp only [Option.some.injEq,Prod.mk.injEq] at e
       obtain ⟨rfl,rfl⟩:=e
       exact ⟨k1,fun hw=>⟨fun h=>by rw [(k2 hw).1 h];dsimp only;rw [if_pos h2],fun h=>by rw [(k2 hw).2 h]⟩⟩
      ·rename_i h2
       cases hs2:exQ E f o m x2 w1 with
       | none=>rw [hs2] at e;cases e
       | some q2=>
        obtain ⟨z2,w2⟩:=q2
        rw [hs2] at e
        simp only [Option.some.injEq,Prod.mk.injEq] at e
        obtain ⟨e1,rfl⟩:=e
        obtain ⟨k3,k4⟩:=ih x2 w1 z2 w2 hs2
        refine ⟨by omega,fun hw=>?_⟩
        by_cases h4:(w1:Int)≤b
        ·rw [(k2 hw).1 h4]
         dsimp only
         rw [if_neg h2]
         exact ⟨fun h=>by rw [(k4 h4).1 h,← e1],fun h=>by rw [(k4 h4).2 h]⟩
        ·rw [(k2 hw).2 (by omega)]
         exact ⟨fun h=>by omega,fun _=>rfl⟩
    | [],e=>cases e
    | [_],e=>cases e
    | _ :: _ :: _ :: _,e=>cases e
theorem Bu.body (h:Bu b f g) (n:Nd) (r:Rl):Bu b (fun (_:Unit) w=>bodyQ E f n r w) (fun _ w=>bodyQ E g n r w):=by
 intro _ w y w' e
 dsimp only at e ⊢
 unfold bodyQ at e ⊢
 split at e
 ·rename_i h0
  simp only [if_pos h0]
  exact Bu.ex h _ _ _ w y w' e
 ·rename_i h0
  simp only [if_neg h0]
  exact Bu.fold (Bu.told h) _ w y w' e
end
def envE (s:List Ty) (l:List Tu) (who:Ob):q1f:=⟨s,fun n=>(ofF (q18 s l) n).map Tu.s,who⟩
theorem sc_may {s:List Ty} (h:scB s=true):∀ t∈s,∀ r∈t.rels,r.refs.length=0→mayE 12 r.ex=true:=by
 intro t ht r hr h0
 have h1:=List.all_eq_true.1 h t ht
 simp only [typB,Bool.and_eq_true] at h1
 have h2:=List.all_eq_true.1 h1.2 r hr
 simp only [relB,Bool.and_eq_true,Bool.or_eq_true] at h2
 rcases h2.2.2 with h3 | h3
 ·rw [List.length_eq_zero_iff.1 h0] at h3;cases h3
 ·exact h3
theorem counts_ok {s:List Ty} {l:List Tu} (h:OkL l):OkL (q18 s l):=⟨Nat.le_trans (List.length_filter_le _ _) h.n,fun t ht=>h.ok t (List.mem_filter.1 ht).1⟩
set_option maxRecDepth 4000
abbrev MD:Bool×List EK:=(true,[.str,.str,.str])
def ndA (n:Nd):AV:=.agg (ndC n)
theorem ke_nd:KE MD ndA:=⟨fun n=>by simp [ndA,ndC,q0m,q11,ekOk],fun n m h=>by
 obtain ⟨⟨a,b⟩,c⟩:=n
 obtain ⟨⟨d,e⟩,f⟩:=m
 simp only [ndA,ndC,AV.agg.injEq,List.cons.injEq,AV.str.injEq,and_true] at h
 obtain ⟨rfl,rfl,rfl⟩:=h
 rfl⟩
theorem foldE_cons {α σ:Type} {step:σ→α→Option (Bool×σ)} {x:α} {r:List α} {a:σ}:q4f step (x :: r) a=match step a x with
  | none=>none
  | some (true,a')=>some (true,a')
  | some (false,a')=>q4f step r a':=rfl
theorem KMap.lki {κ:Type} {M:Bool×List EK} {enc:κ→AV} {S:q00} {b:Nat} {f:κ→Option AV} {ok:Bool} {z:AV} {K:AV→Prop} (h:KMap M enc S b f) (he:KE M enc) (k:κ) (hk:K (q1q ok z (f k))):lkW S M ok z (.map (some b)) (enc k) K:=Eq.mpr (h.lk he k) hk
def PostQ (pv:AV) (X:q00→Prop) (St:Nat→q00→Prop) (q:Option (Bool×Nat)) (ae:AEnd) (S':q00):Prop:=match q with
 | some (b,w')=>ae=.ret (.bool b)∧St w' S'
 | none=>ae=.pan pv∧X S'
section
variable {xs:List Nd} {g:Nat} {fi ca:List AV} {St:Nat→q00→Prop} {step:Nat→Nd→Option (Bool×Nat)} {pv:AV} {X:q00→Prop}
theorem q5n (hb:xs.length≤1125899906842624) (hp:∀ x∈xs,∀ w S,St w S→ACalls PG g (fi++[.agg (ndC x)]++ca) S (PostQ pv X St (step w x))) {w:Nat} {S:q00} (h0:St w S) :
  ACalls PG nrx186 [.sl 3 (xs.map ndC),.func (.func g) fi ca] S fun ae S'=>match q4f step xs w with
   | some (b,w')=>(∃ i:Int,ae=.ret (.int .i64 i)∧decide (0≤i)=b)∧St w' S'
   | none=>ae=.pan pv∧X S':=by
 refine wx186 ?_
 unfold Bx186
 (try simp only [rwp,zA,zB,zC,zD,zE,zF,zG,zH,zI])
 refine LoopP.introS (fun i:Nat=>[(0,.sl 3 (xs.map ndC)),(1,.func (.func g) fi ca),(7,.int .i64 xs.length),(8,.int .i64 i)]) (fun i S'=>i≤xs.length∧∃ w',St w' S'∧q4f step (xs.drop i) w'=q4f step xs w) (fun i=>xs.length-i) 0 ⟨by omega,w,h0,rfl⟩ rfl ?_
 rintro i S' ⟨hi,w1,h1,h2⟩ r hr
 unfold C186_1
 (try simp only [rwp,zA,zB,zC,zD,zE,zF,zG,zH,zI])
 (refine q04 (fun hlt=>?_) (fun hlt=>?_)<;>(try simp only [hlc] at hlt))
 ·obtain ⟨x,hx⟩:=q0t hlt
  have q:=hp x (List.mem_of_getElem? hx) w1 S' h1
  rw [q0z hx,foldE_cons] at h2
  (try simp only [rwp,zA,zB,zC,zD,zE,zF,zG,zH,zI,hx,ndC])
  refine caW_ofv q ?_
  intro ae S2 hq
  unfold PostQ at hq
  cases hs:step w1 x with
  | none=>
   rw [hs] at hq h2
   obtain ⟨rfl,hx⟩:=hq
   show pqW _ _ _
   unfold pqW
   rw [← h2]
   exact ⟨rfl,hx⟩
  | some p=>
   obtain ⟨b,w2⟩:=p
   rw [hs] at hq h2
   obtain ⟨rfl,h3⟩:=hq
   dsimp only at h2 ⊢
   cases b with
   | true=>
    dsimp only at h2
    (try simp only [rwp,zA,zB,zC,zD,zE,zF,zG,zH,zI])
    refine q03 ?_
    rw [← h2]
    exact ⟨⟨i,rfl,by simp⟩,h3⟩
   | false=>
    dsimp only at h2
    (try simp only [rwp,zA,zB,zC,zD,zE,zF,zG,zH,zI])
    (simp (disch:=omega) only [q08])
    exact q0a rfl (hr (i+1) S2 ⟨by omega,w2,h3,h2⟩ (by omega))
 ·have e:xs.drop i=[]:=q2t hlt
  rw [e] at h2
  refine q03 ?_
  rw [← h2]
  exact ⟨⟨-1,rfl,rfl⟩,h1⟩
theorem q46 (hb:xs.length≤1125899906842624) (hp:∀ x∈xs,∀ w S,St w S→ACalls PG g (fi++[.agg (ndC x)]++ca) S (PostQ pv X St (step w x))) {w:Nat} {S:q00} (h0:St w S) :
  ACalls PG nrx147 [.sl 3 (xs.map ndC),.func (.func g) fi ca] S (PostQ pv X St (q4f step xs w)):=by
 refine wx147 ?_
 unfold Bx147
 refine q10 (q5n hb hp h0) ?_
 intro ae S' hq
 unfold PostQ
 cases hf:q4f step xs w with
 | none=>
  rw [hf] at hq
  obtain ⟨rfl,hx⟩:=hq
  exact ⟨rfl,hx⟩
 | some p=>
  obtain ⟨b,w2⟩:=p
  rw [hf] at hq
  obtain ⟨⟨i,rfl,h1⟩,h2⟩:=hq
  dsimp only
  (try simp only [rwp,zA,zB,zC,zD,zE,zF,zG,zH,zI])
  exact q03 ⟨by rw [h1],h2⟩
theorem q6j {w:Nat} {S:q00} (h0:St w S) :
  ACalls PG nrx147 [.nils,.func (.func g) fi ca] S (PostQ pv X St (q4f step [] w)):=by
 refine wx147 ?_
 unfold Bx147
 have q:AFunS PG nrx186 [.nils,.func (.func g) fi ca] S (.int .i64 (-1)):=by
  refine wx186 ?_
  unfold Bx186
  (try simp only [rwp,zA,zB,zC,zD,zE,zF,zG,zH,zI])
  refine LoopP.introS (fun _:Nat=>[(0,.nils),(1,.func (.func g) fi ca),(7,.int .i64 0),(8,.int .i64 0)]) (fun i S'=>S'=S) (fun i=>i) 0 rfl rfl ?_
  rintro i S' rfl r hr
  (try simp only [rwp,zA,zB,zC,zD,zE,zF,zG,zH,zI,rwb,reduceIte,C186_1,Int.lt_irrefl])
  exact q03 ⟨rfl,rfl⟩
 refine q1a q ?_
 (try simp only [rwp,zA,zB,zC,zD,zE,zF,zG,zH,zI])
 exact q03 ⟨rfl,h0⟩
def ofA (l:List Nd):Option AV:=if l=[] then none else some (.sl 3 (l.map ndC))
theorem q7i (hb:xs.length≤1125899906842624) (hp:∀ x∈xs,∀ w S,St w S→ACalls PG g (fi++[.agg (ndC x)]++ca) S (PostQ pv X St (step w x))) {w:Nat} {S:q00} (h0:St w S) :
  ACalls PG nrx147 [q1q false .nils (ofA xs),.func (.func g) fi ca] S (PostQ pv X St (q4f step xs w)):=by
 unfold ofA
 split
 ·rename_i h;subst h;exact q6j h0
 ·exact q46 hb hp h0
end
abbrev tySe:Nat:=94
structure PathE (es:List (AV×AV×Nat)) (P:List Nd):Prop where
 key:∀ x∈es,∃ n,x.1=ndA n
 len:es.length=P.length
 get:∀ n,mget es (ndA n)=if n∈P then some (.bool true) else none
def seC (E:q1f) (B:Int) (bo bp w:Nat):List AV:=[.sl 2 (E.s.map tyC),.map (some bo),.str E.who.ty,.str E.who.id,.int .i64 B,.int .i64 w,.map (some bp)]
def stE (E:q1f) (B:Int) (bc bo bp:Nat) (S0:q00) (w:Nat) (es:List (AV×AV×Nat)) (clk:Nat):q00:=supd (supd S0 bc (.cells tySe (seC E B bo bp w) 7)) bp (.map MD es clk)
section
variable {E:q1f} {B:Int} {bc bo bp:Nat} {S0:q00}
theorem stE_map {w:Nat} {es:List (AV×AV×Nat)} {clk:Nat}:q26 (stE E B bc bo bp S0 w es clk) bp=some (MD,es,clk):=mapObj_some.2 (by unfold stE;rw [q01,if_pos rfl])
end
theorem mfind_none {es:List (AV×AV×Nat)} {k:AV} (h:mget es k=none):q16 es k=none:=by
 unfold mget at h
 exact Option.map_eq_none_iff.1 h
theorem mget_snoc {k v k':AV} {c:Nat}:∀ {es:List (AV×AV×Nat)},mget (es++[(k,v,c)]) k'=match mget es k' with
  | some u=>some u
  | none=>if q19 k' k then some v else none
 | []=>by simp [mget,q16]
 | x :: r=>by
  rw [List.cons_append,q1p,q1p]
  split
  ·rfl
  ·exact mget_snoc
theorem ndA_eq (n m:Nd):q19 (ndA n) (ndA m)=decide (n=m):=by
 have hk:=ke_nd
 by_cases h:n=m
 ·subst h
  rw [decide_eq_true rfl]
  exact q74 (hk.ok n)
 ·rw [decide_eq_false h]
  cases hq:q19 (ndA n) (ndA m) with
  | false=>rfl
  | true=>exact absurd (hk.inj _ _ ((q3o (hk.ok n) (hk.ok m)).1 hq)) h
theorem PathE.push {es:List (AV×AV×Nat)} {P:List Nd} (h:PathE es P) {n:Nd} (hn:n ∉ P) (clk:Nat):PathE (es++[(ndA n,.bool true,clk)]) (n :: P) where
 key:=fun x hx=>by
  rcases List.mem_append.1 hx with h1 | h1
  ·exact h.key x h1
  ·rw [List.mem_singleton.1 h1];exact ⟨n,rfl⟩
 len:=by rw [List.length_append,h.len];rfl
 get:=fun m=>by
  rw [mget_snoc,h.get]
  by_cases h1:m∈P
  ·rw [if_pos h1,if_pos (List.mem_cons_of_mem _ h1)]
  ·rw [if_neg h1]
   dsimp only
   rw [ndA_eq]
   by_cases h2:m=n
   ·subst h2;simp
   ·rw [decide_eq_false h2,if_neg (by simp),if_neg (by simp [h1,h2])]
theorem PathE.map {E:q1f} {B:Int} {bc bo bp:Nat} {S0:q00} {es:List (AV×AV×Nat)} {P:List Nd} (h:PathE es P) {w clk:Nat}:KMap MD ndA (stE E B bc bo bp S0 w es clk) bp (fun n=>if n∈P then some (.bool true) else none):=
 ⟨es,clk,stE_map,fun x hx=>by obtain ⟨n,e⟩:=h.key x hx;rw [e];exact ke_nd.ok n,h.get⟩
section
variable {E:q1f} {B:Int} {bc bo bp:Nat} {S0:q00}
end
structure OfM (S0 S:q00) (t bo:Nat) (Ks:Nat→Prop) (f:Nd→List (List AV)) (es:List (AV×AV×Nat)) (clk:Nat):Prop where
 map:sget S bo=some (.map MD es clk)
 b0:sget S0 bo=none
 key:∀ x∈es,∃ n,x.1=ndA n
 nd:(es.map fun x=>x.2.2).Nodup
 ku:∀ (i j:Nat) (x y:AV×AV×Nat),es[i]?=some x→es[j]?=some y→x.1=y.1→i=j
 lt:∀ x∈es,x.2.2<clk
 no:∀ n,mget es (ndA n)=none→f n=[]
 yes:∀ n v,mget es (ndA n)=some v→f n≠[]∧LstN S0 S t 3 v (f n)∧q0l v bo∧∀ c,Ks c→q0l v c
 apart:∀ n m v u,n≠m→mget es (ndA n)=some v→mget es (ndA m)=some u→∀ b off k cap,u=.own b off k cap→q0l v b
 ks:∀ c,Ks c→c≠bo∧sget S c≠none
theorem q78 {bn:Nat}:∀ {es:List (AV×AV×Nat)} {i:Nat} {x:AV×AV×Nat},(es.map fun x=>x.2.2).Nodup→es[i]?=some x→x.2.2=bn→es.findIdx? (fun x=>x.2.2==bn)=some i:=by
 intro es i x hnd hx hb
 have hi:=(List.getElem?_eq_some_iff.1 hx).1
 rw [List.findIdx?_eq_some_iff_getElem]
 refine ⟨hi,?_,fun j hj=>?_⟩
 ·have:=(List.getElem?_eq_some_iff.1 hx).2
  simp [this,hb]
 ·intro hq
  have hj2:j<es.length:=by omega
  have h1:es[j].2.2=bn:=by simpa using hq
  have h2:es[i].2.2=bn:=by rw [(List.getElem?_eq_some_iff.1 hx).2];exact hb
  have:=(List.getElem_inj (xs:=es.map fun (x:AV×AV×Nat)=>x.2.2) (i:=j) (j:=i) (h₀:=by simpa using hj2) (h₁:=by simpa using hi) hnd).1 (by simp [h1,h2])
  omega
theorem mget_no {es:List (AV×AV×Nat)} {n:Nd} (hk:∀ x∈es,∃ n,x.1=ndA n) (h:mget es (ndA n)=none):∀ x∈es,x.1≠ndA n:=by
 induction es with
 | nil=>intro x hx;cases hx
 | cons y r ih=>
  rw [q1p] at h
  obtain ⟨m,hm⟩:=hk y (by simp)
  intro x hx
  split at h
  ·cases h
  ·rename_i hq
   rcases List.mem_cons.1 hx with rfl | hx
   ·intro e
    rw [e,ndA_eq] at hq
    simp at hq
   ·exact ih (fun z hz=>hk z (List.mem_cons_of_mem _ hz)) h x hx
theorem mfind_key {es:List (AV×AV×Nat)} {n:Nd} {i:Nat} {v:AV} {bn:Nat} (hk:∀ x∈es,∃ n,x.1=ndA n) (h:q16 es (ndA n)=some (i,v,bn)):es[i]?=some (ndA n,v,bn):=by
 obtain ⟨kk,h1,h2⟩:=q4a h
 obtain ⟨m,hm⟩:=hk _ (List.mem_of_getElem? h1)
 dsimp only at hm
 subst hm
 rw [ndA_eq] at h2
 rw [h1,of_decide_eq_true h2]
theorem mget_mset {es:List (AV×AV×Nat)} {n m:Nd} {v:AV} {clk:Nat} (hk:∀ x∈es,∃ n,x.1=ndA n):mget (mset es (ndA n) v clk).1 (ndA m)=if m=n then some v else mget es (ndA m):=by
 have hko:keysOk MD es:=fun x hx=>by obtain ⟨n,e⟩:=hk x hx;rw [e];exact ke_nd.ok n
 rw [q33,q65 (ke_nd.ok n) _ _ hko (ke_nd.ok m)]
 by_cases h:m=n
 ·subst h;simp
 ·rw [if_neg fun e=>h (ke_nd.inj _ _ e),if_neg h]
section
variable {S0 S:q00} {t bo:Nat} {Ks:Nat→Prop} {f:Nd→List (List AV)} {es:List (AV×AV×Nat)} {clk:Nat}
theorem OfM.put (h:OfM S0 S t bo Ks f es clk) {n:Nd} {v v':AV} {row:List AV} {S2:q00} {es':List (AV×AV×Nat)} {clk':Nat} (hv:mget es (ndA n)=some v∨(mget es (ndA n)=none∧v=.nils))
  (h2:LstN S0 S2 t 3 v' (f n++[row])) (hF:∀ c o,c≠bo→sget S c=some o→q0l v c→sget S2 c=some o∧q0l v' c) (hvb:q0l v' bo)
  (he:es'=(mset es (ndA n) v' clk).1) (hkey:∀ x∈es',∃ n,x.1=ndA n) (hnd:(es'.map fun x=>x.2.2).Nodup) (hku:∀ (i j:Nat) (x y:AV×AV×Nat),es'[i]?=some x→es'[j]?=some y→x.1=y.1→i=j) (hlt:∀ x∈es',x.2.2<clk') :
  OfM S0 (supd S2 bo (.map MD es' clk')) t bo Ks (fun m=>if m=n then f n++[row] else f m) es' clk':=by
 have hg:∀ m,mget es' (ndA m)=if m=n then some v' else mget es (ndA m):=fun m=>by rw [he,mget_mset h.key]
 have hva:∀ c,Ks c→q0l v c:=fun c hc=>by
  rcases hv with hv | ⟨-,rfl⟩
  ·exact (h.yes n v hv).2.2.2 c hc
  ·intro b off k cap e;cases e
 refine ⟨by rw [q01,if_pos rfl],h.b0,hkey,hnd,hku,hlt,fun m hm=>?_,fun m u hm=>?_,fun m p u x hmp hm hp=>?_,fun c hc=>⟨(h.ks c hc).1,?_⟩⟩
 ·rw [hg] at hm
  by_cases hmn:m=n
  ·rw [if_pos hmn] at hm;cases hm
  ·rw [if_neg hmn] at hm ⊢
   exact h.no m hm
 ·rw [hg] at hm
  by_cases hmn:m=n
  ·rw [if_pos hmn] at hm ⊢
   cases hm
   refine ⟨by simp,h2.upd hvb _,hvb,fun c hc=>?_⟩
   cases ho:sget S c with
   | none=>exact absurd ho (h.ks c hc).2
   | some o=>exact (hF c o (h.ks c hc).1 ho (hva c hc)).2
  ·rw [if_neg hmn] at hm ⊢
   obtain ⟨k1,k2,k3,k4⟩:=h.yes m u hm
   refine ⟨k1,LstN.upd ?_ k3 _,k3,k4⟩
   obtain ⟨hr,hl⟩:=k2
   refine ⟨hr,?_⟩
   rcases hl with hl | ⟨b,cap,rfl,q1,q2,q3⟩
   ·exact .inl hl
   ·refine .inr ⟨b,cap,rfl,q1,?_,q3⟩
    have hav:q0l v b:=by
     rcases hv with hv | ⟨-,rfl⟩
     ·exact h.apart n m v _ (Ne.symm hmn) hv hm b _ _ _ rfl
     ·intro b off k cap e;cases e
    exact (hF b _ (Ne.symm (k3 b _ _ _ rfl)) q2 hav).1
 ·rw [hg] at hm hp
  intro b off k cap hx
  have other:∀ (m:Nd) (u:AV),m≠n→mget es (ndA m)=some u→∀ b off k cap,u=.own b off k cap→q0l v' b:=by
   intro m u hmn hm b off k cap e
   subst e
   obtain ⟨k1,k2,k3,k4⟩:=h.yes m _ hm
   have hav:q0l v b:=by
    rcases hv with hv | ⟨-,rfl⟩
    ·exact h.apart n m v _ (Ne.symm hmn) hv hm b _ _ _ rfl
    ·intro b off k cap e;cases e
   obtain ⟨hr,hl⟩:=k2
   rcases hl with ⟨e,-⟩ | ⟨b1,cap1,e,q1,q2,q3⟩
   ·cases e
   ·cases e
    exact (hF b _ (Ne.symm (k3 b _ _ _ rfl)) q2 hav).2
  by_cases hmn:m=n
  ·rw [if_pos hmn] at hm
   cases hm
   have hpn:p≠n:=fun e=>hmp (hmn.trans e.symm)
   rw [if_neg hpn] at hp
   exact other p x hpn hp b off k cap hx
  ·rw [if_neg hmn] at hm
   by_cases hpn:p=n
   ·rw [if_pos hpn] at hp
    cases hp
    subst hx
    intro b1 off1 k1 cap1 e
    exact Ne.symm (other m u hmn hm b1 off1 k1 cap1 e b off k cap rfl)
   ·rw [if_neg hpn] at hp
    exact h.apart m p u x hmp hm hp b off k cap hx
 ·rw [q01,if_neg (Ne.symm (h.ks c hc).1)]
  cases ho:sget S c with
  | none=>exact absurd ho (h.ks c hc).2
  | some o=>rw [(hF c o (h.ks c hc).1 ho (hva c hc)).1];simp
theorem OfM.push (h:OfM S0 S t bo Ks f es clk) (hs:Sub S0 S) (n:Nd) {row:List AV} {bytes:Nat} {K:q00→Prop} (hr:row.length=3) (ho:ones row=true) (hb:((f n).length+1) * bytes≤140737488355328)
  (hK:∀ S' es' clk',Sub S0 S'→OfM S0 S' t bo Ks (fun m=>if m=n then f n++[row] else f m) es' clk'→(∀ c,Ks c→sget S' c=sget S c)→K S') :
  meW S MD .nils (.map (some bo)) (ndA n) fun v S=>exW 0 v fun v70=>exW 1 v fun v76=>apW S t 3 bytes v70 (.sl 3 [row]) fun v75 S=>mtW S (.map (some bo)) v76 v75 K:=by
 have keep:∀ {v v':AV} {S1 S2:q00},(∀ c,Ks c→q0l v c)→(∀ c o,c≠bo→sget S c=some o→q0l v c→sget S2 c=some o∧q0l v' c)→∀ es' clk',∀ c,Ks c→sget (supd S2 bo (.map MD es' clk')) c=sget S c:=by
  intro v v' S1 S2 hv hF es' clk' c hc
  rw [q01,if_neg (Ne.symm (h.ks c hc).1)]
  cases ho:sget S c with
  | none=>exact absurd ho (h.ks c hc).2
  | some o=>exact (hF c o (h.ks c hc).1 ho (hv c hc)).1
 cases hq:mget es (ndA n) with
 | none=>
  have hm:=mfind_none hq
  have hf:=h.no n hq
  refine ⟨bo,es,clk,rfl,h.map,ke_nd.ok n,?_⟩
  rw [hm]
  dsimp only
  rw [q50,q8j,q50]
  have hsub1:Sub S0 (supd S bo (.map MD (es++[(ndA n,.nils,clk)]) (clk+1))):=Sub.supd h.b0 hs
  refine LstN.app hsub1 (LstN.nil (S0:=S0)) (fun r hr'=>by rw [List.mem_singleton.1 hr'];exact hr) (q3r fun r hr'=>by rw [List.mem_singleton.1 hr'];exact ho) (by rw [hf] at hb;simpa using hb) fun v' S2 h1 h2 h3=>?_
  rw [List.nil_append] at h2
  have hbo2:=h3 bo _ (by rw [q01,if_pos rfl]) (fun b off k cap e=>by cases e)
  have hF:∀ c o,c≠bo→sget S c=some o→q0l .nils c→sget S2 c=some o∧q0l v' c:=fun c o hc hso ha=>h3 c o (by rw [q01,if_neg (Ne.symm hc)];exact hso) ha
  have hnd:((es++[(ndA n,AV.nils,clk)]).map fun x=>x.2.2).Nodup:=by
   rw [List.map_append,List.nodup_append]
   refine ⟨h.nd,by simp,fun a ha b hb=>?_⟩
   obtain ⟨x,hx,rfl⟩:=List.mem_map.1 ha
   have:=h.lt x hx
   simp at hb
   omega
  have hset:(mset es (ndA n) v' clk)=(es++[(ndA n,v',clk)],clk+1):=by unfold mset;rw [hm]
  have hku:∀ (i j:Nat) (x y:AV×AV×Nat),(es++[(ndA n,v',clk)])[i]?=some x→(es++[(ndA n,v',clk)])[j]?=some y→x.1=y.1→i=j:=by
   intro i j x y hx hy hxy
   have hno:=mget_no h.key hq
   rw [List.getElem?_append] at hx hy
   split at hx<;>split at hy
   ·exact h.ku i j x y hx hy hxy
   ·rw [List.getElem?_singleton] at hy
    split at hy
    ·cases hy
     exact absurd hxy (hno x (List.mem_of_getElem? hx))
    ·cases hy
   ·rw [List.getElem?_singleton] at hx
    split at hx
    ·cases hx
     exact absurd hxy.symm (hno y (List.mem_of_getElem? hy))
    ·cases hx
   ·rw [List.getElem?_singleton] at hx hy
    split at hx
    ·split at hy
     ·omega
     ·cases hy
    ·cases hx
  refine ⟨bo,MD,es++[(ndA n,.nils,clk)],clk+1,es.length,ndA n,.nils,clk,rfl,hbo2.1,rfl,q78 hnd (x:=(ndA n,.nils,clk)) (by simp) rfl,by simp,?_⟩
  have e:(es++[(ndA n,AV.nils,clk)]).set es.length (ndA n,v',clk)=es++[(ndA n,v',clk)]:=by simp
  rw [e]
  refine hK _ _ _ (Sub.supd h.b0 h1) (h.put (n:=n) (v:=.nils) (.inr ⟨hq,rfl⟩) (by rw [hf];exact h2) hF hbo2.2 (by rw [hset]) (fun x hx=>?_) (by simpa using hnd) hku fun x hx=>?_) (keep (S1:=S) (fun c _ b off k cap e=>by cases e) hF _ _)
  ·rcases List.mem_append.1 hx with hx | hx
   ·exact h.key x hx
   ·rw [List.mem_singleton.1 hx];exact ⟨n,rfl⟩
  ·rcases List.mem_append.1 hx with hx | hx
   ·have:=h.lt x hx;omega
   ·rw [List.mem_singleton.1 hx];exact Nat.lt_succ_self _
 | some v=>
  obtain ⟨hne,hl,hvb,hvk⟩:=h.yes n v hq
  have hm:∃ i bn,q16 es (ndA n)=some (i,v,bn):=by
   unfold mget at hq
   cases hmf:q16 es (ndA n) with
   | none=>rw [hmf] at hq;cases hq
   | some p=>
    obtain ⟨i,u,bn⟩:=p
    rw [hmf] at hq
    simp at hq
    subst hq
    exact ⟨i,bn,rfl⟩
  obtain ⟨i,bn,hm⟩:=hm
  have hi:=mfind_key h.key hm
  refine ⟨bo,es,clk,rfl,h.map,ke_nd.ok n,?_⟩
  rw [hm]
  dsimp only
  have e0:es.set i (ndA n,v,bn)=es:=by
   apply List.ext_getElem?
   intro j
   rw [List.getElem?_set]
   split
   ·rename_i hij
    subst hij
    rw [if_pos (List.getElem?_eq_some_iff.1 hi).1,hi]
   ·rfl
  rw [e0,q50,q8j,q50]
  have e1:supd S bo (.map MD es clk)=S:=by
   funext c
   unfold supd
   split
   ·rename_i hc;subst hc;exact h.map.symm
   ·rfl
  rw [e1]
  refine LstN.app hs hl (fun r hr'=>by rw [List.mem_singleton.1 hr'];exact hr) (q3r fun r hr'=>by rw [List.mem_singleton.1 hr'];exact ho) (by simpa using hb) fun v' S2 h1 h2 h3=>?_
  have hbo2:=h3 bo _ h.map hvb
  have hF:∀ c o,c≠bo→sget S c=some o→q0l v c→sget S2 c=some o∧q0l v' c:=fun c o _ hso ha=>h3 c o hso ha
  have hset:(mset es (ndA n) v' clk)=(es.set i (ndA n,v',bn),clk):=by unfold mset;rw [hm]
  refine ⟨bo,MD,es,clk,i,ndA n,v,bn,rfl,hbo2.1,rfl,q78 h.nd hi rfl,hi,?_⟩
  have hlt:=(List.getElem?_eq_some_iff.1 hi).1
  have hmap:(es.set i (ndA n,v',bn)).map (fun x=>x.2.2)=es.map fun x=>x.2.2:=by
   rw [List.map_set]
   apply List.ext_getElem?
   intro j
   rw [List.getElem?_set]
   split
   ·rename_i hij
    subst hij
    rw [if_pos (by simpa using hlt),List.getElem?_map,hi];rfl
   ·rfl
  refine hK _ _ _ (Sub.supd h.b0 h1) (h.put (n:=n) (v:=v) (.inl hq) h2 hF hbo2.2 (by rw [hset]) (fun x hx=>?_) (by rw [hmap];exact h.nd) (fun i2 j2 x y hx hy hxy=>?_) fun x hx=>?_) (keep (S1:=S) hvk hF _ _)
  ·rcases List.mem_or_eq_of_mem_set hx with hx | rfl
   ·exact h.key x hx
   ·exact ⟨n,rfl⟩
  ·have hget:∀ (k:Nat) (z:AV×AV×Nat),(es.set i (ndA n,v',bn))[k]?=some z→∃ z',es[k]?=some z'∧z'.1=z.1:=by
    intro k z hz
    rw [List.getElem?_set] at hz
    split at hz
    ·rename_i hik
     subst hik
     cases hz
     exact ⟨_,hi,rfl⟩
    ·exact ⟨z,hz,rfl⟩
   obtain ⟨x',hx',ex⟩:=hget i2 x hx
   obtain ⟨y',hy',ey⟩:=hget j2 y hy
   exact h.ku i2 j2 x' y' hx' hy' (by rw [ex,ey,hxy])
  ·rcases List.mem_or_eq_of_mem_set hx with hx | rfl
   ·exact h.lt x hx
   ·exact h.lt (ndA n,v,bn) (List.mem_of_getElem? hi)
end
def ndD:AV→Nd
 | .agg [.str a,.str b,.str c]=>⟨⟨a,b⟩,c⟩
 | _=>⟨⟨⟨#[]⟩,⟨#[]⟩⟩,⟨#[]⟩⟩
theorem ndD_A (n:Nd):ndD (ndA n)=n:=rfl
def frzM (f:Nd→List (List AV)) (es:List (AV×AV×Nat)):List (AV×AV×Nat):=es.map fun x=>(x.1,.sl 3 (f (ndD x.1)),x.2.2)
theorem mget_frz {f:Nd→List (List AV)} {n:Nd}:∀ {es:List (AV×AV×Nat)},(∀ x∈es,∃ n,x.1=ndA n)→mget (frzM f es) (ndA n)=(mget es (ndA n)).map fun _=>.sl 3 (f n)
 | [],_=>rfl
 | x :: r,h=>by
  obtain ⟨m,hm⟩:=h x (by simp)
  have ih:=mget_frz (f:=f) (n:=n) (es:=r) fun y hy=>h y (List.mem_cons_of_mem _ hy)
  unfold frzM at ih ⊢
  rw [List.map_cons,q1p,q1p,hm,ndA_eq]
  dsimp only
  by_cases e:n=m
  ·subst e
   simp [ndD_A]
  ·rw [decide_eq_false e,if_neg (by simp),if_neg (by simp)]
   exact ih
section
variable {S0 S:q00} {t bo:Nat} {Ks:Nat→Prop} {f:Nd→List (List AV)} {es:List (AV×AV×Nat)} {clk:Nat}
theorem OfM.fr (h:OfM S0 S t bo Ks f es clk) {S1:q00} (h1:∀ b,sget S1 b≠none→b=bo∨Ks b∨sget S0 b≠none):FrO S1 S (.map MD es clk) (.map MD (frzM f es) clk):=by
 refine .map MD es _ clk (by simp [frzM]) fun i e e' he he'=>?_
 unfold frzM at he'
 rw [List.getElem?_map,he] at he'
 simp only [Option.map_some,Option.some.injEq] at he'
 subst he'
 obtain ⟨n,hn⟩:=h.key e (List.mem_of_getElem? he)
 refine ⟨rfl,?_,rfl⟩
 dsimp only
 rw [hn,ndD_A]
 have hg:mget es (ndA n)=some e.2.1:=by
  cases hq:mget es (ndA n) with
  | none=>exact absurd hn (mget_no h.key hq e (List.mem_of_getElem? he))
  | some u=>
   unfold mget at hq
   cases hmf:q16 es (ndA n) with
   | none=>rw [hmf] at hq;cases hq
   | some p=>
    obtain ⟨j,u',bn⟩:=p
    have hj:=mfind_key h.key hmf
    have:=h.ku i j _ _ he hj hn
    subst this
    rw [he] at hj
    cases hj
    rw [hmf] at hq
    exact hq.symm
 obtain ⟨-,⟨hr,hl⟩,hvb,hvk⟩:=h.yes n _ hg
 rcases hl with ⟨e1,e2⟩ | ⟨b,cap,e1,q1,q2,q3,-,-⟩
 ·rw [e1,e2];exact .nils 3
 ·rw [e1] at hvb hvk ⊢
  refine .own t 3 b _ cap (f n) hr ?_ q2 rfl q3
  cases hs:sget S1 b with
  | none=>rfl
  | some o=>
   rcases h1 b (by rw [hs];simp) with rfl | hk | h0
   ·exact absurd rfl (hvb _ _ _ _ rfl)
   ·exact absurd rfl (hvk b hk _ _ _ _ rfl)
   ·exact absurd q1 h0
end
set_option maxRecDepth 4000
def ndT (t:Tu):Nd:=⟨t.o,t.rl⟩
section
variable {S0 S1:q00} {b1 b2 b3 t1 t2 t3:Nat} {x1 x2 x3:AV} {QF:AEnd→q00→Prop}
end
theorem frsh {S:q00} {b c:Nat} {o:AObj} (h:sget (supd S b o) c=none):c≠b∧sget S c=none:=by
 rw [q01] at h
 split at h
 ·cases h
 ·rename_i hn;exact ⟨fun e=>hn e.symm,h⟩
theorem q36 {Y N:Prop} (h:N):cnW (.bool false) Y N:=⟨fun h=>by (cases h),fun _=>h⟩
set_option maxRecDepth 4000
set_option maxRecDepth 4000
def LstW (S0 S:q00) (t sz:Nat) (v:AV) (rows:List (List AV)):Prop:=
 (∀ r∈rows,r.length=sz)∧((v=.nils∧rows=[])∨∃ b cap cs,v=.own b 0 rows.length cap∧sget S0 b=none∧sget S b=some (.cells t cs (cap * sz))∧cs.take (rows.length * sz)=rows.flatten∧rows.length * sz≤cs.length∧rows.length≤cap∧cap≤maxLen)
section
variable {S0 S:q00} {t sz bytes:Nat} {v:AV} {rows xs:List (List AV)} {K:AV→q00→Prop}
theorem LstW.nil:LstW S0 S t sz .nils []:=⟨fun r hr=>by (cases hr),.inl ⟨rfl,rfl⟩⟩
theorem LstW.upd (h:LstW S0 S t sz v rows) {c:Nat} (hc:q0l v c) (o:AObj):LstW S0 (supd S c o) t sz v rows:=by
 obtain ⟨hr,h⟩:=h
 refine ⟨hr,?_⟩
 rcases h with h | ⟨b,cap,cs,rfl,h1,h2,h3⟩
 ·exact .inl h
 ·exact .inr ⟨b,cap,cs,rfl,h1,by rw [q01,if_neg (hc b 0 _ _ rfl)];exact h2,h3⟩
theorem LstW.app (hs:Sub S0 S) (h:LstW S0 S t sz v rows) {x:List AV} (hx:x.length=sz) (ho:ones x=true) (hb:(rows.length+1) * bytes≤140737488355328)
  (hK:∀ v' S',Sub S0 S'→LstW S0 S' t sz v' (rows++[x])→(∀ c o,sget S c=some o→q0l v c→sget S' c=some o∧q0l v' c)→K v' S'):apW S t sz bytes v (.sl sz [x]) K:=by
 refine ⟨1,x,by simp [appX],ho,?_⟩
 obtain ⟨hr,h⟩:=h
 have hall:∀ r∈rows++[x],r.length=sz:=fun r hm=>(List.mem_append.1 hm).elim (hr r) fun h=>by rw [List.mem_singleton.1 h];exact hx
 have hfl:(rows++[x]).flatten.length=(rows.length+1) * sz:=by rw [q29 hall];simp
 rcases h with ⟨rfl,rfl⟩ | ⟨b,cap,cs,rfl,h1,h2,h3,h4,h5,h6⟩
 ·dsimp only
  simp only [List.length_nil,Nat.zero_add] at hb
  refine ⟨hb,?_⟩
  rw [if_neg (by decide)]
  intro b cap hbn k1 k2
  have hb0:=Sub.none hs hbn
  refine hK _ _ (hs.supd hb0) ⟨hall,.inr ⟨b,cap,x,by simp,hb0,by rw [q01,if_pos rfl],?_,by simp [hx],by simpa using k1,k2⟩⟩ fun c o hc _=>?_
  ·simp [List.take_of_length_le,hx]
  ·have hne:b≠c:=q0h hbn hc
   exact ⟨by rw [q01,if_neg hne];exact hc,fun b' off n cap h=>by cases h;exact Ne.symm hne⟩
 ·refine ⟨_,h2,h5,h6,h4,hb,fun b' cap' k1 k2 k3=>?_⟩
  rw [h3]
  have hb0:sget S0 b'=none:=by
   rcases k1 with rfl | k1
   ·exact h1
   ·exact Sub.none hs k1
  have hsub:Sub S0 (supd (sdel S b) b' (.cells t (rows.flatten++x) (cap' * sz))):=by
   refine Sub.supd hb0 fun c o hc=>?_
   have hne:b≠c:=by rintro rfl;rw [h1] at hc;cases hc
   rw [q0b,if_neg hne]
   exact hs c o hc
  refine hK _ _ hsub ⟨hall,.inr ⟨b',cap',rows.flatten++x,by simp,hb0,by rw [q01,if_pos rfl],?_,?_,by simpa using k2,k3⟩⟩ fun c o hc ha=>?_
  ·have e:rows.flatten++x=(rows++[x]).flatten:=by simp
   rw [e,List.take_of_length_le (by rw [hfl];simp)]
  ·have e:rows.flatten++x=(rows++[x]).flatten:=by simp
   rw [e,hfl];simp
  ·have hcb:c≠b:=ha b 0 _ _ rfl
   have hcb':b'≠c:=by
    rcases k1 with rfl | k1
    ·exact Ne.symm hcb
    ·exact q0h k1 hc
   exact ⟨by rw [q01,if_neg hcb',q0b,if_neg (Ne.symm hcb)];exact hc,fun b'' off n cap h=>by cases h;exact Ne.symm hcb'⟩
theorem LstW.one (h:LstW S0 S t sz v rows):Go.HL.one v=true:=by
 obtain ⟨hr,h⟩:=h
 rcases h with ⟨rfl,-⟩ | ⟨b,cap,cs,rfl,-⟩<;>rfl
theorem LstW.ln {K:AV→Prop} {S':q00} (h:LstW S0 S t sz v rows):lnW S' 1 v K=K (.int .i64 rows.length):=by
 obtain ⟨hr,⟨rfl,rfl⟩ | ⟨b,cap,cs,rfl,-⟩⟩:=h
 ·rw [q8h];rfl
 ·rw [lnW_own]
theorem LstW.get (h:LstW S0 S t sz v rows) {i:Nat} {r:List AV} (hi:rows[i]?=some r):∃ b cap cs,v=.own b 0 rows.length cap∧q1y S b=some cs∧(cs.drop (i * sz)).take sz=r∧i * sz+sz≤cs.length:=by
 obtain ⟨hr,⟨rfl,rfl⟩ | ⟨b,cap,cs,rfl,h1,h2,h3,h4,h5,h6⟩⟩:=h
 ·simp at hi
 ·have hlt:=(List.getElem?_eq_some_iff.1 hi).1
  have hrl:=hr r (List.mem_of_getElem? hi)
  have hle:i * sz+sz≤rows.length * sz:=by
   calc i * sz+sz=(i+1) * sz:=by rw [Nat.succ_mul]
    _≤rows.length * sz:=Nat.mul_le_mul_right _ hlt
  refine ⟨b,cap,cs,rfl,q07 (objAt_some.2 h2),?_,by omega⟩
  apply List.ext_getElem?
  intro j
  rw [List.getElem?_take]
  by_cases hj:j<sz
  ·rw [if_pos hj,List.getElem?_drop]
   have hu:r[j]?=some (r[j]'(by omega)):=List.getElem?_eq_getElem (by omega)
   have:=q6b hr hi hu
   rw [← h3,List.getElem?_take,if_pos (by omega)] at this
   rw [this,hu]
  ·rw [if_neg hj,List.getElem?_eq_none_iff.2 (by omega)]
end
abbrev tyS5:Nat:=106
abbrev tyFa:Nat:=175
def s5C (E:q1f) (L:List Tu) (B:Int) (w:Nat) (pv:AV) (over:Bool):List AV:=[.sl 2 (E.s.map tyC),.sl 6 (L.map tuC),.str E.who.ty,.str E.who.id,.int .i64 B,.int .i64 w,pv,.bool over]
structure RfOk (E:q1f) (L:List Tu) (B:Int) (bc:Nat) (S0:q00):Prop where
 s:OkS E.s
 may:∀ t∈E.s,∀ r∈t.rels,r.refs.length=0→mayE 12 r.ex=true
 nb:sget S0 bc=none
 lst:OkL L
 of:∀ n,E.of n=(ofF L n).map Tu.s
 B:B≤100000
def StR (E:q1f) (L:List Tu) (B:Int) (bc:Nat) (S0:q00) (P:List Nd) (over:Bool) (w:Nat) (S:q00):Prop:=
 (over=false→(w:Int)≤B)∧Sub S0 S∧∃ pv,q0f S bc=some (tyS5,s5C E L B w pv over,8)∧LstW S0 S tyFa 3 pv (P.reverse.map ndC)∧q0l pv bc
section
variable {E:q1f} {L:List Tu} {B:Int} {bc:Nat} {S0:q00} {P:List Nd} {ask:Nd→Nat→Option (Bool×Nat)}
theorem ob_dec (a b:Ob):decide (a=b)=(decide (a.ty=b.ty)&&decide (a.id=b.id)):=by
 rw [Bool.eq_iff_iff]
 cases a;cases b
 simp
theorem seen {P:List Nd} {n:Nd} {i:Nat} (h:∀ (j:Nat) (m:Nd),j<i→P.reverse[j]?=some m→¬ m=n) (hi:P.length≤i):n ∉ P:=fun hn=>by
 obtain ⟨j,hj⟩:=List.getElem?_of_mem (List.mem_reverse.2 hn)
 have hlt:=(List.getElem?_eq_some_iff.1 hj).1
 rw [List.length_reverse] at hlt
 exact h j n (by omega) hj rfl
theorem StR.set (h:RfOk E L B bc S0) {S:q00} {pv:AV} {over:Bool} {w:Nat} {cs:List AV} (hw:over=false→(w:Int)≤B) (hsub:Sub S0 S) (hlst:LstW S0 S tyFa 3 pv (P.reverse.map ndC)) (ha:q0l pv bc) (hcs:cs=s5C E L B w pv over):StR E L B bc S0 P over w (supd S bc (.cells tyS5 cs 8)):=by
 subst hcs
 exact ⟨hw,Sub.supd h.nb hsub,pv,by rw [objAt_supd,if_pos rfl],hlst.upd ha _,ha⟩
end
set_option maxRecDepth 4000
theorem q4y:∀ (vs cs:List AV) (off:Nat),off+vs.length≤cs.length→q1d cs off vs=cs.take off++(vs++cs.drop (off+vs.length))
 | [],cs,off,h=>by simp [q1d]
 | v :: r,cs,off,h=>by
  simp only [List.length_cons] at h
  have ih:=q4y r (cs.set off v) (off+1) (by rw [List.length_set];omega)
  show q1d (cs.set off v) (off+1) r=_
  rw [ih]
  have hlt:off<cs.length:=by omega
  have e1:(cs.set off v).take (off+1)=cs.take off++[v]:=by
   rw [List.set_eq_take_append_cons_drop,if_pos hlt,List.take_append,List.length_take,Nat.min_eq_left (by omega)]
   have:off+1-off=1:=by omega
   rw [this,List.take_of_length_le (by rw [List.length_take];omega)]
   rfl
  have e2:(cs.set off v).drop (off+1+r.length)=cs.drop (off+(v :: r).length):=by
   rw [List.drop_set_of_lt (by omega)]
   congr 1
   simp only [List.length_cons]
   omega
  rw [e1,e2,List.append_assoc]
  rfl
section
variable {α:Type} {enc:α→List AV} {sz:Nat}
def upv (v:Nat→α) (i:Nat) (x:α):Nat→α:=fun k=>if k=i then x else v k
def fl (enc:α→List AV) (n:Nat) (v:Nat→α):List AV:=((vl n v).map enc).flatten
theorem sw_upv {v:Nat→α} {i j:Nat}:upv (upv v i (v j)) j (v i)=sw v i j:=rfl
theorem fl_rows (he:∀ x,(enc x).length=sz) {n:Nat} {v:Nat→α}:∀ r∈(vl n v).map enc,r.length=sz:=fun r hr=>by
 obtain ⟨x,-,rfl⟩:=List.mem_map.1 hr
 exact he x
theorem q1r (he:∀ x,(enc x).length=sz) {n:Nat} {v:Nat→α}:(fl enc n v).length=n * sz:=by
 unfold fl
 rw [q29 (fl_rows he),List.length_map,q1g]
theorem vl_add {n k:Nat} {v:Nat→α}:vl (n+k) v=vl n v++(List.range' n k).map v:=by
 unfold vl
 rw [← List.map_append,List.range_eq_range',List.range_eq_range']
 congr 1
 have:=List.range'_append (s:=0) (m:=n) (n:=k) (step:=1)
 rw [show 0+1 * n=n by omega] at this
 exact this.symm
theorem q6s {n:Nat} {v:Nat→α}:vl (n+1) v=vl n v++[v n]:=by rw [vl_add];rfl
theorem fl_split (he:∀ x,(enc x).length=sz) {n i:Nat} (hi:i≤n) {v:Nat→α}:∃ rest,fl enc n v=fl enc i v++rest:=by
 obtain ⟨k,rfl⟩:∃ k,n=i+k:=⟨n-i,by omega⟩
 refine ⟨(((List.range' i k).map v).map enc).flatten,?_⟩
 unfold fl
 rw [vl_add,List.map_append,List.flatten_append]
theorem fl_take (he:∀ x,(enc x).length=sz) {n i:Nat} (hi:i≤n) {v:Nat→α}:(fl enc n v).take (i * sz)=fl enc i v:=by
 obtain ⟨rest,e⟩:=fl_split (v:=v) he hi
 rw [e,List.take_append_of_le_length (by rw [q1r he];exact Nat.le_refl _),List.take_of_length_le (by rw [q1r he];exact Nat.le_refl _)]
theorem fl_succ {n:Nat} {v:Nat→α}:fl enc (n+1) v=fl enc n v++enc (v n):=by
 unfold fl
 rw [q6s,List.map_append,List.flatten_append]
 simp
theorem fl_drop (he:∀ x,(enc x).length=sz) {n i:Nat} (hi:i<n) {v:Nat→α}:∃ rest,(fl enc n v).drop (i * sz)=enc (v i)++rest:=by
 obtain ⟨rest,e⟩:=fl_split (v:=v) (i:=i+1) he hi
 refine ⟨rest,?_⟩
 rw [e,fl_succ,List.append_assoc,List.drop_append_of_le_length (by rw [q1r he];exact Nat.le_refl _),List.drop_of_length_le (by rw [q1r he];exact Nat.le_refl _)]
 rfl
theorem fl_cong {n:Nat} {v w:Nat→α} (h:∀ i,i<n→v i=w i):fl enc n v=fl enc n w:=by
 unfold fl vl
 congr 2
 exact List.map_congr_left fun i hi=>h i (by simpa using hi)
theorem fl_fill (he:∀ x,(enc x).length=sz) {n i:Nat} (hi:i<n) {v:Nat→α} {x:α}:q1d (fl enc n v) (i * sz) (enc x)=fl enc n (upv v i x):=by
 have hle:i * sz+sz≤n * sz:=by
  calc i * sz+sz=(i+1) * sz:=by rw [Nat.succ_mul]
   _≤n * sz:=Nat.mul_le_mul_right _ hi
 rw [q4y _ _ _ (by rw [he,q1r he];exact hle),fl_take he (by omega),he]
 obtain ⟨k,rfl⟩:∃ k,n=i+1+k:=⟨n-(i+1),by omega⟩
 have e:∀ w:Nat→α,fl enc (i+1+k) w=fl enc i w++(enc (w i)++(((List.range' (i+1) k).map w).map enc).flatten):=by
  intro w
  have:fl enc (i+1+k) w=fl enc (i+1) w++(((List.range' (i+1) k).map w).map enc).flatten:=by
   unfold fl
   rw [vl_add,List.map_append,List.flatten_append]
  rw [this,fl_succ,List.append_assoc]
 rw [e v,e (upv v i x)]
 have e1:fl enc i (upv v i x)=fl enc i v:=fl_cong fun j hj=>if_neg (by omega)
 have e2:(List.range' (i+1) k).map (upv v i x)=(List.range' (i+1) k).map v:=List.map_congr_left fun j hj=>if_neg (by simp at hj;omega)
 have e3:upv v i x i=x:=if_pos rfl
 rw [e1,e2,e3]
 have hd:∀ R:List AV,(fl enc i v++(enc (v i)++R)).drop (i * sz+sz)=R:=fun R=>by
  rw [← List.append_assoc,List.drop_left' (by rw [List.length_append,q1r he,he])]
 rw [hd]
end
def OwnL {α:Type} (S0 S:q00) (t sz:Nat) (enc:α→List AV) (a:AV) (n:Nat) (v:Nat→α):Prop:=
 (a=.nils∧n=0)∨∃ b cap,a=.own b 0 n cap∧sget S0 b=none∧sget S b=some (.cells t (fl enc n v) (cap * sz))∧n≤cap∧cap≤maxLen
theorem OwnL.lstW {α:Type} {S0 S:q00} {t sz:Nat} {enc:α→List AV} (he:∀ x,(enc x).length=sz) {a:AV} {n:Nat} {v:Nat→α} (h:OwnL S0 S t sz enc a n v):LstW S0 S t sz a ((vl n v).map enc):=by
 refine ⟨fl_rows he,?_⟩
 rcases h with ⟨rfl,rfl⟩ | ⟨b,cap,rfl,h1,h2,h3,h4⟩
 ·exact .inl ⟨rfl,rfl⟩
 ·refine .inr ⟨b,cap,_,?_,h1,h2,?_,?_,?_,h4⟩
  ·rw [List.length_map,q1g]
  ·rw [List.length_map,q1g,List.take_of_length_le (by rw [q1r he];exact Nat.le_refl _)];rfl
  ·rw [List.length_map,q1g,q1r he];exact Nat.le_refl _
  ·rw [List.length_map,q1g];exact h3
def at' {α:Type} [Inhabited α] (l:List α):Nat→α:=fun i=>l.getD i default
theorem vl_at {α:Type} [Inhabited α] (l:List α):vl l.length (at' l)=l:=vl_of l default
instance:Inhabited Tu:=⟨⟨⟨⟨#[]⟩,⟨#[]⟩⟩,⟨#[]⟩,⟨⟨⟨#[]⟩,⟨#[]⟩⟩,⟨#[]⟩⟩⟩⟩
instance:Inhabited Ob:=⟨⟨⟨#[]⟩,⟨#[]⟩⟩⟩
theorem q24 (t:Tu):(tuC t).length=6:=rfl
theorem c_Clone {l:List Tu} (hb:l.length≤100000) (S:q00):ACalls PG nrx113 [.sl 6 (l.map tuC)] S fun ae S'=>∃ a,ae=.ret a∧Sub S S'∧OwnL S S' tyTu 6 tuC a l.length (at' l):=by
 refine wx113 ?_
 unfold Bx113
 have hfl:fl tuC l.length (at' l)=(l.map tuC).flatten:=by unfold fl;rw [vl_at]
 have app:bsW S tyTu 6 [] fun v5 S2=>apW S2 tyTu 6 96 v5 (.sl 6 (l.map tuC)) fun v7 S1=>rtW [.tmp v7] (fun ae S'=>∃ a,ae=.ret a∧Sub S S'∧OwnL S S' tyTu 6 tuC a l.length (at' l)) S1:=by
  refine ⟨trivial,fun b hb0=>?_⟩
  refine ⟨l.length,(l.map tuC).flatten,by simp [appX],q3r fun r hr=>by obtain ⟨t,-,rfl⟩:=List.mem_map.1 hr;rfl,?_⟩
  refine ⟨[],by rw [q01,if_pos rfl];rfl,Nat.le_refl _,Nat.zero_le _,by simp,by simp only [List.length_nil];omega,fun b' cap' k1 k2 k3=>?_⟩
  have hb':sget S b'=none:=by
   rcases k1 with rfl | k1
   ·exact hb0
   ·rw [q01] at k1
    split at k1
    ·cases k1
    ·exact k1
  refine q03 ⟨_,rfl,Sub.supd hb' (fun c o hc=>?_),.inr ⟨b',cap',by simp,hb',by rw [q01,if_pos rfl,hfl];simp,by simpa using k2,k3⟩⟩
  have hne:b≠c:=q0h hb0 hc
  rw [q0b,if_neg hne,q01,if_neg hne]
  exact hc
 cases l with
 | nil=>exact ⟨q36 app,⟨fun _=>q03 ⟨_,rfl,Sub.refl _,.inl ⟨rfl,rfl⟩⟩,fun h=>by cases h⟩⟩
 | cons t r=>exact q36 app
section
variable {S0 S:q00} {a:AV} {n:Nat} {u:Nat→Tu} {g:Nat} {fi ca:List AV} {p:Tu→Bool}
theorem c_IndexT (h:OwnL S0 S tyTu 6 tuC a n u) (hb:n≤100000) (hp:∀ i,i<n→AFun PG g (fi++[.agg (tuC (u i))]++ca) (.bool (p (u i)))) :
  ACalls PG nrx155 [a,.func (.func g) fi ca] S fun ae S'=>S'=S∧((ae=.ret (.int .i64 (-1))∧∀ i,i<n→p (u i)=false)∨∃ k:Nat,k<n∧ae=.ret (.int .i64 k)∧p (u k)=true∧∀ i,i<k→p (u i)=false):=by
 refine wx155 ?_
 unfold Bx155
 have hl:=h.lstW q24
 rw [hl.ln,List.length_map,q1g]
 refine LoopP.introS (fun i:Nat=>[(0,a),(1,.func (.func g) fi ca),(7,.int .i64 n),(8,.int .i64 i)]) (fun i S'=>S'=S∧i≤n∧∀ j,j<i→p (u j)=false) (fun i=>n-i) 0 ⟨rfl,by omega,fun j hj=>by omega⟩ rfl ?_
 rintro i S' ⟨rfl,hi,hno⟩ kk hkk
 (try simp only [rwp,zA,zB,zC,zD,zE,zF,zG,zH,zI,rwb,reduceIte,C155_1])
 (refine q04 (fun hlt=>?_) (fun hlt=>?_)<;>(try simp only [hlc] at hlt))
 ·have hin:i<n:=by omega
  rcases h with ⟨rfl,e⟩ | ⟨b,cap,rfl,h1,h2,h3,h4⟩
  ·omega
  ·have hc:=q07 (objAt_some.2 h2)
   obtain ⟨rest,hd⟩:=fl_drop (v:=u) q24 hin
   rw [show tuC (u i)=[.str (u i).o.ty,.str (u i).o.id,.str (u i).rl,.str (u i).s.o.ty,.str (u i).s.o.id,.str (u i).s.rl] from rfl] at hd
   simp only [List.cons_append,List.nil_append] at hd
   (try simp only [rwp,zA,zB,zC,zD,zE,zF,zG,zH,zI,rwb,reduceIte,hc,Int.toNat_natCast,Nat.zero_add,hd])
   refine ⟨hlt,?_⟩
   have q:=hp i hin
   rw [show tuC (u i)=[.str (u i).o.ty,.str (u i).o.id,.str (u i).rl,.str (u i).s.o.ty,.str (u i).s.o.id,.str (u i).s.rl] from rfl] at q
   refine caW_purev q ?_
   cases hq:p (u i)
   ·(try simp only [rwp,zA,zB,zC,zD,zE,zF,zG,zH,zI,rwb,reduceIte])
    (simp (disch:=omega) only [q08])
    refine q0a rfl (hkk (i+1) _ ⟨rfl,by omega,fun j hj=>?_⟩ (by omega))
    by_cases e:j=i
    ·rw [e];exact hq
    ·exact hno j (by omega)
   ·(try simp only [rwp,zA,zB,zC,zD,zE,zF,zG,zH,zI,rwb,reduceIte])
    exact q03 ⟨rfl,.inr ⟨i,hin,rfl,hq,hno⟩⟩
 ·(try simp only [rwp,zA,zB,zC,zD,zE,zF,zG,zH,zI,rwb,reduceIte])
  exact q03 ⟨rfl,.inl ⟨rfl,fun j hj=>hno j (by omega)⟩⟩
end
theorem filter_none {α:Type} {p:α→Bool} {n:Nat} {u:Nat→α} (h:∀ i,i<n→p (u i)=true):(vl n u).filter p=vl n u:=by
 rw [List.filter_eq_self]
 intro x hx
 obtain ⟨i,hi,rfl⟩:=List.mem_map.1 hx
 exact h i (by simpa using hi)
theorem c_DeleteT {S0 S:q00} {a:AV} {n:Nat} {u:Nat→Tu} {g:Nat} {fi ca:List AV} {p:Tu→Bool} (hs:Sub S0 S) (h:OwnL S0 S tyTu 6 tuC a n u) (hb:n≤100000) (hp:∀ i,i<n→AFun PG g (fi++[.agg (tuC (u i))]++ca) (.bool (p (u i)))) :
  ACalls PG nrx112 [a,.func (.func g) fi ca] S fun ae S'=>∃ a',ae=.ret a'∧Sub S0 S'∧LstW S0 S' tyTu 6 a' (((vl n u).filter fun t=>!p t).map tuC):=by
 refine wx112 ?_
 unfold Bx112
 refine q10 (c_IndexT h hb hp) ?_
 rintro ae S' ⟨rfl,⟨rfl,hno⟩ | ⟨k,hk,rfl,hpk,hno⟩⟩
 ·dsimp only
  (try simp only [rwp,zA,zB,zC,zD,zE,zF,zG,zH,zI,rwb,reduceIte])
  refine q03 ⟨a,rfl,hs,?_⟩
  rw [filter_none (p:=fun t=>!p t) (n:=n) (u:=u) fun i hi=>by simp [hno i hi]]
  exact h.lstW q24
 ·rcases h with ⟨rfl,e⟩ | ⟨b,cap,rfl,h1,h2,h3,h4⟩
  ·omega
  ·dsimp only
   (try simp only [rwp,zA,zB,zC,zD,zE,zF,zG,zH,zI,rwb,reduceIte])
   rw [decide_eq_false (show ¬ (k:Int)=-1 by omega)]
   (try simp only [rwp,zA,zB,zC,zD,zE,zF,zG,zH,zI,rwb,reduceIte])
   (simp (disch:=omega) only [q08])
   refine LoopP.introS (fun x:Nat×Nat=>[(0,.own b 0 n cap),(1,.func (.func g) fi ca),(5,.int .i64 x.1),(6,.int .i64 x.2)])
    (fun x S2=>x.1<x.2∧x.2≤n∧∃ v,S2=supd S' b (.cells tyTu (fl tuC n v) (cap * 6))∧vl x.1 v=(vl x.2 u).filter (fun t=>!p t)∧∀ i,x.2≤i→v i=u i) (fun x=>n-x.2) (k,k+1)
    ⟨by dsimp only;omega,by dsimp only;omega,u,?_,?_,fun _ _=>rfl⟩ rfl ?_
   ·funext c
    unfold supd
    split
    ·rename_i e;subst e;exact h2
    ·rfl
   ·dsimp only
    rw [q6s,List.filter_append,filter_none (p:=fun t=>!p t) (n:=k) (u:=u) fun i hi=>by simp [hno i hi]]
    simp [hpk]
   ·rintro ⟨i,j⟩ S2 ⟨hij,hj,v,rfl,hv,hr⟩ kk hkk
    dsimp only at hij hj hv hr ⊢
    (try simp only [rwp,zA,zB,zC,zD,zE,zF,zG,zH,zI,rwb,reduceIte,C112_1])
    have ho:q0f (supd S' b (.cells tyTu (fl tuC n v) (cap * 6))) b=some (tyTu,fl tuC n v,cap * 6):=q0g
    have hc:=q07 ho
    (refine q04 (fun hlt=>?_) (fun hlt=>?_)<;>(try simp only [hlc] at hlt))
    ·have hjn:j<n:=by omega
     obtain ⟨rest,hd⟩:=fl_drop (v:=v) q24 hjn
     rw [hr j (Nat.le_refl _)] at hd
     have ec:tuC (u j)=[.str (u j).o.ty,.str (u j).o.id,.str (u j).rl,.str (u j).s.o.ty,.str (u j).s.o.id,.str (u j).s.rl]:=rfl
     rw [ec] at hd
     simp only [List.cons_append,List.nil_append] at hd
     (try simp only [rwp,zA,zB,zC,zD,zE,zF,zG,zH,zI,rwb,reduceIte,hc,Int.toNat_natCast,Nat.zero_add,hd])
     refine ⟨hlt,?_⟩
     have q:=hp j hjn
     rw [ec] at q
     refine caW_purev q ?_
     have fs:(vl (j+1) u).filter (fun t=>!p t)=(vl j u).filter (fun t=>!p t)++if p (u j) then [] else [u j]:=by
      rw [q6s,List.filter_append]
      congr 1
      cases hq:p (u j)<;>simp [hq]
     cases hq:p (u j)
     ·rw [hq] at fs
      have ff:=fl_fill (v:=v) (x:=u j) q24 (show i<n by omega)
      rw [ec] at ff
      (try simp only [rwp,zA,zB,zC,zD,zE,zF,zG,zH,zI,rwb,reduceIte,ho,Int.toNat_natCast,Nat.zero_add,ff])
      refine ⟨by omega,?_⟩
      have fits:i * 6+6≤(fl tuC n v).length:=by rw [q1r q24];omega
      (simp (disch:=omega) only [q08])
      (try simp only [rwp,zA,zB,zC,zD,zE,zF,zG,zH,zI,rwb,reduceIte,fits,q0q])
      refine q0a rfl (hkk (i+1,j+1) _ ⟨by dsimp only;omega,by dsimp only;omega,upv v i (u j),rfl,?_,fun m hm=>?_⟩ (by dsimp only;omega))
      ·dsimp only
       rw [fs,← hv,q6s]
       have e1:vl i (upv v i (u j))=vl i v:=by unfold vl;exact List.map_congr_left fun m hm=>if_neg (by simp at hm;omega)
       rw [e1]
       congr 1
       rw [show upv v i (u j) i=u j from if_pos rfl]
       rfl
      ·dsimp only at hm ⊢
       rw [show upv v i (u j) m=v m from if_neg (by omega)]
       exact hr m (by omega)
     ·rw [hq] at fs
      (try simp only [rwp,zA,zB,zC,zD,zE,zF,zG,zH,zI,rwb,reduceIte])
      (simp (disch:=omega) only [q08])
      refine q0a rfl (hkk (i,j+1) _ ⟨by dsimp only;omega,by dsimp only;omega,v,rfl,?_,fun m hm=>hr m (by dsimp only at hm;omega)⟩ (by dsimp only;omega))
      dsimp only
      rw [fs,hv]
      simp
    ·have e:j=n:=by omega
     subst e
     (try simp only [rwp,zA,zB,zC,zD,zE,zF,zG,zH,zI,rwb,reduceIte,loI,hiI,cutI])
     refine ⟨by omega,by omega,⟨tyTu,fl tuC j v,cap * 6,by rw [q01,if_pos rfl],?_,rfl,rfl,?_⟩⟩
     ·rw [q1r q24]
      split
      ·omega
      ·omega
     ·refine ⟨Int.le_refl 0,by omega,?_⟩
      rw [show AV.own b (if cap=0 then 0 else 0) (i-0) (cap-0)=.own b 0 i cap by simp,q0q,← hv]
      refine q03 ⟨_,rfl,Sub.supd h1 hs,fl_rows q24,.inr ⟨b,cap,_,by rw [List.length_map,q1g],h1,by rw [q01,if_pos rfl],?_,?_,by rw [List.length_map,q1g];omega,h4⟩⟩
      ·rw [List.length_map,q1g]
       split
       ·rename_i e
        have ej:j-i=0:=by omega
        rw [ej]
        exact fl_take q24 (by omega)
       ·rw [q4y _ _ _ (by rw [q4s,q1r q24];simp only [List.length_cons,List.length_nil];omega),List.take_append_of_le_length (by rw [List.length_take,q1r q24];omega),List.take_take,Nat.min_self]
        exact fl_take q24 (by omega)
      ·rw [List.length_map,q1g]
       split
       ·rename_i e
        have ej:j-i=0:=by omega
        rw [ej]
        show i * 6≤(fl tuC j v).length
        rw [q1r q24]
        omega
       ·rw [q4y _ _ _ (by rw [q4s,q1r q24];simp only [List.length_cons,List.length_nil];omega)]
        simp only [List.length_append,List.length_take,q1r q24]
        omega
theorem c_gcounts_1 {s:List Ty} (hs:OkS s) {t:Tu} (ht:OkU t):AFun PG nrx114 ([]++[.agg (tuC t)]++[.rop [.sl 2 (s.map tyC)]]) (.bool (!decide (q4q s t=0))):=by
 intro S
 refine wx114 ?_
 unfold Bx114
 have q:=c_tuple_Allowed hs ht
 simp only [scA] at q
 (try simp only [rwp,zA,zB,zC,zD,zE,zF,zG,zH,zI,rwb,reduceIte,tuC])
 refine q06 q ?_
 (try simp only [rwp,zA,zB,zC,zD,zE,zF,zG,zH,zI,rwb,reduceIte])
 exact q03 ⟨rfl,rfl⟩
theorem c_gcounts {s:List Ty} (hs:OkS s) {l:List Tu} (hl:OkL l) (S:q00) :
  ACalls PG nrx58 [scA s,.sl 6 (l.map tuC)] S fun ae S'=>∃ a,ae=.ret a∧Sub S S'∧LstW S S' tyTu 6 a ((q18 s l).map tuC):=by
 refine wx58 ?_
 unfold Bx58
 have hn:=hl.n
 (try simp only [rwp,zA,zB,zC,zD,zE,zF,zG,zH,zI,rwb,reduceIte,scA])
 refine q10 (c_Clone (by omega) S) ?_
 rintro ae S1 ⟨a,rfl,h1,h2⟩
 dsimp only
 have q:=c_DeleteT (g:=nrx114) (fi:=[]) (ca:=[.rop [.sl 2 (s.map tyC)]]) (p:=fun t=>!decide (q4q s t=0)) h1 h2 (by omega) (fun i hi=>c_gcounts_1 hs (hl.ok _ (by
  have:at' l i=l[i]'hi:=by unfold at';simp [hi]
  rw [this]
  exact List.getElem_mem hi)))
 refine q10 q ?_
 rintro ae S2 ⟨a',rfl,h3,h4⟩
 dsimp only
 (try simp only [rwp,zA,zB,zC,zD,zE,zF,zG,zH,zI,rwb,reduceIte])
 refine q03 ⟨a',rfl,h3,?_⟩
 rw [vl_at] at h4
 have e:(l.filter fun t=>!(!decide (q4q s t=0)))=q18 s l:=by
  unfold q18
  congr 1
  funext t
  rw [Bool.not_not]
 rw [e] at h4
 exact h4
set_option maxRecDepth 4000
abbrev cmpB (a b:ByteArray):Int:=Lib.compareBytes a.data.toList b.data.toList
theorem cb_anti:∀ (l m:List UInt8),Lib.compareBytes l m =-Lib.compareBytes m l
 | [],[]=>rfl
 | [],_ :: _=>rfl
 | _ :: _,[]=>rfl
 | a :: r,b :: q=>by
  have ih:=cb_anti r q
  unfold Lib.compareBytes
  by_cases h1:a<b
  ·have h2:¬ b<a:=by rw [UInt8.lt_iff_toNat_lt] at h1 ⊢;omega
   rw [if_pos h1,if_neg h2,if_pos h1]
  ·by_cases h2:b<a
   ·rw [if_neg h1,if_pos h2,if_pos h2];rfl
   ·rw [if_neg h1,if_neg h2,if_neg h2,if_neg h1];exact ih
theorem cb_eq:∀ (l m:List UInt8),Lib.compareBytes l m=0→l=m
 | [],[],_=>rfl
 | [],_ :: _,h=>by cases h
 | _ :: _,[],h=>by cases h
 | a :: r,b :: q,h=>by
  have ih:=cb_eq r q
  unfold Lib.compareBytes at h
  by_cases h1:a<b
  ·rw [if_pos h1] at h;cases h
  ·by_cases h2:b<a
   ·rw [if_neg h1,if_pos h2] at h;cases h
   ·rw [if_neg h1,if_neg h2] at h
    have:a=b:=by
     rw [UInt8.lt_iff_toNat_lt] at h1 h2
     exact UInt8.toNat_inj.1 (by omega)
    rw [this,ih h]
theorem cb_trans:∀ (l m k:List UInt8),Lib.compareBytes l m≤0→Lib.compareBytes m k≤0→Lib.compareBytes l k≤0
 | [],_,[],_,_=>Int.le_refl 0
 | [],_,_ :: _,_,_=>by show (-1:Int)≤0;decide
 | a :: r,[],_,h,_=>by
  have h:(1:Int)≤0:=h
  omega
 | a :: r,b :: q,[],_,h=>by
  have h:(1:Int)≤0:=h
  omega
 | a :: r,b :: q,c :: p,h1,h2=>by
  have ih:=cb_trans r q p
  unfold Lib.compareBytes at h1 h2 ⊢
  simp only [UInt8.lt_iff_toNat_lt] at h1 h2 ⊢
  by_cases x1:a.toNat<b.toNat
  ·by_cases x2:b.toNat<c.toNat
   ·rw [if_pos (by omega)];decide
   ·by_cases x3:c.toNat<b.toNat
    ·rw [if_neg x2,if_pos x3] at h2;exact absurd h2 (by decide)
    ·rw [if_pos (by omega)];decide
  ·by_cases x3:b.toNat<a.toNat
   ·rw [if_neg x1,if_pos x3] at h1;exact absurd h1 (by decide)
   ·rw [if_neg x1,if_neg x3] at h1
    by_cases x2:b.toNat<c.toNat
    ·rw [if_pos (by omega)];decide
    ·by_cases x4:c.toNat<b.toNat
     ·rw [if_neg x2,if_pos x4] at h2;exact absurd h2 (by decide)
     ·rw [if_neg x2,if_neg x4] at h2
      rw [if_neg (by omega),if_neg (by omega)]
      exact ih h1 h2
def cmpO (a b:Ob):Int:=if cmpB a.ty b.ty=0 then cmpB a.id b.id else cmpB a.ty b.ty
def ltO (a b:Ob):Bool:=decide (cmpO a b<0)
theorem cmpB_eq {a b:ByteArray} (h:cmpB a b=0):a=b:=by
 have:=cb_eq _ _ h
 obtain ⟨⟨la⟩⟩:=a
 obtain ⟨⟨lb⟩⟩:=b
 have e:la=lb:=this
 rw [e]
theorem q4k (a b:Ob):cmpO a b =-cmpO b a:=by
 have h1:=cb_anti a.ty.data.toList b.ty.data.toList
 have h2:=cb_anti a.id.data.toList b.id.data.toList
 unfold cmpO cmpB
 split<;>split<;>omega
theorem cmpO_eq {a b:Ob} (h:cmpO a b=0):a=b:=by
 unfold cmpO at h
 split at h
 ·rename_i h1
  cases a;cases b
  simp only at h h1
  rw [cmpB_eq h,cmpB_eq h1]
 ·contradiction
theorem cmpO_trans {a b c:Ob} (h1:cmpO a b≤0) (h2:cmpO b c≤0):cmpO a c≤0:=by
 unfold cmpO at h1 h2 ⊢
 by_cases e1:cmpB a.ty b.ty=0
 ·rw [if_pos e1] at h1
  have e:=cmpB_eq e1
  rw [e]
  by_cases e2:cmpB b.ty c.ty=0
  ·rw [if_pos e2] at h2 ⊢
   exact cb_trans _ _ _ h1 h2
  ·rw [if_neg e2] at h2 ⊢
   exact h2
 ·rw [if_neg e1] at h1
  by_cases e2:cmpB b.ty c.ty=0
  ·have e:=cmpB_eq e2
   rw [← e,if_neg e1]
   exact h1
  ·rw [if_neg e2] at h2
   have h3:cmpB a.ty c.ty≤0:=cb_trans _ _ _ h1 h2
   by_cases e3:cmpB a.ty c.ty=0
   ·exfalso
    have e:=cmpB_eq e3
    rw [← e] at h2
    have:=cb_anti a.ty.data.toList b.ty.data.toList
    unfold cmpB at h1 h2 e1 e2
    omega
   ·rw [if_neg e3];exact h3
theorem stO:StOk ltO:=by
 refine ⟨⟨fun x y h=>?_,fun x y z h1 h2=>?_⟩,fun x y h1 h2=>?_⟩
 ·unfold ltO at h ⊢
  have:=q4k x y
  rw [decide_eq_true_eq] at h
  rw [decide_eq_false_iff_not]
  omega
 ·unfold ltO at h1 h2 ⊢
  rw [decide_eq_false_iff_not] at h1 h2 ⊢
  have a1:=q4k y x
  have a2:=q4k z y
  have a3:=q4k z x
  have:=cmpO_trans (a:=x) (b:=y) (c:=z) (by omega) (by omega)
  omega
 ·unfold ltO at h1 h2
  rw [decide_eq_false_iff_not] at h1 h2
  have:=q4k x y
  exact cmpO_eq (by omega)
theorem c_cmpstring (a b:ByteArray):AFun PG 166 [.str a,.str b] (.int .i64 (cmpB a b)):=by
 intro S R w vs hs hv
 obtain ⟨l⟩:=vs
 match l,hv with
 | [],hv=>cases hv.1
 | [_],hv=>cases hv.1
 | _ :: _ :: _ :: _,hv=>cases hv.1
 | [x,y],hv=>
  have h1:RV R w (.str a) x:=hv.head
  have h2:RV R w (.str b) y:=hv.tail.head
  cases h1
  cases h2
  refine .inr ⟨_,w,?_,R,S,.ret (.int .i64 (cmpB a b)),.int _ _,⟨rfl,rfl⟩,hs,Step.refl _ _ _⟩
  rw [run_callFunc_extern Go.Proofs.Tryz.func166 (by kernel_rfl) (by kernel_rfl) (by kernel_rfl) (e:=Extern.BytealgCompare.compare) (by kernel_rfl),Lib.run_compareString]
  rfl
theorem c_CompareString (a b:ByteArray):AFun PG nrx117 [.str a,.str b] (.int .i64 (cmpB a b)):=by
 intro S
 refine wx117 ?_
 unfold Bx117
 refine q06 (c_cmpstring a b) ?_
 exact q03 ⟨rfl,rfl⟩
theorem c_Compare (a b:ByteArray):AFun PG nrx62 [.str a,.str b] (.int .i64 (cmpB a b)):=by
 intro S
 refine wx62 ?_
 unfold Bx62
 refine q06 (c_CompareString a b) ?_
 exact q03 ⟨rfl,rfl⟩
theorem c_Or2 (x y:Int):AFun PG nrx61 [.sl 1 [[.int .i64 x],[.int .i64 y]]] (.int .i64 (if x=0 then y else x)):=by
 intro S
 refine wx61 ?_
 unfold Bx61
 (try simp only [rwp,zA,zB,zC,zD,zE,zF,zG,zH,zI,rwb,reduceIte,List.length_cons,List.length_nil])
 refine LoopP.introS (fun i:Nat=>[(3,.int .i64 0),(6,.sl 1 [[.int .i64 x],[.int .i64 y]]),(7,.int .i64 2),(8,.int .i64 i)]) (fun i S'=>S'=S∧i≤2∧(0<i→x=0)∧(1<i→y=0)) (fun i=>2-i) 0 ⟨rfl,by omega,fun h=>by omega,fun h=>by omega⟩ rfl ?_
 rintro i S' ⟨rfl,hi,h1,h2⟩ kk hkk
 (try simp only [rwp,zA,zB,zC,zD,zE,zF,zG,zH,zI,rwb,reduceIte,C61_1])
 (refine q04 (fun hlt=>?_) (fun hlt=>?_)<;>(try simp only [hlc] at hlt))
 ·have h01:i=0∨i=1:=by omega
  have step:(i=0→x=0)→(i=1→y=0)→rcW kk [(3,.int .i64 0),(6,.sl 1 [[.int .i64 x],[.int .i64 y]]),(7,.int .i64 2),(8,.int .i64 (IntKind.i64.wrap (↑i+1)))] S':=by
   intro q1 q2
   (simp (disch:=omega) only [q08])
   exact q0a rfl (hkk (i+1) _ ⟨rfl,by omega,fun _=>h01.elim q1 (fun e=>h1 (by omega)),fun h=>q2 (by omega)⟩ (by omega))
  rcases h01 with e | e
  ·subst e
   (try simp only [rwp,zA,zB,zC,zD,zE,zF,zG,zH,zI,rwb,reduceIte,List.getElem?_cons_zero])
   cases a1:decide (x=0)
   ·(try simp only [rwp,zA,zB,zC,zD,zE,zF,zG,zH,zI,rwb,reduceIte])
    exact q03 ⟨by rw [if_neg (of_decide_eq_false a1)],rfl⟩
   ·(try simp only [rwp,zA,zB,zC,zD,zE,zF,zG,zH,zI,rwb,reduceIte])
    exact step (fun _=>of_decide_eq_true a1) (fun h=>by omega)
  ·subst e
   have hx:=h1 (by omega)
   (try simp only [rwp,zA,zB,zC,zD,zE,zF,zG,zH,zI,rwb,reduceIte,List.getElem?_cons_zero,List.getElem?_cons_succ])
   cases a1:decide (y=0)
   ·(try simp only [rwp,zA,zB,zC,zD,zE,zF,zG,zH,zI,rwb,reduceIte])
    exact q03 ⟨by rw [if_pos hx],rfl⟩
   ·(try simp only [rwp,zA,zB,zC,zD,zE,zF,zG,zH,zI,rwb,reduceIte])
    exact step (fun h=>by omega) (fun _=>of_decide_eq_true a1)
 ·(try simp only [rwp,zA,zB,zC,zD,zE,zF,zG,zH,zI,rwb,reduceIte])
  have hx:=h1 (by omega)
  have hy:=h2 (by omega)
  exact q03 ⟨by rw [if_pos hx,hy],rfl⟩
theorem c_gcmp (a b:Ob):AFun PG nrx60 [.agg (obC a),.agg (obC b)] (.int .i64 (cmpO a b)):=by
 intro S
 refine wx60 ?_
 unfold Bx60
 (try simp only [rwp,zA,zB,zC,zD,zE,zF,zG,zH,zI,rwb,reduceIte,obC])
 refine q06 (c_Compare a.ty b.ty) ?_
 (try simp only [rwp,zA,zB,zC,zD,zE,zF,zG,zH,zI,rwb,reduceIte])
 refine q06 (c_Compare a.id b.id) ?_
 (try simp only [rwp,zA,zB,zC,zD,zE,zF,zG,zH,zI,rwb,reduceIte])
 refine q06 (c_Or2 _ _) ?_
 exact q03 ⟨rfl,rfl⟩
theorem q7t {N:Nat} {n:Nat×Nat}:∀ {l:List Ln} {a:Lv×Bool},a.2=false→(q0y N n l a).2=false→(q0y N n l a)=a∧∀ x∈l,¬ (getL a.1 n<getL a.1 x.1+x.2.toNat∧getL a.1 n≤N)
 | [],a,h0,h=>⟨rfl,fun x hx=>by cases hx⟩
 | l :: r,a,h0,h=>by
  have stay:∀ {l:List Ln} {a:Lv×Bool},a.2=true→(q0y N n l a).2=true:=by
   intro l
   induction l with
   | nil=>intro a h;exact h
   | cons x l ih=>
    intro a h
    unfold q0y
    split
    ·exact ih rfl
    ·exact ih h
  unfold q0y at h ⊢
  split at h
  ·rw [stay rfl] at h;cases h
  ·rename_i hc
   rw [if_neg hc]
   obtain ⟨h1,h2⟩:=q7t h0 h
   refine ⟨h1,fun x hx=>?_⟩
   rcases List.mem_cons.1 hx with rfl | hx
   ·exact hc
   ·exact h2 x hx
theorem q7s {N:Nat}:∀ {w:List Rw} {a:Lv×Bool},a.2=false→(q1k N w a).2=false→∀ x∈w,∀ l∈x.2,¬ (getL a.1 x.1<getL a.1 l.1+l.2.toNat∧getL a.1 x.1≤N)
 | [],a,h0,h,x,hx=>by cases hx
 | y :: w,a,h0,h,x,hx=>by
  unfold q1k at h
  have stay:∀ {w:List Rw} {a:Lv×Bool},a.2=true→(q1k N w a).2=true:=by
   intro w
   induction w with
   | nil=>intro a h;exact h
   | cons z w ih=>
    intro a h
    unfold q1k
    refine ih ?_
    have:∀ {l:List Ln} {a:Lv×Bool},a.2=true→(q0y N z.1 l a).2=true:=by
     intro l
     induction l with
     | nil=>intro a h;exact h
     | cons x l ih=>
      intro a h
      unfold q0y
      split
      ·exact ih rfl
      ·exact ih h
    exact this h
  have h1:(q0y N y.1 y.2 a).2=false:=by
   cases hq:(q0y N y.1 y.2 a).2 with
   | false=>rfl
   | true=>rw [stay hq] at h;cases h
  obtain ⟨e1,e2⟩:=q7t h0 h1
  rw [e1] at h
  rcases List.mem_cons.1 hx with rfl | hx
  ·exact e2
  ·exact q7s h0 h x hx
theorem iterF_quiet {N:Nat} {s:List Ty} {w:List Rw} (hw:RwOk s w):∀ {f:Nat} {lv:Lv},Shp lv s→Bdd N lv→q0p s * (N+1)<f+phi N lv→(q1k N w (q69 N w f lv,false)).2=false
 | 0,lv,h1,h2,h3=>by have:=phi_shp (N:=N) h1;omega
 | f+1,lv,h1,h2,h3=>by
  obtain ⟨k1,k2,k3,k4,k5,k6⟩:=q30 (N:=N) (a:=(lv,false)) hw h1 h2
  unfold q69
  split
  ·rename_i hr
   have:=k5 rfl hr
   exact iterF_quiet hw k1 k2 (by dsimp only at this;omega)
  ·rename_i hr
   have hr:(q1k N w (lv,false)).2=false:=by simpa using hr
   have h4:=k6 hr
   dsimp only at h4
   rw [h4]
   exact hr
theorem lev_quiet {s:List Ty} (h:q0p s≤256):(q1k (q0p s) (q38 s) (levF s,false)).2=false:=by
 refine iterF_quiet (q6z s) (q5x s) q53 ?_
 have:q0p s * (q0p s+1)≤256 * 257:=Nat.mul_le_mul h (by omega)
 omega
theorem q4v {s:List Ty} (h:errA (chkF s)=0) {i k:Nat} {t:Ty} {r:Rl} (ht:s[i]?=some t) (hr:t.rels[k]?=some r):getL (levF s) (i,k)≤q0p s∧∀ l∈q1j s t.name r,getL (levF s) l.1+l.2.toNat≤getL (levF s) (i,k):=by
 have hg:=q2u h
 have h1:getL (levF s) (i,k)≤q0p s:=by
  unfold chkF at h
  split at h
  ·rename_i h0;exact absurd h h0
  ·cases hq:q4j s (cycF s) with
   | some q=>
    obtain ⟨a,b,e⟩:=q
    have:=q6f hq
    rw [hq] at h
    exact absurd h this
   | none=>
    have h2:=q7c hq ht hr
    unfold cycF at h2
    split at h2
    ·cases h2
    ·omega
 refine ⟨h1,fun l hl=>?_⟩
 have h2:=q7s rfl (lev_quiet hg.many)
 have hm:∃ x∈q38 s,x.1=(i,k)∧x.2=q1j s t.name r:=by
  have h3:=lookR_at ht hr
  have key:∀ w:List Rw,q1i w (i,k)=some (q1j s t.name r)→∃ x∈w,x.1=(i,k)∧x.2=q1j s t.name r:=by
   intro w
   induction w with
   | nil=>intro h;cases h
   | cons x w ih=>
    intro h
    unfold q1i at h
    split at h
    ·rename_i he
     exact ⟨x,by simp,he.symm,Option.some.inj h⟩
    ·obtain ⟨y,hy,h4⟩:=ih h
     exact ⟨y,List.mem_cons_of_mem _ hy,h4⟩
  exact key _ h3
 obtain ⟨x,hx,e1,e2⟩:=hm
 have h4:=h2 x hx l (by rw [e2];exact hl)
 rw [e1] at h4
 dsimp only at h4
 omega
def lvN (s:List Ty) (n:Nd):Nat:=match q0o s n.o.ty n.rl with
 | some (i,k,_)=>getL (levF s) (i,k)
 | none=>0
def exB (E:q1f) (K:Nd→Bool) (o:Ob):Nat→Ex→Bool
 | 0,_=>false
 | m+1,.mk k n ov ks=>if k=0 then K ⟨o,n⟩ else if k=1 then (E.of ⟨o,n⟩).any (fun x=>decide (x.rl=⟨#[]⟩)&&K ⟨x.o,ov⟩) else match ks with
  | [a,b]=>if k=2 then exB E K o m a||exB E K o m b else if k=4 then exB E K o m a&&!exB E K o m b else exB E K o m a&&exB E K o m b
  | _=>false
def q1v (E:q1f) (K:Nd→Bool) (n:Nd) (r:Rl):Bool:=
 if r.refs.length=0 then exB E K n.o 12 r.ex else (E.of n).any fun x=>if x.rl=⟨#[]⟩ then decide (x.o=E.who) else K x
structure OfOk (E:q1f):Prop where
 ok:∀ n x,x∈E.of n→∃ i k r,q0o E.s n.o.ty n.rl=some (i,k,r)∧∃ f∈r.refs,x.o.ty=f.ty∧x.rl=f.rl
theorem q7x (s:List Ty) (l:List Tu) (who:Ob):OfOk (envE s l who):=by
 refine ⟨fun n x hx=>?_⟩
 obtain ⟨t,ht,rfl⟩:=List.mem_map.1 hx
 unfold ofF q18 at ht
 simp only [List.mem_filter,Bool.and_eq_true,decide_eq_true_eq] at ht
 obtain ⟨⟨-,h1⟩,h2,h3⟩:=ht
 unfold q4q at h1
 rw [h2,h3] at h1
 split at h1
 ·split at h1
  ·cases h1
  ·rename_i i k r hf
   refine ⟨i,k,r,hf,?_⟩
   split at h1
   ·split at h1
    ·rename_i hq
     obtain ⟨f,hf,hq⟩:=List.any_eq_true.1 hq
     simp only [Bool.and_eq_true,decide_eq_true_eq] at hq
     exact ⟨f,hf,hq⟩
    ·cases h1
   ·cases h1
 ·cases h1
def Low (s:List Ty) (N:Nat) (out:Bool) (c:Nd):Prop:=q0o s c.o.ty c.rl=none∨lvN s c+out.toNat≤N
section
variable {E:q1f} {ask:Nd→Nat→Option (Bool×Nat)} {M K:Nd→Bool} {N:Nat}
end
theorem q2m {n:Nd}:∀ {L:List Nd} {k:Nat},n∈L.take k↔n∈L∧L.idxOf n<k
 | [],k=>by simp
 | x :: r,0=>by simp
 | x :: r,k+1=>by
  rw [List.take_succ_cons,List.mem_cons,List.mem_cons,q2m (L:=r) (k:=k),List.idxOf_cons]
  by_cases h:x=n
  ·subst h;simp
  ·have h':n≠x:=fun e=>h e.symm
   have hb:(x==n)=false:=by simpa using h
   rw [hb]
   simp only [h',false_or,cond_false]
   constructor
   ·rintro ⟨h1,h2⟩;exact ⟨h1,by omega⟩
   ·rintro ⟨h1,h2⟩;exact ⟨h1,by omega⟩
structure Mod (E:q1f) (L:List Nd):Prop where
 step:∀ i n,L[i]?=some n→∃ j k r,q0o E.s n.o.ty n.rl=some (j,k,r)∧q1v E (fun c=>decide (c∈L.take i)) n r=true
 lev:∀ n m,n∈L→m∈L→lvN E.s n<lvN E.s m→L.idxOf n<L.idxOf m
 closed:∀ n j k r,q0o E.s n.o.ty n.rl=some (j,k,r)→q1v E (fun c=>decide (c∈L)) n r=true→n∈L
section
variable {E:q1f} {B:Int} {L:List Nd}
end
set_option maxRecDepth 4000
abbrev tyW14:Nat:=178
abbrev tyOb:Nat:=27
def wC (s:List Ty) (L:List Tu) (tv:AV) (who:Ob) (kv:AV):List AV:=[.sl 2 (s.map tyC),.sl 6 (L.map tuC),tv,.str who.ty,.str who.id,kv]
structure W14 (s:List Ty) (L:List Tu) (who:Ob) (bw:Nat) (S0:q00) (T:List Ob) (K:List Nd) (S:q00):Prop where
 ex:∃ tv kv,q0f S bw=some (tyW14,wC s L tv who kv,6)∧LstW S0 S tyOb 2 tv (T.map obC)∧LstW S0 S tyFa 3 kv (K.map ndC)∧q0l tv bw∧q0l kv bw∧∀ b off n cap,tv=.own b off n cap→q0l kv b
 sub:Sub S0 S
 nb:sget S0 bw=none
 lk:K.length≤1000000
 lt:T.length≤1000000
theorem drop_two {cs:List AV} {p:Nat} {a b:AV} (h:(cs.drop p).take 2=[a,b]):∃ rest,cs.drop p=a :: b :: rest:=by
 refine ⟨(cs.drop p).drop 2,?_⟩
 have:=List.take_append_drop 2 (cs.drop p)
 rw [h] at this
 exact this.symm
theorem ob_dec14 {a b:Ob}:decide (a=b)=(decide (a.ty=b.ty)&&decide (a.id=b.id)):=by
 rw [Bool.eq_iff_iff]
 cases a;cases b
 simp
section
variable {s:List Ty} {L:List Tu} {who:Ob} {bw:Nat} {S0 S:q00} {T:List Ob} {K:List Nd}
def envL (s:List Ty) (L:List Tu) (who:Ob):q1f:=⟨s,fun n=>(ofF L n).map Tu.s,who⟩
theorem any_take {α:Type} {p:α→Bool} {l:List α} {i:Nat} {x:α} (h:l[i]?=some x) (h0:(l.take i).any p=false):(l.take (i+1)).any p=p x:=by
 rw [q14 h,List.any_append,h0]
 simp
theorem any_yes {α:Type} {p:α→Bool} {l:List α} {i:Nat} {x:α} (h:l[i]?=some x) (hp:p x=true):l.any p=true:=List.any_eq_true.2 ⟨x,List.mem_of_getElem? h,hp⟩
end
set_option maxRecDepth 4000
structure Dat (D:AV) (pt:Nat→AV) (SS:(Nat→Ob)→q00) (n:Nat):Prop where
 ia:∀ {i:Nat} {x:Int} {K:AV→Prop},x=i→i<n→K (pt i)→iaW 2 D (.int .i64 x) K
 ld:∀ {v:Nat→Ob} {i:Nat} {K:AV→Prop},i<n→K (.agg (obC (v i)))→ldW (SS v) 2 true (pt i) K
 st:∀ {v:Nat→Ob} {i:Nat} {x:Ob} {KT:q00→Prop},i<n→KT (SS (upv v i x))→stW (SS v) 2 (pt i) (.agg (obC x)) KT
 ln:∀ {v:Nat→Ob} {K:AV→Prop},K (.int .i64 n)→lnW (SS v) 1 D K
 bd:n≤100000
 fr:∀ {v:Nat→Ob} {c:Nat} {X:AObj} {i:Nat} {K:AV→Prop},sget (SS v) c=none→i<n→K (.agg (obC (v i)))→ldW (supd (SS v) c X) 2 true (pt i) K
 fs:∀ {v:Nat→Ob} {c:Nat} {X:AObj} {i:Nat} {x:Ob} {KT:q00→Prop},sget (SS v) c=none→i<n→KT (supd (SS (upv v i x)) c X)→stW (supd (SS v) c X) 2 (pt i) (.agg (obC x)) KT
 fn:∀ {v w:Nat→Ob} {c:Nat},sget (SS v) c=none→sget (SS w) c=none
theorem supd_swap {S:q00} {b c:Nat} (h:b≠c) (x y:AObj):supd (supd S b x) c y=supd (supd S c y) b x:=by
 funext d
 unfold supd
 by_cases h1:c=d
 ·subst h1;simp [h]
 ·by_cases h2:b=d<;>simp [h1,h2]
theorem dat_own {S0:q00} {b n cap:Nat} (hn:n≤cap) (hb:n≤100000):Dat (.own b 0 n cap) (fun i=>.ptr b (i * 2)) (fun v=>supd S0 b (.cells tyOb (fl obC n v) (cap * 2))) n:=by
 have hlen:∀ x:Ob,(obC x).length=2:=fun x=>rfl
 have ne:∀ {v:Nat→Ob} {c:Nat},sget (supd S0 b (.cells tyOb (fl obC n v) (cap * 2))) c=none→b≠c:=by
  intro v c hc e
  rw [q01,if_pos e] at hc
  cases hc
 refine ⟨fun {i x K} e hi hk=>?_,fun {v i K} hi hk=>?_,fun {v i x KT} hi hk=>?_,fun {v K} hk=>?_,hb,fun {v c X i K} hc hi hk=>?_,fun {v c X i x KT} hc hi hk=>?_,fun {v w c} hc=>?_⟩
 ·subst e
  rw [iaW_own]
  refine ⟨by omega,by omega,?_⟩
  simpa using hk
 ·have hc:=q07 (q0g (S:=supd S0 b (.cells tyOb (fl obC n v) (cap * 2))) (b:=b) (t:=tyOb) (tot:=cap * 2) (cs:=fl obC n v))
  rw [q0q] at hc
  obtain ⟨rest,hd⟩:=fl_drop (v:=v) hlen hi
  rw [ldW_ptr,hc,q66,hd,mkW_agg]
  exact hk
 ·have ho:=q0g (S:=S0) (b:=b) (t:=tyOb) (tot:=cap * 2) (cs:=fl obC n v)
  rw [q6v,ho,q2s]
  refine ⟨rfl,?_,rfl,?_⟩
  ·rw [q1r hlen];omega
  ·rw [show q09 (.agg (obC x))=obC x from rfl,fl_fill hlen hi,q0q]
   exact hk
 ·rw [lnW_own];exact hk
 ·have hne:=ne hc
  have hc:=q07 (objAt_some.2 (show sget (supd (supd S0 b (.cells tyOb (fl obC n v) (cap * 2))) c X) b=some (.cells tyOb (fl obC n v) (cap * 2)) by rw [q01,if_neg (Ne.symm hne),q01,if_pos rfl]))
  obtain ⟨rest,hd⟩:=fl_drop (v:=v) hlen hi
  rw [ldW_ptr,hc,q66,hd,mkW_agg]
  exact hk
 ·have hne:=ne hc
  have ho:=objAt_some.2 (show sget (supd (supd S0 b (.cells tyOb (fl obC n v) (cap * 2))) c X) b=some (.cells tyOb (fl obC n v) (cap * 2)) by rw [q01,if_neg (Ne.symm hne),q01,if_pos rfl])
  rw [q6v,ho,q2s]
  refine ⟨rfl,?_,rfl,?_⟩
  ·rw [q1r hlen];omega
  ·rw [show q09 (.agg (obC x))=obC x from rfl,fl_fill hlen hi,supd_swap (Ne.symm hne),q0q]
   exact hk
 ·have hne:=ne hc
  rw [q01,if_neg hne] at hc ⊢
  exact hc
section
variable {D:AV} {pt:Nat→AV} {SS:(Nat→Ob)→q00} {n g:Nat} {c:Ob→Ob→Int}
abbrev fnG (g:Nat):AV:=.func (.func g) [] []
def ltC (c:Ob→Ob→Int) (x y:Ob):Bool:=decide (c x y<0)
theorem c_ins (hD:Dat D pt SS n) (hg:∀ x y,AFun PG g [.agg (obC x),.agg (obC y)] (.int .i64 (c x y))) (ho:LtOk (ltC c)) {a b:Nat} (hab:a≤b) (hb:b≤n) (v:Nat→Ob) :
  ACalls PG nrx156 [D,.int .i64 a,.int .i64 b,fnG g] (SS v) fun ae S'=>ae=.ret (.tup [])∧∃ w,S'=SS w∧Rng n a b v w∧Srt (ltC c) a b w:=by
 have hn:=hD.bd
 refine wx156 ?_
 unfold Bx156
 (try simp only [rwp,zA,zB,zC,zD,zE,zF,zG,zH,zI,rwb,reduceIte])
 (simp (disch:=omega) only [q08])
 refine LoopP.introS (fun i:Nat=>[(0,D),(1,.int .i64 a),(2,.int .i64 b),(3,fnG g),(8,.int .i64 i)]) (fun i S'=>a+1≤i∧i≤b+1∧∃ w,S'=SS w∧Rng n a b v w∧Srt (ltC c) a i w) (fun i=>b+1-i) (a+1)
  ⟨by omega,by omega,v,rfl,Rng.refl _ _ _ _,Srt.one (by omega)⟩ (by rfl) ?_
 rintro i S1 ⟨hi1,hi2,w,rfl,hr,hs⟩ kk hkk
 (try simp only [rwp,zA,zB,zC,zD,zE,zF,zG,zH,zI,rwb,reduceIte,C156_1])
 (refine q04 (fun hlt=>?_) (fun hlt=>?_)<;>(try simp only [hlc] at hlt))
 ·refine LoopP.introS (fun j:Nat=>[(0,D),(1,.int .i64 a),(2,.int .i64 b),(3,fnG g),(8,.int .i64 i),(9,.int .i64 j)]) (fun j S'=>∃ u,S'=SS u∧Rng n a b v u∧InsI (ltC c) a i j u) (fun j=>j) i
   ⟨w,rfl,hr,InsI.start hs (by omega)⟩ rfl ?_
  rintro j S2 ⟨u,rfl,hru,hu⟩ kk2 hkk2
  have h1:=hu.lo
  have h2:=hu.hi
  have stop:(j=a∨Le (ltC c) (u (j-1)) (u j))→rcW kk [(0,D),(1,.int .i64 a),(2,.int .i64 b),(3,fnG g),(8,.int .i64 (IntKind.i64.wrap (↑i+1)))] (SS u):=by
   intro hq
   (simp (disch:=omega) only [q08])
   exact q0a rfl (hkk (i+1) _ ⟨by omega,by omega,u,rfl,hru,hu.stop ho hq⟩ (by omega))
  (try simp only [rwp,zA,zB,zC,zD,zE,zF,zG,zH,zI,rwb,reduceIte,C156_2])
  cases a1:decide ((a:Int)<j)
  ·(try simp only [rwp,zA,zB,zC,zD,zE,zF,zG,zH,zI,rwb,reduceIte,C156_3])
   exact stop (.inl (by have:=of_decide_eq_false a1;omega))
  ·have haj:=of_decide_eq_true a1
   (try simp only [rwp,zA,zB,zC,zD,zE,zF,zG,zH,zI,rwb,reduceIte])
   refine hD.ia (i:=j) rfl (by omega) ?_
   (try simp only [rwp,zA,zB,zC,zD,zE,zF,zG,zH,zI,rwb,reduceIte])
   (simp (disch:=omega) only [q08])
   refine hD.ia (i:=j-1) (by omega) (by omega) ?_
   refine hD.ld (by omega) (hD.ld (by omega) ?_)
   refine q06 (hg _ _) ?_
   (try simp only [rwp,zA,zB,zC,zD,zE,zF,zG,zH,zI,rwb,reduceIte])
   cases a2:decide (c (u j) (u (j-1))<0)
   ·(try simp only [rwp,zA,zB,zC,zD,zE,zF,zG,zH,zI,rwb,reduceIte,C156_3])
    exact stop (.inr a2)
   ·(try simp only [rwp,zA,zB,zC,zD,zE,zF,zG,zH,zI,rwb,reduceIte,C156_3])
    (simp (disch:=omega) only [q08])
    refine hD.ia (i:=j-1) (by omega) (by omega) ?_
    refine hD.ia (i:=j) rfl (by omega) ?_
    refine hD.ld (by omega) (hD.ld (by omega) ?_)
    refine hD.ia (i:=j) rfl (by omega) ?_
    refine hD.st (by omega) ?_
    refine hD.ia (i:=j-1) (by omega) (by omega) ?_
    refine hD.st (by omega) ?_
    rw [sw_upv]
    (try simp only [rwp,zA,zB,zC,zD,zE,zF,zG,zH,zI,rwb,reduceIte])
    (try (simp (disch:=omega) only [q08]))
    have ej:(j:Int)-1=((j-1:Nat):Int):=by omega
    rw [ej]
    exact q0a rfl (hkk2 (j-1) _ ⟨_,rfl,hru.trans (Rng.sw (by omega) (by omega) (by omega) (by omega) hb),hu.step ho (by omega) a2⟩ (by omega))
 ·(try simp only [rwp,zA,zB,zC,zD,zE,zF,zG,zH,zI,rwb,reduceIte])
  exact q3d ⟨rfl,w,rfl,hr,fun p q h1 h2 h3=>hs p q h1 h2 (by omega)⟩
theorem c_pdq12 (hD:Dat D pt SS n) (hg:∀ x y,AFun PG g [.agg (obC x),.agg (obC y)] (.int .i64 (c x y))) (ho:LtOk (ltC c)) {a b:Nat} (hab:a≤b) (hb:b≤n) (h12:b≤a+12) (lim:Int) (v:Nat→Ob) :
  ACalls PG nrx115 [D,.int .i64 a,.int .i64 b,.int .i64 lim,fnG g] (SS v) fun ae S'=>ae=.ret (.tup [])∧∃ w,S'=SS w∧Rng n a b v w∧Srt (ltC c) a b w:=by
 have hn:=hD.bd
 refine wx115 ?_
 unfold Bx115
 refine LoopP.introS (fun _:Unit=>[(0,D),(1,.int .i64 a),(2,.int .i64 b),(3,.int .i64 lim),(4,fnG g),(10,.bool true),(11,.bool true)]) (fun _ S'=>S'=SS v) (fun _=>0) () rfl rfl ?_
 rintro _ S' rfl kk hkk
 (try simp only [rwp,zA,zB,zC,zD,zE,zF,zG,zH,zI,rwb,reduceIte,C115_1])
 (simp (disch:=omega) only [q08])
 (try simp only [rwp,zA,zB,zC,zD,zE,zF,zG,zH,zI,rwb,reduceIte,decide_eq_true (show (b:Int)-a≤12 by omega)])
 refine q10 (c_ins hD hg ho hab hb v) ?_
 rintro ae S1 ⟨rfl,w,rfl,h1,h2⟩
 dsimp only
 exact q3d ⟨rfl,w,rfl,h1,h2⟩
end
def SortOk (N:Nat):Prop:=∀ (D:AV) (pt:Nat→AV) (SS:(Nat→Ob)→q00) (n g:Nat) (c:Ob→Ob→Int),Dat D pt SS n→(∀ x y,AFun PG g [.agg (obC x),.agg (obC y)] (.int .i64 (c x y)))→LtOk (ltC c)→n≤N→∀ v:Nat→Ob,
 ACalls PG nrx59 [D,fnG g] (SS v) fun ae S'=>ae=.ret (.tup [])∧∃ w,S'=SS w∧Rng n 0 n v w∧Srt (ltC c) 0 n w
def len8:ByteArray:=⟨#[0,1,2,2,3,3,3,3,4,4,4,4,4,4,4,4,5,5,5,5,5,5,5,5,5,5,5,5,5,5,5,5,6,6,6,6,6,6,6,6,6,6,6,6,6,6,6,6,6,6,6,6,6,6,6,6,6,6,6,6,6,6,6,6,7,7,7,7,7,7,7,7,7,7,7,7,7,7,7,7,7,7,7,7,7,7,7,7,7,7,7,7,7,7,7,7,7,7,7,7,7,7,7,7,7,7,7,7,7,7,7,7,7,7,7,7,7,7,7,7,7,7,7,7,7,7,7,7,8,8,8,8,8,8,8,8,8,8,8,8,8,8,8,8,8,8,8,8,8,8,8,8,8,8,8,8,8,8,8,8,8,8,8,8,8,8,8,8,8,8,8,8,8,8,8,8,8,8,8,8,8,8,8,8,8,8,8,8,8,8,8,8,8,8,8,8,8,8,8,8,8,8,8,8,8,8,8,8,8,8,8,8,8,8,8,8,8,8,8,8,8,8,8,8,8,8,8,8,8,8,8,8,8,8,8,8,8,8,8,8,8,8,8,8,8,8,8,8,8,8,8,8,8,8,8,8]⟩
def lenF (n:Nat):Nat:=(len8.data.toList.getD n 0).toNat
theorem lenF_ok:∀ n:Fin 256,n.1<2 ^ lenF n.1∧(n.1=0∨2 ^ lenF n.1≤2 * n.1)∧lenF n.1≤8:=by decide +kernel
theorem c_Len64 {n:Nat} (hn:n<256):AFun PG nrx165 [.int .u64 n] (.int .i64 (lenF n)):=by
 intro S
 refine wx165 ?_
 unfold Bx165
 (try simp only [rwp,zA,zB,zC,zD,zE,zF,zG,zH,zI,rwb,reduceIte,C165_1,C165_2])
 rw [decide_eq_false (show ¬ (4294967296:Int)≤n by omega)]
 refine q36 ?_
 rw [decide_eq_false (show ¬ (65536:Int)≤n by omega)]
 refine q36 ?_
 rw [decide_eq_false (show ¬ (256:Int)≤n by omega)]
 refine q36 ?_
 have hb:len8[n]?=some (len8.data.toList.getD n 0).toNat.toUInt8:=by
  rw [q6n]
  have hl:n<len8.data.toList.length:=by show n<256;exact hn
  rw [List.getD_eq_getElem?_getD,List.getElem?_eq_getElem hl]
  simp
 have h8:lenF n≤8:=(lenF_ok ⟨n,hn⟩).2.2
 have hw:IntKind.u8.wrap (n:Int)=n:=(show ∀ n:Fin 256,IntKind.u8.wrap (n.1:Int)=n.1 by decide +kernel) ⟨n,hn⟩
 have hv:((len8.data.toList.getD n 0).toNat.toUInt8).toNat=lenF n:=by
  unfold lenF
  simp
 show C165_3 _ (.int .u64 n) (.int .i64 0) S
 unfold C165_3
 change (cvW .u8 (.int .u64 n) fun v21=>isW (.str len8) v21 fun v22=>_)
 (try simp only [rwp,zA,zB,zC,zD,zE,zF,zG,zH,zI,rwb,reduceIte,hw,hb])
 rw [hv]
 (simp (disch:=omega) only [q08])
 exact q03 ⟨by rw [Int.zero_add],rfl⟩
theorem c_Len {n:Nat} (hn:n<256):AFun PG nrx116 [.int .u64 n] (.int .i64 (lenF n)):=by
 intro S
 refine wx116 ?_
 unfold Bx116
 (try simp only [rwp,zA,zB,zC,zD,zE,zF,zG,zH,zI,rwb,reduceIte])
 refine q06 (c_Len64 hn) ?_
 exact q03 ⟨rfl,rfl⟩
theorem sort12:SortOk 12:=by
 intro D pt SS n g c hD hg ho hn v
 refine wx59 ?_
 unfold Bx59
 refine hD.ln ?_
 have hw:IntKind.u64.wrap (n:Int)=n:=by
  have:n<256:=by omega
  exact (show ∀ n:Fin 256,IntKind.u64.wrap (n.1:Int)=n.1 by decide +kernel) ⟨n,this⟩
 (try simp only [rwp,zA,zB,zC,zD,zE,zF,zG,zH,zI,rwb,reduceIte,hw])
 refine q06 (c_Len (by omega)) ?_
 have q:=c_pdq12 hD hg ho (a:=0) (b:=n) (by omega) (by omega) (by omega) (lenF n) v
 refine q10 q ?_
 rintro ae S1 ⟨rfl,w,rfl,h1,h2⟩
 dsimp only
 exact q3d ⟨rfl,w,rfl,h1,h2⟩
set_option maxRecDepth 4000
section
variable {D:AV} {pt:Nat→AV} {SS:(Nat→Ob)→q00} {n g:Nat} {c:Ob→Ob→Int}
end
set_option maxRecDepth 4000
section
variable {D:AV} {pt:Nat→AV} {SS:(Nat→Ob)→q00} {n g:Nat} {c:Ob→Ob→Int}
end
set_option maxRecDepth 4000
section
variable {D:AV} {pt:Nat→AV} {SS:(Nat→Ob)→q00} {n g:Nat} {c:Ob→Ob→Int} {cb:Nat} {v:Nat→Ob}
end
set_option maxRecDepth 4000
section
variable {α:Type} {lt:α→α→Bool} {n a b m A B:Nat} {v w x:Nat→α}
def PreF (lt:α→α→Bool) (a b:Nat) (v:Nat→α):Prop:=0<a→∀ k,a≤k→k<b→Le lt (v (a-1)) (v k)
theorem PreF.rng (h:PreF lt a b v) (hb:b≤n) (hr:Rng n a b v w):PreF lt a b w:=fun h0 k h1 h2=>by
 obtain ⟨j,j1,j2,e⟩:=hr.mem hb h1 h2
 rw [e,hr.out (a-1) (.inl (by omega))]
 exact h h0 j j1 j2
theorem Pdq.pre (hp:PreF lt A B v) (hb:B≤n) (hr:Rng n A B v w) (h:Pdq lt A B a b w):PreF lt a b w:=fun h0 k h1 h2=>by
 have e1:=h.pa
 have e2:=h.pb
 by_cases e:a=A
 ·subst e
  exact hp.rng hb hr h0 k h1 (by omega)
 ·exact h.lm (a-1) k (by omega) (by omega) h1 (by omega)
theorem Cut.left (h:Cut lt a b m v) (hb:b≤n) (hr:Rng n a m v w):Cut lt a b m w:=by
 have h1:=h.cb
 refine ⟨h.ca,h.cb,fun k k1 k2=>?_,fun k k1 k2=>?_⟩
 ·obtain ⟨j,j1,j2,e⟩:=hr.mem (by omega) k1 k2
  rw [e,hr.out m (.inr (Nat.le_refl _))]
  exact h.l j j1 j2
 ·rw [hr.out m (.inr (Nat.le_refl _)),hr.out k (.inr (by omega))]
  exact h.r k k1 k2
theorem Cut.right (h:Cut lt a b m v) (hb:b≤n) (hr:Rng n (m+1) b v w):Cut lt a b m w:=by
 refine ⟨h.ca,h.cb,fun k k1 k2=>?_,fun k k1 k2=>?_⟩
 ·rw [hr.out m (.inl (by omega)),hr.out k (.inl (by omega))]
  exact h.l k k1 k2
 ·obtain ⟨j,j1,j2,e⟩:=hr.mem hb (i:=k) (by omega) k2
  rw [e,hr.out m (.inl (by omega))]
  exact h.r j (by omega) j2
end
section
variable {D:AV} {pt:Nat→AV} {SS:(Nat→Ob)→q00} {n g:Nat} {c:Ob→Ob→Int}
end
set_option maxRecDepth 4000
section
variable {D:AV} {pt:Nat→AV} {SS:(Nat→Ob)→q00} {n g:Nat} {c:Ob→Ob→Int}
end
set_option maxRecDepth 4000
theorem q31 (x:Ob):(obC x).length=2:=rfl
theorem fl_two {n i:Nat} (hi:i<n) (v:Nat→Ob):∃ rest,(fl obC n v).drop (i * 2)=.str (v i).ty :: .str (v i).id :: rest:=fl_drop q31 hi
theorem c_Compact {S0 S:q00} {a:AV} {n:Nat} {u:Nat→Ob} (hs:Sub S0 S) (h:OwnL S0 S tyOb 2 obC a n u) (hb:n≤100000) :
  ACalls PG nrx63 [a] S fun ae S'=>∃ a',ae=.ret a'∧Sub S0 S'∧LstW S0 S' tyOb 2 a' ((dd u n).map obC):=by
 refine wx63 ?_
 unfold Bx63
 have hl:=h.lstW q31
 rw [hl.ln,List.length_map,q1g]
 have dd1:∀ k,k≤n→(∀ i,0<i→i<k→u i≠u (i-1))→dd u k=vl k u:=by
  intro k
  induction k with
  | zero=>intro _ _;rfl
  | succ k ih=>
   intro hk hne
   rw [q6s,← ih (by omega) fun i h1 h2=>hne i h1 (by omega)]
   unfold dd
   rw [if_neg fun h=>hne k h.1 (by omega) h.2]
   cases k<;>rfl
 (try simp only [rwp,zA,zB,zC,zD,zE,zF,zG,zH,zI,rwb,reduceIte])
 cases a1:decide ((n:Int)<2)
 ·have hn2:2≤n:=by have:=of_decide_eq_false a1;omega
  rcases h with ⟨rfl,e⟩ | ⟨b,cap,rfl,h1,h2,h3,h4⟩
  ·omega
  ·(try simp only [rwp,zA,zB,zC,zD,zE,zF,zG,zH,zI,rwb,reduceIte])
   refine LoopP.introS (fun k:Nat=>[(0,.own b 0 n cap),(3,.int .i64 k)]) (fun k S'=>S'=S∧1≤k∧k≤n∧∀ i,0<i→i<k→u i≠u (i-1)) (fun k=>n-k) 1 ⟨rfl,by omega,by omega,fun i h1 h2=>by omega⟩ rfl ?_
   rintro k S' ⟨rfl,hk1,hkn,hne⟩ kk hkk
   (try simp only [rwp,zA,zB,zC,zD,zE,zF,zG,zH,zI,rwb,reduceIte,C63_1])
   (refine q04 (fun hlt=>?_) (fun hlt=>?_)<;>(try simp only [hlc] at hlt))
   ·(simp (disch:=omega) only [q08])
    have ek:((k:Int)-1).toNat=k-1:=by omega
    (try simp only [rwp,zA,zB,zC,zD,zE,zF,zG,zH,zI,rwb,reduceIte,Int.toNat_natCast,ek,Nat.zero_add])
    refine ⟨hlt,by omega,by omega,?_⟩
    have hc:=q07 (objAt_some.2 h2)
    obtain ⟨rest1,d1⟩:=fl_two (show k<n by omega) u
    obtain ⟨rest2,d2⟩:=fl_two (show k-1<n by omega) u
    (try simp only [rwp,zA,zB,zC,zD,zE,zF,zG,zH,zI,rwb,reduceIte,hc,d1,d2])
    have hdec:=ob_dec14 (a:=u k) (b:=u (k-1))
    cases g1:(decide ((u k).ty=(u (k-1)).ty)&&decide ((u k).id=(u (k-1)).id))
    ·rw [g1] at hdec
     (try simp only [rwp,zA,zB,zC,zD,zE,zF,zG,zH,zI,rwb,reduceIte])
     refine q0a rfl (hkk (k+1) _ ⟨rfl,by omega,by omega,fun i q1 q2=>?_⟩ (by omega))
     by_cases e:i=k
     ·subst e;exact of_decide_eq_false hdec
     ·exact hne i q1 (by omega)
    ·rw [g1] at hdec
     have heq:=of_decide_eq_true hdec
     have hckn:¬ cap=k:=by omega
     (try simp only [rwp,zA,zB,zC,zD,zE,zF,zG,zH,zI,rwb,reduceIte,hckn])
     refine ⟨by omega,by omega,?_⟩
     refine LoopP.introS (fun x:Nat×Nat=>[(0,.own b 0 n cap),(3,.int .i64 x.1),(4,.own b (k * 2) (n-k) (cap-k)),(5,.int .i64 x.2)])
      (fun x S2=>x.1<k+x.2∧1≤x.2∧k+x.2≤n∧∃ w,S2=supd S' b (.cells tyOb (fl obC n w) (cap * 2))∧vl x.1 w=dd u (k+x.2)∧∀ p,k+x.2≤p+1→w p=u p) (fun x=>n-x.2) (k,1)
      ⟨by dsimp only;omega,by dsimp only;omega,by dsimp only;omega,u,?_,?_,fun _ _=>rfl⟩ rfl ?_
     ·funext c
      unfold supd
      split
      ·rename_i e;subst e;exact h2
      ·rfl
     ·dsimp only
      rw [← dd1 k hkn hne]
      conv=>rhs;unfold dd
      rw [if_pos ⟨by omega,heq⟩]
     ·rintro ⟨m,k2⟩ S2 ⟨hmk,hk2,hkk2n,w,rfl,hw,hr⟩ kk2 hkk2
      dsimp only at hmk hk2 hkk2n hw hr ⊢
      have ho:q0f (supd S' b (.cells tyOb (fl obC n w) (cap * 2))) b=some (tyOb,fl obC n w,cap * 2):=q0g
      have hc2:=q07 ho
      (try simp only [rwp,zA,zB,zC,zD,zE,zF,zG,zH,zI,rwb,reduceIte,C63_2])
      (refine q04 (fun hlt2=>?_) (fun hlt2=>?_)<;>(try simp only [hlc] at hlt2))
      ·have hj:k+k2<n:=by omega
       obtain ⟨rest3,d3⟩:=fl_two hj w
       obtain ⟨rest4,d4⟩:=fl_two (show k+k2-1<n by omega) w
       rw [hr _ (by omega)] at d3
       rw [hr _ (by omega)] at d4
       (simp (disch:=omega) only [q08])
       have e2:((k2:Int)-1).toNat=k2-1:=by omega
       (try simp only [rwp,zA,zB,zC,zD,zE,zF,zG,zH,zI,rwb,reduceIte,Int.toNat_natCast,e2,show k * 2+k2 * 2=(k+k2) * 2 by omega,show k * 2+(k2-1) * 2=(k+k2-1) * 2 by omega])
       refine ⟨by omega,by omega,by omega,?_⟩
       (try simp only [rwp,zA,zB,zC,zD,zE,zF,zG,zH,zI,rwb,reduceIte,hc2,d3,d4])
       have hdec2:=ob_dec14 (a:=u (k+k2)) (b:=u (k+k2-1))
       cases g2:(decide ((u (k+k2)).ty=(u (k+k2-1)).ty)&&decide ((u (k+k2)).id=(u (k+k2-1)).id))
       ·rw [g2] at hdec2
        have hne2:=of_decide_eq_false hdec2
        have ff:=fl_fill (v:=w) (x:=u (k+k2)) q31 (show m<n by omega)
        rw [show obC (u (k+k2))=[.str (u (k+k2)).ty,.str (u (k+k2)).id] from rfl] at ff
        have fits:m * 2+2≤(fl obC n w).length:=by rw [q1r q31];omega
        (try simp only [rwp,zA,zB,zC,zD,zE,zF,zG,zH,zI,rwb,reduceIte,ho,Int.toNat_natCast,Nat.zero_add,show k * 2+k2 * 2=(k+k2) * 2 by omega,hc2,d3])
        refine ⟨by omega,by omega,?_⟩
        (try simp only [rwp,zA,zB,zC,zD,zE,zF,zG,zH,zI,rwb,reduceIte,ho,hc2,d3,ff,fits,q0q])
        (try (simp (disch:=omega) only [q08]))
        refine q0a rfl (hkk2 (m+1,k2+1) _ ⟨by dsimp only;omega,by dsimp only;omega,by dsimp only;omega,upv w m (u (k+k2)),congrArg (fun z=>supd S' b (.cells tyOb z (cap * 2))) ff,?_,fun p hp=>?_⟩ (by dsimp only;omega))
        ·dsimp only
         have e1:vl m (upv w m (u (k+k2)))=vl m w:=by unfold vl;exact List.map_congr_left fun q hq=>if_neg (by simp at hq;omega)
         rw [q6s,e1,hw,show upv w m (u (k+k2)) m=u (k+k2) from if_pos rfl,← Nat.add_assoc]
         conv=>rhs;unfold dd
         rw [if_neg fun h=>hne2 h.2]
        ·dsimp only at hp ⊢
         rw [show upv w m (u (k+k2)) p=w p from if_neg (by omega)]
         exact hr p (by omega)
       ·rw [g2] at hdec2
        have heq2:=of_decide_eq_true hdec2
        (try simp only [rwp,zA,zB,zC,zD,zE,zF,zG,zH,zI,rwb,reduceIte])
        (try (simp (disch:=omega) only [q08]))
        refine q0a rfl (hkk2 (m,k2+1) _ ⟨by dsimp only;omega,by dsimp only;omega,by dsimp only;omega,w,rfl,?_,fun p hp=>hr p (by dsimp only at hp;omega)⟩ (by dsimp only;omega))
        dsimp only
        rw [hw,← Nat.add_assoc]
        conv=>rhs;unfold dd
        rw [if_pos ⟨by omega,heq2⟩]
      ·have e:k+k2=n:=by omega
       (try simp only [rwp,zA,zB,zC,zD,zE,zF,zG,zH,zI,rwb,reduceIte,loI,hiI,cutI,Int.toNat_natCast,Nat.zero_add])
       refine ⟨by omega,by omega,⟨tyOb,fl obC n w,cap * 2,by rw [q01,if_pos rfl],?_,rfl,rfl,?_⟩⟩
       ·rw [q1r q31]
        split
        ·omega
        ·omega
       ·refine ⟨Int.le_refl 0,by omega,?_⟩
        rw [show AV.own b (if cap=0 then 0 else 0) (m-0) (cap-0)=.own b 0 m cap by simp,q0q,← e,← hw,e]
        refine q03 ⟨_,rfl,Sub.supd h1 hs,fl_rows q31,.inr ⟨b,cap,_,by rw [List.length_map,q1g],h1,by rw [q01,if_pos rfl],?_,?_,by rw [List.length_map,q1g];omega,h4⟩⟩
        ·rw [List.length_map,q1g,if_neg (by omega),q4y _ _ _ (by rw [q4s,q1r q31];simp only [List.length_cons,List.length_nil];omega),List.take_append_of_le_length (by rw [List.length_take,q1r q31];omega),List.take_take,Nat.min_self]
         exact fl_take q31 (by omega)
        ·rw [List.length_map,q1g,if_neg (by omega),q4y _ _ _ (by rw [q4s,q1r q31];simp only [List.length_cons,List.length_nil];omega)]
         simp only [List.length_append,List.length_take,q1r q31]
         omega
   ·(try simp only [rwp,zA,zB,zC,zD,zE,zF,zG,zH,zI,rwb,reduceIte])
    have e:k=n:=by omega
    subst e
    refine q03 ⟨_,rfl,hs,?_⟩
    rw [dd1 k (Nat.le_refl _) hne]
    exact hl
 ·(try simp only [rwp,zA,zB,zC,zD,zE,zF,zG,zH,zI,rwb,reduceIte])
  refine q03 ⟨a,rfl,hs,?_⟩
  have hn2:=of_decide_eq_true a1
  rw [dd1 n (Nat.le_refl _) fun i h1 h2=>by omega]
  exact hl
section
variable {E:q1f} {K K':Nd→Bool} {N:Nat}
theorem Low.weak {s:List Ty} {out:Bool} {c:Nd} (h:Low s N out c):Low s N false c:=by
 rcases h with h | h
 ·exact .inl h
 ·exact .inr (by simp;omega)
theorem exB_congr (hE:OfOk E) (h:∀ c,Low E.s N false c→K c=K' c) (o:Ob) :
  ∀ (m:Nat) (e:Ex) (out:Bool),mayE m e=true→(∀ p∈q0s e out,∀ l∈q3t E.s o.ty p.1 p.2,getL (levF E.s) l.1+l.2.toNat≤N)→exB E K o m e=exB E K' o m e
 | 0,e,out,hm,hl=>by cases hm
 | m+1,.mk k n ov ks,out,hm,hl=>by
  have ih:=exB_congr hE h o m
  unfold mayE at hm
  unfold exB
  unfold q0s at hl
  by_cases k0:k=0
  ·simp only [if_pos k0] at hm ⊢
   rw [Bool.and_eq_true] at hm
   rw [if_pos hm.2] at hl
   refine h _ (Low.weak (out:=out) ?_)
   unfold Low lvN
   cases hq:q0o E.s o.ty n with
   | none=>exact .inl rfl
   | some p=>
    obtain ⟨i,j,r⟩:=p
    refine .inr (hl (.mk k n ov ks,out) (by simp) ((i,j),out) ?_)
    unfold q3t Ex.name
    simp only [hq]
    exact List.mem_cons_self
  ·simp only [if_neg k0] at hm ⊢
   by_cases k1:k=1
   ·simp only [if_pos k1] at hm ⊢
    rw [Bool.and_eq_true,Bool.and_eq_true] at hm
    rw [if_pos hm.2.2] at hl
    have low:∀ x∈E.of ⟨o,n⟩,x.rl=⟨#[]⟩→K ⟨x.o,ov⟩=K' ⟨x.o,ov⟩:=by
     intro x hx hx0
     obtain ⟨i,j,r,h1,f,h2,h3,h4⟩:=hE.ok _ x hx
     refine h _ (Low.weak (out:=out) ?_)
     unfold Low lvN
     cases hq:q0o E.s x.o.ty ov with
     | none=>exact .inl rfl
     | some p=>
      obtain ⟨i2,j2,r2⟩:=p
      refine .inr ?_
      simp only
      refine hl (.mk k n ov ks,out) (by simp) ((i2,j2),out) ?_
      unfold q3t Ex.name Ex.kind Ex.over
      simp only [show q0o E.s o.ty n=some (i,j,r) from h1,if_pos k1]
      refine List.mem_cons_of_mem _ (List.mem_map.2 ⟨(i2,j2),?_,rfl⟩)
      unfold q5f
      refine List.mem_filterMap.2 ⟨f,h2,?_⟩
      rw [if_pos (h4.symm.trans hx0),← h3,hq]
      rfl
    rw [Bool.eq_iff_iff]
    simp only [List.any_eq_true,Bool.and_eq_true,decide_eq_true_eq]
    constructor
    ·rintro ⟨x,hx,h0,h1⟩;exact ⟨x,hx,h0,by rw [← low x hx h0];exact h1⟩
    ·rintro ⟨x,hx,h0,h1⟩;exact ⟨x,hx,h0,by rw [low x hx h0];exact h1⟩
   ·simp only [if_neg k1] at hm ⊢
    have k234:k=2∨k=3∨k=4:=by
     refine Classical.byContradiction fun hn=>?_
     rw [if_neg hn] at hm
     cases hm
    rw [if_pos k234] at hm
    obtain ⟨x1,x2,rfl⟩:∃ a b,ks=[a,b]:=by
     match ks,hm with
     | [a,b],_=>exact ⟨a,b,rfl⟩
     | [],hm=>cases hm
     | [_],hm=>cases hm
     | _ :: _ :: _ :: _,hm=>cases hm
    simp only [two,Bool.and_eq_true] at hm
    have hl':∀ p∈q0s x1 out++q0s x2 (out||decide (k=4)),∀ l∈q3t E.s o.ty p.1 p.2,getL (levF E.s) l.1+l.2.toNat≤N:=by
     intro p hp
     refine hl p ?_
     rw [if_neg (by simp)]
     simp only [q2i,List.append_nil]
     simpa using hp
    dsimp only
    rw [ih x1 out hm.1 fun p hp=>hl' p (List.mem_append_left _ hp),ih x2 _ hm.2 fun p hp=>hl' p (List.mem_append_right _ hp)]
theorem body_congr (hE:OfOk E) (hc:errA (chkF E.s)=0) {n:Nd} {i k:Nat} {r:Rl} (hf:q0o E.s n.o.ty n.rl=some (i,k,r)) (h:∀ c,Low E.s (lvN E.s n) false c→K c=K' c):q1v E K n r=q1v E K' n r:=by
 obtain ⟨ht0,ty,hty,-,hkr⟩:=q1u hf
 have hnm:ty.name=n.o.ty:=by
  obtain ⟨⟨x,hx,hp⟩,-⟩:=firstI_some.1 ht0
  rw [hty] at hx
  cases hx
  exact of_decide_eq_true hp
 have hst:=(q4v hc hty hkr).2
 have hlv:lvN E.s n=getL (levF E.s) (i,k):=by unfold lvN;rw [hf]
 rw [← hlv,hnm] at hst
 unfold q1v
 unfold q1j at hst
 by_cases h0:r.refs.length=0
 ·simp only [if_pos h0] at hst ⊢
  have hm:mayE 12 r.ex=true:=sc_may (q2u hc).may ty (List.mem_of_getElem? hty) r (List.mem_of_getElem? hkr) h0
  exact exB_congr hE h n.o 12 r.ex false hm fun p hp l hl=>hst l (List.mem_flatMap.2 ⟨p,hp,hl⟩)
 ·simp only [if_neg h0] at hst ⊢
  have low:∀ x∈E.of n,x.rl≠⟨#[]⟩→K x=K' x:=by
   intro x hx hx0
   obtain ⟨i1,k1,r1,h1,f,h2,h3,h4⟩:=hE.ok _ x hx
   rw [hf] at h1
   cases h1
   refine h _ ?_
   unfold Low
   cases hq:q0o E.s x.o.ty x.rl with
   | none=>exact .inl rfl
   | some p=>
    obtain ⟨i2,j2,r2⟩:=p
    refine .inr ?_
    have:=hst ((i2,j2),false) (List.mem_filterMap.2 ⟨f,h2,by unfold q2p;rw [if_neg (by rw [← h4];exact hx0),← h3,← h4,hq];rfl⟩)
    unfold lvN at this ⊢
    rw [hq]
    exact this
  rw [Bool.eq_iff_iff]
  simp only [List.any_eq_true]
  constructor
  ·rintro ⟨x,hx,hb⟩
   refine ⟨x,hx,?_⟩
   by_cases h0:x.rl=⟨#[]⟩
   ·rw [if_pos h0] at hb ⊢;exact hb
   ·rw [if_neg h0] at hb ⊢;rw [← low x hx h0];exact hb
  ·rintro ⟨x,hx,hb⟩
   refine ⟨x,hx,?_⟩
   by_cases h0:x.rl=⟨#[]⟩
   ·rw [if_pos h0] at hb ⊢;exact hb
   ·rw [if_neg h0] at hb ⊢;rw [low x hx h0];exact hb
theorem exB_thing {T:List Ob} (hT:∀ n x,x∈E.of n→n.o∈T) (hK:∀ c,K c=true→c.o∈T) (o:Ob):∀ (m:Nat) (e:Ex),exB E K o m e=true→o∈T
 | 0,e,h=>by cases h
 | m+1,.mk k n ov ks,h=>by
  have ih:=exB_thing hT hK o m
  unfold exB at h
  split at h
  ·exact hK _ h
  ·split at h
   ·obtain ⟨x,hx,-⟩:=List.any_eq_true.1 h
    exact hT _ x hx
   ·split at h
    ·split at h
     ·rw [Bool.or_eq_true] at h
      exact h.elim (ih _) (ih _)
     ·split at h<;>(rw [Bool.and_eq_true] at h;exact ih _ h.1)
    ·cases h
theorem body_thing {T:List Ob} (hT:∀ n x,x∈E.of n→n.o∈T) (hK:∀ c,K c=true→c.o∈T) {n:Nd} {r:Rl} (h:q1v E K n r=true):n.o∈T:=by
 unfold q1v at h
 split at h
 ·exact exB_thing hT hK _ _ _ h
 ·obtain ⟨x,hx,-⟩:=List.any_eq_true.1 h
  exact hT _ x hx
end
def q49 (s:List Ty) (T:List Ob):List Nd:=T.flatMap fun o=>s.flatMap fun t=>t.rels.map fun r=>⟨o,r.name⟩
theorem mem_nodes {s:List Ty} {T:List Ob} {n:Nd} {i k:Nat} {r:Rl} (hf:q0o s n.o.ty n.rl=some (i,k,r)) (hT:n.o∈T):n∈q49 s T:=by
 obtain ⟨-,ty,hty,hrl,hkr⟩:=q1u hf
 obtain ⟨⟨x,hx,hp⟩,-⟩:=firstI_some.1 hrl
 rw [hkr] at hx
 cases hx
 refine List.mem_flatMap.2 ⟨n.o,hT,List.mem_flatMap.2 ⟨ty,List.mem_of_getElem? hty,List.mem_map.2 ⟨r,List.mem_of_getElem? hkr,?_⟩⟩⟩
 have:=of_decide_eq_true hp
 cases n
 simp only [Nd.mk.injEq,true_and]
 exact this
structure Upto (E:q1f) (C:List Nd) (v:Nat) (L:List Nd):Prop where
 nd:L.Nodup
 sub:∀ n∈L,n∈C
 step:∀ (i:Nat) (n:Nd),L[i]?=some n→∃ j k r,q0o E.s n.o.ty n.rl=some (j,k,r)∧q1v E (fun c=>decide (c∈L.take i)) n r=true
 srt:∀ (i j:Nat) (n m:Nd),L[i]?=some n→L[j]?=some m→i<j→lvN E.s n≤lvN E.s m
 top:∀ n∈L,lvN E.s n≤v
 closed:∀ n j k r,q0o E.s n.o.ty n.rl=some (j,k,r)→lvN E.s n<v→q1v E (fun c=>decide (c∈L)) n r=true→n∈L
theorem nd_len {α:Type} [DecidableEq α]:∀ {L C:List α},L.Nodup→(∀ x∈L,x∈C)→L.length≤C.length
 | [],C,_,_=>Nat.zero_le _
 | x :: r,C,h,hs=>by
  rw [List.nodup_cons] at h
  have hx:=hs x (by simp)
  have:=nd_len (L:=r) (C:=C.erase x) h.2 fun y hy=>(List.mem_erase_of_ne (by rintro rfl;exact h.1 hy)).2 (hs y (List.mem_cons_of_mem _ hy))
  rw [List.length_erase_of_mem hx] at this
  have hpos:=List.length_pos_of_mem hx
  simp only [List.length_cons]
  omega
section
variable {E:q1f} {C L:List Nd} {v:Nat}
theorem Upto.snoc (hE:OfOk E) (hc:errA (chkF E.s)=0) (h:Upto E C v L) {n:Nd} {j k:Nat} {r:Rl} (hf:q0o E.s n.o.ty n.rl=some (j,k,r)) (hv:lvN E.s n=v) (hn:n ∉ L) (hC:n∈C) (hb:q1v E (fun c=>decide (c∈L)) n r=true) :
  Upto E C v (L++[n]):=by
 have get:∀ i m,(L++[n])[i]?=some m→(i<L.length∧L[i]?=some m)∨(i=L.length∧m=n):=by
  intro i m hi
  rw [List.getElem?_append] at hi
  split at hi
  ·rename_i h1;exact .inl ⟨h1,hi⟩
  ·rename_i h1
   rw [List.getElem?_singleton] at hi
   split at hi
   ·cases hi;exact .inr ⟨by omega,rfl⟩
   ·cases hi
 refine ⟨?_,fun m hm=>?_,fun i m hi=>?_,fun i i2 m m2 hi hi2 hlt=>?_,fun m hm=>?_,fun m j2 k2 r2 hf2 hlt hb2=>?_⟩
 ·rw [List.nodup_append]
  exact ⟨h.nd,by simp,fun a ha b hb=>by rw [List.mem_singleton.1 hb];rintro rfl;exact hn ha⟩
 ·rcases List.mem_append.1 hm with hm | hm
  ·exact h.sub m hm
  ·rw [List.mem_singleton.1 hm];exact hC
 ·rcases get i m hi with ⟨h1,h2⟩ | ⟨h1,rfl⟩
  ·rw [List.take_append_of_le_length (Nat.le_of_lt h1)]
   exact h.step i m h2
  ·rw [h1,List.take_append_of_le_length (Nat.le_refl _),List.take_length]
   exact ⟨j,k,r,hf,hb⟩
 ·rcases get i m hi with ⟨h1,h2⟩ | ⟨h1,rfl⟩
  ·rcases get i2 m2 hi2 with ⟨h3,h4⟩ | ⟨h3,rfl⟩
   ·exact h.srt i i2 m m2 h2 h4 hlt
   ·rw [hv];exact h.top m (List.mem_of_getElem? h2)
  ·rcases get i2 m2 hi2 with ⟨h3,h4⟩ | ⟨h3,rfl⟩
   ·omega
   ·exact Nat.le_refl _
 ·rcases List.mem_append.1 hm with hm | hm
  ·exact h.top m hm
  ·rw [List.mem_singleton.1 hm,hv];exact Nat.le_refl _
 ·refine List.mem_append_left _ (h.closed m j2 k2 r2 hf2 hlt ?_)
  rw [← hb2]
  refine body_congr hE hc hf2 fun c hl=>?_
  rw [Bool.eq_iff_iff,decide_eq_true_eq,decide_eq_true_eq,List.mem_append,List.mem_singleton]
  refine ⟨.inl,fun hq=>hq.elim id fun e=>?_⟩
  subst e
  rcases hl with hl | hl
  ·rw [hf] at hl;cases hl
  ·have:lvN E.s c≤lvN E.s m:=by simpa using hl
   omega
theorem Upto.close (hE:OfOk E) (hc:errA (chkF E.s)=0):∀ (d:Nat) (L:List Nd),Upto E C v L→C.length≤L.length+d→∃ L',Upto E C v L'∧∀ n j k r,q0o E.s n.o.ty n.rl=some (j,k,r)→lvN E.s n=v→n∈C→q1v E (fun c=>decide (c∈L')) n r=true→n∈L':=by
 intro d
 induction d with
 | zero=>
  intro L h hd
  refine ⟨L,h,fun n j k r hf hv hC hb=>Classical.byContradiction fun hn=>?_⟩
  have q:=h.snoc hE hc hf hv hn hC hb
  have:=nd_len q.nd q.sub
  rw [List.length_append,List.length_singleton] at this
  omega
 | succ d ih=>
  intro L h hd
  by_cases hq:∃ n j k r,q0o E.s n.o.ty n.rl=some (j,k,r)∧lvN E.s n=v∧n∈C∧q1v E (fun c=>decide (c∈L)) n r=true∧n ∉ L
  ·obtain ⟨n,j,k,r,hf,hv,hC,hb,hn⟩:=hq
   exact ih _ (h.snoc hE hc hf hv hn hC hb) (by rw [List.length_append,List.length_singleton];omega)
  ·exact ⟨L,h,fun n j k r hf hv hC hb=>Classical.byContradiction fun hn=>hq ⟨n,j,k,r,hf,hv,hC,hb,hn⟩⟩
theorem Upto.mod (h:Upto E C v L) (hv:∀ n j k r,q0o E.s n.o.ty n.rl=some (j,k,r)→lvN E.s n<v):Mod E L:=by
 refine ⟨h.step,fun n m hn hm hlt=>?_,fun n j k r hf hb=>h.closed n j k r hf (hv n j k r hf) hb⟩
 have gi:∀ n,n∈L→L[L.idxOf n]?=some n:=fun n hn=>by
  have hlt:=List.idxOf_lt_length_iff.2 hn
  rw [List.getElem?_eq_getElem hlt,List.getElem_idxOf hlt]
 have g1:=gi n hn
 have g2:=gi m hm
 rcases Nat.lt_trichotomy (L.idxOf n) (L.idxOf m) with h1 | h1 | h1
 ·exact h1
 ·rw [h1,g2] at g1
  cases g1
  omega
 ·have:=h.srt _ _ m n g2 g1 h1
  omega
theorem lvN_le (hc:errA (chkF E.s)=0) {n:Nd} {j k:Nat} {r:Rl} (hf:q0o E.s n.o.ty n.rl=some (j,k,r)):lvN E.s n≤q0p E.s:=by
 obtain ⟨-,ty,hty,-,hkr⟩:=q1u hf
 have:=(q4v hc hty hkr).1
 unfold lvN
 rw [hf]
 exact this
theorem mod_ex (hE:OfOk E) (hc:errA (chkF E.s)=0) {T:List Ob} (hT:∀ n x,x∈E.of n→n.o∈T):∃ L,Mod E L:=by
 have key:∀ v,∃ L,Upto E (q49 E.s T) v L∧∀ n∈L,n.o∈T:=by
  intro v
  induction v with
  | zero=>exact ⟨[],⟨by simp,fun n hn=>(by cases hn),fun i n hi=>by simp at hi,fun i j n m hi=>by simp at hi,fun n hn=>(by cases hn),fun n j k r _ hlt=>by omega⟩,fun n hn=>(by cases hn)⟩
  | succ v ih=>
   obtain ⟨L,h,-⟩:=ih
   obtain ⟨L',h',hcl⟩:=Upto.close hE hc (q49 E.s T).length L h (by omega)
   have hT':∀ n∈L',n.o∈T:=by
    intro n hn
    have:=h'.sub n hn
    obtain ⟨o,ho,hq⟩:=List.mem_flatMap.1 this
    obtain ⟨t,-,hq⟩:=List.mem_flatMap.1 hq
    obtain ⟨r,-,rfl⟩:=List.mem_map.1 hq
    exact ho
   refine ⟨L',⟨h'.nd,h'.sub,h'.step,h'.srt,fun n hn=>Nat.le_succ_of_le (h'.top n hn),fun n j k r hf hlt hb=>?_⟩,hT'⟩
   rcases Nat.lt_succ_iff_lt_or_eq.1 hlt with h1 | h1
   ·exact h'.closed n j k r hf h1 hb
   ·refine hcl n j k r hf h1 (mem_nodes hf (body_thing hT (fun c hc=>hT' c (of_decide_eq_true hc)) hb)) hb
 obtain ⟨L,h,-⟩:=key (q0p E.s+1)
 exact ⟨L,h.mod fun n j k r hf=>Nat.lt_succ_of_le (lvN_le hc hf)⟩
end
theorem exB_of {E E':q1f} (hof:∀ n x,x∈E.of n↔x∈E'.of n) (K:Nd→Bool) (o:Ob):∀ (m:Nat) (e:Ex),exB E K o m e=exB E' K o m e
 | 0,e=>rfl
 | m+1,.mk k n ov ks=>by
  have ih:=exB_of hof K o m
  unfold exB
  by_cases k0:k=0
  ·rw [if_pos k0,if_pos k0]
  ·rw [if_neg k0,if_neg k0]
   by_cases k1:k=1
   ·rw [if_pos k1,if_pos k1,Bool.eq_iff_iff,List.any_eq_true,List.any_eq_true]
    constructor
    ·rintro ⟨x,hx,h⟩;exact ⟨x,(hof _ x).1 hx,h⟩
    ·rintro ⟨x,hx,h⟩;exact ⟨x,(hof _ x).2 hx,h⟩
   ·rw [if_neg k1,if_neg k1]
    match ks with
    | [a,b]=>dsimp only;rw [ih a,ih b]
    | []=>rfl
    | [_]=>rfl
    | _ :: _ :: _ :: _=>rfl
theorem Mod.of {E E':q1f} {L:List Nd} (h:Mod E L) (hs:E'.s=E.s) (hw:E'.who=E.who) (hof:∀ n x,x∈E.of n↔x∈E'.of n):Mod E' L:=by
 have hb:∀ K n r,q1v E K n r=q1v E' K n r:=by
  intro K n r
  unfold q1v
  split
  ·exact exB_of hof K _ _ _
  ·rw [hw,Bool.eq_iff_iff,List.any_eq_true,List.any_eq_true]
   constructor
   ·rintro ⟨x,hx,h⟩;exact ⟨x,(hof _ x).1 hx,h⟩
   ·rintro ⟨x,hx,h⟩;exact ⟨x,(hof _ x).2 hx,h⟩
 refine ⟨fun i n hi=>?_,fun n m=>?_,fun n j k r hf hq=>?_⟩
 ·obtain ⟨j,k,r,h1,h2⟩:=h.step i n hi
  exact ⟨j,k,r,by rw [hs];exact h1,by rw [← hb];exact h2⟩
 ·rw [hs];exact h.lev n m
 ·rw [hs] at hf
  exact h.closed n j k r hf (by rw [hb];exact hq)
set_option maxRecDepth 4000
def addT (T:List Ob) (o:Ob):List Ob:=if o∈T then T else T++[o]
theorem c_add14 {S0 S:q00} {tv:AV} {T:List Ob} (hs:Sub S0 S) (ht:LstW S0 S tyOb 2 tv (T.map obC)) (hl:T.length≤1000000) (o:Ob) :
  ACalls PG nrx106 [tv,.agg (obC o)] S fun ae S'=>∃ tv',ae=.ret tv'∧LstW S0 S' tyOb 2 tv' ((addT T o).map obC)∧Sub S0 S'∧∀ c x,sget S c=some x→q0l tv c→sget S' c=some x∧q0l tv' c:=by
 refine wx106 ?_
 unfold Bx106
 (try simp only [rwp,zA,zB,zC,zD,zE,zF,zG,zH,zI,rwb,reduceIte,obC])
 refine LoopP.introS (fun i:Nat=>[(0,tv),(3,.rop [.str o.ty,.str o.id]),(5,.int .i64 i)]) (fun i S'=>S'=S∧i≤T.length∧∀ (j:Nat) (m:Ob),j<i→T[j]?=some m→¬ m=o) (fun i=>T.length-i) 0 ⟨rfl,by omega,fun j m hj=>by omega⟩ rfl ?_
 rintro i S' ⟨rfl,hi,hno⟩ kk hkk
 (try simp only [rwp,zA,zB,zC,zD,zE,zF,zG,zH,zI,rwb,reduceIte,C106_1,ht.ln,List.length_map])
 (refine q04 (fun hlt=>?_) (fun hlt=>?_)<;>(try simp only [hlc] at hlt))
 ·obtain ⟨m,hm⟩:=q0t hlt
  obtain ⟨b1,cap,cs,rfl,hcs,hrow,hle⟩:=ht.get (i:=i) (r:=obC m) (by rw [List.getElem?_map,hm];rfl)
  simp only [List.length_map] at hkk ht
  (try simp only [rwp,zA,zB,zC,zD,zE,zF,zG,zH,zI,rwb,reduceIte,hcs,List.length_map,Int.toNat_natCast,Nat.zero_add])
  obtain ⟨rest,hd1⟩:=drop_two (hrow.trans (show obC m=[.str m.ty,.str m.id] from rfl))
  (try simp only [rwp,zA,zB,zC,zD,zE,zF,zG,zH,zI,rwb,reduceIte,hd1])
  refine ⟨hlt,?_⟩
  have hnd:=ob_dec m o
  cases a1:(decide (m.ty=o.ty)&&decide (m.id=o.id))
  ·rw [a1] at hnd
   (try simp only [rwp,zA,zB,zC,zD,zE,zF,zG,zH,zI,rwb,reduceIte])
   (simp (disch:=omega) only [q08])
   refine q0a rfl (hkk (i+1) _ ⟨rfl,by omega,fun j u hj hu=>?_⟩ (by omega))
   rcases Nat.lt_succ_iff_lt_or_eq.1 hj with h1 | rfl
   ·exact hno j u h1 hu
   ·rw [hm] at hu;cases hu;exact of_decide_eq_false hnd
  ·rw [a1] at hnd
   have e:=of_decide_eq_true hnd
   subst e
   (try simp only [rwp,zA,zB,zC,zD,zE,zF,zG,zH,zI,rwb,reduceIte])
   refine q03 ⟨_,rfl,?_,hs,fun c x hc ha=>⟨hc,ha⟩⟩
   rw [addT,if_pos (List.mem_of_getElem? hm)]
   exact ht
 ·have hn:o ∉ T:=by
   intro hn
   obtain ⟨j,hj⟩:=List.getElem?_of_mem hn
   have:=(List.getElem?_eq_some_iff.1 hj).1
   exact hno j o (by omega) hj rfl
  (try simp only [rwp,zA,zB,zC,zD,zE,zF,zG,zH,zI,rwb,reduceIte])
  refine LstW.app hs ht (x:=[.str o.ty,.str o.id]) rfl rfl (by simp only [List.length_map];omega) fun tv' S2 h1 h2 h3=>?_
  refine q03 ⟨tv',rfl,?_,h1,h3⟩
  rw [addT,if_neg hn,List.map_append]
  exact h2
theorem good_find {s:List Ty} (hg:GoodS s) {i k:Nat} {t:Ty} {r:Rl} (ht:s[i]?=some t) (hr:t.rels[k]?=some r):q0o s t.name r.name=some (i,k,r):=by
 have h1:=hg.once ht hr
 unfold fiN at h1
 simp only [Prod.mk.injEq] at h1
 obtain ⟨e1,e2⟩:=h1
 have ty:typF s t.name=some i:=by
  cases hq:typF s t.name with
  | none=>
   have:=firstI_none.1 hq i t ht
   simp at this
  | some i'=>rw [hq] at e1;exact congrArg some e1
 have rl:q43 t.rels r.name=some k:=by
  cases hq:q43 t.rels r.name with
  | none=>
   have:=firstI_none.1 hq k r hr
   simp at this
  | some k'=>
   rw [ty] at e2
   unfold relF at e2
   simp only [Option.bind_some,ht,hq,Option.getD_some] at e2
   rw [e2]
 unfold q0o
 rw [ty]
 dsimp only
 rw [ht]
 dsimp only
 rw [rl]
 dsimp only
 rw [hr]
 rfl
theorem LstW.keep {S0 S S':q00} {t sz:Nat} {u v v':AV} {rows:List (List AV)} (h:LstW S0 S t sz u rows) (ha:∀ b off n cap,u=.own b off n cap→q0l v b) (hk:∀ c o,sget S c=some o→q0l v c→sget S' c=some o∧q0l v' c) :
  LstW S0 S' t sz u rows∧∀ b off n cap,u=.own b off n cap→q0l v' b:=by
 obtain ⟨hr,h⟩:=h
 rcases h with ⟨rfl,rfl⟩ | ⟨b,cap,cs,rfl,h1,h2,h3⟩
 ·exact ⟨⟨hr,.inl ⟨rfl,rfl⟩⟩,fun b off n cap e=>by cases e⟩
 ·obtain ⟨k1,k2⟩:=hk b _ h2 (ha b _ _ _ rfl)
  exact ⟨⟨hr,.inr ⟨b,cap,cs,rfl,h1,k1,h3⟩⟩,fun b off n cap e=>by cases e;exact k2⟩
structure Rnd (s:List Ty) (L:List Tu) (who:Ob):Prop where
 os:OkS s
 c:errA (chkF s)=0
 oL:OkL L
 e:OfOk (envL s L who)
structure RdI (s:List Ty) (L:List Tu) (who:Ob) (bw:Nat) (S0:q00) (T:List Ob) (C:List Nd) (v:Nat) (K0:List Nd) (i t k:Nat) (K:List Nd) (b:Bool) (S:q00):Prop where
 w:W14 s L who bw S0 T K S
 u:Upto (envL s L who) C v K
 y:b=true→K0.length<K.length
 n:b=false→K=K0∧∀ (i' t' k':Nat) (o:Ob) (ty:Ty) (r:Rl),(i'<i∨i'=i∧(t'<t∨t'=t∧k'<k))→T[i']?=some o→s[t']?=some ty→ty.name=o.ty→ty.rels[k']?=some r→getL (levF s) (t',k')=v→q1v (envL s L who) (fun c=>decide (c∈K0)) ⟨o,r.name⟩ r=true→(⟨o,r.name⟩:Nd)∈K0
theorem RdI.skip {s:List Ty} {L:List Tu} {who:Ob} {bw:Nat} {S0 S:q00} {T:List Ob} {C:List Nd} {v:Nat} {K0 K:List Nd} {i t k i2 t2 k2:Nat} {b:Bool} (h:RdI s L who bw S0 T C v K0 i t k K b S)
  (hs:∀ (i' t' k':Nat) (o:Ob) (ty:Ty) (r:Rl),(i'<i2∨i'=i2∧(t'<t2∨t'=t2∧k'<k2))→T[i']?=some o→s[t']?=some ty→ty.name=o.ty→ty.rels[k']?=some r→getL (levF s) (t',k')=v→¬ (i'<i∨i'=i∧(t'<t∨t'=t∧k'<k))→q1v (envL s L who) (fun c=>decide (c∈K)) ⟨o,r.name⟩ r=true→(⟨o,r.name⟩:Nd)∈K):RdI s L who bw S0 T C v K0 i2 t2 k2 K b S:=by
 refine ⟨h.w,h.u,h.y,fun hb=>?_⟩
 obtain ⟨e,h1⟩:=h.n hb
 subst e
 refine ⟨rfl,fun i' t' k' o ty r hlt a1 a2 a3 a4 a5 a6=>?_⟩
 by_cases hq:i'<i∨i'=i∧(t'<t∨t'=t∧k'<k)
 ·exact h1 i' t' k' o ty r hq a1 a2 a3 a4 a5 a6
 ·exact hs i' t' k' o ty r hlt a1 a2 a3 a4 a5 hq a6
set_option maxRecDepth 4000
theorem LstW.appL {S0 S:q00} {t sz bytes:Nat} {v x:AV} {rows xs:List (List AV)} {K:AV→q00→Prop} (hs:Sub S0 S) (h:LstW S0 S t sz v rows) (hap:appX S sz x=some (xs.length,xs.flatten)) (hx:∀ r∈xs,r.length=sz) (ho:ones xs.flatten=true) (hb:(rows.length+xs.length) * bytes≤140737488355328)
  (hK:∀ v' S',Sub S0 S'→LstW S0 S' t sz v' (rows++xs)→(∀ c o,sget S c=some o→q0l v c→sget S' c=some o∧q0l v' c)→K v' S'):apW S t sz bytes v x K:=by
 refine ⟨xs.length,xs.flatten,hap,ho,?_⟩
 obtain ⟨hr,h⟩:=h
 have hall:∀ r∈rows++xs,r.length=sz:=fun r hm=>(List.mem_append.1 hm).elim (hr r) (hx r)
 have hfx:=q29 hx
 have hfr:=q29 hr
 have hfl:(rows++xs).flatten.length=(rows.length+xs.length) * sz:=by rw [q29 hall,List.length_append]
 rcases h with ⟨rfl,rfl⟩ | ⟨b,cap,cs,rfl,h1,h2,h3,h4,h5,h6⟩
 ·dsimp only
  simp only [List.length_nil,Nat.zero_add] at hb
  refine ⟨hb,?_⟩
  split
  ·rename_i h0
   have:xs=[]:=List.length_eq_zero_iff.1 h0
   subst this
   exact hK _ _ hs LstW.nil fun c o hc _=>⟨hc,fun b off n cap e=>by cases e⟩
  ·intro b cap hbn k1 k2
   have hb0:=Sub.none hs hbn
   refine hK _ _ (hs.supd hb0) ⟨hall,.inr ⟨b,cap,xs.flatten,by simp,hb0,by rw [q01,if_pos rfl],?_,by rw [List.nil_append,hfx];exact Nat.le_refl _,by simpa using k1,k2⟩⟩ fun c o hc _=>?_
   ·rw [List.nil_append,List.take_of_length_le (by rw [hfx];exact Nat.le_refl _)]
   ·have hne:b≠c:=q0h hbn hc
    exact ⟨by rw [q01,if_neg hne];exact hc,fun b' off n cap h=>by cases h;exact Ne.symm hne⟩
 ·refine ⟨_,h2,h5,h6,h4,hb,fun b' cap' k1 k2 k3=>?_⟩
  rw [h3]
  have hb0:sget S0 b'=none:=by
   rcases k1 with rfl | k1
   ·exact h1
   ·exact Sub.none hs k1
  have hsub:Sub S0 (supd (sdel S b) b' (.cells t (rows.flatten++xs.flatten) (cap' * sz))):=by
   refine Sub.supd hb0 fun c o hc=>?_
   have hne:b≠c:=by rintro rfl;rw [h1] at hc;cases hc
   rw [q0b,if_neg hne]
   exact hs c o hc
  refine hK _ _ hsub ⟨hall,.inr ⟨b',cap',rows.flatten++xs.flatten,by simp,hb0,by rw [q01,if_pos rfl],?_,?_,by simpa using k2,k3⟩⟩ fun c o hc ha=>?_
  ·rw [← List.flatten_append,List.take_of_length_le (by rw [hfl,List.length_append];exact Nat.le_refl _)]
  ·rw [← List.flatten_append,hfl,List.length_append];exact Nat.le_refl _
  ·have hcb:c≠b:=ha b 0 _ _ rfl
   have hcb':b'≠c:=by
    rcases k1 with rfl | k1
    ·exact Ne.symm hcb
    ·exact q0h k1 hc
   exact ⟨by rw [q01,if_neg hcb',q0b,if_neg (Ne.symm hcb)];exact hc,fun b'' off n cap h=>by cases h;exact Ne.symm hcb'⟩
theorem Fr.lst14 {S0 S:q00} {t sz:Nat} {v:AV} {rows:List (List AV)} (h:LstW S0 S t sz v rows):Fr S0 S v (.sl sz rows):=by
 obtain ⟨hr,⟨rfl,rfl⟩ | ⟨b,cap,cs,rfl,h1,h2,h3,h4,h5,h6⟩⟩:=h
 ·exact .nils sz
 ·exact .ownW t sz b _ cap rows cs hr h1 h2 h3 rfl h5
theorem appX_sl {S:q00} {sz:Nat} {xs:List (List AV)}:appX S sz (.sl sz xs)=some (xs.length,xs.flatten):=by simp [appX]
theorem idx_at {L:List Nd} {n:Nd} (h:n∈L):L[L.idxOf n]?=some n:=by
 have hlt:=List.idxOf_lt_length_iff.2 h
 rw [List.getElem?_eq_getElem hlt,List.getElem_idxOf hlt]
theorem exB_mono {E:q1f} (hE:OfOk E) {N:Nat} {K K':Nd→Bool} (h:∀ c,Low E.s N false c→K c=true→K' c=true) (hn:∀ c,Low E.s N true c→K c=K' c) (o:Ob) :
  ∀ (m:Nat) (e:Ex) (out:Bool),mayE m e=true→(∀ p∈q0s e out,∀ l∈q3t E.s o.ty p.1 p.2,getL (levF E.s) l.1+l.2.toNat≤N) →
   (out=false→exB E K o m e=true→exB E K' o m e=true)∧(out=true→exB E K o m e=exB E K' o m e)
 | 0,e,out,hm,hl=>by cases hm
 | m+1,.mk k n ov ks,out,hm,hl=>by
  have ih:=exB_mono hE h hn o m
  unfold mayE at hm
  unfold exB
  unfold q0s at hl
  by_cases k0:k=0
  ·simp only [if_pos k0] at hm ⊢
   rw [Bool.and_eq_true] at hm
   rw [if_pos hm.2] at hl
   have low:Low E.s N out ⟨o,n⟩:=by
    unfold Low lvN
    cases hq:q0o E.s o.ty n with
    | none=>exact .inl rfl
    | some p=>
     obtain ⟨i,j,r⟩:=p
     refine .inr (hl (.mk k n ov ks,out) (by simp) ((i,j),out) ?_)
     unfold q3t Ex.name
     simp only [hq]
     exact List.mem_cons_self
   exact ⟨fun ho=>by subst ho;exact h _ low,fun ho=>by subst ho;exact hn _ low⟩
  ·simp only [if_neg k0] at hm ⊢
   by_cases k1:k=1
   ·simp only [if_pos k1] at hm ⊢
    rw [Bool.and_eq_true,Bool.and_eq_true] at hm
    rw [if_pos hm.2.2] at hl
    have low:∀ x∈E.of ⟨o,n⟩,x.rl=⟨#[]⟩→Low E.s N out ⟨x.o,ov⟩:=by
     intro x hx hx0
     obtain ⟨i,j,r,h1,f,h2,h3,h4⟩:=hE.ok _ x hx
     unfold Low lvN
     cases hq:q0o E.s x.o.ty ov with
     | none=>exact .inl rfl
     | some p=>
      obtain ⟨i2,j2,r2⟩:=p
      refine .inr ?_
      simp only
      refine hl (.mk k n ov ks,out) (by simp) ((i2,j2),out) ?_
      unfold q3t Ex.name Ex.kind Ex.over
      simp only [show q0o E.s o.ty n=some (i,j,r) from h1,if_pos k1]
      refine List.mem_cons_of_mem _ (List.mem_map.2 ⟨(i2,j2),?_,rfl⟩)
      unfold q5f
      refine List.mem_filterMap.2 ⟨f,h2,?_⟩
      rw [if_pos (h4.symm.trans hx0),← h3,hq]
      rfl
    refine ⟨fun ho=>?_,fun ho=>?_⟩
    ·subst ho
     simp only [List.any_eq_true,Bool.and_eq_true,decide_eq_true_eq]
     rintro ⟨x,hx,h0,h1⟩
     exact ⟨x,hx,h0,h _ (low x hx h0) h1⟩
    ·subst ho
     rw [Bool.eq_iff_iff]
     simp only [List.any_eq_true,Bool.and_eq_true,decide_eq_true_eq]
     constructor
     ·rintro ⟨x,hx,h0,h1⟩;exact ⟨x,hx,h0,by rw [← hn _ (low x hx h0)];exact h1⟩
     ·rintro ⟨x,hx,h0,h1⟩;exact ⟨x,hx,h0,by rw [hn _ (low x hx h0)];exact h1⟩
   ·simp only [if_neg k1] at hm ⊢
    have k234:k=2∨k=3∨k=4:=by
     refine Classical.byContradiction fun hn=>?_
     rw [if_neg hn] at hm
     cases hm
    rw [if_pos k234] at hm
    obtain ⟨x1,x2,rfl⟩:∃ a b,ks=[a,b]:=by
     match ks,hm with
     | [a,b],_=>exact ⟨a,b,rfl⟩
     | [],hm=>cases hm
     | [_],hm=>cases hm
     | _ :: _ :: _ :: _,hm=>cases hm
    simp only [two,Bool.and_eq_true] at hm
    have hl':∀ p∈q0s x1 out++q0s x2 (out||decide (k=4)),∀ l∈q3t E.s o.ty p.1 p.2,getL (levF E.s) l.1+l.2.toNat≤N:=by
     intro p hp
     refine hl p ?_
     rw [if_neg (by simp)]
     simp only [q2i,List.append_nil]
     simpa using hp
    have ha:=ih x1 out hm.1 fun p hp=>hl' p (List.mem_append_left _ hp)
    have hb:=ih x2 (out||decide (k=4)) hm.2 fun p hp=>hl' p (List.mem_append_right _ hp)
    dsimp only
    generalize exB E K o m x1=A at ha ⊢
    generalize exB E K' o m x1=A' at ha ⊢
    generalize exB E K o m x2=B at hb ⊢
    generalize exB E K' o m x2=B' at hb ⊢
    rcases k234 with rfl | rfl | rfl<;>cases out<;>cases A<;>cases A'<;>cases B<;>cases B'<;>revert ha hb<;>decide
theorem body_mono {E:q1f} (hE:OfOk E) (hc:errA (chkF E.s)=0) {K K':Nd→Bool} {n:Nd} {i k:Nat} {r:Rl} (hf:q0o E.s n.o.ty n.rl=some (i,k,r)) (h:∀ c,Low E.s (lvN E.s n) false c→K c=true→K' c=true) (hn:∀ c,Low E.s (lvN E.s n) true c→K c=K' c) :
  q1v E K n r=true→q1v E K' n r=true:=by
 obtain ⟨ht0,ty,hty,-,hkr⟩:=q1u hf
 have hnm:ty.name=n.o.ty:=by
  obtain ⟨⟨x,hx,hp⟩,-⟩:=firstI_some.1 ht0
  rw [hty] at hx
  cases hx
  exact of_decide_eq_true hp
 have hst:=(q4v hc hty hkr).2
 have hlv:lvN E.s n=getL (levF E.s) (i,k):=by unfold lvN;rw [hf]
 rw [← hlv,hnm] at hst
 unfold q1v
 unfold q1j at hst
 by_cases h0:r.refs.length=0
 ·simp only [if_pos h0] at hst ⊢
  have hm:mayE 12 r.ex=true:=sc_may (q2u hc).may ty (List.mem_of_getElem? hty) r (List.mem_of_getElem? hkr) h0
  exact (exB_mono hE h hn n.o 12 r.ex false hm fun p hp l hl=>hst l (List.mem_flatMap.2 ⟨p,hp,hl⟩)).1 rfl
 ·simp only [if_neg h0] at hst ⊢
  have low:∀ x∈E.of n,x.rl≠⟨#[]⟩→K x=true→K' x=true:=by
   intro x hx hx0
   obtain ⟨i1,k1,r1,h1,f,h2,h3,h4⟩:=hE.ok _ x hx
   rw [hf] at h1
   cases h1
   refine h _ ?_
   unfold Low
   cases hq:q0o E.s x.o.ty x.rl with
   | none=>exact .inl rfl
   | some p=>
    obtain ⟨i2,j2,r2⟩:=p
    refine .inr ?_
    have:=hst ((i2,j2),false) (List.mem_filterMap.2 ⟨f,h2,by unfold q2p;rw [if_neg (by rw [← h4];exact hx0),← h3,← h4,hq];rfl⟩)
    unfold lvN at this ⊢
    rw [hq]
    exact this
  simp only [List.any_eq_true]
  rintro ⟨x,hx,hb⟩
  refine ⟨x,hx,?_⟩
  by_cases h0:x.rl=⟨#[]⟩
  ·rw [if_pos h0] at hb ⊢;exact hb
  ·rw [if_neg h0] at hb ⊢;exact low x hx h0 hb
theorem Mod.none {E:q1f} {L:List Nd} (h:Mod E L) {n:Nd} (hn:q0o E.s n.o.ty n.rl=Option.none):n ∉ L:=by
 intro hm
 obtain ⟨i,hi⟩:=List.getElem?_of_mem hm
 obtain ⟨j,k,r,h1,-⟩:=h.step i n hi
 rw [hn] at h1
 cases h1
theorem Mod.le {E:q1f} {L L':List Nd} (hE:OfOk E) (hc:errA (chkF E.s)=0) (h:Mod E L) (h':Mod E L') {v:Nat} (hv:∀ c,lvN E.s c<v→(c∈L↔c∈L')):∀ (i:Nat) (n:Nd),L.idxOf n=i→lvN E.s n=v→n∈L→n∈L':=by
 intro i
 induction i using Nat.strongRecOn with
 | ind i ih=>
  intro n hi hl hn
  obtain ⟨j,k,r,hf,hb⟩:=h.step _ n (idx_at hn)
  refine h'.closed n j k r hf (body_mono hE hc hf (fun c hlow hq=>?_) (fun c hlow=>?_) hb)
  ·rw [decide_eq_true_eq,q2m] at hq
   rw [decide_eq_true_eq]
   rcases hlow with h0 | h0
   ·exact absurd hq.1 (h.none h0)
   ·have h0:lvN E.s c≤lvN E.s n:=by simpa using h0
    rcases Nat.lt_or_eq_of_le h0 with h1 | h1
    ·exact (hv c (by omega)).1 hq.1
    ·exact ih _ (by omega) c rfl (by omega) hq.1
  ·rw [Bool.eq_iff_iff,decide_eq_true_eq,decide_eq_true_eq,q2m]
   rcases hlow with h0 | h0
   ·exact ⟨fun hq=>absurd hq.1 (h.none h0),fun hq=>absurd hq (h'.none h0)⟩
   ·have h0:lvN E.s c<lvN E.s n:=by simpa [Nat.lt_iff_add_one_le] using h0
    have hvc:=hv c (by omega)
    exact ⟨fun hq=>hvc.1 hq.1,fun hq=>⟨hvc.2 hq,h.lev c n (hvc.2 hq) hn h0⟩⟩
theorem Mod.uniq {E:q1f} {L L':List Nd} (hE:OfOk E) (hc:errA (chkF E.s)=0) (h:Mod E L) (h':Mod E L') (n:Nd):n∈L↔n∈L':=by
 have key:∀ (v:Nat) (n:Nd),lvN E.s n=v→(n∈L↔n∈L'):=by
  intro v
  induction v using Nat.strongRecOn with
  | ind v ih=>
   intro n hn
   have hv:∀ c,lvN E.s c<v→(c∈L↔c∈L'):=fun c hc=>ih _ hc c rfl
   exact ⟨Mod.le hE hc h h' hv _ n rfl hn,Mod.le hE hc h' h (fun c hc=>(hv c hc).symm) _ n rfl hn⟩
 exact key _ n rfl
noncomputable def inB (E:q1f) (n:Nd):Bool:=@decide (∃ K,Mod E K∧n∈K) (Classical.propDecidable _)
theorem inB_eq {E:q1f} {K:List Nd} (hE:OfOk E) (hc:errA (chkF E.s)=0) (h:Mod E K) (n:Nd):decide (n∈K)=inB E n:=by
 unfold inB
 rw [Bool.eq_iff_iff,decide_eq_true_eq]
 exact ⟨fun hn=>(@decide_eq_true_iff _ (Classical.propDecidable _)).2 ⟨K,h,hn⟩,fun hq=>by
  obtain ⟨K',h',hn⟩:=(@decide_eq_true_iff _ (Classical.propDecidable _)).1 hq
  exact (Mod.uniq hE hc h' h n).1 hn⟩
theorem in_body {E:q1f} {K:List Nd} (hE:OfOk E) (hc:errA (chkF E.s)=0) (h:Mod E K) {n:Nd} {i k:Nat} {r:Rl} (hf:q0o E.s n.o.ty n.rl=some (i,k,r)):decide (n∈K)=q1v E (fun c=>decide (c∈K)) n r:=by
 rw [Bool.eq_iff_iff,decide_eq_true_eq]
 refine ⟨fun hn=>?_,h.closed n _ _ _ hf⟩
 obtain ⟨j',k',r',hf',hb⟩:=h.step _ n (idx_at hn)
 rw [hf] at hf'
 cases hf'
 refine body_mono hE hc hf (fun c _ hq=>?_) (fun c hlow=>?_) hb
 ·rw [decide_eq_true_eq] at hq ⊢
  exact List.mem_of_mem_take hq
 ·rw [Bool.eq_iff_iff,decide_eq_true_eq,decide_eq_true_eq,q2m]
  refine ⟨fun hq=>hq.1,fun hq=>⟨hq,?_⟩⟩
  rcases hlow with h0 | h0
  ·exact absurd hq (h.none h0)
  ·have h0:lvN E.s c<lvN E.s n:=by simpa [Nat.lt_iff_add_one_le] using h0
   exact h.lev c n hq hn h0
mutual
def q61:Ex→Bool
 | .mk k _ _ ks=>decide (k=4)||outsL ks
def outsL:List Ex→Bool
 | []=>false
 | e :: r=>q61 e||outsL r
end
theorem exB_grow {E E':q1f} {K K':Nd→Bool} (ho:∀ n x,x∈E.of n→x∈E'.of n) (hk:∀ c,K c=true→K' c=true) (o:Ob) :
  ∀ (m:Nat) (e:Ex),q61 e=false→exB E K o m e=true→exB E' K' o m e=true
 | 0,e,_,h=>by cases h
 | m+1,.mk k n ov ks,h4,h=>by
  have ih:=exB_grow ho hk o m
  unfold exB at h ⊢
  unfold q61 at h4
  rw [Bool.or_eq_false_iff] at h4
  have k4:¬ k=4:=of_decide_eq_false h4.1
  by_cases k0:k=0
  ·rw [if_pos k0] at h ⊢
   exact hk _ h
  ·rw [if_neg k0] at h ⊢
   by_cases k1:k=1
   ·rw [if_pos k1] at h ⊢
    simp only [List.any_eq_true,Bool.and_eq_true] at h ⊢
    obtain ⟨x,hx,h0,h1⟩:=h
    exact ⟨x,ho _ x hx,h0,hk _ h1⟩
   ·rw [if_neg k1] at h ⊢
    match ks,h4.2,h with
    | [a,b],h5,h=>
     unfold outsL at h5
     unfold outsL at h5
     simp only [Bool.or_eq_false_iff] at h5
     dsimp only at h ⊢
     rw [if_neg k4] at h ⊢
     by_cases k2:k=2
     ·rw [if_pos k2,Bool.or_eq_true] at h ⊢
      exact h.imp (ih a h5.1) (ih b h5.2.1)
     ·rw [if_neg k2,Bool.and_eq_true] at h ⊢
      exact ⟨ih a h5.1 h.1,ih b h5.2.1 h.2⟩
    | [],_,h=>cases h
    | [_],_,h=>cases h
    | _ :: _ :: _ :: _,_,h=>cases h
theorem body_grow {E E':q1f} {K K':Nd→Bool} (hw:E.who=E'.who) (ho:∀ n x,x∈E.of n→x∈E'.of n) (hk:∀ c,K c=true→K' c=true) {n:Nd} {r:Rl} (h4:q61 r.ex=false) (h:q1v E K n r=true):q1v E' K' n r=true:=by
 unfold q1v at h ⊢
 by_cases h0:r.refs.length=0
 ·rw [if_pos h0] at h ⊢
  exact exB_grow ho hk _ _ _ h4 h
 ·rw [if_neg h0] at h ⊢
  rw [List.any_eq_true] at h ⊢
  obtain ⟨x,hx,h1⟩:=h
  refine ⟨x,ho _ x hx,?_⟩
  by_cases hr:x.rl=⟨#[]⟩
  ·rw [if_pos hr] at h1 ⊢;rw [← hw];exact h1
  ·rw [if_neg hr] at h1 ⊢;exact hk _ h1
theorem Mod.grow {E E':q1f} {L L':List Nd} (hs:E.s=E'.s) (hw:E.who=E'.who) (ho:∀ n x,x∈E.of n→x∈E'.of n) (hno:∀ t∈E.s,∀ r∈t.rels,q61 r.ex=false) (h:Mod E L) (h':Mod E' L') :
  ∀ (i:Nat) (n:Nd),L.idxOf n=i→n∈L→n∈L':=by
 intro i
 induction i using Nat.strongRecOn with
 | ind i ih=>
  intro n hi hn
  obtain ⟨j,k,r,hf,hb⟩:=h.step _ n (idx_at hn)
  have hf':=hf
  rw [hs] at hf'
  obtain ⟨-,ty,hty,-,hkr⟩:=q1u hf
  refine h'.closed n j k r hf' (body_grow hw ho (fun c hq=>?_) (hno ty (List.mem_of_getElem? hty) r (List.mem_of_getElem? hkr)) hb)
  rw [decide_eq_true_eq,q2m] at hq
  rw [decide_eq_true_eq]
  exact ih _ (by omega) c rfl hq.1
theorem inB_grow {s:List Ty} {l more:List Tu} {who:Ob} (hno:∀ t∈s,∀ r∈t.rels,q61 r.ex=false) (hc:errA (chkF s)=0) {K K':List Nd} (h:Mod (envE s l who) K) (h':Mod (envE s (l++more) who) K') {n:Nd} (hn:n∈K):n∈K':=by
 refine Mod.grow (E:=envE s l who) (E':=envE s (l++more) who) rfl rfl (fun n x hx=>?_) hno h h' _ n rfl hn
 show x∈(ofF (q18 s (l++more)) n).map Tu.s
 have hx:x∈(ofF (q18 s l) n).map Tu.s:=hx
 unfold ofF q18 at hx ⊢
 rw [List.filter_append,List.filter_append,List.map_append]
 exact List.mem_append_left _ hx
set_option maxRecDepth 4000
abbrev tyGw:Nat:=186
def gwC (bo br bk:Nat) (who:Ob):List AV:=[.map (some bo),.map (some br),.map (some bk),.str who.ty,.str who.id]
structure GW (E:q1f) (bw bo br bk:Nat) (K:List Nd) (S:q00):Prop where
 c:q0f S bw=some (tyGw,gwC bo br bk E.who,5)
 of:KMap MD ndA S bo (fun n=>ofA (E.of n))
 kn:KMap MD ndA S bk (fun n=>if n∈K then some (.bool true) else none)
 len:∀ n,(E.of n).length≤1125899906842624
theorem q4w {K:List Nd} {n:Nd}:q1q false (.bool false) (if n∈K then some (.bool true) else none)=.bool (decide (n∈K)):=by
 by_cases h:n∈K
 ·rw [if_pos h,decide_eq_true h];rfl
 ·rw [if_neg h,decide_eq_false h];rfl
theorem foldE_pure {p:Nd→Bool}:∀ {xs:List Nd} {w:Nat},q4f (fun w x=>some (p x,w)) xs w=some (xs.any p,w)
 | [],w=>rfl
 | x :: r,w=>by
  rw [foldE_cons,List.any_cons]
  cases h:p x
  ·dsimp only
   rw [foldE_pure,Bool.false_or]
  ·rfl
theorem q4n {xs:List Nd} {g:Nat} {fi ca:List AV} {p:Nd→Bool} {S:q00} (hb:xs.length≤1125899906842624) (hp:∀ x∈xs,AFunS PG g (fi++[.agg (ndC x)]++ca) S (.bool (p x))) :
  AFunS PG nrx147 [q1q false .nils (ofA xs),.func (.func g) fi ca] S (.bool (xs.any p)):=by
 have q:=q7i (pv:=.nils) (X:=fun _=>False) (St:=fun _ S'=>S'=S) (step:=fun w x=>some (p x,w)) hb (fun x hx w S' hS=>by subst hS;exact hp x hx) (w:=0) rfl
 rw [foldE_pure] at q
 exact q
section
variable {E:q1f} {bw bo br bk:Nat} {K:List Nd} {S:q00}
theorem c_gholds_1 (h:GW E bw bo br bk K S) (x:Nd) (k n:AV) (ov:ByteArray) (ks:AV):AFunS PG nrx211 ([]++[.agg (ndC x)]++[.rop [.ptr bw 0],.rop [k,n,.str ov,ks]]) S (.bool (decide (x.rl=⟨#[]⟩)&&decide ((⟨x.o,ov⟩:Nd)∈K))):=by
 have hc:=q07 h.c
 refine wx211 ?_
 unfold Bx211
 (try simp only [rwp,zA,zB,zC,zD,zE,zF,zG,zH,zI,rwb,reduceIte,ndC])
 cases a1:decide (x.rl=⟨#[]⟩)
 ·(try simp only [rwp,zA,zB,zC,zD,zE,zF,zG,zH,zI,rwb,reduceIte])
  exact q03 ⟨rfl,rfl⟩
 ·(try simp only [rwp,zA,zB,zC,zD,zE,zF,zG,zH,zI,rwb,reduceIte,hc,gwC])
  have q:=fun K' hk=>h.kn.lki (ok:=false) (z:=.bool false) (K:=K') ke_nd ⟨x.o,ov⟩ hk
  simp only [ndA,ndC] at q
  refine q _ ?_
  rw [q4w]
  (try simp only [rwp,zA,zB,zC,zD,zE,zF,zG,zH,zI,rwb,reduceIte])
  exact q03 ⟨rfl,rfl⟩
theorem c_gholds (h:GW E bw bo br bk K S) (o:Ob):∀ (m:Nat) (e:Ex),mayE m e=true→AFunS PG nrx192 [.ptr bw 0,.agg (obC o),.agg (exC e)] S (.bool (exB E (fun c=>decide (c∈K)) o m e))
 | 0,e,hm=>by cases hm
 | m+1,.mk k n ov ks,hm=>by
  have ih:=c_gholds h o m
  have hc:=q07 h.c
  refine wx192 ?_
  unfold Bx192 exB
  unfold mayE at hm
  (try simp only [rwp,zA,zB,zC,zD,zE,zF,zG,zH,zI,rwb,reduceIte,obC,q0d,Ex.kind,Ex.name,Ex.over,Ex.kids])
  (refine q04 (fun k0=>?_) (fun k0=>?_)<;>(try simp only [hlc] at k0))
  ·rw [if_pos k0]
   (try simp only [rwp,zA,zB,zC,zD,zE,zF,zG,zH,zI,rwb,reduceIte,hc,gwC])
   have q:=fun K' hk=>h.kn.lki (ok:=false) (z:=.bool false) (K:=K') ke_nd ⟨o,n⟩ hk
   simp only [ndA,ndC] at q
   refine q _ ?_
   rw [q4w]
   exact q03 ⟨rfl,rfl⟩
  ·rw [if_neg k0] at hm ⊢
   (refine q04 (fun k1=>?_) (fun k1=>?_)<;>(try simp only [hlc] at k1))
   ·rw [if_pos k1]
    (try simp only [rwp,zA,zB,zC,zD,zE,zF,zG,zH,zI,rwb,reduceIte,hc,gwC])
    have q:=fun K' hk=>h.of.lki (ok:=false) (z:=.nils) (K:=K') ke_nd ⟨o,n⟩ hk
    simp only [ndA,ndC] at q
    refine q _ ?_
    refine q1a (q4n (h.len _) fun x hx=>c_gholds_1 h x _ _ ov _) ?_
    exact q03 ⟨rfl,rfl⟩
   ·rw [if_neg k1] at hm ⊢
    have k234:k=2∨k=3∨k=4:=by
     refine Classical.byContradiction fun hn=>?_
     rw [if_neg hn] at hm
     cases hm
    rw [if_pos k234] at hm
    obtain ⟨a,b,rfl⟩:∃ a b,ks=[a,b]:=by
     match ks,hm with
     | [a,b],_=>exact ⟨a,b,rfl⟩
     | [],hm=>cases hm
     | [_],hm=>cases hm
     | _ :: _ :: _ :: _,hm=>cases hm
    simp only [two,Bool.and_eq_true] at hm
    have ha:=ih a hm.1
    have hb:=ih b hm.2
    dsimp only
    generalize exB E (fun c=>decide (c∈K)) o m a=va at ha ⊢
    generalize exB E (fun c=>decide (c∈K)) o m b=vb at hb ⊢
    obtain ⟨ka,na,oa,ksa⟩:=a
    obtain ⟨kb,nb,ob,ksb⟩:=b
    simp only [obC,q0d,Ex.kind,Ex.name,Ex.over,Ex.kids] at ha hb
    rcases k234 with rfl | rfl | rfl<;>(try simp only [rwp,zA,zB,zC,zD,zE,zF,zG,zH,zI,rwb,reduceIte,Int.reduceEq,q0d,Ex.kind,Ex.name,Ex.over,Ex.kids,List.getElem?_cons_zero,List.getElem?_cons_succ,Option.map_some,List.map_cons])<;>refine q1a ha ?_<;>cases va<;>(try simp only [rwp,zA,zB,zC,zD,zE,zF,zG,zH,zI,rwb,reduceIte,q0d,Ex.kind,Ex.name,Ex.over,Ex.kids,List.getElem?_cons_zero,List.getElem?_cons_succ,Option.map_some,List.map_cons])<;>first
     | exact q03 ⟨rfl,rfl⟩
     | (refine q1a hb ?_;cases vb<;>(try simp only [rwp,zA,zB,zC,zD,zE,zF,zG,zH,zI,rwb,reduceIte])<;>exact q03 ⟨rfl,rfl⟩)
theorem c_gstands_1 (h:GW E bw bo br bk K S) (x:Nd):AFunS PG nrx193 ([]++[.agg (ndC x)]++[.rop [.ptr bw 0]]) S (.bool (if x.rl=⟨#[]⟩ then decide (x.o=E.who) else decide (x∈K))):=by
 have hc:=q07 h.c
 have eo:decide (x.o=E.who)=(decide (x.o.ty=E.who.ty)&&decide (x.o.id=E.who.id)):=by
  rw [Bool.eq_iff_iff]
  cases x.o;cases E.who
  simp
 refine wx193 ?_
 unfold Bx193
 (try simp only [rwp,zA,zB,zC,zD,zE,zF,zG,zH,zI,rwb,reduceIte,ndC])
 cases a1:decide (x.rl=⟨#[]⟩)
 ·have a1':=of_decide_eq_false a1
  rw [if_neg a1']
  (try simp only [rwp,zA,zB,zC,zD,zE,zF,zG,zH,zI,rwb,reduceIte,C193_1,C193_2,a1,hc,gwC])
  have q:=fun K' hk=>h.kn.lki (ok:=false) (z:=.bool false) (K:=K') ke_nd x hk
  simp only [ndA,ndC] at q
  refine q _ ?_
  rw [q4w]
  (try simp only [rwp,zA,zB,zC,zD,zE,zF,zG,zH,zI,rwb,reduceIte,C193_3])
  exact q03 ⟨rfl,rfl⟩
 ·have a1':=of_decide_eq_true a1
  rw [if_pos a1',eo]
  (try simp only [rwp,zA,zB,zC,zD,zE,zF,zG,zH,zI,rwb,reduceIte,hc,gwC])
  cases a2:(decide (x.o.ty=E.who.ty)&&decide (x.o.id=E.who.id))<;>(try simp only [rwp,zA,zB,zC,zD,zE,zF,zG,zH,zI,rwb,reduceIte,C193_1,C193_2,C193_3,a1])<;>exact q03 ⟨rfl,rfl⟩
theorem c_gstands (h:GW E bw bo br bk K S) (n:Nd) (r:Rl) (hn:r.name=n.rl) (hm:r.refs.length=0→mayE 12 r.ex=true):AFunS PG nrx154 [.ptr bw 0,.agg (obC n.o),.agg (rlC r)] S (.bool (q1v E (fun c=>decide (c∈K)) n r)):=by
 have hc:=q07 h.c
 refine wx154 ?_
 unfold Bx154 q1v
 (try simp only [rwp,zA,zB,zC,zD,zE,zF,zG,zH,zI,rwb,reduceIte,obC,q0u,hn])
 cases a1:decide ((r.refs.length:Int)=0)
 ·have h0:¬ r.refs.length=0:=by have:=of_decide_eq_false a1;omega
  rw [if_neg h0]
  (try simp only [rwp,zA,zB,zC,zD,zE,zF,zG,zH,zI,rwb,reduceIte,hc,gwC])
  have q:=fun K' hk=>h.of.lki (ok:=false) (z:=.nils) (K:=K') ke_nd n hk
  simp only [ndA,ndC] at q
  refine q _ ?_
  refine q1a (q4n (h.len _) fun x hx=>c_gstands_1 h x) ?_
  exact q03 ⟨rfl,rfl⟩
 ·have h0:r.refs.length=0:=by have:=of_decide_eq_true a1;omega
  rw [if_pos h0]
  have q:=c_gholds h n.o 12 r.ex (hm h0)
  generalize r.ex=e at q ⊢
  obtain ⟨ka,na,oa,ksa⟩:=e
  simp only [obC,q0d,Ex.kind,Ex.name,Ex.over,Ex.kids] at q ⊢
  (try simp only [rwp,zA,zB,zC,zD,zE,zF,zG,zH,zI,rwb,reduceIte])
  refine q1a q ?_
  exact q03 ⟨rfl,rfl⟩
end
set_option maxRecDepth 4000
def relsA (s:List Ty) (nm:ByteArray):Option AV:=match typF s nm with
 | none=>none
 | some i=>(s[i]?).map fun t=>.sl 6 (t.rels.map rlC)
def levsA (s:List Ty) (nm:ByteArray):Option AV:=match typF s nm with
 | none=>none
 | some i=>((levF s)[i]?).map fun l=>.sl 1 (l.map fun x=>[iv x])
theorem c_gknown_1 {s:List Ty} {S:q00} {bl bc i k x v:Nat} {mst:Int} {nm:ByteArray} {l:List Nat} (h1:KMap MS AV.str S bl (levsA s)) (h2:q1y S bc=some [.int .i64 v]) (ht:typF s nm=some i) (hl:(levF s)[i]?=some l) (hx:l[k]?=some x) :
  AFunS PG nrx111 ([]++[.str nm,.int .i64 k]++[.rop [.map (some bl),.int .i64 mst],.ptr bc 0]) S (.bool (decide (x=v))):=by
 refine wx111 ?_
 unfold Bx111
 (try simp only [rwp,zA,zB,zC,zD,zE,zF,zG,zH,zI,rwb,reduceIte])
 refine h1.lki q2e nm ?_
 have e:levsA s nm=some (.sl 1 (l.map fun x=>[iv x])):=by unfold levsA;rw [ht];simp [hl]
 rw [e]
 (try simp only [rwp,zA,zB,zC,zD,zE,zF,zG,zH,zI,rwb,reduceIte,q1q,h2,List.getElem?_map,hx,iv])
 exact q03 ⟨by simp only [Int.ofNat_inj],rfl⟩
structure KN (bk:Nat) (K:List Nd) (es:List (AV×AV×Nat)) (clk:Nat) (S:q00):Prop where
 map:sget S bk=some (.map MD es clk)
 key:∀ x∈es,∃ n,x.1=ndA n
 nd:(es.map fun x=>x.2.2).Nodup
 lt:∀ x∈es,x.2.2<clk
 get:∀ n,mget es (ndA n)=if n∈K then some (.bool true) else none
theorem KN.push {bk:Nat} {K:List Nd} {es:List (AV×AV×Nat)} {clk:Nat} {S:q00} (h:KN bk K es clk S) {n:Nd} (hn:n ∉ K) {KT:q00→Prop}
  (hK:∀ es' clk',KN bk (K++[n]) es' clk' (supd S bk (.map MD es' clk'))→KT (supd S bk (.map MD es' clk'))) :
  meW S MD (.bool false) (.map (some bk)) (ndA n) fun v S=>exW 1 v fun v62=>mtW S (.map (some bk)) v62 (.bool true) KT:=by
 have hq:mget es (ndA n)=none:=by rw [h.get,if_neg hn]
 have hm:=mfind_none hq
 refine ⟨bk,es,clk,rfl,h.map,ke_nd.ok n,?_⟩
 rw [hm]
 dsimp only
 rw [q8j,q50]
 have hnd:((es++[(ndA n,AV.bool false,clk)]).map fun x=>x.2.2).Nodup:=by
  rw [List.map_append,List.nodup_append]
  refine ⟨h.nd,by simp,fun a ha b hb=>?_⟩
  obtain ⟨x,hx,rfl⟩:=List.mem_map.1 ha
  have:=h.lt x hx
  simp at hb
  omega
 have hset:(mset es (ndA n) (.bool true) clk)=(es++[(ndA n,.bool true,clk)],clk+1):=by unfold mset;rw [hm]
 refine ⟨bk,MD,es++[(ndA n,.bool false,clk)],clk+1,es.length,ndA n,.bool false,clk,rfl,by rw [q01,if_pos rfl],rfl,q78 hnd (x:=(ndA n,.bool false,clk)) (by simp) rfl,by simp,?_⟩
 have e:(es++[(ndA n,AV.bool false,clk)]).set es.length (ndA n,.bool true,clk)=es++[(ndA n,.bool true,clk)]:=by simp
 rw [e]
 have e2:supd (supd S bk (.map MD (es++[(ndA n,.bool false,clk)]) (clk+1))) bk (.map MD (es++[(ndA n,.bool true,clk)]) (clk+1))=supd S bk (.map MD (es++[(ndA n,.bool true,clk)]) (clk+1)):=by
  funext c
  unfold supd
  split<;>rfl
 rw [e2]
 refine hK _ _ ⟨by rw [q01,if_pos rfl],fun x hx=>?_,by simpa using hnd,fun x hx=>?_,fun m=>?_⟩
 ·rcases List.mem_append.1 hx with hx | hx
  ·exact h.key x hx
  ·rw [List.mem_singleton.1 hx];exact ⟨n,rfl⟩
 ·rcases List.mem_append.1 hx with hx | hx
  ·have:=h.lt x hx;omega
  ·rw [List.mem_singleton.1 hx];exact Nat.lt_succ_self _
 ·have:=mget_mset (es:=es) (n:=n) (m:=m) (v:=.bool true) (clk:=clk) h.key
  rw [hset] at this
  rw [this,h.get]
  by_cases hmn:m=n
  ·subst hmn;simp
  ·rw [if_neg hmn]
   simp [List.mem_append,hmn]
abbrev MO:Bool×List EK:=(true,[.str,.str])
def obA (o:Ob):AV:=.agg (obC o)
theorem ke_ob:KE MO obA:=⟨fun n=>by simp [obA,obC,q0m,q11,ekOk],fun n m h=>by
 obtain ⟨a,b⟩:=n
 obtain ⟨d,e⟩:=m
 simp only [obA,obC,AV.agg.injEq,List.cons.injEq,AV.str.injEq,and_true] at h
 obtain ⟨rfl,rfl⟩:=h
 rfl⟩
section
variable {S0 S S':q00} {t bo:Nat} {Ks Ks':Nat→Prop} {f:Nd→List (List AV)} {es:List (AV×AV×Nat)} {clk:Nat}
theorem OfM.other (h:OfM S0 S t bo Ks f es clk) {v v':AV} (hv:∀ b off n cap,v=.own b off n cap→Ks b) (hk:∀ c o,sget S c=some o→q0l v c→sget S' c=some o∧q0l v' c)
  (hK:∀ c,Ks' c→Ks c∨∃ off n cap,v'=.own c off n cap) (hs:∀ c,Ks' c→c≠bo∧sget S' c≠none):OfM S0 S' t bo Ks' f es clk:=by
 have asd:∀ n u,mget es (ndA n)=some u→∀ b off k cap,u=.own b off k cap→q0l v b:=by
  intro n u hu b off k cap e b' off' k' cap' e'
  exact Ne.symm ((h.yes n u hu).2.2.2 b' (hv _ _ _ _ e') b off k cap e)
 have lst:∀ n u,mget es (ndA n)=some u→∀ b off k cap,u=.own b off k cap→∃ o,sget S b=some o∧sget S' b=some o∧q0l v' b:=by
  intro n u hu b off k cap e
  subst e
  obtain ⟨-,⟨hr,hl⟩,-,-⟩:=h.yes n _ hu
  rcases hl with ⟨e,-⟩ | ⟨b1,cap1,e,q1,q2,q3⟩
  ·cases e
  ·cases e
   exact ⟨_,q2,hk b _ q2 (asd n _ hu b _ _ _ rfl)⟩
 have hbo:q0l v bo:=fun b off n cap e=>Ne.symm (h.ks b (hv _ _ _ _ e)).1
 refine ⟨(hk bo _ h.map hbo).1,h.b0,h.key,h.nd,h.ku,h.lt,h.no,fun n u hu=>?_,h.apart,hs⟩
 obtain ⟨k1,⟨hr,hl⟩,k3,k4⟩:=h.yes n u hu
 refine ⟨k1,⟨hr,?_⟩,k3,fun c hc=>?_⟩
 ·rcases hl with hl | ⟨b,cap,rfl,q1,q2,q3⟩
  ·exact .inl hl
  ·obtain ⟨o,o1,o2,o3⟩:=lst n _ hu b _ _ _ rfl
   rw [q2] at o1
   cases o1
   exact .inr ⟨b,cap,rfl,q1,o2,q3⟩
 ·rcases hK c hc with hc | ⟨off,m,cap,rfl⟩
  ·exact k4 c hc
  ·intro b off' k cap' e
   obtain ⟨o,o1,o2,o3⟩:=lst n u hu b _ _ _ e
   exact Ne.symm (o3 c _ _ _ rfl)
theorem OfM.supd (h:OfM S0 S t bo Ks f es clk) {c:Nat} (hc:Ks c) (o:AObj):OfM S0 (supd S c o) t bo Ks f es clk:=by
 refine h.other (v:=.own c 0 0 0) (v':=.nils) (fun b off n cap e=>by cases e;exact hc) (fun b x hb ha=>⟨?_,fun _ _ _ _ e=>by cases e⟩) (fun b hb=>.inl hb) fun b hb=>⟨(h.ks b hb).1,?_⟩
 ·rw [q01,if_neg (Ne.symm (ha c 0 0 0 rfl))]
  exact hb
 ·rw [q01]
  split
  ·simp
  ·exact (h.ks b hb).2
theorem OfM.more (h:OfM S0 S t bo Ks f es clk) (hs:Sub S S') (hK:∀ c,Ks' c→Ks c∨sget S c=none) (hc:∀ c,Ks' c→c≠bo∧sget S' c≠none):OfM S0 S' t bo Ks' f es clk:=by
 refine ⟨hs _ _ h.map,h.b0,h.key,h.nd,h.ku,h.lt,h.no,fun n u hu=>?_,h.apart,hc⟩
 obtain ⟨k1,k2,k3,k4⟩:=h.yes n u hu
 refine ⟨k1,k2.sub hs,k3,fun c hc=>?_⟩
 rcases hK c hc with hc | hc
 ·exact k4 c hc
 ·intro b off k cap e
  subst e
  obtain ⟨hr,⟨e,-⟩ | ⟨b1,cap1,e,q1,q2,-⟩⟩:=k2
  ·cases e
  ·cases e
   rintro rfl
   rw [q2] at hc
   cases hc
theorem OfM.nil {bo:Nat} (hb:sget S0 bo=none) (hs:sget S bo=some (.map MD [] 0)) (hK:∀ c,Ks c→c≠bo∧sget S c≠none):OfM S0 S t bo Ks (fun _=>[]) [] 0:=
 ⟨hs,hb,fun x hx=>(by cases hx),by simp,fun i j x y hx=>by simp at hx,fun x hx=>(by cases hx),fun m _=>rfl,fun m v hv=>(by cases hv),fun m p v u _ hv=>(by cases hv),hK⟩
end
set_option maxRecDepth 4000
structure GS (E:q1f) (S0:q00) (bw bo br bk bl:Nat) (K:List Nd) (S:q00):Prop where
 w:q0f S bw=some (tyGw,gwC bo br bk E.who,5)
 of:KMap MD ndA S bo (fun n=>ofA (E.of n))
 rl:KMap MS AV.str S br (relsA E.s)
 lv:KMap MS AV.str S bl (levsA E.s)
 kn:∃ es clk,KN bk K es clk S
 nw:bk≠bw
 no:bk≠bo
 nr:bk≠br
 nl:bk≠bl
 len:∀ n,(E.of n).length≤1125899906842624
 sub:Sub S0 S
 nb:sget S0 bk=none
section
variable {E:q1f} {S0 S:q00} {bw bo br bk bl:Nat} {K K':List Nd}
theorem KN.kmap {es:List (AV×AV×Nat)} {clk:Nat} (h:KN bk K es clk S):KMap MD ndA S bk (fun n=>if n∈K then some (.bool true) else none):=
 ⟨es,clk,mapObj_some.2 h.map,fun x hx=>by obtain ⟨n,e⟩:=h.key x hx;rw [e];exact ke_nd.ok n,h.get⟩
theorem GS.gw (h:GS E S0 bw bo br bk bl K S):GW E bw bo br bk K S:=by
 obtain ⟨es,clk,hk⟩:=h.kn
 exact ⟨h.w,h.of,hk.kmap,h.len⟩
theorem GS.set (h:GS E S0 bw bo br bk bl K S) {es:List (AV×AV×Nat)} {clk:Nat} (hk:KN bk K' es clk (supd S bk (.map MD es clk))):GS E S0 bw bo br bk bl K' (supd S bk (.map MD es clk)):=
 ⟨by rw [q0e h.nw];exact h.w,h.of.upd h.no _,h.rl.upd h.nr _,h.lv.upd h.nl _,⟨es,clk,hk⟩,h.nw,h.no,h.nr,h.nl,h.len,Sub.supd h.nb h.sub,h.nb⟩
theorem GS.kb (h:GS E S0 bw bo br bk bl K S):sget S bk≠none:=by
 obtain ⟨es,clk,hk⟩:=h.kn
 rw [hk.map]
 simp
theorem GS.fresh (h:GS E S0 bw bo br bk bl K S) {c:Nat} (hc:sget S c=none) (o:AObj):GS E S0 bw bo br bk bl K (supd S c o):=by
 obtain ⟨es,clk,hk⟩:=h.kn
 have hcw:c≠bw:=fun e=>q64 h.w (e ▸ hc)
 have hck:c≠bk:=fun e=>h.kb (e ▸ hc)
 exact ⟨by rw [q0e hcw];exact h.w,h.of.fresh hc _,h.rl.fresh hc _,h.lv.fresh hc _,⟨es,clk,⟨by rw [q01,if_neg hck];exact hk.map,hk.key,hk.nd,hk.lt,hk.get⟩⟩,h.nw,h.no,h.nr,h.nl,h.len,Sub.supd (Sub.none h.sub hc) h.sub,h.nb⟩
end
structure RdG (s:List Ty) (L:List Tu) (who:Ob) (T:List Ob) (v:Nat) (K0:List Nd) (i k:Nat) (K:List Nd) (b:Bool):Prop where
 u:Upto (envL s L who) (q49 s T) v K
 y:b=true→K0.length<K.length
 n:b=false→K=K0∧∀ (i' k':Nat) (o:Ob) (t:Nat) (ty:Ty) (r:Rl),(i'<i∨i'=i∧k'<k)→T[i']?=some o→typF s o.ty=some t→s[t]?=some ty→ty.rels[k']?=some r→getL (levF s) (t,k')=v→q1v (envL s L who) (fun c=>decide (c∈K0)) ⟨o,r.name⟩ r=true→(⟨o,r.name⟩:Nd)∈K0
theorem RdG.skip {s:List Ty} {L:List Tu} {who:Ob} {T:List Ob} {v:Nat} {K0 K:List Nd} {i k i2 k2:Nat} {b:Bool} (h:RdG s L who T v K0 i k K b)
  (hs:∀ (i' k':Nat) (o:Ob) (t:Nat) (ty:Ty) (r:Rl),(i'<i2∨i'=i2∧k'<k2)→T[i']?=some o→typF s o.ty=some t→s[t]?=some ty→ty.rels[k']?=some r→getL (levF s) (t,k')=v→¬ (i'<i∨i'=i∧k'<k)→q1v (envL s L who) (fun c=>decide (c∈K)) ⟨o,r.name⟩ r=true→(⟨o,r.name⟩:Nd)∈K):RdG s L who T v K0 i2 k2 K b:=by
 refine ⟨h.u,h.y,fun hb=>?_⟩
 obtain ⟨e,h1⟩:=h.n hb
 subst e
 refine ⟨rfl,fun i' k' o t ty r hlt a1 a2 a3 a4 a5 a6=>?_⟩
 by_cases hq:i'<i∨i'=i∧k'<k
 ·exact h1 i' k' o t ty r hq a1 a2 a3 a4 a5 a6
 ·exact hs i' k' o t ty r hlt a1 a2 a3 a4 a5 hq a6
theorem c_gsettle {s:List Ty} {L:List Tu} {who:Ob} (R:Rnd s L who) {S0 S:q00} {bw bo br bk bl bc:Nat} {K:List Nd} {T:List Ob} {v:Nat} {mst:Int} (h:GS (envL s L who) S0 bw bo br bk bl K S) (hb:sget S bc=some (.cells 3 [.int .i64 v] 1)) (hne:bk≠bc)
  (hu:Upto (envL s L who) (q49 s T) v K) (hlT:T.length≤1000000) :
  ACalls PG nrx110 [.ptr bw 0,.sl 2 (T.map obC),.func (.func nrx111) [] [.rop [.map (some bl),.int .i64 mst],.ptr bc 0]] S fun ae S'=>ae=.ret (.tup [])∧∃ K',GS (envL s L who) S0 bw bo br bk bl K' S'∧sget S' bc=sget S bc∧Upto (envL s L who) (q49 s T) v K' ∧
   ∀ n j k r,q0o s n.o.ty n.rl=some (j,k,r)→lvN s n=v→n.o∈T→q1v (envL s L who) (fun c=>decide (c∈K')) n r=true→n∈K':=by
 have hst:=R.os.types
 have hcl0:q1y S bc=some [.int .i64 v]:=q07 (objAt_some.2 hb)
 generalize hF:AV.func (.func nrx111) [] [.rop [.map (some bl),.int .i64 mst],.ptr bc 0]=F
 refine wx110 ?_
 unfold Bx110
 refine LoopP.introS (fun x:Bool×Nat=>[(0,.ptr bw 0),(1,.sl 2 (T.map obC)),(2,F),(6,.bool x.1)])
  (fun x S'=>∃ K',GS (envL s L who) S0 bw bo br bk bl K' S'∧sget S' bc=sget S bc∧Upto (envL s L who) (q49 s T) v K'∧x.2=K'.length∧(x.1=false→∀ n j k r,q0o s n.o.ty n.rl=some (j,k,r)→lvN s n=v→n.o∈T→q1v (envL s L who) (fun c=>decide (c∈K')) n r=true→n∈K'))
  (fun x=>2 * ((q49 s T).length-x.2)+(if x.1 then 1 else 0)) (true,K.length) ⟨K,h,rfl,hu,rfl,fun e=>by cases e⟩ rfl ?_
 rintro ⟨more,kl⟩ S1 ⟨K1,g1,b1,u1,rfl,cl1⟩ kk hkk
 dsimp only at cl1 ⊢
 cases more
 ·(try simp only [rwp,zA,zB,zC,zD,zE,zF,zG,zH,zI,rwb,reduceIte,C110_1])
  exact q3d ⟨rfl,K1,g1,b1,u1,cl1 rfl⟩
 ·(try simp only [rwp,zA,zB,zC,zD,zE,zF,zG,zH,zI,rwb,reduceIte,C110_1])
  clear cl1
  refine LoopP.introS (fun x:Nat×Bool=>[(0,.ptr bw 0),(1,.sl 2 (T.map obC)),(2,F),(6,.bool x.2),(13,.sl 2 (T.map obC)),(14,.int .i64 T.length),(15,.int .i64 x.1)])
   (fun x S'=>x.1≤T.length∧sget S' bc=sget S bc∧∃ K',GS (envL s L who) S0 bw bo br bk bl K' S'∧RdG s L who T v K1 x.1 0 K' x.2) (fun x=>T.length-x.1) (0,false)
   ⟨by omega,b1,K1,g1,u1,fun e=>(by cases e),fun _=>⟨rfl,fun i' k' o t ty r hq=>by omega⟩⟩ rfl ?_
  rintro ⟨i,b⟩ S2 ⟨hi,b2,K2,g2,r2⟩ kk1 hkk1
  dsimp only at hi r2 ⊢
  (try simp only [rwp,zA,zB,zC,zD,zE,zF,zG,zH,zI,rwb,reduceIte,C110_2])
  (refine q04 (fun hlti=>?_) (fun hlti=>?_)<;>(try simp only [hlc] at hlti))
  ·obtain ⟨o,hoT⟩:=q0t hlti
   have hc2:=q07 g2.w
   (try simp only [rwp,zA,zB,zC,zD,zE,zF,zG,zH,zI,rwb,reduceIte,List.getElem?_map,hoT,obC,hc2,gwC])
   refine g2.rl.lki q2e o.ty ?_
   have ho:o∈T:=List.mem_of_getElem? hoT
   have next:∀ (b3:Bool) (S3:q00) (K3:List Nd),sget S3 bc=sget S bc→GS (envL s L who) S0 bw bo br bk bl K3 S3→RdG s L who T v K1 (i+1) 0 K3 b3→rcW kk1 [(0,.ptr bw 0),(1,.sl 2 (T.map obC)),(2,F),(6,.bool b3),(13,.sl 2 (T.map obC)),(14,.int .i64 T.length),(15,.int .i64 (IntKind.i64.wrap (↑i+1)))] S3:=by
    intro b3 S3 K3 h1 h2 h3
    (simp (disch:=omega) only [q08])
    exact q0a rfl (hkk1 (i+1,b3) _ ⟨by dsimp only;omega,h1,K3,h2,h3⟩ (by dsimp only;omega))
   show _
   cases ht:typF s o.ty with
   | none=>
    have e:relsA (envL s L who).s o.ty=none:=by unfold relsA;rw [show (envL s L who).s=s from rfl,ht]
    rw [e]
    (try simp only [rwp,zA,zB,zC,zD,zE,zF,zG,zH,zI,rwb,reduceIte,q1q])
    refine LoopP.introS (fun _:Unit=>[(0,.ptr bw 0),(1,.sl 2 (T.map obC)),(2,F),(6,.bool b),(8,.rop [.str o.ty,.str o.id]),(13,.sl 2 (T.map obC)),(14,.int .i64 T.length),(15,.int .i64 i),(25,.nils),(26,.int .i64 0),(27,.int .i64 0)]) (fun _ S'=>S'=S2) (fun _=>0) () rfl rfl ?_
    rintro _ S' rfl kk2 hkk2
    (try simp only [rwp,zA,zB,zC,zD,zE,zF,zG,zH,zI,rwb,reduceIte,C110_3])
    refine q36 (next b _ K2 b2 g2 (r2.skip fun i' k' o' t ty r hq a1 a2 a3 a4 a5 a6 a7=>?_))
    exfalso
    have e1:i'=i:=by omega
    subst e1
    rw [hoT] at a1
    cases a1
    rw [ht] at a2
    cases a2
   | some t=>
    obtain ⟨⟨ty,hty,hnm⟩,-⟩:=firstI_some.1 ht
    have hnm:ty.name=o.ty:=of_decide_eq_true hnm
    have e:relsA (envL s L who).s o.ty=some (.sl 6 (ty.rels.map rlC)):=by unfold relsA;rw [show (envL s L who).s=s from rfl,ht];simp [hty]
    rw [e]
    (try simp only [rwp,zA,zB,zC,zD,zE,zF,zG,zH,zI,rwb,reduceIte,q1q,List.length_map])
    have hbr:=(R.os.at hty).rels
    refine LoopP.introS (fun x:Nat×Bool=>[(0,.ptr bw 0),(1,.sl 2 (T.map obC)),(2,F),(6,.bool x.2),(8,.rop [.str o.ty,.str o.id]),(13,.sl 2 (T.map obC)),(14,.int .i64 T.length),(15,.int .i64 i),(25,.sl 6 (ty.rels.map rlC)),(26,.int .i64 ty.rels.length),(27,.int .i64 x.1)])
     (fun x S'=>x.1≤ty.rels.length∧sget S' bc=sget S bc∧∃ K',GS (envL s L who) S0 bw bo br bk bl K' S'∧RdG s L who T v K1 i x.1 K' x.2) (fun x=>ty.rels.length-x.1) (0,b) ⟨by omega,b2,K2,g2,r2⟩ rfl ?_
    rintro ⟨k,b'⟩ S3 ⟨hk,b3,K3,g3,r3⟩ kk2 hkk2
    dsimp only at hk r3 ⊢
    (try simp only [rwp,zA,zB,zC,zD,zE,zF,zG,zH,zI,rwb,reduceIte,C110_3])
    (refine q04 (fun hltk=>?_) (fun hltk=>?_)<;>(try simp only [hlc] at hltk))
    ·obtain ⟨r,hr⟩:=q0t hltk
     have hf:q0o s o.ty r.name=some (t,k,r):=by rw [← hnm];exact good_find (q2u R.c) hty hr
     have hlvn:lvN s ⟨o,r.name⟩=getL (levF s) (t,k):=by unfold lvN;rw [hf]
     obtain ⟨lv,hl1,hl2⟩:=shp_row (q72 s) hty
     obtain ⟨x,hx⟩:∃ x,lv[k]?=some x:=⟨_,List.getElem?_eq_getElem (by omega)⟩
     have hgl:getL (levF s) (t,k)=x:=by unfold getL;simp [hl1,hx]
     (try simp only [rwp,zA,zB,zC,zD,zE,zF,zG,zH,zI,rwb,reduceIte,List.getElem?_map,hr,q0u])
     refine alst rfl ?_
     (try simp only [rwp,zA,zB,zC,zD,zE,zF,zG,zH,zI,rwb,reduceIte,hnm])
     have q0:=c_gknown_1 (mst:=mst) (k:=k) g3.lv (q07 (objAt_some.2 (b3.trans hb))) ht hl1 hx
     rw [← hF]
     refine caW_atv q0 ?_
     rw [hF]
     have go:∀ {S4:q00} {b4:Bool} {K4:List Nd},sget S4 bc=sget S bc→GS (envL s L who) S0 bw bo br bk bl K4 S4→RdG s L who T v K1 i (k+1) K4 b4→rcW kk2 [(0,.ptr bw 0),(1,.sl 2 (T.map obC)),(2,F),(6,.bool b4),(8,.rop [.str o.ty,.str o.id]),(13,.sl 2 (T.map obC)),(14,.int .i64 T.length),(15,.int .i64 i),(25,.sl 6 (ty.rels.map rlC)),(26,.int .i64 ty.rels.length),(27,.int .i64 (IntKind.i64.wrap (↑k+1)))] S4:=by
      intro S4 b4 K4 h1 h2 h3
      (simp (disch:=omega) only [q08])
      exact q0a rfl (hkk2 (k+1,b4) _ ⟨by dsimp only;omega,h1,K4,h2,h3⟩ (by dsimp only;omega))
     have nx:(q1v (envL s L who) (fun c=>decide (c∈K3)) ⟨o,r.name⟩ r=true→x=v→(⟨o,r.name⟩:Nd)∈K3)→RdG s L who T v K1 i (k+1) K3 b':=fun hq=>r3.skip fun i' k' o' t' ty' r' hlt a1 a2 a3 a4 a5 a6 a7=>by
      have e1:i'=i:=by omega
      have e3:k'=k:=by omega
      subst e1 e3
      rw [hoT] at a1
      cases a1
      rw [ht] at a2
      cases a2
      rw [hty] at a3
      cases a3
      rw [hr] at a4
      cases a4
      exact hq a7 (by rw [← hgl];exact a5)
     cases g5:decide (x=v)
     ·(try simp only [rwp,zA,zB,zC,zD,zE,zF,zG,zH,zI,rwb,reduceIte,C110_4,C110_5,C110_6])
      exact go b3 g3 (nx fun _ e=>absurd e (of_decide_eq_false g5))
     ·have hc3:=q07 g3.w
      (try simp only [rwp,zA,zB,zC,zD,zE,zF,zG,zH,zI,rwb,reduceIte,hc3,gwC])
      have q:=fun K' hk=>g3.gw.kn.lki (ok:=false) (z:=.bool false) (K:=K') ke_nd ⟨o,r.name⟩ hk
      simp only [ndA,ndC] at q
      refine q _ ?_
      rw [q4w]
      cases g6:decide ((⟨o,r.name⟩:Nd)∈K3)
      ·have q2:=c_gstands g3.gw ⟨o,r.name⟩ r rfl (fun h0=>sc_may (q2u R.c).may ty (List.mem_of_getElem? hty) r (List.mem_of_getElem? hr) h0)
       simp only [obC,q0u] at q2
       (try simp only [rwp,zA,zB,zC,zD,zE,zF,zG,zH,zI,rwb,reduceIte,C110_4])
       refine q1a q2 ?_
       cases g7:q1v (envL s L who) (fun c=>decide (c∈K3)) ⟨o,r.name⟩ r
       ·(try simp only [rwp,zA,zB,zC,zD,zE,zF,zG,zH,zI,rwb,reduceIte,C110_5,C110_6])
        exact go b3 g3 (nx fun h=>by rw [g7] at h;cases h)
       ·have hn:(⟨o,r.name⟩:Nd) ∉ K3:=of_decide_eq_false g6
        have hu4:=r3.u.snoc R.e R.c (n:=⟨o,r.name⟩) hf (by show lvN s ⟨o,r.name⟩=v;rw [hlvn,hgl];exact of_decide_eq_true g5) hn (mem_nodes hf ho) g7
        obtain ⟨es,clk,hkn⟩:=g3.kn
        (try simp only [rwp,zA,zB,zC,zD,zE,zF,zG,zH,zI,rwb,reduceIte,C110_5,hc3,gwC])
        refine hkn.push (n:=⟨o,r.name⟩) hn fun es' clk' hk4=>?_
        (try simp only [rwp,zA,zB,zC,zD,zE,zF,zG,zH,zI,rwb,reduceIte,C110_6])
        refine go (b4:=true) (by rw [q01,if_neg hne];exact b3) (g3.set hk4) ⟨hu4,fun _=>?_,fun h=>by cases h⟩
        rw [List.length_append,List.length_singleton]
        cases b' with
        | true=>have:=r3.y rfl;omega
        | false=>rw [(r3.n rfl).1];omega
      ·(try simp only [rwp,zA,zB,zC,zD,zE,zF,zG,zH,zI,rwb,reduceIte,C110_4,C110_5,C110_6])
       exact go b3 g3 (nx fun _ _=>of_decide_eq_true g6)
    ·(try simp only [rwp,zA,zB,zC,zD,zE,zF,zG,zH,zI,rwb,reduceIte])
     refine next b' S3 K3 b3 g3 (r3.skip fun i' k' o' t' ty' r' hq a1 a2 a3 a4 a5 a6 a7=>?_)
     exfalso
     have e1:i'=i:=by omega
     subst e1
     rw [hoT] at a1
     cases a1
     rw [ht] at a2
     cases a2
     rw [hty] at a3
     cases a3
     have:=(List.getElem?_eq_some_iff.1 a4).1
     omega
  ·(try simp only [rwp,zA,zB,zC,zD,zE,zF,zG,zH,zI,rwb,reduceIte])
   refine q0a rfl (hkk (b,K2.length) _ ⟨K2,g2,b2,r2.u,rfl,fun hbf=>?_⟩ ?_)
   ·dsimp only at hbf
    obtain ⟨e,hq⟩:=r2.n hbf
    subst e
    intro n j k r hf hl hT hbd
    obtain ⟨a,ha⟩:=List.getElem?_of_mem hT
    obtain ⟨ht0,ty,hty,hrl,hkr⟩:=q1u hf
    have hrn:r.name=n.rl:=by
     obtain ⟨⟨x,hx,hp⟩,-⟩:=firstI_some.1 hrl
     rw [hkr] at hx
     cases hx
     exact of_decide_eq_true hp
    have hlv:getL (levF s) (j,k)=v:=by rw [← hl];unfold lvN;rw [hf]
    have hlt2:=(List.getElem?_eq_some_iff.1 ha).1
    have:=hq a k n.o j ty r (.inl (by omega)) ha ht0 hty hkr hlv (by rw [hrn];exact hbd)
    rw [hrn] at this
    exact this
   ·have hn2:=nd_len r2.u.nd r2.u.sub
    dsimp only
    cases b with
    | false=>rw [(r2.n rfl).1];simp
    | true=>have:=r2.y rfl;simp;omega
set_option maxRecDepth 4000
def levsI (s:List Ty) (i:Nat) (nm:ByteArray):Option AV:=match typF s nm with
 | none=>none
 | some j=>if j<i then ((levF s)[j]?).map fun l=>.sl 1 (l.map fun x=>[iv x]) else none
def relsI (s:List Ty) (i:Nat) (nm:ByteArray):Option AV:=match typF s nm with
 | none=>none
 | some j=>if j<i then (s[j]?).map fun t=>.sl 6 (t.rels.map rlC) else none
theorem levsI_all (s:List Ty) (nm:ByteArray):levsI s s.length nm=levsA s nm:=by
 unfold levsI levsA
 cases h:typF s nm with
 | none=>rfl
 | some j=>
  obtain ⟨⟨t,ht,-⟩,-⟩:=firstI_some.1 h
  have:=(List.getElem?_eq_some_iff.1 ht).1
  simp [this]
theorem relsI_all (s:List Ty) (nm:ByteArray):relsI s s.length nm=relsA s nm:=by
 unfold relsI relsA
 cases h:typF s nm with
 | none=>rfl
 | some j=>
  obtain ⟨⟨t,ht,-⟩,-⟩:=firstI_some.1 h
  have:=(List.getElem?_eq_some_iff.1 ht).1
  simp [this]
theorem levsI_succ {s:List Ty} (hg:GoodS s) {i:Nat} {t:Ty} {l:List Nat} (ht:s[i]?=some t) (hl:(levF s)[i]?=some l) (nm:ByteArray):@ite (Option AV) (nm=t.name) (Classical.propDecidable (nm=t.name)) (some (.sl 1 (l.map fun x=>[iv x]))) (levsI s i nm)=levsI s (i+1) nm:=by
 have hi:=good_typ hg ht
 by_cases h:nm=t.name
 ·subst h
  rw [if_pos rfl]
  unfold levsI
  rw [hi]
  simp [hl]
 ·rw [if_neg h]
  unfold levsI
  cases hq:typF s nm with
  | none=>rfl
  | some j=>
   have hj:j≠i:=by
    rintro rfl
    obtain ⟨⟨x,hx,hp⟩,-⟩:=firstI_some.1 hq
    rw [ht] at hx
    cases hx
    exact h (of_decide_eq_true hp).symm
   dsimp only
   by_cases h1:j<i
   ·rw [if_pos h1,if_pos (by omega)]
   ·rw [if_neg h1,if_neg (by omega)]
theorem relsI_succ {s:List Ty} (hg:GoodS s) {i:Nat} {t:Ty} (ht:s[i]?=some t) (nm:ByteArray):@ite (Option AV) (nm=t.name) (Classical.propDecidable (nm=t.name)) (some (.sl 6 (t.rels.map rlC))) (relsI s i nm)=relsI s (i+1) nm:=by
 have hi:=good_typ hg ht
 by_cases h:nm=t.name
 ·subst h
  rw [if_pos rfl]
  unfold relsI
  rw [hi]
  simp [ht]
 ·rw [if_neg h]
  unfold relsI
  cases hq:typF s nm with
  | none=>rfl
  | some j=>
   have hj:j≠i:=by
    rintro rfl
    obtain ⟨⟨x,hx,hp⟩,-⟩:=firstI_some.1 hq
    rw [ht] at hx
    cases hx
    exact h (of_decide_eq_true hp).symm
   dsimp only
   by_cases h1:j<i
   ·rw [if_pos h1,if_pos (by omega)]
   ·rw [if_neg h1,if_neg (by omega)]
abbrev tyRk:Nat:=189
structure RkI (s:List Ty) (S:q00) (b4 bm b5:Nat) (i:Nat) (m:Nat) (S':q00):Prop where
 sub:Sub S S'
 c4:q0f S' b4=some (tyRk,[.map none,.int .i64 0],2)
 c5:q0f S' b5=some (tyRk,[.map (some bm),.int .i64 m],2)
 mp:KMap MS AV.str S' bm (levsI s i)
 le:m≤q0p s
 up:∀ (j k x:Nat) (l:List Nat),j<i→(levF s)[j]?=some l→l[k]?=some x→x≤m
theorem c_grank {s:List Ty} (hs:OkS s) (hc:errA (chkF s)=0) (S:q00) :
  ACalls PG nrx109 [scA s,.sl 1 (lvC (levF s))] S fun ae S'=>∃ bl m:Nat,ae=.ret (.agg [.map (some bl),.int .i64 m])∧Sub S S'∧sget S bl=none∧KMap MS AV.str S' bl (levsA s)∧m≤q0p s∧∀ (j k x:Nat) (l:List Nat),(levF s)[j]?=some l→l[k]?=some x→x≤m:=by
 have hg:=q2u hc
 have hmany:=hg.many
 have hst:=hs.types
 have hll:=shp_len (q72 s)
 refine wx109 ?_
 unfold Bx109
 (try simp only [rwp,zA,zB,zC,zD,zE,zF,zG,zH,zI,rwb,reduceIte,scA])
 intro b4 hb4 bm hbm
 obtain ⟨dm4,hbm'⟩:=frsh hbm
 (try simp only [rwp,zA,zB,zC,zD,zE,zF,zG,zH,zI,rwb,reduceIte])
 intro b5 hb5
 obtain ⟨d5m,hb5'⟩:=frsh hb5
 obtain ⟨d54,hb5'⟩:=frsh hb5'
 (try simp only [rwp,zA,zB,zC,zD,zE,zF,zG,zH,zI,rwb,reduceIte,List.length_map])
 generalize hS3:supd _ b5 _=S3
 have h4:q0f S3 b4=some (tyRk,[.map none,.int .i64 0],2):=by rw [← hS3];(try simp only [rwp,zA,zB,zC,zD,zE,zF,zG,zH,zI,rwb,reduceIte,Ne.symm d54,Ne.symm dm4,d54,dm4])
 have h5:q0f S3 b5=some (tyRk,[.map (some bm),.int .i64 0],2):=by rw [← hS3];(try simp only [rwp,zA,zB,zC,zD,zE,zF,zG,zH,zI,rwb,reduceIte])
 have hm:KMap MS AV.str S3 bm (levsI s 0):=by
  refine ⟨[],0,mapObj_some.2 (by rw [← hS3];rw [q01,if_neg d5m,q01,if_pos rfl]),fun x hx=>(by cases hx),fun k=>?_⟩
  rw [q4t]
  unfold levsI
  cases typF s k with
  | none=>rfl
  | some j=>simp
 have hsub:Sub S S3:=by rw [← hS3];first | exact Sub.supd hb5' (Sub.supd hb5' (Sub.supd hbm' (Sub.supd hb4 (Sub.refl _)))) | exact Sub.supd hb5' (Sub.supd hbm' (Sub.supd hb4 (Sub.refl _)))
 clear hS3
 refine LoopP.introS (fun i:Nat=>[(1,.sl 1 (lvC (levF s))),(4,.ptr b4 0),(5,.ptr b5 0),(13,.sl 2 (s.map tyC)),(14,.int .i64 s.length),(15,.int .i64 i)])
  (fun i S'=>i≤s.length∧∃ m,RkI s S b4 bm b5 i m S') (fun i=>s.length-i) 0 ⟨by omega,0,hsub,h4,h5,hm,Nat.zero_le _,fun j k x l hj=>by omega⟩ rfl ?_
 rintro i S1 ⟨hi,m,r1⟩ kk hkk
 (try simp only [rwp,zA,zB,zC,zD,zE,zF,zG,zH,zI,rwb,reduceIte,C109_1])
 (refine q04 (fun hlt=>?_) (fun hlt=>?_)<;>(try simp only [hlc] at hlt))
 ·obtain ⟨t,ht⟩:=q0t hlt
  obtain ⟨l,hl1,hl2⟩:=shp_row (q72 s) ht
  have hcl:(lvC (levF s))[i]?=some [.sl 1 (l.map fun x=>[iv x])]:=by rw [lvC,List.getElem?_map,hl1];rfl
  have hc5:=q07 r1.c5
  (try simp only [rwp,zA,zB,zC,zD,zE,zF,zG,zH,zI,rwb,reduceIte,List.getElem?_map,ht,tyC])
  refine alst rfl ?_
  (try simp only [rwp,zA,zB,zC,zD,zE,zF,zG,zH,zI,rwb,reduceIte,hc5,hcl])
  refine r1.mp.mu q2e t.name fun es clk hk=>?_
  have hne5:bm≠b5:=by rintro rfl;have h1:=objAt_some.1 r1.c5;obtain ⟨es,clk,h2,-⟩:=r1.mp;rw [mapObj_some.1 h2] at h1;cases h1
  have hne4:bm≠b4:=by rintro rfl;have h1:=objAt_some.1 r1.c4;obtain ⟨es,clk,h2,-⟩:=r1.mp;rw [mapObj_some.1 h2] at h1;cases h1
  have hne45:b5≠b4:=d54
  have r2:∃ m',RkI s S b4 bm b5 i m' (supd S1 bm (.map MS es clk))∨True:=⟨m,.inr trivial⟩
  have hsub1:Sub S (supd S1 bm (.map MS es clk)):=Sub.supd hbm' r1.sub
  have c41:q0f (supd S1 bm (.map MS es clk)) b4=some (tyRk,[.map none,.int .i64 0],2):=by rw [q0e hne4];exact r1.c4
  have c51:q0f (supd S1 bm (.map MS es clk)) b5=some (tyRk,[.map (some bm),.int .i64 m],2):=by rw [q0e hne5];exact r1.c5
  have mp1:=hk.cong (levsI_succ hg ht hl1)
  generalize supd S1 bm (.map MS es clk)=S2 at hsub1 c41 c51 mp1 ⊢
  (try simp only [rwp,zA,zB,zC,zD,zE,zF,zG,zH,zI,rwb,reduceIte,hcl,List.length_map])
  refine LoopP.introS (fun x:Nat=>[(1,.sl 1 (lvC (levF s))),(4,.ptr b4 0),(5,.ptr b5 0),(13,.sl 2 (s.map tyC)),(14,.int .i64 s.length),(15,.int .i64 i),(31,.sl 1 (l.map fun x=>[iv x])),(32,.int .i64 l.length),(33,.int .i64 x)])
   (fun x S'=>x≤l.length∧∃ m':Nat,Sub S S'∧q0f S' b4=some (tyRk,[.map none,.int .i64 0],2)∧q0f S' b5=some (tyRk,[.map (some bm),.int .i64 m'],2)∧KMap MS AV.str S' bm (levsI s (i+1))∧m≤m'∧m'≤q0p s∧∀ (k y:Nat),k<x→l[k]?=some y→y≤m') (fun x=>l.length-x) 0
   ⟨by omega,m,hsub1,c41,c51,mp1,Nat.le_refl _,r1.le,fun k y hk=>by omega⟩ rfl ?_
  rintro x S3 ⟨hx,m',k1,k2,k3,k4,k5,k6,k7⟩ kk2 hkk2
  (try simp only [rwp,zA,zB,zC,zD,zE,zF,zG,zH,zI,rwb,reduceIte,C109_2])
  (refine q04 (fun hltx=>?_) (fun hltx=>?_)<;>(try simp only [hlc] at hltx))
  ·obtain ⟨y,hy⟩:=q0t hltx
   have hyb:y≤q0p s:=by
    obtain ⟨r,hr⟩:∃ r,t.rels[x]?=some r:=⟨_,List.getElem?_eq_getElem (by omega)⟩
    have:=(q4v hc ht hr).1
    unfold getL at this
    simpa [hl1,hy] using this
   have hc3:=q07 k3
   (try simp only [rwp,zA,zB,zC,zD,zE,zF,zG,zH,zI,rwb,reduceIte,List.getElem?_map,hy,iv,hc3,k3])
   have hrl:=(hs.at ht).rels
   (simp (disch:=omega) only [q08])
   have e:(if (m':Int)<y then (y:Int) else (m':Int))=((max m' y:Nat):Int):=by
    split<;>omega
   rw [e]
   refine q0a rfl (hkk2 (x+1) _ ⟨by omega,max m' y,Sub.supd hb5' k1,by rw [q0e hne45];exact k2,q0g,k4.upd (Ne.symm hne5) _,by omega,by omega,fun k z hk hz=>?_⟩ (by omega))
   rcases Nat.lt_succ_iff_lt_or_eq.1 hk with h1 | rfl
   ·exact Nat.le_trans (k7 k z h1 hz) (Nat.le_max_left _ _)
   ·rw [hy] at hz;cases hz;exact Nat.le_max_right _ _
  ·(try simp only [rwp,zA,zB,zC,zD,zE,zF,zG,zH,zI,rwb,reduceIte])
   (simp (disch:=omega) only [q08])
   refine q0a rfl (hkk (i+1) _ ⟨by omega,m',k1,k2,k3,k4,k6,fun j k z l' hj hl' hz=>?_⟩ (by omega))
   rcases Nat.lt_succ_iff_lt_or_eq.1 hj with h1 | rfl
   ·exact Nat.le_trans (r1.up j k z l' h1 hl' hz) k5
   ·rw [hl1] at hl'
    cases hl'
    have hk:=(List.getElem?_eq_some_iff.1 hz).1
    exact k7 k z (by omega) hz
 ·have e:i=s.length:=by omega
  subst e
  have hc5:=q07 r1.c5
  have o4:=r1.c4
  (try simp only [rwp,zA,zB,zC,zD,zE,zF,zG,zH,zI,rwb,reduceIte,hc5,o4])
  have mp2:=r1.mp.cong (levsI_all s)
  have hne4:bm≠b4:=dm4
  refine q1h (sdel S1 b4) ?_ ?_
  ·intro c o hc
   rw [q0b] at hc
   split at hc
   ·cases hc
   ·rename_i hn
    rw [q0b,if_neg hn,q01,if_neg hn]
    exact hc
  ·refine ⟨bm,m,rfl,fun c o hc=>?_,hbm',?_,r1.le,fun j k x l hl hx=>?_⟩
   ·rw [q0b,if_neg (q0h hb4 hc)]
    exact r1.sub c o hc
   ·obtain ⟨es,clk,h1,h2,h3⟩:=mp2
    exact ⟨es,clk,mapObj_some.2 (by rw [q0b,if_neg (Ne.symm hne4)];exact mapObj_some.1 h1),h2,h3⟩
   ·have:=(List.getElem?_eq_some_iff.1 hl).1
    exact r1.up j k x l (by omega) hl hx
set_option maxRecDepth 4000
theorem Upto.next {s:List Ty} {L:List Tu} {who:Ob} {T:List Ob} {v:Nat} {K:List Nd} (h:Upto (envL s L who) (q49 s T) v K) (hT:∀ n x,x∈(envL s L who).of n→n.o∈T)
  (hcl:∀ n j k r,q0o s n.o.ty n.rl=some (j,k,r)→lvN s n=v→n.o∈T→q1v (envL s L who) (fun c=>decide (c∈K)) n r=true→n∈K):Upto (envL s L who) (q49 s T) (v+1) K:=by
 have hT':∀ n∈K,n.o∈T:=by
  intro n hn
  have:=h.sub n hn
  obtain ⟨o,ho,hq⟩:=List.mem_flatMap.1 this
  obtain ⟨t,-,hq⟩:=List.mem_flatMap.1 hq
  obtain ⟨r,-,rfl⟩:=List.mem_map.1 hq
  exact ho
 refine ⟨h.nd,h.sub,h.step,h.srt,fun n hn=>Nat.le_succ_of_le (h.top n hn),fun n j k r hf hlt hb=>?_⟩
 rcases Nat.lt_succ_iff_lt_or_eq.1 hlt with h1 | h1
 ·exact h.closed n j k r hf h1 hb
 ·exact hcl n j k r hf h1 (body_thing hT (fun c hc=>hT' c (of_decide_eq_true hc)) hb) hb
structure P14 (s:List Ty) (L:List Tu) (who:Ob) (bw:Nat) (S0:q00) (T:List Ob) (S:q00):Prop where
 ex:∃ tv,q0f S bw=some (tyW14,wC s L tv who .nils,6)∧LstW S0 S tyOb 2 tv (T.map obC)∧q0l tv bw
 sub:Sub S0 S
 nb:sget S0 bw=none
theorem P14.w {s:List Ty} {L:List Tu} {who:Ob} {bw:Nat} {S0 S:q00} {T:List Ob} (h:P14 s L who bw S0 T S) (hl:T.length≤1000000):W14 s L who bw S0 T [] S:=by
 obtain ⟨tv,h1,h2,h3⟩:=h.ex
 exact ⟨⟨tv,.nils,h1,h2,LstW.nil,h3,fun b off n cap e=>(by cases e),fun _ _ _ _ _ b off n cap e=>(by cases e)⟩,h.sub,h.nb,by simp,hl⟩
theorem P14.add {s:List Ty} {L:List Tu} {who:Ob} {bw:Nat} {S0 S:q00} {T:List Ob} {tv:AV} (hnb:sget S0 bw=none) (hs:Sub S0 S) (h1:q0f S bw=some (tyW14,wC s L tv who .nils,6)) (h2:LstW S0 S tyOb 2 tv (T.map obC)) (h3:q0l tv bw) (hl:T.length≤1000000) (o:Ob) {K:AV→q00→Prop} {Qp:AV→q00→Prop}
  (hK:∀ tv' S',q0f S' bw=some (tyW14,wC s L tv who .nils,6)→one tv'=true→P14 s L who bw S0 (addT T o) (supd S' bw (.cells tyW14 (wC s L tv' who .nils) 6))→K tv' S'):caW PG S (.func (.func nrx106) [] []) [tv,.agg (obC o)] K Qp:=by
 refine q10 (c_add14 hs h2 hl o) ?_
 rintro ae S' ⟨tv',rfl,k1,k2,k3⟩
 obtain ⟨i1,i2⟩:=k3 bw _ (objAt_some.1 h1) h3
 exact hK tv' S' (objAt_some.2 i1) k1.one ⟨⟨tv',q0g,k1.upd i2 _,i2⟩,Sub.supd hnb k2,hnb⟩
theorem addT_len {T:List Ob} {o:Ob}:(addT T o).length≤T.length+1:=by
 unfold addT
 split<;>simp
theorem addT_mem {T:List Ob} {o x:Ob}:x∈addT T o↔x∈T∨x=o:=by
 unfold addT
 split
 ·rename_i h
  exact ⟨.inl,fun hq=>hq.elim id fun e=>by rw [e];exact h⟩
 ·rw [List.mem_append,List.mem_singleton]
set_option maxRecDepth 4000
theorem Fr.lstW {S0 S:q00} {t sz:Nat} {v:AV} {rows:List (List AV)} (h:LstW S0 S t sz v rows):Fr S0 S v (.sl sz rows):=by
 obtain ⟨hr,⟨rfl,rfl⟩ | ⟨b,cap,cs,rfl,h1,h2,h3,h4,h5,h6⟩⟩:=h
 ·exact .nils sz
 ·exact .ownW t sz b _ cap rows cs hr h1 h2 h3 rfl h5
theorem LstN.keepAt {S0 S S':q00} {t sz:Nat} {v:AV} {rows:List (List AV)} (h:LstN S0 S t sz v rows) (hk:∀ b off n cap,v=.own b off n cap→sget S' b=sget S b):LstN S0 S' t sz v rows:=by
 obtain ⟨hr,h⟩:=h
 refine ⟨hr,?_⟩
 rcases h with h | ⟨b,cap,rfl,h1,h2,h3⟩
 ·exact .inl h
 ·exact .inr ⟨b,cap,rfl,h1,by rw [hk b _ _ _ rfl];exact h2,h3⟩
def ofL (L:List Tu) (n:Nd):List (List AV):=((ofF L n).map Tu.s).map ndC
theorem ofL_take {L:List Tu} {i:Nat} {t:Tu} (h:L[i]?=some t) (n:Nd):ofL (L.take (i+1)) n=ofL (L.take i) n++if n=ndT t then [ndC t.s] else []:=by
 unfold ofL ofF
 rw [q3z h,List.map_append,List.map_append]
 congr 1
 by_cases h2:n=ndT t
 ·rw [if_pos h2]
  subst h2
  simp [ndT]
 ·rw [if_neg h2]
  have:(decide (t.o=n.o)&&decide (t.rl=n.rl))=false:=by
   rw [Bool.eq_false_iff]
   intro hq
   simp only [Bool.and_eq_true,decide_eq_true_eq] at hq
   refine h2 ?_
   cases n
   simp only [ndT,Nd.mk.injEq]
   exact ⟨hq.1.symm,hq.2.symm⟩
  simp [this]
theorem ofL_len {L:List Tu} {i:Nat} {n:Nd}:(ofL (L.take i) n).length≤i:=by
 unfold ofL ofF
 rw [List.length_map,List.length_map]
 exact Nat.le_trans (List.length_filter_le _ _) (List.length_take_le _ _)
abbrev KsG (bw br bk bh:Nat) (tv:AV) (c:Nat):Prop:=c=bw∨c=br∨c=bk∨c=bh∨∃ off n cap,tv=.own c off n cap
structure KnI (s:List Ty) (who:Ob) (S:q00) (bw bo br bk bh:Nat) (f:Nd→List (List AV)) (tv:AV) (T:List Ob) (S':q00):Prop where
 sub:Sub S S'
 w:q0f S' bw=some (tyGw,gwC bo br bk who,5)
 rl:KMap MS AV.str S' br (relsA s)
 kn:sget S' bk=some (.map MD [] 0)
 of:∃ es clk,OfM S S' 39 bo (KsG bw br bk bh tv) f es clk
 tl:LstN S S' tyOb 2 tv (T.map obC)
 ta:∀ c,(c=bw∨c=br∨c=bk∨c=bh∨c=bo)→q0l tv c
 hd:KMap MO obA S' bh (fun x=>if x∈T then some (.bool true) else none)
 nh:sget S bh=none
 dh:bh≠bw∧bh≠br∧bh≠bk
theorem KMap.at {κ:Type} {M:Bool×List EK} {enc:κ→AV} {S S':q00} {b:Nat} {f:κ→Option AV} (h:KMap M enc S b f) (e:sget S' b=sget S b):KMap M enc S' b f:=by
 obtain ⟨es,clk,h1,h2,h3⟩:=h
 exact ⟨es,clk,mapObj_some.2 (e.trans (mapObj_some.1 h1)),h2,h3⟩
section
variable {s:List Ty} {who:Ob} {S S':q00} {bw bo br bk bh:Nat} {f:Nd→List (List AV)} {tv:AV} {T:List Ob}
theorem KnI.add (h:KnI s who S bw bo br bk bh f tv T S') (hT:T.length≤100000) (x:Ob) {K:AV→q00→Prop} (hK:∀ tv' S2,KnI s who S bw bo br bk bh f tv' (addT T x) S2→K tv' S2) :
  lkW S' MO false (.bool false) (.map (some bh)) (.agg (obC x)) fun v84=>ntW v84 fun v85=>cnW v85 (muW S' MO (.map (some bh)) (.agg (obC x)) (.bool true) fun S2=>apW S2 tyOb 2 32 tv (.sl 2 [obC x]) K) (K tv S'):=by
 refine h.hd.lki ke_ob x ?_
 by_cases hx:x∈T
 ·rw [if_pos hx]
  refine q36 (hK tv S' ?_)
  rw [addT,if_pos hx]
  exact h
 ·rw [if_neg hx]
  show cnW (.bool true) _ _
  refine ⟨fun _=>?_,fun e=>by cases e⟩
  refine h.hd.mu ke_ob x fun es clk hd2=>?_
  obtain ⟨es1,clk1,hof⟩:=h.of
  have hof2:=hof.supd (c:=bh) (.inr (.inr (.inr (.inl rfl)))) (.map MO es clk)
  have hsub2:Sub S (supd S' bh (.map MO es clk)):=Sub.supd h.nh h.sub
  have tl2:=h.tl.upd (c:=bh) (h.ta bh (by simp)) (.map MO es clk)
  have hbo:bh≠bo:=(hof.ks bh (.inr (.inr (.inr (.inl rfl))))).1
  have w2:sget (supd S' bh (.map MO es clk)) bw=some (.cells tyGw (gwC bo br bk who) 5):=by rw [q01,if_neg h.dh.1];exact objAt_some.1 h.w
  have k2:sget (supd S' bh (.map MO es clk)) bk=some (.map MD [] 0):=by rw [q01,if_neg h.dh.2.2];exact h.kn
  have r2:=h.rl.upd h.dh.2.1 (.map MO es clk)
  generalize supd S' bh (.map MO es clk)=S2 at hd2 hof2 hsub2 tl2 w2 k2 r2 ⊢
  refine LstN.app hsub2 tl2 (fun r hr=>by rw [List.mem_singleton.1 hr];rfl) (q3r fun r hr=>by rw [List.mem_singleton.1 hr];rfl) (by simp only [List.length_map,List.length_singleton];omega) fun tv' S3 j1 j2 j3=>hK tv' S3 ?_
  have keep:∀ c,(c=bw∨c=br∨c=bk∨c=bh∨c=bo)→∀ o,sget S2 c=some o→sget S3 c=some o∧q0l tv' c:=fun c hc o ho=>j3 c o ho (h.ta c hc)
  have keepM:∀ {κ:Type} {M:Bool×List EK} {enc:κ→AV} {b:Nat} {g:κ→Option AV},(b=bw∨b=br∨b=bk∨b=bh∨b=bo)→KMap M enc S2 b g→KMap M enc S3 b g:=by
   intro κ M enc b g hb hm
   obtain ⟨es,clk,m1,-⟩:=id hm
   exact hm.at ((keep b hb _ (mapObj_some.1 m1)).1.trans (mapObj_some.1 m1).symm)
  obtain ⟨rk,rclk,rm,-⟩:=id r2
  obtain ⟨dk,dclk,dm,-⟩:=id hd2
  refine ⟨j1,objAt_some.2 (keep bw (by simp) _ w2).1,keepM (by simp) r2,(keep bk (by simp) _ k2).1,⟨es1,clk1,hof2.other (v:=tv) (v':=tv') (fun b off n cap e=>.inr (.inr (.inr (.inr ⟨off,n,cap,e⟩)))) j3 (fun c hc=>?_) fun c hc=>?_⟩,?_,fun c hc=>?_,?_,h.nh,h.dh⟩
  ·rcases hc with hc | hc | hc | hc | hc
   ·exact .inl (.inl hc)
   ·exact .inl (.inr (.inl hc))
   ·exact .inl (.inr (.inr (.inl hc)))
   ·exact .inl (.inr (.inr (.inr (.inl hc))))
   ·exact .inr hc
  ·have old:∀ {o:AObj},(c=bw∨c=br∨c=bk∨c=bh∨c=bo)→sget S2 c=some o→sget S3 c≠none:=fun hc ho=>by rw [(keep c hc _ ho).1];simp
   rcases hc with rfl | rfl | rfl | rfl | ⟨off,n,cap,rfl⟩
   ·exact ⟨(hof.ks _ (.inl rfl)).1,old (by simp) w2⟩
   ·exact ⟨(hof.ks _ (.inr (.inl rfl))).1,old (by simp) (mapObj_some.1 rm)⟩
   ·exact ⟨(hof.ks _ (.inr (.inr (.inl rfl)))).1,old (by simp) k2⟩
   ·exact ⟨hbo,old (by simp) (mapObj_some.1 dm)⟩
   ·refine ⟨Ne.symm ((keep bo (by simp) _ hof2.map).2 c _ _ _ rfl),?_⟩
    obtain ⟨hr,⟨e,-⟩ | ⟨b1,cap1,e,q1,q2,-⟩⟩:=j2
    ·cases e
    ·cases e
     rw [q2]
     simp
  ·rw [addT,if_neg hx,List.map_append]
   exact j2
  ·rcases hc with rfl | rfl | rfl | rfl | rfl
   ·exact (keep _ (by simp) _ w2).2
   ·exact (keep _ (by simp) _ (mapObj_some.1 rm)).2
   ·exact (keep _ (by simp) _ k2).2
   ·exact (keep _ (by simp) _ (mapObj_some.1 dm)).2
   ·exact (keep _ (by simp) _ hof2.map).2
  ·refine (keepM (by simp) hd2).cong fun y=>?_
   rw [addT,if_neg hx]
   by_cases e:y=x
   ·subst e;simp
   ·simp [List.mem_append,e]
theorem KnI.push (h:KnI s who S bw bo br bk bh f tv T S') (n:Nd) {row:List AV} {K:q00→Prop} (hr:row.length=3) (ho:ones row=true) (hb:((f n).length+1) * 48≤140737488355328)
  (hK:∀ S2,KnI s who S bw bo br bk bh (fun m=>if m=n then f n++[row] else f m) tv T S2→K S2) :
  meW S' MD .nils (.map (some bo)) (ndA n) fun v S=>exW 0 v fun v70=>exW 1 v fun v76=>apW S 39 3 48 v70 (.sl 3 [row]) fun v75 S=>mtW S (.map (some bo)) v76 v75 K:=by
 obtain ⟨es,clk,hof⟩:=h.of
 refine hof.push h.sub n hr ho hb fun S2 es' clk' u1 u2 u3=>hK S2 ?_
 exact ⟨u1,objAt_some.2 ((u3 bw (.inl rfl)).trans (objAt_some.1 h.w)),h.rl.at (u3 br (.inr (.inl rfl))),(u3 bk (.inr (.inr (.inl rfl)))).trans h.kn,⟨es',clk',u2⟩,h.tl.keepAt fun b off n cap e=>u3 b (.inr (.inr (.inr (.inr ⟨off,n,cap,e⟩)))),h.ta,h.hd.at (u3 bh (.inr (.inr (.inr (.inl rfl))))),h.nh,h.dh⟩
end
set_option maxRecDepth 4000
theorem ix_two0 {a b c d:AV} {j:Nat} {K:AV→Prop} (h:j=0) (hk:K (.agg [a,b])):ixW 2 2 true (.agg [a,b,c,d]) (.int .i64 (j:Int)) K:=by
 subst h
 exact hk
theorem ix_two1 {a b c d:AV} {j:Nat} {K:AV→Prop} (h:j=1) (hk:K (.agg [c,d])):ixW 2 2 true (.agg [a,b,c,d]) (.int .i64 (j:Int)) K:=by
 subst h
 exact hk
section
variable {s:List Ty} {L:List Tu} {who:Ob} {S:q00} {bw bo br bk bl:Nat}
def PostK (s:List Ty) (L:List Tu) (who:Ob) (S:q00) (ae:AEnd) (S':q00):Prop:=∃ (bk:Nat) (K:List Nd),ae=.ret (.map (some bk))∧Sub S S'∧KMap MD ndA S' bk (fun n=>if n∈K then some (.bool true) else none)∧Mod (envL s L who) K
theorem known_3 (R:Rnd s L who) {S1:q00} {bc m:Nat} {T:List Ob} (hm:m≤q0p s) (hup:∀ (j k x:Nat) (l:List Nat),(levF s)[j]?=some l→l[k]?=some x→x≤m) (g:GS (envL s L who) S bw bo br bk bl [] S1) (hb:sget S1 bc=some (.cells 3 [.int .i64 0] 1)) (hne:bk≠bc) (hlT:T.length≤2000) (hT:∀ n x,x∈(envL s L who).of n→n.o∈T) :
  LoopP (fun r0 l S'=>C57_3 (PostK s L who S) r0 (lget l 11) (lget l 15) (lget l 21) (lget l 22) S') [(11,.ptr bw 0),(15,.sl 2 (T.map obC)),(21,.rop [.map (some bl),.int .i64 m]),(22,.ptr bc 0)] S1:=by
 have hmany:=(q2u R.c).many
 refine LoopP.introS (fun x:Nat×Nat=>[(11,.ptr bw 0),(15,.sl 2 (T.map obC)),(21,.rop [.map (some bl),.int .i64 m]),(22,.ptr x.2 0)])
  (fun x S'=>x.1≤m+1∧∃ K,GS (envL s L who) S bw bo br bk bl K S'∧sget S' x.2=some (.cells 3 [.int .i64 x.1] 1)∧bk≠x.2∧Upto (envL s L who) (q49 s T) x.1 K) (fun x=>m+1-x.1) (0,bc)
  ⟨by dsimp only;omega,[],g,hb,hne,⟨by simp,fun n hn=>(by cases hn),fun i n hi=>by simp at hi,fun i j n m hi=>by simp at hi,fun n hn=>(by cases hn),fun n j k r _ hlt=>by omega⟩⟩ rfl ?_
 rintro ⟨v,bc⟩ S2 ⟨hv,K,g2,b2,hne2,u2⟩ kk hkk
 dsimp only at hv b2 hne2 u2 ⊢
 have hc2:=q07 (objAt_some.2 b2)
 (try simp only [rwp,zA,zB,zC,zD,zE,zF,zG,zH,zI,rwb,reduceIte,C57_3,hc2])
 cases a1:decide ((v:Int)≤m)
 ·have hcw:=q07 g2.w
  (try simp only [rwp,zA,zB,zC,zD,zE,zF,zG,zH,zI,rwb,reduceIte,hcw,gwC])
  obtain ⟨es,clk,hkn⟩:=g2.kn
  have ev:v=m+1:=by have:=of_decide_eq_false a1;omega
  subst ev
  refine q03 ⟨bk,K,rfl,g2.sub,hkn.kmap,u2.mod fun n j k r hf=>?_⟩
  obtain ⟨-,ty,hty,-,hkr⟩:=q1u hf
  obtain ⟨lv,hl1,hl2⟩:=shp_row (q72 s) hty
  have hkl:=(List.getElem?_eq_some_iff.1 hkr).1
  obtain ⟨x,hx⟩:∃ x,lv[k]?=some x:=⟨_,List.getElem?_eq_getElem (by omega)⟩
  have:=hup j k x lv hl1 hx
  unfold lvN
  rw [hf]
  show getL (levF s) (j,k)<m+1
  unfold getL
  simp [hl1,hx]
  omega
 ·have hle:=of_decide_eq_true a1
  (try simp only [rwp,zA,zB,zC,zD,zE,zF,zG,zH,zI,rwb,reduceIte])
  refine q10 (c_gsettle R (mst:=m) g2 b2 hne2 u2 (by omega)) ?_
  rintro ae S3 ⟨rfl,K3,g3,b3,u3,cl3⟩
  dsimp only
  have hc3:=q07 (objAt_some.2 (b3.trans b2))
  (try simp only [rwp,zA,zB,zC,zD,zE,zF,zG,zH,zI,rwb,reduceIte,hc3])
  intro bd hbd
  (try simp only [rwp,zA,zB,zC,zD,zE,zF,zG,zH,zI,rwb,reduceIte])
  (simp (disch:=omega) only [q08])
  have e:supd (supd (supd S3 bd (.cells 3 [.int .i64 0] 1)) bd (.cells 3 [.int .i64 v] 1)) bd (.cells 3 [.int .i64 (v+1)] 1)=supd S3 bd (.cells 3 [.int .i64 ((v+1:Nat):Int)] 1):=by rw [q0q,q0q];rfl
  refine q0a rfl (hkk (v+1,bd) _ ⟨by dsimp only;omega,K3,g3.fresh hbd _,by rw [q01,if_pos rfl];rfl,?_,u3.next hT cl3⟩ (by dsimp only;omega))
  rintro rfl
  exact g3.kb hbd
theorem c_gknown (R:Rnd s L who) (hL:L.length≤500) (o:Ob) (S:q00):ACalls PG nrx57 [scA s,.sl 1 (lvC (levF s)),.sl 6 (L.map tuC),.agg (obC o),.agg (obC who)] S (PostK s L who S):=by
 have hst:=R.os.types
 refine wx57 ?_
 unfold Bx57
 (try simp only [rwp,zA,zB,zC,zD,zE,zF,zG,zH,zI,rwb,reduceIte,scA,obC])
 intro bo hbo br hbr
 obtain ⟨dro,hbr'⟩:=frsh hbr
 intro bk hbk
 obtain ⟨dkr,hbk'⟩:=frsh hbk
 obtain ⟨dko,hbk'⟩:=frsh hbk'
 (try simp only [rwp,zA,zB,zC,zD,zE,zF,zG,zH,zI,rwb,reduceIte])
 refine ⟨rfl,rfl,fun bw hbw=>?_⟩
 obtain ⟨dwk,hbw'⟩:=frsh hbw
 obtain ⟨dwr,hbw'⟩:=frsh hbw'
 obtain ⟨dwo,hbw'⟩:=frsh hbw'
 (try simp only [rwp,zA,zB,zC,zD,zE,zF,zG,zH,zI,rwb,reduceIte,List.length_map])
 generalize hS4:supd _ bw _=S4
 have g4:∀ c,sget S4 c=if bw=c then some (.cells tyGw (gwC bo br bk who) 5) else if bk=c then some (.map MD [] 0) else if br=c then some (.map MS [] 0) else if bo=c then some (.map MD [] 0) else sget S c:=by
  intro c
  rw [← hS4,q01,q01,q01,q01]
  rfl
 have sub4:Sub S S4:=by rw [← hS4];exact Sub.supd hbw' (Sub.supd hbk' (Sub.supd hbr' (Sub.supd hbo (Sub.refl _))))
 have w4:sget S4 bw=some (.cells tyGw (gwC bo br bk who) 5):=by rw [g4,if_pos rfl]
 have k4:sget S4 bk=some (.map MD [] 0):=by rw [g4,if_neg dwk,if_pos rfl]
 have o4:sget S4 bo=some (.map MD [] 0):=by rw [g4,if_neg dwo,if_neg dko,if_neg dro,if_pos rfl]
 have r4:KMap MS AV.str S4 br (relsI s 0):=by
  refine ⟨[],0,mapObj_some.2 (by rw [g4,if_neg dwr,if_neg dkr,if_pos rfl]),fun x hx=>(by cases hx),fun k=>?_⟩
  rw [q4t]
  unfold relsI
  cases typF s k with
  | none=>rfl
  | some j=>simp
 clear hS4 g4
 have hg:=q2u R.c
 refine LoopP.introS (fun i:Nat=>[(1,.sl 1 (lvC (levF s))),(2,.sl 6 (L.map tuC)),(5,.rop [.sl 2 (s.map tyC)]),(8,.rop [.str o.ty,.str o.id]),(11,.ptr bw 0),(30,.sl 2 (s.map tyC)),(31,.int .i64 s.length),(32,.int .i64 i)])
  (fun i S'=>i≤s.length∧Sub S S'∧sget S' bw=some (.cells tyGw (gwC bo br bk who) 5)∧sget S' bk=some (.map MD [] 0)∧sget S' bo=some (.map MD [] 0)∧KMap MS AV.str S' br (relsI s i)) (fun i=>s.length-i) 0 ⟨by omega,sub4,w4,k4,o4,r4⟩ rfl ?_
 rintro i S5 ⟨hi,sub5,w5,k5,o5,r5⟩ kk hkk
 have hc5:=q07 (objAt_some.2 w5)
 (try simp only [rwp,zA,zB,zC,zD,zE,zF,zG,zH,zI,rwb,reduceIte,C57_1])
 (refine q04 (fun hlt=>?_) (fun hlt=>?_)<;>(try simp only [hlc] at hlt))
 ·obtain ⟨t,ht⟩:=q0t hlt
  (try simp only [rwp,zA,zB,zC,zD,zE,zF,zG,zH,zI,rwb,reduceIte,List.getElem?_map,ht,tyC,hc5,gwC])
  refine r5.mu q2e t.name fun es clk hk=>?_
  (simp (disch:=omega) only [q08])
  exact q0a rfl (hkk (i+1) _ ⟨by omega,Sub.supd hbr' sub5,by rw [q01,if_neg (Ne.symm dwr)];exact w5,by rw [q01,if_neg (Ne.symm dkr)];exact k5,by rw [q01,if_neg dro];exact o5,hk.cong (relsI_succ hg ht)⟩ (by omega))
 ·have e:i=s.length:=by omega
  subst e
  have r5:=r5.cong (relsI_all s)
  clear hkk
  (try simp only [rwp,zA,zB,zC,zD,zE,zF,zG,zH,zI,rwb,reduceIte])
  intro bh hbh
  have hd0:KMap MO obA (supd S5 bh (.map MO [] 0)) bh (fun _=>none):=⟨[],0,mapObj_some.2 (by rw [q01,if_pos rfl]),fun x hx=>(by cases hx),fun k=>q4t⟩
  refine hd0.mu ke_ob o fun es clk hd=>?_
  rw [q0q] at hd ⊢
  refine ⟨by simp [allV,q09,notJ],fun tb htb=>?_⟩
  obtain ⟨dth,htb'⟩:=frsh htb
  have nS:∀ {c:Nat},sget S5 c=none→sget S c=none:=fun h=>Sub.none sub5 h
  have neW:∀ {c:Nat},sget S5 c=none→c≠bw∧c≠br∧c≠bk∧c≠bo:=by
   intro c hc
   refine ⟨?_,?_,?_,?_⟩
   ·rintro rfl;rw [w5] at hc;cases hc
   ·rintro rfl;exact r5.is hc
   ·rintro rfl;rw [k5] at hc;cases hc
   ·rintro rfl;rw [o5] at hc;cases hc
  obtain ⟨h1,h2,h3,h4⟩:=neW hbh
  obtain ⟨t1,t2,t3,t4⟩:=neW htb'
  generalize hS7:supd _ tb _=S7
  have g7:∀ c,sget S7 c=if tb=c then some (.cells tyOb [.str o.ty,.str o.id] 2) else if bh=c then some (.map MO es clk) else sget S5 c:=by
   intro c
   rw [← hS7,q01,q01]
   rfl
  have sub7:Sub S S7:=by rw [← hS7];exact Sub.supd (nS htb') (Sub.supd (nS hbh) sub5)
  have e7:∀ c,c≠tb→c≠bh→sget S7 c=sget S5 c:=fun c c1 c2=>by rw [g7,if_neg (Ne.symm c1),if_neg (Ne.symm c2)]
  have kn7:KnI s who S bw bo br bk bh (ofL (L.take 0)) (.own tb 0 1 1) [o] S7:=by
   have ef:ofL (L.take 0)=fun _=>[]:=rfl
   refine ⟨sub7,objAt_some.2 ((e7 bw (Ne.symm t1) (Ne.symm h1)).trans w5),r5.at (e7 br (Ne.symm t2) (Ne.symm h2)),(e7 bk (Ne.symm t3) (Ne.symm h3)).trans k5,⟨[],0,?_⟩,⟨fun r hr=>by rw [List.mem_singleton.1 hr];rfl,.inr ⟨tb,1,rfl,nS htb',?_,by simp,by decide,by simp⟩⟩,fun c hc=>?_,?_,nS hbh,h1,h2,h3⟩
   ·rw [ef]
    refine OfM.nil hbo ((e7 bo (Ne.symm t4) (Ne.symm h4)).trans o5) fun c hc=>?_
    rcases hc with rfl | rfl | rfl | rfl | ⟨off,n,cap,e⟩
    ·exact ⟨dwo,by rw [e7 _ (Ne.symm t1) (Ne.symm h1),w5];simp⟩
    ·exact ⟨dro,by rw [e7 _ (Ne.symm t2) (Ne.symm h2)];exact r5.is⟩
    ·exact ⟨dko,by rw [e7 _ (Ne.symm t3) (Ne.symm h3),k5];simp⟩
    ·exact ⟨h4,by rw [g7,if_neg dth,if_pos rfl];simp⟩
    ·cases e;exact ⟨t4,by rw [g7,if_pos rfl];simp⟩
   ·rw [g7,if_pos rfl];rfl
   ·rcases hc with rfl | rfl | rfl | rfl | rfl<;>intro b off n cap e<;>cases e
    ·exact Ne.symm t1
    ·exact Ne.symm t2
    ·exact Ne.symm t3
    ·exact Ne.symm dth
    ·exact Ne.symm t4
   ·refine (hd.at (S':=S7) ?_).cong fun x=>?_
    ·rw [g7,if_neg dth,if_pos rfl,q01,if_pos rfl]
    ·by_cases e:x=o
     ·subst e;simp
     ·simp [e]
  clear hS7 g7 e7 sub7 hd hd0 htb
  refine LoopP.introS (fun x:Nat×AV=>[(1,.sl 1 (lvC (levF s))),(5,.rop [.sl 2 (s.map tyC)]),(11,.ptr bw 0),(14,.map (some bh)),(15,x.2),(50,.sl 6 (L.map tuC)),(51,.int .i64 L.length),(52,.int .i64 x.1)])
   (fun x S'=>x.1≤L.length∧∃ T,KnI s who S bw bo br bk bh (ofL (L.take x.1)) x.2 T S'∧T.length≤1+2 * x.1∧∀ (j:Nat) (t:Tu),j<x.1→L[j]?=some t→t.o∈T) (fun x=>L.length-x.1) (0,.own tb 0 1 1) ⟨by dsimp only;omega,[o],kn7,by simp,fun j t hj=>by dsimp only at hj;omega⟩ rfl ?_
  rintro ⟨i,tv⟩ S8 ⟨hi,T,n8,hlT,hmem⟩ kk hkk
  dsimp only at hi n8 hlT hmem ⊢
  (try simp only [rwp,zA,zB,zC,zD,zE,zF,zG,zH,zI,rwb,reduceIte,C57_2])
  (refine q04 (fun hlt=>?_) (fun hlt=>?_)<;>(try simp only [hlc] at hlt))
  ·obtain ⟨t,ht⟩:=q0t hlt
   have hc8:=q07 n8.w
   (try simp only [rwp,zA,zB,zC,zD,zE,zF,zG,zH,zI,rwb,reduceIte,List.getElem?_map,ht,tuC,hc8,gwC])
   refine n8.push (ndT t) rfl rfl (by have:=ofL_len (L:=L) (i:=i) (n:=ndT t);omega) fun S9 n9=>?_
   have ef:(fun m=>if m=ndT t then ofL (L.take i) (ndT t)++[ndC t.s] else ofL (L.take i) m)=ofL (L.take (i+1)):=by
    funext m
    rw [ofL_take ht]
    by_cases hm:m=ndT t
    ·rw [if_pos hm,if_pos hm,hm]
    ·rw [if_neg hm,if_neg hm,List.append_nil]
   have n9:KnI s who S bw bo br bk bh (ofL (L.take (i+1))) tv T S9:=by rw [← ef];exact n9
   (try simp only [rwp,zA,zB,zC,zD,zE,zF,zG,zH,zI,rwb,reduceIte])
   refine LoopP.introS (fun x:Nat×AV=>[(1,.sl 1 (lvC (levF s))),(5,.rop [.sl 2 (s.map tyC)]),(11,.ptr bw 0),(14,.map (some bh)),(15,x.2),(50,.sl 6 (L.map tuC)),(51,.int .i64 L.length),(52,.int .i64 i),(78,.agg [.str t.o.ty,.str t.o.id,.str t.s.o.ty,.str t.s.o.id]),(79,.int .i64 x.1)])
    (fun x S'=>x.1≤2∧∃ T',KnI s who S bw bo br bk bh (ofL (L.take (i+1))) x.2 T' S'∧T'.length≤1+2 * i+x.1∧(∀ y∈T,y∈T')∧(0<x.1→t.o∈T')) (fun x=>2-x.1) (0,tv) ⟨by dsimp only;omega,T,n9,by dsimp only;omega,fun y hy=>hy,fun h=>by dsimp only at h;omega⟩ rfl ?_
   rintro ⟨j,tv2⟩ S10 ⟨hj,T2,n10,hl2,hs2,hm2⟩ kk2 hkk2
   dsimp only at hj n10 hl2 hs2 hm2 ⊢
   have fin:∀ (x:Ob) (tv3:AV) (S11:q00),j<2→(j=0→x=t.o)→KnI s who S bw bo br bk bh (ofL (L.take (i+1))) tv3 (addT T2 x) S11→C57_5 (PostK s L who S) kk kk2 (.sl 1 (lvC (levF s))) (.rop [.sl 2 (s.map tyC)]) (.ptr bw 0) (.map (some bh)) tv3 (.sl 6 (L.map tuC)) (.int .i64 L.length) (.int .i64 i) (.agg [.str t.o.ty,.str t.o.id,.str t.s.o.ty,.str t.s.o.id]) (.int .i64 j) S11:=by
    intro x tv3 S11 hj2 hx n11
    (try simp only [rwp,zA,zB,zC,zD,zE,zF,zG,zH,zI,rwb,reduceIte,C57_5])
    (simp (disch:=omega) only [q08])
    have:=@addT_len T2 x
    refine q0a rfl (hkk2 (j+1,tv3) _ ⟨by dsimp only;omega,_,n11,by dsimp only;omega,fun y hy=>addT_mem.2 (.inl (hs2 y hy)),fun _=>?_⟩ (by dsimp only;omega))
    by_cases e:j=0
    ·rw [hx e];exact addT_mem.2 (.inr rfl)
    ·exact addT_mem.2 (.inl (hm2 (by omega)))
   have j3:j=0∨j=1∨j=2:=by omega
   rcases j3 with e | e | e
   ·(try simp only [rwp,zA,zB,zC,zD,zE,zF,zG,zH,zI,rwb,reduceIte,C57_4,decide_eq_true (show (j:Int)<2 by omega)])
    refine ix_two0 e ?_
    (try simp only [rwp,zA,zB,zC,zD,zE,zF,zG,zH,zI,rwb,reduceIte])
    exact n10.add (by omega) t.o fun tv3 S11 n11=>fin t.o tv3 S11 (by omega) (fun _=>rfl) n11
   ·(try simp only [rwp,zA,zB,zC,zD,zE,zF,zG,zH,zI,rwb,reduceIte,C57_4,decide_eq_true (show (j:Int)<2 by omega)])
    refine ix_two1 e ?_
    (try simp only [rwp,zA,zB,zC,zD,zE,zF,zG,zH,zI,rwb,reduceIte])
    exact n10.add (by omega) t.s.o fun tv3 S11 n11=>fin t.s.o tv3 S11 (by omega) (fun h=>by omega) n11
   ·(try simp only [rwp,zA,zB,zC,zD,zE,zF,zG,zH,zI,rwb,reduceIte,C57_4,decide_eq_false (show ¬ (j:Int)<2 by omega)])
    (simp (disch:=omega) only [q08])
    refine q0a rfl (hkk (i+1,tv2) _ ⟨by dsimp only;omega,T2,n10,by dsimp only;omega,fun j' u hj' hu=>?_⟩ (by dsimp only;omega))
    dsimp only at hj'
    rcases Nat.lt_succ_iff_lt_or_eq.1 hj' with h1 | rfl
    ·exact hs2 _ (hmem j' u h1 hu)
    ·rw [ht] at hu;cases hu;exact hm2 (by omega)
  ·have e:i=L.length:=by omega
   subst e
   clear hkk
   rw [List.take_length] at n8
   have q:=c_grank R.os R.c S8
   simp only [scA] at q
   (try simp only [rwp,zA,zB,zC,zD,zE,zF,zG,zH,zI,rwb,reduceIte])
   refine q10 q ?_
   rintro ae S9 ⟨bl,m,rfl,s9,hbl,lv9,hm,hup⟩
   dsimp only
   (try simp only [rwp,zA,zB,zC,zD,zE,zF,zG,zH,zI,rwb,reduceIte])
   intro bc hbc
   (try simp only [rwp,zA,zB,zC,zD,zE,zF,zG,zH,zI,rwb,reduceIte])
   obtain ⟨es9,clk9,hof⟩:=n8.of
   have hT:∀ n x,x∈(envL s L who).of n→n.o∈T:=by
    intro n x hx
    obtain ⟨t,ht,rfl⟩:=List.mem_map.1 hx
    unfold ofF at ht
    simp only [List.mem_filter,Bool.and_eq_true,decide_eq_true_eq] at ht
    obtain ⟨j,hj⟩:=List.getElem?_of_mem ht.1
    have:=hmem j t (List.getElem?_eq_some_iff.1 hj).1 hj
    rw [ht.2.1] at this
    exact this
   have neW8:∀ {c:Nat},sget S8 c=none→c≠bw∧c≠br∧c≠bk∧c≠bo:=by
    intro c hc
    refine ⟨?_,?_,?_,?_⟩
    ·rintro rfl;exact q64 n8.w hc
    ·rintro rfl;exact n8.rl.is hc
    ·rintro rfl;rw [n8.kn] at hc;cases hc
    ·rintro rfl;rw [hof.map] at hc;cases hc
   obtain ⟨l1,l2,l3,l4⟩:=neW8 hbl
   have hbc8:sget S8 bc=none:=Sub.none s9 hbc
   obtain ⟨c1,c2,c3,c4⟩:=neW8 hbc8
   have hcl:bc≠bl:=by rintro rfl;exact lv9.is hbc
   obtain ⟨xr,xrc,hxr,hxr2,hxr3⟩:=id n8.rl
   obtain ⟨xl,xlc,hxl,hxl2,hxl3⟩:=id lv9
   have nbl:sget S bl=none:=Sub.none n8.sub hbl
   have nbc:sget S bc=none:=Sub.none n8.sub hbc8
   let S1:q00:=supd (supd (supd (supd (supd (supd S bw (.cells tyGw (gwC bo br bk who) 5)) br (.map MS xr xrc)) bk (.map MD [] 0)) bl (.map MS xl xlc)) bc (.cells 3 [.int .i64 0] 1)) bo (.map MD (frzM (ofL L) es9) clk9)
   have g1:∀ c,sget S1 c=if bo=c then some (.map MD (frzM (ofL L) es9) clk9) else if bc=c then some (.cells 3 [.int .i64 0] 1) else if bl=c then some (.map MS xl xlc) else if bk=c then some (.map MD [] 0) else if br=c then some (.map MS xr xrc) else if bw=c then some (.cells tyGw (gwC bo br bk who) 5) else sget S c:=fun c=>rfl
   have sub1:Sub S S1:=Sub.supd hbo (Sub.supd nbc (Sub.supd nbl (Sub.supd hbk' (Sub.supd hbr' (Sub.supd hbw' (Sub.refl _))))))
   have hcur:∀ c,sget (supd S9 bc (.cells 3 [.int .i64 0] 1)) c=if bc=c then some (.cells 3 [.int .i64 0] 1) else sget S9 c:=fun c=>rfl
   have hin:∀ b,sget S1 b≠none→b=bo∨(b=bc∨b=bl∨KsG bw br bk bh tv b)∨sget S b≠none:=by
    intro b hb
    rw [g1] at hb
    split at hb
    ·rename_i e;exact .inl e.symm
    ·split at hb
     ·rename_i e;exact .inr (.inl (.inl e.symm))
     ·split at hb
      ·rename_i e;exact .inr (.inl (.inr (.inl e.symm)))
      ·split at hb
       ·rename_i e;exact .inr (.inl (.inr (.inr (.inr (.inr (.inl e.symm))))))
       ·split at hb
        ·rename_i e;exact .inr (.inl (.inr (.inr (.inr (.inl e.symm)))))
        ·split at hb
         ·rename_i e;exact .inr (.inl (.inr (.inr (.inl e.symm))))
         ·exact .inr (.inr hb)
   have hof9:OfM S (supd S9 bc (.cells 3 [.int .i64 0] 1)) 39 bo (fun b=>b=bc∨b=bl∨KsG bw br bk bh tv b) (ofL L) es9 clk9:=by
    refine hof.more (s9.trans fun c o hc=>?_) (fun c hc=>?_) fun c hc=>?_
    ·rw [hcur,if_neg (q0h hbc hc)];exact hc
    ·rcases hc with rfl | rfl | hc
     ·exact .inr hbc8
     ·exact .inr hbl
     ·exact .inl hc
    ·rw [hcur]
     rcases hc with rfl | rfl | hc
     ·exact ⟨c4,by rw [if_pos rfl];simp⟩
     ·exact ⟨l4,by rw [if_neg hcl];exact lv9.is⟩
     ·refine ⟨(hof.ks c hc).1,?_⟩
      split
      ·simp
      ·cases ho:sget S8 c with
       | none=>exact absurd ho (hof.ks c hc).2
       | some o=>rw [s9 c o ho];simp
   have hlst:LstN S1 (supd S9 bc (.cells 3 [.int .i64 0] 1)) tyOb 2 tv (T.map obC):=by
    obtain ⟨hr,⟨rfl,e⟩ | ⟨b,cap,rfl,q1,q2,q3⟩⟩:=n8.tl
    ·exact ⟨hr,.inl ⟨rfl,e⟩⟩
    ·refine ⟨hr,.inr ⟨b,cap,rfl,?_,?_,q3⟩⟩
     ·rw [g1,if_neg (n8.ta bo (by simp) b _ _ _ rfl),if_neg (by rintro rfl;rw [q2] at hbc8;cases hbc8),if_neg (by rintro rfl;rw [q2] at hbl;cases hbl),if_neg (n8.ta bk (by simp) b _ _ _ rfl),if_neg (n8.ta br (by simp) b _ _ _ rfl),if_neg (n8.ta bw (by simp) b _ _ _ rfl)]
      exact q1
     ·rw [hcur,if_neg (by rintro rfl;rw [q2] at hbc8;cases hbc8)]
      exact s9 _ _ q2
   refine LoopP.frz (S1:=S1) (l':=[(11,.ptr bw 0),(15,.sl 2 (T.map obC)),(21,.rop [.map (some bl),.int .i64 m]),(22,.ptr bc 0)]) ?_ (.cons (.same _) (.cons (Fr.lst hlst) (.cons (.same _) (.cons (.same _) .nil)))) (known_3 (bo:=bo) (br:=br) (bk:=bk) R hm hup ?_ ?_ ?_ (by omega) hT)
   ·intro b o' hb
    rw [g1] at hb
    split at hb
    ·rename_i e;subst e;cases hb;exact ⟨_,hof9.map,hof9.fr hin⟩
    ·split at hb
     ·rename_i e;subst e;cases hb;exact ⟨_,by rw [hcur,if_pos rfl],.same _⟩
     ·rename_i hbn
      have hn:∀ {o:AObj},sget S8 b=some o→sget (supd S9 bc (.cells 3 [.int .i64 0] 1)) b=some o:=fun h=>by rw [hcur,if_neg hbn];exact s9 b _ h
      split at hb
      ·rename_i e;subst e;cases hb;exact ⟨_,by rw [hcur,if_neg hbn];exact mapObj_some.1 hxl,.same _⟩
      ·split at hb
       ·rename_i e;subst e;cases hb;exact ⟨_,hn n8.kn,.same _⟩
       ·split at hb
        ·rename_i e;subst e;cases hb;exact ⟨_,hn (mapObj_some.1 hxr),.same _⟩
        ·split at hb
         ·rename_i e;subst e;cases hb;exact ⟨_,hn (objAt_some.1 n8.w),.same _⟩
         ·exact ⟨_,hn (n8.sub b o' hb),.same _⟩
   ·have hfk:∀ x∈frzM (ofL L) es9,∃ n,x.1=ndA n:=by
     intro x hx
     unfold frzM at hx
     obtain ⟨y,hy,rfl⟩:=List.mem_map.1 hx
     exact hof.key y hy
    have hofA:∀ m,ofA ((envL s L who).of m)=(mget es9 (ndA m)).map fun _=>AV.sl 3 (ofL L m):=by
     intro m
     unfold ofA
     cases hm:mget es9 (ndA m) with
     | none=>
      have:=hof.no m hm
      unfold ofL at this
      rw [List.map_eq_nil_iff] at this
      rw [show (envL s L who).of m=(ofF L m).map Tu.s from rfl,this]
      rfl
     | some v=>
      have:=(hof.yes m v hm).1
      unfold ofL at this
      rw [if_neg fun h=>this (by rw [show (ofF L m).map Tu.s=(envL s L who).of m from rfl,h];rfl)]
      rfl
    refine ⟨objAt_some.2 ?_,⟨frzM (ofL L) es9,clk9,mapObj_some.2 (by rw [g1,if_pos rfl]),fun x hx=>?_,fun m=>?_⟩,⟨xr,xrc,mapObj_some.2 ?_,hxr2,hxr3⟩,⟨xl,xlc,mapObj_some.2 ?_,hxl2,hxl3⟩,⟨[],0,⟨?_,fun x hx=>(by cases hx),by simp,fun x hx=>(by cases hx),fun n=>by simp [q4t]⟩⟩,Ne.symm dwk,dko,dkr,Ne.symm l3,fun n=>?_,sub1,hbk'⟩
    ·rw [g1,if_neg (Ne.symm dwo),if_neg c1,if_neg l1,if_neg (Ne.symm dwk),if_neg (Ne.symm dwr),if_pos rfl];rfl
    ·obtain ⟨m,hm⟩:=hfk x hx
     rw [hm]
     exact ke_nd.ok m
    ·rw [mget_frz hof.key];exact (hofA m).symm
    ·rw [g1,if_neg (Ne.symm dro),if_neg c2,if_neg l2,if_neg dkr,if_pos rfl]
    ·rw [g1,if_neg (Ne.symm l4),if_neg hcl,if_pos rfl]
    ·rw [g1,if_neg (Ne.symm dko),if_neg c3,if_neg l3,if_pos rfl]
    ·show ((ofF L n).map Tu.s).length≤1125899906842624
     rw [List.length_map]
     exact Nat.le_trans (List.length_filter_le _ _) (Nat.le_trans hL (by decide))
   ·rw [g1,if_neg (Ne.symm c4),if_pos rfl]
   ·exact Ne.symm c3
end
end Go.HL
