/- A part of a proof. -/
import Derived.Test.YtadmdlpmikoghaaGreatKfM1
import Derived.Test.YtadmdlpmikoghaaGreatKfHlS1
import Derived.Test.YtadmdlpmikoghaaGreatKfHlS3
import Derived.Test.YtadmdlpmikoghaaGreatKfHlS5
import Derived.Test.YtadmdlpmikoghaaGreatKfHlS6
import Derived.Test.YtadmdlpmikoghaaGreatKfHlS8
import Derived.Test.YtadmdlpmikoghaaGreatKfHlS9
import Derived.Test.YtadmdlpmikoghaaGreatKfHlQ
import Derived.Test.YtadmdlpmikoghaaGreatKfHlS10
import Derived.Test.YtadmdlpmikoghaaGreatKfHlS12
import Derived.Defers
import Derived.Recover
import Derived.Test.YtadmdlpmikoghaaGreatKfHlP
import Derived.Test.YtadmdlpmikoghaaGreatKfHlS4
import Derived.Test.YtadmdlpmikoghaaGreatKfHlS7
import Derived.Lib.Bytealg
import Derived.Laws.Externs
import Derived.Test.YtadmdlpmikoghaaGreatKfHlS13
import Derived.Test.YtadmdlpmikoghaaGreatKfHlS11
import Derived.Test.YtadmdlpmikoghaaGreatKfHlS14
set_option maxRecDepth 4000
set_option linter.unusedSimpArgs false
set_option linter.unusedVariables false
namespace Go.HL
open Nat renaming reduceAdd→zA,reduceLeDiff→zB,reduceLT→zC,reduceSub→zD,reduceMul→zE,reduceEqDiff→zF,reduceBEq→zG
open Int renaming reduceAdd→zH,reduceToNat→zI
section
variable {α:Type} {enc:α→List AV} {xs:List α} {S:q00} {g:Nat} {fi ca:List AV} {p:α→Bool}
theorem q8d (hl:∀ x∈xs,(enc x).length=2) (hb:xs.length≤1125899906842624) (hp:∀ x∈xs,AFunS PG g (fi++[.agg (enc x)]++ca) S (.bool (p x))) :
  AFunS PG nrx127 [.sl 2 (xs.map enc),.func (.func g) fi ca] S (.int .i64 (oi (q0m p xs))):=by
 refine wx127 ?_
 unfold Bx127
 (try simp only [rwp,zA,zB,zC,zD,zE,zF,zG,zH,zI])
 refine LoopP.intro (fun i:Nat=>[(0,.sl 2 (xs.map enc)),(1,.func (.func g) fi ca),(7,.int .i64 xs.length),(8,.int .i64 i)]) (fun _=>S) (fun i=>i≤xs.length∧∀ j x,j<i→xs[j]?=some x→p x=false) (fun i=>xs.length-i) 0 ⟨by omega,by omega⟩ rfl (Sub.refl S) ?_
 rintro i ⟨hi,hn⟩ r hr
 unfold C127_1
 (try simp only [rwp,zA,zB,zC,zD,zE,zF,zG,zH,zI])
 (refine q05 (fun hlt=>?_) (fun hlt=>?_)<;>(try simp only [hlc] at hlt))
 ·obtain ⟨x,hx⟩:=q0z hlt
  (try simp only [rwp,zA,zB,zC,zD,zE,zF,zG,zH,zI,hx])
  rw [tkW_all (hl x (List.mem_of_getElem? hx))]
  refine caW_atv (hp x (List.mem_of_getElem? hx)) ?_
  (refine q05 (fun he=>?_) (fun he=>?_)<;>(try simp only [rwp,zA,zB,zC,zD,zE,zF,zG,zH,zI,he]))
  ·have:q0m p xs=some i:=firstI_some.2 ⟨⟨x,hx,he⟩,hn⟩
   exact q03 ⟨by rw [this];rfl,rfl⟩
  ·(simp (disch:=omega) only [q04])
   refine q0a rfl (hr (i+1) ⟨by omega,fun j u hj hu=>?_⟩ (by omega))
   rcases Nat.lt_succ_iff_lt_or_eq.1 hj with h | rfl
   ·exact hn j u h hu
   ·rw [hx] at hu;cases hu;exact he
 ·have:q0m p xs=none:=firstI_none.2 fun j u hu=>hn j u (by have:=(List.getElem?_eq_some_iff.1 hu).1;omega) hu
  exact q03 ⟨by rw [this];rfl,rfl⟩
theorem q5p (hl:∀ x∈xs,(enc x).length=2) (hb:xs.length≤1125899906842624) (hp:∀ x∈xs,AFunS PG g (fi++[.agg (enc x)]++ca) S (.bool (p x))) :
  AFunS PG nrx80 [.sl 2 (xs.map enc),.func (.func g) fi ca] S (.bool (xs.any p)):=by
 refine wx80 ?_
 unfold Bx80
 refine q1a (q8d hl hb hp) ?_
 (try simp only [rwp,zA,zB,zC,zD,zE,zF,zG,zH,zI])
 exact q03 ⟨by rw [oi_some,q2x],rfl⟩
end
theorem c_Index_Ref {l:List Rf} (hl:l.length≤1125899906842624) (f:Rf):AFun PG nrx145 [.sl 2 (l.map rfC),.agg (rfC f)] (.int .i64 (oi (q0m (fun g=>decide (f.ty=g.ty)&&decide (f.rl=g.rl)) l))):=by
 intro S
 refine wx145 ?_
 unfold Bx145
 (try simp only [rwp,zA,zB,zC,zD,zE,zF,zG,zH,zI,rfC])
 refine LoopP.intro (fun i:Nat=>[(0,.sl 2 (l.map rfC)),(3,.rop [.str f.ty,.str f.rl]),(7,.int .i64 l.length),(8,.int .i64 i)]) (fun _=>S) (fun i=>i≤l.length∧∀ j x,j<i→l[j]?=some x→(decide (f.ty=x.ty)&&decide (f.rl=x.rl))=false) (fun i=>l.length-i) 0 ⟨by omega,by omega⟩ rfl (Sub.refl S) ?_
 rintro i ⟨hi,hn⟩ r hr
 unfold C145_1
 (try simp only [rwp,zA,zB,zC,zD,zE,zF,zG,zH,zI])
 (refine q05 (fun hlt=>?_) (fun hlt=>?_)<;>(try simp only [hlc] at hlt))
 ·obtain ⟨x,hx⟩:=q0z hlt
  (try simp only [rwp,zA,zB,zC,zD,zE,zF,zG,zH,zI,hx,rfC,eqW_def])
  (refine q05 (fun he=>?_) (fun he=>?_)<;>(try simp only [rwp,zA,zB,zC,zD,zE,zF,zG,zH,zI,he]))
  ·have:q0m (fun g:Rf=>decide (f.ty=g.ty)&&decide (f.rl=g.rl)) l=some i:=firstI_some.2 ⟨⟨x,hx,he⟩,hn⟩
   exact q03 ⟨by rw [this];rfl,rfl⟩
  ·(simp (disch:=omega) only [q04])
   refine q0a rfl (hr (i+1) ⟨by omega,fun j u hj hu=>?_⟩ (by omega))
   rcases Nat.lt_succ_iff_lt_or_eq.1 hj with h | rfl
   ·exact hn j u h hu
   ·rw [hx] at hu;cases hu;exact he
 ·have:q0m (fun g:Rf=>decide (f.ty=g.ty)&&decide (f.rl=g.rl)) l=none:=firstI_none.2 fun j u hu=>hn j u (by have:=(List.getElem?_eq_some_iff.1 hu).1;omega) hu
  exact q03 ⟨by rw [this];rfl,rfl⟩
theorem c_Contains_Ref {l:List Rf} (hl:l.length≤1125899906842624) (f:Rf):AFun PG nrx100 [.sl 2 (l.map rfC),.agg (rfC f)] (.bool (l.any fun g=>decide (f.ty=g.ty)&&decide (f.rl=g.rl))):=by
 intro S
 refine wx100 ?_
 unfold Bx100
 have q:=c_Index_Ref hl f
 simp only [rfC] at q
 (try simp only [rwp,zA,zB,zC,zD,zE,zF,zG,zH,zI,rfC])
 refine q06 q ?_
 (try simp only [rwp,zA,zB,zC,zD,zE,zF,zG,zH,zI])
 exact q03 ⟨by rw [oi_some,q2x],rfl⟩
def q4q (s:List Ty) (t:Tu):Int:=if tuB t then (match q0q s t.o.ty t.rl with
  | none=>6
  | some (_,_,r)=>if (typF s t.s.o.ty).isSome then (if r.refs.any fun f=>decide (t.s.o.ty=f.ty)&&decide (t.s.rl=f.rl) then 0 else 10) else 6) else 1
theorem q7g {u:Ty} {t:Tu}:AFun PG nrx99 [.agg (tyC u),.rop (tuC t)] (.bool (decide (u.name=t.s.o.ty))):=by
 intro S
 refine wx99 ?_
 unfold Bx99
 (try simp only [rwp,zA,zB,zC,zD,zE,zF,zG,zH,zI,tyC,tuC])
 exact q03 ⟨rfl,rfl⟩
theorem typ_any {s:List Ty} {n:ByteArray}:(s.any fun u=>decide (u.name=n))=(typF s n).isSome:=by rw [typF,q2x]
theorem c_tuple_Allowed {s:List Ty} (hs:OkS s) {t:Tu} (ht:OkU t):AFun PG nrx49 [scA s,.agg (tuC t)] (.int .i64 (q4q s t)):=by
 intro S
 refine wx49 ?_
 unfold Bx49
 have q:=q7h ht
 simp only [tuC] at q
 (try simp only [rwp,zA,zB,zC,zD,zE,zF,zG,zH,zI,rwb,reduceIte,scA,tuC])
 refine q06 q ?_
 (try simp only [rwp,zA,zB,zC,zD,zE,zF,zG,zH,zI,rwb,reduceIte])
 rw [showT_nil]
 cases a1:tuB t
 ·(try simp only [rwp,zA,zB,zC,zD,zE,zF,zG,zH,zI,rwb,reduceIte])
  exact q03 ⟨by simp [q4q,a1],rfl⟩
 ·(try simp only [rwp,zA,zB,zC,zD,zE,zF,zG,zH,zI,rwb,reduceIte])
  have q2:=c_rules_Find hs t.o.ty t.rl
  simp only [scA] at q2
  cases hq:q0q s t.o.ty t.rl with
  | none=>
   refine q0g (q2 S) ?_
   rintro ae S' ⟨rfl,rfl⟩
   rw [hq]
   dsimp only
   (try simp only [rwp,zA,zB,zC,zD,zE,zF,zG,zH,zI,rwb,reduceIte,C49_1,zeroR])
   exact q03 ⟨by simp [q4q,a1,hq],rfl⟩
  | some q3=>
   obtain ⟨i,k,r⟩:=q3
   obtain ⟨-,ty,h2,-,h4⟩:=q1v hq
   have hok:=(hs.at h2).at h4
   refine q0g (q2 S) ?_
   rintro ae S' ⟨rfl,rfl⟩
   rw [hq]
   dsimp only
   (try simp only [rwp,zA,zB,zC,zD,zE,zF,zG,zH,zI,rwb,reduceIte,q0y])
   refine q1a (q5p (enc:=tyC) (fi:=[]) (p:=fun u:Ty=>decide (u.name=t.s.o.ty)) (fun x _=>rfl) hs.types fun u _=>q7g (u:=u) (t:=t) S') ?_
   rw [typ_any]
   cases a2:(typF s t.s.o.ty).isSome
   ·(try simp only [rwp,zA,zB,zC,zD,zE,zF,zG,zH,zI,rwb,reduceIte,C49_1])
    exact q03 ⟨by simp only [q4q,a1,hq,a2];rfl,rfl⟩
   ·(try simp only [rwp,zA,zB,zC,zD,zE,zF,zG,zH,zI,rwb,reduceIte,C49_1])
    have q4:=c_Contains_Ref hok.refs ⟨t.s.o.ty,t.s.rl⟩
    simp only [rfC] at q4
    refine q06 q4 ?_
    cases a3:(r.refs.any fun f=>decide (t.s.o.ty=f.ty)&&decide (t.s.rl=f.rl))
    ·(try simp only [rwp,zA,zB,zC,zD,zE,zF,zG,zH,zI,rwb,reduceIte])
     exact q03 ⟨by simp only [q4q,a1,hq,a2,a3];rfl,rfl⟩
    ·(try simp only [rwp,zA,zB,zC,zD,zE,zF,zG,zH,zI,rwb,reduceIte])
     exact q03 ⟨by simp only [q4q,a1,hq,a2,a3];rfl,rfl⟩
def q0s (s:List Ty) (l:List Tu):List Tu:=l.filter fun t=>decide (q4q s t=0)
def ofF (l:List Tu) (n:Nd):List Tu:=l.filter fun t=>decide (t.o=n.o)&&decide (t.rl=n.rl)
theorem q3z {α:Type} {p:α→Bool} {l:List α} {i:Nat} {x:α} (h:l[i]?=some x):(l.take (i+1)).filter p=(l.take i).filter p++if p x then [x] else []:=by
 rw [q18 h,List.filter_append]
 congr 1
 cases hp:p x<;>simp [hp]
abbrev tyTu:Nat:=41
theorem LstN.tu {S0 S:q00} {v:AV} {l:List Tu} {t:Tu} {K:AV→q00→Prop} (hs:Sub S0 S) (h:LstN S0 S tyTu 6 v (l.map tuC)) (hl:l.length≤1000000) (hK:∀ v' S',Sub S0 S'→LstN S0 S' tyTu 6 v' ((l++[t]).map tuC)→K v' S'):apW S tyTu 6 96 v (.sl 6 [tuC t]) K:=by
 refine LstN.app hs h (fun r hr=>by rw [List.mem_singleton.1 hr];rfl) (q3r fun r hr=>by rw [List.mem_singleton.1 hr];rfl) (by simp only [List.length_map,List.length_singleton];omega) fun v' S' h1 h2 _=>?_
 exact hK v' S' h1 (by simpa using h2)
structure OkL (l:List Tu):Prop where
 n:l.length≤100000
 ok:∀ t∈l,OkU t
def smallF (s:List Ty) (l:List Tu):Bool:=fewF s 60&&decide ((l.length:Int)≤30)
theorem c_law14_Small {s:List Ty} (hs:OkS s) (l:List Tu):AFun PG nrx17 [scA s,.sl 6 (l.map tuC)] (.bool (smallF s l)):=by
 intro S
 refine wx17 ?_
 unfold Bx17
 (try simp only [rwp,zA,zB,zC,zD,zE,zF,zG,zH,zI,rwb,reduceIte,scA])
 refine q06 (by simpa only [scA] using c_law11_Few hs (most:=60) (by decide) (by decide)) ?_
 cases a1:fewF s 60<;>(try simp only [rwp,zA,zB,zC,zD,zE,zF,zG,zH,zI,rwb,reduceIte])<;>exact q03 ⟨by simp [smallF,a1],rfl⟩
def q4f {α σ:Type} (step:σ→α→Option (Bool×σ)):List α→σ→Option (Bool×σ)
 | [],a=>some (false,a)
 | x :: r,a=>match step a x with
  | none=>none
  | some (true,a')=>some (true,a')
  | some (false,a')=>q4f step r a'
structure q1g where
 s:List Ty
 of:Nd→List Nd
 who:Ob
def stepT (who:Ob) (ask:Nd→Nat→Option (Bool×Nat)) (w:Nat) (x:Nd):Option (Bool×Nat):=if x.rl=⟨#[]⟩ then some (decide (x.o=who),w) else ask x w
def stepA (over:ByteArray) (ask:Nd→Nat→Option (Bool×Nat)) (w:Nat) (x:Nd):Option (Bool×Nat):=if x.rl=⟨#[]⟩ then ask ⟨x.o,over⟩ w else some (false,w)
def comb (k:Int) (p:Option (Bool×Nat)) (q:Nat→Option (Bool×Nat)):Option (Bool×Nat):=match p with
 | none=>none
 | some (x,w1)=>if x=decide (k=2) then some (x,w1) else match q w1 with
  | none=>none
  | some (y,w2)=>some (if k=4 then !y else y,w2)
def exQ (E:q1g) (ask:Nd→Nat→Option (Bool×Nat)) (o:Ob):Nat→Ex→Nat→Option (Bool×Nat)
 | 0,_,_=>none
 | m+1,.mk k n ov ks,w=>if k=0 then ask ⟨o,n⟩ w else if k=1 then q4f (stepA ov ask) (E.of ⟨o,n⟩) w else match ks with
  | [a,b]=>comb k (exQ E ask o m a w) (exQ E ask o m b)
  | _=>none
def bodyQ (E:q1g) (ask:Nd→Nat→Option (Bool×Nat)) (n:Nd) (r:Rl) (w:Nat):Option (Bool×Nat):=
 if r.refs.length=0 then exQ E ask n.o 12 r.ex w else q4f (stepT E.who ask) (E.of n) w
def Bu {α:Type} (b:Int) (f g:α→Nat→Option (Bool×Nat)):Prop:=∀ n w x w',f n w=some (x,w')→w≤w'∧((w:Int)≤b→((w':Int)≤b→g n w=some (x,w'))∧(b<(w':Int)→g n w=none))
section
variable {b:Int} {E:q1g} {f g:Nd→Nat→Option (Bool×Nat)}
theorem Bu.fold {α:Type} {s t:Nat→α→Option (Bool×Nat)} (h:Bu b (fun x w=>s w x) (fun x w=>t w x)):Bu b (q4f s) (q4f t):=by
 intro l
 induction l with
 | nil=>
  intro w y w' e
  simp only [q4f,Option.some.injEq,Prod.mk.injEq] at e
  obtain ⟨rfl,rfl⟩:=e
  exact ⟨Nat.le_refl _,fun hw=>⟨fun _=>rfl,fun h=>by omega⟩⟩
 | cons x r ih=>
  intro w y w' e
  unfold q4f at e ⊢
  cases hs:s w x with
  | none=>rw [hs] at e;cases e
  | some q=>
   obtain ⟨z,w1⟩:=q
   rw [hs] at e
   obtain ⟨h1,h2⟩:=h x w z w1 hs
   dsimp only at h2
   cases z with
   | true=>
    simp only [Option.some.injEq,Prod.mk.injEq] at e
    obtain ⟨rfl,rfl⟩:=e
    exact ⟨h1,fun hw=>⟨fun h=>by rw [(h2 hw).1 h],fun h=>by rw [(h2 hw).2 h]⟩⟩
   | false=>
    obtain ⟨k1,k2⟩:=ih w1 y w' e
    refine ⟨by omega,fun hw=>?_⟩
    by_cases h4:(w1:Int)≤b
    ·rw [(h2 hw).1 h4]
     exact k2 h4
    ·rw [(h2 hw).2 (by omega)]
     exact ⟨fun h=>by omega,fun _=>rfl⟩
theorem Bu.told {who:Ob} (h:Bu b f g):Bu b (fun x w=>stepT who f w x) (fun x w=>stepT who g w x):=by
 intro x w y w' e
 dsimp only at e ⊢
 unfold stepT at e ⊢
 split at e
 ·rename_i h0
  simp only [if_pos h0]
  simp only [Option.some.injEq,Prod.mk.injEq] at e
  obtain ⟨rfl,rfl⟩:=e
  exact ⟨Nat.le_refl _,fun hw=>⟨fun _=>rfl,fun h=>by omega⟩⟩
 ·rename_i h0
  simp only [if_neg h0]
  exact h x w y w' e
theorem Bu.arr {over:ByteArray} (h:Bu b f g):Bu b (fun x w=>stepA over f w x) (fun x w=>stepA over g w x):=by
 intro x w y w' e
 dsimp only at e ⊢
 unfold stepA at e ⊢
 split at e
 ·rename_i h0
  simp only [if_pos h0]
  exact h _ w y w' e
 ·rename_i h0
  simp only [if_neg h0]
  simp only [Option.some.injEq,Prod.mk.injEq] at e
  obtain ⟨rfl,rfl⟩:=e
  exact ⟨Nat.le_refl _,fun hw=>⟨fun _=>rfl,fun h=>by omega⟩⟩
theorem Bu.ex (h:Bu b f g) (o:Ob):∀ m,Bu b (exQ E f o m) (exQ E g o m)
 | 0=>fun e w y w' h=>by cases h
 | m+1=>by
  have ih:=Bu.ex h o m
  rintro ⟨k,n,ov,ks⟩ w y w' e
  unfold exQ at e ⊢
  split at e
  ·rename_i h0
   simp only [if_pos h0]
   exact h _ w y w' e
  ·rename_i h0
   simp only [if_neg h0]
   split at e
   ·rename_i h1
    simp only [if_pos h1]
    exact Bu.fold (Bu.arr h) _ w y w' e
   ·rename_i h1
    simp only [if_neg h1]
    match ks,e with
    | [x1,x2],e=>
     dsimp only at e ⊢
     unfold comb at e ⊢
     cases hs:exQ E f o m x1 w with
     | none=>rw [hs] at e;cases e
     | some q=>
      obtain ⟨z,w1⟩:=q
      rw [hs] at e
      obtain ⟨k1,k2⟩:=ih x1 w z w1 hs
      dsimp only at e
      split at e
      ·rename_i h2
       simp only [Option.some.injEq,Prod.mk.injEq] at e
       obtain ⟨rfl,rfl⟩:=e
       exact ⟨k1,fun hw=>⟨fun h=>by rw [(k2 hw).1 h];dsimp only;rw [if_pos h2],fun h=>by rw [(k2 hw).2 h]⟩⟩
      ·rename_i h2
       cases hs2:exQ E f o m x2 w1 with
       | none=>rw [hs2] at e;cases e
       | some q2=>
        obtain ⟨z2,w2⟩:=q2
        rw [hs2] at e
        simp only [Option.some.injEq,Prod.mk.injEq] at e
        obtain ⟨e1,rfl⟩:=e
        obtain ⟨k3,k4⟩:=ih x2 w1 z2 w2 hs2
        refine ⟨by omega,fun hw=>?_⟩
        by_cases h4:(w1:Int)≤b
        ·rw [(k2 hw).1 h4]
         dsimp only
         rw [if_neg h2]
         exact ⟨fun h=>by rw [(k4 h4).1 h,← e1],fun h=>by rw [(k4 h4).2 h]⟩
        ·rw [(k2 hw).2 (by omega)]
         exact ⟨fun h=>by omega,fun _=>rfl⟩
    | [],e=>cases e
    | [_],e=>cases e
    | _ :: _ :: _ :: _,e=>cases e
theorem Bu.body (h:Bu b f g) (n:Nd) (r:Rl):Bu b (fun (_:Unit) w=>bodyQ E f n r w) (fun _ w=>bodyQ E g n r w):=by
 intro _ w y w' e
 dsimp only at e ⊢
 unfold bodyQ at e ⊢
 split at e
 ·rename_i h0
  simp only [if_pos h0]
  exact Bu.ex h _ _ _ w y w' e
 ·rename_i h0
  simp only [if_neg h0]
  exact Bu.fold (Bu.told h) _ w y w' e
end
def envE (s:List Ty) (l:List Tu) (who:Ob):q1g:=⟨s,fun n=>(ofF (q0s s l) n).map Tu.s,who⟩
theorem sc_may {s:List Ty} (h:scB s=true):∀ t∈s,∀ r∈t.rels,r.refs.length=0→mayE 12 r.ex=true:=by
 intro t ht r hr h0
 have h1:=List.all_eq_true.1 h t ht
 simp only [typB,Bool.and_eq_true] at h1
 have h2:=List.all_eq_true.1 h1.2 r hr
 simp only [relB,Bool.and_eq_true,Bool.or_eq_true] at h2
 rcases h2.2.2 with h3 | h3
 ·rw [List.length_eq_zero_iff.1 h0] at h3;cases h3
 ·exact h3
theorem counts_ok {s:List Ty} {l:List Tu} (h:OkL l):OkL (q0s s l):=⟨Nat.le_trans (List.length_filter_le _ _) h.n,fun t ht=>h.ok t (List.mem_filter.1 ht).1⟩
set_option maxRecDepth 4000
abbrev MD:Bool×List EK:=(true,[.str,.str,.str])
def ndA (n:Nd):AV:=.agg (ndC n)
theorem ke_nd:KE MD ndA:=⟨fun n=>by simp [ndA,ndC,q0o,q12,ekOk],fun n m h=>by
 obtain ⟨⟨a,b⟩,c⟩:=n
 obtain ⟨⟨d,e⟩,f⟩:=m
 simp only [ndA,ndC,AV.agg.injEq,List.cons.injEq,AV.str.injEq,and_true] at h
 obtain ⟨rfl,rfl,rfl⟩:=h
 rfl⟩
theorem foldE_cons {α σ:Type} {step:σ→α→Option (Bool×σ)} {x:α} {r:List α} {a:σ}:q4f step (x :: r) a=match step a x with
  | none=>none
  | some (true,a')=>some (true,a')
  | some (false,a')=>q4f step r a':=rfl
theorem KMap.lki {κ:Type} {M:Bool×List EK} {enc:κ→AV} {S:q00} {b:Nat} {f:κ→Option AV} {ok:Bool} {z:AV} {K:AV→Prop} (h:KMap M enc S b f) (he:KE M enc) (k:κ) (hk:K (q1r ok z (f k))):lkW S M ok z (.map (some b)) (enc k) K:=Eq.mpr (h.lk he k) hk
def PostQ (pv:AV) (X:q00→Prop) (St:Nat→q00→Prop) (q:Option (Bool×Nat)) (ae:AEnd) (S':q00):Prop:=match q with
 | some (b,w')=>ae=.ret (.bool b)∧St w' S'
 | none=>ae=.pan pv∧X S'
section
variable {xs:List Nd} {g:Nat} {fi ca:List AV} {St:Nat→q00→Prop} {step:Nat→Nd→Option (Bool×Nat)} {pv:AV} {X:q00→Prop}
theorem q5o (hb:xs.length≤1125899906842624) (hp:∀ x∈xs,∀ w S,St w S→ACalls PG g (fi++[.agg (ndC x)]++ca) S (PostQ pv X St (step w x))) {w:Nat} {S:q00} (h0:St w S) :
  ACalls PG nrx186 [.sl 3 (xs.map ndC),.func (.func g) fi ca] S fun ae S'=>match q4f step xs w with
   | some (b,w')=>(∃ i:Int,ae=.ret (.int .i64 i)∧decide (0≤i)=b)∧St w' S'
   | none=>ae=.pan pv∧X S':=by
 refine wx186 ?_
 unfold Bx186
 (try simp only [rwp,zA,zB,zC,zD,zE,zF,zG,zH,zI])
 refine LoopP.introS (fun i:Nat=>[(0,.sl 3 (xs.map ndC)),(1,.func (.func g) fi ca),(7,.int .i64 xs.length),(8,.int .i64 i)]) (fun i S'=>i≤xs.length∧∃ w',St w' S'∧q4f step (xs.drop i) w'=q4f step xs w) (fun i=>xs.length-i) 0 ⟨by omega,w,h0,rfl⟩ rfl ?_
 rintro i S' ⟨hi,w1,h1,h2⟩ r hr
 unfold C186_1
 (try simp only [rwp,zA,zB,zC,zD,zE,zF,zG,zH,zI])
 (refine q05 (fun hlt=>?_) (fun hlt=>?_)<;>(try simp only [hlc] at hlt))
 ·obtain ⟨x,hx⟩:=q0z hlt
  have q:=hp x (List.mem_of_getElem? hx) w1 S' h1
  rw [q11 hx,foldE_cons] at h2
  (try simp only [rwp,zA,zB,zC,zD,zE,zF,zG,zH,zI,hx,ndC])
  refine caW_ofv q ?_
  intro ae S2 hq
  unfold PostQ at hq
  cases hs:step w1 x with
  | none=>
   rw [hs] at hq h2
   obtain ⟨rfl,hx⟩:=hq
   show pqW _ _ _
   unfold pqW
   rw [← h2]
   exact ⟨rfl,hx⟩
  | some p=>
   obtain ⟨b,w2⟩:=p
   rw [hs] at hq h2
   obtain ⟨rfl,h3⟩:=hq
   dsimp only at h2 ⊢
   cases b with
   | true=>
    dsimp only at h2
    (try simp only [rwp,zA,zB,zC,zD,zE,zF,zG,zH,zI])
    refine q03 ?_
    rw [← h2]
    exact ⟨⟨i,rfl,by simp⟩,h3⟩
   | false=>
    dsimp only at h2
    (try simp only [rwp,zA,zB,zC,zD,zE,zF,zG,zH,zI])
    (simp (disch:=omega) only [q04])
    exact q0a rfl (hr (i+1) S2 ⟨by omega,w2,h3,h2⟩ (by omega))
 ·have e:xs.drop i=[]:=q2u hlt
  rw [e] at h2
  refine q03 ?_
  rw [← h2]
  exact ⟨⟨-1,rfl,rfl⟩,h1⟩
theorem q46 (hb:xs.length≤1125899906842624) (hp:∀ x∈xs,∀ w S,St w S→ACalls PG g (fi++[.agg (ndC x)]++ca) S (PostQ pv X St (step w x))) {w:Nat} {S:q00} (h0:St w S) :
  ACalls PG nrx147 [.sl 3 (xs.map ndC),.func (.func g) fi ca] S (PostQ pv X St (q4f step xs w)):=by
 refine wx147 ?_
 unfold Bx147
 refine q0g (q5o hb hp h0) ?_
 intro ae S' hq
 unfold PostQ
 cases hf:q4f step xs w with
 | none=>
  rw [hf] at hq
  obtain ⟨rfl,hx⟩:=hq
  exact ⟨rfl,hx⟩
 | some p=>
  obtain ⟨b,w2⟩:=p
  rw [hf] at hq
  obtain ⟨⟨i,rfl,h1⟩,h2⟩:=hq
  dsimp only
  (try simp only [rwp,zA,zB,zC,zD,zE,zF,zG,zH,zI])
  exact q03 ⟨by rw [h1],h2⟩
theorem q6k {w:Nat} {S:q00} (h0:St w S) :
  ACalls PG nrx147 [.nils,.func (.func g) fi ca] S (PostQ pv X St (q4f step [] w)):=by
 refine wx147 ?_
 unfold Bx147
 have q:AFunS PG nrx186 [.nils,.func (.func g) fi ca] S (.int .i64 (-1)):=by
  refine wx186 ?_
  unfold Bx186
  (try simp only [rwp,zA,zB,zC,zD,zE,zF,zG,zH,zI])
  refine LoopP.introS (fun _:Nat=>[(0,.nils),(1,.func (.func g) fi ca),(7,.int .i64 0),(8,.int .i64 0)]) (fun i S'=>S'=S) (fun i=>i) 0 rfl rfl ?_
  rintro i S' rfl r hr
  (try simp only [rwp,zA,zB,zC,zD,zE,zF,zG,zH,zI,rwb,reduceIte,C186_1,Int.lt_irrefl])
  exact q03 ⟨rfl,rfl⟩
 refine q1a q ?_
 (try simp only [rwp,zA,zB,zC,zD,zE,zF,zG,zH,zI])
 exact q03 ⟨rfl,h0⟩
def ofA (l:List Nd):Option AV:=if l=[] then none else some (.sl 3 (l.map ndC))
theorem q7k (hb:xs.length≤1125899906842624) (hp:∀ x∈xs,∀ w S,St w S→ACalls PG g (fi++[.agg (ndC x)]++ca) S (PostQ pv X St (step w x))) {w:Nat} {S:q00} (h0:St w S) :
  ACalls PG nrx147 [q1r false .nils (ofA xs),.func (.func g) fi ca] S (PostQ pv X St (q4f step xs w)):=by
 unfold ofA
 split
 ·rename_i h;subst h;exact q6k h0
 ·exact q46 hb hp h0
end
abbrev tySe:Nat:=94
structure PathE (es:List (AV×AV×Nat)) (P:List Nd):Prop where
 key:∀ x∈es,∃ n,x.1=ndA n
 len:es.length=P.length
 get:∀ n,mget es (ndA n)=if n∈P then some (.bool true) else none
def seC (E:q1g) (B:Int) (bo bp w:Nat):List AV:=[.sl 2 (E.s.map tyC),.map (some bo),.str E.who.ty,.str E.who.id,.int .i64 B,.int .i64 w,.map (some bp)]
def stE (E:q1g) (B:Int) (bc bo bp:Nat) (S0:q00) (w:Nat) (es:List (AV×AV×Nat)) (clk:Nat):q00:=supd (supd S0 bc (.cells tySe (seC E B bo bp w) 7)) bp (.map MD es clk)
section
variable {E:q1g} {B:Int} {bc bo bp:Nat} {S0:q00}
theorem stE_map {w:Nat} {es:List (AV×AV×Nat)} {clk:Nat}:q29 (stE E B bc bo bp S0 w es clk) bp=some (MD,es,clk):=mapObj_some.2 (by unfold stE;rw [q01,if_pos rfl])
end
theorem mfind_none {es:List (AV×AV×Nat)} {k:AV} (h:mget es k=none):q16 es k=none:=by
 unfold mget at h
 exact Option.map_eq_none_iff.1 h
theorem mget_snoc {k v k':AV} {c:Nat}:∀ {es:List (AV×AV×Nat)},mget (es++[(k,v,c)]) k'=match mget es k' with
  | some u=>some u
  | none=>if q19 k' k then some v else none
 | []=>by simp [mget,q16]
 | x :: r=>by
  rw [List.cons_append,q1q,q1q]
  split
  ·rfl
  ·exact mget_snoc
theorem ndA_eq (n m:Nd):q19 (ndA n) (ndA m)=decide (n=m):=by
 have hk:=ke_nd
 by_cases h:n=m
 ·subst h
  rw [decide_eq_true rfl]
  exact q75 (hk.ok n)
 ·rw [decide_eq_false h]
  cases hq:q19 (ndA n) (ndA m) with
  | false=>rfl
  | true=>exact absurd (hk.inj _ _ ((q3o (hk.ok n) (hk.ok m)).1 hq)) h
theorem PathE.push {es:List (AV×AV×Nat)} {P:List Nd} (h:PathE es P) {n:Nd} (hn:n ∉ P) (clk:Nat):PathE (es++[(ndA n,.bool true,clk)]) (n :: P) where
 key:=fun x hx=>by
  rcases List.mem_append.1 hx with h1 | h1
  ·exact h.key x h1
  ·rw [List.mem_singleton.1 h1];exact ⟨n,rfl⟩
 len:=by rw [List.length_append,h.len];rfl
 get:=fun m=>by
  rw [mget_snoc,h.get]
  by_cases h1:m∈P
  ·rw [if_pos h1,if_pos (List.mem_cons_of_mem _ h1)]
  ·rw [if_neg h1]
   dsimp only
   rw [ndA_eq]
   by_cases h2:m=n
   ·subst h2;simp
   ·rw [decide_eq_false h2,if_neg (by simp),if_neg (by simp [h1,h2])]
theorem PathE.map {E:q1g} {B:Int} {bc bo bp:Nat} {S0:q00} {es:List (AV×AV×Nat)} {P:List Nd} (h:PathE es P) {w clk:Nat}:KMap MD ndA (stE E B bc bo bp S0 w es clk) bp (fun n=>if n∈P then some (.bool true) else none):=
 ⟨es,clk,stE_map,fun x hx=>by obtain ⟨n,e⟩:=h.key x hx;rw [e];exact ke_nd.ok n,h.get⟩
section
variable {E:q1g} {B:Int} {bc bo bp:Nat} {S0:q00}
end
structure OfM (S0 S:q00) (t bo:Nat) (Ks:Nat→Prop) (f:Nd→List (List AV)) (es:List (AV×AV×Nat)) (clk:Nat):Prop where
 map:sget S bo=some (.map MD es clk)
 b0:sget S0 bo=none
 key:∀ x∈es,∃ n,x.1=ndA n
 nd:(es.map fun x=>x.2.2).Nodup
 ku:∀ (i j:Nat) (x y:AV×AV×Nat),es[i]?=some x→es[j]?=some y→x.1=y.1→i=j
 lt:∀ x∈es,x.2.2<clk
 no:∀ n,mget es (ndA n)=none→f n=[]
 yes:∀ n v,mget es (ndA n)=some v→f n≠[]∧LstN S0 S t 3 v (f n)∧q0n v bo∧∀ c,Ks c→q0n v c
 apart:∀ n m v u,n≠m→mget es (ndA n)=some v→mget es (ndA m)=some u→∀ b off k cap,u=.own b off k cap→q0n v b
 ks:∀ c,Ks c→c≠bo∧sget S c≠none
theorem q79 {bn:Nat}:∀ {es:List (AV×AV×Nat)} {i:Nat} {x:AV×AV×Nat},(es.map fun x=>x.2.2).Nodup→es[i]?=some x→x.2.2=bn→es.findIdx? (fun x=>x.2.2==bn)=some i:=by
 intro es i x hnd hx hb
 have hi:=(List.getElem?_eq_some_iff.1 hx).1
 rw [List.findIdx?_eq_some_iff_getElem]
 refine ⟨hi,?_,fun j hj=>?_⟩
 ·have:=(List.getElem?_eq_some_iff.1 hx).2
  simp [this,hb]
 ·intro hq
  have hj2:j<es.length:=by omega
  have h1:es[j].2.2=bn:=by simpa using hq
  have h2:es[i].2.2=bn:=by rw [(List.getElem?_eq_some_iff.1 hx).2];exact hb
  have:=(List.getElem_inj (xs:=es.map fun (x:AV×AV×Nat)=>x.2.2) (i:=j) (j:=i) (h₀:=by simpa using hj2) (h₁:=by simpa using hi) hnd).1 (by simp [h1,h2])
  omega
theorem mget_no {es:List (AV×AV×Nat)} {n:Nd} (hk:∀ x∈es,∃ n,x.1=ndA n) (h:mget es (ndA n)=none):∀ x∈es,x.1≠ndA n:=by
 induction es with
 | nil=>intro x hx;cases hx
 | cons y r ih=>
  rw [q1q] at h
  obtain ⟨m,hm⟩:=hk y (by simp)
  intro x hx
  split at h
  ·cases h
  ·rename_i hq
   rcases List.mem_cons.1 hx with rfl | hx
   ·intro e
    rw [e,ndA_eq] at hq
    simp at hq
   ·exact ih (fun z hz=>hk z (List.mem_cons_of_mem _ hz)) h x hx
theorem mfind_key {es:List (AV×AV×Nat)} {n:Nd} {i:Nat} {v:AV} {bn:Nat} (hk:∀ x∈es,∃ n,x.1=ndA n) (h:q16 es (ndA n)=some (i,v,bn)):es[i]?=some (ndA n,v,bn):=by
 obtain ⟨kk,h1,h2⟩:=q4a h
 obtain ⟨m,hm⟩:=hk _ (List.mem_of_getElem? h1)
 dsimp only at hm
 subst hm
 rw [ndA_eq] at h2
 rw [h1,of_decide_eq_true h2]
theorem mget_mset {es:List (AV×AV×Nat)} {n m:Nd} {v:AV} {clk:Nat} (hk:∀ x∈es,∃ n,x.1=ndA n):mget (mset es (ndA n) v clk).1 (ndA m)=if m=n then some v else mget es (ndA m):=by
 have hko:keysOk MD es:=fun x hx=>by obtain ⟨n,e⟩:=hk x hx;rw [e];exact ke_nd.ok n
 rw [q34,q66 (ke_nd.ok n) _ _ hko (ke_nd.ok m)]
 by_cases h:m=n
 ·subst h;simp
 ·rw [if_neg fun e=>h (ke_nd.inj _ _ e),if_neg h]
section
variable {S0 S:q00} {t bo:Nat} {Ks:Nat→Prop} {f:Nd→List (List AV)} {es:List (AV×AV×Nat)} {clk:Nat}
theorem OfM.put (h:OfM S0 S t bo Ks f es clk) {n:Nd} {v v':AV} {row:List AV} {S2:q00} {es':List (AV×AV×Nat)} {clk':Nat} (hv:mget es (ndA n)=some v∨(mget es (ndA n)=none∧v=.nils))
  (h2:LstN S0 S2 t 3 v' (f n++[row])) (hF:∀ c o,c≠bo→sget S c=some o→q0n v c→sget S2 c=some o∧q0n v' c) (hvb:q0n v' bo)
  (he:es'=(mset es (ndA n) v' clk).1) (hkey:∀ x∈es',∃ n,x.1=ndA n) (hnd:(es'.map fun x=>x.2.2).Nodup) (hku:∀ (i j:Nat) (x y:AV×AV×Nat),es'[i]?=some x→es'[j]?=some y→x.1=y.1→i=j) (hlt:∀ x∈es',x.2.2<clk') :
  OfM S0 (supd S2 bo (.map MD es' clk')) t bo Ks (fun m=>if m=n then f n++[row] else f m) es' clk':=by
 have hg:∀ m,mget es' (ndA m)=if m=n then some v' else mget es (ndA m):=fun m=>by rw [he,mget_mset h.key]
 have hva:∀ c,Ks c→q0n v c:=fun c hc=>by
  rcases hv with hv | ⟨-,rfl⟩
  ·exact (h.yes n v hv).2.2.2 c hc
  ·intro b off k cap e;cases e
 refine ⟨by rw [q01,if_pos rfl],h.b0,hkey,hnd,hku,hlt,fun m hm=>?_,fun m u hm=>?_,fun m p u x hmp hm hp=>?_,fun c hc=>⟨(h.ks c hc).1,?_⟩⟩
 ·rw [hg] at hm
  by_cases hmn:m=n
  ·rw [if_pos hmn] at hm;cases hm
  ·rw [if_neg hmn] at hm ⊢
   exact h.no m hm
 ·rw [hg] at hm
  by_cases hmn:m=n
  ·rw [if_pos hmn] at hm ⊢
   cases hm
   refine ⟨by simp,h2.upd hvb _,hvb,fun c hc=>?_⟩
   cases ho:sget S c with
   | none=>exact absurd ho (h.ks c hc).2
   | some o=>exact (hF c o (h.ks c hc).1 ho (hva c hc)).2
  ·rw [if_neg hmn] at hm ⊢
   obtain ⟨k1,k2,k3,k4⟩:=h.yes m u hm
   refine ⟨k1,LstN.upd ?_ k3 _,k3,k4⟩
   obtain ⟨hr,hl⟩:=k2
   refine ⟨hr,?_⟩
   rcases hl with hl | ⟨b,cap,rfl,q1,q2,q3⟩
   ·exact .inl hl
   ·refine .inr ⟨b,cap,rfl,q1,?_,q3⟩
    have hav:q0n v b:=by
     rcases hv with hv | ⟨-,rfl⟩
     ·exact h.apart n m v _ (Ne.symm hmn) hv hm b _ _ _ rfl
     ·intro b off k cap e;cases e
    exact (hF b _ (Ne.symm (k3 b _ _ _ rfl)) q2 hav).1
 ·rw [hg] at hm hp
  intro b off k cap hx
  have other:∀ (m:Nd) (u:AV),m≠n→mget es (ndA m)=some u→∀ b off k cap,u=.own b off k cap→q0n v' b:=by
   intro m u hmn hm b off k cap e
   subst e
   obtain ⟨k1,k2,k3,k4⟩:=h.yes m _ hm
   have hav:q0n v b:=by
    rcases hv with hv | ⟨-,rfl⟩
    ·exact h.apart n m v _ (Ne.symm hmn) hv hm b _ _ _ rfl
    ·intro b off k cap e;cases e
   obtain ⟨hr,hl⟩:=k2
   rcases hl with ⟨e,-⟩ | ⟨b1,cap1,e,q1,q2,q3⟩
   ·cases e
   ·cases e
    exact (hF b _ (Ne.symm (k3 b _ _ _ rfl)) q2 hav).2
  by_cases hmn:m=n
  ·rw [if_pos hmn] at hm
   cases hm
   have hpn:p≠n:=fun e=>hmp (hmn.trans e.symm)
   rw [if_neg hpn] at hp
   exact other p x hpn hp b off k cap hx
  ·rw [if_neg hmn] at hm
   by_cases hpn:p=n
   ·rw [if_pos hpn] at hp
    cases hp
    subst hx
    intro b1 off1 k1 cap1 e
    exact Ne.symm (other m u hmn hm b1 off1 k1 cap1 e b off k cap rfl)
   ·rw [if_neg hpn] at hp
    exact h.apart m p u x hmp hm hp b off k cap hx
 ·rw [q01,if_neg (Ne.symm (h.ks c hc).1)]
  cases ho:sget S c with
  | none=>exact absurd ho (h.ks c hc).2
  | some o=>rw [(hF c o (h.ks c hc).1 ho (hva c hc)).1];simp
theorem OfM.push (h:OfM S0 S t bo Ks f es clk) (hs:Sub S0 S) (n:Nd) {row:List AV} {bytes:Nat} {K:q00→Prop} (hr:row.length=3) (ho:ones row=true) (hb:((f n).length+1) * bytes≤140737488355328)
  (hK:∀ S' es' clk',Sub S0 S'→OfM S0 S' t bo Ks (fun m=>if m=n then f n++[row] else f m) es' clk'→(∀ c,Ks c→sget S' c=sget S c)→K S') :
  meW S MD .nils (.map (some bo)) (ndA n) fun v S=>exW 0 v fun v70=>exW 1 v fun v76=>apW S t 3 bytes v70 (.sl 3 [row]) fun v75 S=>mtW S (.map (some bo)) v76 v75 K:=by
 have keep:∀ {v v':AV} {S1 S2:q00},(∀ c,Ks c→q0n v c)→(∀ c o,c≠bo→sget S c=some o→q0n v c→sget S2 c=some o∧q0n v' c)→∀ es' clk',∀ c,Ks c→sget (supd S2 bo (.map MD es' clk')) c=sget S c:=by
  intro v v' S1 S2 hv hF es' clk' c hc
  rw [q01,if_neg (Ne.symm (h.ks c hc).1)]
  cases ho:sget S c with
  | none=>exact absurd ho (h.ks c hc).2
  | some o=>exact (hF c o (h.ks c hc).1 ho (hv c hc)).1
 cases hq:mget es (ndA n) with
 | none=>
  have hm:=mfind_none hq
  have hf:=h.no n hq
  refine ⟨bo,es,clk,rfl,h.map,ke_nd.ok n,?_⟩
  rw [hm]
  dsimp only
  rw [q50,q8l,q50]
  have hsub1:Sub S0 (supd S bo (.map MD (es++[(ndA n,.nils,clk)]) (clk+1))):=Sub.supd h.b0 hs
  refine LstN.app hsub1 (LstN.nil (S0:=S0)) (fun r hr'=>by rw [List.mem_singleton.1 hr'];exact hr) (q3r fun r hr'=>by rw [List.mem_singleton.1 hr'];exact ho) (by rw [hf] at hb;simpa using hb) fun v' S2 h1 h2 h3=>?_
  rw [List.nil_append] at h2
  have hbo2:=h3 bo _ (by rw [q01,if_pos rfl]) (fun b off k cap e=>by cases e)
  have hF:∀ c o,c≠bo→sget S c=some o→q0n .nils c→sget S2 c=some o∧q0n v' c:=fun c o hc hso ha=>h3 c o (by rw [q01,if_neg (Ne.symm hc)];exact hso) ha
  have hnd:((es++[(ndA n,AV.nils,clk)]).map fun x=>x.2.2).Nodup:=by
   rw [List.map_append,List.nodup_append]
   refine ⟨h.nd,by simp,fun a ha b hb=>?_⟩
   obtain ⟨x,hx,rfl⟩:=List.mem_map.1 ha
   have:=h.lt x hx
   simp at hb
   omega
  have hset:(mset es (ndA n) v' clk)=(es++[(ndA n,v',clk)],clk+1):=by unfold mset;rw [hm]
  have hku:∀ (i j:Nat) (x y:AV×AV×Nat),(es++[(ndA n,v',clk)])[i]?=some x→(es++[(ndA n,v',clk)])[j]?=some y→x.1=y.1→i=j:=by
   intro i j x y hx hy hxy
   have hno:=mget_no h.key hq
   rw [List.getElem?_append] at hx hy
   split at hx<;>split at hy
   ·exact h.ku i j x y hx hy hxy
   ·rw [List.getElem?_singleton] at hy
    split at hy
    ·cases hy
     exact absurd hxy (hno x (List.mem_of_getElem? hx))
    ·cases hy
   ·rw [List.getElem?_singleton] at hx
    split at hx
    ·cases hx
     exact absurd hxy.symm (hno y (List.mem_of_getElem? hy))
    ·cases hx
   ·rw [List.getElem?_singleton] at hx hy
    split at hx
    ·split at hy
     ·omega
     ·cases hy
    ·cases hx
  refine ⟨bo,MD,es++[(ndA n,.nils,clk)],clk+1,es.length,ndA n,.nils,clk,rfl,hbo2.1,rfl,q79 hnd (x:=(ndA n,.nils,clk)) (by simp) rfl,by simp,?_⟩
  have e:(es++[(ndA n,AV.nils,clk)]).set es.length (ndA n,v',clk)=es++[(ndA n,v',clk)]:=by simp
  rw [e]
  refine hK _ _ _ (Sub.supd h.b0 h1) (h.put (n:=n) (v:=.nils) (.inr ⟨hq,rfl⟩) (by rw [hf];exact h2) hF hbo2.2 (by rw [hset]) (fun x hx=>?_) (by simpa using hnd) hku fun x hx=>?_) (keep (S1:=S) (fun c _ b off k cap e=>by cases e) hF _ _)
  ·rcases List.mem_append.1 hx with hx | hx
   ·exact h.key x hx
   ·rw [List.mem_singleton.1 hx];exact ⟨n,rfl⟩
  ·rcases List.mem_append.1 hx with hx | hx
   ·have:=h.lt x hx;omega
   ·rw [List.mem_singleton.1 hx];exact Nat.lt_succ_self _
 | some v=>
  obtain ⟨hne,hl,hvb,hvk⟩:=h.yes n v hq
  have hm:∃ i bn,q16 es (ndA n)=some (i,v,bn):=by
   unfold mget at hq
   cases hmf:q16 es (ndA n) with
   | none=>rw [hmf] at hq;cases hq
   | some p=>
    obtain ⟨i,u,bn⟩:=p
    rw [hmf] at hq
    simp at hq
    subst hq
    exact ⟨i,bn,rfl⟩
  obtain ⟨i,bn,hm⟩:=hm
  have hi:=mfind_key h.key hm
  refine ⟨bo,es,clk,rfl,h.map,ke_nd.ok n,?_⟩
  rw [hm]
  dsimp only
  have e0:es.set i (ndA n,v,bn)=es:=by
   apply List.ext_getElem?
   intro j
   rw [List.getElem?_set]
   split
   ·rename_i hij
    subst hij
    rw [if_pos (List.getElem?_eq_some_iff.1 hi).1,hi]
   ·rfl
  rw [e0,q50,q8l,q50]
  have e1:supd S bo (.map MD es clk)=S:=by
   funext c
   unfold supd
   split
   ·rename_i hc;subst hc;exact h.map.symm
   ·rfl
  rw [e1]
  refine LstN.app hs hl (fun r hr'=>by rw [List.mem_singleton.1 hr'];exact hr) (q3r fun r hr'=>by rw [List.mem_singleton.1 hr'];exact ho) (by simpa using hb) fun v' S2 h1 h2 h3=>?_
  have hbo2:=h3 bo _ h.map hvb
  have hF:∀ c o,c≠bo→sget S c=some o→q0n v c→sget S2 c=some o∧q0n v' c:=fun c o _ hso ha=>h3 c o hso ha
  have hset:(mset es (ndA n) v' clk)=(es.set i (ndA n,v',bn),clk):=by unfold mset;rw [hm]
  refine ⟨bo,MD,es,clk,i,ndA n,v,bn,rfl,hbo2.1,rfl,q79 h.nd hi rfl,hi,?_⟩
  have hlt:=(List.getElem?_eq_some_iff.1 hi).1
  have hmap:(es.set i (ndA n,v',bn)).map (fun x=>x.2.2)=es.map fun x=>x.2.2:=by
   rw [List.map_set]
   apply List.ext_getElem?
   intro j
   rw [List.getElem?_set]
   split
   ·rename_i hij
    subst hij
    rw [if_pos (by simpa using hlt),List.getElem?_map,hi];rfl
   ·rfl
  refine hK _ _ _ (Sub.supd h.b0 h1) (h.put (n:=n) (v:=v) (.inl hq) h2 hF hbo2.2 (by rw [hset]) (fun x hx=>?_) (by rw [hmap];exact h.nd) (fun i2 j2 x y hx hy hxy=>?_) fun x hx=>?_) (keep (S1:=S) hvk hF _ _)
  ·rcases List.mem_or_eq_of_mem_set hx with hx | rfl
   ·exact h.key x hx
   ·exact ⟨n,rfl⟩
  ·have hget:∀ (k:Nat) (z:AV×AV×Nat),(es.set i (ndA n,v',bn))[k]?=some z→∃ z',es[k]?=some z'∧z'.1=z.1:=by
    intro k z hz
    rw [List.getElem?_set] at hz
    split at hz
    ·rename_i hik
     subst hik
     cases hz
     exact ⟨_,hi,rfl⟩
    ·exact ⟨z,hz,rfl⟩
   obtain ⟨x',hx',ex⟩:=hget i2 x hx
   obtain ⟨y',hy',ey⟩:=hget j2 y hy
   exact h.ku i2 j2 x' y' hx' hy' (by rw [ex,ey,hxy])
  ·rcases List.mem_or_eq_of_mem_set hx with hx | rfl
   ·exact h.lt x hx
   ·exact h.lt (ndA n,v,bn) (List.mem_of_getElem? hi)
end
def ndD:AV→Nd
 | .agg [.str a,.str b,.str c]=>⟨⟨a,b⟩,c⟩
 | _=>⟨⟨⟨#[]⟩,⟨#[]⟩⟩,⟨#[]⟩⟩
theorem ndD_A (n:Nd):ndD (ndA n)=n:=rfl
def frzM (f:Nd→List (List AV)) (es:List (AV×AV×Nat)):List (AV×AV×Nat):=es.map fun x=>(x.1,.sl 3 (f (ndD x.1)),x.2.2)
theorem mget_frz {f:Nd→List (List AV)} {n:Nd}:∀ {es:List (AV×AV×Nat)},(∀ x∈es,∃ n,x.1=ndA n)→mget (frzM f es) (ndA n)=(mget es (ndA n)).map fun _=>.sl 3 (f n)
 | [],_=>rfl
 | x :: r,h=>by
  obtain ⟨m,hm⟩:=h x (by simp)
  have ih:=mget_frz (f:=f) (n:=n) (es:=r) fun y hy=>h y (List.mem_cons_of_mem _ hy)
  unfold frzM at ih ⊢
  rw [List.map_cons,q1q,q1q,hm,ndA_eq]
  dsimp only
  by_cases e:n=m
  ·subst e
   simp [ndD_A]
  ·rw [decide_eq_false e,if_neg (by simp),if_neg (by simp)]
   exact ih
section
variable {S0 S:q00} {t bo:Nat} {Ks:Nat→Prop} {f:Nd→List (List AV)} {es:List (AV×AV×Nat)} {clk:Nat}
theorem OfM.fr (h:OfM S0 S t bo Ks f es clk) {S1:q00} (h1:∀ b,sget S1 b≠none→b=bo∨Ks b∨sget S0 b≠none):FrO S1 S (.map MD es clk) (.map MD (frzM f es) clk):=by
 refine .map MD es _ clk (by simp [frzM]) fun i e e' he he'=>?_
 unfold frzM at he'
 rw [List.getElem?_map,he] at he'
 simp only [Option.map_some,Option.some.injEq] at he'
 subst he'
 obtain ⟨n,hn⟩:=h.key e (List.mem_of_getElem? he)
 refine ⟨rfl,?_,rfl⟩
 dsimp only
 rw [hn,ndD_A]
 have hg:mget es (ndA n)=some e.2.1:=by
  cases hq:mget es (ndA n) with
  | none=>exact absurd hn (mget_no h.key hq e (List.mem_of_getElem? he))
  | some u=>
   unfold mget at hq
   cases hmf:q16 es (ndA n) with
   | none=>rw [hmf] at hq;cases hq
   | some p=>
    obtain ⟨j,u',bn⟩:=p
    have hj:=mfind_key h.key hmf
    have:=h.ku i j _ _ he hj hn
    subst this
    rw [he] at hj
    cases hj
    rw [hmf] at hq
    exact hq.symm
 obtain ⟨-,⟨hr,hl⟩,hvb,hvk⟩:=h.yes n _ hg
 rcases hl with ⟨e1,e2⟩ | ⟨b,cap,e1,q1,q2,q3,-,-⟩
 ·rw [e1,e2];exact .nils 3
 ·rw [e1] at hvb hvk ⊢
  refine .own t 3 b _ cap (f n) hr ?_ q2 rfl q3
  cases hs:sget S1 b with
  | none=>rfl
  | some o=>
   rcases h1 b (by rw [hs];simp) with rfl | hk | h0
   ·exact absurd rfl (hvb _ _ _ _ rfl)
   ·exact absurd rfl (hvk b hk _ _ _ _ rfl)
   ·exact absurd q1 h0
end
set_option maxRecDepth 4000
def ndT (t:Tu):Nd:=⟨t.o,t.rl⟩
section
variable {S0 S1:q00} {b1 b2 b3 t1 t2 t3:Nat} {x1 x2 x3:AV} {QF:AEnd→q00→Prop}
end
theorem frsh {S:q00} {b c:Nat} {o:AObj} (h:sget (supd S b o) c=none):c≠b∧sget S c=none:=by
 rw [q01] at h
 split at h
 ·cases h
 ·rename_i hn;exact ⟨fun e=>hn e.symm,h⟩
theorem q37 {Y N:Prop} (h:N):cnW (.bool false) Y N:=⟨fun h=>by (cases h),fun _=>h⟩
set_option maxRecDepth 4000
set_option maxRecDepth 4000
def LstW (S0 S:q00) (t sz:Nat) (v:AV) (rows:List (List AV)):Prop:=
 (∀ r∈rows,r.length=sz)∧((v=.nils∧rows=[])∨∃ b cap cs,v=.own b 0 rows.length cap∧sget S0 b=none∧sget S b=some (.cells t cs (cap * sz))∧cs.take (rows.length * sz)=rows.flatten∧rows.length * sz≤cs.length∧rows.length≤cap∧cap≤maxLen)
section
variable {S0 S:q00} {t sz bytes:Nat} {v:AV} {rows xs:List (List AV)} {K:AV→q00→Prop}
theorem LstW.nil:LstW S0 S t sz .nils []:=⟨fun r hr=>by (cases hr),.inl ⟨rfl,rfl⟩⟩
theorem LstW.upd (h:LstW S0 S t sz v rows) {c:Nat} (hc:q0n v c) (o:AObj):LstW S0 (supd S c o) t sz v rows:=by
 obtain ⟨hr,h⟩:=h
 refine ⟨hr,?_⟩
 rcases h with h | ⟨b,cap,cs,rfl,h1,h2,h3⟩
 ·exact .inl h
 ·exact .inr ⟨b,cap,cs,rfl,h1,by rw [q01,if_neg (hc b 0 _ _ rfl)];exact h2,h3⟩
theorem LstW.app (hs:Sub S0 S) (h:LstW S0 S t sz v rows) {x:List AV} (hx:x.length=sz) (ho:ones x=true) (hb:(rows.length+1) * bytes≤140737488355328)
  (hK:∀ v' S',Sub S0 S'→LstW S0 S' t sz v' (rows++[x])→(∀ c o,sget S c=some o→q0n v c→sget S' c=some o∧q0n v' c)→K v' S'):apW S t sz bytes v (.sl sz [x]) K:=by
 refine ⟨1,x,by simp [appX],ho,?_⟩
 obtain ⟨hr,h⟩:=h
 have hall:∀ r∈rows++[x],r.length=sz:=fun r hm=>(List.mem_append.1 hm).elim (hr r) fun h=>by rw [List.mem_singleton.1 h];exact hx
 have hfl:(rows++[x]).flatten.length=(rows.length+1) * sz:=by rw [q25 hall];simp
 rcases h with ⟨rfl,rfl⟩ | ⟨b,cap,cs,rfl,h1,h2,h3,h4,h5,h6⟩
 ·dsimp only
  simp only [List.length_nil,Nat.zero_add] at hb
  refine ⟨hb,?_⟩
  rw [if_neg (by decide)]
  intro b cap hbn k1 k2
  have hb0:=Sub.none hs hbn
  refine hK _ _ (hs.supd hb0) ⟨hall,.inr ⟨b,cap,x,by simp,hb0,by rw [q01,if_pos rfl],?_,by simp [hx],by simpa using k1,k2⟩⟩ fun c o hc _=>?_
  ·simp [List.take_of_length_le,hx]
  ·have hne:b≠c:=q0i hbn hc
   exact ⟨by rw [q01,if_neg hne];exact hc,fun b' off n cap h=>by cases h;exact Ne.symm hne⟩
 ·refine ⟨_,h2,h5,h6,h4,hb,fun b' cap' k1 k2 k3=>?_⟩
  rw [h3]
  have hb0:sget S0 b'=none:=by
   rcases k1 with rfl | k1
   ·exact h1
   ·exact Sub.none hs k1
  have hsub:Sub S0 (supd (sdel S b) b' (.cells t (rows.flatten++x) (cap' * sz))):=by
   refine Sub.supd hb0 fun c o hc=>?_
   have hne:b≠c:=by rintro rfl;rw [h1] at hc;cases hc
   rw [q0b,if_neg hne]
   exact hs c o hc
  refine hK _ _ hsub ⟨hall,.inr ⟨b',cap',rows.flatten++x,by simp,hb0,by rw [q01,if_pos rfl],?_,?_,by simpa using k2,k3⟩⟩ fun c o hc ha=>?_
  ·have e:rows.flatten++x=(rows++[x]).flatten:=by simp
   rw [e,List.take_of_length_le (by rw [hfl];simp)]
  ·have e:rows.flatten++x=(rows++[x]).flatten:=by simp
   rw [e,hfl];simp
  ·have hcb:c≠b:=ha b 0 _ _ rfl
   have hcb':b'≠c:=by
    rcases k1 with rfl | k1
    ·exact Ne.symm hcb
    ·exact q0i k1 hc
   exact ⟨by rw [q01,if_neg hcb',q0b,if_neg (Ne.symm hcb)];exact hc,fun b'' off n cap h=>by cases h;exact Ne.symm hcb'⟩
theorem LstW.one (h:LstW S0 S t sz v rows):Go.HL.one v=true:=by
 obtain ⟨hr,h⟩:=h
 rcases h with ⟨rfl,-⟩ | ⟨b,cap,cs,rfl,-⟩<;>rfl
theorem LstW.cut {x:List AV} (h:LstW S0 S t sz v (rows++[x])):∃ b cap,v=.own b 0 (rows.length+1) cap∧LstW S0 S t sz (.own b 0 rows.length cap) rows∧rows.length+1≤cap:=by
 obtain ⟨hr,h⟩:=h
 rcases h with ⟨rfl,h⟩ | ⟨b,cap,cs,rfl,h1,h2,h3,h4,h5,h6⟩
 ·simp at h
 ·have hr':∀ r∈rows,r.length=sz:=fun r hm=>hr r (List.mem_append.2 (.inl hm))
  simp only [List.length_append,List.length_singleton] at *
  refine ⟨b,cap,rfl,⟨hr',.inr ⟨b,cap,cs,rfl,h1,h2,?_,?_,by omega,h6⟩⟩,h5⟩
  ·have hl:=q25 hr'
   have h7:(cs.take ((rows.length+1) * sz)).take (rows.length * sz)=rows.flatten:=by
    rw [h3,List.flatten_append,List.take_append_of_le_length (by rw [hl];exact Nat.le_refl _),List.take_of_length_le (by rw [hl];exact Nat.le_refl _)]
   rw [List.take_take,Nat.min_eq_left (Nat.mul_le_mul_right _ (by omega))] at h7
   exact h7
  ·exact Nat.le_trans (Nat.mul_le_mul_right _ (by omega)) h4
theorem LstW.ln {K:AV→Prop} {S':q00} (h:LstW S0 S t sz v rows):lnW S' 1 v K=K (.int .i64 rows.length):=by
 obtain ⟨hr,⟨rfl,rfl⟩ | ⟨b,cap,cs,rfl,-⟩⟩:=h
 ·rw [q8j];rfl
 ·rw [lnW_own]
theorem LstW.get (h:LstW S0 S t sz v rows) {i:Nat} {r:List AV} (hi:rows[i]?=some r):∃ b cap cs,v=.own b 0 rows.length cap∧q1z S b=some cs∧(cs.drop (i * sz)).take sz=r∧i * sz+sz≤cs.length:=by
 obtain ⟨hr,⟨rfl,rfl⟩ | ⟨b,cap,cs,rfl,h1,h2,h3,h4,h5,h6⟩⟩:=h
 ·simp at hi
 ·have hlt:=(List.getElem?_eq_some_iff.1 hi).1
  have hrl:=hr r (List.mem_of_getElem? hi)
  have hle:i * sz+sz≤rows.length * sz:=by
   calc i * sz+sz=(i+1) * sz:=by rw [Nat.succ_mul]
    _≤rows.length * sz:=Nat.mul_le_mul_right _ hlt
  refine ⟨b,cap,cs,rfl,q08 (objAt_some.2 h2),?_,by omega⟩
  apply List.ext_getElem?
  intro j
  rw [List.getElem?_take]
  by_cases hj:j<sz
  ·rw [if_pos hj,List.getElem?_drop]
   have hu:r[j]?=some (r[j]'(by omega)):=List.getElem?_eq_getElem (by omega)
   have:=q6c hr hi hu
   rw [← h3,List.getElem?_take,if_pos (by omega)] at this
   rw [this,hu]
  ·rw [if_neg hj,List.getElem?_eq_none_iff.2 (by omega)]
end
abbrev tyS5:Nat:=106
abbrev tyFa:Nat:=175
def s5C (E:q1g) (L:List Tu) (B:Int) (w:Nat) (pv:AV) (over:Bool):List AV:=[.sl 2 (E.s.map tyC),.sl 6 (L.map tuC),.str E.who.ty,.str E.who.id,.int .i64 B,.int .i64 w,pv,.bool over]
structure RfOk (E:q1g) (L:List Tu) (B:Int) (bc:Nat) (S0:q00):Prop where
 s:OkS E.s
 may:∀ t∈E.s,∀ r∈t.rels,r.refs.length=0→mayE 12 r.ex=true
 nb:sget S0 bc=none
 lst:OkL L
 of:∀ n,E.of n=(ofF L n).map Tu.s
 B:B≤100000
def StR (E:q1g) (L:List Tu) (B:Int) (bc:Nat) (S0:q00) (P:List Nd) (over:Bool) (w:Nat) (S:q00):Prop:=
 (over=false→(w:Int)≤B)∧Sub S0 S∧∃ pv,q0h S bc=some (tyS5,s5C E L B w pv over,8)∧LstW S0 S tyFa 3 pv (P.reverse.map ndC)∧q0n pv bc
section
variable {E:q1g} {L:List Tu} {B:Int} {bc:Nat} {S0:q00} {P:List Nd} {ask:Nd→Nat→Option (Bool×Nat)}
theorem ob_dec (a b:Ob):decide (a=b)=(decide (a.ty=b.ty)&&decide (a.id=b.id)):=by
 rw [Bool.eq_iff_iff]
 cases a;cases b
 simp
theorem seen {P:List Nd} {n:Nd} {i:Nat} (h:∀ (j:Nat) (m:Nd),j<i→P.reverse[j]?=some m→¬ m=n) (hi:P.length≤i):n ∉ P:=fun hn=>by
 obtain ⟨j,hj⟩:=List.getElem?_of_mem (List.mem_reverse.2 hn)
 have hlt:=(List.getElem?_eq_some_iff.1 hj).1
 rw [List.length_reverse] at hlt
 exact h j n (by omega) hj rfl
theorem StR.set (h:RfOk E L B bc S0) {S:q00} {pv:AV} {over:Bool} {w:Nat} {cs:List AV} (hw:over=false→(w:Int)≤B) (hsub:Sub S0 S) (hlst:LstW S0 S tyFa 3 pv (P.reverse.map ndC)) (ha:q0n pv bc) (hcs:cs=s5C E L B w pv over):StR E L B bc S0 P over w (supd S bc (.cells tyS5 cs 8)):=by
 subst hcs
 exact ⟨hw,Sub.supd h.nb hsub,pv,by rw [objAt_supd,if_pos rfl],hlst.upd ha _,ha⟩
end
set_option maxRecDepth 4000
theorem q4y:∀ (vs cs:List AV) (off:Nat),off+vs.length≤cs.length→q1e cs off vs=cs.take off++(vs++cs.drop (off+vs.length))
 | [],cs,off,h=>by simp [q1e]
 | v :: r,cs,off,h=>by
  simp only [List.length_cons] at h
  have ih:=q4y r (cs.set off v) (off+1) (by rw [List.length_set];omega)
  show q1e (cs.set off v) (off+1) r=_
  rw [ih]
  have hlt:off<cs.length:=by omega
  have e1:(cs.set off v).take (off+1)=cs.take off++[v]:=by
   rw [List.set_eq_take_append_cons_drop,if_pos hlt,List.take_append,List.length_take,Nat.min_eq_left (by omega)]
   have:off+1-off=1:=by omega
   rw [this,List.take_of_length_le (by rw [List.length_take];omega)]
   rfl
  have e2:(cs.set off v).drop (off+1+r.length)=cs.drop (off+(v :: r).length):=by
   rw [List.drop_set_of_lt (by omega)]
   congr 1
   simp only [List.length_cons]
   omega
  rw [e1,e2,List.append_assoc]
  rfl
section
variable {α:Type} {enc:α→List AV} {sz:Nat}
def upv (v:Nat→α) (i:Nat) (x:α):Nat→α:=fun k=>if k=i then x else v k
def fl (enc:α→List AV) (n:Nat) (v:Nat→α):List AV:=((vl n v).map enc).flatten
theorem sw_upv {v:Nat→α} {i j:Nat}:upv (upv v i (v j)) j (v i)=sw v i j:=rfl
theorem fl_rows (he:∀ x,(enc x).length=sz) {n:Nat} {v:Nat→α}:∀ r∈(vl n v).map enc,r.length=sz:=fun r hr=>by
 obtain ⟨x,-,rfl⟩:=List.mem_map.1 hr
 exact he x
theorem q1s (he:∀ x,(enc x).length=sz) {n:Nat} {v:Nat→α}:(fl enc n v).length=n * sz:=by
 unfold fl
 rw [q25 (fl_rows he),List.length_map,q1h]
theorem vl_add {n k:Nat} {v:Nat→α}:vl (n+k) v=vl n v++(List.range' n k).map v:=by
 unfold vl
 rw [← List.map_append,List.range_eq_range',List.range_eq_range']
 congr 1
 have:=List.range'_append (s:=0) (m:=n) (n:=k) (step:=1)
 rw [show 0+1 * n=n by omega] at this
 exact this.symm
theorem q6t {n:Nat} {v:Nat→α}:vl (n+1) v=vl n v++[v n]:=by rw [vl_add];rfl
theorem fl_split (he:∀ x,(enc x).length=sz) {n i:Nat} (hi:i≤n) {v:Nat→α}:∃ rest,fl enc n v=fl enc i v++rest:=by
 obtain ⟨k,rfl⟩:∃ k,n=i+k:=⟨n-i,by omega⟩
 refine ⟨(((List.range' i k).map v).map enc).flatten,?_⟩
 unfold fl
 rw [vl_add,List.map_append,List.flatten_append]
theorem fl_take (he:∀ x,(enc x).length=sz) {n i:Nat} (hi:i≤n) {v:Nat→α}:(fl enc n v).take (i * sz)=fl enc i v:=by
 obtain ⟨rest,e⟩:=fl_split (v:=v) he hi
 rw [e,List.take_append_of_le_length (by rw [q1s he];exact Nat.le_refl _),List.take_of_length_le (by rw [q1s he];exact Nat.le_refl _)]
theorem fl_succ {n:Nat} {v:Nat→α}:fl enc (n+1) v=fl enc n v++enc (v n):=by
 unfold fl
 rw [q6t,List.map_append,List.flatten_append]
 simp
theorem fl_drop (he:∀ x,(enc x).length=sz) {n i:Nat} (hi:i<n) {v:Nat→α}:∃ rest,(fl enc n v).drop (i * sz)=enc (v i)++rest:=by
 obtain ⟨rest,e⟩:=fl_split (v:=v) (i:=i+1) he hi
 refine ⟨rest,?_⟩
 rw [e,fl_succ,List.append_assoc,List.drop_append_of_le_length (by rw [q1s he];exact Nat.le_refl _),List.drop_of_length_le (by rw [q1s he];exact Nat.le_refl _)]
 rfl
theorem fl_cong {n:Nat} {v w:Nat→α} (h:∀ i,i<n→v i=w i):fl enc n v=fl enc n w:=by
 unfold fl vl
 congr 2
 exact List.map_congr_left fun i hi=>h i (by simpa using hi)
theorem fl_fill (he:∀ x,(enc x).length=sz) {n i:Nat} (hi:i<n) {v:Nat→α} {x:α}:q1e (fl enc n v) (i * sz) (enc x)=fl enc n (upv v i x):=by
 have hle:i * sz+sz≤n * sz:=by
  calc i * sz+sz=(i+1) * sz:=by rw [Nat.succ_mul]
   _≤n * sz:=Nat.mul_le_mul_right _ hi
 rw [q4y _ _ _ (by rw [he,q1s he];exact hle),fl_take he (by omega),he]
 obtain ⟨k,rfl⟩:∃ k,n=i+1+k:=⟨n-(i+1),by omega⟩
 have e:∀ w:Nat→α,fl enc (i+1+k) w=fl enc i w++(enc (w i)++(((List.range' (i+1) k).map w).map enc).flatten):=by
  intro w
  have:fl enc (i+1+k) w=fl enc (i+1) w++(((List.range' (i+1) k).map w).map enc).flatten:=by
   unfold fl
   rw [vl_add,List.map_append,List.flatten_append]
  rw [this,fl_succ,List.append_assoc]
 rw [e v,e (upv v i x)]
 have e1:fl enc i (upv v i x)=fl enc i v:=fl_cong fun j hj=>if_neg (by omega)
 have e2:(List.range' (i+1) k).map (upv v i x)=(List.range' (i+1) k).map v:=List.map_congr_left fun j hj=>if_neg (by simp at hj;omega)
 have e3:upv v i x i=x:=if_pos rfl
 rw [e1,e2,e3]
 have hd:∀ R:List AV,(fl enc i v++(enc (v i)++R)).drop (i * sz+sz)=R:=fun R=>by
  rw [← List.append_assoc,List.drop_left' (by rw [List.length_append,q1s he,he])]
 rw [hd]
end
def OwnL {α:Type} (S0 S:q00) (t sz:Nat) (enc:α→List AV) (a:AV) (n:Nat) (v:Nat→α):Prop:=
 (a=.nils∧n=0)∨∃ b cap,a=.own b 0 n cap∧sget S0 b=none∧sget S b=some (.cells t (fl enc n v) (cap * sz))∧n≤cap∧cap≤maxLen
theorem OwnL.lstW {α:Type} {S0 S:q00} {t sz:Nat} {enc:α→List AV} (he:∀ x,(enc x).length=sz) {a:AV} {n:Nat} {v:Nat→α} (h:OwnL S0 S t sz enc a n v):LstW S0 S t sz a ((vl n v).map enc):=by
 refine ⟨fl_rows he,?_⟩
 rcases h with ⟨rfl,rfl⟩ | ⟨b,cap,rfl,h1,h2,h3,h4⟩
 ·exact .inl ⟨rfl,rfl⟩
 ·refine .inr ⟨b,cap,_,?_,h1,h2,?_,?_,?_,h4⟩
  ·rw [List.length_map,q1h]
  ·rw [List.length_map,q1h,List.take_of_length_le (by rw [q1s he];exact Nat.le_refl _)];rfl
  ·rw [List.length_map,q1h,q1s he];exact Nat.le_refl _
  ·rw [List.length_map,q1h];exact h3
def at' {α:Type} [Inhabited α] (l:List α):Nat→α:=fun i=>l.getD i default
theorem vl_at {α:Type} [Inhabited α] (l:List α):vl l.length (at' l)=l:=vl_of l default
instance:Inhabited Tu:=⟨⟨⟨⟨#[]⟩,⟨#[]⟩⟩,⟨#[]⟩,⟨⟨⟨#[]⟩,⟨#[]⟩⟩,⟨#[]⟩⟩⟩⟩
instance:Inhabited Ob:=⟨⟨⟨#[]⟩,⟨#[]⟩⟩⟩
theorem q27 (t:Tu):(tuC t).length=6:=rfl
theorem c_Clone {l:List Tu} (hb:l.length≤100000) (S:q00):ACalls PG nrx113 [.sl 6 (l.map tuC)] S fun ae S'=>∃ a,ae=.ret a∧Sub S S'∧OwnL S S' tyTu 6 tuC a l.length (at' l):=by
 refine wx113 ?_
 unfold Bx113
 have hfl:fl tuC l.length (at' l)=(l.map tuC).flatten:=by unfold fl;rw [vl_at]
 have app:bsW S tyTu 6 [] fun v5 S2=>apW S2 tyTu 6 96 v5 (.sl 6 (l.map tuC)) fun v7 S1=>rtW [.tmp v7] (fun ae S'=>∃ a,ae=.ret a∧Sub S S'∧OwnL S S' tyTu 6 tuC a l.length (at' l)) S1:=by
  refine ⟨trivial,fun b hb0=>?_⟩
  refine ⟨l.length,(l.map tuC).flatten,by simp [appX],q3r fun r hr=>by obtain ⟨t,-,rfl⟩:=List.mem_map.1 hr;rfl,?_⟩
  refine ⟨[],by rw [q01,if_pos rfl];rfl,Nat.le_refl _,Nat.zero_le _,by simp,by simp only [List.length_nil];omega,fun b' cap' k1 k2 k3=>?_⟩
  have hb':sget S b'=none:=by
   rcases k1 with rfl | k1
   ·exact hb0
   ·rw [q01] at k1
    split at k1
    ·cases k1
    ·exact k1
  refine q03 ⟨_,rfl,Sub.supd hb' (fun c o hc=>?_),.inr ⟨b',cap',by simp,hb',by rw [q01,if_pos rfl,hfl];simp,by simpa using k2,k3⟩⟩
  have hne:b≠c:=q0i hb0 hc
  rw [q0b,if_neg hne,q01,if_neg hne]
  exact hc
 cases l with
 | nil=>exact ⟨q37 app,⟨fun _=>q03 ⟨_,rfl,Sub.refl _,.inl ⟨rfl,rfl⟩⟩,fun h=>by cases h⟩⟩
 | cons t r=>exact q37 app
section
variable {S0 S:q00} {a:AV} {n:Nat} {u:Nat→Tu} {g:Nat} {fi ca:List AV} {p:Tu→Bool}
theorem c_IndexT (h:OwnL S0 S tyTu 6 tuC a n u) (hb:n≤100000) (hp:∀ i,i<n→AFun PG g (fi++[.agg (tuC (u i))]++ca) (.bool (p (u i)))) :
  ACalls PG nrx155 [a,.func (.func g) fi ca] S fun ae S'=>S'=S∧((ae=.ret (.int .i64 (-1))∧∀ i,i<n→p (u i)=false)∨∃ k:Nat,k<n∧ae=.ret (.int .i64 k)∧p (u k)=true∧∀ i,i<k→p (u i)=false):=by
 refine wx155 ?_
 unfold Bx155
 have hl:=h.lstW q27
 rw [hl.ln,List.length_map,q1h]
 refine LoopP.introS (fun i:Nat=>[(0,a),(1,.func (.func g) fi ca),(7,.int .i64 n),(8,.int .i64 i)]) (fun i S'=>S'=S∧i≤n∧∀ j,j<i→p (u j)=false) (fun i=>n-i) 0 ⟨rfl,by omega,fun j hj=>by omega⟩ rfl ?_
 rintro i S' ⟨rfl,hi,hno⟩ kk hkk
 (try simp only [rwp,zA,zB,zC,zD,zE,zF,zG,zH,zI,rwb,reduceIte,C155_1])
 (refine q05 (fun hlt=>?_) (fun hlt=>?_)<;>(try simp only [hlc] at hlt))
 ·have hin:i<n:=by omega
  rcases h with ⟨rfl,e⟩ | ⟨b,cap,rfl,h1,h2,h3,h4⟩
  ·omega
  ·have hc:=q08 (objAt_some.2 h2)
   obtain ⟨rest,hd⟩:=fl_drop (v:=u) q27 hin
   rw [show tuC (u i)=[.str (u i).o.ty,.str (u i).o.id,.str (u i).rl,.str (u i).s.o.ty,.str (u i).s.o.id,.str (u i).s.rl] from rfl] at hd
   simp only [List.cons_append,List.nil_append] at hd
   (try simp only [rwp,zA,zB,zC,zD,zE,zF,zG,zH,zI,rwb,reduceIte,hc,Int.toNat_natCast,Nat.zero_add,hd])
   refine ⟨hlt,?_⟩
   have q:=hp i hin
   rw [show tuC (u i)=[.str (u i).o.ty,.str (u i).o.id,.str (u i).rl,.str (u i).s.o.ty,.str (u i).s.o.id,.str (u i).s.rl] from rfl] at q
   refine caW_purev q ?_
   cases hq:p (u i)
   ·(try simp only [rwp,zA,zB,zC,zD,zE,zF,zG,zH,zI,rwb,reduceIte])
    (simp (disch:=omega) only [q04])
    refine q0a rfl (hkk (i+1) _ ⟨rfl,by omega,fun j hj=>?_⟩ (by omega))
    by_cases e:j=i
    ·rw [e];exact hq
    ·exact hno j (by omega)
   ·(try simp only [rwp,zA,zB,zC,zD,zE,zF,zG,zH,zI,rwb,reduceIte])
    exact q03 ⟨rfl,.inr ⟨i,hin,rfl,hq,hno⟩⟩
 ·(try simp only [rwp,zA,zB,zC,zD,zE,zF,zG,zH,zI,rwb,reduceIte])
  exact q03 ⟨rfl,.inl ⟨rfl,fun j hj=>hno j (by omega)⟩⟩
end
theorem filter_none {α:Type} {p:α→Bool} {n:Nat} {u:Nat→α} (h:∀ i,i<n→p (u i)=true):(vl n u).filter p=vl n u:=by
 rw [List.filter_eq_self]
 intro x hx
 obtain ⟨i,hi,rfl⟩:=List.mem_map.1 hx
 exact h i (by simpa using hi)
theorem c_DeleteT {S0 S:q00} {a:AV} {n:Nat} {u:Nat→Tu} {g:Nat} {fi ca:List AV} {p:Tu→Bool} (hs:Sub S0 S) (h:OwnL S0 S tyTu 6 tuC a n u) (hb:n≤100000) (hp:∀ i,i<n→AFun PG g (fi++[.agg (tuC (u i))]++ca) (.bool (p (u i)))) :
  ACalls PG nrx112 [a,.func (.func g) fi ca] S fun ae S'=>∃ a',ae=.ret a'∧Sub S0 S'∧LstW S0 S' tyTu 6 a' (((vl n u).filter fun t=>!p t).map tuC):=by
 refine wx112 ?_
 unfold Bx112
 refine q0g (c_IndexT h hb hp) ?_
 rintro ae S' ⟨rfl,⟨rfl,hno⟩ | ⟨k,hk,rfl,hpk,hno⟩⟩
 ·dsimp only
  (try simp only [rwp,zA,zB,zC,zD,zE,zF,zG,zH,zI,rwb,reduceIte])
  refine q03 ⟨a,rfl,hs,?_⟩
  rw [filter_none (p:=fun t=>!p t) (n:=n) (u:=u) fun i hi=>by simp [hno i hi]]
  exact h.lstW q27
 ·rcases h with ⟨rfl,e⟩ | ⟨b,cap,rfl,h1,h2,h3,h4⟩
  ·omega
  ·dsimp only
   (try simp only [rwp,zA,zB,zC,zD,zE,zF,zG,zH,zI,rwb,reduceIte])
   rw [decide_eq_false (show ¬ (k:Int)=-1 by omega)]
   (try simp only [rwp,zA,zB,zC,zD,zE,zF,zG,zH,zI,rwb,reduceIte])
   (simp (disch:=omega) only [q04])
   refine LoopP.introS (fun x:Nat×Nat=>[(0,.own b 0 n cap),(1,.func (.func g) fi ca),(5,.int .i64 x.1),(6,.int .i64 x.2)])
    (fun x S2=>x.1<x.2∧x.2≤n∧∃ v,S2=supd S' b (.cells tyTu (fl tuC n v) (cap * 6))∧vl x.1 v=(vl x.2 u).filter (fun t=>!p t)∧∀ i,x.2≤i→v i=u i) (fun x=>n-x.2) (k,k+1)
    ⟨by dsimp only;omega,by dsimp only;omega,u,?_,?_,fun _ _=>rfl⟩ rfl ?_
   ·funext c
    unfold supd
    split
    ·rename_i e;subst e;exact h2
    ·rfl
   ·dsimp only
    rw [q6t,List.filter_append,filter_none (p:=fun t=>!p t) (n:=k) (u:=u) fun i hi=>by simp [hno i hi]]
    simp [hpk]
   ·rintro ⟨i,j⟩ S2 ⟨hij,hj,v,rfl,hv,hr⟩ kk hkk
    dsimp only at hij hj hv hr ⊢
    (try simp only [rwp,zA,zB,zC,zD,zE,zF,zG,zH,zI,rwb,reduceIte,C112_1])
    have ho:q0h (supd S' b (.cells tyTu (fl tuC n v) (cap * 6))) b=some (tyTu,fl tuC n v,cap * 6):=q0f
    have hc:=q08 ho
    (refine q05 (fun hlt=>?_) (fun hlt=>?_)<;>(try simp only [hlc] at hlt))
    ·have hjn:j<n:=by omega
     obtain ⟨rest,hd⟩:=fl_drop (v:=v) q27 hjn
     rw [hr j (Nat.le_refl _)] at hd
     have ec:tuC (u j)=[.str (u j).o.ty,.str (u j).o.id,.str (u j).rl,.str (u j).s.o.ty,.str (u j).s.o.id,.str (u j).s.rl]:=rfl
     rw [ec] at hd
     simp only [List.cons_append,List.nil_append] at hd
     (try simp only [rwp,zA,zB,zC,zD,zE,zF,zG,zH,zI,rwb,reduceIte,hc,Int.toNat_natCast,Nat.zero_add,hd])
     refine ⟨hlt,?_⟩
     have q:=hp j hjn
     rw [ec] at q
     refine caW_purev q ?_
     have fs:(vl (j+1) u).filter (fun t=>!p t)=(vl j u).filter (fun t=>!p t)++if p (u j) then [] else [u j]:=by
      rw [q6t,List.filter_append]
      congr 1
      cases hq:p (u j)<;>simp [hq]
     cases hq:p (u j)
     ·rw [hq] at fs
      have ff:=fl_fill (v:=v) (x:=u j) q27 (show i<n by omega)
      rw [ec] at ff
      (try simp only [rwp,zA,zB,zC,zD,zE,zF,zG,zH,zI,rwb,reduceIte,ho,Int.toNat_natCast,Nat.zero_add,ff])
      refine ⟨by omega,?_⟩
      have fits:i * 6+6≤(fl tuC n v).length:=by rw [q1s q27];omega
      (simp (disch:=omega) only [q04])
      (try simp only [rwp,zA,zB,zC,zD,zE,zF,zG,zH,zI,rwb,reduceIte,fits,q0j])
      refine q0a rfl (hkk (i+1,j+1) _ ⟨by dsimp only;omega,by dsimp only;omega,upv v i (u j),rfl,?_,fun m hm=>?_⟩ (by dsimp only;omega))
      ·dsimp only
       rw [fs,← hv,q6t]
       have e1:vl i (upv v i (u j))=vl i v:=by unfold vl;exact List.map_congr_left fun m hm=>if_neg (by simp at hm;omega)
       rw [e1]
       congr 1
       rw [show upv v i (u j) i=u j from if_pos rfl]
       rfl
      ·dsimp only at hm ⊢
       rw [show upv v i (u j) m=v m from if_neg (by omega)]
       exact hr m (by omega)
     ·rw [hq] at fs
      (try simp only [rwp,zA,zB,zC,zD,zE,zF,zG,zH,zI,rwb,reduceIte])
      (simp (disch:=omega) only [q04])
      refine q0a rfl (hkk (i,j+1) _ ⟨by dsimp only;omega,by dsimp only;omega,v,rfl,?_,fun m hm=>hr m (by dsimp only at hm;omega)⟩ (by dsimp only;omega))
      dsimp only
      rw [fs,hv]
      simp
    ·have e:j=n:=by omega
     subst e
     (try simp only [rwp,zA,zB,zC,zD,zE,zF,zG,zH,zI,rwb,reduceIte,loI,hiI,cutI])
     refine ⟨by omega,by omega,⟨tyTu,fl tuC j v,cap * 6,by rw [q01,if_pos rfl],?_,rfl,rfl,?_⟩⟩
     ·rw [q1s q27]
      split
      ·omega
      ·omega
     ·refine ⟨Int.le_refl 0,by omega,?_⟩
      rw [show AV.own b (if cap=0 then 0 else 0) (i-0) (cap-0)=.own b 0 i cap by simp,q0j,← hv]
      refine q03 ⟨_,rfl,Sub.supd h1 hs,fl_rows q27,.inr ⟨b,cap,_,by rw [List.length_map,q1h],h1,by rw [q01,if_pos rfl],?_,?_,by rw [List.length_map,q1h];omega,h4⟩⟩
      ·rw [List.length_map,q1h]
       split
       ·rename_i e
        have ej:j-i=0:=by omega
        rw [ej]
        exact fl_take q27 (by omega)
       ·rw [q4y _ _ _ (by rw [q4s,q1s q27];simp only [List.length_cons,List.length_nil];omega),List.take_append_of_le_length (by rw [List.length_take,q1s q27];omega),List.take_take,Nat.min_self]
        exact fl_take q27 (by omega)
      ·rw [List.length_map,q1h]
       split
       ·rename_i e
        have ej:j-i=0:=by omega
        rw [ej]
        show i * 6≤(fl tuC j v).length
        rw [q1s q27]
        omega
       ·rw [q4y _ _ _ (by rw [q4s,q1s q27];simp only [List.length_cons,List.length_nil];omega)]
        simp only [List.length_append,List.length_take,q1s q27]
        omega
theorem c_gcounts_1 {s:List Ty} (hs:OkS s) {t:Tu} (ht:OkU t):AFun PG nrx114 ([]++[.agg (tuC t)]++[.rop [.sl 2 (s.map tyC)]]) (.bool (!decide (q4q s t=0))):=by
 intro S
 refine wx114 ?_
 unfold Bx114
 have q:=c_tuple_Allowed hs ht
 simp only [scA] at q
 (try simp only [rwp,zA,zB,zC,zD,zE,zF,zG,zH,zI,rwb,reduceIte,tuC])
 refine q06 q ?_
 (try simp only [rwp,zA,zB,zC,zD,zE,zF,zG,zH,zI,rwb,reduceIte])
 exact q03 ⟨rfl,rfl⟩
theorem c_gcounts {s:List Ty} (hs:OkS s) {l:List Tu} (hl:OkL l) (S:q00) :
  ACalls PG nrx58 [scA s,.sl 6 (l.map tuC)] S fun ae S'=>∃ a,ae=.ret a∧Sub S S'∧LstW S S' tyTu 6 a ((q0s s l).map tuC):=by
 refine wx58 ?_
 unfold Bx58
 have hn:=hl.n
 (try simp only [rwp,zA,zB,zC,zD,zE,zF,zG,zH,zI,rwb,reduceIte,scA])
 refine q0g (c_Clone (by omega) S) ?_
 rintro ae S1 ⟨a,rfl,h1,h2⟩
 dsimp only
 have q:=c_DeleteT (g:=nrx114) (fi:=[]) (ca:=[.rop [.sl 2 (s.map tyC)]]) (p:=fun t=>!decide (q4q s t=0)) h1 h2 (by omega) (fun i hi=>c_gcounts_1 hs (hl.ok _ (by
  have:at' l i=l[i]'hi:=by unfold at';simp [hi]
  rw [this]
  exact List.getElem_mem hi)))
 refine q0g q ?_
 rintro ae S2 ⟨a',rfl,h3,h4⟩
 dsimp only
 (try simp only [rwp,zA,zB,zC,zD,zE,zF,zG,zH,zI,rwb,reduceIte])
 refine q03 ⟨a',rfl,h3,?_⟩
 rw [vl_at] at h4
 have e:(l.filter fun t=>!(!decide (q4q s t=0)))=q0s s l:=by
  unfold q0s
  congr 1
  funext t
  rw [Bool.not_not]
 rw [e] at h4
 exact h4
set_option maxRecDepth 4000
abbrev cmpB (a b:ByteArray):Int:=Lib.compareBytes a.data.toList b.data.toList
theorem cb_anti:∀ (l m:List UInt8),Lib.compareBytes l m =-Lib.compareBytes m l
 | [],[]=>rfl
 | [],_ :: _=>rfl
 | _ :: _,[]=>rfl
 | a :: r,b :: q=>by
  have ih:=cb_anti r q
  unfold Lib.compareBytes
  by_cases h1:a<b
  ·have h2:¬ b<a:=by rw [UInt8.lt_iff_toNat_lt] at h1 ⊢;omega
   rw [if_pos h1,if_neg h2,if_pos h1]
  ·by_cases h2:b<a
   ·rw [if_neg h1,if_pos h2,if_pos h2];rfl
   ·rw [if_neg h1,if_neg h2,if_neg h2,if_neg h1];exact ih
theorem cb_eq:∀ (l m:List UInt8),Lib.compareBytes l m=0→l=m
 | [],[],_=>rfl
 | [],_ :: _,h=>by cases h
 | _ :: _,[],h=>by cases h
 | a :: r,b :: q,h=>by
  have ih:=cb_eq r q
  unfold Lib.compareBytes at h
  by_cases h1:a<b
  ·rw [if_pos h1] at h;cases h
  ·by_cases h2:b<a
   ·rw [if_neg h1,if_pos h2] at h;cases h
   ·rw [if_neg h1,if_neg h2] at h
    have:a=b:=by
     rw [UInt8.lt_iff_toNat_lt] at h1 h2
     exact UInt8.toNat_inj.1 (by omega)
    rw [this,ih h]
theorem cb_trans:∀ (l m k:List UInt8),Lib.compareBytes l m≤0→Lib.compareBytes m k≤0→Lib.compareBytes l k≤0
 | [],_,[],_,_=>Int.le_refl 0
 | [],_,_ :: _,_,_=>by show (-1:Int)≤0;decide
 | a :: r,[],_,h,_=>by
  have h:(1:Int)≤0:=h
  omega
 | a :: r,b :: q,[],_,h=>by
  have h:(1:Int)≤0:=h
  omega
 | a :: r,b :: q,c :: p,h1,h2=>by
  have ih:=cb_trans r q p
  unfold Lib.compareBytes at h1 h2 ⊢
  simp only [UInt8.lt_iff_toNat_lt] at h1 h2 ⊢
  by_cases x1:a.toNat<b.toNat
  ·by_cases x2:b.toNat<c.toNat
   ·rw [if_pos (by omega)];decide
   ·by_cases x3:c.toNat<b.toNat
    ·rw [if_neg x2,if_pos x3] at h2;exact absurd h2 (by decide)
    ·rw [if_pos (by omega)];decide
  ·by_cases x3:b.toNat<a.toNat
   ·rw [if_neg x1,if_pos x3] at h1;exact absurd h1 (by decide)
   ·rw [if_neg x1,if_neg x3] at h1
    by_cases x2:b.toNat<c.toNat
    ·rw [if_pos (by omega)];decide
    ·by_cases x4:c.toNat<b.toNat
     ·rw [if_neg x2,if_pos x4] at h2;exact absurd h2 (by decide)
     ·rw [if_neg x2,if_neg x4] at h2
      rw [if_neg (by omega),if_neg (by omega)]
      exact ih h1 h2
def cmpO (a b:Ob):Int:=if cmpB a.ty b.ty=0 then cmpB a.id b.id else cmpB a.ty b.ty
def ltO (a b:Ob):Bool:=decide (cmpO a b<0)
theorem cmpB_eq {a b:ByteArray} (h:cmpB a b=0):a=b:=by
 have:=cb_eq _ _ h
 obtain ⟨⟨la⟩⟩:=a
 obtain ⟨⟨lb⟩⟩:=b
 have e:la=lb:=this
 rw [e]
theorem q4k (a b:Ob):cmpO a b =-cmpO b a:=by
 have h1:=cb_anti a.ty.data.toList b.ty.data.toList
 have h2:=cb_anti a.id.data.toList b.id.data.toList
 unfold cmpO cmpB
 split<;>split<;>omega
theorem cmpO_eq {a b:Ob} (h:cmpO a b=0):a=b:=by
 unfold cmpO at h
 split at h
 ·rename_i h1
  cases a;cases b
  simp only at h h1
  rw [cmpB_eq h,cmpB_eq h1]
 ·contradiction
theorem cmpO_trans {a b c:Ob} (h1:cmpO a b≤0) (h2:cmpO b c≤0):cmpO a c≤0:=by
 unfold cmpO at h1 h2 ⊢
 by_cases e1:cmpB a.ty b.ty=0
 ·rw [if_pos e1] at h1
  have e:=cmpB_eq e1
  rw [e]
  by_cases e2:cmpB b.ty c.ty=0
  ·rw [if_pos e2] at h2 ⊢
   exact cb_trans _ _ _ h1 h2
  ·rw [if_neg e2] at h2 ⊢
   exact h2
 ·rw [if_neg e1] at h1
  by_cases e2:cmpB b.ty c.ty=0
  ·have e:=cmpB_eq e2
   rw [← e,if_neg e1]
   exact h1
  ·rw [if_neg e2] at h2
   have h3:cmpB a.ty c.ty≤0:=cb_trans _ _ _ h1 h2
   by_cases e3:cmpB a.ty c.ty=0
   ·exfalso
    have e:=cmpB_eq e3
    rw [← e] at h2
    have:=cb_anti a.ty.data.toList b.ty.data.toList
    unfold cmpB at h1 h2 e1 e2
    omega
   ·rw [if_neg e3];exact h3
theorem stO:StOk ltO:=by
 refine ⟨⟨fun x y h=>?_,fun x y z h1 h2=>?_⟩,fun x y h1 h2=>?_⟩
 ·unfold ltO at h ⊢
  have:=q4k x y
  rw [decide_eq_true_eq] at h
  rw [decide_eq_false_iff_not]
  omega
 ·unfold ltO at h1 h2 ⊢
  rw [decide_eq_false_iff_not] at h1 h2 ⊢
  have a1:=q4k y x
  have a2:=q4k z y
  have a3:=q4k z x
  have:=cmpO_trans (a:=x) (b:=y) (c:=z) (by omega) (by omega)
  omega
 ·unfold ltO at h1 h2
  rw [decide_eq_false_iff_not] at h1 h2
  have:=q4k x y
  exact cmpO_eq (by omega)
theorem c_cmpstring (a b:ByteArray):AFun PG 166 [.str a,.str b] (.int .i64 (cmpB a b)):=by
 intro S R w vs hs hv
 obtain ⟨l⟩:=vs
 match l,hv with
 | [],hv=>cases hv.1
 | [_],hv=>cases hv.1
 | _ :: _ :: _ :: _,hv=>cases hv.1
 | [x,y],hv=>
  have h1:RV R w (.str a) x:=hv.head
  have h2:RV R w (.str b) y:=hv.tail.head
  cases h1
  cases h2
  refine .inr ⟨_,w,?_,R,S,.ret (.int .i64 (cmpB a b)),.int _ _,⟨rfl,rfl⟩,hs,Step.refl _ _ _⟩
  rw [run_callFunc_extern Go.Proofs.Tryz.func166 (by kernel_rfl) (by kernel_rfl) (by kernel_rfl) (e:=Extern.BytealgCompare.compare) (by kernel_rfl),Lib.run_compareString]
  rfl
theorem c_CompareString (a b:ByteArray):AFun PG nrx117 [.str a,.str b] (.int .i64 (cmpB a b)):=by
 intro S
 refine wx117 ?_
 unfold Bx117
 refine q06 (c_cmpstring a b) ?_
 exact q03 ⟨rfl,rfl⟩
theorem c_Compare (a b:ByteArray):AFun PG nrx62 [.str a,.str b] (.int .i64 (cmpB a b)):=by
 intro S
 refine wx62 ?_
 unfold Bx62
 refine q06 (c_CompareString a b) ?_
 exact q03 ⟨rfl,rfl⟩
theorem c_Or2 (x y:Int):AFun PG nrx61 [.sl 1 [[.int .i64 x],[.int .i64 y]]] (.int .i64 (if x=0 then y else x)):=by
 intro S
 refine wx61 ?_
 unfold Bx61
 (try simp only [rwp,zA,zB,zC,zD,zE,zF,zG,zH,zI,rwb,reduceIte,List.length_cons,List.length_nil])
 refine LoopP.introS (fun i:Nat=>[(3,.int .i64 0),(6,.sl 1 [[.int .i64 x],[.int .i64 y]]),(7,.int .i64 2),(8,.int .i64 i)]) (fun i S'=>S'=S∧i≤2∧(0<i→x=0)∧(1<i→y=0)) (fun i=>2-i) 0 ⟨rfl,by omega,fun h=>by omega,fun h=>by omega⟩ rfl ?_
 rintro i S' ⟨rfl,hi,h1,h2⟩ kk hkk
 (try simp only [rwp,zA,zB,zC,zD,zE,zF,zG,zH,zI,rwb,reduceIte,C61_1])
 (refine q05 (fun hlt=>?_) (fun hlt=>?_)<;>(try simp only [hlc] at hlt))
 ·have h01:i=0∨i=1:=by omega
  have step:(i=0→x=0)→(i=1→y=0)→rcW kk [(3,.int .i64 0),(6,.sl 1 [[.int .i64 x],[.int .i64 y]]),(7,.int .i64 2),(8,.int .i64 (IntKind.i64.wrap (↑i+1)))] S':=by
   intro q1 q2
   (simp (disch:=omega) only [q04])
   exact q0a rfl (hkk (i+1) _ ⟨rfl,by omega,fun _=>h01.elim q1 (fun e=>h1 (by omega)),fun h=>q2 (by omega)⟩ (by omega))
  rcases h01 with e | e
  ·subst e
   (try simp only [rwp,zA,zB,zC,zD,zE,zF,zG,zH,zI,rwb,reduceIte,List.getElem?_cons_zero])
   cases a1:decide (x=0)
   ·(try simp only [rwp,zA,zB,zC,zD,zE,zF,zG,zH,zI,rwb,reduceIte])
    exact q03 ⟨by rw [if_neg (of_decide_eq_false a1)],rfl⟩
   ·(try simp only [rwp,zA,zB,zC,zD,zE,zF,zG,zH,zI,rwb,reduceIte])
    exact step (fun _=>of_decide_eq_true a1) (fun h=>by omega)
  ·subst e
   have hx:=h1 (by omega)
   (try simp only [rwp,zA,zB,zC,zD,zE,zF,zG,zH,zI,rwb,reduceIte,List.getElem?_cons_zero,List.getElem?_cons_succ])
   cases a1:decide (y=0)
   ·(try simp only [rwp,zA,zB,zC,zD,zE,zF,zG,zH,zI,rwb,reduceIte])
    exact q03 ⟨by rw [if_pos hx],rfl⟩
   ·(try simp only [rwp,zA,zB,zC,zD,zE,zF,zG,zH,zI,rwb,reduceIte])
    exact step (fun h=>by omega) (fun _=>of_decide_eq_true a1)
 ·(try simp only [rwp,zA,zB,zC,zD,zE,zF,zG,zH,zI,rwb,reduceIte])
  have hx:=h1 (by omega)
  have hy:=h2 (by omega)
  exact q03 ⟨by rw [if_pos hx,hy],rfl⟩
theorem c_gcmp (a b:Ob):AFun PG nrx60 [.agg (obC a),.agg (obC b)] (.int .i64 (cmpO a b)):=by
 intro S
 refine wx60 ?_
 unfold Bx60
 (try simp only [rwp,zA,zB,zC,zD,zE,zF,zG,zH,zI,rwb,reduceIte,obC])
 refine q06 (c_Compare a.ty b.ty) ?_
 (try simp only [rwp,zA,zB,zC,zD,zE,zF,zG,zH,zI,rwb,reduceIte])
 refine q06 (c_Compare a.id b.id) ?_
 (try simp only [rwp,zA,zB,zC,zD,zE,zF,zG,zH,zI,rwb,reduceIte])
 refine q06 (c_Or2 _ _) ?_
 exact q03 ⟨rfl,rfl⟩
theorem q7v {N:Nat} {n:Nat×Nat}:∀ {l:List Ln} {a:Lv×Bool},a.2=false→(q10 N n l a).2=false→(q10 N n l a)=a∧∀ x∈l,¬ (getL a.1 n<getL a.1 x.1+x.2.toNat∧getL a.1 n≤N)
 | [],a,h0,h=>⟨rfl,fun x hx=>by cases hx⟩
 | l :: r,a,h0,h=>by
  have stay:∀ {l:List Ln} {a:Lv×Bool},a.2=true→(q10 N n l a).2=true:=by
   intro l
   induction l with
   | nil=>intro a h;exact h
   | cons x l ih=>
    intro a h
    unfold q10
    split
    ·exact ih rfl
    ·exact ih h
  unfold q10 at h ⊢
  split at h
  ·rw [stay rfl] at h;cases h
  ·rename_i hc
   rw [if_neg hc]
   obtain ⟨h1,h2⟩:=q7v h0 h
   refine ⟨h1,fun x hx=>?_⟩
   rcases List.mem_cons.1 hx with rfl | hx
   ·exact hc
   ·exact h2 x hx
theorem q7u {N:Nat}:∀ {w:List Rw} {a:Lv×Bool},a.2=false→(q1l N w a).2=false→∀ x∈w,∀ l∈x.2,¬ (getL a.1 x.1<getL a.1 l.1+l.2.toNat∧getL a.1 x.1≤N)
 | [],a,h0,h,x,hx=>by cases hx
 | y :: w,a,h0,h,x,hx=>by
  unfold q1l at h
  have stay:∀ {w:List Rw} {a:Lv×Bool},a.2=true→(q1l N w a).2=true:=by
   intro w
   induction w with
   | nil=>intro a h;exact h
   | cons z w ih=>
    intro a h
    unfold q1l
    refine ih ?_
    have:∀ {l:List Ln} {a:Lv×Bool},a.2=true→(q10 N z.1 l a).2=true:=by
     intro l
     induction l with
     | nil=>intro a h;exact h
     | cons x l ih=>
      intro a h
      unfold q10
      split
      ·exact ih rfl
      ·exact ih h
    exact this h
  have h1:(q10 N y.1 y.2 a).2=false:=by
   cases hq:(q10 N y.1 y.2 a).2 with
   | false=>rfl
   | true=>rw [stay hq] at h;cases h
  obtain ⟨e1,e2⟩:=q7v h0 h1
  rw [e1] at h
  rcases List.mem_cons.1 hx with rfl | hx
  ·exact e2
  ·exact q7u h0 h x hx
theorem iterF_quiet {N:Nat} {s:List Ty} {w:List Rw} (hw:RwOk s w):∀ {f:Nat} {lv:Lv},Shp lv s→Bdd N lv→q0r s * (N+1)<f+phi N lv→(q1l N w (q6b N w f lv,false)).2=false
 | 0,lv,h1,h2,h3=>by have:=phi_shp (N:=N) h1;omega
 | f+1,lv,h1,h2,h3=>by
  obtain ⟨k1,k2,k3,k4,k5,k6⟩:=q31 (N:=N) (a:=(lv,false)) hw h1 h2
  unfold q6b
  split
  ·rename_i hr
   have:=k5 rfl hr
   exact iterF_quiet hw k1 k2 (by dsimp only at this;omega)
  ·rename_i hr
   have hr:(q1l N w (lv,false)).2=false:=by simpa using hr
   have h4:=k6 hr
   dsimp only at h4
   rw [h4]
   exact hr
theorem lev_quiet {s:List Ty} (h:q0r s≤256):(q1l (q0r s) (q39 s) (levF s,false)).2=false:=by
 refine iterF_quiet (q70 s) (q5y s) q53 ?_
 have:q0r s * (q0r s+1)≤256 * 257:=Nat.mul_le_mul h (by omega)
 omega
theorem q4v {s:List Ty} (h:errA (chkF s)=0) {i k:Nat} {t:Ty} {r:Rl} (ht:s[i]?=some t) (hr:t.rels[k]?=some r):getL (levF s) (i,k)≤q0r s∧∀ l∈q1j s t.name r,getL (levF s) l.1+l.2.toNat≤getL (levF s) (i,k):=by
 have hg:=q2v h
 have h1:getL (levF s) (i,k)≤q0r s:=by
  unfold chkF at h
  split at h
  ·rename_i h0;exact absurd h h0
  ·cases hq:q4j s (cycF s) with
   | some q=>
    obtain ⟨a,b,e⟩:=q
    have:=q6g hq
    rw [hq] at h
    exact absurd h this
   | none=>
    have h2:=q7d hq ht hr
    unfold cycF at h2
    split at h2
    ·cases h2
    ·omega
 refine ⟨h1,fun l hl=>?_⟩
 have h2:=q7u rfl (lev_quiet hg.many)
 have hm:∃ x∈q39 s,x.1=(i,k)∧x.2=q1j s t.name r:=by
  have h3:=lookR_at ht hr
  have key:∀ w:List Rw,q1i w (i,k)=some (q1j s t.name r)→∃ x∈w,x.1=(i,k)∧x.2=q1j s t.name r:=by
   intro w
   induction w with
   | nil=>intro h;cases h
   | cons x w ih=>
    intro h
    unfold q1i at h
    split at h
    ·rename_i he
     exact ⟨x,by simp,he.symm,Option.some.inj h⟩
    ·obtain ⟨y,hy,h4⟩:=ih h
     exact ⟨y,List.mem_cons_of_mem _ hy,h4⟩
  exact key _ h3
 obtain ⟨x,hx,e1,e2⟩:=hm
 have h4:=h2 x hx l (by rw [e2];exact hl)
 rw [e1] at h4
 dsimp only at h4
 omega
def lvN (s:List Ty) (n:Nd):Nat:=match q0q s n.o.ty n.rl with
 | some (i,k,_)=>getL (levF s) (i,k)
 | none=>0
def exB (E:q1g) (K:Nd→Bool) (o:Ob):Nat→Ex→Bool
 | 0,_=>false
 | m+1,.mk k n ov ks=>if k=0 then K ⟨o,n⟩ else if k=1 then (E.of ⟨o,n⟩).any (fun x=>decide (x.rl=⟨#[]⟩)&&K ⟨x.o,ov⟩) else match ks with
  | [a,b]=>if k=2 then exB E K o m a||exB E K o m b else if k=4 then exB E K o m a&&!exB E K o m b else exB E K o m a&&exB E K o m b
  | _=>false
def q1w (E:q1g) (K:Nd→Bool) (n:Nd) (r:Rl):Bool:=
 if r.refs.length=0 then exB E K n.o 12 r.ex else (E.of n).any fun x=>if x.rl=⟨#[]⟩ then decide (x.o=E.who) else K x
structure OfOk (E:q1g):Prop where
 ok:∀ n x,x∈E.of n→∃ i k r,q0q E.s n.o.ty n.rl=some (i,k,r)∧∃ f∈r.refs,x.o.ty=f.ty∧x.rl=f.rl
theorem q7z (s:List Ty) (l:List Tu) (who:Ob):OfOk (envE s l who):=by
 refine ⟨fun n x hx=>?_⟩
 obtain ⟨t,ht,rfl⟩:=List.mem_map.1 hx
 unfold ofF q0s at ht
 simp only [List.mem_filter,Bool.and_eq_true,decide_eq_true_eq] at ht
 obtain ⟨⟨-,h1⟩,h2,h3⟩:=ht
 unfold q4q at h1
 rw [h2,h3] at h1
 split at h1
 ·split at h1
  ·cases h1
  ·rename_i i k r hf
   refine ⟨i,k,r,hf,?_⟩
   split at h1
   ·split at h1
    ·rename_i hq
     obtain ⟨f,hf,hq⟩:=List.any_eq_true.1 hq
     simp only [Bool.and_eq_true,decide_eq_true_eq] at hq
     exact ⟨f,hf,hq⟩
    ·cases h1
   ·cases h1
 ·cases h1
def Low (s:List Ty) (N:Nat) (out:Bool) (c:Nd):Prop:=q0q s c.o.ty c.rl=none∨lvN s c+out.toNat≤N
section
variable {E:q1g} {ask:Nd→Nat→Option (Bool×Nat)} {M K:Nd→Bool} {N:Nat}
end
theorem q2n {n:Nd}:∀ {L:List Nd} {k:Nat},n∈L.take k↔n∈L∧L.idxOf n<k
 | [],k=>by simp
 | x :: r,0=>by simp
 | x :: r,k+1=>by
  rw [List.take_succ_cons,List.mem_cons,List.mem_cons,q2n (L:=r) (k:=k),List.idxOf_cons]
  by_cases h:x=n
  ·subst h;simp
  ·have h':n≠x:=fun e=>h e.symm
   have hb:(x==n)=false:=by simpa using h
   rw [hb]
   simp only [h',false_or,cond_false]
   constructor
   ·rintro ⟨h1,h2⟩;exact ⟨h1,by omega⟩
   ·rintro ⟨h1,h2⟩;exact ⟨h1,by omega⟩
structure Mod (E:q1g) (L:List Nd):Prop where
 step:∀ i n,L[i]?=some n→∃ j k r,q0q E.s n.o.ty n.rl=some (j,k,r)∧q1w E (fun c=>decide (c∈L.take i)) n r=true
 lev:∀ n m,n∈L→m∈L→lvN E.s n<lvN E.s m→L.idxOf n<L.idxOf m
 closed:∀ n j k r,q0q E.s n.o.ty n.rl=some (j,k,r)→q1w E (fun c=>decide (c∈L)) n r=true→n∈L
section
variable {E:q1g} {B:Int} {L:List Nd}
end
set_option maxRecDepth 4000
abbrev tyW14:Nat:=178
abbrev tyOb:Nat:=27
def wC (s:List Ty) (L:List Tu) (tv:AV) (who:Ob) (kv:AV):List AV:=[.sl 2 (s.map tyC),.sl 6 (L.map tuC),tv,.str who.ty,.str who.id,kv]
structure W14 (s:List Ty) (L:List Tu) (who:Ob) (bw:Nat) (S0:q00) (T:List Ob) (K:List Nd) (S:q00):Prop where
 ex:∃ tv kv,q0h S bw=some (tyW14,wC s L tv who kv,6)∧LstW S0 S tyOb 2 tv (T.map obC)∧LstW S0 S tyFa 3 kv (K.map ndC)∧q0n tv bw∧q0n kv bw∧∀ b off n cap,tv=.own b off n cap→q0n kv b
 sub:Sub S0 S
 nb:sget S0 bw=none
 lk:K.length≤1000000
 lt:T.length≤1000000
theorem drop_two {cs:List AV} {p:Nat} {a b:AV} (h:(cs.drop p).take 2=[a,b]):∃ rest,cs.drop p=a :: b :: rest:=by
 refine ⟨(cs.drop p).drop 2,?_⟩
 have:=List.take_append_drop 2 (cs.drop p)
 rw [h] at this
 exact this.symm
theorem ob_dec14 {a b:Ob}:decide (a=b)=(decide (a.ty=b.ty)&&decide (a.id=b.id)):=by
 rw [Bool.eq_iff_iff]
 cases a;cases b
 simp
section
variable {s:List Ty} {L:List Tu} {who:Ob} {bw:Nat} {S0 S:q00} {T:List Ob} {K:List Nd}
def envL (s:List Ty) (L:List Tu) (who:Ob):q1g:=⟨s,fun n=>(ofF L n).map Tu.s,who⟩
end
set_option maxRecDepth 4000
theorem quoN {x y:Int} {a b:Nat} {K:AV→Prop} (hx:x=a) (hy:y=b) (hb:0<b) (ha:a≤1000000) (hk:K (.int .i64 ((a / b:Nat):Int))):biW .quo (.int .i64 x) (.int .i64 y) K:=by
 subst hx
 subst hy
 have h0:¬ (b:Int)=0:=by omega
 have e:biW .quo (.int .i64 (a:Int)) (.int .i64 (b:Int)) K=K (.int .i64 (IntKind.i64.wrap ((a:Int).tdiv b))):=by
  have e1:biW .quo (.int .i64 (a:Int)) (.int .i64 (b:Int)) K=q0l (if (b:Int)=0 then none else some (.int .i64 (IntKind.i64.wrap ((a:Int).tdiv b)))) K:=rfl
  rw [e1,if_neg h0]
  rfl
 rw [e,show (a:Int).tdiv b=((a / b:Nat):Int) from rfl]
 have:a / b≤a:=Nat.div_le_self _ _
 generalize a / b=q at this hk ⊢
 (simp (disch:=omega) only [q04])
 exact hk
structure Dat (D:AV) (pt:Nat→AV) (SS:(Nat→Ob)→q00) (n:Nat):Prop where
 ia:∀ {i:Nat} {x:Int} {K:AV→Prop},x=i→i<n→K (pt i)→iaW 2 D (.int .i64 x) K
 ld:∀ {v:Nat→Ob} {i:Nat} {K:AV→Prop},i<n→K (.agg (obC (v i)))→ldW (SS v) 2 true (pt i) K
 st:∀ {v:Nat→Ob} {i:Nat} {x:Ob} {KT:q00→Prop},i<n→KT (SS (upv v i x))→stW (SS v) 2 (pt i) (.agg (obC x)) KT
 ln:∀ {v:Nat→Ob} {K:AV→Prop},K (.int .i64 n)→lnW (SS v) 1 D K
 bd:n≤100000
 fr:∀ {v:Nat→Ob} {c:Nat} {X:AObj} {i:Nat} {K:AV→Prop},sget (SS v) c=none→i<n→K (.agg (obC (v i)))→ldW (supd (SS v) c X) 2 true (pt i) K
 fs:∀ {v:Nat→Ob} {c:Nat} {X:AObj} {i:Nat} {x:Ob} {KT:q00→Prop},sget (SS v) c=none→i<n→KT (supd (SS (upv v i x)) c X)→stW (supd (SS v) c X) 2 (pt i) (.agg (obC x)) KT
 fn:∀ {v w:Nat→Ob} {c:Nat},sget (SS v) c=none→sget (SS w) c=none
theorem supd_swap {S:q00} {b c:Nat} (h:b≠c) (x y:AObj):supd (supd S b x) c y=supd (supd S c y) b x:=by
 funext d
 unfold supd
 by_cases h1:c=d
 ·subst h1;simp [h]
 ·by_cases h2:b=d<;>simp [h1,h2]
theorem dat_own {S0:q00} {b n cap:Nat} (hn:n≤cap) (hb:n≤100000):Dat (.own b 0 n cap) (fun i=>.ptr b (i * 2)) (fun v=>supd S0 b (.cells tyOb (fl obC n v) (cap * 2))) n:=by
 have hlen:∀ x:Ob,(obC x).length=2:=fun x=>rfl
 have ne:∀ {v:Nat→Ob} {c:Nat},sget (supd S0 b (.cells tyOb (fl obC n v) (cap * 2))) c=none→b≠c:=by
  intro v c hc e
  rw [q01,if_pos e] at hc
  cases hc
 refine ⟨fun {i x K} e hi hk=>?_,fun {v i K} hi hk=>?_,fun {v i x KT} hi hk=>?_,fun {v K} hk=>?_,hb,fun {v c X i K} hc hi hk=>?_,fun {v c X i x KT} hc hi hk=>?_,fun {v w c} hc=>?_⟩
 ·subst e
  rw [iaW_own]
  refine ⟨by omega,by omega,?_⟩
  simpa using hk
 ·have hc:=q08 (q0f (S:=supd S0 b (.cells tyOb (fl obC n v) (cap * 2))) (b:=b) (t:=tyOb) (tot:=cap * 2) (cs:=fl obC n v))
  rw [q0j] at hc
  obtain ⟨rest,hd⟩:=fl_drop (v:=v) hlen hi
  rw [ldW_ptr,hc,q67,hd,mkW_agg]
  exact hk
 ·have ho:=q0f (S:=S0) (b:=b) (t:=tyOb) (tot:=cap * 2) (cs:=fl obC n v)
  rw [q6w,ho,q2t]
  refine ⟨rfl,?_,rfl,?_⟩
  ·rw [q1s hlen];omega
  ·rw [show q09 (.agg (obC x))=obC x from rfl,fl_fill hlen hi,q0j]
   exact hk
 ·rw [lnW_own];exact hk
 ·have hne:=ne hc
  have hc:=q08 (objAt_some.2 (show sget (supd (supd S0 b (.cells tyOb (fl obC n v) (cap * 2))) c X) b=some (.cells tyOb (fl obC n v) (cap * 2)) by rw [q01,if_neg (Ne.symm hne),q01,if_pos rfl]))
  obtain ⟨rest,hd⟩:=fl_drop (v:=v) hlen hi
  rw [ldW_ptr,hc,q67,hd,mkW_agg]
  exact hk
 ·have hne:=ne hc
  have ho:=objAt_some.2 (show sget (supd (supd S0 b (.cells tyOb (fl obC n v) (cap * 2))) c X) b=some (.cells tyOb (fl obC n v) (cap * 2)) by rw [q01,if_neg (Ne.symm hne),q01,if_pos rfl])
  rw [q6w,ho,q2t]
  refine ⟨rfl,?_,rfl,?_⟩
  ·rw [q1s hlen];omega
  ·rw [show q09 (.agg (obC x))=obC x from rfl,fl_fill hlen hi,supd_swap (Ne.symm hne),q0j]
   exact hk
 ·have hne:=ne hc
  rw [q01,if_neg hne] at hc ⊢
  exact hc
section
variable {D:AV} {pt:Nat→AV} {SS:(Nat→Ob)→q00} {n g:Nat} {c:Ob→Ob→Int}
abbrev fnG (g:Nat):AV:=.func (.func g) [] []
def ltC (c:Ob→Ob→Int) (x y:Ob):Bool:=decide (c x y<0)
theorem c_ins (hD:Dat D pt SS n) (hg:∀ x y,AFun PG g [.agg (obC x),.agg (obC y)] (.int .i64 (c x y))) (ho:LtOk (ltC c)) {a b:Nat} (hab:a≤b) (hb:b≤n) (v:Nat→Ob) :
  ACalls PG nrx156 [D,.int .i64 a,.int .i64 b,fnG g] (SS v) fun ae S'=>ae=.ret (.tup [])∧∃ w,S'=SS w∧Rng n a b v w∧Srt (ltC c) a b w:=by
 have hn:=hD.bd
 refine wx156 ?_
 unfold Bx156
 (try simp only [rwp,zA,zB,zC,zD,zE,zF,zG,zH,zI,rwb,reduceIte])
 (simp (disch:=omega) only [q04])
 refine LoopP.introS (fun i:Nat=>[(0,D),(1,.int .i64 a),(2,.int .i64 b),(3,fnG g),(8,.int .i64 i)]) (fun i S'=>a+1≤i∧i≤b+1∧∃ w,S'=SS w∧Rng n a b v w∧Srt (ltC c) a i w) (fun i=>b+1-i) (a+1)
  ⟨by omega,by omega,v,rfl,Rng.refl _ _ _ _,Srt.one (by omega)⟩ (by rfl) ?_
 rintro i S1 ⟨hi1,hi2,w,rfl,hr,hs⟩ kk hkk
 (try simp only [rwp,zA,zB,zC,zD,zE,zF,zG,zH,zI,rwb,reduceIte,C156_1])
 (refine q05 (fun hlt=>?_) (fun hlt=>?_)<;>(try simp only [hlc] at hlt))
 ·refine LoopP.introS (fun j:Nat=>[(0,D),(1,.int .i64 a),(2,.int .i64 b),(3,fnG g),(8,.int .i64 i),(9,.int .i64 j)]) (fun j S'=>∃ u,S'=SS u∧Rng n a b v u∧InsI (ltC c) a i j u) (fun j=>j) i
   ⟨w,rfl,hr,InsI.start hs (by omega)⟩ rfl ?_
  rintro j S2 ⟨u,rfl,hru,hu⟩ kk2 hkk2
  have h1:=hu.lo
  have h2:=hu.hi
  have stop:(j=a∨Le (ltC c) (u (j-1)) (u j))→rcW kk [(0,D),(1,.int .i64 a),(2,.int .i64 b),(3,fnG g),(8,.int .i64 (IntKind.i64.wrap (↑i+1)))] (SS u):=by
   intro hq
   (simp (disch:=omega) only [q04])
   exact q0a rfl (hkk (i+1) _ ⟨by omega,by omega,u,rfl,hru,hu.stop ho hq⟩ (by omega))
  (try simp only [rwp,zA,zB,zC,zD,zE,zF,zG,zH,zI,rwb,reduceIte,C156_2])
  cases a1:decide ((a:Int)<j)
  ·(try simp only [rwp,zA,zB,zC,zD,zE,zF,zG,zH,zI,rwb,reduceIte,C156_3])
   exact stop (.inl (by have:=of_decide_eq_false a1;omega))
  ·have haj:=of_decide_eq_true a1
   (try simp only [rwp,zA,zB,zC,zD,zE,zF,zG,zH,zI,rwb,reduceIte])
   refine hD.ia (i:=j) rfl (by omega) ?_
   (try simp only [rwp,zA,zB,zC,zD,zE,zF,zG,zH,zI,rwb,reduceIte])
   (simp (disch:=omega) only [q04])
   refine hD.ia (i:=j-1) (by omega) (by omega) ?_
   refine hD.ld (by omega) (hD.ld (by omega) ?_)
   refine q06 (hg _ _) ?_
   (try simp only [rwp,zA,zB,zC,zD,zE,zF,zG,zH,zI,rwb,reduceIte])
   cases a2:decide (c (u j) (u (j-1))<0)
   ·(try simp only [rwp,zA,zB,zC,zD,zE,zF,zG,zH,zI,rwb,reduceIte,C156_3])
    exact stop (.inr a2)
   ·(try simp only [rwp,zA,zB,zC,zD,zE,zF,zG,zH,zI,rwb,reduceIte,C156_3])
    (simp (disch:=omega) only [q04])
    refine hD.ia (i:=j-1) (by omega) (by omega) ?_
    refine hD.ia (i:=j) rfl (by omega) ?_
    refine hD.ld (by omega) (hD.ld (by omega) ?_)
    refine hD.ia (i:=j) rfl (by omega) ?_
    refine hD.st (by omega) ?_
    refine hD.ia (i:=j-1) (by omega) (by omega) ?_
    refine hD.st (by omega) ?_
    rw [sw_upv]
    (try simp only [rwp,zA,zB,zC,zD,zE,zF,zG,zH,zI,rwb,reduceIte])
    (try (simp (disch:=omega) only [q04]))
    have ej:(j:Int)-1=((j-1:Nat):Int):=by omega
    rw [ej]
    exact q0a rfl (hkk2 (j-1) _ ⟨_,rfl,hru.trans (Rng.sw (by omega) (by omega) (by omega) (by omega) hb),hu.step ho (by omega) a2⟩ (by omega))
 ·(try simp only [rwp,zA,zB,zC,zD,zE,zF,zG,zH,zI,rwb,reduceIte])
  exact q1k ⟨rfl,w,rfl,hr,fun p q h1 h2 h3=>hs p q h1 h2 (by omega)⟩
theorem c_pdq12 (hD:Dat D pt SS n) (hg:∀ x y,AFun PG g [.agg (obC x),.agg (obC y)] (.int .i64 (c x y))) (ho:LtOk (ltC c)) {a b:Nat} (hab:a≤b) (hb:b≤n) (h12:b≤a+12) (lim:Int) (v:Nat→Ob) :
  ACalls PG nrx115 [D,.int .i64 a,.int .i64 b,.int .i64 lim,fnG g] (SS v) fun ae S'=>ae=.ret (.tup [])∧∃ w,S'=SS w∧Rng n a b v w∧Srt (ltC c) a b w:=by
 have hn:=hD.bd
 refine wx115 ?_
 unfold Bx115
 refine LoopP.introS (fun _:Unit=>[(0,D),(1,.int .i64 a),(2,.int .i64 b),(3,.int .i64 lim),(4,fnG g),(10,.bool true),(11,.bool true)]) (fun _ S'=>S'=SS v) (fun _=>0) () rfl rfl ?_
 rintro _ S' rfl kk hkk
 (try simp only [rwp,zA,zB,zC,zD,zE,zF,zG,zH,zI,rwb,reduceIte,C115_1])
 (simp (disch:=omega) only [q04])
 (try simp only [rwp,zA,zB,zC,zD,zE,zF,zG,zH,zI,rwb,reduceIte,decide_eq_true (show (b:Int)-a≤12 by omega)])
 refine q0g (c_ins hD hg ho hab hb v) ?_
 rintro ae S1 ⟨rfl,w,rfl,h1,h2⟩
 dsimp only
 exact q1k ⟨rfl,w,rfl,h1,h2⟩
end
def SortOk (N:Nat):Prop:=∀ (D:AV) (pt:Nat→AV) (SS:(Nat→Ob)→q00) (n g:Nat) (c:Ob→Ob→Int),Dat D pt SS n→(∀ x y,AFun PG g [.agg (obC x),.agg (obC y)] (.int .i64 (c x y)))→LtOk (ltC c)→n≤N→∀ v:Nat→Ob,
 ACalls PG nrx59 [D,fnG g] (SS v) fun ae S'=>ae=.ret (.tup [])∧∃ w,S'=SS w∧Rng n 0 n v w∧Srt (ltC c) 0 n w
def len8:ByteArray:=⟨#[0,1,2,2,3,3,3,3,4,4,4,4,4,4,4,4,5,5,5,5,5,5,5,5,5,5,5,5,5,5,5,5,6,6,6,6,6,6,6,6,6,6,6,6,6,6,6,6,6,6,6,6,6,6,6,6,6,6,6,6,6,6,6,6,7,7,7,7,7,7,7,7,7,7,7,7,7,7,7,7,7,7,7,7,7,7,7,7,7,7,7,7,7,7,7,7,7,7,7,7,7,7,7,7,7,7,7,7,7,7,7,7,7,7,7,7,7,7,7,7,7,7,7,7,7,7,7,7,8,8,8,8,8,8,8,8,8,8,8,8,8,8,8,8,8,8,8,8,8,8,8,8,8,8,8,8,8,8,8,8,8,8,8,8,8,8,8,8,8,8,8,8,8,8,8,8,8,8,8,8,8,8,8,8,8,8,8,8,8,8,8,8,8,8,8,8,8,8,8,8,8,8,8,8,8,8,8,8,8,8,8,8,8,8,8,8,8,8,8,8,8,8,8,8,8,8,8,8,8,8,8,8,8,8,8,8,8,8,8,8,8,8,8,8,8,8,8,8,8,8,8,8,8,8,8,8]⟩
def lenF (n:Nat):Nat:=(len8.data.toList.getD n 0).toNat
theorem lenF_ok:∀ n:Fin 256,n.1<2 ^ lenF n.1∧(n.1=0∨2 ^ lenF n.1≤2 * n.1)∧lenF n.1≤8:=by decide +kernel
theorem c_Len64 {n:Nat} (hn:n<256):AFun PG nrx165 [.int .u64 n] (.int .i64 (lenF n)):=by
 intro S
 refine wx165 ?_
 unfold Bx165
 (try simp only [rwp,zA,zB,zC,zD,zE,zF,zG,zH,zI,rwb,reduceIte,C165_1,C165_2])
 rw [decide_eq_false (show ¬ (4294967296:Int)≤n by omega)]
 refine q37 ?_
 rw [decide_eq_false (show ¬ (65536:Int)≤n by omega)]
 refine q37 ?_
 rw [decide_eq_false (show ¬ (256:Int)≤n by omega)]
 refine q37 ?_
 have hb:len8[n]?=some (len8.data.toList.getD n 0).toNat.toUInt8:=by
  rw [q6o]
  have hl:n<len8.data.toList.length:=by show n<256;exact hn
  rw [List.getD_eq_getElem?_getD,List.getElem?_eq_getElem hl]
  simp
 have h8:lenF n≤8:=(lenF_ok ⟨n,hn⟩).2.2
 have hw:IntKind.u8.wrap (n:Int)=n:=(show ∀ n:Fin 256,IntKind.u8.wrap (n.1:Int)=n.1 by decide +kernel) ⟨n,hn⟩
 have hv:((len8.data.toList.getD n 0).toNat.toUInt8).toNat=lenF n:=by
  unfold lenF
  simp
 show C165_3 _ (.int .u64 n) (.int .i64 0) S
 unfold C165_3
 change (cvW .u8 (.int .u64 n) fun v21=>isW (.str len8) v21 fun v22=>_)
 (try simp only [rwp,zA,zB,zC,zD,zE,zF,zG,zH,zI,rwb,reduceIte,hw,hb])
 rw [hv]
 (simp (disch:=omega) only [q04])
 exact q03 ⟨by rw [Int.zero_add],rfl⟩
theorem c_Len {n:Nat} (hn:n<256):AFun PG nrx116 [.int .u64 n] (.int .i64 (lenF n)):=by
 intro S
 refine wx116 ?_
 unfold Bx116
 (try simp only [rwp,zA,zB,zC,zD,zE,zF,zG,zH,zI,rwb,reduceIte])
 refine q06 (c_Len64 hn) ?_
 exact q03 ⟨rfl,rfl⟩
theorem sort12:SortOk 12:=by
 intro D pt SS n g c hD hg ho hn v
 refine wx59 ?_
 unfold Bx59
 refine hD.ln ?_
 have hw:IntKind.u64.wrap (n:Int)=n:=by
  have:n<256:=by omega
  exact (show ∀ n:Fin 256,IntKind.u64.wrap (n.1:Int)=n.1 by decide +kernel) ⟨n,this⟩
 (try simp only [rwp,zA,zB,zC,zD,zE,zF,zG,zH,zI,rwb,reduceIte,hw])
 refine q06 (c_Len (by omega)) ?_
 have q:=c_pdq12 hD hg ho (a:=0) (b:=n) (by omega) (by omega) (by omega) (lenF n) v
 refine q0g q ?_
 rintro ae S1 ⟨rfl,w,rfl,h1,h2⟩
 dsimp only
 exact q1k ⟨rfl,w,rfl,h1,h2⟩
set_option maxRecDepth 4000
section
variable {D:AV} {pt:Nat→AV} {SS:(Nat→Ob)→q00} {n g:Nat} {c:Ob→Ob→Int}
theorem c_sift (hD:Dat D pt SS n) (hg:∀ x y,AFun PG g [.agg (obC x),.agg (obC y)] (.int .i64 (c x y))) (ho:LtOk (ltC c)) {f lo hi:Nat} (hh:f+hi≤n) (hlo:lo≤n) (v:Nat→Ob) (h0:Sif (ltC c) f lo hi lo v) :
  ACalls PG nrx194 [D,.int .i64 lo,.int .i64 hi,.int .i64 f,fnG g] (SS v) fun ae S'=>ae=.ret (.tup [])∧∃ w,S'=SS w∧Rng n f (f+hi) v w∧Hp (ltC c) f lo hi w:=by
 have hn:=hD.bd
 refine wx194 ?_
 unfold Bx194
 refine LoopP.introS (fun r:Nat=>[(0,D),(2,.int .i64 hi),(3,.int .i64 f),(4,fnG g),(10,.int .i64 r)]) (fun r S'=>r≤n∧∃ w,S'=SS w∧Rng n f (f+hi) v w∧Sif (ltC c) f lo hi r w) (fun r=>n-r) lo
  ⟨hlo,v,rfl,Rng.refl _ _ _ _,h0⟩ rfl ?_
 rintro r S1 ⟨hrn,w,rfl,hr,hs⟩ kk hkk
 (try simp only [rwp,zA,zB,zC,zD,zE,zF,zG,zH,zI,rwb,reduceIte,C194_1])
 (try (simp (disch:=omega) only [q04]))
 cases a1:decide ((hi:Int)≤2 * r+1)
 ·have hch:2 * r+1<hi:=by have:=of_decide_eq_false a1;omega
  have fin:∀ ch:Nat,Best (ltC c) f hi r ch w→C194_3 (fun ae S'=>ae=.ret (.tup [])∧∃ w,S'=SS w∧Rng n f (f+hi) v w∧Hp (ltC c) f lo hi w) kk D (.int .i64 hi) (.int .i64 f) (fnG g) (.int .i64 r) (.int .i64 ch) (SS w):=by
   intro ch hb
   have h1:=hb.cc
   have h2:=hb.cl
   (try simp only [rwp,zA,zB,zC,zD,zE,zF,zG,zH,zI,rwb,reduceIte,C194_3])
   (try (simp (disch:=omega) only [q04]))
   refine hD.ia (i:=f+r) (by omega) (by omega) ?_
   (try simp only [rwp,zA,zB,zC,zD,zE,zF,zG,zH,zI,rwb,reduceIte])
   (try (simp (disch:=omega) only [q04]))
   refine hD.ia (i:=f+ch) (by omega) (by omega) (hD.ld (by omega) (hD.ld (by omega) ?_))
   refine q06 (hg _ _) ?_
   (try simp only [rwp,zA,zB,zC,zD,zE,zF,zG,zH,zI,rwb,reduceIte])
   cases a2:decide (c (w (f+r)) (w (f+ch))<0)
   ·(try simp only [rwp,zA,zB,zC,zD,zE,zF,zG,zH,zI,rwb,reduceIte])
    exact q1k ⟨rfl,w,rfl,hr,hs.stop ho hb a2⟩
   ·(try simp only [rwp,zA,zB,zC,zD,zE,zF,zG,zH,zI,rwb,reduceIte])
    (try (simp (disch:=omega) only [q04]))
    refine hD.ia (i:=f+ch) (by omega) (by omega) ?_
    (try simp only [rwp,zA,zB,zC,zD,zE,zF,zG,zH,zI,rwb,reduceIte])
    (try (simp (disch:=omega) only [q04]))
    refine hD.ia (i:=f+r) (by omega) (by omega) (hD.ld (by omega) (hD.ld (by omega) ?_))
    refine hD.ia (i:=f+r) (by omega) (by omega) (hD.st (by omega) ?_)
    refine hD.ia (i:=f+ch) (by omega) (by omega) (hD.st (by omega) ?_)
    rw [sw_upv]
    exact q0a rfl (hkk ch _ ⟨by omega,_,rfl,hr.trans (Rng.sw (by omega) (by omega) (by omega) (by omega) hh),hs.step ho hb a2⟩ (by omega))
  (try simp only [rwp,zA,zB,zC,zD,zE,zF,zG,zH,zI,rwb,reduceIte])
  (try (simp (disch:=omega) only [q04]))
  cases a3:decide ((2:Int) * r+1+1<hi)
  ·(try simp only [rwp,zA,zB,zC,zD,zE,zF,zG,zH,zI,rwb,reduceIte,C194_2])
   have q:=fin (2 * r+1) ⟨.inl rfl,hch,fun d hd hdh=>by
    have:=of_decide_eq_false a3
    have e:d=2 * r+1:=by omega
    rw [e]
    exact Le.refl ho _⟩
   rw [show ((2 * r+1:Nat):Int)=2 * (r:Int)+1 by omega] at q
   exact q
  ·have hlt:=of_decide_eq_true a3
   (try simp only [rwp,zA,zB,zC,zD,zE,zF,zG,zH,zI,rwb,reduceIte])
   (try (simp (disch:=omega) only [q04]))
   refine hD.ia (i:=f+(2 * r+1)) (by omega) (by omega) ?_
   (try simp only [rwp,zA,zB,zC,zD,zE,zF,zG,zH,zI,rwb,reduceIte])
   (try (simp (disch:=omega) only [q04]))
   refine hD.ia (i:=f+(2 * r+2)) (by omega) (by omega) (hD.ld (by omega) (hD.ld (by omega) ?_))
   refine q06 (hg _ _) ?_
   (try simp only [rwp,zA,zB,zC,zD,zE,zF,zG,zH,zI,rwb,reduceIte])
   cases a4:decide (c (w (f+(2 * r+1))) (w (f+(2 * r+2)))<0)
   ·(try simp only [rwp,zA,zB,zC,zD,zE,zF,zG,zH,zI,rwb,reduceIte,C194_2])
    have q:=fin (2 * r+1) ⟨.inl rfl,hch,fun d hd hdh=>by
     rcases hd with rfl | rfl
     ·exact Le.refl ho _
     ·exact a4⟩
    rw [show ((2 * r+1:Nat):Int)=2 * (r:Int)+1 by omega] at q
    exact q
   ·(try simp only [rwp,zA,zB,zC,zD,zE,zF,zG,zH,zI,rwb,reduceIte,C194_2])
    (try (simp (disch:=omega) only [q04]))
    have q:=fin (2 * r+2) ⟨.inr rfl,by omega,fun d hd hdh=>by
     rcases hd with rfl | rfl
     ·exact Le.of_lt ho a4
     ·exact Le.refl ho _⟩
    rw [show ((2 * r+2:Nat):Int)=2 * (r:Int)+1+1 by omega] at q
    exact q
 ·(try simp only [rwp,zA,zB,zC,zD,zE,zF,zG,zH,zI,rwb,reduceIte])
  exact q1k ⟨rfl,w,rfl,hr,hs.stop0 (by have:=of_decide_eq_true a1;omega)⟩
theorem c_heap (hD:Dat D pt SS n) (hg:∀ x y,AFun PG g [.agg (obC x),.agg (obC y)] (.int .i64 (c x y))) (ho:LtOk (ltC c)) {a b:Nat} (hab:a<b) (hb:b≤n) (v:Nat→Ob) :
  ACalls PG nrx157 [D,.int .i64 a,.int .i64 b,fnG g] (SS v) fun ae S'=>ae=.ret (.tup [])∧∃ w,S'=SS w∧Rng n a b v w∧Srt (ltC c) a b w:=by
 have hn:=hD.bd
 refine wx157 ?_
 unfold Bx157
 obtain ⟨hi,rfl⟩:∃ hi,b=a+hi:=⟨b-a,by omega⟩
 (try simp only [rwp,zA,zB,zC,zD,zE,zF,zG,zH,zI,rwb,reduceIte])
 (try (simp (disch:=omega) only [q04]))
 have e1:((a+hi:Nat):Int)-a=hi:=by omega
 rw [e1]
 refine quoN (a:=hi-1) (b:=2) (by omega) rfl (by omega) (by omega) ?_
 refine LoopP.introS (fun m:Nat=>[(0,D),(3,fnG g),(8,.int .i64 a),(9,.int .i64 0),(10,.int .i64 hi),(11,.int .i64 ((m:Int)-1))]) (fun m S'=>m≤hi∧∃ w,S'=SS w∧Rng n a (a+hi) v w∧Hp (ltC c) a m hi w) (fun m=>m) ((hi-1) / 2+1)
  ⟨by omega,v,rfl,Rng.refl _ _ _ _,fun p q h1 h2 h3=>by omega⟩ (by rw [show (((hi-1) / 2+1:Nat):Int)-1=(((hi-1) / 2:Nat):Int) by omega]) ?_
 rintro m S1 ⟨hm,w,rfl,hr,hp⟩ kk hkk
 (try simp only [rwp,zA,zB,zC,zD,zE,zF,zG,zH,zI,rwb,reduceIte,C157_1])
 cases a1:decide ((0:Int)≤(m:Int)-1)
 ·have e:m=0:=by have:=of_decide_eq_false a1;omega
  subst e
  (try simp only [rwp,zA,zB,zC,zD,zE,zF,zG,zH,zI,rwb,reduceIte])
  (try (simp (disch:=omega) only [q04]))
  refine LoopP.introS (fun m:Nat=>[(0,D),(3,fnG g),(8,.int .i64 a),(9,.int .i64 0),(12,.int .i64 ((m:Int)-1))]) (fun m S'=>m≤hi∧∃ w,S'=SS w∧Rng n a (a+hi) v w∧Pop (ltC c) a m hi w) (fun m=>m) hi
   ⟨by omega,w,rfl,hr,⟨hp,Srt.one (by omega),fun i j h1 h2 h3=>by omega⟩⟩ rfl ?_
  rintro m S2 ⟨hm2,u,rfl,hru,hpu⟩ kk2 hkk2
  (try simp only [rwp,zA,zB,zC,zD,zE,zF,zG,zH,zI,rwb,reduceIte,C157_2])
  cases a2:decide ((0:Int)≤(m:Int)-1)
  ·have e:m=0:=by have:=of_decide_eq_false a2;omega
   subst e
   (try simp only [rwp,zA,zB,zC,zD,zE,zF,zG,zH,zI,rwb,reduceIte])
   exact q1k ⟨rfl,u,rfl,hru,hpu.s⟩
  ·have hle:=of_decide_eq_true a2
   obtain ⟨i,rfl⟩:∃ i,m=i+1:=⟨m-1,by omega⟩
   rw [show ((i+1:Nat):Int)-1=(i:Int) by omega]
   (try simp only [rwp,zA,zB,zC,zD,zE,zF,zG,zH,zI,rwb,reduceIte])
   (try (simp (disch:=omega) only [q04]))
   refine hD.ia (i:=a+i) (by omega) (by omega) (hD.ia (i:=a) rfl (by omega) (hD.ld (by omega) (hD.ld (by omega) ?_)))
   refine hD.ia (i:=a) rfl (by omega) (hD.st (by omega) (hD.ia (i:=a+i) (by omega) (by omega) (hD.st (by omega) ?_)))
   rw [sw_upv]
   refine q0g (c_sift hD hg ho (f:=a) (lo:=0) (hi:=i) (by omega) (by omega) _ (Sif.start hpu.pre)) ?_
   rintro ae S3 ⟨rfl,x,rfl,hrx,hpx⟩
   dsimp only
   (try simp only [rwp,zA,zB,zC,zD,zE,zF,zG,zH,zI,rwb,reduceIte])
   (try (simp (disch:=omega) only [q04]))
   exact q0a rfl (hkk2 i _ ⟨by omega,x,rfl,(hru.trans (Rng.sw (by omega) (by omega) (by omega) (by omega) hb)).trans (hrx.mono (Nat.le_refl _) (by omega)),hpu.step ho (by omega) (by omega) hrx hpx⟩ (by omega))
 ·have hle:=of_decide_eq_true a1
  obtain ⟨i,rfl⟩:∃ i,m=i+1:=⟨m-1,by omega⟩
  rw [show ((i+1:Nat):Int)-1=(i:Int) by omega]
  (try simp only [rwp,zA,zB,zC,zD,zE,zF,zG,zH,zI,rwb,reduceIte])
  refine q0g (c_sift hD hg ho (f:=a) (lo:=i) (hi:=hi) (by omega) (by omega) w (Sif.start hp)) ?_
  rintro ae S3 ⟨rfl,x,rfl,hrx,hpx⟩
  dsimp only
  (try simp only [rwp,zA,zB,zC,zD,zE,zF,zG,zH,zI,rwb,reduceIte])
  (try (simp (disch:=omega) only [q04]))
  exact q0a rfl (hkk i _ ⟨by omega,x,rfl,hr.trans hrx,hpx⟩ (by omega))
end
set_option maxRecDepth 4000
section
variable {D:AV} {pt:Nat→AV} {SS:(Nat→Ob)→q00} {n g:Nat} {c:Ob→Ob→Int}
theorem Dat.swap (hD:Dat D pt SS n) {i j:Nat} {x y x' y':Int} {v:Nat→Ob} {KT:q00→Prop} (ex:x=i) (ey:y=j) (ex':x'=i) (ey':y'=j) (hi:i<n) (hj:j<n) (hk:KT (SS (sw v j i))) :
  iaW 2 D (.int .i64 x) fun p=>iaW 2 D (.int .i64 y) fun q=>ldW (SS v) 2 true p fun a=>ldW (SS v) 2 true q fun b=>iaW 2 D (.int .i64 y') fun r=>stW (SS v) 2 r a fun S=>iaW 2 D (.int .i64 x') fun t=>stW S 2 t b KT:=by
 refine hD.ia ex hi (hD.ia ey hj (hD.ld hi (hD.ld hj (hD.ia ey' hj (hD.st hj (hD.ia ex' hi (hD.st hi ?_)))))))
 rw [sw_upv]
 exact hk
theorem Dat.cmp (hD:Dat D pt SS n) (hg:∀ x y,AFun PG g [.agg (obC x),.agg (obC y)] (.int .i64 (c x y))) {i j:Nat} {x y:Int} {v:Nat→Ob} {K Qp:AV→q00→Prop} (ex:x=i) (ey:y=j) (hi:i<n) (hj:j<n) (hk:K (.int .i64 (c (v i) (v j))) (SS v)) :
  iaW 2 D (.int .i64 x) fun p=>iaW 2 D (.int .i64 y) fun q=>ldW (SS v) 2 true p fun a=>ldW (SS v) 2 true q fun b=>caW PG (SS v) (fnG g) [a,b] K Qp:=
 hD.ia ex hi (hD.ia ey hj (hD.ld hi (hD.ld hj (q06 (hg _ _) hk))))
theorem c_partition (hD:Dat D pt SS n) (hg:∀ x y,AFun PG g [.agg (obC x),.agg (obC y)] (.int .i64 (c x y))) (ho:LtOk (ltC c)) {a b p:Nat} (hap:a≤p) (hpb:p<b) (hb:b≤n) (v:Nat→Ob) :
  ACalls PG nrx163 [D,.int .i64 a,.int .i64 b,.int .i64 p,fnG g] (SS v) fun ae S'=>∃ (w:Nat→Ob) (m:Nat) (al:Bool),ae=.ret (.tup [.int .i64 m,.bool al])∧S'=SS w∧Rng n a b v w∧Cut (ltC c) a b m w:=by
 have hn:=hD.bd
 refine wx163 ?_
 unfold Bx163
 refine hD.swap rfl rfl rfl rfl (by omega) (by omega) ?_
 have hr0:Rng n a b v (sw v a p):=Rng.sw (by omega) (by omega) hap hpb hb
 generalize sw v a p=v0 at hr0
 (try simp only [rwp,zA,zB,zC,zD,zE,zF,zG,zH,zI,rwb,reduceIte])
 (try (simp (disch:=omega) only [q04]))
 generalize hQ:(fun ae S'=>∃ (w:Nat→Ob) (m:Nat) (al:Bool),ae=AEnd.ret (.tup [.int .i64 m,.bool al])∧S'=SS w∧Rng n a b v w∧Cut (ltC c) a b m w)=QF
 have fin:∀ (w:Nat→Ob) (i j:Nat) (al:Bool),Rng n a b v w→Par (ltC c) a b i j w→j<i→rtW [.tmp (.int .i64 j),.tmp (.bool al)] QF (SS (sw w j a)):=by
  intro w i j al hr hp hij
  have h1:=hp.i1
  have h2:=hp.ij
  have h3:=hp.j1
  subst hQ
  exact q5e ⟨_,j,al,rfl,rfl,hr.trans (Rng.sw (by omega) (by omega) (by omega) (by omega) hb),hp.cut ho hij⟩
 refine LoopP.introS (fun i:Nat=>[(0,D),(1,.int .i64 a),(4,fnG g),(12,.int .i64 i),(13,.int .i64 ((b-1:Nat):Int))]) (fun i S'=>S'=SS v0∧Par (ltC c) a b i (b-1) v0) (fun i=>b-i) (a+1)
  ⟨rfl,⟨by omega,by omega,by omega,fun k h1 h2=>by omega,fun k h1 h2=>by omega⟩⟩ (by rw [show ((b-1:Nat):Int)=(b:Int)-1 by omega];rfl) ?_
 rintro i S1 ⟨rfl,hp⟩ kk hkk
 have hi1:=hp.i1
 have hij:=hp.ij
 (try simp only [rwp,zA,zB,zC,zD,zE,zF,zG,zH,zI,rwb,reduceIte,C163_1])
 have next:(∀ j:Nat,i≤j→j≤b-1→Le (ltC c) (v0 a) (v0 i))→LoopP (fun r0 l S=>C163_3 QF r0 (lget l 0) (lget l 1) (lget l 4) (lget l 12) (lget l 13) S) [(0,D),(1,.int .i64 a),(4,fnG g),(12,.int .i64 i),(13,.int .i64 ((b-1:Nat):Int))] (SS v0):=by
  intro hle
  refine LoopP.introS (fun j:Nat=>[(0,D),(1,.int .i64 a),(4,fnG g),(12,.int .i64 i),(13,.int .i64 j)]) (fun j S'=>S'=SS v0∧Par (ltC c) a b i j v0) (fun j=>j) (b-1) ⟨rfl,hp⟩ rfl ?_
  rintro j S2 ⟨rfl,hp2⟩ kk2 hkk2
  have hj1:=hp2.j1
  have hij2:=hp2.ij
  (try simp only [rwp,zA,zB,zC,zD,zE,zF,zG,zH,zI,rwb,reduceIte,C163_3])
  cases a1:decide ((i:Int)≤j)
  ·have hlt:j<i:=by have:=of_decide_eq_false a1;omega
   (try simp only [rwp,zA,zB,zC,zD,zE,zF,zG,zH,zI,rwb,reduceIte,C163_4,decide_eq_true (show (j:Int)<i by omega)])
   refine hD.swap rfl rfl rfl rfl (by omega) (by omega) ?_
   exact fin v0 i j true hr0 hp2 hlt
  ·have hle2:i≤j:=by have:=of_decide_eq_true a1;omega
   (try simp only [rwp,zA,zB,zC,zD,zE,zF,zG,zH,zI,rwb,reduceIte])
   refine hD.cmp hg (i:=j) (j:=a) rfl rfl (by omega) (by omega) ?_
   (try simp only [rwp,zA,zB,zC,zD,zE,zF,zG,zH,zI,rwb,reduceIte])
   cases a2:decide (c (v0 j) (v0 a)<0)
   ·(try simp only [rwp,zA,zB,zC,zD,zE,zF,zG,zH,zI,rwb,reduceIte,C163_4])
    (try (simp (disch:=omega) only [q04]))
    rw [show (j:Int)-1=((j-1:Nat):Int) by omega]
    refine q0a rfl (hkk2 (j-1) _ ⟨rfl,hi1,by omega,by omega,hp2.l,fun k h1 h2=>?_⟩ (by omega))
    by_cases e:k=j
    ·rw [e];exact a2
    ·exact hp2.r k (by omega) h2
   ·(try simp only [rwp,zA,zB,zC,zD,zE,zF,zG,zH,zI,rwb,reduceIte,C163_4,decide_eq_false (show ¬ (j:Int)<i by omega)])
    refine hD.swap rfl rfl rfl rfl (by omega) (by omega) ?_
    (try simp only [rwp,zA,zB,zC,zD,zE,zF,zG,zH,zI,rwb,reduceIte])
    (try (simp (disch:=omega) only [q04]))
    obtain ⟨hp3,hlt3⟩:=hp2.swap hle2 (hle j hle2 (by omega)) a2
    have hr3:Rng n a b v (sw v0 i j):=hr0.trans (Rng.sw (by omega) (by omega) (by omega) (by omega) hb)
    generalize sw v0 i j=v1 at hp3 hr3
    clear hkk hkk2 hle hp hp2 hr0 a2
    have ei:(i:Int)+1=((i+1:Nat):Int):=by omega
    have ej:(j:Int)-1=((j-1:Nat):Int):=by omega
    rw [ei,ej]
    generalize i+1=i at hp3
    generalize j-1=j at hp3
    refine LoopP.introS (fun x:Nat×Nat=>[(0,D),(1,.int .i64 a),(4,fnG g),(12,.int .i64 x.1),(13,.int .i64 x.2)]) (fun x S'=>∃ w,S'=SS w∧Rng n a b v w∧Par (ltC c) a b x.1 x.2 w) (fun x=>x.2) (i,j) ⟨v1,rfl,hr3,hp3⟩ rfl ?_
    rintro ⟨i,j⟩ S3 ⟨w,rfl,hr,hp⟩ kk hkk
    dsimp only at hp ⊢
    unfold C163_5
    have hj0:=hp.j1
    refine LoopP.introS (fun i:Nat=>[(0,D),(1,.int .i64 a),(4,fnG g),(12,.int .i64 i),(13,.int .i64 j)]) (fun i S'=>S'=SS w∧Par (ltC c) a b i j w) (fun i=>b-i) i ⟨rfl,hp⟩ rfl ?_
    rintro i2 S4 ⟨rfl,hp4⟩ kk2 hkk2
    have hi4:=hp4.i1
    have hij4:=hp4.ij
    (try simp only [rwp,zA,zB,zC,zD,zE,zF,zG,zH,zI,rwb,reduceIte,C163_6])
    have next:(∀ j2:Nat,i2≤j2→j2≤j→Le (ltC c) (w a) (w i2))→LoopP (fun r1 l S=>C163_8 QF kk r1 (lget l 0) (lget l 1) (lget l 4) (lget l 12) (lget l 13) S) [(0,D),(1,.int .i64 a),(4,fnG g),(12,.int .i64 i2),(13,.int .i64 j)] (SS w):=by
     intro hle
     refine LoopP.introS (fun j2:Nat=>[(0,D),(1,.int .i64 a),(4,fnG g),(12,.int .i64 i2),(13,.int .i64 j2)]) (fun j2 S'=>S'=SS w∧j2≤j∧Par (ltC c) a b i2 j2 w) (fun j2=>j2) j ⟨rfl,Nat.le_refl _,hp4⟩ rfl ?_
     rintro j2 S5 ⟨rfl,hjj,hp5⟩ kk3 hkk3
     have hj5:=hp5.j1
     have hij5:=hp5.ij
     (try simp only [rwp,zA,zB,zC,zD,zE,zF,zG,zH,zI,rwb,reduceIte,C163_8])
     cases a1:decide ((i2:Int)≤j2)
     ·have hlt:j2<i2:=by have:=of_decide_eq_false a1;omega
      (try simp only [rwp,zA,zB,zC,zD,zE,zF,zG,zH,zI,rwb,reduceIte,C163_9,decide_eq_true (show (j2:Int)<i2 by omega)])
      refine hD.swap rfl rfl rfl rfl (by omega) (by omega) ?_
      exact fin w i2 j2 false hr hp5 hlt
     ·have hle2:i2≤j2:=by have:=of_decide_eq_true a1;omega
      (try simp only [rwp,zA,zB,zC,zD,zE,zF,zG,zH,zI,rwb,reduceIte])
      refine hD.cmp hg (i:=j2) (j:=a) rfl rfl (by omega) (by omega) ?_
      (try simp only [rwp,zA,zB,zC,zD,zE,zF,zG,zH,zI,rwb,reduceIte])
      cases a2:decide (c (w j2) (w a)<0)
      ·(try simp only [rwp,zA,zB,zC,zD,zE,zF,zG,zH,zI,rwb,reduceIte,C163_9])
       (try (simp (disch:=omega) only [q04]))
       rw [show (j2:Int)-1=((j2-1:Nat):Int) by omega]
       refine q0a rfl (hkk3 (j2-1) _ ⟨rfl,by omega,hi4,by omega,by omega,hp5.l,fun k h1 h2=>?_⟩ (by omega))
       by_cases e:k=j2
       ·rw [e];exact a2
       ·exact hp5.r k (by omega) h2
      ·(try simp only [rwp,zA,zB,zC,zD,zE,zF,zG,zH,zI,rwb,reduceIte,C163_9,decide_eq_false (show ¬ (j2:Int)<i2 by omega)])
       refine hD.swap rfl rfl rfl rfl (by omega) (by omega) ?_
       (try simp only [rwp,zA,zB,zC,zD,zE,zF,zG,zH,zI,rwb,reduceIte])
       (try (simp (disch:=omega) only [q04]))
       obtain ⟨hp6,hlt6⟩:=hp5.swap hle2 (hle j2 hle2 hjj) a2
       rw [show (i2:Int)+1=((i2+1:Nat):Int) by omega,show (j2:Int)-1=((j2-1:Nat):Int) by omega]
       exact q0a rfl (hkk (i2+1,j2-1) _ ⟨_,rfl,hr.trans (Rng.sw (by omega) (by omega) (by omega) (by omega) hb),hp6⟩ (by dsimp only;omega))
    cases a1:decide ((i2:Int)≤j)
    ·(try simp only [rwp,zA,zB,zC,zD,zE,zF,zG,zH,zI,rwb,reduceIte,C163_7])
     exact next fun j2 h1 h2=>by have:=of_decide_eq_false a1;omega
    ·have hle2:i2≤j:=by have:=of_decide_eq_true a1;omega
     (try simp only [rwp,zA,zB,zC,zD,zE,zF,zG,zH,zI,rwb,reduceIte])
     refine hD.cmp hg (i:=i2) (j:=a) rfl rfl (by omega) (by omega) ?_
     (try simp only [rwp,zA,zB,zC,zD,zE,zF,zG,zH,zI,rwb,reduceIte])
     cases a2:decide (c (w i2) (w a)<0)
     ·(try simp only [rwp,zA,zB,zC,zD,zE,zF,zG,zH,zI,rwb,reduceIte,C163_7])
      exact next fun _ _ _=>a2
     ·(try simp only [rwp,zA,zB,zC,zD,zE,zF,zG,zH,zI,rwb,reduceIte,C163_7])
      (try (simp (disch:=omega) only [q04]))
      rw [show (i2:Int)+1=((i2+1:Nat):Int) by omega]
      refine q0a rfl (hkk2 (i2+1) _ ⟨rfl,by omega,hp4.j1,by omega,fun k h1 h2=>?_,hp4.r⟩ (by omega))
      by_cases e:k=i2
      ·rw [e];exact a2
      ·exact hp4.l k h1 (by omega)
 cases a1:decide ((i:Int)≤((b-1:Nat):Int))
 ·(try simp only [rwp,zA,zB,zC,zD,zE,zF,zG,zH,zI,rwb,reduceIte,C163_2])
  exact next fun j h1 h2=>by have:=of_decide_eq_false a1;omega
 ·have hle2:i≤b-1:=by have:=of_decide_eq_true a1;omega
  (try simp only [rwp,zA,zB,zC,zD,zE,zF,zG,zH,zI,rwb,reduceIte])
  refine hD.cmp hg (i:=i) (j:=a) rfl rfl (by omega) (by omega) ?_
  (try simp only [rwp,zA,zB,zC,zD,zE,zF,zG,zH,zI,rwb,reduceIte])
  cases a2:decide (c (v0 i) (v0 a)<0)
  ·(try simp only [rwp,zA,zB,zC,zD,zE,zF,zG,zH,zI,rwb,reduceIte,C163_2])
   exact next fun _ _ _=>a2
  ·(try simp only [rwp,zA,zB,zC,zD,zE,zF,zG,zH,zI,rwb,reduceIte,C163_2])
   (try (simp (disch:=omega) only [q04]))
   rw [show (i:Int)+1=((i+1:Nat):Int) by omega]
   refine q0a rfl (hkk (i+1) _ ⟨rfl,by omega,hp.j1,by omega,fun k h1 h2=>?_,hp.r⟩ (by omega))
   by_cases e:k=i
   ·rw [e];exact a2
   ·exact hp.l k h1 (by omega)
theorem c_partitionE (hD:Dat D pt SS n) (hg:∀ x y,AFun PG g [.agg (obC x),.agg (obC y)] (.int .i64 (c x y))) (ho:LtOk (ltC c)) {a b p:Nat} (hap:a≤p) (hpb:p<b) (hb:b≤n) (v:Nat→Ob) :
  ACalls PG nrx162 [D,.int .i64 a,.int .i64 b,.int .i64 p,fnG g] (SS v) fun ae S'=>∃ (w:Nat→Ob) (m:Nat),ae=.ret (.int .i64 m)∧S'=SS w∧Rng n a b v w∧w a=v p∧a<m∧m≤b∧∀ k,a≤k→k<m→Le (ltC c) (w k) (w a):=by
 have hn:=hD.bd
 refine wx162 ?_
 unfold Bx162
 refine hD.swap rfl rfl rfl rfl (by omega) (by omega) ?_
 have hr0:Rng n a b v (sw v a p):=Rng.sw (by omega) (by omega) hap hpb hb
 have hv0:sw v a p a=v p:=sw_i
 generalize sw v a p=v0 at hr0 hv0
 (try simp only [rwp,zA,zB,zC,zD,zE,zF,zG,zH,zI,rwb,reduceIte])
 (try (simp (disch:=omega) only [q04]))
 generalize hQ:(fun ae S'=>∃ (w:Nat→Ob) (m:Nat),ae=AEnd.ret (.int .i64 m)∧S'=SS w∧Rng n a b v w∧w a=v p∧a<m∧m≤b∧∀ k,a≤k→k<m→Le (ltC c) (w k) (w a))=QF
 refine LoopP.introS (fun x:Nat×Nat=>[(0,D),(1,.int .i64 a),(4,fnG g),(11,.int .i64 x.1),(12,.int .i64 x.2)]) (fun x S'=>∃ w,S'=SS w∧Rng n a b v w∧w a=v p∧ParE (ltC c) a b x.1 x.2 w) (fun x=>x.2) (a+1,b-1)
  ⟨v0,rfl,hr0,hv0,⟨by dsimp only;omega,by dsimp only;omega,by dsimp only;omega,fun k h1 h2=>by dsimp only at h2;omega,fun k h1 h2=>by dsimp only at h1;omega⟩⟩ (by dsimp only;rw [show ((b-1:Nat):Int)=(b:Int)-1 by omega];rfl) ?_
 rintro ⟨i,j⟩ S3 ⟨w,rfl,hr,hwa,hp⟩ kk hkk
 dsimp only at hp ⊢
 unfold C162_1
 have hj0:=hp.j1
 refine LoopP.introS (fun i:Nat=>[(0,D),(1,.int .i64 a),(4,fnG g),(11,.int .i64 i),(12,.int .i64 j)]) (fun i S'=>S'=SS w∧ParE (ltC c) a b i j w) (fun i=>b-i) i ⟨rfl,hp⟩ rfl ?_
 rintro i2 S4 ⟨rfl,hp4⟩ kk2 hkk2
 have hi4:=hp4.i1
 have hij4:=hp4.ij
 (try simp only [rwp,zA,zB,zC,zD,zE,zF,zG,zH,zI,rwb,reduceIte,C162_2])
 have next:(∀ j2:Nat,i2≤j2→j2≤j→ltC c (w a) (w i2)=true)→LoopP (fun r1 l S=>C162_4 QF kk r1 (lget l 0) (lget l 1) (lget l 4) (lget l 11) (lget l 12) S) [(0,D),(1,.int .i64 a),(4,fnG g),(11,.int .i64 i2),(12,.int .i64 j)] (SS w):=by
  intro hle
  refine LoopP.introS (fun j2:Nat=>[(0,D),(1,.int .i64 a),(4,fnG g),(11,.int .i64 i2),(12,.int .i64 j2)]) (fun j2 S'=>S'=SS w∧j2≤j∧ParE (ltC c) a b i2 j2 w) (fun j2=>j2) j ⟨rfl,Nat.le_refl _,hp4⟩ rfl ?_
  rintro j2 S5 ⟨rfl,hjj,hp5⟩ kk3 hkk3
  have hj5:=hp5.j1
  have hij5:=hp5.ij
  (try simp only [rwp,zA,zB,zC,zD,zE,zF,zG,zH,zI,rwb,reduceIte,C162_4])
  cases a1:decide ((i2:Int)≤j2)
  ·have hlt:j2<i2:=by have:=of_decide_eq_false a1;omega
   (try simp only [rwp,zA,zB,zC,zD,zE,zF,zG,zH,zI,rwb,reduceIte,C162_5,decide_eq_true (show (j2:Int)<i2 by omega)])
   subst hQ
   refine q03 ⟨w,i2,rfl,rfl,hr,hwa,hi4,by omega,fun k h1 h2=>?_⟩
   by_cases e:k=a
   ·rw [e];exact Le.refl ho _
   ·exact hp5.l k (by omega) h2
  ·have hle2:i2≤j2:=by have:=of_decide_eq_true a1;omega
   (try simp only [rwp,zA,zB,zC,zD,zE,zF,zG,zH,zI,rwb,reduceIte])
   refine hD.cmp hg (i:=a) (j:=j2) rfl rfl (by omega) (by omega) ?_
   (try simp only [rwp,zA,zB,zC,zD,zE,zF,zG,zH,zI,rwb,reduceIte])
   cases a2:decide (c (w a) (w j2)<0)
   ·(try simp only [rwp,zA,zB,zC,zD,zE,zF,zG,zH,zI,rwb,reduceIte,C162_5,decide_eq_false (show ¬ (j2:Int)<i2 by omega)])
    refine hD.swap rfl rfl rfl rfl (by omega) (by omega) ?_
    (try simp only [rwp,zA,zB,zC,zD,zE,zF,zG,zH,zI,rwb,reduceIte])
    (try (simp (disch:=omega) only [q04]))
    obtain ⟨hp6,hlt6⟩:=hp5.swap hle2 (hle j2 hle2 hjj) a2
    rw [show (i2:Int)+1=((i2+1:Nat):Int) by omega,show (j2:Int)-1=((j2-1:Nat):Int) by omega]
    exact q0a rfl (hkk (i2+1,j2-1) _ ⟨_,rfl,hr.trans (Rng.sw (by omega) (by omega) (by omega) (by omega) hb),(sw_o (by omega) (by omega)).trans hwa,hp6⟩ (by dsimp only;omega))
   ·(try simp only [rwp,zA,zB,zC,zD,zE,zF,zG,zH,zI,rwb,reduceIte,C162_5])
    (try (simp (disch:=omega) only [q04]))
    rw [show (j2:Int)-1=((j2-1:Nat):Int) by omega]
    refine q0a rfl (hkk3 (j2-1) _ ⟨rfl,by omega,hi4,by omega,by omega,hp5.l,fun k h1 h2=>?_⟩ (by omega))
    by_cases e:k=j2
    ·rw [e];exact a2
    ·exact hp5.r k (by omega) h2
 cases a1:decide ((i2:Int)≤j)
 ·(try simp only [rwp,zA,zB,zC,zD,zE,zF,zG,zH,zI,rwb,reduceIte,C162_3])
  exact next fun j2 h1 h2=>by have:=of_decide_eq_false a1;omega
 ·have hle2:i2≤j:=by have:=of_decide_eq_true a1;omega
  (try simp only [rwp,zA,zB,zC,zD,zE,zF,zG,zH,zI,rwb,reduceIte])
  refine hD.cmp hg (i:=a) (j:=i2) rfl rfl (by omega) (by omega) ?_
  (try simp only [rwp,zA,zB,zC,zD,zE,zF,zG,zH,zI,rwb,reduceIte])
  cases a2:decide (c (w a) (w i2)<0)
  ·(try simp only [rwp,zA,zB,zC,zD,zE,zF,zG,zH,zI,rwb,reduceIte,C162_3])
   (try (simp (disch:=omega) only [q04]))
   rw [show (i2:Int)+1=((i2+1:Nat):Int) by omega]
   refine q0a rfl (hkk2 (i2+1) _ ⟨rfl,by omega,hp4.j1,by omega,fun k h1 h2=>?_,hp4.r⟩ (by omega))
   by_cases e:k=i2
   ·rw [e];exact a2
   ·exact hp4.l k h1 (by omega)
  ·(try simp only [rwp,zA,zB,zC,zD,zE,zF,zG,zH,zI,rwb,reduceIte,C162_3])
   exact next fun _ _ _=>a2
theorem c_reverse (hD:Dat D pt SS n) {a b:Nat} (hab:a<b) (hb:b≤n) (F:AV) (v:Nat→Ob) :
  ACalls PG nrx160 [D,.int .i64 a,.int .i64 b,F] (SS v) fun ae S'=>ae=.ret (.tup [])∧∃ w,S'=SS w∧Rng n a b v w:=by
 have hn:=hD.bd
 refine wx160 ?_
 unfold Bx160
 (try simp only [rwp,zA,zB,zC,zD,zE,zF,zG,zH,zI,rwb,reduceIte])
 (try (simp (disch:=omega) only [q04]))
 rw [show (b:Int)-1=((b-1:Nat):Int) by omega]
 refine LoopP.introS (fun x:Nat×Nat=>[(0,D),(8,.int .i64 x.1),(9,.int .i64 x.2)]) (fun x S'=>a≤x.1∧x.2<b∧x.1≤x.2+1∧∃ w,S'=SS w∧Rng n a b v w) (fun x=>x.2) (a,b-1) ⟨by dsimp only;omega,by dsimp only;omega,by dsimp only;omega,v,rfl,Rng.refl _ _ _ _⟩ rfl ?_
 rintro ⟨i,j⟩ S1 ⟨h1,h2,h3,w,rfl,hr⟩ kk hkk
 dsimp only at h1 h2 h3 ⊢
 (try simp only [rwp,zA,zB,zC,zD,zE,zF,zG,zH,zI,rwb,reduceIte,C160_1])
 cases a1:decide ((i:Int)<j)
 ·(try simp only [rwp,zA,zB,zC,zD,zE,zF,zG,zH,zI,rwb,reduceIte])
  exact q1k ⟨rfl,w,rfl,hr⟩
 ·have hlt:=of_decide_eq_true a1
  (try simp only [rwp,zA,zB,zC,zD,zE,zF,zG,zH,zI,rwb,reduceIte])
  refine hD.swap rfl rfl rfl rfl (by omega) (by omega) ?_
  (try simp only [rwp,zA,zB,zC,zD,zE,zF,zG,zH,zI,rwb,reduceIte])
  (try (simp (disch:=omega) only [q04]))
  rw [show (i:Int)+1=((i+1:Nat):Int) by omega,show (j:Int)-1=((j-1:Nat):Int) by omega]
  exact q0a rfl (hkk (i+1,j-1) _ ⟨by dsimp only;omega,by dsimp only;omega,by dsimp only;omega,_,rfl,hr.trans (Rng.sw (by omega) (by omega) (by omega) (by omega) hb)⟩ (by dsimp only;omega))
end
set_option maxRecDepth 4000
section
variable {D:AV} {pt:Nat→AV} {SS:(Nat→Ob)→q00} {n g:Nat} {c:Ob→Ob→Int} {cb:Nat} {v:Nat→Ob}
abbrev swC (k:Int):AObj:=.cells 3 [.int .i64 k] 1
theorem c_order2 (hD:Dat D pt SS n) (hg:∀ x y,AFun PG g [.agg (obC x),.agg (obC y)] (.int .i64 (c x y))) (hc:sget (SS v) cb=none) {i j k:Nat} (hi:i<n) (hj:j<n) (hk:k≤100000) :
  ACalls PG nrx212 [D,.int .i64 i,.int .i64 j,.ptr cb 0,fnG g] (supd (SS v) cb (swC k)) fun ae S'=>∃ x y k':Nat,ae=.ret (.tup [.int .i64 x,.int .i64 y])∧S'=supd (SS v) cb (swC k')∧k'≤k+1∧((x=i∧y=j)∨(x=j∧y=i)):=by
 refine wx212 ?_
 unfold Bx212
 refine hD.ia rfl hj (hD.ia rfl hi (hD.fr hc hj (hD.fr hc hi (q06 (hg _ _) ?_))))
 have ho:=q0f (S:=SS v) (b:=cb) (t:=3) (cs:=[.int .i64 k]) (tot:=1)
 have hcl:=q08 ho
 (try simp only [rwp,zA,zB,zC,zD,zE,zF,zG,zH,zI,rwb,reduceIte])
 cases a1:decide (c (v j) (v i)<0)
 ·(try simp only [rwp,zA,zB,zC,zD,zE,zF,zG,zH,zI,rwb,reduceIte])
  exact q5e ⟨i,j,k,rfl,rfl,by omega,.inl ⟨rfl,rfl⟩⟩
 ·(try simp only [rwp,zA,zB,zC,zD,zE,zF,zG,zH,zI,rwb,reduceIte,hcl,ho,q0j])
  (simp (disch:=omega) only [q04])
  refine q5e ⟨j,i,k+1,rfl,?_,by omega,.inr ⟨rfl,rfl⟩⟩
  rw [show ((k+1:Nat):Int)=(k:Int)+1 by omega]
theorem c_median (hD:Dat D pt SS n) (hg:∀ x y,AFun PG g [.agg (obC x),.agg (obC y)] (.int .i64 (c x y))) (hc:sget (SS v) cb=none) {i j l k:Nat} (hi:i<n) (hj:j<n) (hl:l<n) (hk:k≤1000) :
  ACalls PG nrx198 [D,.int .i64 i,.int .i64 j,.int .i64 l,.ptr cb 0,fnG g] (supd (SS v) cb (swC k)) fun ae S'=>∃ m k':Nat,ae=.ret (.int .i64 m)∧S'=supd (SS v) cb (swC k')∧k'≤k+3∧(m=i∨m=j∨m=l):=by
 refine wx198 ?_
 unfold Bx198
 refine q0g (c_order2 hD hg hc hi hj (by omega)) ?_
 rintro ae S1 ⟨x,y,k1,rfl,rfl,h1,h2⟩
 dsimp only
 (try simp only [rwp,zA,zB,zC,zD,zE,zF,zG,zH,zI,rwb,reduceIte])
 refine q0g (c_order2 hD hg hc (i:=y) (j:=l) (by omega) hl (by omega)) ?_
 rintro ae S2 ⟨x2,y2,k2,rfl,rfl,h3,h4⟩
 dsimp only
 (try simp only [rwp,zA,zB,zC,zD,zE,zF,zG,zH,zI,rwb,reduceIte])
 refine q0g (c_order2 hD hg hc (i:=x) (j:=x2) (by omega) (by omega) (by omega)) ?_
 rintro ae S3 ⟨x3,y3,k3,rfl,rfl,h5,h6⟩
 dsimp only
 (try simp only [rwp,zA,zB,zC,zD,zE,zF,zG,zH,zI,rwb,reduceIte])
 exact q03 ⟨y3,k3,rfl,rfl,by omega,by omega⟩
theorem c_medianA (hD:Dat D pt SS n) (hg:∀ x y,AFun PG g [.agg (obC x),.agg (obC y)] (.int .i64 (c x y))) (hc:sget (SS v) cb=none) {i k:Nat} (h0:0<i) (hi:i+1<n) (hk:k≤1000) :
  ACalls PG nrx197 [D,.int .i64 i,.ptr cb 0,fnG g] (supd (SS v) cb (swC k)) fun ae S'=>∃ m k':Nat,ae=.ret (.int .i64 m)∧S'=supd (SS v) cb (swC k')∧k'≤k+3∧i≤m+1∧m≤i+1:=by
 have hn:=hD.bd
 refine wx197 ?_
 unfold Bx197
 (try simp only [rwp,zA,zB,zC,zD,zE,zF,zG,zH,zI,rwb,reduceIte])
 (simp (disch:=omega) only [q04])
 rw [show (i:Int)-1=((i-1:Nat):Int) by omega,show (i:Int)+1=((i+1:Nat):Int) by omega]
 refine q0g (c_median hD hg hc (i:=i-1) (j:=i) (l:=i+1) (by omega) (by omega) (by omega) hk) ?_
 rintro ae S1 ⟨m,k1,rfl,rfl,h1,h2⟩
 dsimp only
 exact q03 ⟨m,k1,rfl,rfl,by omega,by omega,by omega⟩
theorem c_pivot (hD:Dat D pt SS n) (hg:∀ x y,AFun PG g [.agg (obC x),.agg (obC y)] (.int .i64 (c x y))) {a b:Nat} (hab:a+12<b) (hb:b≤n) :
  ACalls PG nrx159 [D,.int .i64 a,.int .i64 b,fnG g] (SS v) fun ae S'=>∃ (p:Nat) (h:Int),ae=.ret (.tup [.int .i64 p,.int .i64 h])∧S'=SS v∧a≤p∧p<b:=by
 have hn:=hD.bd
 refine wx159 ?_
 unfold Bx159
 obtain ⟨l,rfl⟩:∃ l,b=a+l:=⟨b-a,by omega⟩
 (try simp only [rwp,zA,zB,zC,zD,zE,zF,zG,zH,zI,rwb,reduceIte])
 (try (simp (disch:=omega) only [q04]))
 rw [show ((a+l:Nat):Int)-a=(l:Int) by omega]
 intro cb hcb
 have fin:∀ (p k:Nat),a≤p→p<a+l→C159_1 (fun ae S'=>∃ (p:Nat) (h:Int),ae=.ret (.tup [.int .i64 p,.int .i64 h])∧S'=SS v∧a≤p∧p<a+l) (.ptr cb 0) (.int .i64 p) (supd (SS v) cb (swC k)):=by
  intro p k h1 h2
  have hcl:=q08 (q0f (S:=SS v) (b:=cb) (t:=3) (cs:=[.int .i64 k]) (tot:=1))
  (try simp only [rwp,zA,zB,zC,zD,zE,zF,zG,zH,zI,rwb,reduceIte,C159_1,hcl])
  have out:∀ h:Int,rtW [.tmp (.int .i64 p),.tmp (.int .i64 h)] (fun ae S'=>∃ (p:Nat) (h:Int),ae=.ret (.tup [.int .i64 p,.int .i64 h])∧S'=SS v∧a≤p∧p<a+l) (supd (SS v) cb (swC k)):=fun h=>q1d (SS v) (Sub.supd hcb (Sub.refl _)) ⟨p,h,rfl,rfl,h1,h2⟩
  cases a1:decide ((k:Int)=0)
  ·(try simp only [rwp,zA,zB,zC,zD,zE,zF,zG,zH,zI,rwb,reduceIte])
   cases a2:decide ((k:Int)=12)
   ·(try simp only [rwp,zA,zB,zC,zD,zE,zF,zG,zH,zI,rwb,reduceIte]);exact out 0
   ·(try simp only [rwp,zA,zB,zC,zD,zE,zF,zG,zH,zI,rwb,reduceIte]);exact out 2
  ·(try simp only [rwp,zA,zB,zC,zD,zE,zF,zG,zH,zI,rwb,reduceIte]);exact out 1
 refine quoN (a:=l) (b:=4) rfl rfl (by omega) (by omega) ?_
 have hq:3≤l / 4∧4 * (l / 4)≤l:=by omega
 generalize hq4:l / 4=q at hq
 (try simp only [rwp,zA,zB,zC,zD,zE,zF,zG,zH,zI,rwb,reduceIte])
 (try (simp (disch:=omega) only [q04]))
 refine quoN (a:=l) (b:=4) rfl rfl (by omega) (by omega) ?_
 rw [hq4]
 (try simp only [rwp,zA,zB,zC,zD,zE,zF,zG,zH,zI,rwb,reduceIte])
 (try (simp (disch:=omega) only [q04]))
 refine quoN (a:=l) (b:=4) rfl rfl (by omega) (by omega) ?_
 rw [hq4]
 (try simp only [rwp,zA,zB,zC,zD,zE,zF,zG,zH,zI,rwb,reduceIte])
 (try (simp (disch:=omega) only [q04]))
 rw [show (a:Int)+(q:Int) * 1=((a+q:Nat):Int) by omega,show (a:Int)+(q:Int) * 2=((a+2 * q:Nat):Int) by omega,show (a:Int)+(q:Int) * 3=((a+3 * q:Nat):Int) by omega]
 (try simp only [rwp,zA,zB,zC,zD,zE,zF,zG,zH,zI,rwb,reduceIte,decide_eq_true (show (8:Int)≤l by omega)])
 cases a1:decide ((50:Int)≤l)
 ·(try simp only [rwp,zA,zB,zC,zD,zE,zF,zG,zH,zI,rwb,reduceIte])
  refine q0g (c_median hD hg hcb (k:=0) (i:=a+q) (j:=a+2 * q) (l:=a+3 * q) (by omega) (by omega) (by omega) (by omega)) ?_
  rintro ae S1 ⟨m,k1,rfl,rfl,h1,h2⟩
  dsimp only
  exact fin m k1 (by omega) (by omega)
 ·have hl:=of_decide_eq_true a1
  (try simp only [rwp,zA,zB,zC,zD,zE,zF,zG,zH,zI,rwb,reduceIte])
  refine q0g (c_medianA hD hg hcb (k:=0) (i:=a+q) (by omega) (by omega) (by omega)) ?_
  rintro ae S1 ⟨m1,k1,rfl,rfl,h1,h2,h2'⟩
  dsimp only
  refine q0g (c_medianA hD hg hcb (i:=a+2 * q) (by omega) (by omega) (by omega)) ?_
  rintro ae S2 ⟨m2,k2,rfl,rfl,h3,h4,h4'⟩
  dsimp only
  refine q0g (c_medianA hD hg hcb (i:=a+3 * q) (by omega) (by omega) (by omega)) ?_
  rintro ae S3 ⟨m3,k3,rfl,rfl,h5,h6,h6'⟩
  dsimp only
  refine q0g (c_median hD hg hcb (i:=m1) (j:=m2) (l:=m3) (by omega) (by omega) (by omega) (by omega)) ?_
  rintro ae S4 ⟨m,k4,rfl,rfl,h7,h8⟩
  dsimp only
  exact fin m k4 (by omega) (by omega)
theorem u64w {x:Nat} (h:x<18446744073709551616):IntKind.u64.wrap (x:Int)=x:=by
 have e:IntKind.u64.wrap (x:Int)=(x:Int) % (18446744073709551616:Int):=rfl
 rw [e]
 omega
theorem and_u64 (x:Int) {m:Nat} (hm:m<1000):∃ q:Nat,q≤m∧Go.bits .and .u64 x m=q:=by
 refine ⟨(BitVec.ofInt 64 x &&& BitVec.ofInt 64 (m:Int)).toNat,?_,?_⟩
 ·rw [BitVec.toNat_and]
  refine Nat.le_trans Nat.and_le_right ?_
  rw [BitVec.toNat_ofInt]
  omega
 ·exact u64w (BitVec.isLt _)
theorem shl13 (a:Int):∃ a':Int,∀ K:AV→Prop,biW .shl (.int .u64 a) (.int .u64 13) K=K (.int .u64 a'):=⟨_,fun K=>rfl⟩
theorem shl17 (a:Int):∃ a':Int,∀ K:AV→Prop,biW .shl (.int .u64 a) (.int .u64 17) K=K (.int .u64 a'):=⟨_,fun K=>rfl⟩
theorem shr7 (a:Int):∃ a':Int,∀ K:AV→Prop,biW .shr (.int .u64 a) (.int .u64 7) K=K (.int .u64 a'):=⟨_,fun K=>rfl⟩
abbrev rnC (r:Int):AObj:=.cells 272 [.int .u64 r] 1
theorem c_Next {S:q00} (r:Int):ACalls PG nrx196 [.ptr cb 0] (supd S cb (rnC r)) fun ae S'=>∃ r':Int,ae=.ret (.int .u64 r')∧S'=supd S cb (rnC r'):=by
 refine wx196 ?_
 unfold Bx196
 have ho:∀ x:Int,q0h (supd S cb (rnC x)) cb=some (272,[.int .u64 x],1):=fun x=>q0f
 have hcl:=fun x=>q08 (ho x)
 obtain ⟨r1,e1⟩:=shl13 r
 (try simp only [rwp,zA,zB,zC,zD,zE,zF,zG,zH,zI,rwb,reduceIte,hcl,ho,e1,biW_xor,q0j])
 obtain ⟨r2,e2⟩:=shr7 (Go.bits .xor .u64 r r1)
 generalize Go.bits .xor .u64 r r1=x1 at e2 ⊢
 (try simp only [rwp,zA,zB,zC,zD,zE,zF,zG,zH,zI,rwb,reduceIte,hcl,ho,e2,biW_xor,q0j])
 obtain ⟨r3,e3⟩:=shl17 (Go.bits .xor .u64 x1 r2)
 generalize Go.bits .xor .u64 x1 r2=x2 at e3 ⊢
 (try simp only [rwp,zA,zB,zC,zD,zE,zF,zG,zH,zI,rwb,reduceIte,hcl,ho,e3,biW_xor,q0j])
 exact q03 (QF:=fun ae S'=>∃ r':Int,ae=.ret (.int .u64 r')∧S'=supd S cb (rnC r')) ⟨_,rfl,rfl⟩
theorem c_pow2 {l:Nat} (hl:l<256):AFun PG nrx195 [.int .i64 l] (.int .u64 ((2 ^ lenF l:Nat):Int)):=by
 intro S
 refine wx195 ?_
 unfold Bx195
 (try simp only [rwp,zA,zB,zC,zD,zE,zF,zG,zH,zI,rwb,reduceIte])
 rw [u64w (by omega)]
 refine q06 (c_Len hl) ?_
 have h8:=(lenF_ok ⟨l,hl⟩).2.2
 dsimp only at h8
 generalize lenF l=q at h8
 have e:∀ K:AV→Prop,biW .shl (.int .u64 1) (.int .i64 (q:Int)) K=q0l (if (q:Int)<0 then none else some (.int .u64 (IntKind.u64.wrap (1 * 2 ^ min (q:Int).toNat 64)))) K:=fun K=>rfl
 rw [e,if_neg (by omega)]
 have hq:min (q:Int).toNat 64=q:=by omega
 rw [hq,Int.one_mul,show (2:Int) ^ q=((2 ^ q:Nat):Int) by push_cast;rfl,u64w (Nat.lt_of_le_of_lt (Nat.pow_le_pow_right (by decide) h8) (by decide))]
 simp only [someA_some]
 exact q03 ⟨rfl,rfl⟩
theorem c_break (hD:Dat D pt SS n) {a b:Nat} (hab:a+12<b) (hb:b≤n) (hl:b<a+256) (F:AV) :
  ACalls PG nrx158 [D,.int .i64 a,.int .i64 b,F] (SS v) fun ae S'=>ae=.ret (.tup [])∧∃ w,S'=SS w∧Rng n a b v w:=by
 have hn:=hD.bd
 refine wx158 ?_
 unfold Bx158
 obtain ⟨l,rfl⟩:∃ l,b=a+l:=⟨b-a,by omega⟩
 (try simp only [rwp,zA,zB,zC,zD,zE,zF,zG,zH,zI,rwb,reduceIte])
 (try (simp (disch:=omega) only [q04]))
 rw [show ((a+l:Nat):Int)-a=(l:Int) by omega]
 (try simp only [rwp,zA,zB,zC,zD,zE,zF,zG,zH,zI,rwb,reduceIte,decide_eq_true (show (8:Int)≤l by omega)])
 rw [u64w (by omega)]
 intro cb hcb
 (try simp only [rwp,zA,zB,zC,zD,zE,zF,zG,zH,zI,rwb,reduceIte,q0f,q0j])
 refine q06 (c_pow2 (by omega)) ?_
 obtain ⟨p1,p2,p3⟩:=lenF_ok ⟨l,by omega⟩
 dsimp only at p1 p2 p3
 generalize hP:2 ^ lenF l=P at p1 p2 ⊢
 refine quoN (a:=l) (b:=4) rfl rfl (by omega) (by omega) ?_
 have hq:3≤l / 4∧4 * (l / 4)≤l:=by omega
 generalize hq4:l / 4=q at hq
 (try simp only [rwp,zA,zB,zC,zD,zE,zF,zG,zH,zI,rwb,reduceIte])
 (try (simp (disch:=omega) only [q04]))
 rw [show (a:Int)+(q:Int) * 2-1=((a+2 * q-1:Nat):Int) by omega]
 refine LoopP.introS (fun i:Nat=>[(0,D),(1,.int .i64 a),(8,.int .i64 l),(9,.ptr cb 0),(10,.int .u64 P),(11,.int .i64 i)]) (fun i S'=>a+2 * q-1≤i∧i≤a+2 * q+2∧∃ (w:Nat→Ob) (r:Int),S'=supd (SS w) cb (rnC r)∧Rng n a (a+l) v w) (fun i=>a+2 * q+2-i) (a+2 * q-1)
  ⟨by omega,by omega,v,_,rfl,Rng.refl _ _ _ _⟩ rfl ?_
 rintro i S1 ⟨hi1,hi2,w,r,rfl,hr⟩ kk hkk
 have hcw:=hD.fn (w:=w) hcb
 unfold C158_1
 refine quoN (a:=l) (b:=4) rfl rfl (by omega) (by omega) ?_
 rw [hq4]
 (try simp only [rwp,zA,zB,zC,zD,zE,zF,zG,zH,zI,rwb,reduceIte])
 (try (simp (disch:=omega) only [q04]))
 cases a1:decide ((i:Int)≤(a:Int)+(q:Int) * 2+1)
 ·(try simp only [rwp,zA,zB,zC,zD,zE,zF,zG,zH,zI,rwb,reduceIte])
  exact q1d (SS w) (Sub.supd hcw (Sub.refl _)) ⟨rfl,w,rfl,hr⟩
 ·have hle:=of_decide_eq_true a1
  (try simp only [rwp,zA,zB,zC,zD,zE,zF,zG,zH,zI,rwb,reduceIte])
  refine q0g (c_Next (S:=SS w) r) ?_
  rintro ae S2 ⟨r',rfl,rfl⟩
  dsimp only
  (try simp only [rwp,zA,zB,zC,zD,zE,zF,zG,zH,zI,rwb,reduceIte])
  rw [show (P:Int)-1=((P-1:Nat):Int) by omega,u64w (by omega)]
  obtain ⟨o,ho1,ho2⟩:=and_u64 r' (m:=P-1) (by omega)
  (try simp only [rwp,zA,zB,zC,zD,zE,zF,zG,zH,zI,rwb,reduceIte,biW_and,ho2])
  (simp (disch:=omega) only [q04])
  have fin:∀ x:Nat,x<l→C158_2 (fun ae S'=>ae=.ret (.tup [])∧∃ w,S'=SS w∧Rng n a (a+l) v w) kk D (.int .i64 a) (.int .i64 l) (.ptr cb 0) (.int .u64 P) (.int .i64 i) (.int .i64 x) (supd (SS w) cb (rnC r')):=by
   intro x hx
   (try simp only [rwp,zA,zB,zC,zD,zE,zF,zG,zH,zI,rwb,reduceIte,C158_2])
   (try (simp (disch:=omega) only [q04]))
   refine hD.ia (i:=a+x) (by omega) (by omega) (hD.ia (i:=i) rfl (by omega) (hD.fr hcw (by omega) (hD.fr hcw (by omega) ?_)))
   refine hD.ia (i:=i) rfl (by omega) (hD.fs hcw (by omega) (hD.ia (i:=a+x) (by omega) (by omega) (hD.fs (hD.fn hcw) (by omega) ?_)))
   rw [sw_upv]
   (try simp only [rwp,zA,zB,zC,zD,zE,zF,zG,zH,zI,rwb,reduceIte])
   (try (simp (disch:=omega) only [q04]))
   rw [show (i:Int)+1=((i+1:Nat):Int) by omega]
   exact q0a rfl (hkk (i+1) _ ⟨by omega,by omega,_,r',rfl,hr.trans (Rng.sw (by omega) (by omega) (by omega) (by omega) hb)⟩ (by omega))
  cases a2:decide ((l:Int)≤o)
  ·(try simp only [rwp,zA,zB,zC,zD,zE,zF,zG,zH,zI,rwb,reduceIte])
   exact fin o (by have:=of_decide_eq_false a2;omega)
  ·have hlo:=of_decide_eq_true a2
   (try simp only [rwp,zA,zB,zC,zD,zE,zF,zG,zH,zI,rwb,reduceIte])
   (try (simp (disch:=omega) only [q04]))
   rw [show (o:Int)-l=((o-l:Nat):Int) by omega]
   exact fin (o-l) (by omega)
end
set_option maxRecDepth 4000
section
variable {α:Type} {lt:α→α→Bool} {n a b m A B:Nat} {v w x:Nat→α}
def PreF (lt:α→α→Bool) (a b:Nat) (v:Nat→α):Prop:=0<a→∀ k,a≤k→k<b→Le lt (v (a-1)) (v k)
theorem PreF.rng (h:PreF lt a b v) (hb:b≤n) (hr:Rng n a b v w):PreF lt a b w:=fun h0 k h1 h2=>by
 obtain ⟨j,j1,j2,e⟩:=hr.mem hb h1 h2
 rw [e,hr.out (a-1) (.inl (by omega))]
 exact h h0 j j1 j2
theorem Pdq.pre (hp:PreF lt A B v) (hb:B≤n) (hr:Rng n A B v w) (h:Pdq lt A B a b w):PreF lt a b w:=fun h0 k h1 h2=>by
 have e1:=h.pa
 have e2:=h.pb
 by_cases e:a=A
 ·subst e
  exact hp.rng hb hr h0 k h1 (by omega)
 ·exact h.lm (a-1) k (by omega) (by omega) h1 (by omega)
theorem Cut.left (h:Cut lt a b m v) (hb:b≤n) (hr:Rng n a m v w):Cut lt a b m w:=by
 have h1:=h.cb
 refine ⟨h.ca,h.cb,fun k k1 k2=>?_,fun k k1 k2=>?_⟩
 ·obtain ⟨j,j1,j2,e⟩:=hr.mem (by omega) k1 k2
  rw [e,hr.out m (.inr (Nat.le_refl _))]
  exact h.l j j1 j2
 ·rw [hr.out m (.inr (Nat.le_refl _)),hr.out k (.inr (by omega))]
  exact h.r k k1 k2
theorem Cut.right (h:Cut lt a b m v) (hb:b≤n) (hr:Rng n (m+1) b v w):Cut lt a b m w:=by
 refine ⟨h.ca,h.cb,fun k k1 k2=>?_,fun k k1 k2=>?_⟩
 ·rw [hr.out m (.inl (by omega)),hr.out k (.inl (by omega))]
  exact h.l k k1 k2
 ·obtain ⟨j,j1,j2,e⟩:=hr.mem hb (i:=k) (by omega) k2
  rw [e,hr.out m (.inl (by omega))]
  exact h.r j (by omega) j2
end
section
variable {D:AV} {pt:Nat→AV} {SS:(Nat→Ob)→q00} {n g:Nat} {c:Ob→Ob→Int}
theorem c_partial (hD:Dat D pt SS n) (hg:∀ x y,AFun PG g [.agg (obC x),.agg (obC y)] (.int .i64 (c x y))) (ho:LtOk (ltC c)) {a b:Nat} (hab:a<b) (hb:b≤n) (v:Nat→Ob) (hp:PreF (ltC c) a b v) :
  ACalls PG nrx161 [D,.int .i64 a,.int .i64 b,fnG g] (SS v) fun ae S'=>∃ (r:Bool) (w:Nat→Ob),ae=.ret (.bool r)∧S'=SS w∧Rng n a b v w∧(r=true→Srt (ltC c) a b w):=by
 have hn:=hD.bd
 refine wx161 ?_
 unfold Bx161
 (try simp only [rwp,zA,zB,zC,zD,zE,zF,zG,zH,zI,rwb,reduceIte])
 (try (simp (disch:=omega) only [q04]))
 generalize hQ:(fun ae S'=>∃ (r:Bool) (w:Nat→Ob),ae=AEnd.ret (.bool r)∧S'=SS w∧Rng n a b v w∧(r=true→Srt (ltC c) a b w))=QF
 refine LoopP.introS (fun x:Nat×Nat=>[(0,D),(1,.int .i64 a),(2,.int .i64 b),(3,fnG g),(9,.int .i64 x.1),(10,.int .i64 x.2)]) (fun x S'=>a+1≤x.1∧x.1≤b∧x.2≤5∧∃ w,S'=SS w∧Rng n a b v w∧Srt (ltC c) a x.1 w) (fun x=>5-x.2) (a+1,0)
  ⟨Nat.le_refl _,hab,by dsimp only;omega,v,rfl,Rng.refl _ _ _ _,Srt.one (Nat.le_refl _)⟩ (by dsimp only;rw [show ((a+1:Nat):Int)=(a:Int)+1 by omega];rfl) ?_
 rintro ⟨i0,j⟩ S1 ⟨hi0,hi0b,hj,w,rfl,hr,hs0⟩ kk hkk
 dsimp only at hi0 hi0b hj hs0 ⊢
 (try simp only [rwp,zA,zB,zC,zD,zE,zF,zG,zH,zI,rwb,reduceIte,C161_1])
 have no:∀ u:Nat→Ob,Rng n a b v u→rtW [.tmp (.bool false)] QF (SS u):=fun u hu=>by
  subst hQ
  exact q03 ⟨false,u,rfl,rfl,hu,fun h=>by cases h⟩
 cases a1:decide ((j:Int)<5)
 ·(try simp only [rwp,zA,zB,zC,zD,zE,zF,zG,zH,zI,rwb,reduceIte])
  exact no w hr
 ·have hj5:j<5:=by have:=of_decide_eq_true a1;omega
  (try simp only [rwp,zA,zB,zC,zD,zE,zF,zG,zH,zI,rwb,reduceIte])
  refine LoopP.introS (fun i:Nat=>[(0,D),(1,.int .i64 a),(2,.int .i64 b),(3,fnG g),(9,.int .i64 i),(10,.int .i64 j)]) (fun i S'=>a+1≤i∧i≤b∧S'=SS w∧Srt (ltC c) a i w) (fun i=>b-i) i0 ⟨hi0,hi0b,rfl,hs0⟩ rfl ?_
  rintro i S2 ⟨hi,hib,rfl,hs⟩ kk2 hkk2
  -- on to the next round
  have again:∀ u:Nat→Ob,Rng n a b v u→Srt (ltC c) a i u→rcW kk [(0,D),(1,.int .i64 a),(2,.int .i64 b),(3,fnG g),(9,.int .i64 i),(10,.int .i64 ((j:Int)+1))] (SS u):=fun u hu hsu=>by
   rw [show (j:Int)+1=((j+1:Nat):Int) by omega]
   exact q0a rfl (hkk (i,j+1) _ ⟨hi,hib,by dsimp only;omega,u,rfl,hu,hsu⟩ (by dsimp only;omega))
  have right:∀ u:Nat→Ob,Rng n a b v u→Srt (ltC c) a i u→C161_5 QF kk D (.int .i64 a) (.int .i64 b) (fnG g) (.int .i64 i) (.int .i64 j) (SS u):=by
   intro u hu hsu
   (try simp only [rwp,zA,zB,zC,zD,zE,zF,zG,zH,zI,rwb,reduceIte,C161_5])
   (try (simp (disch:=omega) only [q04]))
   cases a3:decide ((2:Int)≤(b:Int)-i)
   ·(try simp only [rwp,zA,zB,zC,zD,zE,zF,zG,zH,zI,rwb,reduceIte])
    (try (simp (disch:=omega) only [q04]))
    exact again u hu hsu
   ·(try simp only [rwp,zA,zB,zC,zD,zE,zF,zG,zH,zI,rwb,reduceIte])
    (try (simp (disch:=omega) only [q04]))
    rw [show (i:Int)+1=((i+1:Nat):Int) by omega]
    refine LoopP.introS (fun q:Nat=>[(0,D),(1,.int .i64 a),(2,.int .i64 b),(3,fnG g),(9,.int .i64 i),(10,.int .i64 j),(12,.int .i64 q)]) (fun q S'=>i+1≤q∧q≤b∧∃ x,S'=SS x∧Rng n a b v x∧Srt (ltC c) a i x) (fun q=>b-q) (i+1) ⟨Nat.le_refl _,by have:=of_decide_eq_true a3;omega,u,rfl,hu,hsu⟩ rfl ?_
    rintro q S3 ⟨hq1,hq2,x,rfl,hx,hsx⟩ kk3 hkk3
    (try simp only [rwp,zA,zB,zC,zD,zE,zF,zG,zH,zI,rwb,reduceIte,C161_6])
    cases a4:decide ((q:Int)<b)
    ·(try simp only [rwp,zA,zB,zC,zD,zE,zF,zG,zH,zI,rwb,reduceIte])
     (try (simp (disch:=omega) only [q04]))
     exact again x hx hsx
    ·have hqb:=of_decide_eq_true a4
     (try simp only [rwp,zA,zB,zC,zD,zE,zF,zG,zH,zI,rwb,reduceIte])
     refine hD.ia (i:=q) rfl (by omega) ?_
     (try simp only [rwp,zA,zB,zC,zD,zE,zF,zG,zH,zI,rwb,reduceIte])
     (try (simp (disch:=omega) only [q04]))
     refine hD.ia (i:=q-1) (by omega) (by omega) (hD.ld (by omega) (hD.ld (by omega) (q06 (hg _ _) ?_)))
     (try simp only [rwp,zA,zB,zC,zD,zE,zF,zG,zH,zI,rwb,reduceIte])
     cases a5:decide (c (x q) (x (q-1))<0)
     ·(try simp only [rwp,zA,zB,zC,zD,zE,zF,zG,zH,zI,rwb,reduceIte])
      (try (simp (disch:=omega) only [q04]))
      exact again x hx hsx
     ·(try simp only [rwp,zA,zB,zC,zD,zE,zF,zG,zH,zI,rwb,reduceIte])
      (try (simp (disch:=omega) only [q04]))
      refine hD.swap (i:=q-1) (j:=q) (by omega) rfl (by omega) rfl (by omega) (by omega) ?_
      (try simp only [rwp,zA,zB,zC,zD,zE,zF,zG,zH,zI,rwb,reduceIte])
      (try (simp (disch:=omega) only [q04]))
      rw [show (q:Int)+1=((q+1:Nat):Int) by omega]
      exact q0a rfl (hkk3 (q+1) _ ⟨by omega,by omega,_,rfl,hx.trans (Rng.sw (by omega) (by omega) (by omega) (by omega) hb),hsx.same fun k k1 k2=>sw_o (by omega) (by omega)⟩ (by omega))
  (try simp only [rwp,zA,zB,zC,zD,zE,zF,zG,zH,zI,rwb,reduceIte,C161_2])
  cases a2:decide ((i:Int)<b)
  ·have e:i=b:=by have:=of_decide_eq_false a2;omega
   subst e
   (try simp only [rwp,zA,zB,zC,zD,zE,zF,zG,zH,zI,rwb,reduceIte,C161_3,decide_true])
   subst hQ
   exact q03 ⟨true,w,rfl,rfl,hr,fun _=>hs⟩
  ·have hlt:=of_decide_eq_true a2
   (try simp only [rwp,zA,zB,zC,zD,zE,zF,zG,zH,zI,rwb,reduceIte])
   refine hD.ia (i:=i) rfl (by omega) ?_
   (try simp only [rwp,zA,zB,zC,zD,zE,zF,zG,zH,zI,rwb,reduceIte])
   (try (simp (disch:=omega) only [q04]))
   refine hD.ia (i:=i-1) (by omega) (by omega) (hD.ld (by omega) (hD.ld (by omega) (q06 (hg _ _) ?_)))
   (try simp only [rwp,zA,zB,zC,zD,zE,zF,zG,zH,zI,rwb,reduceIte])
   cases a3:decide (c (w i) (w (i-1))<0)
   ·(try simp only [rwp,zA,zB,zC,zD,zE,zF,zG,zH,zI,rwb,reduceIte,C161_3])
    (try (simp (disch:=omega) only [q04]))
    rw [show (i:Int)+1=((i+1:Nat):Int) by omega]
    exact q0a rfl (hkk2 (i+1) _ ⟨by omega,by omega,rfl,hs.snoc ho (by omega) a3⟩ (by omega))
   ·(try simp only [rwp,zA,zB,zC,zD,zE,zF,zG,zH,zI,rwb,reduceIte,C161_3,decide_eq_false (show ¬ (i:Int)=b by omega)])
    (try (simp (disch:=omega) only [q04]))
    cases a4:decide ((b:Int)-a<50)
    ·(try simp only [rwp,zA,zB,zC,zD,zE,zF,zG,zH,zI,rwb,reduceIte])
     (try (simp (disch:=omega) only [q04]))
     refine hD.swap (i:=i-1) (j:=i) (by omega) rfl (by omega) rfl (by omega) (by omega) ?_
     (try simp only [rwp,zA,zB,zC,zD,zE,zF,zG,zH,zI,rwb,reduceIte])
     (try (simp (disch:=omega) only [q04]))
     have hr1:Rng n a b v (sw w i (i-1)):=hr.trans (Rng.sw (by omega) (by omega) (by omega) (by omega) hb)
     have hs1:Srt (ltC c) a (i-1) (sw w i (i-1)):=fun p q p1 p2 p3=>by
      rw [sw_o (by omega) (by omega),sw_o (by omega) (by omega)]
      exact hs p q p1 p2 (by omega)
     generalize sw w i (i-1)=w1 at hr1 hs1
     cases a5:decide ((2:Int)≤(i:Int)-a)
     ·(try simp only [rwp,zA,zB,zC,zD,zE,zF,zG,zH,zI,rwb,reduceIte])
      exact right w1 hr1 (Srt.one (by have:=of_decide_eq_false a5;omega))
     ·(try simp only [rwp,zA,zB,zC,zD,zE,zF,zG,zH,zI,rwb,reduceIte])
      (try (simp (disch:=omega) only [q04]))
      rw [show (i:Int)-1=((i-1:Nat):Int) by omega]
      refine LoopP.introS (fun q:Nat=>[(0,D),(1,.int .i64 a),(2,.int .i64 b),(3,fnG g),(9,.int .i64 i),(10,.int .i64 j),(11,.int .i64 q)]) (fun q S'=>∃ x,S'=SS x∧Rng n a b v x∧InsI (ltC c) a (i-1) q x) (fun q=>q) (i-1) ⟨w1,rfl,hr1,InsI.start hs1 (by omega)⟩ rfl ?_
      rintro q S3 ⟨x,rfl,hx,hix⟩ kk3 hkk3
      have h1:=hix.lo
      have h2:=hix.hi
      have stop:(q=a∨Le (ltC c) (x (q-1)) (x q))→C161_5 QF kk D (.int .i64 a) (.int .i64 b) (fnG g) (.int .i64 i) (.int .i64 j) (SS x):=fun hq=>by
       have:=hix.stop ho hq
       rw [show i-1+1=i by omega] at this
       exact right x hx this
      (try simp only [rwp,zA,zB,zC,zD,zE,zF,zG,zH,zI,rwb,reduceIte,C161_4])
      cases a6:decide ((1:Int)≤q)
      ·(try simp only [rwp,zA,zB,zC,zD,zE,zF,zG,zH,zI,rwb,reduceIte])
       exact stop (.inl (by have:=of_decide_eq_false a6;omega))
      ·have hq1:=of_decide_eq_true a6
       (try simp only [rwp,zA,zB,zC,zD,zE,zF,zG,zH,zI,rwb,reduceIte])
       refine hD.ia (i:=q) rfl (by omega) ?_
       (try simp only [rwp,zA,zB,zC,zD,zE,zF,zG,zH,zI,rwb,reduceIte])
       (try (simp (disch:=omega) only [q04]))
       refine hD.ia (i:=q-1) (by omega) (by omega) (hD.ld (by omega) (hD.ld (by omega) (q06 (hg _ _) ?_)))
       (try simp only [rwp,zA,zB,zC,zD,zE,zF,zG,zH,zI,rwb,reduceIte])
       cases a7:decide (c (x q) (x (q-1))<0)
       ·(try simp only [rwp,zA,zB,zC,zD,zE,zF,zG,zH,zI,rwb,reduceIte])
        exact stop (.inr a7)
       ·have hqa:a<q:=by
         refine Classical.byContradiction fun hq=>?_
         have e:q=a:=by omega
         subst e
         have:=(hp.rng hb hx) (by omega) q (Nat.le_refl _) hab
         unfold Le ltC at this
         rw [a7] at this
         cases this
        (try simp only [rwp,zA,zB,zC,zD,zE,zF,zG,zH,zI,rwb,reduceIte])
        (try (simp (disch:=omega) only [q04]))
        refine hD.swap (i:=q-1) (j:=q) (by omega) rfl (by omega) rfl (by omega) (by omega) ?_
        (try simp only [rwp,zA,zB,zC,zD,zE,zF,zG,zH,zI,rwb,reduceIte])
        (try (simp (disch:=omega) only [q04]))
        rw [show (q:Int)-1=((q-1:Nat):Int) by omega]
        exact q0a rfl (hkk3 (q-1) _ ⟨_,rfl,hx.trans (Rng.sw (by omega) (by omega) (by omega) (by omega) hb),hix.step ho hqa a7⟩ (by omega))
    ·(try simp only [rwp,zA,zB,zC,zD,zE,zF,zG,zH,zI,rwb,reduceIte])
     exact no w hr
end
set_option maxRecDepth 4000
section
variable {D:AV} {pt:Nat→AV} {SS:(Nat→Ob)→q00} {n g:Nat} {c:Ob→Ob→Int}
structure PqA where
 a:Nat
 b:Nat
 lim:Nat
 wb:Bool
 wp:Bool
theorem c_pdq (hD:Dat D pt SS n) (hg:∀ x y,AFun PG g [.agg (obC x),.agg (obC y)] (.int .i64 (c x y))) (ho:LtOk (ltC c)):∀ (N a b lim:Nat) (v:Nat→Ob),b≤a+N→a≤b→b≤n→b<a+256→lim≤1000→PreF (ltC c) a b v →
  ACalls PG nrx115 [D,.int .i64 a,.int .i64 b,.int .i64 lim,fnG g] (SS v) fun ae S'=>ae=.ret (.tup [])∧∃ w,S'=SS w∧Rng n a b v w∧Srt (ltC c) a b w:=by
 have hn:=hD.bd
 intro N
 induction N using Nat.strongRecOn with
 | ind N ih=>
 intro A B lim v hN hAB hB hl hlm hp
 refine wx115 ?_
 unfold Bx115
 generalize hQ:(fun ae S'=>ae=AEnd.ret (.tup [])∧∃ w,S'=SS w∧Rng n A B v w∧Srt (ltC c) A B w)=QF
 have fin:∀ w:Nat→Ob,Rng n A B v w→Srt (ltC c) A B w→rtW [] QF (SS w):=fun w h1 h2=>by
  subst hQ
  exact q1k ⟨rfl,w,rfl,h1,h2⟩
 refine LoopP.introS (fun x:PqA=>[(0,D),(1,.int .i64 x.a),(2,.int .i64 x.b),(3,.int .i64 x.lim),(4,fnG g),(10,.bool x.wb),(11,.bool x.wp)]) (fun x S'=>x.lim≤1000∧∃ w,S'=SS w∧Rng n A B v w∧Pdq (ltC c) A B x.a x.b w) (fun x=>x.b-x.a) ⟨A,B,lim,true,true⟩
  ⟨hlm,v,rfl,Rng.refl _ _ _ _,Pdq.start hAB⟩ rfl ?_
 rintro ⟨a,b,lim,wb,wp⟩ S1 ⟨hlm,w,rfl,hr,hq⟩ kk hkk
 dsimp only at hq hlm ⊢
 have q1:=hq.pa
 have q2:=hq.ab
 have q3:=hq.pb
 -- a part is put in order,the rest is
 have done:∀ (w x:Nat→Ob),Rng n A B v w→Pdq (ltC c) A B a b w→Rng n a b w x→Srt (ltC c) a b x→rtW [] QF (SS x):=fun w x h1 h2 h3 h4=>fin x (h1.trans (h3.mono q1 q3)) ((h2.rng hB h3).done ho h4)
 (try simp only [rwp,zA,zB,zC,zD,zE,zF,zG,zH,zI,rwb,reduceIte,C115_1])
 (try (simp (disch:=omega) only [q04]))
 cases a1:decide ((b:Int)-a≤12)
 ·have h12:a+12<b:=by have:=of_decide_eq_false a1;omega
  (try simp only [rwp,zA,zB,zC,zD,zE,zF,zG,zH,zI,rwb,reduceIte])
  cases a2:decide ((lim:Int)=0)
  ·have hlim:lim≠0:=fun h=>(of_decide_eq_false a2) (by rw [h];rfl)
   -- from the choice of a pivot on
   have p7:∀ (w:Nat→Ob) (lim:Nat) (wb wp:Bool) (p:Nat) (b7:Bool),lim≤1000→Rng n A B v w→Pdq (ltC c) A B a b w→a≤p→p<b→(b7=true→0<a∧Le (ltC c) (w p) (w (a-1))) →
     C115_7 QF kk D (.int .i64 a) (.int .i64 b) (.int .i64 lim) (fnG g) (.bool wb) (.bool wp) (.int .i64 ((b:Int)-a)) (.int .i64 p) (.bool b7) (SS w):=by
    intro w lim wb wp p b7 hlm hr hq hp1 hp2 h7
    cases b7
    ·(try simp only [rwp,zA,zB,zC,zD,zE,zF,zG,zH,zI,rwb,reduceIte,C115_7])
     refine q0g (c_partition hD hg ho hp1 hp2 (by omega) w) ?_
     rintro ae S2 ⟨x,m,al,rfl,rfl,hx,hc⟩
     have hc1:=hc.ca
     have hc2:=hc.cb
     have hrx:=hr.trans (hx.mono q1 q3)
     have hqx:=hq.rng hB hx
     have hpx:=Pdq.pre hp hB hrx hqx
     dsimp only
     (try simp only [rwp,zA,zB,zC,zD,zE,zF,zG,zH,zI,rwb,reduceIte])
     (try (simp (disch:=omega) only [q04]))
     refine quoN (a:=b-a) (b:=8) (by omega) rfl (by omega) (by omega) ?_
     (try simp only [rwp,zA,zB,zC,zD,zE,zF,zG,zH,zI,rwb,reduceIte])
     cases a3:decide ((m:Int)-a<(b:Int)-m)
     ·(try simp only [rwp,zA,zB,zC,zD,zE,zF,zG,zH,zI,rwb,reduceIte])
      (try (simp (disch:=omega) only [q04]))
      rw [show (m:Int)+1=((m+1:Nat):Int) by omega]
      refine q0g (ih (b-(m+1)) (by omega) (m+1) b lim x (by omega) (by omega) (by omega) (by omega) hlm (fun _ k k1 k2=>hc.r k (by omega) k2)) ?_
      rintro ae S3 ⟨rfl,y,rfl,hy,hys⟩
      dsimp only
      exact q0a rfl (hkk ⟨a,m,lim,_,al⟩ _ ⟨hlm,y,rfl,hrx.trans (hy.mono (by omega) q3),(hqx.rng hB (hy.mono (by omega) (Nat.le_refl _))).right ho (hc.right (by omega) hy) hys⟩ (by dsimp only;omega))
     ·(try simp only [rwp,zA,zB,zC,zD,zE,zF,zG,zH,zI,rwb,reduceIte])
      (try (simp (disch:=omega) only [q04]))
      refine q0g (ih (m-a) (by omega) a m lim x (by omega) (by omega) (by omega) (by omega) hlm (fun h0 k k1 k2=>hpx h0 k k1 (by omega))) ?_
      rintro ae S3 ⟨rfl,y,rfl,hy,hys⟩
      dsimp only
      (try simp only [rwp,zA,zB,zC,zD,zE,zF,zG,zH,zI,rwb,reduceIte])
      (try (simp (disch:=omega) only [q04]))
      rw [show (m:Int)+1=((m+1:Nat):Int) by omega]
      exact q0a rfl (hkk ⟨m+1,b,lim,_,al⟩ _ ⟨hlm,y,rfl,hrx.trans (hy.mono q1 (by omega)),(hqx.rng hB (hy.mono (Nat.le_refl _) (by omega))).left ho (hc.left (by omega) hy) hys⟩ (by dsimp only;omega))
    ·obtain ⟨h0,hle⟩:=h7 rfl
     (try simp only [rwp,zA,zB,zC,zD,zE,zF,zG,zH,zI,rwb,reduceIte,C115_7])
     refine q0g (c_partitionE hD hg ho hp1 hp2 (by omega) w) ?_
     rintro ae S2 ⟨x,m,rfl,rfl,hx,hxa,hm1,hm2,hxl⟩
     dsimp only
     have hpw:=Pdq.pre hp hB hr hq
     refine q0a rfl (hkk ⟨m,b,lim,wb,wp⟩ _ ⟨hlm,x,rfl,hr.trans (hx.mono q1 q3),(hq.rng hB hx).same ho (by dsimp only;omega) hm2 (fun k k1 k2=>?_) hxl⟩ (by dsimp only;omega))
     obtain ⟨j,j1,j2,e⟩:=hx.mem (by omega) k1 k2
     rw [hxa,e]
     exact hle.trans ho (hpw h0 j j1 j2)
   have p6:∀ (w:Nat→Ob) (lim:Nat) (wb wp:Bool) (p:Nat),lim≤1000→Rng n A B v w→Pdq (ltC c) A B a b w→a≤p→p<b →
     C115_6 QF kk D (.int .i64 a) (.int .i64 b) (.int .i64 lim) (fnG g) (.bool wb) (.bool wp) (.int .i64 ((b:Int)-a)) (.int .i64 p) (SS w):=by
    intro w lim wb wp p hlm hr hq hp1 hp2
    (try simp only [rwp,zA,zB,zC,zD,zE,zF,zG,zH,zI,rwb,reduceIte,C115_6])
    cases a3:decide ((0:Int)<a)
    ·(try simp only [rwp,zA,zB,zC,zD,zE,zF,zG,zH,zI,rwb,reduceIte])
     exact p7 w lim wb wp p false hlm hr hq hp1 hp2 fun h=>by cases h
    ·have h0:=of_decide_eq_true a3
     (try simp only [rwp,zA,zB,zC,zD,zE,zF,zG,zH,zI,rwb,reduceIte])
     (try (simp (disch:=omega) only [q04]))
     refine hD.cmp hg (i:=a-1) (j:=p) (by omega) rfl (by omega) (by omega) ?_
     (try simp only [rwp,zA,zB,zC,zD,zE,zF,zG,zH,zI,rwb,reduceIte])
     cases a4:decide (c (w (a-1)) (w p)<0)
     ·exact p7 w lim wb wp p true hlm hr hq hp1 hp2 fun _=>⟨by omega,a4⟩
     ·exact p7 w lim wb wp p false hlm hr hq hp1 hp2 fun h=>by cases h
   have p5:∀ (w:Nat→Ob) (lim:Nat) (wb wp:Bool) (p:Nat) (b5:Bool),lim≤1000→Rng n A B v w→Pdq (ltC c) A B a b w→a≤p→p<b →
     C115_5 QF kk D (.int .i64 a) (.int .i64 b) (.int .i64 lim) (fnG g) (.bool wb) (.bool wp) (.int .i64 ((b:Int)-a)) (.int .i64 p) (.bool b5) (SS w):=by
    intro w lim wb wp p b5 hlm hr hq hp1 hp2
    cases b5
    ·(try simp only [rwp,zA,zB,zC,zD,zE,zF,zG,zH,zI,rwb,reduceIte,C115_5])
     exact p6 w lim wb wp p hlm hr hq hp1 hp2
    ·(try simp only [rwp,zA,zB,zC,zD,zE,zF,zG,zH,zI,rwb,reduceIte,C115_5])
     refine q0g (c_partial hD hg ho (by omega) (by omega) w (Pdq.pre hp hB hr hq)) ?_
     rintro ae S2 ⟨r,x,rfl,rfl,hx,hxs⟩
     dsimp only
     cases r
     ·(try simp only [rwp,zA,zB,zC,zD,zE,zF,zG,zH,zI,rwb,reduceIte])
      exact p6 x lim wb wp p hlm (hr.trans (hx.mono q1 q3)) (hq.rng hB hx) hp1 hp2
     ·(try simp only [rwp,zA,zB,zC,zD,zE,zF,zG,zH,zI,rwb,reduceIte])
      exact done w x hr hq hx (hxs rfl)
   have p3:∀ (w:Nat→Ob) (lim:Nat) (wb wp:Bool) (p:Nat) (h:Int),lim≤1000→Rng n A B v w→Pdq (ltC c) A B a b w→a≤p→p<b →
     C115_3 QF kk D (.int .i64 a) (.int .i64 b) (.int .i64 lim) (fnG g) (.bool wb) (.bool wp) (.int .i64 ((b:Int)-a)) (.int .i64 p) (.int .i64 h) (SS w):=by
    intro w lim wb wp p h hlm hr hq hp1 hp2
    cases wb
    ·(try simp only [rwp,zA,zB,zC,zD,zE,zF,zG,zH,zI,rwb,reduceIte,C115_3,C115_4])
     exact p5 w lim false wp p false hlm hr hq hp1 hp2
    ·cases wp
     ·(try simp only [rwp,zA,zB,zC,zD,zE,zF,zG,zH,zI,rwb,reduceIte,C115_3,C115_4])
      exact p5 w lim true false p false hlm hr hq hp1 hp2
     ·(try simp only [rwp,zA,zB,zC,zD,zE,zF,zG,zH,zI,rwb,reduceIte,C115_3,C115_4])
      exact p5 w lim true true p _ hlm hr hq hp1 hp2
   have p2:∀ (w:Nat→Ob) (lim:Nat) (wb wp:Bool),lim≤1000→Rng n A B v w→Pdq (ltC c) A B a b w →
     C115_2 QF kk D (.int .i64 a) (.int .i64 b) (.int .i64 lim) (fnG g) (.bool wb) (.bool wp) (.int .i64 ((b:Int)-a)) (SS w):=by
    intro w lim wb wp hlm hr hq
    (try simp only [rwp,zA,zB,zC,zD,zE,zF,zG,zH,zI,rwb,reduceIte,C115_2])
    refine q0g (c_pivot hD hg h12 (by omega)) ?_
    rintro ae S2 ⟨p,h,rfl,rfl,hp1,hp2⟩
    dsimp only
    (try simp only [rwp,zA,zB,zC,zD,zE,zF,zG,zH,zI,rwb,reduceIte])
    cases a3:decide (h=2)
    ·(try simp only [rwp,zA,zB,zC,zD,zE,zF,zG,zH,zI,rwb,reduceIte])
     exact p3 w lim wb wp p h hlm hr hq hp1 hp2
    ·(try simp only [rwp,zA,zB,zC,zD,zE,zF,zG,zH,zI,rwb,reduceIte])
     refine q0g (c_reverse hD (by omega) (by omega) (fnG g) w) ?_
     rintro ae S3 ⟨rfl,x,rfl,hx⟩
     dsimp only
     (try simp only [rwp,zA,zB,zC,zD,zE,zF,zG,zH,zI,rwb,reduceIte])
     (try (simp (disch:=omega) only [q04]))
     rw [show (b:Int)-1-((p:Int)-a)=((b-1-(p-a):Nat):Int) by omega]
     exact p3 x lim wb wp _ 1 hlm (hr.trans (hx.mono q1 q3)) (hq.rng hB hx) (by omega) (by omega)
   (try simp only [rwp,zA,zB,zC,zD,zE,zF,zG,zH,zI,rwb,reduceIte])
   cases wb
   ·(try simp only [rwp,zA,zB,zC,zD,zE,zF,zG,zH,zI,rwb,reduceIte])
    refine q0g (c_break hD h12 (by omega) (by omega) (fnG g)) ?_
    rintro ae S2 ⟨rfl,x,rfl,hx⟩
    dsimp only
    (try simp only [rwp,zA,zB,zC,zD,zE,zF,zG,zH,zI,rwb,reduceIte])
    (try (simp (disch:=omega) only [q04]))
    have e:(lim:Int)-1=((lim-1:Nat):Int):=by omega
    rw [e]
    exact p2 x (lim-1) false wp (by omega) (hr.trans (hx.mono q1 q3)) (hq.rng hB hx)
   ·(try simp only [rwp,zA,zB,zC,zD,zE,zF,zG,zH,zI,rwb,reduceIte])
    exact p2 w lim true wp hlm hr hq
  ·(try simp only [rwp,zA,zB,zC,zD,zE,zF,zG,zH,zI,rwb,reduceIte])
   refine q0g (c_heap hD hg ho (by omega) (by omega) w) ?_
   rintro ae S2 ⟨rfl,x,rfl,hx,hxs⟩
   dsimp only
   exact done w x hr hq hx hxs
 ·(try simp only [rwp,zA,zB,zC,zD,zE,zF,zG,zH,zI,rwb,reduceIte])
  refine q0g (c_ins hD hg ho q2 (by omega) w) ?_
  rintro ae S2 ⟨rfl,x,rfl,hx,hxs⟩
  dsimp only
  exact done w x hr hq hx hxs
end
theorem sort255:SortOk 255:=by
 intro D pt SS n g c hD hg ho hn v
 refine wx59 ?_
 unfold Bx59
 refine hD.ln ?_
 (try simp only [rwp,zA,zB,zC,zD,zE,zF,zG,zH,zI,rwb,reduceIte])
 rw [u64w (by omega)]
 refine q06 (c_Len (by omega)) ?_
 have h8:=(lenF_ok ⟨n,by omega⟩).2.2
 dsimp only at h8
 have q:=c_pdq hD hg ho n 0 n (lenF n) v (by omega) (by omega) (Nat.le_refl _) (by omega) (by omega) (fun h=>by omega)
 refine q0g q ?_
 rintro ae S1 ⟨rfl,w,rfl,h1,h2⟩
 dsimp only
 exact q1k ⟨rfl,w,rfl,h1,h2⟩
set_option maxRecDepth 4000
theorem q32 (x:Ob):(obC x).length=2:=rfl
theorem fl_two {n i:Nat} (hi:i<n) (v:Nat→Ob):∃ rest,(fl obC n v).drop (i * 2)=.str (v i).ty :: .str (v i).id :: rest:=fl_drop q32 hi
theorem c_Compact {S0 S:q00} {a:AV} {n:Nat} {u:Nat→Ob} (hs:Sub S0 S) (h:OwnL S0 S tyOb 2 obC a n u) (hb:n≤100000) :
  ACalls PG nrx63 [a] S fun ae S'=>∃ a',ae=.ret a'∧Sub S0 S'∧LstW S0 S' tyOb 2 a' ((dd u n).map obC):=by
 refine wx63 ?_
 unfold Bx63
 have hl:=h.lstW q32
 rw [hl.ln,List.length_map,q1h]
 have dd1:∀ k,k≤n→(∀ i,0<i→i<k→u i≠u (i-1))→dd u k=vl k u:=by
  intro k
  induction k with
  | zero=>intro _ _;rfl
  | succ k ih=>
   intro hk hne
   rw [q6t,← ih (by omega) fun i h1 h2=>hne i h1 (by omega)]
   unfold dd
   rw [if_neg fun h=>hne k h.1 (by omega) h.2]
   cases k<;>rfl
 (try simp only [rwp,zA,zB,zC,zD,zE,zF,zG,zH,zI,rwb,reduceIte])
 cases a1:decide ((n:Int)<2)
 ·have hn2:2≤n:=by have:=of_decide_eq_false a1;omega
  rcases h with ⟨rfl,e⟩ | ⟨b,cap,rfl,h1,h2,h3,h4⟩
  ·omega
  ·(try simp only [rwp,zA,zB,zC,zD,zE,zF,zG,zH,zI,rwb,reduceIte])
   refine LoopP.introS (fun k:Nat=>[(0,.own b 0 n cap),(3,.int .i64 k)]) (fun k S'=>S'=S∧1≤k∧k≤n∧∀ i,0<i→i<k→u i≠u (i-1)) (fun k=>n-k) 1 ⟨rfl,by omega,by omega,fun i h1 h2=>by omega⟩ rfl ?_
   rintro k S' ⟨rfl,hk1,hkn,hne⟩ kk hkk
   (try simp only [rwp,zA,zB,zC,zD,zE,zF,zG,zH,zI,rwb,reduceIte,C63_1])
   (refine q05 (fun hlt=>?_) (fun hlt=>?_)<;>(try simp only [hlc] at hlt))
   ·(simp (disch:=omega) only [q04])
    have ek:((k:Int)-1).toNat=k-1:=by omega
    (try simp only [rwp,zA,zB,zC,zD,zE,zF,zG,zH,zI,rwb,reduceIte,Int.toNat_natCast,ek,Nat.zero_add])
    refine ⟨hlt,by omega,by omega,?_⟩
    have hc:=q08 (objAt_some.2 h2)
    obtain ⟨rest1,d1⟩:=fl_two (show k<n by omega) u
    obtain ⟨rest2,d2⟩:=fl_two (show k-1<n by omega) u
    (try simp only [rwp,zA,zB,zC,zD,zE,zF,zG,zH,zI,rwb,reduceIte,hc,d1,d2])
    have hdec:=ob_dec14 (a:=u k) (b:=u (k-1))
    cases g1:(decide ((u k).ty=(u (k-1)).ty)&&decide ((u k).id=(u (k-1)).id))
    ·rw [g1] at hdec
     (try simp only [rwp,zA,zB,zC,zD,zE,zF,zG,zH,zI,rwb,reduceIte])
     refine q0a rfl (hkk (k+1) _ ⟨rfl,by omega,by omega,fun i q1 q2=>?_⟩ (by omega))
     by_cases e:i=k
     ·subst e;exact of_decide_eq_false hdec
     ·exact hne i q1 (by omega)
    ·rw [g1] at hdec
     have heq:=of_decide_eq_true hdec
     have hckn:¬ cap=k:=by omega
     (try simp only [rwp,zA,zB,zC,zD,zE,zF,zG,zH,zI,rwb,reduceIte,hckn])
     refine ⟨by omega,by omega,?_⟩
     refine LoopP.introS (fun x:Nat×Nat=>[(0,.own b 0 n cap),(3,.int .i64 x.1),(4,.own b (k * 2) (n-k) (cap-k)),(5,.int .i64 x.2)])
      (fun x S2=>x.1<k+x.2∧1≤x.2∧k+x.2≤n∧∃ w,S2=supd S' b (.cells tyOb (fl obC n w) (cap * 2))∧vl x.1 w=dd u (k+x.2)∧∀ p,k+x.2≤p+1→w p=u p) (fun x=>n-x.2) (k,1)
      ⟨by dsimp only;omega,by dsimp only;omega,by dsimp only;omega,u,?_,?_,fun _ _=>rfl⟩ rfl ?_
     ·funext c
      unfold supd
      split
      ·rename_i e;subst e;exact h2
      ·rfl
     ·dsimp only
      rw [← dd1 k hkn hne]
      conv=>rhs;unfold dd
      rw [if_pos ⟨by omega,heq⟩]
     ·rintro ⟨m,k2⟩ S2 ⟨hmk,hk2,hkk2n,w,rfl,hw,hr⟩ kk2 hkk2
      dsimp only at hmk hk2 hkk2n hw hr ⊢
      have ho:q0h (supd S' b (.cells tyOb (fl obC n w) (cap * 2))) b=some (tyOb,fl obC n w,cap * 2):=q0f
      have hc2:=q08 ho
      (try simp only [rwp,zA,zB,zC,zD,zE,zF,zG,zH,zI,rwb,reduceIte,C63_2])
      (refine q05 (fun hlt2=>?_) (fun hlt2=>?_)<;>(try simp only [hlc] at hlt2))
      ·have hj:k+k2<n:=by omega
       obtain ⟨rest3,d3⟩:=fl_two hj w
       obtain ⟨rest4,d4⟩:=fl_two (show k+k2-1<n by omega) w
       rw [hr _ (by omega)] at d3
       rw [hr _ (by omega)] at d4
       (simp (disch:=omega) only [q04])
       have e2:((k2:Int)-1).toNat=k2-1:=by omega
       (try simp only [rwp,zA,zB,zC,zD,zE,zF,zG,zH,zI,rwb,reduceIte,Int.toNat_natCast,e2,show k * 2+k2 * 2=(k+k2) * 2 by omega,show k * 2+(k2-1) * 2=(k+k2-1) * 2 by omega])
       refine ⟨by omega,by omega,by omega,?_⟩
       (try simp only [rwp,zA,zB,zC,zD,zE,zF,zG,zH,zI,rwb,reduceIte,hc2,d3,d4])
       have hdec2:=ob_dec14 (a:=u (k+k2)) (b:=u (k+k2-1))
       cases g2:(decide ((u (k+k2)).ty=(u (k+k2-1)).ty)&&decide ((u (k+k2)).id=(u (k+k2-1)).id))
       ·rw [g2] at hdec2
        have hne2:=of_decide_eq_false hdec2
        have ff:=fl_fill (v:=w) (x:=u (k+k2)) q32 (show m<n by omega)
        rw [show obC (u (k+k2))=[.str (u (k+k2)).ty,.str (u (k+k2)).id] from rfl] at ff
        have fits:m * 2+2≤(fl obC n w).length:=by rw [q1s q32];omega
        (try simp only [rwp,zA,zB,zC,zD,zE,zF,zG,zH,zI,rwb,reduceIte,ho,Int.toNat_natCast,Nat.zero_add,show k * 2+k2 * 2=(k+k2) * 2 by omega,hc2,d3])
        refine ⟨by omega,by omega,?_⟩
        (try simp only [rwp,zA,zB,zC,zD,zE,zF,zG,zH,zI,rwb,reduceIte,ho,hc2,d3,ff,fits,q0j])
        (try (simp (disch:=omega) only [q04]))
        refine q0a rfl (hkk2 (m+1,k2+1) _ ⟨by dsimp only;omega,by dsimp only;omega,by dsimp only;omega,upv w m (u (k+k2)),congrArg (fun z=>supd S' b (.cells tyOb z (cap * 2))) ff,?_,fun p hp=>?_⟩ (by dsimp only;omega))
        ·dsimp only
         have e1:vl m (upv w m (u (k+k2)))=vl m w:=by unfold vl;exact List.map_congr_left fun q hq=>if_neg (by simp at hq;omega)
         rw [q6t,e1,hw,show upv w m (u (k+k2)) m=u (k+k2) from if_pos rfl,← Nat.add_assoc]
         conv=>rhs;unfold dd
         rw [if_neg fun h=>hne2 h.2]
        ·dsimp only at hp ⊢
         rw [show upv w m (u (k+k2)) p=w p from if_neg (by omega)]
         exact hr p (by omega)
       ·rw [g2] at hdec2
        have heq2:=of_decide_eq_true hdec2
        (try simp only [rwp,zA,zB,zC,zD,zE,zF,zG,zH,zI,rwb,reduceIte])
        (try (simp (disch:=omega) only [q04]))
        refine q0a rfl (hkk2 (m,k2+1) _ ⟨by dsimp only;omega,by dsimp only;omega,by dsimp only;omega,w,rfl,?_,fun p hp=>hr p (by dsimp only at hp;omega)⟩ (by dsimp only;omega))
        dsimp only
        rw [hw,← Nat.add_assoc]
        conv=>rhs;unfold dd
        rw [if_pos ⟨by omega,heq2⟩]
      ·have e:k+k2=n:=by omega
       (try simp only [rwp,zA,zB,zC,zD,zE,zF,zG,zH,zI,rwb,reduceIte,loI,hiI,cutI,Int.toNat_natCast,Nat.zero_add])
       refine ⟨by omega,by omega,⟨tyOb,fl obC n w,cap * 2,by rw [q01,if_pos rfl],?_,rfl,rfl,?_⟩⟩
       ·rw [q1s q32]
        split
        ·omega
        ·omega
       ·refine ⟨Int.le_refl 0,by omega,?_⟩
        rw [show AV.own b (if cap=0 then 0 else 0) (m-0) (cap-0)=.own b 0 m cap by simp,q0j,← e,← hw,e]
        refine q03 ⟨_,rfl,Sub.supd h1 hs,fl_rows q32,.inr ⟨b,cap,_,by rw [List.length_map,q1h],h1,by rw [q01,if_pos rfl],?_,?_,by rw [List.length_map,q1h];omega,h4⟩⟩
        ·rw [List.length_map,q1h,if_neg (by omega),q4y _ _ _ (by rw [q4s,q1s q32];simp only [List.length_cons,List.length_nil];omega),List.take_append_of_le_length (by rw [List.length_take,q1s q32];omega),List.take_take,Nat.min_self]
         exact fl_take q32 (by omega)
        ·rw [List.length_map,q1h,if_neg (by omega),q4y _ _ _ (by rw [q4s,q1s q32];simp only [List.length_cons,List.length_nil];omega)]
         simp only [List.length_append,List.length_take,q1s q32]
         omega
   ·(try simp only [rwp,zA,zB,zC,zD,zE,zF,zG,zH,zI,rwb,reduceIte])
    have e:k=n:=by omega
    subst e
    refine q03 ⟨_,rfl,hs,?_⟩
    rw [dd1 k (Nat.le_refl _) hne]
    exact hl
 ·(try simp only [rwp,zA,zB,zC,zD,zE,zF,zG,zH,zI,rwb,reduceIte])
  refine q03 ⟨a,rfl,hs,?_⟩
  have hn2:=of_decide_eq_true a1
  rw [dd1 n (Nat.le_refl _) fun i h1 h2=>by omega]
  exact hl
section
variable {E:q1g} {K K':Nd→Bool} {N:Nat}
theorem Low.weak {s:List Ty} {out:Bool} {c:Nd} (h:Low s N out c):Low s N false c:=by
 rcases h with h | h
 ·exact .inl h
 ·exact .inr (by simp;omega)
theorem exB_congr (hE:OfOk E) (h:∀ c,Low E.s N false c→K c=K' c) (o:Ob) :
  ∀ (m:Nat) (e:Ex) (out:Bool),mayE m e=true→(∀ p∈q0u e out,∀ l∈q3t E.s o.ty p.1 p.2,getL (levF E.s) l.1+l.2.toNat≤N)→exB E K o m e=exB E K' o m e
 | 0,e,out,hm,hl=>by cases hm
 | m+1,.mk k n ov ks,out,hm,hl=>by
  have ih:=exB_congr hE h o m
  unfold mayE at hm
  unfold exB
  unfold q0u at hl
  by_cases k0:k=0
  ·simp only [if_pos k0] at hm ⊢
   rw [Bool.and_eq_true] at hm
   rw [if_pos hm.2] at hl
   refine h _ (Low.weak (out:=out) ?_)
   unfold Low lvN
   cases hq:q0q E.s o.ty n with
   | none=>exact .inl rfl
   | some p=>
    obtain ⟨i,j,r⟩:=p
    refine .inr (hl (.mk k n ov ks,out) (by simp) ((i,j),out) ?_)
    unfold q3t Ex.name
    simp only [hq]
    exact List.mem_cons_self
  ·simp only [if_neg k0] at hm ⊢
   by_cases k1:k=1
   ·simp only [if_pos k1] at hm ⊢
    rw [Bool.and_eq_true,Bool.and_eq_true] at hm
    rw [if_pos hm.2.2] at hl
    have low:∀ x∈E.of ⟨o,n⟩,x.rl=⟨#[]⟩→K ⟨x.o,ov⟩=K' ⟨x.o,ov⟩:=by
     intro x hx hx0
     obtain ⟨i,j,r,h1,f,h2,h3,h4⟩:=hE.ok _ x hx
     refine h _ (Low.weak (out:=out) ?_)
     unfold Low lvN
     cases hq:q0q E.s x.o.ty ov with
     | none=>exact .inl rfl
     | some p=>
      obtain ⟨i2,j2,r2⟩:=p
      refine .inr ?_
      simp only
      refine hl (.mk k n ov ks,out) (by simp) ((i2,j2),out) ?_
      unfold q3t Ex.name Ex.kind Ex.over
      simp only [show q0q E.s o.ty n=some (i,j,r) from h1,if_pos k1]
      refine List.mem_cons_of_mem _ (List.mem_map.2 ⟨(i2,j2),?_,rfl⟩)
      unfold q5g
      refine List.mem_filterMap.2 ⟨f,h2,?_⟩
      rw [if_pos (h4.symm.trans hx0),← h3,hq]
      rfl
    rw [Bool.eq_iff_iff]
    simp only [List.any_eq_true,Bool.and_eq_true,decide_eq_true_eq]
    constructor
    ·rintro ⟨x,hx,h0,h1⟩;exact ⟨x,hx,h0,by rw [← low x hx h0];exact h1⟩
    ·rintro ⟨x,hx,h0,h1⟩;exact ⟨x,hx,h0,by rw [low x hx h0];exact h1⟩
   ·simp only [if_neg k1] at hm ⊢
    have k234:k=2∨k=3∨k=4:=by
     refine Classical.byContradiction fun hn=>?_
     rw [if_neg hn] at hm
     cases hm
    rw [if_pos k234] at hm
    obtain ⟨x1,x2,rfl⟩:∃ a b,ks=[a,b]:=by
     match ks,hm with
     | [a,b],_=>exact ⟨a,b,rfl⟩
     | [],hm=>cases hm
     | [_],hm=>cases hm
     | _ :: _ :: _ :: _,hm=>cases hm
    simp only [two,Bool.and_eq_true] at hm
    have hl':∀ p∈q0u x1 out++q0u x2 (out||decide (k=4)),∀ l∈q3t E.s o.ty p.1 p.2,getL (levF E.s) l.1+l.2.toNat≤N:=by
     intro p hp
     refine hl p ?_
     rw [if_neg (by simp)]
     simp only [q2k,List.append_nil]
     simpa using hp
    dsimp only
    rw [ih x1 out hm.1 fun p hp=>hl' p (List.mem_append_left _ hp),ih x2 _ hm.2 fun p hp=>hl' p (List.mem_append_right _ hp)]
theorem body_congr (hE:OfOk E) (hc:errA (chkF E.s)=0) {n:Nd} {i k:Nat} {r:Rl} (hf:q0q E.s n.o.ty n.rl=some (i,k,r)) (h:∀ c,Low E.s (lvN E.s n) false c→K c=K' c):q1w E K n r=q1w E K' n r:=by
 obtain ⟨ht0,ty,hty,-,hkr⟩:=q1v hf
 have hnm:ty.name=n.o.ty:=by
  obtain ⟨⟨x,hx,hp⟩,-⟩:=firstI_some.1 ht0
  rw [hty] at hx
  cases hx
  exact of_decide_eq_true hp
 have hst:=(q4v hc hty hkr).2
 have hlv:lvN E.s n=getL (levF E.s) (i,k):=by unfold lvN;rw [hf]
 rw [← hlv,hnm] at hst
 unfold q1w
 unfold q1j at hst
 by_cases h0:r.refs.length=0
 ·simp only [if_pos h0] at hst ⊢
  have hm:mayE 12 r.ex=true:=sc_may (q2v hc).may ty (List.mem_of_getElem? hty) r (List.mem_of_getElem? hkr) h0
  exact exB_congr hE h n.o 12 r.ex false hm fun p hp l hl=>hst l (List.mem_flatMap.2 ⟨p,hp,hl⟩)
 ·simp only [if_neg h0] at hst ⊢
  have low:∀ x∈E.of n,x.rl≠⟨#[]⟩→K x=K' x:=by
   intro x hx hx0
   obtain ⟨i1,k1,r1,h1,f,h2,h3,h4⟩:=hE.ok _ x hx
   rw [hf] at h1
   cases h1
   refine h _ ?_
   unfold Low
   cases hq:q0q E.s x.o.ty x.rl with
   | none=>exact .inl rfl
   | some p=>
    obtain ⟨i2,j2,r2⟩:=p
    refine .inr ?_
    have:=hst ((i2,j2),false) (List.mem_filterMap.2 ⟨f,h2,by unfold q2q;rw [if_neg (by rw [← h4];exact hx0),← h3,← h4,hq];rfl⟩)
    unfold lvN at this ⊢
    rw [hq]
    exact this
  rw [Bool.eq_iff_iff]
  simp only [List.any_eq_true]
  constructor
  ·rintro ⟨x,hx,hb⟩
   refine ⟨x,hx,?_⟩
   by_cases h0:x.rl=⟨#[]⟩
   ·rw [if_pos h0] at hb ⊢;exact hb
   ·rw [if_neg h0] at hb ⊢;rw [← low x hx h0];exact hb
  ·rintro ⟨x,hx,hb⟩
   refine ⟨x,hx,?_⟩
   by_cases h0:x.rl=⟨#[]⟩
   ·rw [if_pos h0] at hb ⊢;exact hb
   ·rw [if_neg h0] at hb ⊢;rw [low x hx h0];exact hb
theorem exB_thing {T:List Ob} (hT:∀ n x,x∈E.of n→n.o∈T) (hK:∀ c,K c=true→c.o∈T) (o:Ob):∀ (m:Nat) (e:Ex),exB E K o m e=true→o∈T
 | 0,e,h=>by cases h
 | m+1,.mk k n ov ks,h=>by
  have ih:=exB_thing hT hK o m
  unfold exB at h
  split at h
  ·exact hK _ h
  ·split at h
   ·obtain ⟨x,hx,-⟩:=List.any_eq_true.1 h
    exact hT _ x hx
   ·split at h
    ·split at h
     ·rw [Bool.or_eq_true] at h
      exact h.elim (ih _) (ih _)
     ·split at h<;>(rw [Bool.and_eq_true] at h;exact ih _ h.1)
    ·cases h
theorem body_thing {T:List Ob} (hT:∀ n x,x∈E.of n→n.o∈T) (hK:∀ c,K c=true→c.o∈T) {n:Nd} {r:Rl} (h:q1w E K n r=true):n.o∈T:=by
 unfold q1w at h
 split at h
 ·exact exB_thing hT hK _ _ _ h
 ·obtain ⟨x,hx,-⟩:=List.any_eq_true.1 h
  exact hT _ x hx
end
def q49 (s:List Ty) (T:List Ob):List Nd:=T.flatMap fun o=>s.flatMap fun t=>t.rels.map fun r=>⟨o,r.name⟩
theorem mem_nodes {s:List Ty} {T:List Ob} {n:Nd} {i k:Nat} {r:Rl} (hf:q0q s n.o.ty n.rl=some (i,k,r)) (hT:n.o∈T):n∈q49 s T:=by
 obtain ⟨-,ty,hty,hrl,hkr⟩:=q1v hf
 obtain ⟨⟨x,hx,hp⟩,-⟩:=firstI_some.1 hrl
 rw [hkr] at hx
 cases hx
 refine List.mem_flatMap.2 ⟨n.o,hT,List.mem_flatMap.2 ⟨ty,List.mem_of_getElem? hty,List.mem_map.2 ⟨r,List.mem_of_getElem? hkr,?_⟩⟩⟩
 have:=of_decide_eq_true hp
 cases n
 simp only [Nd.mk.injEq,true_and]
 exact this
structure Upto (E:q1g) (C:List Nd) (v:Nat) (L:List Nd):Prop where
 nd:L.Nodup
 sub:∀ n∈L,n∈C
 step:∀ (i:Nat) (n:Nd),L[i]?=some n→∃ j k r,q0q E.s n.o.ty n.rl=some (j,k,r)∧q1w E (fun c=>decide (c∈L.take i)) n r=true
 srt:∀ (i j:Nat) (n m:Nd),L[i]?=some n→L[j]?=some m→i<j→lvN E.s n≤lvN E.s m
 top:∀ n∈L,lvN E.s n≤v
 closed:∀ n j k r,q0q E.s n.o.ty n.rl=some (j,k,r)→lvN E.s n<v→q1w E (fun c=>decide (c∈L)) n r=true→n∈L
theorem nd_len {α:Type} [DecidableEq α]:∀ {L C:List α},L.Nodup→(∀ x∈L,x∈C)→L.length≤C.length
 | [],C,_,_=>Nat.zero_le _
 | x :: r,C,h,hs=>by
  rw [List.nodup_cons] at h
  have hx:=hs x (by simp)
  have:=nd_len (L:=r) (C:=C.erase x) h.2 fun y hy=>(List.mem_erase_of_ne (by rintro rfl;exact h.1 hy)).2 (hs y (List.mem_cons_of_mem _ hy))
  rw [List.length_erase_of_mem hx] at this
  have hpos:=List.length_pos_of_mem hx
  simp only [List.length_cons]
  omega
section
variable {E:q1g} {C L:List Nd} {v:Nat}
theorem Upto.snoc (hE:OfOk E) (hc:errA (chkF E.s)=0) (h:Upto E C v L) {n:Nd} {j k:Nat} {r:Rl} (hf:q0q E.s n.o.ty n.rl=some (j,k,r)) (hv:lvN E.s n=v) (hn:n ∉ L) (hC:n∈C) (hb:q1w E (fun c=>decide (c∈L)) n r=true) :
  Upto E C v (L++[n]):=by
 have get:∀ i m,(L++[n])[i]?=some m→(i<L.length∧L[i]?=some m)∨(i=L.length∧m=n):=by
  intro i m hi
  rw [List.getElem?_append] at hi
  split at hi
  ·rename_i h1;exact .inl ⟨h1,hi⟩
  ·rename_i h1
   rw [List.getElem?_singleton] at hi
   split at hi
   ·cases hi;exact .inr ⟨by omega,rfl⟩
   ·cases hi
 refine ⟨?_,fun m hm=>?_,fun i m hi=>?_,fun i i2 m m2 hi hi2 hlt=>?_,fun m hm=>?_,fun m j2 k2 r2 hf2 hlt hb2=>?_⟩
 ·rw [List.nodup_append]
  exact ⟨h.nd,by simp,fun a ha b hb=>by rw [List.mem_singleton.1 hb];rintro rfl;exact hn ha⟩
 ·rcases List.mem_append.1 hm with hm | hm
  ·exact h.sub m hm
  ·rw [List.mem_singleton.1 hm];exact hC
 ·rcases get i m hi with ⟨h1,h2⟩ | ⟨h1,rfl⟩
  ·rw [List.take_append_of_le_length (Nat.le_of_lt h1)]
   exact h.step i m h2
  ·rw [h1,List.take_append_of_le_length (Nat.le_refl _),List.take_length]
   exact ⟨j,k,r,hf,hb⟩
 ·rcases get i m hi with ⟨h1,h2⟩ | ⟨h1,rfl⟩
  ·rcases get i2 m2 hi2 with ⟨h3,h4⟩ | ⟨h3,rfl⟩
   ·exact h.srt i i2 m m2 h2 h4 hlt
   ·rw [hv];exact h.top m (List.mem_of_getElem? h2)
  ·rcases get i2 m2 hi2 with ⟨h3,h4⟩ | ⟨h3,rfl⟩
   ·omega
   ·exact Nat.le_refl _
 ·rcases List.mem_append.1 hm with hm | hm
  ·exact h.top m hm
  ·rw [List.mem_singleton.1 hm,hv];exact Nat.le_refl _
 ·refine List.mem_append_left _ (h.closed m j2 k2 r2 hf2 hlt ?_)
  rw [← hb2]
  refine body_congr hE hc hf2 fun c hl=>?_
  rw [Bool.eq_iff_iff,decide_eq_true_eq,decide_eq_true_eq,List.mem_append,List.mem_singleton]
  refine ⟨.inl,fun hq=>hq.elim id fun e=>?_⟩
  subst e
  rcases hl with hl | hl
  ·rw [hf] at hl;cases hl
  ·have:lvN E.s c≤lvN E.s m:=by simpa using hl
   omega
theorem Upto.close (hE:OfOk E) (hc:errA (chkF E.s)=0):∀ (d:Nat) (L:List Nd),Upto E C v L→C.length≤L.length+d→∃ L',Upto E C v L'∧∀ n j k r,q0q E.s n.o.ty n.rl=some (j,k,r)→lvN E.s n=v→n∈C→q1w E (fun c=>decide (c∈L')) n r=true→n∈L':=by
 intro d
 induction d with
 | zero=>
  intro L h hd
  refine ⟨L,h,fun n j k r hf hv hC hb=>Classical.byContradiction fun hn=>?_⟩
  have q:=h.snoc hE hc hf hv hn hC hb
  have:=nd_len q.nd q.sub
  rw [List.length_append,List.length_singleton] at this
  omega
 | succ d ih=>
  intro L h hd
  by_cases hq:∃ n j k r,q0q E.s n.o.ty n.rl=some (j,k,r)∧lvN E.s n=v∧n∈C∧q1w E (fun c=>decide (c∈L)) n r=true∧n ∉ L
  ·obtain ⟨n,j,k,r,hf,hv,hC,hb,hn⟩:=hq
   exact ih _ (h.snoc hE hc hf hv hn hC hb) (by rw [List.length_append,List.length_singleton];omega)
  ·exact ⟨L,h,fun n j k r hf hv hC hb=>Classical.byContradiction fun hn=>hq ⟨n,j,k,r,hf,hv,hC,hb,hn⟩⟩
theorem Upto.mod (h:Upto E C v L) (hv:∀ n j k r,q0q E.s n.o.ty n.rl=some (j,k,r)→lvN E.s n<v):Mod E L:=by
 refine ⟨h.step,fun n m hn hm hlt=>?_,fun n j k r hf hb=>h.closed n j k r hf (hv n j k r hf) hb⟩
 have gi:∀ n,n∈L→L[L.idxOf n]?=some n:=fun n hn=>by
  have hlt:=List.idxOf_lt_length_iff.2 hn
  rw [List.getElem?_eq_getElem hlt,List.getElem_idxOf hlt]
 have g1:=gi n hn
 have g2:=gi m hm
 rcases Nat.lt_trichotomy (L.idxOf n) (L.idxOf m) with h1 | h1 | h1
 ·exact h1
 ·rw [h1,g2] at g1
  cases g1
  omega
 ·have:=h.srt _ _ m n g2 g1 h1
  omega
theorem lvN_le (hc:errA (chkF E.s)=0) {n:Nd} {j k:Nat} {r:Rl} (hf:q0q E.s n.o.ty n.rl=some (j,k,r)):lvN E.s n≤q0r E.s:=by
 obtain ⟨-,ty,hty,-,hkr⟩:=q1v hf
 have:=(q4v hc hty hkr).1
 unfold lvN
 rw [hf]
 exact this
theorem mod_ex (hE:OfOk E) (hc:errA (chkF E.s)=0) {T:List Ob} (hT:∀ n x,x∈E.of n→n.o∈T):∃ L,Mod E L:=by
 have key:∀ v,∃ L,Upto E (q49 E.s T) v L∧∀ n∈L,n.o∈T:=by
  intro v
  induction v with
  | zero=>exact ⟨[],⟨by simp,fun n hn=>(by cases hn),fun i n hi=>by simp at hi,fun i j n m hi=>by simp at hi,fun n hn=>(by cases hn),fun n j k r _ hlt=>by omega⟩,fun n hn=>(by cases hn)⟩
  | succ v ih=>
   obtain ⟨L,h,-⟩:=ih
   obtain ⟨L',h',hcl⟩:=Upto.close hE hc (q49 E.s T).length L h (by omega)
   have hT':∀ n∈L',n.o∈T:=by
    intro n hn
    have:=h'.sub n hn
    obtain ⟨o,ho,hq⟩:=List.mem_flatMap.1 this
    obtain ⟨t,-,hq⟩:=List.mem_flatMap.1 hq
    obtain ⟨r,-,rfl⟩:=List.mem_map.1 hq
    exact ho
   refine ⟨L',⟨h'.nd,h'.sub,h'.step,h'.srt,fun n hn=>Nat.le_succ_of_le (h'.top n hn),fun n j k r hf hlt hb=>?_⟩,hT'⟩
   rcases Nat.lt_succ_iff_lt_or_eq.1 hlt with h1 | h1
   ·exact h'.closed n j k r hf h1 hb
   ·refine hcl n j k r hf h1 (mem_nodes hf (body_thing hT (fun c hc=>hT' c (of_decide_eq_true hc)) hb)) hb
 obtain ⟨L,h,-⟩:=key (q0r E.s+1)
 exact ⟨L,h.mod fun n j k r hf=>Nat.lt_succ_of_le (lvN_le hc hf)⟩
end
theorem exB_of {E E':q1g} (hof:∀ n x,x∈E.of n↔x∈E'.of n) (K:Nd→Bool) (o:Ob):∀ (m:Nat) (e:Ex),exB E K o m e=exB E' K o m e
 | 0,e=>rfl
 | m+1,.mk k n ov ks=>by
  have ih:=exB_of hof K o m
  unfold exB
  by_cases k0:k=0
  ·rw [if_pos k0,if_pos k0]
  ·rw [if_neg k0,if_neg k0]
   by_cases k1:k=1
   ·rw [if_pos k1,if_pos k1,Bool.eq_iff_iff,List.any_eq_true,List.any_eq_true]
    constructor
    ·rintro ⟨x,hx,h⟩;exact ⟨x,(hof _ x).1 hx,h⟩
    ·rintro ⟨x,hx,h⟩;exact ⟨x,(hof _ x).2 hx,h⟩
   ·rw [if_neg k1,if_neg k1]
    match ks with
    | [a,b]=>dsimp only;rw [ih a,ih b]
    | []=>rfl
    | [_]=>rfl
    | _ :: _ :: _ :: _=>rfl
theorem Mod.of {E E':q1g} {L:List Nd} (h:Mod E L) (hs:E'.s=E.s) (hw:E'.who=E.who) (hof:∀ n x,x∈E.of n↔x∈E'.of n):Mod E' L:=by
 have hb:∀ K n r,q1w E K n r=q1w E' K n r:=by
  intro K n r
  unfold q1w
  split
  ·exact exB_of hof K _ _ _
  ·rw [hw,Bool.eq_iff_iff,List.any_eq_true,List.any_eq_true]
   constructor
   ·rintro ⟨x,hx,h⟩;exact ⟨x,(hof _ x).1 hx,h⟩
   ·rintro ⟨x,hx,h⟩;exact ⟨x,(hof _ x).2 hx,h⟩
 refine ⟨fun i n hi=>?_,fun n m=>?_,fun n j k r hf hq=>?_⟩
 ·obtain ⟨j,k,r,h1,h2⟩:=h.step i n hi
  exact ⟨j,k,r,by rw [hs];exact h1,by rw [← hb];exact h2⟩
 ·rw [hs];exact h.lev n m
 ·rw [hs] at hf
  exact h.closed n j k r hf (by rw [hb];exact hq)
end Go.HL
