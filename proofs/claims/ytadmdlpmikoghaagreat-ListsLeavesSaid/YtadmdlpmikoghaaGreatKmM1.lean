/- A part of a proof. -/
import Derived.Test.YtadmdlpmikoghaaGreatKmHlN
import Derived.Test.YtadmdlpmikoghaaGreatKmHlS1
import Derived.Test.YtadmdlpmikoghaaGreatKmHlS2
import Derived.Test.YtadmdlpmikoghaaGreatKmHlS3
import Derived.Test.YtadmdlpmikoghaaGreatKmHlS5
import Derived.Test.YtadmdlpmikoghaaGreatKmHlS6
import Derived.Test.YtadmdlpmikoghaaGreatKmHlS7
import Derived.Test.YtadmdlpmikoghaaGreatKmHlS4
import Derived.Lib.Bytealg
import Derived.Laws.Externs
import Derived.Test.YtadmdlpmikoghaaGreatKmHlS0
set_option linter.defProp false
set_option linter.unusedSimpArgs false
set_option linter.unusedVariables false
namespace Go.HL
open Nat renaming reduceAdd→zA,reduceLeDiff→zB,reduceLT→zC,reduceSub→zD,reduceMul→zE,reduceEqDiff→zF,reduceBEq→zG
open Int renaming reduceAdd→zH,reduceToNat→zI
structure Rf where
 ty:ByteArray
 rl:ByteArray
inductive Ex where
 | mk (kind:Int) (name over:ByteArray) (kids:List Ex)
structure Rl where
 name:ByteArray
 refs:List Rf
 ex:Ex
structure Ty where
 name:ByteArray
 rels:List Rl
mutual
def exC:Ex→List AV
 | .mk k n o ks=>[.int .i64 k,.str n,.str o,.sl 4 (exsC ks)]
def exsC:List Ex→List (List AV)
 | []=>[]
 | e :: r=>exC e :: exsC r
end
def rfC (r:Rf):List AV:=[.str r.ty,.str r.rl]
def rlC (r:Rl):List AV:=.str r.name :: .sl 2 (r.refs.map rfC) :: exC r.ex
def tyC (t:Ty):List AV:=[.str t.name,.sl 6 (t.rels.map rlC)]
def scA (s:List Ty):AV:=.agg [.sl 2 (s.map tyC)]
theorem exsC_map:∀ (l:List Ex),exsC l=l.map exC
 | []=>rfl
 | e :: r=>by rw [exsC,exsC_map r,List.map_cons]
def Ex.kind:Ex→Int
 | .mk k _ _ _=>k
def Ex.name:Ex→ByteArray
 | .mk _ n _ _=>n
def Ex.over:Ex→ByteArray
 | .mk _ _ o _=>o
def Ex.kids:Ex→List Ex
 | .mk _ _ _ ks=>ks
theorem q0f (e:Ex):exC e=[.int .i64 e.kind,.str e.name,.str e.over,.sl 4 (e.kids.map exC)]:=by
 cases e
 rw [exC,exsC_map]
 rfl
theorem q0g (r:Rl):rlC r=[.str r.name,.sl 2 (r.refs.map rfC),.int .i64 r.ex.kind,.str r.ex.name,.str r.ex.over,.sl 4 (r.ex.kids.map exC)]:=by rw [rlC,q0f]
theorem exC_len (e:Ex):(exC e).length=4:=by rw [q0f];rfl
theorem rlC_len (r:Rl):(rlC r).length=6:=by rw [q0g];rfl
theorem tkW_exC {e:Ex} {K:List AV→Prop}:tkW 4 (exC e) K=K (exC e):=tkW_all (exC_len e)
theorem tkW_rlC {r:Rl} {K:List AV→Prop}:tkW 6 (rlC r) K=K (rlC r):=tkW_all (rlC_len r)
def hwR:=And.intro @tkW_exC @tkW_rlC
inductive OkE:Ex→Prop
 | mk (k:Int) (n o:ByteArray) (ks:List Ex) (hk:ks.length≤1125899906842624) (hn:n.size≤1125899906842624) (ho:o.size≤1125899906842624) (h:∀ e∈ks,OkE e):OkE (.mk k n o ks)
structure OkF (r:Rf):Prop where
 ty:r.ty.size≤1125899906842624
 rl:r.rl.size≤1125899906842624
structure OkR (r:Rl):Prop where
 name:r.name.size≤1125899906842624
 refs:r.refs.length≤1125899906842624
 ref:∀ f∈r.refs,OkF f
 ex:OkE r.ex
structure OkT (t:Ty):Prop where
 name:t.name.size≤1125899906842624
 rels:t.rels.length≤1125899906842624
 rel:∀ r∈t.rels,OkR r
structure OkS (s:List Ty):Prop where
 types:s.length≤1125899906842624
 typ:∀ t∈s,OkT t
theorem OkS.at {s:List Ty} (h:OkS s) {i:Nat} {t:Ty} (ht:s[i]?=some t):OkT t:=h.typ t (List.mem_of_getElem? ht)
theorem OkT.at {t:Ty} (h:OkT t) {i:Nat} {r:Rl} (hr:t.rels[i]?=some r):OkR r:=h.rel r (List.mem_of_getElem? hr)
def q0t {α:Type} (p:α→Bool):List α→Option Nat
 | []=>none
 | x :: r=>if p x then some 0 else (q0t p r).map (·+1)
theorem firstI_none {α:Type} {p:α→Bool}:∀ {l:List α},q0t p l=none↔∀ (i:Nat) (x:α),l[i]?=some x→p x=false
 | []=>by simp [q0t]
 | x :: r=>by
  unfold q0t
  constructor
  ·intro h i y hy
   split at h
   ·cases h
   ·rename_i hp
    have h2:q0t p r=none:=by simpa using h
    cases i with
    | zero=>simp at hy;subst hy;simpa using hp
    | succ i=>exact firstI_none.1 h2 i y (by simpa using hy)
  ·intro h
   rw [if_neg (by simp [h 0 x rfl])]
   rw [firstI_none.2 fun i y hy=>h (i+1) y (by simpa using hy)]
   rfl
theorem firstI_some {α:Type} {p:α→Bool}:∀ {l:List α} {i:Nat},q0t p l=some i↔(∃ x,l[i]?=some x∧p x=true)∧∀ (j:Nat) (x:α),j<i→l[j]?=some x→p x=false
 | [],i=>by simp [q0t]
 | x :: r,i=>by
  unfold q0t
  by_cases hp:p x=true
  ·rw [if_pos hp]
   constructor
   ·intro h
    cases h
    exact ⟨⟨x,rfl,hp⟩,fun j y hj=>by omega⟩
   ·rintro ⟨⟨y,hy,hpy⟩,h⟩
    cases i with
    | zero=>rfl
    | succ i=>have:=h 0 x (by omega) rfl;rw [hp] at this;cases this
  ·rw [if_neg hp]
   cases i with
   | zero=>
    constructor
    ·intro h
     cases hf:q0t p r<;>simp [hf] at h
    ·rintro ⟨⟨y,hy,hpy⟩,h⟩
     simp at hy
     subst hy
     exact absurd hpy hp
   | succ i=>
    have hiff:(q0t p r).map (·+1)=some (i+1)↔q0t p r=some i:=by
     cases q0t p r<;>simp
    rw [hiff,firstI_some]
    constructor
    ·rintro ⟨⟨y,hy,hpy⟩,h⟩
     refine ⟨⟨y,by simpa using hy,hpy⟩,fun j z hj hz=>?_⟩
     cases j with
     | zero=>simp at hz;subst hz;simpa using hp
     | succ j=>exact h j z (by omega) (by simpa using hz)
    ·rintro ⟨⟨y,hy,hpy⟩,h⟩
     exact ⟨⟨y,by simpa using hy,hpy⟩,fun j z hj hz=>h (j+1) z (by omega) (by simpa using hz)⟩
def oi:Option Nat→Int
 | some i=>i
 | none=>-1
def typF (s:List Ty) (n:ByteArray):Option Nat:=q0t (fun t=>decide (t.name=n)) s
def q4z (rs:List Rl) (n:ByteArray):Option Nat:=q0t (fun r=>decide (r.name=n)) rs
def relF (s:List Ty) (t:Option Nat) (n:ByteArray):Option Nat:=(t.bind (s[·]?)).bind fun t=>q4z t.rels n
theorem q4v {s:List Ty} {n:ByteArray} {i:Nat} (h:typF s n=some i):i<s.length:=by
 obtain ⟨⟨x,hx,-⟩,-⟩:=firstI_some.1 h
 exact (List.getElem?_eq_some_iff.1 hx).1
theorem relIn_lt {s:List Rl} {n:ByteArray} {i:Nat} (h:q4z s n=some i):i<s.length:=by
 obtain ⟨⟨x,hx,-⟩,-⟩:=firstI_some.1 h
 exact (List.getElem?_eq_some_iff.1 hx).1
theorem c_ref12_typ {s:List Ty} (hs:OkS s) (n:ByteArray):AFun PG nrx66 [scA s,.str n] (.int .i64 (oi (typF s n))):=by
 intro S
 have hb:=hs.types
 refine wx66 ?_
 unfold Bx66
 (try simp only [rwp,hwR,zA,zB,zC,zD,zE,zF,zG,zH,zI,scA])
 refine LoopP.intro (fun i:Nat=>[(1,.str n),(2,.rop [.sl 2 (s.map tyC)]),(5,.int .i64 i)]) (fun _=>S) (fun i=>i≤s.length∧∀ j t,j<i→s[j]?=some t→decide (t.name=n)=false) (fun i=>s.length-i) 0 ⟨by omega,by omega⟩ rfl (Sub.refl S) ?_
 rintro i ⟨hi,hn⟩ r hr
 unfold C66_1
 (try simp only [rwp,hwR,zA,zB,zC,zD,zE,zF,zG,zH,zI])
 (refine q04 (fun hlt=>?_) (fun hlt=>?_)<;>(try simp only [hlc] at hlt))
 ·obtain ⟨t,ht⟩:=q0s hlt
  (try simp only [rwp,hwR,zA,zB,zC,zD,zE,zF,zG,zH,zI,ht,tyC])
  (refine q04 (fun he=>?_) (fun he=>?_)<;>(try simp only [hlc] at he))
  ·have:typF s n=some i:=firstI_some.2 ⟨⟨t,ht,by simpa using he⟩,hn⟩
   exact q02 ⟨by rw [this];rfl,rfl⟩
  ·(simp (disch:=omega) only [q03])
   refine q09 rfl (hr (i+1) ⟨by omega,fun j u hj hu=>?_⟩ (by omega))
   rcases Nat.lt_succ_iff_lt_or_eq.1 hj with h | rfl
   ·exact hn j u h hu
   ·rw [ht] at hu;cases hu;simpa using he
 ·have:typF s n=none:=firstI_none.2 fun j u hu=>hn j u (by have:=(List.getElem?_eq_some_iff.1 hu).1;omega) hu
  exact q02 ⟨by rw [this];rfl,rfl⟩
theorem c_ref12_rel {s:List Ty} (hs:OkS s) (t:Option Nat) (ht:∀ i,t=some i→i<s.length) (n:ByteArray):AFun PG nrx67 [scA s,.int .i64 (oi t),.str n] (.int .i64 (oi (relF s t n))):=by
 intro S
 refine wx67 ?_
 unfold Bx67
 (try simp only [rwp,hwR,zA,zB,zC,zD,zE,zF,zG,zH,zI,scA])
 cases t with
 | none=>
  (refine q04 (fun hlt=>?_) (fun hlt=>?_)<;>(try simp only [hlc] at hlt))
  ·exact q02 ⟨rfl,rfl⟩
  ·simp [oi] at hlt
 | some k=>
  have hk:=ht k rfl
  obtain ⟨ty,hty⟩:∃ ty,s[k]?=some ty:=⟨_,List.getElem?_eq_getElem hk⟩
  have hrel:relF s (some k) n=q4z ty.rels n:=by simp [relF,hty]
  have hb:=(hs.at hty).rels
  (refine q04 (fun hlt=>?_) (fun hlt=>?_)<;>(try simp only [hlc] at hlt))
  ·simp [oi] at hlt;omega
  simp only [oi]
  refine LoopP.intro (fun i:Nat=>[(1,.int .i64 k),(2,.str n),(3,.rop [.sl 2 (s.map tyC)]),(7,.int .i64 i)]) (fun _=>S) (fun i=>i≤ty.rels.length∧∀ j r,j<i→ty.rels[j]?=some r→decide (r.name=n)=false) (fun i=>ty.rels.length-i) 0 ⟨by omega,by omega⟩ rfl (Sub.refl S) ?_
  rintro i ⟨hi,hn⟩ r hr
  unfold C67_1
  (try simp only [rwp,hwR,zA,zB,zC,zD,zE,zF,zG,zH,zI,hty,tyC])
  (refine q04 (fun hlt=>?_) (fun hlt=>?_)<;>(try simp only [hlc] at hlt))
  ·obtain ⟨r,hr'⟩:=q0s hlt
   (try simp only [rwp,hwR,zA,zB,zC,zD,zE,zF,zG,zH,zI,hr',q0g])
   (refine q04 (fun he=>?_) (fun he=>?_)<;>(try simp only [hlc] at he))
   ·have:relF s (some k) n=some i:=by rw [hrel];exact firstI_some.2 ⟨⟨r,hr',by simpa using he⟩,hn⟩
    exact q02 ⟨by rw [this],rfl⟩
   ·(simp (disch:=omega) only [q03])
    refine q09 rfl (hr (i+1) ⟨by omega,fun j u hj hu=>?_⟩ (by omega))
    rcases Nat.lt_succ_iff_lt_or_eq.1 hj with h | rfl
    ·exact hn j u h hu
    ·rw [hr'] at hu;cases hu;simpa using he
  ·have:relF s (some k) n=none:=by rw [hrel];exact firstI_none.2 fun j u hu=>hn j u (by have:=(List.getElem?_eq_some_iff.1 hu).1;omega) hu
   exact q02 ⟨by rw [this],rfl⟩
def q0o (s:List Ty) (t n:ByteArray):Option (Nat×Nat×Rl):=match typF s t with
 | none=>none
 | some i=>match s[i]? with
  | none=>none
  | some ty=>match q4z ty.rels n with
   | none=>none
   | some k=>(ty.rels[k]?).map fun r=>(i,k,r)
theorem findF_rel {s:List Ty} {t n:ByteArray}:relF s (typF s t) n=(q0o s t n).map fun q=>q.2.1:=by
 unfold relF q0o
 cases h1:typF s t with
 | none=>rfl
 | some i=>
  have hi:=q4v h1
  simp only [Option.bind_some,List.getElem?_eq_getElem hi]
  cases h2:q4z (s[i]).rels n with
  | none=>rfl
  | some k=>simp [List.getElem?_eq_getElem (relIn_lt h2)]
theorem q23 {s:List Ty} {t n:ByteArray} {i k:Nat} {r:Rl} (h:q0o s t n=some (i,k,r)):typF s t=some i∧∃ ty,s[i]?=some ty∧q4z ty.rels n=some k∧ty.rels[k]?=some r:=by
 unfold q0o at h
 split at h
 ·cases h
 ·split at h
  ·cases h
  ·split at h
   ·cases h
   ·rename_i h1 _ ty h2 _ k' h3
    cases h4:ty.rels[k']? with
    | none=>rw [h4] at h;cases h
    | some r'=>rw [h4] at h;simp at h;obtain ⟨rfl,rfl,rfl⟩:=h;exact ⟨h1,ty,h2,h3,h4⟩
def zeroR:List AV:=[.str ⟨#[]⟩,.nils,.int .i64 0,.str ⟨#[]⟩,.str ⟨#[]⟩,.nils]
theorem c_ref12_Find {s:List Ty} (hs:OkS s) (t n:ByteArray):AFun PG nrx28 [scA s,.str t,.str n] (match q0o s t n with
  | some (_,_,r)=>.tup [.agg (rlC r),.bool true]
  | none=>.tup [.agg zeroR,.bool false]):=by
 intro S
 refine wx28 ?_
 unfold Bx28
 (try simp only [rwp,hwR,zA,zB,zC,zD,zE,zF,zG,zH,zI,scA])
 intro b hb
 have hS:∀ o,Sub S (supd S b o):=fun o=>Sub.fresh o hb
 refine q05 (c_ref12_typ hs t) ?_
 (try simp only [rwp,hwR,zA,zB,zC,zD,zE,zF,zG,zH,zI])
 refine q05 (c_ref12_rel hs (typF s t) (fun i h=>q4v h) n) ?_
 (try simp only [rwp,hwR,zA,zB,zC,zD,zE,zF,zG,zH,zI])
 have hf:relF s (typF s t) n=(q0o s t n).map fun q=>q.2.1:=findF_rel
 cases hq:q0o s t n with
 | none=>
  rw [hq] at hf
  (refine q04 (fun hlt=>?_) (fun hlt=>?_)<;>(try simp only [hlc] at hlt))
  ·refine q0y S (hS _) ?_
   (try simp only [rwp,hwR,zA,zB,zC,zD,zE,zF,zG,zH,zI])<;>(first | rfl | exact ⟨rfl,rfl⟩)
  ·rw [hf] at hlt;simp [oi] at hlt
 | some q=>
  obtain ⟨i,k,r⟩:=q
  obtain ⟨h1,ty,h2,-,h3⟩:=q23 hq
  rw [hq] at hf
  have hf':oi (relF s (typF s t) n)=(k:Int):=by rw [hf];rfl
  have h1':oi (typF s t)=(i:Int):=by rw [h1];rfl
  rw [hf',h1']
  (refine q04 (fun hlt=>?_) (fun hlt=>?_)<;>(try simp only [hlc] at hlt))
  ·omega
  ·(try simp only [rwp,hwR,zA,zB,zC,zD,zE,zF,zG,zH,zI,h2,h3,tyC,q0g])
   refine q0y S (hS _) ?_
   (try simp only [rwp,hwR,zA,zB,zC,zD,zE,zF,zG,zH,zI,q0g])<;>(first | rfl | exact ⟨rfl,rfl⟩)
def q5o (n:Int):Bool:=decide (97≤n)&&decide (n≤122)
def digitN (n:Int):Bool:=decide (48≤n)&&decide (n≤57)
def greatN (n:Int):Bool:=decide (65≤n)&&decide (n≤90)
theorem q4h (n:Int):AFun PG nrx183 [.int .u8 n] (.bool (q5o n)):=by
 intro S
 refine wx183 ?_
 unfold Bx183
 (try simp only [rwp,hwR,zA,zB,zC,zD,zE,zF,zG,zH,zI])
 exact q02 ⟨rfl,rfl⟩
theorem q71 (n:Int):AFun PG nrx184 [.int .u8 n] (.bool (digitN n)):=by
 intro S
 refine wx184 ?_
 unfold Bx184
 (try simp only [rwp,hwR,zA,zB,zC,zD,zE,zF,zG,zH,zI])
 exact q02 ⟨rfl,rfl⟩
def nameN (n:Int):Bool:=q5o n||digitN n||decide (n=95)
theorem c_names_Name_1 (n:Int):AFun PG nrx182 [.int .u8 n] (.bool (nameN n)):=by
 intro S
 refine wx182 ?_
 unfold Bx182
 refine q05 (q4h n) ?_
 (refine q20 (fun hg=>?_) (fun hg=>?_)<;>(try simp only [rwp,hwR,zA,zB,zC,zD,zE,zF,zG,zH,zI,hg,C182_1]))
 ·refine q05 (q71 n) ?_
  (try simp only [rwp,hwR,zA,zB,zC,zD,zE,zF,zG,zH,zI,C182_1])
  exact q02 ⟨by simp [nameN,hg],rfl⟩
 ·exact q02 ⟨by simp [nameN,hg],rfl⟩
theorem q8b {p:Int→Bool} {f:Nat} (hf:∀ b:UInt8,AFun PG f [.int .u8 b.toNat] (.bool (p b.toNat))) {s:ByteArray} (hs:s.size≤1125899906842624) (m:Int):AFun PG nrx181 [.str s,.int .i64 m,.func (.func f) [] []] (.bool (allB p s&&(decide ((0:Int)<s.size)&&decide ((s.size:Int)≤m)))):=by
 intro S
 refine wx181 ?_
 unfold Bx181
 (try simp only [rwp,hwR,zA,zB,zC,zD,zE,zF,zG,zH,zI])
 refine LoopP.intro (fun i:Nat=>[(0,.str s),(1,.int .i64 m),(2,.func (.func f) [] []),(9,.int .i64 s.size),(10,.int .i64 i)]) (fun _=>S) (fun i=>i≤s.size∧∀ j b,j<i→s[j]?=some b→p b.toNat=true) (fun i=>s.size-i) 0 ⟨by omega,by omega⟩ rfl (Sub.refl S) ?_
 rintro i ⟨hi,hn⟩ r hr
 unfold C181_1
 (try simp only [rwp,hwR,zA,zB,zC,zD,zE,zF,zG,zH,zI])
 (refine q04 (fun hlt=>?_) (fun hlt=>?_)<;>(try simp only [hlc] at hlt))
 ·obtain ⟨b,hb⟩:=q4i hlt
  (try simp only [rwp,hwR,zA,zB,zC,zD,zE,zF,zG,zH,zI,hb])
  refine q05 (hf b) ?_
  (try simp only [rwp,hwR,zA,zB,zC,zD,zE,zF,zG,zH,zI])
  (refine q04 (fun hp=>?_) (fun hp=>?_)<;>(try simp only [hlc] at hp))
  ·exact q02 ⟨by simp only [q7y hb hp,Bool.false_and],rfl⟩
  ·(simp (disch:=omega) only [q03])
   refine q09 rfl (hr (i+1) ⟨by omega,fun j c hj hc=>?_⟩ (by omega))
   rcases Nat.lt_succ_iff_lt_or_eq.1 hj with h | rfl
   ·exact hn j c h hc
   ·rw [hb] at hc;cases hc;exact hp
 ·have hall:allB p s=true:=allB_iff.2 fun j c hc=>hn j c (by have:=q75 hc;omega) hc
  exact q02 ⟨by simp only [hall,Bool.true_and],rfl⟩
def q1w:ByteArray:=⟨#[116,121,112,101]⟩
def q0b:ByteArray:=⟨#[114,101,108,97,116,105,111,110]⟩
def q1c:ByteArray:=⟨#[100,101,102,105,110,101]⟩
def q0p (s:ByteArray):Bool:=!decide (s=q1w)&&(!decide (s=q0b)&&(!decide (s=q1c)&&((allB nameN s&&(decide ((0:Int)<s.size)&&decide ((s.size:Int)≤16)))&&(match s[0]? with
 | some b=>q5o b.toNat
 | none=>false))))
theorem q0v {s:ByteArray} (hs:s.size≤1125899906842624):AFun PG nrx144 [.str s] (.bool (q0p s)):=by
 intro S
 refine wx144 ?_
 unfold Bx144
 (try simp only [rwp,hwR,zA,zB,zC,zD,zE,zF,zG,zH,zI,C144_1])
 (refine q04 (fun e1=>?_) (fun e1=>?_)<;>(try simp only [rwp,hwR,zA,zB,zC,zD,zE,zF,zG,zH,zI,e1]))
 ·have e1:decide (s=q1w)=true:=e1
  exact q02 ⟨by simp only [q0p,e1,Bool.not_true,Bool.false_and],rfl⟩
 (refine q04 (fun e2=>?_) (fun e2=>?_)<;>(try simp only [rwp,hwR,zA,zB,zC,zD,zE,zF,zG,zH,zI,e2]))
 ·have e2:decide (s=q0b)=true:=e2
  exact q02 ⟨by simp only [q0p,e2,Bool.not_true,Bool.false_and,Bool.and_false],rfl⟩
 (refine q04 (fun e3=>?_) (fun e3=>?_)<;>(try simp only [rwp,hwR,zA,zB,zC,zD,zE,zF,zG,zH,zI,e3]))
 ·have e3:decide (s=q1c)=true:=e3
  exact q02 ⟨by simp only [q0p,e3,Bool.not_true,Bool.false_and,Bool.and_false],rfl⟩
 have e1:decide (s=q1w)=false:=e1
 have e2:decide (s=q0b)=false:=e2
 have e3:decide (s=q1c)=false:=e3
 refine q05 (q8b (fun b=>c_names_Name_1 b.toNat) hs 16) ?_
 (refine q20 (fun hg=>?_) (fun hg=>?_)<;>(try simp only [rwp,hwR,zA,zB,zC,zD,zE,zF,zG,zH,zI,hg]))
 ·have h5:((0:Nat):Int)<s.size:=by
   simp only [Bool.and_eq_true,decide_eq_true_eq] at hg
   omega
  obtain ⟨b,hb⟩:=q4i h5
  (try simp only [rwp,hwR,zA,zB,zC,zD,zE,zF,zG,zH,zI,hb])
  refine q05 (q4h b.toNat) ?_
  exact q02 ⟨by simp only [q0p,e1,e2,e3,hg,hb,Bool.not_false,Bool.true_and],rfl⟩
 ·exact q02 ⟨by simp only [q0p,e1,e2,e3,hg,Bool.false_and,Bool.and_false,Bool.not_true],rfl⟩
def atN (i:Nat) (n:Int):Bool:=q5o n||(!decide ((i:Int)=0)&&(decide (n=95)||digitN n))
theorem q1t {s:ByteArray} (hs:s.size≤1125899906842624):AFun PG nrx78 [.str s] (.bool (q0p s)):=by
 intro S
 refine wx78 ?_
 unfold Bx78
 (try simp only [rwp,hwR,zA,zB,zC,zD,zE,zF,zG,zH,zI,C78_1,C78_2,C78_3,C78_4])
 have hc:(decide ((s.size:Int)=0)||decide (16<(s.size:Int))||decide (s=q1w)||decide (s=q0b)||decide (s=q1c))=true→q0p s=false:=by
  intro h
  simp only [Bool.or_eq_true,decide_eq_true_eq] at h
  rcases h with (((h | h) | h) | h) | h
  ·simp only [q0p,decide_eq_false (show ¬ (0:Int)<s.size by omega),Bool.false_and,Bool.and_false]
  ·simp only [q0p,decide_eq_false (show ¬ (s.size:Int)≤16 by omega),Bool.false_and,Bool.and_false]
  ·rw [h];rfl
  ·rw [h];rfl
  ·rw [h];rfl
 (refine q04 (fun h0=>?_) (fun h0=>?_)<;>(try simp only [rwp,hwR,zA,zB,zC,zD,zE,zF,zG,zH,zI,h0]))
 ·exact q02 ⟨by rw [hc h0],rfl⟩
 have h0:(decide ((s.size:Int)=0)||decide (16<(s.size:Int))||decide (s=q1w)||decide (s=q0b)||decide (s=q1c))=false:=h0
 simp only [Bool.or_eq_false_iff,decide_eq_false_iff_not] at h0
 obtain ⟨⟨⟨⟨c1,c2⟩,c3⟩,c4⟩,c5⟩:=h0
 refine LoopP.intro (fun i:Nat=>[(0,.str s),(3,.int .i64 i)]) (fun _=>S) (fun i=>i≤s.size∧∀ j b,j<i→s[j]?=some b→atN j b.toNat=true) (fun i=>s.size-i) 0 ⟨by omega,by omega⟩ rfl (Sub.refl S) ?_
 rintro i ⟨hi,hn⟩ r hr
 (try simp only [rwp,hwR,zA,zB,zC,zD,zE,zF,zG,zH,zI,C78_5,C78_6,C78_7,C78_8])
 (refine q04 (fun hlt=>?_) (fun hlt=>?_)<;>(try simp only [hlc] at hlt))
 ·obtain ⟨b,hb⟩:=q4i hlt
  (try simp only [rwp,hwR,zA,zB,zC,zD,zE,zF,zG,zH,zI,hb])
  have fin:atN i b.toNat=true→nameN b.toNat=true:=by
   simp only [atN,nameN,Bool.or_eq_true,Bool.and_eq_true]
   rintro (h | ⟨-,h | h⟩)
   ·exact .inl (.inl h)
   ·exact .inr h
   ·exact .inl (.inr h)
  have bad:atN i b.toNat=false→q0p s=false:=by
   intro h
   by_cases h0:i=0
   ·subst h0
    have:q5o b.toNat=false:=by
     simp only [atN,Bool.or_eq_false_iff] at h
     exact h.1
    simp only [q0p,hb,this,Bool.and_false]
   ·have h5:nameN b.toNat=false:=by
     have:decide ((i:Int)=0)=false:=decide_eq_false (by omega)
     simp only [atN,this,Bool.not_false,Bool.true_and,Bool.or_eq_false_iff] at h
     simp only [nameN,Bool.or_eq_false_iff]
     exact ⟨⟨h.1,h.2.2⟩,h.2.1⟩
    simp only [q0p,q7y hb h5,Bool.false_and,Bool.and_false]
  have good:atN i b.toNat=true→r [(0,.str s),(3,.int .i64 ((i:Int)+1))] S:=fun h=>by
   refine hr (i+1) ⟨by omega,fun j c hj hc=>?_⟩ (by omega)
   rcases Nat.lt_succ_iff_lt_or_eq.1 hj with h1 | rfl
   ·exact hn j c h1 hc
   ·rw [hb] at hc;cases hc;exact h
  have ea:atN i b.toNat=((decide (97≤(b.toNat:Int))&&decide ((b.toNat:Int)≤122))||(!decide ((i:Int)=0)&&(decide ((b.toNat:Int)=95)||(!decide ((b.toNat:Int)<48)&&!decide (57<(b.toNat:Int)))))):=by
   simp only [atN,q5o,digitN,← decide_not,Int.not_lt]
  cases h1:decide (97≤(b.toNat:Int))<;>cases h2:decide ((b.toNat:Int)≤122)<;>cases h3:decide ((i:Int)=0)<;>cases h4:decide ((b.toNat:Int)=95)<;>cases h5:decide ((b.toNat:Int)<48)<;>cases h6:decide (57<(b.toNat:Int)) <;>
   simp only [h1,h2,h3,h4,h5,h6,Bool.true_and,Bool.false_and,Bool.and_true,Bool.and_false,Bool.or_true,Bool.true_or,Bool.or_false,Bool.false_or,Bool.not_true,Bool.not_false] at ea <;>
   (try simp only [rwp,hwR,zA,zB,zC,zD,zE,zF,zG,zH,zI,C78_9,C78_10,C78_11,C78_12,h4,h5,h6]) <;>
   first
    | exact q02 ⟨by rw [bad ea],rfl⟩
    | ((simp (disch:=omega) only [q03]);exact q09 rfl (good ea))
 ·refine q02 ⟨?_,rfl⟩
  obtain ⟨b0,hb0⟩:∃ b,s[0]?=some b:=q4i (i:=0) (by omega)
  have h0:=hn 0 b0 (by omega) hb0
  have h0':q5o b0.toNat=true:=by simpa [atN] using h0
  have hall:allB nameN s=true:=allB_iff.2 fun j c hc=>by
   have h8:=hn j c (by have:=q75 hc;omega) hc
   simp only [atN,Bool.or_eq_true,Bool.and_eq_true] at h8
   simp only [nameN,Bool.or_eq_true]
   rcases h8 with h8 | ⟨-,h8 | h8⟩
   ·exact .inl (.inl h8)
   ·exact .inr h8
   ·exact .inl (.inr h8)
  have:q0p s=true:=by
   simp only [q0p,decide_eq_false c3,decide_eq_false c4,decide_eq_false c5,hall,hb0,h0',Bool.not_false,Bool.true_and,Bool.and_true,Bool.and_eq_true,decide_eq_true_eq]
   omega
  rw [this]
theorem q3b {α:Type} {p:α→Bool}:∀ {l:List α},(q0t p l).isSome=l.any p
 | []=>rfl
 | x :: r=>by
  unfold q0t
  by_cases h:p x=true
  ·simp [h]
  ·have:=q3b (p:=p) (l:=r)
   simp only [h,if_false,Option.isSome_map,this,List.any_cons,Bool.false_or,Bool.false_eq_true]
theorem oi_some {o:Option Nat}:decide (0≤oi o)=o.isSome:=by
 cases o with
 | none=>rfl
 | some i=>simp [oi]
section
variable {α:Type} {enc:α→List AV} {xs:List α} {S:q00} {g:Nat} {fi ca:List AV} {p:α→Bool}
theorem c_IndexFunc_Ref (hl:∀ x∈xs,(enc x).length=2) (hb:xs.length≤1125899906842624) (hp:∀ x∈xs,AFunS PG g (fi++[.agg (enc x)]++ca) S (.bool (p x))) :
  AFunS PG nrx215 [.sl 2 (xs.map enc),.func (.func g) fi ca] S (.int .i64 (oi (q0t p xs))):=by
 refine wx215 ?_
 unfold Bx215
 (try simp only [rwp,hwR,zA,zB,zC,zD,zE,zF,zG,zH,zI])
 refine LoopP.intro (fun i:Nat=>[(0,.sl 2 (xs.map enc)),(1,.func (.func g) fi ca),(7,.int .i64 xs.length),(8,.int .i64 i)]) (fun _=>S) (fun i=>i≤xs.length∧∀ j x,j<i→xs[j]?=some x→p x=false) (fun i=>xs.length-i) 0 ⟨by omega,by omega⟩ rfl (Sub.refl S) ?_
 rintro i ⟨hi,hn⟩ r hr
 unfold C215_1
 (try simp only [rwp,hwR,zA,zB,zC,zD,zE,zF,zG,zH,zI])
 (refine q04 (fun hlt=>?_) (fun hlt=>?_)<;>(try simp only [hlc] at hlt))
 ·obtain ⟨x,hx⟩:=q0s hlt
  (try simp only [rwp,hwR,zA,zB,zC,zD,zE,zF,zG,zH,zI,hx])
  rw [tkW_all (hl x (List.mem_of_getElem? hx))]
  refine caW_atv (hp x (List.mem_of_getElem? hx)) ?_
  (refine q04 (fun he=>?_) (fun he=>?_)<;>(try simp only [rwp,hwR,zA,zB,zC,zD,zE,zF,zG,zH,zI,he]))
  ·have:q0t p xs=some i:=firstI_some.2 ⟨⟨x,hx,he⟩,hn⟩
   exact q02 ⟨by rw [this];rfl,rfl⟩
  ·(simp (disch:=omega) only [q03])
   refine q09 rfl (hr (i+1) ⟨by omega,fun j u hj hu=>?_⟩ (by omega))
   rcases Nat.lt_succ_iff_lt_or_eq.1 hj with h | rfl
   ·exact hn j u h hu
   ·rw [hx] at hu;cases hu;exact he
 ·have:q0t p xs=none:=firstI_none.2 fun j u hu=>hn j u (by have:=(List.getElem?_eq_some_iff.1 hu).1;omega) hu
  exact q02 ⟨by rw [this];rfl,rfl⟩
theorem q74 (hl:∀ x∈xs,(enc x).length=2) (hb:xs.length≤1125899906842624) (hp:∀ x∈xs,AFunS PG g (fi++[.agg (enc x)]++ca) S (.bool (p x))) :
  AFunS PG nrx207 [.sl 2 (xs.map enc),.func (.func g) fi ca] S (.bool (xs.any p)):=by
 refine wx207 ?_
 unfold Bx207
 refine q1l (c_IndexFunc_Ref hl hb hp) ?_
 (try simp only [rwp,hwR,zA,zB,zC,zD,zE,zF,zG,zH,zI])
 exact q02 ⟨by rw [oi_some,q3b],rfl⟩
theorem c_IndexFunc_Rel (hl:∀ x∈xs,(enc x).length=6) (hb:xs.length≤1125899906842624) (hp:∀ x∈xs,AFunS PG g (fi++[.agg (enc x)]++ca) S (.bool (p x))) :
  AFunS PG nrx205 [.sl 6 (xs.map enc),.func (.func g) fi ca] S (.int .i64 (oi (q0t p xs))):=by
 refine wx205 ?_
 unfold Bx205
 (try simp only [rwp,hwR,zA,zB,zC,zD,zE,zF,zG,zH,zI])
 refine LoopP.intro (fun i:Nat=>[(0,.sl 6 (xs.map enc)),(1,.func (.func g) fi ca),(7,.int .i64 xs.length),(8,.int .i64 i)]) (fun _=>S) (fun i=>i≤xs.length∧∀ j x,j<i→xs[j]?=some x→p x=false) (fun i=>xs.length-i) 0 ⟨by omega,by omega⟩ rfl (Sub.refl S) ?_
 rintro i ⟨hi,hn⟩ r hr
 unfold C205_1
 (try simp only [rwp,hwR,zA,zB,zC,zD,zE,zF,zG,zH,zI])
 (refine q04 (fun hlt=>?_) (fun hlt=>?_)<;>(try simp only [hlc] at hlt))
 ·obtain ⟨x,hx⟩:=q0s hlt
  (try simp only [rwp,hwR,zA,zB,zC,zD,zE,zF,zG,zH,zI,hx])
  rw [tkW_all (hl x (List.mem_of_getElem? hx))]
  refine caW_atv (hp x (List.mem_of_getElem? hx)) ?_
  (refine q04 (fun he=>?_) (fun he=>?_)<;>(try simp only [rwp,hwR,zA,zB,zC,zD,zE,zF,zG,zH,zI,he]))
  ·have:q0t p xs=some i:=firstI_some.2 ⟨⟨x,hx,he⟩,hn⟩
   exact q02 ⟨by rw [this];rfl,rfl⟩
  ·(simp (disch:=omega) only [q03])
   refine q09 rfl (hr (i+1) ⟨by omega,fun j u hj hu=>?_⟩ (by omega))
   rcases Nat.lt_succ_iff_lt_or_eq.1 hj with h | rfl
   ·exact hn j u h hu
   ·rw [hx] at hu;cases hu;exact he
 ·have:q0t p xs=none:=firstI_none.2 fun j u hu=>hn j u (by have:=(List.getElem?_eq_some_iff.1 hu).1;omega) hu
  exact q02 ⟨by rw [this];rfl,rfl⟩
theorem q73 (hl:∀ x∈xs,(enc x).length=6) (hb:xs.length≤1125899906842624) (hp:∀ x∈xs,AFunS PG g (fi++[.agg (enc x)]++ca) S (.bool (p x))) :
  AFunS PG nrx173 [.sl 6 (xs.map enc),.func (.func g) fi ca] S (.bool (xs.any p)):=by
 refine wx173 ?_
 unfold Bx173
 refine q1l (c_IndexFunc_Rel hl hb hp) ?_
 (try simp only [rwp,hwR,zA,zB,zC,zD,zE,zF,zG,zH,zI])
 exact q02 ⟨by rw [oi_some,q3b],rfl⟩
end
def two (p:Ex→Bool):List Ex→Bool
 | [a,b]=>p a&&p b
 | _=>false
theorem two_of {ks:List Ex} (h:(ks.length:Int)=2):∃ a b,ks=[a,b]:=by
 match ks,h with
 | [a,b],_=>exact ⟨a,b,rfl⟩
 | [],h=>simp at h
 | [_],h=>simp at h
 | _ :: _ :: _ :: r,h=>simp at h;omega
theorem two_not {p:Ex→Bool} {ks:List Ex} (h:¬ (ks.length:Int)=2):two p ks=false:=by
 unfold two
 split
 ·exact absurd rfl h
 ·rfl
def mayE:Nat→Ex→Bool
 | 0,_=>false
 | m+1,.mk k n o ks=>
  if k=0 then q0p n&&ks.isEmpty
  else if k=1 then q0p n&&(q0p o&&ks.isEmpty)
  else if k=2∨k=3∨k=4 then two (mayE m) ks
  else false
theorem isEmpty_len {ks:List Ex}:ks.isEmpty=decide ((ks.length:Int)=0):=by
 cases ks with
 | nil=>rfl
 | cons a r=>rw [decide_eq_false (by simp only [List.length_cons];omega)];rfl
def signS (k:Int):ByteArray:=if k=2 then ⟨#[32,43,32]⟩ else if k=3 then ⟨#[32,38,32]⟩ else if k=4 then ⟨#[32,45,32]⟩ else ⟨#[]⟩
theorem c_lang_sign (k:Int):AFun PG nrx214 [.int .i64 k] (.str (signS k)):=by
 intro S
 refine wx214 ?_
 unfold Bx214
 (try simp only [rwp,hwR,zA,zB,zC,zD,zE,zF,zG,zH,zI])
 (refine q04 (fun h1=>?_) (fun h1=>?_)<;>(try simp only [hlc] at h1))
 ·exact q02 ⟨by rw [h1];rfl,rfl⟩
 (refine q04 (fun h2=>?_) (fun h2=>?_)<;>(try simp only [hlc] at h2))
 ·exact q02 ⟨by rw [h2];rfl,rfl⟩
 (refine q04 (fun h3=>?_) (fun h3=>?_)<;>(try simp only [hlc] at h3))
 ·exact q02 ⟨by rw [h3];rfl,rfl⟩
 exact q02 ⟨by simp only [signS,if_neg h1,if_neg h2,if_neg h3],rfl⟩
theorem sign_none {k:Int}:signS k=⟨#[]⟩↔¬ (k=2∨k=3∨k=4):=by
 unfold signS
 constructor
 ·intro h
  split at h
  ·exact absurd h (by decide)
  ·split at h
   ·exact absurd h (by decide)
   ·split at h
    ·exact absurd h (by decide)
    ·omega
 ·intro h
  rw [if_neg (by omega),if_neg (by omega),if_neg (by omega)]
theorem c_lang_may:∀ (m:Nat),m≤1000→∀ (e:Ex),OkE e→AFun PG nrx206 [.agg (exC e),.int .i64 m] (.bool (mayE m e)):=by
 intro m
 induction m with
 | zero=>
  intro hm e he S
  refine wx206 ?_
  unfold Bx206
  have h0:decide (((0:Nat):Int)=0)=true:=rfl
  (try simp only [rwp,hwR,zA,zB,zC,zD,zE,zF,zG,zH,zI,q0f,h0])
  exact q02 ⟨by cases e;rfl,rfl⟩
 | succ m ih=>
  intro hm e he S
  refine wx206 ?_
  unfold Bx206
  have h0:decide (((m+1:Nat):Int)=0)=false:=decide_eq_false (by omega)
  obtain ⟨k,n,o,ks,hk,hn,ho,hks⟩:=he
  (try simp only [rwp,hwR,zA,zB,zC,zD,zE,zF,zG,zH,zI,q0f,Ex.kind,Ex.name,Ex.over,Ex.kids,h0])
  (refine q04 (fun h2=>?_) (fun h2=>?_)<;>(try simp only [hlc] at h2))
  ·have key:mayE (m+1) (.mk k n o ks)=(q0p n&&decide ((ks.length:Int)=0)):=by rw [mayE,if_pos h2,isEmpty_len]
   refine q05 (q0v hn) ?_
   (try simp only [rwp,hwR,zA,zB,zC,zD,zE,zF,zG,zH,zI])
   exact q02 ⟨by rw [key],rfl⟩
  (refine q04 (fun h3=>?_) (fun h3=>?_)<;>(try simp only [hlc] at h3))
  ·have key:mayE (m+1) (.mk k n o ks)=(q0p n&&(q0p o&&decide ((ks.length:Int)=0))):=by rw [mayE,if_neg h2,if_pos h3,isEmpty_len]
   refine q05 (q0v hn) ?_
   (refine q20 (fun hg=>?_) (fun hg=>?_)<;>(try simp only [rwp,hwR,zA,zB,zC,zD,zE,zF,zG,zH,zI,hg,C206_3]))
   ·refine q05 (q0v ho) ?_
    (try simp only [rwp,hwR,zA,zB,zC,zD,zE,zF,zG,zH,zI,C206_3])
    exact q02 ⟨by rw [key,hg];rfl,rfl⟩
   ·exact q02 ⟨by rw [key,hg];rfl,rfl⟩
  ·refine q05 (c_lang_sign k) ?_
   by_cases h4:k=2∨k=3∨k=4
   ·have key:mayE (m+1) (.mk k n o ks)=two (mayE m) ks:=by rw [mayE,if_neg h2,if_neg h3,if_pos h4]
    have hs:decide (signS k=⟨#[]⟩)=false:=decide_eq_false fun h=>sign_none.1 h h4
    (try simp only [rwp,hwR,zA,zB,zC,zD,zE,zF,zG,zH,zI,hs,C206_1])
    (refine q20 (fun hg=>?_) (fun hg=>?_)<;>(try simp only [rwp,hwR,zA,zB,zC,zD,zE,zF,zG,zH,zI,hg,hs]))
    ·obtain ⟨a,b,rfl⟩:=two_of (by simpa using hg)
     have hm1:IntKind.i64.wrap (((m+1:Nat):Int)-1)=(m:Int):=by rw [q03]<;>omega
     (try simp only [rwp,hwR,zA,zB,zC,zD,zE,zF,zG,zH,zI,hm1])
     refine q05 (ih (by omega) a (hks a (by simp))) ?_
     (try simp only [rwp,hwR,zA,zB,zC,zD,zE,zF,zG,zH,zI,C206_2])
     (refine q20 (fun hg=>?_) (fun hg=>?_)<;>(try simp only [rwp,hwR,zA,zB,zC,zD,zE,zF,zG,zH,zI,hg,hm1]))
     ·refine q05 (ih (by omega) b (hks b (by simp))) ?_
      exact q02 ⟨by simp only [key,two,hg,Bool.true_and],rfl⟩
     ·exact q02 ⟨by simp only [key,two,hg,Bool.false_and,Bool.not_true],rfl⟩
    ·(try simp only [rwp,hwR,zA,zB,zC,zD,zE,zF,zG,zH,zI,C206_2])
     exact q02 ⟨by rw [key,two_not (by simpa using hg)],rfl⟩
   ·have key:mayE (m+1) (.mk k n o ks)=false:=by rw [mayE,if_neg h2,if_neg h3,if_neg h4]
    have hs:decide (signS k=⟨#[]⟩)=true:=decide_eq_true (sign_none.2 h4)
    (try simp only [rwp,hwR,zA,zB,zC,zD,zE,zF,zG,zH,zI,hs,C206_1,C206_2])
    exact q02 ⟨by rw [key],rfl⟩
def refB (f:Rf):Bool:=q0p f.ty&&(decide (f.rl=⟨#[]⟩)||q0p f.rl)
def relB (r:Rl):Bool:=q0p r.name&&(r.refs.all refB&&(!r.refs.isEmpty||mayE 12 r.ex))
def typB (t:Ty):Bool:=q0p t.name&&t.rels.all relB
def scB (s:List Ty):Bool:=s.all typB
theorem c_lang_ref {f:Rf} (hf:OkF f):AFun PG nrx209 [.agg (rfC f)] (.bool (refB f)):=by
 intro S
 refine wx209 ?_
 unfold Bx209
 (try simp only [rwp,hwR,zA,zB,zC,zD,zE,zF,zG,zH,zI,rfC])
 refine q05 (q0v hf.ty) ?_
 cases h1:q0p f.ty<;>(try simp only [rwp,hwR,zA,zB,zC,zD,zE,zF,zG,zH,zI,C209_1,C209_2])
 ·exact q02 ⟨by simp only [refB,h1,Bool.false_and],rfl⟩
 (refine q20 (fun hg=>?_) (fun hg=>?_)<;>(try simp only [rwp,hwR,zA,zB,zC,zD,zE,zF,zG,zH,zI,hg,C209_2]))
 ·refine q05 (q0v hf.rl) ?_
  (try simp only [rwp,hwR,zA,zB,zC,zD,zE,zF,zG,zH,zI,C209_2,hg])
  exact q02 ⟨by simp only [refB,h1,hg,Bool.true_and,Bool.false_or],rfl⟩
 ·exact q02 ⟨by simp only [refB,h1,hg,Bool.true_and,Bool.true_or,Bool.not_false],rfl⟩
theorem c_lang_rel_1 {f:Rf} (hf:OkF f):AFun PG nrx208 [.agg (rfC f)] (.bool (!refB f)):=by
 intro S
 refine wx208 ?_
 unfold Bx208
 (try simp only [rwp,hwR,zA,zB,zC,zD,zE,zF,zG,zH,zI,rfC])
 refine q05 (c_lang_ref hf) ?_
 (try simp only [rwp,hwR,zA,zB,zC,zD,zE,zF,zG,zH,zI])
 exact q02 ⟨rfl,rfl⟩
theorem any_not {α:Type} {p:α→Bool} {l:List α}:(!l.any fun x=>!p x)=l.all p:=by
 induction l with
 | nil=>rfl
 | cons x r ih=>simp only [List.any_cons,List.all_cons,Bool.not_or,Bool.not_not,ih]
theorem c_lang_rel {r:Rl} (hr:OkR r):AFun PG nrx175 [.agg (rlC r)] (.bool (relB r)):=by
 intro S
 refine wx175 ?_
 unfold Bx175
 (try simp only [rwp,hwR,zA,zB,zC,zD,zE,zF,zG,zH,zI,q0g])
 (refine q04 (fun h1=>?_) (fun h1=>?_)<;>(try simp only [rwp,hwR,zA,zB,zC,zD,zE,zF,zG,zH,zI,h1]))
 ·have he:r.refs=[]:=by simpa using h1
  refine q05 (q0v hr.name) ?_
  (refine q20 (fun hg=>?_) (fun hg=>?_)<;>(try simp only [rwp,hwR,zA,zB,zC,zD,zE,zF,zG,zH,zI,hg]))
  ·rw [← q0f]
   refine q05 (c_lang_may 12 (by omega) r.ex hr.ex) ?_
   exact q02 ⟨by simp only [relB,hg,he,List.all_nil,List.isEmpty_nil,Bool.true_and,Bool.not_true,Bool.false_or],rfl⟩
  ·exact q02 ⟨by simp only [relB,hg,Bool.false_and,Bool.not_true],rfl⟩
 ·have he:r.refs.isEmpty=false:=by
   cases h2:r.refs with
   | nil=>rw [h2] at h1;simp at h1
   | cons a l=>rfl
  refine q05 (q0v hr.name) ?_
  (refine q20 (fun hg=>?_) (fun hg=>?_)<;>(try simp only [rwp,hwR,zA,zB,zC,zD,zE,zF,zG,zH,zI,hg]))
  ·refine q1l (q74 (enc:=rfC) (p:=fun f=>!refB f) (fun x _=>rfl) hr.refs (fun x hx=>c_lang_rel_1 (hr.ref x hx) S)) ?_
   (try simp only [rwp,hwR,zA,zB,zC,zD,zE,zF,zG,zH,zI])
   exact q02 ⟨by rw [any_not];simp only [relB,hg,he,Bool.true_and,Bool.not_false,Bool.true_or,Bool.and_true],rfl⟩
  ·exact q02 ⟨by simp only [relB,hg,Bool.false_and,Bool.not_true],rfl⟩
theorem c_lang_May_1 {r:Rl} (hr:OkR r):AFun PG nrx174 [.agg (rlC r)] (.bool (!relB r)):=by
 intro S
 refine wx174 ?_
 unfold Bx174
 (try simp only [rwp,hwR,zA,zB,zC,zD,zE,zF,zG,zH,zI,q0g])
 rw [← q0g]
 refine q05 (c_lang_rel hr) ?_
 (try simp only [rwp,hwR,zA,zB,zC,zD,zE,zF,zG,zH,zI])
 exact q02 ⟨rfl,rfl⟩
theorem all_false {α:Type} {p:α→Bool} {l:List α} {i:Nat} {x:α} (h:l[i]?=some x) (hp:p x=false):l.all p=false:=by
 cases hq:l.all p with
 | false=>rfl
 | true=>rw [List.all_eq_true] at hq;rw [hq x (List.mem_of_getElem? h)] at hp;cases hp
theorem all_upto {α:Type} {p:α→Bool} {l:List α} (h:∀ j x,j<l.length→l[j]?=some x→p x=true):l.all p=true:=by
 rw [List.all_eq_true]
 intro x hx
 obtain ⟨i,hi⟩:=List.getElem?_of_mem hx
 exact h i x (List.getElem?_eq_some_iff.1 hi).1 hi
theorem c_lang_May {s:List Ty} (hs:OkS s):AFun PG nrx136 [scA s] (.bool (scB s)):=by
 intro S
 have hb:=hs.types
 refine wx136 ?_
 unfold Bx136
 (try simp only [rwp,hwR,zA,zB,zC,zD,zE,zF,zG,zH,zI,scA])
 refine LoopP.intro (fun i:Nat=>[(6,.sl 2 (s.map tyC)),(7,.int .i64 s.length),(8,.int .i64 i)]) (fun _=>S) (fun i=>i≤s.length∧∀ j t,j<i→s[j]?=some t→typB t=true) (fun i=>s.length-i) 0 ⟨by omega,by omega⟩ rfl (Sub.refl S) ?_
 rintro i ⟨hi,hn⟩ r hr
 unfold C136_1
 (try simp only [rwp,hwR,zA,zB,zC,zD,zE,zF,zG,zH,zI])
 (refine q04 (fun hlt=>?_) (fun hlt=>?_)<;>(try simp only [hlc] at hlt))
 ·obtain ⟨t,ht⟩:=q0s hlt
  have hok:=hs.at ht
  (try simp only [rwp,hwR,zA,zB,zC,zD,zE,zF,zG,zH,zI,ht,tyC])
  refine q05 (q0v hok.name) ?_
  (try simp only [rwp,hwR,zA,zB,zC,zD,zE,zF,zG,zH,zI])
  have next:typB t=true→r [(6,.sl 2 (s.map tyC)),(7,.int .i64 s.length),(8,.int .i64 ((i:Int)+1))] S:=fun h=>by
   refine hr (i+1) ⟨by omega,fun j u hj hu=>?_⟩ (by omega)
   rcases Nat.lt_succ_iff_lt_or_eq.1 hj with h1 | rfl
   ·exact hn j u h1 hu
   ·rw [ht] at hu;cases hu;exact h
  cases h1:q0p t.name<;>(try simp only [rwp,hwR,zA,zB,zC,zD,zE,zF,zG,zH,zI])
  ·exact q02 ⟨by rw [scB,all_false ht (by simp only [typB,h1,Bool.false_and])],rfl⟩
  ·refine q1l (q73 (enc:=rlC) (p:=fun r=>!relB r) (fun x _=>rlC_len x) hok.rels (fun x hx=>c_lang_May_1 (hok.rel x hx) S)) ?_
   (try simp only [rwp,hwR,zA,zB,zC,zD,zE,zF,zG,zH,zI])
   have h2:(t.rels.any fun r=>!relB r)=!t.rels.all relB:=by rw [← any_not,Bool.not_not]
   rw [h2]
   (refine q04 (fun h3=>?_) (fun h3=>?_)<;>(try simp only [rwp,hwR,zA,zB,zC,zD,zE,zF,zG,zH,zI,h3]))
   ·exact q02 ⟨by rw [scB,all_false ht (by simp only [typB,h1,Bool.true_and];simpa using h3)],rfl⟩
   ·(simp (disch:=omega) only [q03])
    exact q09 rfl (next (by simp only [typB,h1,Bool.true_and];simpa using h3))
 ·exact q02 ⟨by rw [scB,all_upto fun j t hj ht=>hn j t (by omega) ht],rfl⟩
mutual
def q1f:Ex→Int→Int
 | .mk _ _ _ ks,m=>if m<ks.length then 0 else q1o ks (m-1)
def q1o:List Ex→Int→Int
 | [],m=>m
 | e :: r,m=>if 0<m then q1o r (q1f e m) else m
end
mutual
theorem q7c:∀ (e:Ex) (m:Int),q1f e m≤max m 0∧(-1≤q1f e m∨m≤q1f e m+1)
 | .mk _ _ _ ks,m=>by
  unfold q1f
  split
  ·omega
  ·have:=weightL_le ks (m-1)
   omega
theorem weightL_le:∀ (l:List Ex) (m:Int),q1o l m≤max m 0∧(-1≤q1o l m∨m≤q1o l m)
 | [],m=>by unfold q1o;omega
 | e :: r,m=>by
  unfold q1o
  split
  ·have h1:=q7c e m
   have h2:=weightL_le r (q1f e m)
   omega
  ·omega
end
theorem q7z {l:List Ex} {m:Int} (h:¬ 0<m):q1o l m=m:=by
 cases l with
 | nil=>rfl
 | cons e r=>rw [q1o,if_neg h]
theorem c_law11_weight:∀ (e:Ex),OkE e→∀ (m:Int),-1125899906842624≤m→m≤1125899906842624→AFun PG nrx90 [.agg (exC e),.int .i64 m] (.int .i64 (q1f e m)):=by
 intro e he
 induction he with
 | mk k n o ks hk hn ho hks ih=>
  intro m hm1 hm2 S
  refine wx90 ?_
  unfold Bx90
  (try simp only [rwp,hwR,zA,zB,zC,zD,zE,zF,zG,zH,zI,q0f,Ex.kind,Ex.name,Ex.over,Ex.kids])
  (refine q04 (fun h1=>?_) (fun h1=>?_)<;>(try simp only [hlc] at h1))
  ·exact q02 ⟨by rw [q1f,if_pos h1],rfl⟩
  (simp (disch:=omega) only [q03])
  refine LoopP.intro (fun p:Nat×Int=>[(1,.int .i64 p.2),(2,.rop [.int .i64 k,.str n,.str o,.sl 4 (ks.map exC)]),(5,.int .i64 p.1)]) (fun _=>S) (fun p=>p.1≤ks.length∧q1o (ks.drop p.1) p.2=q1o ks (m-1)∧-1125899906842626≤p.2∧p.2≤1125899906842624) (fun p=>ks.length-p.1) (0,m-1) ⟨by omega,rfl,by omega,by omega⟩ rfl (Sub.refl S) ?_
  rintro ⟨i,q⟩ ⟨hi,hq,hb1,hb2⟩ r hr
  dsimp only at hi hq hb1 hb2
  (try simp only [rwp,hwR,zA,zB,zC,zD,zE,zF,zG,zH,zI,C90_1,C90_2])
  have fin:∀ v,v=q1o ks (m-1)→v=q1f (.mk k n o ks) m:=fun v hv=>by rw [q1f,if_neg h1,hv]
  (refine q04 (fun h2=>?_) (fun h2=>?_)<;>(try simp only [rwp,hwR,zA,zB,zC,zD,zE,zF,zG,zH,zI,h2]))
  ·simp only [Bool.and_eq_true,decide_eq_true_eq] at h2
   obtain ⟨e,he⟩:=q0s h2.1
   have hem:=List.mem_of_getElem? he
   (try simp only [rwp,hwR,zA,zB,zC,zD,zE,zF,zG,zH,zI,he])
   have hd:ks.drop i=e :: ks.drop (i+1):=by
    have:=(List.getElem?_eq_some_iff.1 he)
    obtain ⟨h3,h4⟩:=this
    rw [← h4]
    exact List.drop_eq_getElem_cons h3
   have hw:=q7c e q
   refine q05 (ih e hem q (by omega) (by omega)) ?_
   (try simp only [rwp,hwR,zA,zB,zC,zD,zE,zF,zG,zH,zI])
   (simp (disch:=omega) only [q03])
   refine q09 rfl (hr (i+1,q1f e q) ⟨by dsimp only;omega,?_,by dsimp only;omega,by dsimp only;omega⟩ (by dsimp only;omega))
   dsimp only
   rw [hd,q1o,if_pos h2.2] at hq
   exact hq
  ·refine q02 ⟨?_,rfl⟩
   rw [fin q]
   simp only [Bool.and_eq_false_iff,decide_eq_false_iff_not] at h2
   rw [← hq]
   rcases h2 with h2 | h2
   ·have:ks.drop i=[]:=List.drop_of_length_le (by omega)
    rw [this];rfl
   ·rw [q7z h2]
def q8e (most:Int):List Rl→Int→Option Int
 | [],n=>some n
 | r :: rs,n=>if 0<n then (if most<r.refs.length∨(100:Int)<r.name.size then none else q8e most rs (q1f r.ex (n-r.refs.length))) else some n
def typsW (most:Int):List Ty→Int→Option Int
 | [],n=>some n
 | t :: ts,n=>if 0<n then (if (100:Int)<t.name.size then none else (q8e most t.rels n).bind (typsW most ts)) else some n
def fewF (s:List Ty) (most:Int):Bool:=match typsW most s (most-s.length) with
 | some n=>decide (0<n)
 | none=>false
mutual
def esz:Ex→Nat
 | .mk _ _ _ ks=>1+eszL ks
def eszL:List Ex→Nat
 | []=>0
 | e :: r=>esz e+eszL r
end
mutual
theorem weightF_esz:∀ (e:Ex) (m:Int),0<q1f e m→q1f e m=m-esz e
 | .mk _ _ _ ks,m,h=>by
  unfold q1f at h ⊢
  unfold esz
  split at h
  ·omega
  ·rw [if_neg ‹_›]
   have:=weightL_esz ks (m-1) h
   omega
theorem weightL_esz:∀ (l:List Ex) (m:Int),0<q1o l m→q1o l m=m-eszL l
 | [],m,h=>by unfold q1o eszL;omega
 | e :: r,m,h=>by
  unfold q1o at h ⊢
  unfold eszL
  split at h
  ·rw [if_pos ‹_›]
   have h1:=weightL_esz r (q1f e m) h
   have h2:0<q1f e m:=by
    rcases Int.lt_or_le 0 (q1f e m) with h3 | h3
    ·exact h3
    ·rw [q7z (by omega)] at h;omega
   have h4:=weightF_esz e m h2
   omega
  ·omega
end
def rsz (r:Rl):Nat:=r.refs.length+esz r.ex
theorem relsW_le {most:Int}:∀ {l:List Rl} {n n':Int},q8e most l n=some n'→0<n'→n'=n-(l.map rsz).sum
 | [],n,n',h,hp=>by simp only [q8e,Option.some.injEq] at h;subst h;simp
 | r :: l,n,n',h,hp=>by
  simp only [q8e] at h
  split at h
  ·split at h
   ·cases h
   ·have h1:=relsW_le h hp
    have h2:0<q1f r.ex (n-r.refs.length):=by
     have:0≤((l.map rsz).sum:Int):=by exact_mod_cast Nat.zero_le _
     omega
    have h3:=weightF_esz _ _ h2
    simp only [List.map_cons,List.sum_cons,rsz]
    push_cast
    omega
  ·simp only [Option.some.injEq] at h;omega
def tsz (t:Ty):Nat:=(t.rels.map rsz).sum
theorem typsW_le {most:Int}:∀ {l:List Ty} {n n':Int},typsW most l n=some n'→0<n'→n'=n-(l.map tsz).sum
 | [],n,n',h,hp=>by simp only [typsW,Option.some.injEq] at h;subst h;simp
 | t :: l,n,n',h,hp=>by
  simp only [typsW] at h
  split at h
  ·split at h
   ·cases h
   ·cases h1:q8e most t.rels n with
    | none=>rw [h1] at h;cases h
    | some n1=>
     rw [h1] at h
     have h2:=typsW_le (n:=n1) h hp
     have h3:0<n1:=by
      have:0≤((l.map tsz).sum:Int):=by exact_mod_cast Nat.zero_le _
      omega
     have h4:=relsW_le h1 h3
     simp only [List.map_cons,List.sum_cons,tsz]
     push_cast
     have h5:((l.map tsz).sum:Int)=((l.map fun t=>(t.rels.map rsz).sum).sum:Nat):=rfl
     omega
  ·simp only [Option.some.injEq] at h;omega
def ssz (s:List Ty):Nat:=s.length+(s.map tsz).sum
theorem few_size {s:List Ty} {most:Int} (h:fewF s most=true):(ssz s:Int)<most:=by
 unfold fewF at h
 split at h
 ·rename_i n hn
  have h1:0<n:=by simpa using h
  have:=typsW_le hn h1
  unfold ssz
  push_cast
  omega
 ·cases h
theorem q0z {α:Type} {l:List α} {i:Nat} {x:α} (h:l[i]?=some x):l.drop i=x :: l.drop (i+1):=by
 obtain ⟨h1,h2⟩:=List.getElem?_eq_some_iff.1 h
 rw [← h2]
 exact List.drop_eq_getElem_cons h1
theorem q37 {α:Type} {l:List α} {i:Nat} (h:¬ (i:Int)<l.length):l.drop i=[]:=List.drop_of_length_le (by omega)
theorem relsW_stop {most:Int} {l:List Rl} {n:Int} (h:¬ 0<n):q8e most l n=some n:=by
 cases l with
 | nil=>rfl
 | cons e r=>rw [q8e,if_neg h]
theorem typsW_stop {most:Int} {l:List Ty} {n:Int} (h:¬ 0<n):typsW most l n=some n:=by
 cases l with
 | nil=>rfl
 | cons e r=>rw [typsW,if_neg h]
theorem c_law11_Few {s:List Ty} (hs:OkS s) {most:Int} (hm0:0≤most) (hm1:most≤1000):AFun PG nrx46 [scA s,.int .i64 most] (.bool (fewF s most)):=by
 intro S
 have hb:=hs.types
 refine wx46 ?_
 unfold Bx46
 (try simp only [rwp,hwR,zA,zB,zC,zD,zE,zF,zG,zH,zI,scA])
 (simp (disch:=omega) only [q03])
 refine LoopP.intro (fun p:Nat×Int=>[(1,.int .i64 most),(2,.rop [.sl 2 (s.map tyC)]),(5,.int .i64 p.2),(6,.int .i64 p.1)]) (fun _=>S) (fun p=>p.1≤s.length∧typsW most (s.drop p.1) p.2=typsW most s (most-s.length)∧p.2≤most∧-1125899906842624≤p.2) (fun p=>s.length-p.1) (0,most-s.length) ⟨by omega,rfl,by dsimp only;omega,by dsimp only;omega⟩ rfl (Sub.refl S) ?_
 rintro ⟨i,n⟩ ⟨hi,hn,hn1,hn2⟩ k hk
 dsimp only at hi hn hn1 hn2
 (try simp only [rwp,hwR,zA,zB,zC,zD,zE,zF,zG,zH,zI,C46_1,C46_2])
 (refine q04 (fun h1=>?_) (fun h1=>?_)<;>(try simp only [rwp,hwR,zA,zB,zC,zD,zE,zF,zG,zH,zI,h1]))
 ·simp only [Bool.and_eq_true,decide_eq_true_eq] at h1
  obtain ⟨t,ht⟩:=q0s h1.1
  have hok:=hs.at ht
  have hb1:=hok.rels
  have hb2:=hok.name
  rw [q0z ht,typsW,if_pos h1.2] at hn
  (try simp only [rwp,hwR,zA,zB,zC,zD,zE,zF,zG,zH,zI,ht,tyC])
  (refine q04 (fun h2=>?_) (fun h2=>?_)<;>(try simp only [hlc] at h2))
  ·rw [if_pos h2] at hn
   exact q02 ⟨by rw [fewF,← hn],rfl⟩
  rw [if_neg h2] at hn
  refine LoopP.intro (fun p:Nat×Int=>[(1,.int .i64 most),(2,.rop [.sl 2 (s.map tyC)]),(5,.int .i64 p.2),(6,.int .i64 i),(7,.int .i64 p.1)]) (fun _=>S) (fun p=>p.1≤t.rels.length∧q8e most (t.rels.drop p.1) p.2=q8e most t.rels n∧p.2≤most∧-1125899906842624≤p.2) (fun p=>t.rels.length-p.1) (0,n) ⟨by omega,rfl,by dsimp only;omega,by dsimp only;omega⟩ rfl (Sub.refl S) ?_
  rintro ⟨j,q⟩ ⟨hj,hq,hq1,hq2⟩ k2 hk2
  dsimp only at hj hq hq1 hq2
  (try simp only [rwp,hwR,zA,zB,zC,zD,zE,zF,zG,zH,zI,C46_3,C46_4,ht,tyC])
  (refine q04 (fun h3=>?_) (fun h3=>?_)<;>(try simp only [rwp,hwR,zA,zB,zC,zD,zE,zF,zG,zH,zI,h3]))
  ·simp only [Bool.and_eq_true,decide_eq_true_eq] at h3
   obtain ⟨r,hr⟩:=q0s h3.1
   have hokr:=hok.at hr
   have hb3:=hokr.refs
   have hb4:=hokr.name
   rw [q0z hr,q8e,if_pos h3.2] at hq
   (try simp only [rwp,hwR,zA,zB,zC,zD,zE,zF,zG,zH,zI,hr,q0g,C46_5])
   (refine q04 (fun h4=>?_) (fun h4=>?_)<;>(try simp only [rwp,hwR,zA,zB,zC,zD,zE,zF,zG,zH,zI,h4]))
   ·rw [if_pos (by simpa using h4)] at hq
    rw [← hq] at hn
    exact q02 ⟨by rw [fewF,← hn];rfl,rfl⟩
   have h4':¬ (most<r.refs.length∨(100:Int)<r.name.size):=by simpa using h4
   rw [if_neg h4'] at hq
   (simp (disch:=omega) only [q03])
   rw [← q0f]
   have hw:=q7c r.ex (q-r.refs.length)
   refine q05 (c_law11_weight r.ex hokr.ex (q-r.refs.length) (by omega) (by omega)) ?_
   (try simp only [rwp,hwR,zA,zB,zC,zD,zE,zF,zG,zH,zI])
   exact q09 rfl (hk2 (j+1,q1f r.ex (q-r.refs.length)) ⟨by dsimp only;omega,hq,by dsimp only;omega,by dsimp only;omega⟩ (by dsimp only;omega))
  ·have hend:q8e most (t.rels.drop j) q=some q:=by
    simp only [Bool.and_eq_false_iff,decide_eq_false_iff_not] at h3
    rcases h3 with h3 | h3
    ·rw [q37 h3];rfl
    ·exact relsW_stop h3
   rw [hend] at hq
   rw [← hq] at hn
   (simp (disch:=omega) only [q03])
   exact q09 rfl (hk (i+1,q) ⟨by dsimp only;omega,by dsimp only;rw [← hn];rfl,hq1,hq2⟩ (by dsimp only;omega))
 ·have hend:typsW most (s.drop i) n=some n:=by
   simp only [Bool.and_eq_false_iff,decide_eq_false_iff_not] at h1
   rcases h1 with h1 | h1
   ·rw [q37 h1];rfl
   ·exact typsW_stop h1
  rw [hend] at hn
  exact q02 ⟨by rw [fewF,← hn],rfl⟩
theorem q60 {α:Type} {p:α→Bool} {x:α}:∀ {l:List α},q0t p (l++[x])=match q0t p l with
  | some i=>some i
  | none=>if p x then some l.length else none
 | []=>by
  simp only [List.nil_append,q0t,List.length_nil]
  split<;>rfl
 | y :: r=>by
  have ih:=q60 (p:=p) (x:=x) (l:=r)
  simp only [List.cons_append,q0t,ih]
  by_cases hy:p y=true
  ·simp [hy]
  ·simp only [hy,if_false,Bool.false_eq_true]
   cases q0t p r with
   | some i=>rfl
   | none=>
    by_cases hx:p x=true<;>simp [hx]
theorem q0w {α:Type} {l:List α} {i:Nat} {x:α} (h:l[i]?=some x):l.take (i+1)=l.take i++[x]:=by
 rw [List.take_add_one,h];rfl
theorem typF_snoc {ts:List Ty} {t:Ty} {n:ByteArray}:typF (ts++[t]) n=match typF ts n with
  | some i=>some i
  | none=>if t.name=n then some ts.length else none:=by
 unfold typF
 rw [q60]
 cases q0t (fun t=>decide (t.name=n)) ts with
 | some i=>rfl
 | none=>by_cases h:t.name=n<;>simp [h]
theorem relIn_snoc {ts:List Rl} {t:Rl} {n:ByteArray}:q4z (ts++[t]) n=match q4z ts n with
  | some i=>some i
  | none=>if t.name=n then some ts.length else none:=by
 unfold q4z
 rw [q60]
 cases q0t (fun t=>decide (t.name=n)) ts with
 | some i=>rfl
 | none=>by_cases h:t.name=n<;>simp [h]
abbrev MS:Bool×List EK:=(false,[.str])
abbrev iv (i:Nat):AV:=.int .i64 (i:Int)
structure IxB (S:q00) (b1 b2:Nat) (B:Nat→Nat) (ts:List Ty):Prop where
 typs:KMap MS AV.str S b1 (fun n=>(typF ts n).map iv)
 rels:KMap MS AV.str S b2 (fun n=>(typF ts n).map fun i=>.map (some (B i)))
 each:∀ n i t,typF ts n=some i→ts[i]?=some t→KMap MS AV.str S (B i) (fun m=>(q4z t.rels m).map iv)
def IxS (S:q00) (b1 b2:Nat) (s:List Ty):Prop:=∃ B,IxB S b1 b2 B s
abbrev ixP (s:List Ty) (b1 b2:Nat):AV:=.rop [.sl 2 (s.map tyC),.map (some b1),.map (some b2)]
theorem IxS.sub {S S':q00} {b1 b2:Nat} {s:List Ty} (h:IxS S b1 b2 s) (hs:Sub S S'):IxS S' b1 b2 s:=by
 obtain ⟨B,h1,h2,h3⟩:=h
 exact ⟨B,h1.sub hs,h2.sub hs,fun n i t hn ht=>(h3 n i t hn ht).sub hs⟩
theorem q5b {s:List Ty} (hs:OkS s) (S:q00):ACalls PG nrx91 [scA s] S fun ae S'=>∃ b1 b2,ae=.ret (ixP s b1 b2)∧IxS S' b1 b2 s∧Sub S S':=by
 have hb:=hs.types
 refine wx91 ?_
 unfold Bx91
 (try simp only [rwp,hwR,zA,zB,zC,zD,zE,zF,zG,zH,zI,scA])
 refine KMap.mm (enc:=AV.str) fun b1 hb1 m1=>?_
 refine KMap.mm (enc:=AV.str) fun b2 hb2 m2=>?_
 have hne:b2≠b1:=fun e=>m1.is (e ▸ hb2)
 have m1:=m1.fresh hb2 (.map MS [] 0)
 have hsub:Sub S (supd (supd S b1 (.map MS [] 0)) b2 (.map MS [] 0)):=(Sub.fresh _ hb1).trans (Sub.fresh _ hb2)
 (try simp only [rwp,hwR,zA,zB,zC,zD,zE,zF,zG,zH,zI])
 have hb2':sget S b2=none:=by rw [q01,if_neg (Ne.symm hne)] at hb2;exact hb2
 generalize supd (supd S b1 (.map MS [] 0)) b2 (.map MS [] 0)=S0 at m1 m2 hsub
 refine LoopP.introS (fun i:Nat=>[(3,ixP s b1 b2),(18,.sl 2 (s.map tyC)),(19,.int .i64 s.length),(20,.int .i64 i)]) (fun i S'=>i≤s.length∧Sub S S'∧∃ B,IxB S' b1 b2 B (s.take i)∧∀ n j,typF (s.take i) n=some j→B j≠b1∧B j≠b2) (fun i=>s.length-i) 0 ⟨by omega,hsub,fun _=>0,?_,fun n j h=>by cases h⟩ rfl ?_
 ·rw [List.take_zero]
  exact ⟨m1,m2,fun n i t h=>by cases h⟩
 rintro i S1 ⟨hi,hsub1,B,I,hB⟩ r hr
 (try simp only [rwp,hwR,zA,zB,zC,zD,zE,zF,zG,zH,zI,C91_1])
 (refine q04 (fun hlt=>?_) (fun hlt=>?_)<;>(try simp only [hlc] at hlt))
 ·obtain ⟨t,ht⟩:=q0s hlt
  have hok:=hs.at ht
  have hbr:=hok.rels
  (try simp only [rwp,hwR,zA,zB,zC,zD,zE,zF,zG,zH,zI,ht])
  refine alst rfl ?_
  (try simp only [rwp,hwR,zA,zB,zC,zD,zE,zF,zG,zH,zI,tyC])
  rw [I.typs.lk q3u]
  have hlen:(s.take i).length=i:=by simp;omega
  have htk:=q0w ht
  cases hq:typF (s.take i) t.name with
  | some j=>
   (try simp only [rwp,hwR,zA,zB,zC,zD,zE,zF,zG,zH,zI])
   (simp (disch:=omega) only [q03])
   refine q09 rfl (hr (i+1) S1 ⟨by omega,hsub1,B,?_⟩ (by omega))
   rw [htk]
   have hsame:∀ n,typF (s.take i++[t]) n=typF (s.take i) n:=fun n=>by
    rw [typF_snoc]
    cases h:typF (s.take i) n with
    | some k=>rfl
    | none=>
     have:¬ t.name=n:=by rintro rfl;rw [hq] at h;cases h
     simp [this]
   refine ⟨⟨I.typs.cong fun n=>by rw [hsame],I.rels.cong fun n=>by rw [hsame],fun n k u hn hu=>?_⟩,fun n k hn=>hB n k (by rw [← hsame];exact hn)⟩
   rw [hsame] at hn
   have hk:=q4v hn
   rw [List.getElem?_append_left hk] at hu
   exact I.each n k u hn hu
  | none=>
   (try simp only [rwp,hwR,zA,zB,zC,zD,zE,zF,zG,zH,zI])
   refine I.typs.mu q3u t.name fun es clk k1=>?_
   have hs2:=hsub1.supd (o:=.map MS es clk) hb1
   have k2:=I.rels.upd (Ne.symm hne) (.map MS es clk)
   have k3:=fun n j u hn hu=>(I.each n j u hn hu).upd (Ne.symm (hB n j hn).1) (.map MS es clk)
   generalize supd S1 b1 (.map MS es clk)=S2 at k1 k2 k3 hs2
   refine KMap.mm (enc:=AV.str) fun b hbf k4=>?_
   have hb':=Sub.none hs2 hbf
   have hs3:=hs2.supd (o:=.map MS [] 0) hb'
   have d1:b≠b1:=fun e=>k1.is (e ▸ hbf)
   have d2:b≠b2:=fun e=>k2.is (e ▸ hbf)
   have d3:∀ n j,typF (s.take i) n=some j→B j≠b:=fun n j hn e=>by
    have hj:=q4v hn
    exact (k3 n j _ hn (List.getElem?_eq_getElem hj)).is (e ▸ hbf)
   have k1:=k1.fresh hbf (.map MS [] 0)
   have k2:=k2.fresh hbf (.map MS [] 0)
   have k3:=fun n j u hn hu=>(k3 n j u hn hu).fresh hbf (.map MS [] 0)
   generalize supd S2 b (.map MS [] 0)=S3 at k1 k2 k3 k4 hs3
   refine k2.mu q3u t.name fun es2 clk2 k2=>?_
   have hs4:=hs3.supd (o:=.map MS es2 clk2) hb2'
   have k1:=k1.upd hne (.map MS es2 clk2)
   have k3:=fun n j u hn hu=>(k3 n j u hn hu).upd (Ne.symm (hB n j hn).2) (.map MS es2 clk2)
   have k4:=k4.upd (Ne.symm d2) (.map MS es2 clk2)
   generalize supd S3 b2 (.map MS es2 clk2)=S4 at k1 k2 k3 k4 hs4
   have e1:∀ n,typF (s.take i++[t]) n=if n=t.name then some i else typF (s.take i) n:=fun n=>by
    rw [typF_snoc,hlen]
    by_cases h:n=t.name
    ·subst h;simp [hq]
    ·rw [if_neg h,if_neg (Ne.symm h)]
     cases typF (s.take i) n<;>rfl
   have k1:KMap MS AV.str S4 b1 (fun n=>(typF (s.take i++[t]) n).map iv):=k1.cong fun n=>by
    rw [e1]
    by_cases h:n=t.name<;>simp [h]
   have k2:KMap MS AV.str S4 b2 (fun n=>(typF (s.take i++[t]) n).map fun j=>.map (some (if j=i then b else B j))):=k2.cong fun n=>by
    rw [e1]
    by_cases h:n=t.name
    ·simp [h]
    ·simp only [if_neg h]
     cases hc:typF (s.take i) n with
     | none=>rfl
     | some j=>
      have:=q4v hc
      simp [show ¬ j=i by omega]
   (try simp only [rwp,hwR,zA,zB,zC,zD,zE,zF,zG,zH,zI])
   refine LoopP.introS (fun k:Nat=>[(3,ixP s b1 b2),(5,.rop [.str t.name,.sl 6 (t.rels.map rlC)]),(18,.sl 2 (s.map tyC)),(19,.int .i64 s.length),(20,.int .i64 i),(51,.sl 6 (t.rels.map rlC)),(52,.int .i64 t.rels.length),(53,.int .i64 k)]) (fun k S'=>k≤t.rels.length∧Sub S S'∧KMap MS AV.str S' b1 (fun n=>(typF (s.take i++[t]) n).map iv)∧KMap MS AV.str S' b2 (fun n=>(typF (s.take i++[t]) n).map fun j=>.map (some (if j=i then b else B j))) ∧
    (∀ n j u,typF (s.take i) n=some j→(s.take i)[j]?=some u→KMap MS AV.str S' (B j) (fun m=>(q4z u.rels m).map iv))∧KMap MS AV.str S' b (fun m=>(q4z (t.rels.take k) m).map iv)) (fun k=>t.rels.length-k) 0 ⟨by omega,hs4,k1,k2,k3,k4⟩ rfl ?_
   rintro k S5 ⟨hk,hs5,k1,k2,k3,k4⟩ r2 hr2
   (try simp only [rwp,hwR,zA,zB,zC,zD,zE,zF,zG,zH,zI,C91_2])
   (refine q04 (fun hlt2=>?_) (fun hlt2=>?_)<;>(try simp only [hlc] at hlt2))
   ·obtain ⟨q,hqr⟩:=q0s hlt2
    have hlk:(t.rels.take k).length=k:=by simp;omega
    have htq:=q0w hqr
    (try simp only [rwp,hwR,zA,zB,zC,zD,zE,zF,zG,zH,zI,hqr])
    refine alst rfl ?_
    (try simp only [rwp,hwR,zA,zB,zC,zD,zE,zF,zG,zH,zI,q0g])
    rw [k2.lk q3u,e1,if_pos rfl]
    simp only [Option.map_some,if_true,q53]
    rw [k4.lk q3u]
    cases hrq:q4z (t.rels.take k) q.name with
    | some m=>
     (try simp only [rwp,hwR,zA,zB,zC,zD,zE,zF,zG,zH,zI])
     (simp (disch:=omega) only [q03])
     refine q09 rfl (hr2 (k+1) S5 ⟨by omega,hs5,k1,k2,k3,k4.cong fun n=>?_⟩ (by omega))
     rw [htq,relIn_snoc]
     cases h:q4z (t.rels.take k) n with
     | some m=>rfl
     | none=>
      have:¬ q.name=n:=by rintro rfl;rw [hrq] at h;cases h
      simp [this]
    | none=>
     (try simp only [rwp,hwR,zA,zB,zC,zD,zE,zF,zG,zH,zI])
     rw [k2.lk q3u,e1,if_pos rfl]
     simp only [Option.map_some,if_true,q53]
     refine k4.mu q3u q.name fun es3 clk3 k4=>?_
     (try simp only [rwp,hwR,zA,zB,zC,zD,zE,zF,zG,zH,zI])
     (simp (disch:=omega) only [q03])
     refine q09 rfl (hr2 (k+1) _ ⟨by omega,hs5.supd hb',k1.upd d1 _,k2.upd d2 _,fun n j u hn hu=>(k3 n j u hn hu).upd (Ne.symm (d3 n j hn)) _,k4.cong fun n=>?_⟩ (by omega))
     rw [htq,relIn_snoc,hlk]
     by_cases h:n=q.name
     ·subst h;simp [hrq]
     ·simp only [if_neg h,if_neg (Ne.symm h)]
      cases q4z (t.rels.take k) n<;>rfl
   ·have hend:t.rels.take k=t.rels:=List.take_of_length_le (by omega)
    rw [hend] at k4
    (simp (disch:=omega) only [q03])
    refine q09 rfl (hr (i+1) S5 ⟨by omega,hs5,fun j=>if j=i then b else B j,?_⟩ (by omega))
    rw [htk]
    refine ⟨⟨k1,k2,fun n j u hn hu=>?_⟩,fun n j hn=>?_⟩
    ·rw [e1] at hn
     split at hn
     ·cases hn
      rw [List.getElem?_append_right (by omega),hlen,Nat.sub_self] at hu
      simp at hu
      subst hu
      simp only [if_true]
      exact k4
     ·have hj:=q4v hn
      rw [List.getElem?_append_left hj] at hu
      simp only [if_neg (show ¬ j=i by omega)]
      exact k3 n j u hn hu
    ·rw [e1] at hn
     split at hn
     ·cases hn;simp only [if_true];exact ⟨d1,d2⟩
     ·have hj:=q4v hn
      simp only [if_neg (show ¬ j=i by omega)]
      exact hB n j hn
 ·have hend:s.take i=s:=List.take_of_length_le (by omega)
  rw [hend] at I
  exact q02 ⟨b1,b2,rfl,⟨B,I⟩,hsub1⟩
def fiN (s:List Ty) (t n:ByteArray):Nat×Nat:=((typF s t).getD 0,(relF s (typF s t) n).getD 0)
def fiB (s:List Ty) (t n:ByteArray):Bool:=(relF s (typF s t) n).isSome
theorem q6t {s:List Ty} {t n:ByteArray}:fiB s t n=(q0o s t n).isSome:=by
 unfold fiB
 rw [findF_rel]
 cases q0o s t n<;>rfl
theorem q6s {s:List Ty} {t n:ByteArray} {i k:Nat} {r:Rl} (h:q0o s t n=some (i,k,r)):fiN s t n=(i,k):=by
 obtain ⟨h1,-⟩:=q23 h
 unfold fiN
 rw [findF_rel,h,h1]
 rfl
theorem q1s {s:List Ty} {S:q00} {b1 b2:Nat} (I:IxS S b1 b2 s) (t n:ByteArray):AFunS PG nrx96 [ixP s b1 b2,.str t,.str n] S (.tup [q1i (fiN s t n),.bool (fiB s t n)]):=by
 obtain ⟨B,I⟩:=I
 refine wx96 ?_
 unfold Bx96
 intro b hb
 have hS:∀ o,Sub S (supd S b o):=fun o=>Sub.fresh o hb
 (try simp only [rwp,hwR,zA,zB,zC,zD,zE,zF,zG,zH,zI])
 rw [(I.typs.fresh hb _).lk q3u]
 cases hq:typF s t with
 | none=>
  (try simp only [rwp,hwR,zA,zB,zC,zD,zE,zF,zG,zH,zI])
  rw [(I.rels.fresh hb _).lk q3u,hq]
  (try simp only [rwp,hwR,zA,zB,zC,zD,zE,zF,zG,zH,zI])
  refine q0y S (by rw [q2n hb];exact Sub.refl S) ?_
  (try simp only [rwp,hwR,zA,zB,zC,zD,zE,zF,zG,zH,zI])
  simp [q1i,fiN,fiB,hq,relF]
 | some i=>
  have hi:=q4v hq
  (try simp only [rwp,hwR,zA,zB,zC,zD,zE,zF,zG,zH,zI])
  rw [(I.rels.fresh hb _).lk q3u,hq]
  (try simp only [rwp,hwR,zA,zB,zC,zD,zE,zF,zG,zH,zI])
  rw [((I.each t i s[i] hq (List.getElem?_eq_getElem hi)).fresh hb _).lk q3u]
  have hr:relF s (typF s t) n=q4z s[i].rels n:=by simp [relF,hq,List.getElem?_eq_getElem hi]
  rw [hq] at hr
  cases hk:q4z s[i].rels n with
  | none=>
   (try simp only [rwp,hwR,zA,zB,zC,zD,zE,zF,zG,zH,zI])
   refine q0y S (by rw [q2n hb];exact Sub.refl S) ?_
   (try simp only [rwp,hwR,zA,zB,zC,zD,zE,zF,zG,zH,zI])
   simp [q1i,fiN,fiB,hq,hr,hk]
  | some k=>
   (try simp only [rwp,hwR,zA,zB,zC,zD,zE,zF,zG,zH,zI])
   refine q0y S (by rw [q2n hb];exact Sub.refl S) ?_
   (try simp only [rwp,hwR,zA,zB,zC,zD,zE,zF,zG,zH,zI])
   simp [q1i,fiN,fiB,hq,hr,hk]
theorem q5j {s:List Ty} {b1 b2 i k:Nat} {t:Ty} {r:Rl} (ht:s[i]?=some t) (hr:t.rels[k]?=some r):AFun PG nrx97 [ixP s b1 b2,q1i (i,k)] (.agg (rlC r)):=by
 intro S
 refine wx97 ?_
 unfold Bx97
 (try simp only [rwp,hwR,zA,zB,zC,zD,zE,zF,zG,zH,zI,q1i])
 intro b hb
 (try simp only [rwp,hwR,zA,zB,zC,zD,zE,zF,zG,zH,zI,ht,hr,tyC,q0g])
 refine q0y S (by rw [q2n hb];exact Sub.refl S) ?_
 (try simp only [rwp,hwR,zA,zB,zC,zD,zE,zF,zG,zH,zI])<;>exact ⟨by rw [q0g],rfl⟩
theorem q1g {s:List Ty} (hs:OkS s) (t n:ByteArray) (S:q00):ACalls PG nrx48 [scA s,.str t,.str n] S fun ae S'=>ae=.ret (match q0o s t n with
  | some (_,_,r)=>.tup [.agg (rlC r),.bool true]
  | none=>.tup [.agg zeroR,.bool false])∧S'=S:=by
 refine wx48 ?_
 unfold Bx48
 (try simp only [rwp,hwR,zA,zB,zC,zD,zE,zF,zG,zH,zI,scA])
 intro b hb
 (try simp only [rwp,hwR,zA,zB,zC,zD,zE,zF,zG,zH,zI])
 refine q0c (q5b hs _) ?_
 rintro _ S1 ⟨b1,b2,rfl,I,hsub⟩
 have hsb:=hsub b _ (by rw [q01,if_pos rfl])
 have hS1:Sub S S1:=(Sub.fresh _ hb).trans hsub
 dsimp only
 refine q1l (q1s I t n) ?_
 (try simp only [rwp,hwR,zA,zB,zC,zD,zE,zF,zG,zH,zI,q1i])
 rw [q6t]
 cases hq:q0o s t n with
 | none=>
  (try simp only [rwp,hwR,zA,zB,zC,zD,zE,zF,zG,zH,zI,objAt_some.2 hsb])
  refine q0y S (hS1.supd hb) ?_
  (try simp only [rwp,hwR,zA,zB,zC,zD,zE,zF,zG,zH,zI])
  exact rfl
 | some q=>
  obtain ⟨i,k,r⟩:=q
  obtain ⟨h1,ty,h2,h3,h4⟩:=q23 hq
  rw [q6s hq]
  (try simp only [rwp,hwR,zA,zB,zC,zD,zE,zF,zG,zH,zI])
  refine q05 (q5j h2 h4) ?_
  (try simp only [rwp,hwR,zA,zB,zC,zD,zE,zF,zG,zH,zI,objAt_some.2 hsb,q0g])
  refine q0y S (hS1.supd hb) ?_
  (try simp only [rwp,hwR,zA,zB,zC,zD,zE,zF,zG,zH,zI,q0g])
mutual
/-- The leaves of an expression, from the left, and whether they are left out. -/
def q1a:Ex→Bool→List (Ex×Bool)
 | .mk k n o ks,out=>if ks.isEmpty then [(.mk k n o ks,out)] else q2d k 0 ks out
def q2d:Int→Nat→List Ex→Bool→List (Ex×Bool)
 | _,_,[],_=>[]
 | k,i,e :: r,out=>q1a e (out||(decide (k=4)&&decide ((i:Int)=1)))++q2d k (i+1) r out
end
def q21 {α:Type} (f:α→Ex→Bool→Bool×α):List (Ex×Bool)→α→Bool×α
 | [],a=>(true,a)
 | (e,o) :: r,a=>match f a e o with
  | (true,a')=>q21 f r a'
  | (false,a')=>(false,a')
theorem foldA_app {α:Type} {f:α→Ex→Bool→Bool×α}:∀ {l r:List (Ex×Bool)} {a:α},q21 f (l++r) a=match q21 f l a with
  | (true,a')=>q21 f r a'
  | (false,a')=>(false,a')
 | [],r,a=>rfl
 | (e,o) :: l,r,a=>by
  simp only [List.cons_append,q21]
  cases f a e o with
  | mk b a'=>cases b with
   | true=>exact foldA_app
   | false=>rfl
theorem foldA_snoc {α:Type} {f:α→Ex→Bool→Bool×α} {l:List (Ex×Bool)} {p:Ex×Bool} {a:α} (h:(q21 f l a).1=true):q21 f (l++[p]) a=f (q21 f l a).2 p.1 p.2:=by
 rw [foldA_app]
 cases hq:q21 f l a with
 | mk b a'=>
  rw [hq] at h
  dsimp only at h
  subst h
  obtain ⟨e,o⟩:=p
  simp only [q21]
  cases hf:f a' e o with
  | mk c a2=>cases c<;>rfl
theorem foldA_stop {α:Type} {f:α→Ex→Bool→Bool×α} {l r:List (Ex×Bool)} {a:α} (h:(q21 f l a).1=false):q21 f (l++r) a=q21 f l a:=by
 rw [foldA_app]
 cases hq:q21 f l a with
 | mk b a'=>
  rw [hq] at h
  dsimp only at h
  subst h
  rfl
theorem q6z {α:Type} (I:α→q00→Prop) (f:α→Ex→Bool→Bool×α) {g:Nat} {fi ca:List AV} (T:List (Ex×Bool)) (a0:α)
  (hcb:∀ l1 p l2,T=l1++p :: l2→(q21 f l1 a0).1=true→∀ (S:q00),OkE p.1→I (q21 f l1 a0).2 S→ACalls PG g (fi++[.agg (exC p.1),.bool p.2]++ca) S fun ae S'=>ae=.ret (.bool (f (q21 f l1 a0).2 p.1 p.2).1)∧I (f (q21 f l1 a0).2 p.1 p.2).2 S') :
  ∀ (e:Ex),OkE e→∀ (out:Bool) (l0 l2:List (Ex×Bool)),T=l0++q1a e out++l2→(q21 f l0 a0).1=true→∀ (S:q00),I (q21 f l0 a0).2 S →
   ACalls PG nrx176 [.agg (exC e),.bool out,.func (.func g) fi ca] S fun ae S'=>ae=.ret (.bool (q21 f (l0++q1a e out) a0).1)∧I (q21 f (l0++q1a e out) a0).2 S':=by
 intro e he
 induction he with
 | mk k n o ks hk hn ho hks ih=>
  intro out l0 l2 hT hl0 S hI
  refine wx176 ?_
  unfold Bx176
  (try simp only [rwp,hwR,zA,zB,zC,zD,zE,zF,zG,zH,zI,q0f,Ex.kind,Ex.name,Ex.over,Ex.kids])
  have hok:OkE (.mk k n o ks):=.mk k n o ks hk hn ho hks
  by_cases hnil:ks=[]
  ·subst hnil
   refine LoopP.introS (fun _:Unit=>[(1,.bool out),(2,.func (.func g) fi ca),(3,.rop [.int .i64 k,.str n,.str o,.sl 4 []]),(10,.sl 4 []),(11,.int .i64 0),(12,.int .i64 0)]) (fun _ S'=>S'=S) (fun _=>0) () rfl rfl ?_
   rintro _ S rfl r hr
   (try simp only [rwp,hwR,zA,zB,zC,zD,zE,zF,zG,zH,zI,C176_1,show decide ((0:Int)<0)=false from rfl,show decide (((0:Nat):Int)>0)=false from rfl,show decide (((0:Nat):Int)<((0:Nat):Int))=false from rfl,show decide ((0:Int)<((0:Nat):Int))=false from rfl])
   have hl:q1a (.mk k n o []) out=[(.mk k n o [],out)]:=by simp [q1a]
   rw [hl] at hT ⊢
   have h1:=hcb l0 (.mk k n o [],out) l2 (by rw [hT];simp) hl0 S hok hI
   rw [q0f] at h1
   refine caW_ofv h1 ?_
   rintro _ S' ⟨rfl,hI'⟩
   (try simp only [rwp,hwR,zA,zB,zC,zD,zE,zF,zG,zH,zI])
   rw [foldA_snoc hl0]
   exact q02 ⟨rfl,hI'⟩
  ·have hl:q1a (.mk k n o ks) out=q2d k 0 ks out:=by
    cases ks with
    | nil=>exact absurd rfl hnil
    | cons x r=>simp [q1a]
   rw [hl] at hT ⊢
   generalize hL:l0++q2d k 0 ks out=L at hT ⊢
   refine LoopP.introS (fun p:Nat×List (Ex×Bool)=>[(1,.bool out),(2,.func (.func g) fi ca),(3,.rop [.int .i64 k,.str n,.str o,.sl 4 (ks.map exC)]),(10,.sl 4 (ks.map exC)),(11,.int .i64 ks.length),(12,.int .i64 p.1)])
    (fun p S'=>p.1≤ks.length∧(q21 f p.2 a0).1=true∧I (q21 f p.2 a0).2 S'∧p.2++q2d k p.1 (ks.drop p.1) out=L) (fun p=>ks.length-p.1) (0,l0) ⟨by omega,hl0,hI,hL⟩ rfl ?_
   rintro ⟨i,lp⟩ S1 ⟨hi,hlp,hI1,hf1⟩ r hr
   dsimp only at hi hlp hI1 hf1
   (try simp only [rwp,hwR,zA,zB,zC,zD,zE,zF,zG,zH,zI,C176_1])
   (refine q04 (fun hlt=>?_) (fun hlt=>?_)<;>(try simp only [hlc] at hlt))
   ·obtain ⟨x,hx⟩:=q0s hlt
    rw [q0z hx,q2d] at hf1
    (try simp only [rwp,hwR,zA,zB,zC,zD,zE,zF,zG,zH,zI,hx])
    refine alst rfl ?_
    (try simp only [rwp,hwR,zA,zB,zC,zD,zE,zF,zG,zH,zI,q0f,q18])
    rw [← q0f]
    have fin:∀ o2,o2=(out||(decide (k=4)&&decide ((i:Int)=1)))→C176_4 (fun ae S'=>ae=.ret (.bool (q21 f L a0).1)∧I (q21 f L a0).2 S') r (.bool out) (.func (.func g) fi ca) (.rop [.int .i64 k,.str n,.str o,.sl 4 (ks.map exC)]) (.sl 4 (ks.map exC)) (.int .i64 ks.length) (.int .i64 i) (.agg (exC x)) (.bool o2) S1:=by
     intro o2 ho2
     unfold C176_4
     rw [← ho2,← List.append_assoc] at hf1
     refine q0c (ih x (List.mem_of_getElem? hx) o2 lp (q2d k (i+1) (ks.drop (i+1)) out++l2) (by rw [hT,← hf1];simp) hlp S1 hI1) ?_
     rintro _ S' ⟨rfl,h2⟩
     (try simp only [rwp,hwR,zA,zB,zC,zD,zE,zF,zG,zH,zI])
     cases hq:(q21 f (lp++q1a x o2) a0).1 with
     | false=>
      (try simp only [rwp,hwR,zA,zB,zC,zD,zE,zF,zG,zH,zI])
      rw [← hf1,foldA_stop hq]
      exact q02 ⟨by rw [hq],h2⟩
     | true=>
      (try simp only [rwp,hwR,zA,zB,zC,zD,zE,zF,zG,zH,zI])
      (simp (disch:=omega) only [q03])
      exact q09 rfl (hr (i+1,lp++q1a x o2) S' ⟨by dsimp only;omega,hq,h2,hf1⟩ (by dsimp only;omega))
    cases a1':out<;>cases a2':decide (k=4)<;>cases a3':decide ((i:Int)=1) <;>
     (try simp only [rwp,hwR,zA,zB,zC,zD,zE,zF,zG,zH,zI,C176_2,C176_3,a1',a2',a3'])<;>(rw [a1'] at fin;exact fin _ (by rw [a2',a3'];rfl))
   ·have h0:decide ((0:Int)<ks.length)=true:=by
     rw [decide_eq_true_eq]
     have:ks.length≠0:=fun h=>hnil (List.length_eq_zero_iff.1 h)
     omega
    rw [q37 hlt] at hf1
    have hf2:lp=L:=by rw [← hf1];simp [q2d]
    subst hf2
    (try simp only [rwp,hwR,zA,zB,zC,zD,zE,zF,zG,zH,zI,h0])
    exact q02 ⟨by rw [hlp],hI1⟩
def q7i (s:List Ty) (refs:List Rf) (name:ByteArray):List (Nat×Nat):=refs.filterMap fun f=>if f.rl=⟨#[]⟩ then (q0o s f.ty name).map fun q=>(q.1,q.2.1) else none
def nodeC (p:Nat×Nat):List AV:=[.int .i64 p.1,.int .i64 p.2]
theorem take_fm {α β:Type} {g:α→Option β} {l:List α} {i:Nat} {x:α} (h:l[i]?=some x):(l.take (i+1)).filterMap g=(l.take i).filterMap g++(g x).toList:=by
 rw [q0w h,List.filterMap_append]
 cases hg:g x<;>simp [hg]
theorem fm_le {α β:Type} {g:α→Option β} {l:List α} {i:Nat}:((l.take i).filterMap g).length≤l.length:=by
 have h1:=List.length_filterMap_le g (l.take i)
 have h2:(l.take i).length≤l.length:=by simp;omega
 omega
theorem q8a {s:List Ty} {S:q00} {b1 b2:Nat} (I:IxS S b1 b2 s) {r:Rl} (hr:OkR r) (hn:r.refs.length≤1000000) (name:ByteArray) :
  AFunS PG nrx180 [ixP s b1 b2,.agg (rlC r),.str name] S (.sl 2 ((q7i s r.refs name).map nodeC)):=by
 refine wx180 ?_
 unfold Bx180
 (try simp only [rwp,hwR,zA,zB,zC,zD,zE,zF,zG,zH,zI,q0g])
 let g:Rf→Option (Nat×Nat):=fun f=>if f.rl=⟨#[]⟩ then (q0o s f.ty name).map fun q=>(q.1,q.2.1) else none
 refine LoopP.introS (fun p:Nat×AV=>[(0,ixP s b1 b2),(2,.str name),(7,p.2),(13,.sl 2 (r.refs.map rfC)),(14,.int .i64 r.refs.length),(15,.int .i64 p.1)])
  (fun p S'=>p.1≤r.refs.length∧Sub S S'∧LstN S S' 163 2 p.2 (((r.refs.take p.1).filterMap g).map nodeC)) (fun p=>r.refs.length-p.1) (0,.nils) ⟨by omega,Sub.refl S,.nil⟩ rfl ?_
 rintro ⟨i,v⟩ S1 ⟨hi,hs,hv⟩ k hk
 dsimp only at hi hv
 (try simp only [rwp,hwR,zA,zB,zC,zD,zE,zF,zG,zH,zI,C180_1])
 (refine q04 (fun hlt=>?_) (fun hlt=>?_)<;>(try simp only [hlc] at hlt))
 ·obtain ⟨f,hf⟩:=q0s hlt
  (try simp only [rwp,hwR,zA,zB,zC,zD,zE,zF,zG,zH,zI,hf,rfC])
  refine q1l (q1s (I.sub hs) f.ty name) ?_
  have htk:=take_fm (g:=g) hf
  have hle:=fm_le (g:=g) (l:=r.refs) (i:=i)
  (try simp only [rwp,hwR,zA,zB,zC,zD,zE,zF,zG,zH,zI,q1i,q6t])
  have skip:g f=none→k [(0,ixP s b1 b2),(2,.str name),(7,v),(13,.sl 2 (r.refs.map rfC)),(14,.int .i64 r.refs.length),(15,.int .i64 ((i:Int)+1))] S1:=fun hg=>by
   refine hk (i+1,v) S1 ⟨by dsimp only;omega,hs,?_⟩ (by dsimp only;omega)
   dsimp only
   rw [htk,hg]
   simpa using hv
  cases hq:q0o s f.ty name with
  | none=>
   (try simp only [rwp,hwR,zA,zB,zC,zD,zE,zF,zG,zH,zI,C180_2])
   (simp (disch:=omega) only [q03])
   exact q09 rfl (skip (by simp only [g,hq];split<;>rfl))
  | some q=>
   obtain ⟨a,b,q⟩:=q
   rw [q6s hq]
   (try simp only [rwp,hwR,zA,zB,zC,zD,zE,zF,zG,zH,zI,C180_2])
   (refine q04 (fun he=>?_) (fun he=>?_)<;>(try simp only [rwp,hwR,zA,zB,zC,zD,zE,zF,zG,zH,zI,he]))
   ·have hg:g f=some (a,b):=by simp only [g,hq];rw [if_pos (by simpa using he)];rfl
    refine hv.app hs (xs:=[nodeC (a,b)]) (fun r hr=>by simp at hr;subst hr;rfl) rfl (by simp only [List.length_map,List.length_cons,List.length_nil];omega) ?_
    intro v' S' h1 h2 _
    (simp (disch:=omega) only [q03])
    refine q09 rfl (hk (i+1,v') S' ⟨by dsimp only;omega,h1,?_⟩ (by dsimp only;omega))
    dsimp only
    rw [htk,hg]
    simpa using h2
   ·(simp (disch:=omega) only [q03])
    exact q09 rfl (skip (by simp only [g,hq];rw [if_neg (by simpa using he)]))
 ·have hend:r.refs.take i=r.refs:=List.take_of_length_le (by omega)
  rw [hend] at hv
  exact q5s hs hv ⟨rfl,rfl⟩
def q8o (s:List Ty) (t:ByteArray) (e:Ex):Int:=match q0o s t e.name with
 | none=>6
 | some (_,_,r)=>if e.kind=0 then 0 else if r.refs.length=0 then 10 else if (q7i s r.refs e.over).length=0 then 6 else 0
def OkN (s:List Ty):Prop:=∀ t∈s,∀ r∈t.rels,rsz r≤1000
theorem findF_mem {s:List Ty} {t n:ByteArray} {i k:Nat} {r:Rl} (h:q0o s t n=some (i,k,r)):∃ ty∈s,r∈ty.rels:=by
 obtain ⟨h1,ty,h2,h3,h4⟩:=q23 h
 exact ⟨ty,List.mem_of_getElem? h2,List.mem_of_getElem? h4⟩
theorem c_rules_atom {s:List Ty} (hs:OkS s) (hN:OkN s) {S:q00} {b1 b2:Nat} (I:IxS S b1 b2 s) (t:ByteArray) (e:Ex):AFunS PG nrx178 [ixP s b1 b2,.str t,.agg (exC e)] S (.int .i64 (q8o s t e)):=by
 refine wx178 ?_
 unfold Bx178
 (try simp only [rwp,hwR,zA,zB,zC,zD,zE,zF,zG,zH,zI,q0f])
 refine q1l (q1s I t e.name) ?_
 (try simp only [rwp,hwR,zA,zB,zC,zD,zE,zF,zG,zH,zI,q1i,q6t])
 cases hq:q0o s t e.name with
 | none=>
  (try simp only [rwp,hwR,zA,zB,zC,zD,zE,zF,zG,zH,zI])
  exact q02 ⟨by rw [q8o,hq],rfl⟩
 | some q=>
  obtain ⟨i,k,r⟩:=q
  obtain ⟨h1,ty,h2,h3,h4⟩:=q23 hq
  have hr:=(hs.at h2).at h4
  have hn:r.refs.length≤1000000:=by
   have:=hN ty (List.mem_of_getElem? h2) r (List.mem_of_getElem? h4)
   unfold rsz at this
   omega
  have key:q8o s t e=if e.kind=0 then 0 else if r.refs.length=0 then 10 else if (q7i s r.refs e.over).length=0 then 6 else 0:=by rw [q8o,hq]
  rw [q6s hq]
  (try simp only [rwp,hwR,zA,zB,zC,zD,zE,zF,zG,zH,zI])
  (refine q04 (fun he=>?_) (fun he=>?_)<;>(try simp only [hlc] at he))
  ·exact q02 ⟨by rw [key,if_pos he],rfl⟩
  refine q05 (q5j h2 h4) ?_
  (try simp only [rwp,hwR,zA,zB,zC,zD,zE,zF,zG,zH,zI,q0g])
  (refine q04 (fun hl=>?_) (fun hl=>?_)<;>(try simp only [hlc] at hl))
  ·exact q02 ⟨by rw [key,if_neg he,if_pos (by omega)],rfl⟩
  refine q05 (q5j h2 h4) ?_
  (try simp only [rwp,hwR,zA,zB,zC,zD,zE,zF,zG,zH,zI])
  refine q1l (q8a I hr hn e.over) ?_
  (try simp only [rwp,hwR,zA,zB,zC,zD,zE,zF,zG,zH,zI])
  (refine q04 (fun h0=>?_) (fun h0=>?_)<;>(try simp only [hlc] at h0))
  ·exact q02 ⟨by rw [key,if_neg he,if_neg (by omega),if_pos (by omega)],rfl⟩
  ·exact q02 ⟨by rw [key,if_neg he,if_neg (by omega),if_neg (by omega)],rfl⟩
def q87 (f:Ex→Int):List (Ex×Bool)→Int
 | []=>0
 | (e,_) :: r=>if f e=0 then q87 f r else f e
def refOkF (s:List Ty) (f:Rf):Bool:=(typF s f.ty).isSome&&(decide (f.rl=⟨#[]⟩)||(q0o s f.ty f.rl).isSome)
def q33 (s:List Ty) (t:ByteArray) (r:Rl):Int:=if r.refs.all (refOkF s) then (if r.refs.length=0 then q87 (q8o s t) (q1a r.ex false) else 0) else 6
theorem c_rules_names_1 {s:List Ty} (hs:OkS s) (hN:OkN s) {S:q00} {b1 b2:Nat} (I:IxS S b1 b2 s) (t:ByteArray) (e:Ex) (o:Bool) {b:Nat} (hb:sget S b=none) (a:Int) :
  ACalls PG nrx177 [.agg (exC e),.bool o,.rop [ixP s b1 b2],.rop [.str t],.ptr b 0] (supd S b (.cells 30 [.int .i64 a] 1)) fun ae S'=>ae=.ret (.bool (decide (q8o s t e=0)))∧S'=supd S b (.cells 30 [.int .i64 (q8o s t e)] 1):=by
 refine wx177 ?_
 unfold Bx177
 (try simp only [rwp,hwR,zA,zB,zC,zD,zE,zF,zG,zH,zI,q0f])
 rw [← q0f]
 refine q1l ((c_rules_atom hs hN I t e).frame hb _) ?_
 (try simp only [rwp,hwR,zA,zB,zC,zD,zE,zF,zG,zH,zI])
 exact q02 ⟨rfl,rfl⟩
theorem foldA_first {f:Ex→Int}:∀ {l:List (Ex×Bool)} {a:Int},a=0→(q21 (fun (_:Int) e (_:Bool)=>(decide (f e=0),f e)) l a).2=q87 f l
 | [],a,h=>h
 | (e,o) :: r,a,h=>by
  simp only [q21,q87]
  by_cases he:f e=0
  ·simp only [he,decide_true,if_true]
   exact foldA_first rfl
  ·simp only [he,decide_false,if_false]
theorem c_rules_names {s:List Ty} (hs:OkS s) (hN:OkN s) {S:q00} {b1 b2:Nat} (I:IxS S b1 b2 s) (t:ByteArray) {r:Rl} (hr:OkR r):AFunS PG nrx140 [ixP s b1 b2,.str t,.agg (rlC r)] S (.int .i64 (q33 s t r)):=by
 have hb:=hr.refs
 refine wx140 ?_
 unfold Bx140
 (try simp only [rwp,hwR,zA,zB,zC,zD,zE,zF,zG,zH,zI,q0g])
 intro b hbf
 (try simp only [rwp,hwR,zA,zB,zC,zD,zE,zF,zG,zH,zI])
 refine LoopP.intro (fun i:Nat=>[(3,.rop [ixP s b1 b2]),(4,.rop [.str t]),(5,.rop [.str r.name,.sl 2 (r.refs.map rfC),.int .i64 r.ex.kind,.str r.ex.name,.str r.ex.over,.sl 4 (r.ex.kids.map exC)]),(7,.ptr b 0),(15,.sl 2 (r.refs.map rfC)),(16,.int .i64 r.refs.length),(17,.int .i64 i)])
  (fun _=>supd S b (.cells 30 [.int .i64 0] 1)) (fun i=>i≤r.refs.length∧∀ j f,j<i→r.refs[j]?=some f→refOkF s f=true) (fun i=>r.refs.length-i) 0 ⟨by omega,by omega⟩ rfl (Sub.refl _) ?_
 rintro i ⟨hi,hn⟩ k hk
 (try simp only [rwp,hwR,zA,zB,zC,zD,zE,zF,zG,zH,zI,C140_1])
 (refine q04 (fun hlt=>?_) (fun hlt=>?_)<;>(try simp only [hlc] at hlt))
 ·obtain ⟨f,hf⟩:=q0s hlt
  have next:refOkF s f=true→k [(3,.rop [ixP s b1 b2]),(4,.rop [.str t]),(5,.rop [.str r.name,.sl 2 (r.refs.map rfC),.int .i64 r.ex.kind,.str r.ex.name,.str r.ex.over,.sl 4 (r.ex.kids.map exC)]),(7,.ptr b 0),(15,.sl 2 (r.refs.map rfC)),(16,.int .i64 r.refs.length),(17,.int .i64 ((i:Int)+1))] (supd S b (.cells 30 [.int .i64 0] 1)):=fun h=>by
   refine hk (i+1) ⟨by omega,fun j u hj hu=>?_⟩ (by omega)
   rcases Nat.lt_succ_iff_lt_or_eq.1 hj with h1 | rfl
   ·exact hn j u h1 hu
   ·rw [hf] at hu;cases hu;exact h
  have bad:refOkF s f=false→q33 s t r=6:=fun h=>by rw [q33,all_false hf h];rfl
  obtain ⟨B,J⟩:=I
  (try simp only [rwp,hwR,zA,zB,zC,zD,zE,zF,zG,zH,zI,hf,rfC])
  rw [(J.typs.fresh hbf _).lk q3u]
  have e1:∀ z:Prop,True:=fun _=>trivial
  refine (show ∀ x:Bool,x=(typF s f.ty).isSome→exW 0 (q28 true (.int .i64 0) ((typF s f.ty).map iv)) _ from ?_) _ rfl
  intro x hx
  have hv:∃ u,q28 true (.int .i64 0) ((typF s f.ty).map iv)=.tup [u,.bool x]:=by
   rw [hx]
   cases typF s f.ty with
   | none=>exact ⟨_,rfl⟩
   | some j=>exact ⟨_,rfl⟩
  obtain ⟨u,hu⟩:=hv
  rw [hu]
  (try simp only [rwp,hwR,zA,zB,zC,zD,zE,zF,zG,zH,zI])
  refine q1l ((q1s ⟨B,J⟩ f.ty f.rl).frame hbf _) ?_
  (try simp only [rwp,hwR,zA,zB,zC,zD,zE,zF,zG,zH,zI,q1i,q6t])
  have ea:refOkF s f=(x&&(decide (f.rl=⟨#[]⟩)||(q0o s f.ty f.rl).isSome)):=by rw [refOkF,hx]
  cases x<;>cases a2:decide (f.rl=⟨#[]⟩)<;>cases a3:(q0o s f.ty f.rl).isSome<;>rw [a2,a3] at ea <;>
   (try simp only [rwp,hwR,zA,zB,zC,zD,zE,zF,zG,zH,zI,C140_2,C140_3,C140_4,a2,a3]) <;>
   first
    | exact rtW_sub (Sub.fresh _ hbf) ⟨by rw [bad ea],rfl⟩
    | ((simp (disch:=omega) only [q03]);exact q09 rfl (next ea))
 ·have hall:r.refs.all (refOkF s)=true:=all_upto fun j f hj hf=>hn j f (by omega) hf
  (refine q04 (fun h0=>?_) (fun h0=>?_)<;>(try simp only [hlc] at h0))
  ·rw [← q0f]
   have hc:=q6z (fun (a:Int) S'=>S'=supd S b (.cells 30 [.int .i64 a] 1)) (fun (_:Int) e (_:Bool)=>(decide (q8o s t e=0),q8o s t e)) (g:=nrx177) (fi:=[]) (ca:=[.rop [ixP s b1 b2],.rop [.str t],.ptr b 0]) (q1a r.ex false) 0
    (fun l1 p l2 _ _ S' _ h=>by
     subst h
     exact c_rules_names_1 hs hN I t p.1 p.2 hbf _) r.ex hr.ex false [] [] (by simp) rfl _ rfl
   rw [List.nil_append] at hc
   refine q0c hc ?_
   rintro _ S' ⟨rfl,rfl⟩
   (try simp only [rwp,hwR,zA,zB,zC,zD,zE,zF,zG,zH,zI])
   refine rtW_sub (Sub.fresh _ hbf) ⟨?_,rfl⟩
   rw [q33,hall,if_pos rfl,if_pos (by omega),foldA_first rfl]
  ·refine rtW_sub (Sub.fresh _ hbf) ⟨?_,rfl⟩
   rw [q33,hall,if_pos rfl,if_neg (by omega)]
def q8h {α:Type} (f:α→Nat→Rl→Int×α):Nat→List Rl→α→Option (Nat×Int)×α
 | _,[],a=>(none,a)
 | k,r :: rs,a=>if (f a k r).1=0 then q8h f (k+1) rs (f a k r).2 else (some (k,(f a k r).1),(f a k r).2)
def q5l {α:Type} (f:α→Nat→Nat→Ty→Rl→Int×α):Nat→List Ty→α→Option (Nat×Nat×Int)×α
 | _,[],a=>(none,a)
 | i,t :: ts,a=>match q8h (fun a k r=>f a i k t r) 0 t.rels a with
  | (some (k,e),a')=>(some (i,k,e),a')
  | (none,a')=>q5l f (i+1) ts a'
def flA (t r e:Int):AV:=.agg [.int .i64 t,.int .i64 r,.int .i64 e]
def flO:Option (Nat×Nat×Int)→AV
 | some (i,k,e)=>flA i k e
 | none=>flA 0 0 0
theorem q5c {α:Type} (I:α→q00→Prop) (f:α→Nat→Nat→Ty→Rl→Int×α) {s:List Ty} (hs:OkS s) {b1 b2 g:Nat} {fi ca:List AV}
  (hcb:∀ i k t r a S,s[i]?=some t→t.rels[k]?=some r→I a S→ACalls PG g (fi++[q1i (i,k),.agg (tyC t),.agg (rlC r)]++ca) S fun ae S'=>ae=.ret (.int .i64 (f a i k t r).1)∧I (f a i k t r).2 S') (a0:α) (S:q00) (hI:I a0 S) :
  ACalls PG nrx94 [ixP s b1 b2,.func (.func g) fi ca] S fun ae S'=>ae=.ret (flO (q5l f 0 s a0).1)∧I (q5l f 0 s a0).2 S':=by
 have hb:=hs.types
 refine wx94 ?_
 unfold Bx94
 intro b hbf
 (try simp only [rwp,hwR,zA,zB,zC,zD,zE,zF,zG,zH,zI])
 refine LoopP.introS (fun p:Nat×α=>[(1,.func (.func g) fi ca),(4,.ptr b 0),(14,.sl 2 (s.map tyC)),(15,.int .i64 s.length),(16,.int .i64 p.1)])
  (fun p S'=>p.1≤s.length∧(∃ S1,S'=supd S1 b (.cells 88 [.int .i64 0,.int .i64 0,.int .i64 0] 3)∧sget S1 b=none∧I p.2 S1)∧q5l f p.1 (s.drop p.1) p.2=q5l f 0 s a0) (fun p=>s.length-p.1) (0,a0) ⟨by omega,⟨S,rfl,hbf,hI⟩,rfl⟩ rfl ?_
 rintro ⟨i,a⟩ _ ⟨hi,⟨S1,rfl,hb1,hI1⟩,hf⟩ q hq
 dsimp only at hi hf hI1
 (try simp only [rwp,hwR,zA,zB,zC,zD,zE,zF,zG,zH,zI,C94_1])
 (refine q04 (fun hlt=>?_) (fun hlt=>?_)<;>(try simp only [hlc] at hlt))
 ·obtain ⟨t,ht⟩:=q0s hlt
  have hok:=hs.at ht
  have hbt:=hok.rels
  rw [q0z ht,q5l] at hf
  (try simp only [rwp,hwR,zA,zB,zC,zD,zE,zF,zG,zH,zI,ht,tyC])
  refine alst rfl ?_
  (try simp only [rwp,hwR,zA,zB,zC,zD,zE,zF,zG,zH,zI])
  refine LoopP.introS (fun p:Nat×α=>[(1,.func (.func g) fi ca),(4,.ptr b 0),(5,.int .i64 i),(6,.rop [.str t.name,.sl 6 (t.rels.map rlC)]),(14,.sl 2 (s.map tyC)),(15,.int .i64 s.length),(16,.int .i64 i),(22,.sl 6 (t.rels.map rlC)),(23,.int .i64 t.rels.length),(24,.int .i64 p.1)])
   (fun p S'=>p.1≤t.rels.length∧(∃ S1,S'=supd S1 b (.cells 88 [.int .i64 0,.int .i64 0,.int .i64 0] 3)∧sget S1 b=none∧I p.2 S1)∧q8h (fun a k r=>f a i k t r) p.1 (t.rels.drop p.1) p.2=q8h (fun a k r=>f a i k t r) 0 t.rels a) (fun p=>t.rels.length-p.1) (0,a) ⟨by omega,⟨S1,rfl,hb1,hI1⟩,rfl⟩ rfl ?_
  rintro ⟨k,a2⟩ _ ⟨hk,⟨S2,rfl,hb2,hI2⟩,hf2⟩ q2 hq2
  dsimp only at hk hf2 hI2
  (try simp only [rwp,hwR,zA,zB,zC,zD,zE,zF,zG,zH,zI,C94_2])
  (refine q04 (fun hlt2=>?_) (fun hlt2=>?_)<;>(try simp only [hlc] at hlt2))
  ·obtain ⟨r,hr⟩:=q0s hlt2
   rw [q0z hr,q8h] at hf2
   (try simp only [rwp,hwR,zA,zB,zC,zD,zE,zF,zG,zH,zI,hr])
   refine alst rfl ?_
   (try simp only [rwp,hwR,zA,zB,zC,zD,zE,zF,zG,zH,zI,q0g])
   have h1:=ACalls.frame (hcb i k t r a2 S2 ht hr hI2) hb2 (.cells 88 [.int .i64 0,.int .i64 0,.int .i64 0] 3)
   simp only [q1i,q0g,tyC] at h1
   refine caW_ofv h1 ?_
   rintro _ S3 ⟨S4,⟨rfl,hI4⟩,hb4,rfl⟩
   (try simp only [rwp,hwR,zA,zB,zC,zD,zE,zF,zG,zH,zI])
   (refine q04 (fun he=>?_) (fun he=>?_)<;>(try simp only [hlc] at he))
   ·rw [if_neg he] at hf2
    rw [← hf2] at hf
    refine q0y S4 (Sub.fresh _ hb4) ?_
    (try simp only [rwp,hwR,zA,zB,zC,zD,zE,zF,zG,zH,zI])
    rw [← hf]
    exact ⟨rfl,hI4⟩
   ·rw [if_pos he] at hf2
    (simp (disch:=omega) only [q03])
    exact q09 rfl (hq2 (k+1,(f a2 i k t r).2) _ ⟨by dsimp only;omega,⟨S4,rfl,hb4,hI4⟩,hf2⟩ (by dsimp only;omega))
  ·rw [q37 hlt2,q8h] at hf2
   rw [← hf2] at hf
   (simp (disch:=omega) only [q03])
   exact q09 rfl (hq (i+1,a2) _ ⟨by dsimp only;omega,⟨S2,rfl,hb2,hI2⟩,hf⟩ (by dsimp only;omega))
 ·rw [q37 hlt,q5l] at hf
  (try simp only [rwp,hwR,zA,zB,zC,zD,zE,zF,zG,zH,zI])
  refine q0y S1 (Sub.fresh _ hb1) ?_
  (try simp only [rwp,hwR,zA,zB,zC,zD,zE,zF,zG,zH,zI])
  rw [← hf]
  exact ⟨rfl,hI1⟩
def q5m (s:List Ty) (f:Nat→Nat→Ty→Rl→Int):Option (Nat×Nat×Int):=(q5l (fun (_:Unit) i k t r=>(f i k t r,())) 0 s ()).1
theorem q4g {f:Nat→Nat→Ty→Rl→Int} {s:List Ty} (hs:OkS s) {b1 b2 g:Nat} {fi ca:List AV} {S:q00}
  (hcb:∀ i k t r,s[i]?=some t→t.rels[k]?=some r→AFunS PG g (fi++[q1i (i,k),.agg (tyC t),.agg (rlC r)]++ca) S (.int .i64 (f i k t r))) :
  AFunS PG nrx94 [ixP s b1 b2,.func (.func g) fi ca] S (flO (q5m s f)):=
 q5c (fun (_:Unit) S'=>S'=S) (fun _ i k t r=>(f i k t r,())) hs (fun i k t r a S' h1 h2 h=>by subst h;exact hcb i k t r h1 h2) () S rfl
def longI (s:List Ty):Option Nat:=q0t (fun t=>decide ((16:Int)<t.rels.length)) s
def dupB (ts:List Ty) (t:Ty):Bool:=(typF ts t.name).isSome
def dupI:List Ty→List Ty→Option Nat
 | _,[]=>none
 | ts,t :: r=>if dupB ts t then some ts.length else dupI (ts++[t]) r
def szF (s:List Ty):AV:=if (16:Int)<s.length then flA 0 (-1) 2 else match longI s with
 | some i=>flA i (-1) 2
 | none=>match dupI [] s with
  | some i=>flA i (-1) 7
  | none=>flA 0 0 0
theorem c_rules_sizes {s:List Ty} (hs:OkS s):AFun PG nrx137 [scA s] (szF s):=by
 intro S
 have hb:=hs.types
 refine wx137 ?_
 unfold Bx137
 (try simp only [rwp,hwR,zA,zB,zC,zD,zE,zF,zG,zH,zI,scA])
 intro b2 hb2
 (try simp only [rwp,hwR,zA,zB,zC,zD,zE,zF,zG,zH,zI])
 intro b3 hb3
 have hne:b2≠b3:=by
  rintro rfl
  rw [q01,if_pos rfl] at hb3
  cases hb3
 have hne':b3≠b2:=Ne.symm hne
 have hb3':sget S b3=none:=by rw [q01,if_neg hne] at hb3;exact hb3
 have hS2:Sub S (supd (supd S b2 (.cells 88 [.int .i64 0,.int .i64 0,.int .i64 0] 3)) b3 (.cells 88 [.int .i64 0,.int .i64 (-1),.int .i64 2] 3)):=(Sub.fresh _ hb2).supd hb3'
 (try simp only [rwp,hwR,zA,zB,zC,zD,zE,zF,zG,zH,zI,if_neg hne,if_neg hne'])
 (refine q04 (fun h1=>?_) (fun h1=>?_)<;>(try simp only [hlc] at h1))
 ·refine q0y S (hS2.supd hb2) ?_
  (try simp only [rwp,hwR,zA,zB,zC,zD,zE,zF,zG,zH,zI])
  rw [szF,if_pos h1];rfl
 refine LoopP.introS (fun i:Nat=>[(1,.rop [.sl 2 (s.map tyC)]),(2,.ptr b2 0),(3,.ptr b3 0),(14,.int .i64 s.length),(15,.int .i64 i)])
  (fun i S'=>i≤s.length∧Sub S S'∧q0i S' b2=some (88,[.int .i64 0,.int .i64 0,.int .i64 0],3)∧(∃ v:Int,q0i S' b3=some (88,[.int .i64 v,.int .i64 (-1),.int .i64 2],3))∧∀ j t,j<i→s[j]?=some t→decide ((16:Int)<t.rels.length)=false) (fun i=>s.length-i) 0
  ⟨by omega,hS2,by rw [q0l hne',q0h],⟨0,q0h⟩,by omega⟩ rfl ?_
 rintro i S1 ⟨hi,hs1,h2,⟨v,h3⟩,hn⟩ r hr
 (try simp only [rwp,hwR,zA,zB,zC,zD,zE,zF,zG,zH,zI,C137_1,h3])
 (refine q04 (fun hlt=>?_) (fun hlt=>?_)<;>(try simp only [hlc] at hlt))
 ·obtain ⟨t,ht⟩:=q0s hlt
  have hbt:=(hs.at ht).rels
  (try simp only [rwp,hwR,zA,zB,zC,zD,zE,zF,zG,zH,zI,ht,tyC])
  (refine q04 (fun hl=>?_) (fun hl=>?_)<;>(try simp only [hlc] at hl))
  ·(try simp only [rwp,hwR,zA,zB,zC,zD,zE,zF,zG,zH,zI,if_neg hne',h2])
   refine q0y S ((hs1.supd hb3').supd hb2) ?_
   (try simp only [rwp,hwR,zA,zB,zC,zD,zE,zF,zG,zH,zI])
   have:longI s=some i:=firstI_some.2 ⟨⟨t,ht,by simpa using hl⟩,hn⟩
   rw [szF,if_neg h1,this];rfl
  ·(simp (disch:=omega) only [q03])
   refine q09 rfl (hr (i+1) _ ⟨by omega,hs1.supd hb3',by rw [q0l hne'];exact h2,⟨_,q0h⟩,fun j u hj hu=>?_⟩ (by omega))
   rcases Nat.lt_succ_iff_lt_or_eq.1 hj with h | rfl
   ·exact hn j u h hu
   ·rw [ht] at hu;cases hu;simpa using hl
 ·have hln:longI s=none:=firstI_none.2 fun j u hu=>hn j u (by have:=(List.getElem?_eq_some_iff.1 hu).1;omega) hu
  have hs2:=hs1.supd (o:=.cells 88 [.int .i64 v,.int .i64 (-1),.int .i64 7] 3) hb3'
  have h2':q0i (supd S1 b3 (.cells 88 [.int .i64 v,.int .i64 (-1),.int .i64 7] 3)) b2=some (88,[.int .i64 0,.int .i64 0,.int .i64 0],3):=by rw [q0l hne'];exact h2
  have h3':q0i (supd S1 b3 (.cells 88 [.int .i64 v,.int .i64 (-1),.int .i64 7] 3)) b3=some (88,[.int .i64 v,.int .i64 (-1),.int .i64 7],3):=q0h
  clear h2 h3 hr r
  generalize supd S1 b3 (.cells 88 [.int .i64 v,.int .i64 (-1),.int .i64 7] 3)=S2 at hs2 h2' h3' ⊢
  refine KMap.mm (enc:=AV.str) fun b4 hb4 k4=>?_
  have d2:b4≠b2:=fun e=>objAt_is h2' (e ▸ hb4)
  have d3:b4≠b3:=fun e=>objAt_is h3' (e ▸ hb4)
  have hb4':=Sub.none hs2 hb4
  refine LoopP.introS (fun i:Nat=>[(1,.rop [.sl 2 (s.map tyC)]),(2,.ptr b2 0),(3,.ptr b3 0),(4,.map (some b4)),(34,.int .i64 s.length),(35,.int .i64 i)])
   (fun i S'=>i≤s.length∧Sub S S'∧q0i S' b2=some (88,[.int .i64 0,.int .i64 0,.int .i64 0],3)∧(∃ v:Int,q0i S' b3=some (88,[.int .i64 v,.int .i64 (-1),.int .i64 7],3)) ∧
    KMap MS AV.str S' b4 (fun n=>if (typF (s.take i) n).isSome then some (.bool true) else none)∧dupI [] s=dupI (s.take i) (s.drop i)) (fun i=>s.length-i) 0
   ⟨by omega,hs2.supd hb4',by rw [q0l d2];exact h2',⟨v,by rw [q0l d3];exact h3'⟩,k4,rfl⟩ rfl ?_
  clear k4 h2' h3' hs2 hb4
  rintro i S3 ⟨hi,hs3,h2,⟨v,h3⟩,hm,hd⟩ r hr
  (try simp only [rwp,hwR,zA,zB,zC,zD,zE,zF,zG,zH,zI,C137_2,h3])
  (refine q04 (fun hlt2=>?_) (fun hlt2=>?_)<;>(try simp only [hlc] at hlt2))
  ·obtain ⟨t,ht⟩:=q0s hlt2
   have hlen:(s.take i).length=i:=by simp;omega
   rw [q0z ht,dupI,hlen] at hd
   (try simp only [rwp,hwR,zA,zB,zC,zD,zE,zF,zG,zH,zI,ht,tyC])
   have hm':=hm.upd (Ne.symm d3) (.cells 88 [.int .i64 i,.int .i64 (-1),.int .i64 7] 3)
   rw [hm'.lk q3u]
   cases hq:(typF (s.take i) t.name).isSome with
   | true=>
    rw [show dupB (s.take i) t=true from hq,if_pos rfl] at hd
    (try simp only [rwp,hwR,zA,zB,zC,zD,zE,zF,zG,zH,zI,if_neg hne',h2,if_true])
    refine q0y S ((hs3.supd hb3').supd hb2) ?_
    (try simp only [rwp,hwR,zA,zB,zC,zD,zE,zF,zG,zH,zI])
    rw [szF,if_neg h1,hln,hd];rfl
   | false=>
    rw [show dupB (s.take i) t=false from hq,if_neg (by simp)] at hd
    (try simp only [rwp,hwR,zA,zB,zC,zD,zE,zF,zG,zH,zI,Bool.false_eq_true,if_false])
    refine hm'.mu q3u t.name fun es clk k=>?_
    (simp (disch:=omega) only [q03])
    refine q09 rfl (hr (i+1) _ ⟨by omega,(hs3.supd hb3').supd hb4',by rw [q0l d2,q0l hne'];exact h2,⟨i,by rw [q0l d3];exact q0h⟩,k.cong fun n=>?_,?_⟩ (by omega))
    ·rw [q0w ht,typF_snoc]
     by_cases hn:n=t.name
     ·subst hn
      cases h:typF (s.take i) t.name<;>simp
     ·simp only [if_neg hn,if_neg (Ne.symm hn)]
      cases typF (s.take i) n<;>rfl
    ·rw [q0w ht];exact hd
  ·rw [q37 hlt2,dupI] at hd
   (try simp only [rwp,hwR,zA,zB,zC,zD,zE,zF,zG,zH,zI,h2])
   refine q0y S (hs3.supd hb2) ?_
   (try simp only [rwp,hwR,zA,zB,zC,zD,zE,zF,zG,zH,zI])
   rw [szF,if_neg h1,hln,hd];rfl
def q80 (s:List Ty) (i k:Nat) (t:Ty) (r:Rl):Int:=if fiN s t.name r.name=(i,k) then 0 else 7
def errA:AV→Int
 | .agg [_,_,.int _ e]=>e
 | _=>0
def q42 (s:List Ty):AV:=
 if s.length=0∨scB s=false then flA 0 (-1) 1
 else if errA (szF s)≠0 then szF s
 else match q5m s (q80 s) with
  | some (i,k,e)=>flA i k e
  | none=>flO (q5m s fun _ _ t r=>q33 s t.name r)
theorem c_rules_plain_1 {s:List Ty} {S:q00} {b1 b2:Nat} (I:IxS S b1 b2 s) {i k:Nat} {t:Ty} {r:Rl}:AFunS PG nrx138 [q1i (i,k),.agg (tyC t),.agg (rlC r),.rop [ixP s b1 b2]] S (.int .i64 (q80 s i k t r)):=by
 refine wx138 ?_
 unfold Bx138
 (try simp only [rwp,hwR,zA,zB,zC,zD,zE,zF,zG,zH,zI,q1i,tyC,q0g])
 refine q1l (q1s I t.name r.name) ?_
 (try simp only [rwp,hwR,zA,zB,zC,zD,zE,zF,zG,zH,zI,q1i,eqW_def])
 have h1:∀ a b c d:Nat,(decide ((a:Int)=(b:Int))&&decide ((c:Int)=(d:Int)))=decide ((a,c)=(b,d)):=fun a b c d=>by
  rw [Bool.eq_iff_iff]
  simp only [Bool.and_eq_true,decide_eq_true_eq,Prod.mk.injEq]
  omega
 rw [h1]
 (refine q04 (fun h=>?_) (fun h=>?_)<;>(try simp only [hlc] at h))
 ·exact q02 ⟨by rw [q80,if_neg (show ¬ fiN s t.name r.name=(i,k) from h)],rfl⟩
 ·exact q02 ⟨by rw [q80,if_pos (show fiN s t.name r.name=(i,k) from h)],rfl⟩
theorem c_rules_plain_2 {s:List Ty} (hs:OkS s) (hN:OkN s) {S:q00} {b1 b2:Nat} (I:IxS S b1 b2 s) {i k:Nat} {t:Ty} {r:Rl} (hr:OkR r):AFunS PG nrx139 [q1i (i,k),.agg (tyC t),.agg (rlC r),.rop [ixP s b1 b2]] S (.int .i64 (q33 s t.name r)):=by
 refine wx139 ?_
 unfold Bx139
 (try simp only [rwp,hwR,zA,zB,zC,zD,zE,zF,zG,zH,zI,q1i,tyC,q0g])
 rw [← q0g]
 refine q1l (c_rules_names hs hN I t.name hr) ?_
 exact q02 ⟨rfl,rfl⟩
theorem szF_fl (s:List Ty):∃ t r e,szF s=flA t r e:=by
 unfold szF
 split
 ·exact ⟨_,_,_,rfl⟩
 ·split
  ·exact ⟨_,_,_,rfl⟩
  ·split
   ·exact ⟨_,_,_,rfl⟩
   ·exact ⟨_,_,_,rfl⟩
theorem eachR_err {α:Type} {f:α→Nat→Rl→Int×α}:∀ {l:List Rl} {k:Nat} {a:α} {q:Nat×Int},(q8h f k l a).1=some q→q.2≠0
 | [],k,a,q,h=>by cases h
 | r :: l,k,a,q,h=>by
  unfold q8h at h
  split at h
  ·exact eachR_err h
  ·cases h;assumption
theorem eachT_err {α:Type} {f:α→Nat→Nat→Ty→Rl→Int×α}:∀ {l:List Ty} {i:Nat} {a:α} {q:Nat×Nat×Int},(q5l f i l a).1=some q→q.2.2≠0
 | [],i,a,q,h=>by cases h
 | t :: l,i,a,q,h=>by
  unfold q5l at h
  split at h
  ·rename_i k e a' hq
   cases h
   exact eachR_err (q:=(k,e)) (by rw [hq])
  ·exact eachT_err h
theorem eachF_err {f:Nat→Nat→Ty→Rl→Int} {s:List Ty} {q:Nat×Nat×Int} (h:q5m s f=some q):q.2.2≠0:=eachT_err h
theorem c_rules_plain {s:List Ty} (hs:OkS s) (hN:OkN s) {S:q00} {b1 b2:Nat} (I:IxS S b1 b2 s):AFunS PG nrx92 [ixP s b1 b2] S (q42 s):=by
 refine wx92 ?_
 unfold Bx92
 (try simp only [rwp,hwR,zA,zB,zC,zD,zE,zF,zG,zH,zI])
 intro b hb
 (try simp only [rwp,hwR,zA,zB,zC,zD,zE,zF,zG,zH,zI])
 have low:∀ v,v=(decide (s.length=0)||!scB s)→C92_1 (fun ae S'=>ae=.ret (q42 s)∧S'=S) (.rop [ixP s b1 b2]) (.ptr b 0) (.bool v) (supd S b (.cells 88 [.int .i64 0,.int .i64 0,.int .i64 0] 3)):=by
  intro v hv
  unfold C92_1
  cases v with
  | true=>
   have h:s.length=0∨scB s=false:=by
    have:=hv.symm
    simpa using this
   (try simp only [rwp,hwR,zA,zB,zC,zD,zE,zF,zG,zH,zI])
   refine q0y S (Sub.fresh _ hb) ?_
   (try simp only [rwp,hwR,zA,zB,zC,zD,zE,zF,zG,zH,zI])
   rw [q42,if_pos h];rfl
  | false=>
   have h:¬ (s.length=0∨scB s=false):=by
    have:=hv.symm
    simpa using this
   (try simp only [rwp,hwR,zA,zB,zC,zD,zE,zF,zG,zH,zI])
   refine q05 (c_rules_sizes hs) ?_
   obtain ⟨ft,fr,fe,hsz⟩:=szF_fl s
   rw [hsz]
   (try simp only [rwp,hwR,zA,zB,zC,zD,zE,zF,zG,zH,zI,flA])
   intro b3 hb3
   have hne:b≠b3:=by
    rintro rfl
    rw [q01,if_pos rfl] at hb3
    cases hb3
   have hne':b3≠b:=Ne.symm hne
   have hb3':sget S b3=none:=by rw [q01,if_neg hne] at hb3;exact hb3
   (try simp only [rwp,hwR,zA,zB,zC,zD,zE,zF,zG,zH,zI,if_neg hne,if_neg hne',C92_2,C92_3])
   have key:q42 s=if fe≠0 then flA ft fr fe else match q5m s (q80 s) with
     | some (i,k,e)=>flA i k e
     | none=>flO (q5m s fun _ _ t r=>q33 s t.name r):=by
    rw [q42,if_neg h,hsz];rfl
   have ret:∀ x y z:Int,q42 s=flA x y z→rtW [.cell (.ptr b 0) 3 true] (fun ae S'=>ae=.ret (q42 s)∧S'=S) (supd (supd (supd S b (.cells 88 [.int .i64 0,.int .i64 0,.int .i64 0] 3)) b3 (.cells 88 [.int .i64 x,.int .i64 y,.int .i64 z] 3)) b (.cells 88 [.int .i64 x,.int .i64 y,.int .i64 z] 3)):=by
    intro x y z hp
    refine q0y S (((Sub.fresh _ hb).supd hb3').supd hb) ?_
    (try simp only [rwp,hwR,zA,zB,zC,zD,zE,zF,zG,zH,zI])
    rw [hp];rfl
   have fr2:∀ {f:Nat} {args:List AV} {u:AV} {x y z:Int},AFunS PG f args S u→AFunS PG f args (supd (supd S b (.cells 88 [.int .i64 0,.int .i64 0,.int .i64 0] 3)) b3 (.cells 88 [.int .i64 x,.int .i64 y,.int .i64 z] 3)) u:=fun h=>(h.frame hb _).frame hb3 _
   (refine q04 (fun h0=>?_) (fun h0=>?_)<;>(try simp only [hlc] at h0))
   ·subst h0
    rw [if_neg (by simp)] at key
    have h1:=q4g (b1:=b1) (b2:=b2) (g:=nrx138) (fi:=[]) (ca:=[.rop [ixP s b1 b2]]) (f:=q80 s) hs (S:=S) fun i k t r ht hr=>c_rules_plain_1 I
    refine q1l (fr2 h1) ?_
    cases hq:q5m s (q80 s) with
    | some q=>
     obtain ⟨i,k,e⟩:=q
     have he:=eachF_err hq
     rw [hq] at key
     dsimp only at key he
     (try simp only [rwp,hwR,zA,zB,zC,zD,zE,zF,zG,zH,zI,flO,flA,if_neg hne,if_neg hne'])
     (refine q04 (fun h2=>?_) (fun h2=>?_)<;>(try simp only [hlc] at h2))
     ·exact absurd h2 he
     ·exact ret _ _ _ key
    | none=>
     rw [hq] at key
     dsimp only at key
     (try simp only [rwp,hwR,zA,zB,zC,zD,zE,zF,zG,zH,zI,flO,flA,if_neg hne,if_neg hne',decide_true])
     have h2:=q4g (b1:=b1) (b2:=b2) (g:=nrx139) (fi:=[]) (ca:=[.rop [ixP s b1 b2]]) (f:=fun _ _ t r=>q33 s t.name r) hs (S:=S) fun i k t r ht hr=>c_rules_plain_2 hs hN I ((hs.at ht).at hr)
     refine q1l (fr2 h2) ?_
     cases hq2:q5m s (fun _ _ t r=>q33 s t.name r) with
     | some q=>
      obtain ⟨i,k,e⟩:=q
      rw [hq2] at key
      (try simp only [rwp,hwR,zA,zB,zC,zD,zE,zF,zG,zH,zI,flO,flA,if_neg hne,if_neg hne'])
      exact ret _ _ _ key
     | none=>
      rw [hq2] at key
      (try simp only [rwp,hwR,zA,zB,zC,zD,zE,zF,zG,zH,zI,flO,flA,if_neg hne,if_neg hne'])
      exact ret _ _ _ key
   ·rw [if_pos h0] at key
    (refine q04 (fun h00=>?_) (fun h00=>?_)<;>(try simp only [hlc] at h00))
    ·exact absurd h00 h0
    ·exact ret _ _ _ key
 (refine q20 (fun hg=>?_) (fun hg=>?_)<;>(try simp only [rwp,hwR,zA,zB,zC,zD,zE,zF,zG,zH,zI,hg]))
 ·refine q05 (c_lang_May hs) ?_
  (try simp only [rwp,hwR,zA,zB,zC,zD,zE,zF,zG,zH,zI])
  exact low _ (by rw [show decide (s.length=0)=decide ((s.length:Int)=0) from by simp,hg];rfl)
 ·exact low _ (by rw [show decide (s.length=0)=decide ((s.length:Int)=0) from by simp,hg];rfl)
abbrev Ln:Type:=(Nat×Nat)×Bool
def q5x (n:Ln):List AV:=[.int .i64 n.1.1,.int .i64 n.1.2,.bool n.2]
def leafF (s:List Ty) (t:ByteArray) (e:Ex) (o:Bool):List Ln:=match q0o s t e.name with
 | none=>[]
 | some (i,k,r)=>((i,k),o) :: (if e.kind=1 then (q7i s r.refs e.over).map fun p=>(p,o) else [])
def q3z (s:List Ty) (f:Rf):Option Ln:=if f.rl=⟨#[]⟩ then none else (q0o s f.ty f.rl).map fun q=>((q.1,q.2.1),false)
def q2e (s:List Ty) (t:ByteArray) (r:Rl):List Ln:=if r.refs.length=0 then (q1a r.ex false).flatMap fun p=>leafF s t p.1 p.2 else r.refs.filterMap (q3z s)
def LI (S S':q00) (b:Nat) (rows:List (List AV)):Prop:=Sub S S'∧∃ v,q0i S' b=some (224,[v],1)∧q1b v b∧LstN S S' 227 3 v rows
theorem LI.app {S S':q00} {b:Nat} {rows:List (List AV)} {v:AV} {K:q00→Prop} (hb:sget S b=none) (hs:Sub S S') (hv:q0i S' b=some (224,[v],1)) (ha:q1b v b) (hl:LstN S S' 227 3 v rows) {new:List AV} (hn:new.length=3) (ho:ones new=true)
  (hlen:rows.length≤4000000) (hK:∀ S2,LI S S2 b (rows++[new])→K S2):apW S' 227 3 24 v (.sl 3 [new]) fun v' S1=>soW (q0i S1 b) S1 1 b 0 v' K:=by
 refine hl.app hs (xs:=[new]) (fun r hr=>by simp at hr;subst hr;exact hn) (by simpa using ho) (by simp only [List.length_cons,List.length_nil];omega) ?_
 intro v' S1 h1 h2 h3
 obtain ⟨k1,k2⟩:=h3 b _ (objAt_some.1 hv) ha
 rw [objAt_some.2 k1,soW_one h2.one]
 exact hK _ ⟨h1.supd hb,v',q0h,k2,h2.upd k2 _⟩
mutual
theorem q7l:∀ (e:Ex) (o:Bool),(q1a e o).length≤esz e
 | .mk k n o' ks,o=>by
  unfold q1a esz
  split
  ·simp
  ·have:=leavesL_le ks k 0 o
   omega
theorem leavesL_le:∀ (l:List Ex) (k:Int) (i:Nat) (o:Bool),(q2d k i l o).length≤eszL l
 | [],k,i,o=>by simp [q2d,eszL]
 | e :: r,k,i,o=>by
  have h1:=q7l e (o||(decide (k=4)&&decide ((i:Int)=1)))
  have h2:=leavesL_le r k (i+1) o
  simp only [q2d,eszL,List.length_append]
  omega
end
theorem overF_le {s:List Ty} {refs:List Rf} {n:ByteArray}:(q7i s refs n).length≤refs.length:=List.length_filterMap_le _ _
theorem leafF_le {s:List Ty} (hN:OkN s) {t:ByteArray} {e:Ex} {o:Bool}:(leafF s t e o).length≤1001:=by
 unfold leafF
 split
 ·simp
 ·rename_i i k r hq
  obtain ⟨ty,h1,h2⟩:=findF_mem hq
  have h3:=hN ty h1 r h2
  have h4:=overF_le (s:=s) (refs:=r.refs) (n:=e.over)
  unfold rsz at h3
  simp only [List.length_cons]
  split
  ·simp only [List.length_map];omega
  ·simp
theorem flat_le {α β:Type} {f:α→List β} {n:Nat} (h:∀ x,(f x).length≤n):∀ {l:List α},(l.flatMap f).length≤l.length * n
 | []=>by simp
 | x :: l=>by
  have:=flat_le h (l:=l)
  have:=h x
  simp only [List.flatMap_cons,List.length_append,List.length_cons,Nat.succ_mul]
  omega
theorem q5z {s:List Ty} {t:ByteArray}:∀ {l:List (Ex×Bool)} {a:List Ln},q21 (fun (a:List Ln) e o=>(true,a++leafF s t e o)) l a=(true,a++l.flatMap fun p=>leafF s t p.1 p.2)
 | [],a=>by simp [q21]
 | (e,o) :: r,a=>by
  simp only [q21]
  rw [q5z]
  simp [List.flatMap_cons]
theorem c_rules_leans_1 {s:List Ty} (hs:OkS s) (hN:OkN s) {S:q00} {b1 b2:Nat} (I:IxS S b1 b2 s) {t:Ty} {e:Ex} {o:Bool} {b:Nat} (hb:sget S b=none) {a:List Ln} (hlen:a.length≤2000000) (hf:(q0o s t.name e.name).isSome=true) {S':q00} (hI:LI S S' b (a.map q5x)) :
  ACalls PG nrx179 [.agg (exC e),.bool o,.rop [ixP s b1 b2],.rop (tyC t),.ptr b 0] S' fun ae S2=>ae=.ret (.bool true)∧LI S S2 b ((a++leafF s t.name e o).map q5x):=by
 cases hq:q0o s t.name e.name with
 | none=>rw [hq] at hf;cases hf
 | some q=>
  obtain ⟨i,k,r⟩:=q
  obtain ⟨h1,ty,h2,h3,h4⟩:=q23 hq
  have hr:=(hs.at h2).at h4
  have hn0:=hN ty (List.mem_of_getElem? h2) r (List.mem_of_getElem? h4)
  have hn:r.refs.length≤1000000:=by unfold rsz at hn0;omega
  refine wx179 ?_
  unfold Bx179
  obtain ⟨hs',v,hv,ha,hl⟩:=hI
  (try simp only [rwp,hwR,zA,zB,zC,zD,zE,zF,zG,zH,zI,q0f,tyC])
  refine q1l (q1s (I.sub hs') t.name e.name) ?_
  rw [q6s hq]
  (try simp only [rwp,hwR,zA,zB,zC,zD,zE,zF,zG,zH,zI,q1i,q07 hv])
  refine LI.app hb hs' hv ha hl (new:=q5x ((i,k),o)) rfl rfl (by simp;omega) ?_
  clear hv ha hl hs' S'
  intro S1 hI1
  (refine q04 (fun he=>?_) (fun he=>?_)<;>(try simp only [hlc] at he))
  ·refine q05 (q5j h2 h4) ?_
   (try simp only [rwp,hwR,zA,zB,zC,zD,zE,zF,zG,zH,zI])
   refine q1l (q8a (I.sub hI1.1) hr hn e.over) ?_
   (try simp only [rwp,hwR,zA,zB,zC,zD,zE,zF,zG,zH,zI])
   have hov:(q7i s r.refs e.over).length≤1000:=by
    have:=overF_le (s:=s) (refs:=r.refs) (n:=e.over)
    unfold rsz at hn0
    omega
   refine LoopP.introS (fun j:Nat=>[(1,.bool o),(4,.ptr b 0),(36,.sl 2 ((q7i s r.refs e.over).map nodeC)),(37,.int .i64 (q7i s r.refs e.over).length),(38,.int .i64 j)])
    (fun j S'=>j≤(q7i s r.refs e.over).length∧LI S S' b ((a++((i,k),o) :: ((q7i s r.refs e.over).take j).map fun p=>(p,o)).map q5x)) (fun j=>(q7i s r.refs e.over).length-j) 0 ⟨by omega,by simpa using hI1⟩ rfl ?_
   rintro j S2 ⟨hj,hI2⟩ w hw
   (try simp only [rwp,hwR,zA,zB,zC,zD,zE,zF,zG,zH,zI,C179_1])
   (refine q04 (fun hlt=>?_) (fun hlt=>?_)<;>(try simp only [hlc] at hlt))
   ·obtain ⟨p,hp⟩:=q0s hlt
    obtain ⟨hs2,v2,hv2,ha2,hl2⟩:=hI2
    (try simp only [rwp,hwR,zA,zB,zC,zD,zE,zF,zG,zH,zI,hp,nodeC,q07 hv2])
    refine LI.app hb hs2 hv2 ha2 hl2 (new:=q5x (p,o)) rfl rfl (by simp;omega) ?_
    intro S3 hI3
    (simp (disch:=omega) only [q03])
    refine q09 rfl (hw (j+1) S3 ⟨by omega,?_⟩ (by omega))
    rw [q0w hp]
    simpa using hI3
   ·have hend:(q7i s r.refs e.over).take j=q7i s r.refs e.over:=List.take_of_length_le (by omega)
    rw [hend] at hI2
    refine q02 ⟨rfl,?_⟩
    rw [leafF,hq]
    simpa [he] using hI2
  ·refine q02 ⟨rfl,?_⟩
   rw [leafF,hq]
   simpa [he] using hI1
theorem c_rules_leans {s:List Ty} (hs:OkS s) (hN:OkN s) {S:q00} {b1 b2:Nat} (I:IxS S b1 b2 s) {t:Ty} {r:Rl} (hr:OkR r) (hrs:rsz r≤1000) (hf:r.refs.length=0→∀ p∈q1a r.ex false,(q0o s t.name p.1.name).isSome=true) :
  AFunS PG nrx142 [ixP s b1 b2,.agg (tyC t),.agg (rlC r)] S (.sl 3 ((q2e s t.name r).map q5x)):=by
 have hn:r.refs.length≤1000:=by unfold rsz at hrs;omega
 refine wx142 ?_
 unfold Bx142
 (try simp only [rwp,hwR,zA,zB,zC,zD,zE,zF,zG,zH,zI,tyC,q0g])
 intro b hb
 refine LoopP.introS (fun j:Nat=>[(3,.rop [ixP s b1 b2]),(4,.rop (tyC t)),(5,.rop [.str r.name,.sl 2 (r.refs.map rfC),.int .i64 r.ex.kind,.str r.ex.name,.str r.ex.over,.sl 4 (r.ex.kids.map exC)]),(7,.ptr b 0),(13,.sl 2 (r.refs.map rfC)),(14,.int .i64 r.refs.length),(15,.int .i64 j)])
  (fun j S'=>j≤r.refs.length∧LI S S' b (((r.refs.take j).filterMap (q3z s)).map q5x)) (fun j=>r.refs.length-j) 0
  ⟨by omega,Sub.fresh _ hb,.nils,q0h,fun _ _ _ _ h=>(by cases h),.nil⟩ rfl ?_
 rintro j S1 ⟨hj,hI⟩ q hq
 (try simp only [rwp,hwR,zA,zB,zC,zD,zE,zF,zG,zH,zI,C142_1])
 (refine q04 (fun hlt=>?_) (fun hlt=>?_)<;>(try simp only [hlc] at hlt))
 ·obtain ⟨f,hfj⟩:=q0s hlt
  have htk:=take_fm (g:=q3z s) hfj
  have hle:=fm_le (g:=q3z s) (l:=r.refs) (i:=j)
  (try simp only [rwp,hwR,zA,zB,zC,zD,zE,zF,zG,zH,zI,hfj,rfC])
  refine q1l (q1s (I.sub hI.1) f.ty f.rl) ?_
  (try simp only [rwp,hwR,zA,zB,zC,zD,zE,zF,zG,zH,zI,q1i,q6t])
  have skip:q3z s f=none→q [(3,.rop [ixP s b1 b2]),(4,.rop (tyC t)),(5,.rop [.str r.name,.sl 2 (r.refs.map rfC),.int .i64 r.ex.kind,.str r.ex.name,.str r.ex.over,.sl 4 (r.ex.kids.map exC)]),(7,.ptr b 0),(13,.sl 2 (r.refs.map rfC)),(14,.int .i64 r.refs.length),(15,.int .i64 ((j:Int)+1))] S1:=fun h=>by
   refine hq (j+1) S1 ⟨by omega,?_⟩ (by omega)
   rw [htk,h]
   simpa using hI
  cases hg:q0o s f.ty f.rl with
  | none=>
   (try simp only [rwp,hwR,zA,zB,zC,zD,zE,zF,zG,zH,zI,C142_2])
   (simp (disch:=omega) only [q03])
   exact q09 rfl (skip (by simp only [q3z,hg];split<;>rfl))
  | some w=>
   obtain ⟨i,k,w⟩:=w
   rw [q6s hg]
   (try simp only [rwp,hwR,zA,zB,zC,zD,zE,zF,zG,zH,zI,C142_2])
   (refine q04 (fun he=>?_) (fun he=>?_)<;>(try simp only [rwp,hwR,zA,zB,zC,zD,zE,zF,zG,zH,zI,he]))
   ·have he':¬ f.rl=⟨#[]⟩:=by simpa using he
    have hgf:q3z s f=some ((i,k),false):=by simp only [q3z,hg];rw [if_neg he'];rfl
    obtain ⟨hs1,v,hv,ha,hl⟩:=hI
    (try simp only [rwp,hwR,zA,zB,zC,zD,zE,zF,zG,zH,zI,q07 hv])
    refine LI.app hb hs1 hv ha hl (new:=q5x ((i,k),false)) rfl rfl (by simp only [List.length_map];omega) ?_
    intro S2 hI2
    (simp (disch:=omega) only [q03])
    refine q09 rfl (hq (j+1) S2 ⟨by omega,?_⟩ (by omega))
    rw [htk,hgf]
    simpa using hI2
   ·(simp (disch:=omega) only [q03])
    exact q09 rfl (skip (by simp only [q3z,hg];rw [if_pos (by simpa using he)]))
 ·have hend:r.refs.take j=r.refs:=List.take_of_length_le (by omega)
  rw [hend] at hI
  (refine q04 (fun h0=>?_) (fun h0=>?_)<;>(try simp only [hlc] at h0))
  ·obtain ⟨hs1,v,hv,ha,hl⟩:=hI
   (try simp only [rwp,hwR,zA,zB,zC,zD,zE,zF,zG,zH,zI,q07 hv])
   refine q5s hs1 hl ⟨?_,rfl⟩
   rw [q2e,if_neg (by omega)]
  ·have h00:r.refs.length=0:=by omega
   have hnil:r.refs=[]:=List.length_eq_zero_iff.1 h00
   rw [hnil] at hI
   have hI:LI S S1 b (([]:List Ln).map q5x):=hI
   rw [← q0f]
   have hc:=q6z (fun (a:List Ln) S'=>LI S S' b (a.map q5x)) (fun (a:List Ln) e o=>(true,a++leafF s t.name e o)) (g:=nrx179) (fi:=[]) (ca:=[.rop [ixP s b1 b2],.rop (tyC t),.ptr b 0]) (q1a r.ex false) []
    (fun l1 p l2 hT _ S' _ hI'=>by
     rw [q5z] at hI' ⊢
     have hl1:l1.length≤1000:=by
      have h1:=q7l r.ex false
      rw [hT] at h1
      simp only [List.length_append] at h1
      unfold rsz at hrs
      omega
     have hl2:=flat_le (f:=fun p:Ex×Bool=>leafF s t.name p.1 p.2) (n:=1001) (fun _=>leafF_le hN) (l:=l1)
     exact c_rules_leans_1 hs hN I hb (by simp only [List.nil_append];omega) (hf h00 p (by rw [hT];simp)) hI') r.ex hr.ex false [] [] (by simp) rfl S1 hI
   rw [List.nil_append,q5z] at hc
   refine q0c hc ?_
   rintro _ S2 ⟨rfl,hs2,v,hv,ha,hl⟩
   (try simp only [rwp,hwR,zA,zB,zC,zD,zE,zF,zG,zH,zI,q07 hv])
   refine q5s hs2 hl ⟨?_,rfl⟩
   rw [q2e,if_pos h00,List.nil_append]
abbrev Lv:Type:=List (List Nat)
def getL (lv:Lv) (p:Nat×Nat):Nat:=(((lv[p.1]?).getD [])[p.2]?).getD 0
def setL (lv:Lv) (p:Nat×Nat) (v:Nat):Lv:=lv.set p.1 (((lv[p.1]?).getD []).set p.2 v)
abbrev Rw:Type:=(Nat×Nat)×List Ln
def q4o (s:List Ty) (i:Nat) (tn:ByteArray):Nat→List Rl→List Rw
 | _,[]=>[]
 | k,r :: rs=>((i,k),q2e s tn r) :: q4o s i tn (k+1) rs
def q6f (s:List Ty):Nat→List Ty→List Rw
 | _,[]=>[]
 | i,t :: ts=>q4o s i t.name 0 t.rels++q6f s (i+1) ts
def q41 (s:List Ty):List Rw:=q6f s 0 s
def q1k (N:Nat) (n:Nat×Nat):List Ln→Lv×Bool→Lv×Bool
 | [],a=>a
 | l :: r,a=>if getL a.1 n<getL a.1 l.1+l.2.toNat∧getL a.1 n≤N then q1k N n r (setL a.1 n (getL a.1 l.1+l.2.toNat),true) else q1k N n r a
def q2w (N:Nat):List Rw→Lv×Bool→Lv×Bool
 | [],a=>a
 | w :: r,a=>q2w N r (q1k N w.1 w.2 a)
def iterF (N:Nat) (w:List Rw):Nat→Lv→Lv
 | 0,lv=>lv
 | f+1,lv=>if (q2w N w (lv,false)).2=true then iterF N w f (q2w N w (lv,false)).1 else (q2w N w (lv,false)).1
def zeroL (s:List Ty):Lv:=s.map fun t=>List.replicate t.rels.length 0
def q19 (s:List Ty):Nat:=(s.map fun t=>t.rels.length).sum
def levF (s:List Ty):Lv:=iterF (q19 s) (q41 s) 70000 (zeroL s)
def Shp (lv:Lv) (s:List Ty):Prop:=lv.map List.length=s.map fun t=>t.rels.length
def In (lv:Lv) (p:Nat×Nat):Prop:=∃ l,lv[p.1]?=some l∧p.2<l.length
theorem shp_zero (s:List Ty):Shp (zeroL s) s:=by
 unfold Shp zeroL
 rw [List.map_map]
 exact List.map_congr_left fun t ht=>by simp
theorem setL_len {lv:Lv} {p:Nat×Nat} {v:Nat}:(setL lv p v).map List.length=lv.map List.length:=by
 apply List.ext_getElem?
 intro i
 unfold setL
 rw [List.getElem?_map,List.getElem?_map,List.getElem?_set]
 by_cases h:p.1=i
 ·subst h
  simp only [if_true]
  cases hl:lv[p.1]? with
  | none=>
   have:=List.getElem?_eq_none_iff.1 hl
   rw [if_neg (by omega)]
  | some l=>
   have:=(List.getElem?_eq_some_iff.1 hl).1
   rw [if_pos this]
   simp
 ·rw [if_neg h]
theorem shp_set {lv:Lv} {s:List Ty} (h:Shp lv s) (p:Nat×Nat) (v:Nat):Shp (setL lv p v) s:=by
 unfold Shp
 rw [setL_len]
 exact h
theorem in_of {lv:Lv} {s:List Ty} (h:Shp lv s) {i k:Nat} {t:Ty} (ht:s[i]?=some t) (hk:k<t.rels.length):In lv (i,k):=by
 have h1:=congrArg (fun l=>l[i]?) h
 simp only [List.getElem?_map,ht,Option.map_some] at h1
 cases hl:lv[i]? with
 | none=>rw [hl] at h1;cases h1
 | some l=>
  rw [hl] at h1
  simp only [Option.map_some,Option.some.injEq] at h1
  exact ⟨l,hl,by dsimp only;omega⟩
theorem in_set {lv:Lv} {p q:Nat×Nat} {v:Nat} (h:In lv q):In (setL lv p v) q:=by
 obtain ⟨l,h1,h2⟩:=h
 unfold In setL
 rw [List.getElem?_set]
 by_cases hp:p.1=q.1
 ·rw [if_pos hp,if_pos (by have:=(List.getElem?_eq_some_iff.1 h1).1;omega),hp,h1]
  exact ⟨_,rfl,by simpa using h2⟩
 ·rw [if_neg hp];exact ⟨l,h1,h2⟩
theorem getL_set {lv:Lv} {p q:Nat×Nat} {v:Nat} (h:In lv p):getL (setL lv p v) q=if q=p then v else getL lv q:=by
 obtain ⟨l,h1,h2⟩:=h
 have h3:=(List.getElem?_eq_some_iff.1 h1).1
 unfold getL setL
 rw [List.getElem?_set]
 obtain ⟨a,b⟩:=p
 obtain ⟨c,d⟩:=q
 dsimp only at h1 h2 h3 ⊢
 by_cases hac:a=c
 ·subst hac
  rw [if_pos rfl,if_pos h3,h1]
  simp only [Option.getD_some]
  rw [List.getElem?_set]
  by_cases hbd:b=d
  ·subst hbd;simp [h2]
  ·rw [if_neg hbd,if_neg (by rw [Prod.mk.injEq];omega)]
 ·rw [if_neg hac,if_neg (by rw [Prod.mk.injEq];omega)]
def phiR (N:Nat) (l:List Nat):Nat:=(l.map fun v=>min v (N+1)).sum
def phi (N:Nat) (lv:Lv):Nat:=(lv.map (phiR N)).sum
theorem sum_set:∀ {l:List Nat} {i:Nat} {u v:Nat},l[i]?=some u→(l.set i v).sum+u=l.sum+v
 | [],i,u,v,h=>by simp at h
 | x :: l,0,u,v,h=>by simp at h;subst h;simp only [List.set_cons_zero,List.sum_cons];omega
 | x :: l,i+1,u,v,h=>by
  simp at h
  have:=sum_set (v:=v) h
  simp only [List.set_cons_succ,List.sum_cons]
  omega
theorem phi_set {N:Nat} {lv:Lv} {p:Nat×Nat} {v:Nat} (h:In lv p):phi N (setL lv p v)+min (getL lv p) (N+1)=phi N lv+min v (N+1):=by
 obtain ⟨l,h1,h2⟩:=h
 have e1:getL lv p=l[p.2]:=by
  unfold getL
  rw [h1]
  simp [List.getElem?_eq_getElem h2]
 have h3:(l.map fun v=>min v (N+1))[p.2]?=some (min l[p.2] (N+1)):=by simp [List.getElem?_eq_getElem h2]
 have h4:=sum_set (v:=min v (N+1)) h3
 have h5:(lv.map (phiR N))[p.1]?=some (phiR N l):=by rw [List.getElem?_map,h1];rfl
 have h6:=sum_set (v:=phiR N (l.set p.2 v)) h5
 unfold phi setL
 rw [h1,Option.getD_some,List.map_set,e1]
 have h7:phiR N (l.set p.2 v)+min l[p.2] (N+1)=phiR N l+min v (N+1):=by
  unfold phiR
  rw [List.map_set]
  exact h4
 omega
theorem phi_le {N:Nat} {lv:Lv}:phi N lv≤(lv.map List.length).sum * (N+1):=by
 have key:∀ l:List Nat,phiR N l≤l.length * (N+1):=by
  intro l
  induction l with
  | nil=>simp [phiR]
  | cons x l ih=>
   simp only [phiR,List.map_cons,List.sum_cons,List.length_cons,Nat.succ_mul] at ih ⊢
   omega
 induction lv with
 | nil=>simp [phi]
 | cons l lv ih=>
  have:=key l
  simp only [phi,List.map_cons,List.sum_cons,Nat.add_mul] at ih ⊢
  omega
theorem phi_shp {N:Nat} {lv:Lv} {s:List Ty} (h:Shp lv s):phi N lv≤q19 s * (N+1):=by
 have:=phi_le (N:=N) (lv:=lv)
 unfold Shp at h
 rw [h] at this
 exact this
def Bdd (N:Nat) (lv:Lv):Prop:=∀ p,getL lv p≤phi N lv
def RwOk (s:List Ty) (w:List Rw):Prop:=∀ x∈w,∃ t,s[x.1.1]?=some t∧x.1.2<t.rels.length
theorem raiseN_step {N:Nat} {lv:Lv} {n m:Nat×Nat} {o:Bool} (hin:In lv n) (hb:Bdd N lv) (h:getL lv n<getL lv m+o.toNat∧getL lv n≤N) :
  Bdd N (setL lv n (getL lv m+o.toNat))∧phi N lv<phi N (setL lv n (getL lv m+o.toNat)):=by
 have h1:=phi_set (N:=N) (v:=getL lv m+o.toNat) hin
 have h2:phi N lv<phi N (setL lv n (getL lv m+o.toNat)):=by omega
 refine ⟨fun p=>?_,h2⟩
 rw [getL_set hin]
 have ho:o.toNat≤1:=by cases o<;>decide
 split
 ·have:=hb m
  omega
 ·have:=hb p
  omega
theorem q5u {N:Nat} {n:Nat×Nat} {s:List Ty}:∀ {l:List Ln} {a:Lv×Bool},Shp a.1 s→In a.1 n→Bdd N a.1→Shp (q1k N n l a).1 s∧Bdd N (q1k N n l a).1∧phi N a.1≤phi N (q1k N n l a).1∧(a.2=true→(q1k N n l a).2=true)∧(a.2=false→(q1k N n l a).2=true→phi N a.1<phi N (q1k N n l a).1)∧((q1k N n l a).2=false→(q1k N n l a).1=a.1)
 | [],a,h1,h2,h3=>⟨h1,h3,Nat.le_refl _,fun h=>h,fun h h'=>(by rw [show q1k N n [] a=a from rfl,h] at h';cases h'),fun _=>rfl⟩
 | l :: r,a,h1,h2,h3=>by
  unfold q1k
  split
  ·rename_i hc
   obtain ⟨k1,k2⟩:=raiseN_step h2 h3 hc
   obtain ⟨j1,j2,j3,j4,j5,j6⟩:=q5u (l:=r) (a:=(setL a.1 n (getL a.1 l.1+l.2.toNat),true)) (shp_set h1 _ _) (in_set h2) k1
   dsimp only at j3 j4 j5 j6
   exact ⟨j1,j2,by omega,fun _=>j4 rfl,fun _ _=>by omega,fun h=>by rw [j4 rfl] at h;cases h⟩
  ·exact q5u h1 h2 h3
theorem q5t {N:Nat} {s:List Ty}:∀ {w:List Rw} {a:Lv×Bool},RwOk s w→Shp a.1 s→Bdd N a.1→Shp (q2w N w a).1 s∧Bdd N (q2w N w a).1∧phi N a.1≤phi N (q2w N w a).1∧(a.2=true→(q2w N w a).2=true)∧(a.2=false→(q2w N w a).2=true→phi N a.1<phi N (q2w N w a).1)∧((q2w N w a).2=false→(q2w N w a).1=a.1)
 | [],a,_,h1,h3=>⟨h1,h3,Nat.le_refl _,fun h=>h,fun h h'=>(by rw [show q2w N [] a=a from rfl,h] at h';cases h'),fun _=>rfl⟩
 | x :: w,a,hw,h1,h3=>by
  obtain ⟨t,ht,hk⟩:=hw x (by simp)
  obtain ⟨k1,k2,k3,k4,k5,k6⟩:=q5u (N:=N) (n:=x.1) (l:=x.2) h1 (in_of h1 ht hk) h3
  obtain ⟨j1,j2,j3,j4,j5,j6⟩:=q5t (w:=w) (fun y hy=>hw y (List.mem_cons_of_mem _ hy)) k1 k2
  unfold q2w
  refine ⟨j1,j2,by omega,fun h=>j4 (k4 h),fun h h'=>?_,fun h=>?_⟩
  ·cases hr:(q1k N x.1 x.2 a).2 with
   | true=>have:=k5 h hr;omega
   | false=>have:=j5 hr h';omega
  ·have:=j6 h
   rw [this]
   cases hr:(q1k N x.1 x.2 a).2 with
   | true=>rw [j4 hr] at h;cases h
   | false=>exact k6 hr
theorem bdd_zero {N:Nat} {s:List Ty}:Bdd N (zeroL s):=fun p=>by
 have:getL (zeroL s) p=0:=by
  unfold getL zeroL
  rw [List.getElem?_map]
  cases s[p.1]? with
  | none=>simp
  | some t=>
   simp only [Option.map_some,Option.getD_some,List.getElem?_replicate]
   split<;>rfl
 omega
theorem q7m {N:Nat} {s:List Ty} {w:List Rw} (hw:RwOk s w):∀ {f g:Nat} {lv:Lv},Shp lv s→Bdd N lv→q19 s * (N+1)<f+phi N lv→q19 s * (N+1)<g+phi N lv→iterF N w f lv=iterF N w g lv
 | 0,g,lv,h1,h2,h3,_=>by have:=phi_shp (N:=N) h1;omega
 | f+1,0,lv,h1,h2,_,h4=>by have:=phi_shp (N:=N) h1;omega
 | f+1,g+1,lv,h1,h2,h3,h4=>by
  obtain ⟨k1,k2,k3,k4,k5,k6⟩:=q5t (N:=N) (a:=(lv,false)) hw h1 h2
  unfold iterF
  split
  ·rename_i hr
   have:=k5 rfl hr
   exact q7m hw k1 k2 (by dsimp only at this;omega) (by dsimp only at this;omega)
  ·rfl
theorem rowsR_ok {s:List Ty} {i:Nat} {t:Ty} (ht:s[i]?=some t):∀ {l:List Rl} {k:Nat},k+l.length=t.rels.length→∀ x∈q4o s i t.name k l,∃ t,s[x.1.1]?=some t∧x.1.2<t.rels.length
 | [],k,h,x,hx=>by cases hx
 | r :: l,k,h,x,hx=>by
  simp only [q4o,List.mem_cons] at hx
  rcases hx with rfl | hx
  ·exact ⟨t,ht,by simp only [List.length_cons] at h;dsimp only;omega⟩
  ·exact rowsR_ok ht (by simp only [List.length_cons] at h;omega) x hx
theorem rowsT_ok {s:List Ty}:∀ {l:List Ty} {i:Nat},s.drop i=l→∀ x∈q6f s i l,∃ t,s[x.1.1]?=some t∧x.1.2<t.rels.length
 | [],i,h,x,hx=>by cases hx
 | t :: l,i,h,x,hx=>by
  have ht:s[i]?=some t:=by
   have:=List.getElem?_drop (xs:=s) (i:=i) (j:=0)
   rw [h] at this
   simpa using this.symm
  have hd:s.drop (i+1)=l:=by
   have:=q0z ht
   rw [h] at this
   simpa using this.symm
  simp only [q6f,List.mem_append] at hx
  rcases hx with hx | hx
  ·exact rowsR_ok ht (by simp) x hx
  ·exact rowsT_ok hd x hx
theorem rows_ok (s:List Ty):RwOk s (q41 s):=rowsT_ok (by simp)
theorem rowsR_len {s:List Ty} {i:Nat} {n:ByteArray}:∀ {l:List Rl} {k:Nat},(q4o s i n k l).length=l.length
 | [],k=>rfl
 | r :: l,k=>by simp [q4o,rowsR_len]
theorem rowsT_len {s:List Ty}:∀ {l:List Ty} {i:Nat},(q6f s i l).length=q19 l
 | [],i=>rfl
 | t :: l,i=>by simp [q6f,rowsT_len,rowsR_len,q19]
theorem rows_len (s:List Ty):(q41 s).length=q19 s:=rowsT_len
def q1n:List Rw→Nat×Nat→Option (List Ln)
 | [],_=>none
 | w :: r,p=>if p=w.1 then some w.2 else q1n r p
def upR:List Rw→Nat×Nat→List Ln→List Rw
 | [],p,l=>[(p,l)]
 | w :: r,p,l=>if p=w.1 then (p,l) :: r else w :: upR r p l
theorem lookR_up {a:List Rw} {p q:Nat×Nat} {l:List Ln}:q1n (upR a p l) q=if q=p then some l else q1n a q:=by
 induction a with
 | nil=>simp [upR,q1n]
 | cons w r ih=>
  unfold upR
  split
  ·rename_i h
   unfold q1n
   subst h
   split<;>rfl
  ·rename_i h
   simp only [q1n,ih]
   by_cases hq:q=w.1
   ·subst hq
    simp [Ne.symm h]
   ·simp [hq]
theorem upR_len {a:List Rw} {p:Nat×Nat} {l:List Ln}:(upR a p l).length=if (q1n a p).isSome then a.length else a.length+1:=by
 induction a with
 | nil=>rfl
 | cons w r ih=>
  unfold upR q1n
  by_cases h:p=w.1
  ·simp [h]
  ·simp only [h,if_false,List.length_cons,ih]
   split<;>rfl
def lnsA (l:List Ln):AV:=.sl 3 (l.map q5x)
def OnM (S0 S:q00) (b:Nat) (a:List Rw):Prop:=Sub S0 S∧KMapL MN q1i S b (fun p=>(q1n a p).map lnsA) a.length
def FoundS (s:List Ty):Prop:=∀ t∈s,∀ r∈t.rels,r.refs.length=0→∀ p∈q1a r.ex false,(q0o s t.name p.1.name).isSome=true
theorem q8m {s:List Ty} (hs:OkS s) (hN:OkN s) (hF:FoundS s) {S:q00} {b1 b2:Nat} (I:IxS S b1 b2 s) {bo:Nat} (hbo:sget S bo=none) {i k:Nat} {t:Ty} {r:Rl} (ht:s[i]?=some t) (hr:t.rels[k]?=some r) {a:List Rw} {S':q00} (hI:OnM S S' bo a) :
  ACalls PG nrx141 [q1i (i,k),.agg (tyC t),.agg (rlC r),.rop [ixP s b1 b2],.rop [.map (some bo)]] S' fun ae S2=>ae=.ret (.int .i64 0)∧OnM S S2 bo (upR a (i,k) (q2e s t.name r)):=by
 have hm:=List.mem_of_getElem? ht
 have hmr:=List.mem_of_getElem? hr
 refine wx141 ?_
 unfold Bx141
 (try simp only [rwp,hwR,zA,zB,zC,zD,zE,zF,zG,zH,zI,q1i,tyC,q0g])
 rw [← q0g]
 refine q1l (c_rules_leans hs hN (I.sub hI.1) ((hs.at ht).at hr) (hN t hm r hmr) (hF t hm r hmr)) ?_
 (try simp only [rwp,hwR,zA,zB,zC,zD,zE,zF,zG,zH,zI])
 refine hI.2.mu ke_node (i,k) fun es clk h=>?_
 refine q02 ⟨rfl,hI.1.supd hbo,h.cong (fun p=>?_) ?_⟩
 ·rw [lookR_up]
  by_cases hp:p=(i,k)
  ·simp only [hp,if_true,Option.map_some];rfl
  ·simp only [hp,if_false]
 ·rw [upR_len]
  simp
structure LvI (s:List Ty) (N:Nat) (w:List Rw) (S0:q00) (bo bf bm:Nat) (a:Lv×Bool) (S:q00):Prop where
 sub:Sub S0 S
 on:KMapL MN q1i S bo (fun p=>(q1n w p).map lnsA) N
 of:∃ o,KMap MN q1i S bf o∧∀ p,q28 false (.int .i64 0) (o p)=.int .i64 (getL a.1 p)
 more:q0i S bm=some (4,[.bool a.2],1)
 shp:Shp a.1 s
 bdd:Bdd N a.1
theorem lookR_none {s:List Ty} {i:Nat} {n:ByteArray}:∀ {l:List Rl} {k m:Nat},m<k→q1n (q4o s i n k l) (i,m)=none
 | [],k,m,h=>rfl
 | r :: l,k,m,h=>by
  unfold q4o q1n
  rw [if_neg (by rw [Prod.mk.injEq];omega)]
  exact lookR_none (by omega)
theorem q5w {s:List Ty} {i j m:Nat} {n:ByteArray} (h:j≠i):∀ {l:List Rl} {k:Nat},q1n (q4o s i n k l) (j,m)=none
 | [],k=>rfl
 | r :: l,k=>by
  unfold q4o q1n
  rw [if_neg (by rw [Prod.mk.injEq];omega)]
  exact q5w h
theorem q52 {a b:List Rw} {p:Nat×Nat}:q1n (a++b) p=match q1n a p with
  | some l=>some l
  | none=>q1n b p:=by
 induction a with
 | nil=>rfl
 | cons w r ih=>
  simp only [List.cons_append,q1n,ih]
  by_cases h:p=w.1<;>simp [h]
theorem lookR_rel {s:List Ty} {i:Nat} {n:ByteArray}:∀ {l:List Rl} {k m:Nat} {r:Rl},l[m]?=some r→q1n (q4o s i n k l) (i,k+m)=some (q2e s n r)
 | [],k,m,r,h=>by simp at h
 | x :: l,k,0,r,h=>by
  simp at h;subst h
  unfold q4o q1n
  simp
 | x :: l,k,m+1,r,h=>by
  simp at h
  unfold q4o q1n
  rw [if_neg (by rw [Prod.mk.injEq];omega)]
  have:=lookR_rel (s:=s) (i:=i) (n:=n) (k:=k+1) h
  rw [show k+(m+1)=k+1+m by omega]
  exact this
theorem lookR_typ {s:List Ty}:∀ {l:List Ty} {j m:Nat} {t:Ty} {k:Nat} {r:Rl},l[m]?=some t→t.rels[k]?=some r→q1n (q6f s j l) (j+m,k)=some (q2e s t.name r)
 | [],j,m,t,k,r,h,_=>by simp at h
 | x :: l,j,0,t,k,r,h,hr=>by
  simp at h;subst h
  unfold q6f
  rw [q52,Nat.add_zero]
  have:=lookR_rel (s:=s) (i:=j) (n:=x.name) (k:=0) hr
  rw [Nat.zero_add] at this
  rw [this]
 | x :: l,j,m+1,t,k,r,h,hr=>by
  simp at h
  unfold q6f
  rw [q52,q5w (by omega)]
  have:=lookR_typ (s:=s) (j:=j+1) h hr
  rw [show j+(m+1)=j+1+m by omega]
  exact this
theorem lookR_at {s:List Ty} {i k:Nat} {t:Ty} {r:Rl} (ht:s[i]?=some t) (hr:t.rels[k]?=some r):q1n (q41 s) (i,k)=some (q2e s t.name r):=by
 have:=lookR_typ (s:=s) (j:=0) ht hr
 rw [Nat.zero_add] at this
 exact this
theorem q8l {s:List Ty} {N:Nat} (hN:q19 s≤1000) (hNN:N≤1000) {S0:q00} {bo bf bm:Nat} (d1:bf≠bo) (d2:bm≠bo) (d3:bm≠bf) (hf0:sget S0 bf=none) (hm0:sget S0 bm=none) {i k:Nat} {t:Ty} {r:Rl} (ht:s[i]?=some t) (hr:t.rels[k]?=some r)
  (hlen:(q2e s t.name r).length≤4000000) {a:Lv×Bool} {S:q00} (hI:LvI s N (q41 s) S0 bo bf bm a S) :
  ACalls PG nrx143 [q1i (i,k),.agg (tyC t),.agg (rlC r),.rop [.map (some bo)],.rop [.map (some bf)],.ptr bm 0] S fun ae S2=>ae=.ret (.int .i64 0)∧LvI s N (q41 s) S0 bo bf bm (q1k N (i,k) (q2e s t.name r) a) S2:=by
 refine wx143 ?_
 unfold Bx143
 (try simp only [rwp,hwR,zA,zB,zC,zD,zE,zF,zG,zH,zI,q1i,tyC,q0g])
 rw [hI.on.k.lkn,lookR_at ht hr]
 (try simp only [rwp,hwR,zA,zB,zC,zD,zE,zF,zG,zH,zI,lnsA])
 generalize hL:q2e s t.name r=L at hlen
 refine LoopP.introS (fun p:Nat×Lv×Bool=>[(3,.rop [.map (some bo)]),(4,.rop [.map (some bf)]),(5,.ptr bm 0),(6,.rop [.int .i64 i,.int .i64 k]),(15,.sl 3 (L.map q5x)),(16,.int .i64 L.length),(17,.int .i64 p.1)])
  (fun p S'=>p.1≤L.length∧LvI s N (q41 s) S0 bo bf bm p.2 S'∧q1k N (i,k) (L.drop p.1) p.2=q1k N (i,k) L a) (fun p=>L.length-p.1) (0,a) ⟨by omega,hI,rfl⟩ rfl ?_
 clear hI
 rintro ⟨j,lv,mo⟩ S1 ⟨hj,hI,hra⟩ q hq
 dsimp only at hj hI hra
 (try simp only [rwp,hwR,zA,zB,zC,zD,zE,zF,zG,zH,zI,C143_1])
 (refine q04 (fun hlt=>?_) (fun hlt=>?_)<;>(try simp only [hlc] at hlt))
 ·obtain ⟨l,hl⟩:=q0s hlt
  rw [q0z hl,q1k] at hra
  dsimp only at hra
  obtain ⟨o,hof,hoq⟩:=hI.of
  have hphi:=phi_shp (N:=N) hI.shp
  dsimp only at hphi
  have hM:q19 s * (N+1)≤1000 * 1001:=Nat.mul_le_mul hN (by omega)
  have bd:=fun p=>hI.bdd p
  dsimp only at bd hoq
  have hbl:=bd l.1
  have hbl2:getL lv (l.1.1,l.1.2)≤phi N lv:=bd l.1
  have hin:In lv (i,k):=in_of hI.shp ht (List.getElem?_eq_some_iff.1 hr).1
  (try simp only [rwp,hwR,zA,zB,zC,zD,zE,zF,zG,zH,zI,hl,q5x,q18])
  rw [hof.lkn,hoq]
  (try simp only [rwp,hwR,zA,zB,zC,zD,zE,zF,zG,zH,zI])
  have low:∀ m:Nat,m=getL lv l.1+l.2.toNat→C143_2 (fun ae S2=>ae=.ret (.int .i64 0)∧LvI s N (q41 s) S0 bo bf bm (q1k N (i,k) L a) S2) q (.rop [.map (some bo)]) (.rop [.map (some bf)]) (.ptr bm 0) (.rop [.int .i64 i,.int .i64 k]) (.int .i64 m) (.sl 3 (L.map q5x)) (.int .i64 L.length) (.int .i64 j) S1:=by
   intro m hm
   unfold C143_2
   rw [← hm] at hra
   (try simp only [rwp,hwR,zA,zB,zC,zD,zE,zF,zG,zH,zI])
   rw [hof.lkn,hoq]
   (try simp only [rwp,hwR,zA,zB,zC,zD,zE,zF,zG,zH,zI])
   have keep:¬ (getL lv (i,k)<m∧getL lv (i,k)≤N)→q [(3,.rop [.map (some bo)]),(4,.rop [.map (some bf)]),(5,.ptr bm 0),(6,.rop [.int .i64 i,.int .i64 k]),(15,.sl 3 (L.map q5x)),(16,.int .i64 L.length),(17,.int .i64 ((j:Int)+1))] S1:=fun h=>by
    rw [if_neg h] at hra
    exact hq (j+1,lv,mo) S1 ⟨by dsimp only;omega,hI,hra⟩ (by dsimp only;omega)
   (refine q20 (fun hg=>?_) (fun hg=>?_)<;>(try simp only [rwp,hwR,zA,zB,zC,zD,zE,zF,zG,zH,zI,hg]))
   ·have h1:getL lv (i,k)<m:=by simpa using hg
    rw [hof.lkn,hoq,hI.on.ln]
    (try simp only [rwp,hwR,zA,zB,zC,zD,zE,zF,zG,zH,zI,C143_3])
    (refine q04 (fun h2=>?_) (fun h2=>?_)<;>(try simp only [hlc] at h2))
    ·have h3:getL lv (i,k)<m∧getL lv (i,k)≤N:=⟨h1,by omega⟩
     rw [if_pos h3] at hra
     rw [hm] at h3
     obtain ⟨k1,k2⟩:=raiseN_step (N:=N) (m:=l.1) (o:=l.2) hin hI.bdd h3
     rw [← hm] at k1 k2
     refine hof.mu ke_node (i,k) fun es clk h4=>?_
     have h5:q0i (supd S1 bf (.map MN es clk)) bm=some (4,[.bool mo],1):=by rw [q0l (Ne.symm d3)];exact hI.more
     (try simp only [rwp,hwR,zA,zB,zC,zD,zE,zF,zG,zH,zI,h5])
     (simp (disch:=omega) only [q03])
     refine q09 rfl (hq (j+1,setL lv (i,k) m,true) _ ⟨by dsimp only;omega,⟨(hI.sub.supd hf0).supd hm0,(hI.on.upd d1 _).upd d2 _,⟨_,h4.upd d3 _,fun p=>?_⟩,q0h,shp_set hI.shp _ _,k1⟩,hra⟩ (by dsimp only;omega))
     dsimp only
     rw [getL_set hin]
     by_cases hp:p=(i,k)
     ·simp only [hp,if_true];rfl
     ·simp only [hp,if_false];exact hoq p
    ·(simp (disch:=omega) only [q03])
     exact q09 rfl (keep (fun h=>h2 (by omega)))
   ·have h1:¬ getL lv (i,k)<m:=by simpa using hg
    (try simp only [rwp,hwR,zA,zB,zC,zD,zE,zF,zG,zH,zI,C143_3])
    (simp (disch:=omega) only [q03])
    exact q09 rfl (keep (fun h=>h1 h.1))
  cases ho:l.2 with
  | true=>
   (try simp only [rwp,hwR,zA,zB,zC,zD,zE,zF,zG,zH,zI])
   rw [q03 (by omega) (by omega)]
   exact low (getL lv l.1+1) (by rw [ho];rfl)
  | false=>
   (try simp only [rwp,hwR,zA,zB,zC,zD,zE,zF,zG,zH,zI])
   exact low (getL lv l.1) (by rw [ho];rfl)
 ·rw [q37 hlt] at hra
  refine q02 ⟨rfl,?_⟩
  rw [← hra]
  exact hI
theorem eachR_fold {α:Type} {s:List Ty} {i:Nat} {n:ByteArray} {f:α→Nat→Rl→Int×α} {g:Rw→α→α} (hg:∀ a k r,f a k r=(0,g ((i,k),q2e s n r) a)):∀ {l:List Rl} {k:Nat} {a:α},q8h f k l a=(none,(q4o s i n k l).foldl (fun a w=>g w a) a)
 | [],k,a=>rfl
 | r :: l,k,a=>by
  simp only [q8h,q4o,List.foldl_cons,hg,if_true]
  exact eachR_fold hg
theorem q7p {α:Type} {s:List Ty} {f:α→Nat→Nat→Ty→Rl→Int×α} {g:Rw→α→α} (hg:∀ a i k t r,f a i k t r=(0,g ((i,k),q2e s t.name r) a)):∀ {l:List Ty} {i:Nat} {a:α},q5l f i l a=(none,(q6f s i l).foldl (fun a w=>g w a) a)
 | [],i,a=>rfl
 | t :: l,i,a=>by
  unfold q5l
  rw [eachR_fold (s:=s) (i:=i) (n:=t.name) (g:=g) (fun a k r=>hg a i k t r)]
  simp only [q6f,List.foldl_append]
  exact q7p hg
theorem roundF_fold {N:Nat}:∀ {w:List Rw} {a:Lv×Bool},w.foldl (fun a x=>q1k N x.1 x.2 a) a=q2w N w a
 | [],a=>rfl
 | x :: w,a=>roundF_fold (w:=w)
def upAll (w:List Rw) (a:List Rw):List Rw:=w.foldl (fun a x=>upR a x.1 x.2) a
theorem upR_new {a:List Rw} {p:Nat×Nat} {l:List Ln} (h:q1n a p=none):upR a p l=a++[(p,l)]:=by
 induction a with
 | nil=>rfl
 | cons w r ih=>
  unfold q1n at h
  split at h
  ·cases h
  ·unfold upR
   rw [if_neg ‹_›,ih h]
   rfl
def nodupR:List Rw→Prop
 | []=>True
 | w :: r=>q1n r w.1=none∧nodupR r
theorem lookR_snoc {a:List Rw} {p:Nat×Nat} {w:Rw} (h:q1n a p=none) (hp:p≠w.1):q1n (a++[w]) p=none:=by
 rw [q52,h]
 simp [q1n,hp]
theorem upAll_app:∀ {w:List Rw} {a:List Rw},nodupR w→(∀ x∈w,q1n a x.1=none)→upAll w a=a++w
 | [],a,_,_=>by simp [upAll]
 | x :: w,a,hd,h=>by
  have h1:=upR_new (l:=x.2) (h x (by simp))
  have ih:=upAll_app (w:=w) (a:=a++[x]) hd.2 fun y hy=>lookR_snoc (h y (List.mem_cons_of_mem _ hy)) fun e=>by
   have h2:=hd.1
   have:∀ {r:List Rw} {y:Rw},y∈r→q1n r y.1≠none:=by
    intro r y hy
    induction r with
    | nil=>cases hy
    | cons z r ih=>
     unfold q1n
     split
     ·simp
     ·rename_i hne
      rcases List.mem_cons.1 hy with rfl | hy
      ·exact absurd rfl hne
      ·exact ih hy
   exact this hy (by rw [e];exact h2)
  simp only [upAll,List.foldl_cons] at ih ⊢
  rw [h1,ih,List.append_assoc]
  rfl
theorem nodup_app {a b:List Rw} (ha:nodupR a) (hb:nodupR b) (h:∀ x∈a,q1n b x.1=none):nodupR (a++b):=by
 induction a with
 | nil=>exact hb
 | cons x a ih=>
  refine ⟨?_,ih ha.2 fun y hy=>h y (List.mem_cons_of_mem _ hy)⟩
  show q1n (a++b) x.1=none
  rw [q52,ha.1]
  exact h x (by simp)
theorem rowsR_key {s:List Ty} {i:Nat} {n:ByteArray}:∀ {l:List Rl} {k:Nat} {x:Rw},x∈q4o s i n k l→x.1.1=i
 | [],k,x,h=>by cases h
 | r :: l,k,x,h=>by
  simp only [q4o,List.mem_cons] at h
  rcases h with rfl | h
  ·rfl
  ·exact rowsR_key h
theorem lookT_less {s:List Ty}:∀ {l:List Ty} {i:Nat} {p:Nat×Nat},p.1<i→q1n (q6f s i l) p=none
 | [],i,p,h=>rfl
 | t :: l,i,(a,b),h=>by
  unfold q6f
  rw [q52,q5w (by dsimp only at h;omega)]
  exact lookT_less (by dsimp only at h ⊢;omega)
theorem nodup_R {s:List Ty} {i:Nat} {n:ByteArray}:∀ {l:List Rl} {k:Nat},nodupR (q4o s i n k l)
 | [],k=>trivial
 | r :: l,k=>⟨lookR_none (by omega),nodup_R⟩
theorem nodup_T {s:List Ty}:∀ {l:List Ty} {i:Nat},nodupR (q6f s i l)
 | [],i=>trivial
 | t :: l,i=>nodup_app nodup_R nodup_T fun x hx=>lookT_less (by have:=rowsR_key hx;omega)
theorem rows_all (s:List Ty):upAll (q41 s) []=q41 s:=upAll_app nodup_T fun _ _=>rfl
theorem leans_len {s:List Ty} (hN:OkN s) {t:ByteArray} {r:Rl} (hr:rsz r≤1000):(q2e s t r).length≤4000000:=by
 unfold q2e
 unfold rsz at hr
 split
 ·have h1:=q7l r.ex false
  have h2:=flat_le (f:=fun p:Ex×Bool=>leafF s t p.1 p.2) (n:=1001) (fun _=>leafF_le hN) (l:=q1a r.ex false)
  omega
 ·have:=List.length_filterMap_le (q3z s) r.refs
  omega
theorem c_rules_levels {s:List Ty} (hs:OkS s) (hN:OkN s) (hF:FoundS s) (hM:q19 s≤256) {S:q00} {b1 b2:Nat} (I:IxS S b1 b2 s) :
  ACalls PG nrx93 [ixP s b1 b2] S fun ae S'=>∃ bf o,ae=.ret (.tup [.map (some bf),.int .i64 (q19 s)])∧KMap MN q1i S' bf o∧(∀ p,q28 false (.int .i64 0) (o p)=.int .i64 (getL (levF s) p))∧Sub S S':=by
 refine wx93 ?_
 unfold Bx93
 (try simp only [rwp,hwR,zA,zB,zC,zD,zE,zF,zG,zH,zI])
 refine KMap.mm (enc:=q1i) fun bf hbf kf=>?_
 have hsf:Sub S (supd S bf (.map MN [] 0)):=Sub.fresh _ hbf
 have I:=I.sub hsf
 generalize supd S bf (.map MN [] 0)=Sf at kf hsf I ⊢
 refine KMapL.mm (enc:=q1i) fun bo hbo ko=>?_
 have d1:bf≠bo:=fun e=>kf.is (e ▸ hbo)
 have hs1:Sub Sf (supd Sf bo (.map MN [] 0)):=Sub.fresh _ hbo
 generalize supd Sf bo (.map MN [] 0)=S1 at ko hs1 ⊢
 refine alst2 rfl rfl rfl rfl rfl rfl ?_
 (try simp only [rwp,hwR,zA,zB,zC,zD,zE,zF,zG,zH,zI])
 have h1:=q5c (b1:=b1) (b2:=b2) (g:=nrx141) (fi:=[]) (ca:=[.rop [ixP s b1 b2],.rop [.map (some bo)]]) (fun (a:List Rw) S'=>OnM Sf S' bo a) (fun a i k t r=>(0,upR a (i,k) (q2e s t.name r))) hs
  (fun i k t r a S' ht hr hI=>q8m hs hN hF I hbo ht hr hI) [] S1 ⟨hs1,ko⟩
 have e1:q5l (fun (a:List Rw) i k t r=>((0:Int),upR a (i,k) (q2e s t.name r))) 0 s []=(none,q41 s):=by
  rw [q7p (s:=s) (g:=fun w a=>upR a w.1 w.2) (fun a i k t r=>rfl)]
  exact congrArg (Prod.mk none) (rows_all s)
 rw [e1] at h1
 refine q0c h1 ?_
 rintro _ S2 ⟨rfl,hs2,ko⟩
 clear h1 e1 hs1
 dsimp only
 have ko:KMapL MN q1i S2 bo (fun p=>(q1n (q41 s) p).map lnsA) (q19 s):=ko.cong (fun _=>rfl) (rows_len s)
 have kf:=kf.sub hs2
 have hs3:=hsf.trans hs2
 intro bm hbm
 have m1:bm≠bo:=fun e=>ko.k.is (e ▸ hbm)
 have m2:bm≠bf:=fun e=>kf.is (e ▸ hbm)
 (try simp only [rwp,hwR,zA,zB,zC,zD,zE,zF,zG,zH,zI])
 have hphi0:∀ lv,Shp lv s→phi (q19 s) lv≤q19 s * (q19 s+1):=fun lv h=>phi_shp h
 have hMM:q19 s * (q19 s+1)≤256 * 257:=Nat.mul_le_mul hM (by omega)
 refine LoopP.introS (fun p:Nat×Lv×Bool=>[(1,.rop [ixP s b1 b2]),(4,.rop [.map (some bf)]),(5,.rop [.map (some bo)]),(6,.ptr p.1 0)])
  (fun p S'=>sget S p.1=none∧p.1≠bo∧p.1≠bf∧LvI s (q19 s) (q41 s) S bo bf p.1 p.2 S'∧(p.2.2=true→∀ F,q19 s * (q19 s+1)<F+phi (q19 s) p.2.1→iterF (q19 s) (q41 s) F p.2.1=levF s)∧(p.2.2=false→p.2.1=levF s))
  (fun p=>2 * (q19 s * (q19 s+1)-phi (q19 s) p.2.1)+p.2.2.toNat) (bm,zeroL s,true)
  ⟨Sub.none hs3 hbm,m1,m2,⟨hs3.supd (Sub.none hs3 hbm),ko.fresh hbm _,⟨_,kf.fresh hbm _,fun p=>?_⟩,q0h,shp_zero s,bdd_zero⟩,fun _ F hF2=>q7m (rows_ok s) (shp_zero s) bdd_zero hF2 (by omega),fun h=>by cases h⟩ rfl ?_
 ·have h0:getL (zeroL s) p=0:=by
   have:=bdd_zero (N:=0) (s:=s) p
   unfold getL zeroL
   rw [List.getElem?_map]
   cases s[p.1]? with
   | none=>simp
   | some t=>
    simp only [Option.map_some,Option.getD_some,List.getElem?_replicate]
    split<;>rfl
  rw [h0]
  rfl
 rintro ⟨cm,lv,mo⟩ S3 ⟨hcm,m1,m2,hI,hy,hn⟩ q hq
 dsimp only at hcm m1 m2 hI hy hn
 (try simp only [rwp,hwR,zA,zB,zC,zD,zE,zF,zG,zH,zI,C93_1,q07 hI.more])
 cases mo with
 | false=>
  (try simp only [rwp,hwR,zA,zB,zC,zD,zE,zF,zG,zH,zI])
  obtain ⟨o,ho1,ho2⟩:=hI.of
  rw [hI.on.ln]
  refine rtW_two ⟨bf,o,rfl,ho1,fun p=>?_,hI.sub⟩
  rw [ho2,hn rfl]
 | true=>
  (try simp only [rwp,hwR,zA,zB,zC,zD,zE,zF,zG,zH,zI,hI.more])
  have hI2:LvI s (q19 s) (q41 s) S bo bf cm (lv,false) (supd S3 cm (.cells 4 [.bool false] 1)):=by
   obtain ⟨o,ho1,ho2⟩:=hI.of
   exact ⟨hI.sub.supd hcm,hI.on.upd m1 _,⟨o,ho1.upd m2 _,ho2⟩,q0h,hI.shp,hI.bdd⟩
  have h2:=q5c (b1:=b1) (b2:=b2) (g:=nrx143) (fi:=[]) (ca:=[.rop [.map (some bo)],.rop [.map (some bf)],.ptr cm 0]) (fun (a:Lv×Bool) S'=>LvI s (q19 s) (q41 s) S bo bf cm a S') (fun a i k t r=>(0,q1k (q19 s) (i,k) (q2e s t.name r) a)) hs
   (fun i k t r a S' ht hr hI=>q8l (by omega) (by omega) d1 m1 m2 hbf hcm ht hr (leans_len hN (hN t (List.mem_of_getElem? ht) r (List.mem_of_getElem? hr))) hI) (lv,false) _ hI2
  have e2:q5l (fun (a:Lv×Bool) i k t r=>((0:Int),q1k (q19 s) (i,k) (q2e s t.name r) a)) 0 s (lv,false)=(none,q2w (q19 s) (q41 s) (lv,false)):=by
   rw [q7p (s:=s) (g:=fun w a=>q1k (q19 s) w.1 w.2 a) (fun a i k t r=>rfl)]
   exact congrArg (Prod.mk none) roundF_fold
  rw [e2] at h2
  refine q0c h2 ?_
  rintro _ S4 ⟨rfl,hI3⟩
  obtain ⟨k1,k2,k3,k4,k5,k6⟩:=q5t (N:=q19 s) (a:=(lv,false)) (rows_ok s) hI2.shp hI2.bdd
  generalize hR:q2w (q19 s) (q41 s) (lv,false)=R at hI3 k1 k2 k3 k4 k5 k6
  obtain ⟨lv2,mo2⟩:=R
  dsimp only at hI3 k1 k2 k3 k4 k5 k6
  (try simp only [rwp,hwR,zA,zB,zC,zD,zE,zF,zG,zH,zI,q07 hI3.more])
  intro dm hdm
  have hdm':=Sub.none hI3.sub hdm
  have n1:dm≠bo:=fun e=>hI3.on.k.is (e ▸ hdm)
  have n2:dm≠bf:=fun e=>by
   obtain ⟨o,ho1,-⟩:=hI3.of
   exact ho1.is (e ▸ hdm)
  (try simp only [rwp,hwR,zA,zB,zC,zD,zE,zF,zG,zH,zI])
  have hi:=fun F=>show iterF (q19 s) (q41 s) (F+1) lv=if mo2=true then iterF (q19 s) (q41 s) F lv2 else lv2 by rw [iterF,hR]
  have hp1:=hphi0 lv hI.shp
  have hp2:=hphi0 lv2 k1
  refine q09 rfl (hq (dm,lv2,mo2) _ ⟨hdm',n1,n2,?_,fun h F hF2=>?_,fun h=>?_⟩ ?_)
  ·obtain ⟨o,ho1,ho2⟩:=hI3.of
   exact ⟨hI3.sub.supd hdm',hI3.on.fresh hdm _,⟨o,ho1.fresh hdm _,ho2⟩,q0h,k1,k2⟩
  ·dsimp only at h hF2 ⊢
   subst h
   have:=k5 rfl rfl
   have h3:=hy rfl (q19 s * (q19 s+1)+1+1) (by omega)
   rw [hi,if_pos rfl] at h3
   exact (q7m (rows_ok s) k1 k2 hF2 (by omega)).trans h3
  ·dsimp only at h ⊢
   subst h
   have h3:=hy rfl (q19 s * (q19 s+1)+1+1) (by omega)
   rw [hi,if_neg (by simp)] at h3
   exact h3
  ·dsimp only
   cases mo2 with
   | false=>simp only [Bool.toNat_false,Bool.toNat_true];omega
   | true=>have:=k5 rfl rfl;omega
set_option maxRecDepth 4000
theorem eachR_none {α:Type} {f:α→Nat→Rl→Int×α} {g:Nat→Rl→Int} (hg:∀ a k r,(f a k r).1=g k r):∀ {l:List Rl} {k:Nat} {a:α},(q8h f k l a).1=none→∀ (m:Nat) (r:Rl),l[m]?=some r→g (k+m) r=0
 | [],k,a,h,m,r,hr=>by simp at hr
 | x :: l,k,a,h,m,r,hr=>by
  unfold q8h at h
  split at h
  ·rename_i h0
   rw [hg] at h0
   cases m with
   | zero=>simp at hr;subst hr;exact h0
   | succ m=>
    simp at hr
    have:=eachR_none hg h m r hr
    rw [show k+(m+1)=k+1+m by omega]
    exact this
  ·cases h
theorem eachT_none {α:Type} {f:α→Nat→Nat→Ty→Rl→Int×α} {g:Nat→Nat→Ty→Rl→Int} (hg:∀ a i k t r,(f a i k t r).1=g i k t r):∀ {l:List Ty} {i:Nat} {a:α},(q5l f i l a).1=none→∀ (m:Nat) (t:Ty) (k:Nat) (r:Rl),l[m]?=some t→t.rels[k]?=some r→g (i+m) k t r=0
 | [],i,a,h,m,t,k,r,ht,_=>by simp at ht
 | x :: l,i,a,h,m,t,k,r,ht,hr=>by
  unfold q5l at h
  split at h
  ·cases h
  ·rename_i a' hq
   cases m with
   | zero=>
    simp at ht;subst ht
    have:=eachR_none (g:=fun k r=>g i k x r) (fun a k r=>hg a i k x r) (k:=0) (a:=a) (by rw [hq]) k r hr
    simpa using this
   | succ m=>
    simp at ht
    have:=eachT_none hg h m t k r ht hr
    rw [show i+(m+1)=i+1+m by omega]
    exact this
theorem eachF_none {s:List Ty} {f:Nat→Nat→Ty→Rl→Int} (h:q5m s f=none) {i k:Nat} {t:Ty} {r:Rl} (ht:s[i]?=some t) (hr:t.rels[k]?=some r):f i k t r=0:=by
 have:=eachT_none (f:=fun (_:Unit) i k t r=>(f i k t r,())) (g:=f) (fun _ _ _ _ _=>rfl) h i t k r ht hr
 simpa using this
structure GoodS (s:List Ty):Prop where
 some:s.length≠0
 may:scB s=true
 size:szF s=flA 0 0 0
 once:∀ {i k:Nat} {t:Ty} {r:Rl},s[i]?=.some t→t.rels[k]?=.some r→fiN s t.name r.name=(i,k)
 name:∀ {i k:Nat} {t:Ty} {r:Rl},s[i]?=.some t→t.rels[k]?=.some r→q33 s t.name r=0
theorem q40 {a b c:Int}:errA (flA a b c)=c:=rfl
theorem szF_ok {s:List Ty} (h:errA (szF s)=0):szF s=flA 0 0 0∧s.length≤16∧(∀ t∈s,t.rels.length≤16)∧dupI [] s=none:=by
 unfold szF at h ⊢
 split at h
 ·rw [q40] at h;omega
 ·rename_i h1
  rw [if_neg h1]
  split at h
  ·rw [q40] at h;omega
  ·rename_i h2
   split at h
   ·rw [q40] at h;omega
   ·rename_i h3
    refine ⟨rfl,by omega,fun t ht=>?_,by first | rfl | assumption⟩
    obtain ⟨i,hi⟩:=List.getElem?_of_mem ht
    have:=firstI_none.1 h2 i t hi
    simp only [decide_eq_false_iff_not] at this
    omega
theorem plain_good {s:List Ty} (h:errA (q42 s)=0):GoodS s:=by
 unfold q42 at h
 split at h
 ·rw [q40] at h;omega
 ·rename_i h1
  split at h
  ·rename_i h2;exact absurd h h2
  ·rename_i h2
   have h2:errA (szF s)=0:=by omega
   split at h
   ·rename_i i k e hq
    have:=eachF_err hq
    rw [q40] at h
    exact absurd h this
   ·rename_i hq
    have hn:q5m s (fun _ _ t r=>q33 s t.name r)=none:=by
     cases hq2:q5m s (fun _ _ t r=>q33 s t.name r) with
     | none=>rfl
     | some q=>
      obtain ⟨i,k,e⟩:=q
      have:=eachF_err hq2
      rw [hq2] at h
      exact absurd h this
    refine ⟨fun h=>h1 (.inl h),?_,(szF_ok h2).1,fun ht hr=>?_,fun ht hr=>eachF_none hn ht hr⟩
    ·cases hb:scB s with
     | true=>rfl
     | false=>exact absurd (.inr hb) h1
    ·have:=eachF_none hq ht hr
     unfold q80 at this
     split at this
     ·assumption
     ·omega
theorem firstZ_zero {f:Ex→Int}:∀ {l:List (Ex×Bool)},q87 f l=0→∀ p∈l,f p.1=0
 | [],h,p,hp=>by cases hp
 | (e,o) :: r,h,p,hp=>by
  unfold q87 at h
  split at h
  ·rename_i h0
   rcases List.mem_cons.1 hp with rfl | hp
   ·exact h0
   ·exact firstZ_zero h p hp
  ·rename_i h0;exact absurd h h0
theorem GoodS.found {s:List Ty} (h:GoodS s):FoundS s:=by
 intro t ht r hr h0 p hp
 obtain ⟨i,hi⟩:=List.getElem?_of_mem ht
 obtain ⟨k,hk⟩:=List.getElem?_of_mem hr
 have:=h.name hi hk
 unfold q33 at this
 split at this
 ·try rw [if_pos h0] at this
  have h2:=firstZ_zero this p hp
  unfold q8o at h2
  split at h2
  ·omega
  ·rename_i q hq;rw [hq];rfl
 ·omega
theorem GoodS.sizes {s:List Ty} (h:GoodS s):s.length≤16∧(∀ t∈s,t.rels.length≤16)∧dupI [] s=none:=(szF_ok (by rw [h.size];rfl)).2
theorem manyF_le {s:List Ty} (h1:s.length≤16) (h2:∀ t∈s,t.rels.length≤16):q19 s≤256:=by
 have key:∀ l:List Ty,(∀ t∈l,t.rels.length≤16)→q19 l≤l.length * 16:=by
  intro l
  induction l with
  | nil=>intro _;simp [q19]
  | cons t l ih=>
   intro h
   have:=ih fun u hu=>h u (List.mem_cons_of_mem _ hu)
   have:=h t (by simp)
   simp only [q19,List.map_cons,List.sum_cons,List.length_cons] at *
   omega
 have:=key s h2
 omega
theorem GoodS.many {s:List Ty} (h:GoodS s):q19 s≤256:=manyF_le h.sizes.1 h.sizes.2.1
def cycF (s:List Ty) (i k:Nat) (_:Ty) (_:Rl):Int:=if q19 s<getL (levF s) (i,k) then 11 else 0
def chkF (s:List Ty):AV:=if errA (q42 s)≠0 then q42 s else flO (q5m s (cycF s))
theorem plainF_fl (s:List Ty):∃ t r e,q42 s=flA t r e:=by
 unfold q42
 split
 ·exact ⟨_,_,_,rfl⟩
 ·split
  ·exact szF_fl s
  ·split
   ·exact ⟨_,_,_,rfl⟩
   ·cases q5m s (fun _ _ t r=>q33 s t.name r) with
    | none=>exact ⟨_,_,_,rfl⟩
    | some q=>exact ⟨_,_,_,rfl⟩
theorem c_rules_Check_1 {s:List Ty} {S:q00} {bf:Nat} {o:Nat×Nat→Option AV} (h1:KMap MN q1i S bf o) (h2:∀ p,q28 false (.int .i64 0) (o p)=.int .i64 (getL (levF s) p)) {i k:Nat} {t:Ty} {r:Rl} :
  AFunS PG nrx95 [q1i (i,k),.agg (tyC t),.agg (rlC r),.rop [.map (.some bf)],.rop [.int .i64 (q19 s)]] S (.int .i64 (cycF s i k t r)):=by
 refine wx95 ?_
 unfold Bx95
 (try simp only [rwp,hwR,zA,zB,zC,zD,zE,zF,zG,zH,zI,q1i,tyC,q0g])
 rw [h1.lkn,h2]
 (try simp only [rwp,hwR,zA,zB,zC,zD,zE,zF,zG,zH,zI])
 (refine q04 (fun h=>?_) (fun h=>?_)<;>(try simp only [hlc] at h))
 ·exact q02 ⟨by rw [cycF,if_pos (by omega)],rfl⟩
 ·exact q02 ⟨by rw [cycF,if_neg (by omega)],rfl⟩
theorem q70 {s:List Ty} (hs:OkS s) (hN:OkN s):AFun PG nrx47 [scA s] (chkF s):=by
 intro S
 refine wx47 ?_
 unfold Bx47
 (try simp only [rwp,hwR,zA,zB,zC,zD,zE,zF,zG,zH,zI,scA])
 intro b hb
 (try simp only [rwp,hwR,zA,zB,zC,zD,zE,zF,zG,zH,zI])
 refine q0c (q5b hs _) ?_
 rintro _ S1 ⟨b1,b2,rfl,I,hsub⟩
 have hsb:=objAt_some.2 (hsub b _ (by rw [q01,if_pos rfl]))
 have hS1:Sub S S1:=(Sub.fresh _ hb).trans hsub
 dsimp only
 refine q1l (c_rules_plain hs hN I) ?_
 obtain ⟨ft,fr,fe,hp⟩:=plainF_fl s
 rw [hp]
 (try simp only [rwp,hwR,zA,zB,zC,zD,zE,zF,zG,zH,zI,flA])
 (refine q04 (fun h0=>?_) (fun h0=>?_)<;>(try simp only [hlc] at h0))
 ·(try simp only [rwp,hwR,zA,zB,zC,zD,zE,zF,zG,zH,zI,hsb])
  refine q0y S (hS1.supd hb) ?_
  (try simp only [rwp,hwR,zA,zB,zC,zD,zE,zF,zG,zH,zI])
  rw [chkF,hp,q40,if_pos h0];rfl
 ·have hgood:GoodS s:=plain_good (by rw [hp,q40];omega)
  refine q0c (c_rules_levels hs hN hgood.found hgood.many I) ?_
  rintro _ S2 ⟨bf,o,rfl,hm,ho,hsub2⟩
  (try simp only [rwp,hwR,zA,zB,zC,zD,zE,zF,zG,zH,zI])
  refine alst2 rfl rfl rfl rfl rfl rfl ?_
  (try simp only [rwp,hwR,zA,zB,zC,zD,zE,zF,zG,zH,zI])
  have h1:=q4g (b1:=b1) (b2:=b2) (g:=nrx95) (fi:=[]) (ca:=[.rop [.map (.some bf)],.rop [.int .i64 (q19 s)]]) (f:=cycF s) hs (S:=S2) fun i k t r ht hr=>c_rules_Check_1 hm ho
  refine q1l h1 ?_
  have hsb2:=objAt_some.2 (hsub2 b _ (objAt_some.1 hsb))
  have fin:∀ x y z:Int,flO (q5m s (cycF s))=flA x y z→rtW [.cell (.ptr b 0) 3 true] (fun ae S'=>ae=.ret (chkF s)∧S'=S) (supd S2 b (.cells 88 [.int .i64 x,.int .i64 y,.int .i64 z] 3)):=by
   intro x y z h
   refine q0y S ((hS1.trans hsub2).supd hb) ?_
   (try simp only [rwp,hwR,zA,zB,zC,zD,zE,zF,zG,zH,zI])
   rw [chkF,hp,q40,if_neg (by omega),h];rfl
  cases hq:q5m s (cycF s) with
  | none=>
   rw [hq] at fin
   (try simp only [rwp,hwR,zA,zB,zC,zD,zE,zF,zG,zH,zI,flO,flA,hsb2])
   exact fin _ _ _ rfl
  | some q=>
   obtain ⟨i,k,e⟩:=q
   rw [hq] at fin
   (try simp only [rwp,hwR,zA,zB,zC,zD,zE,zF,zG,zH,zI,flO,flA,hsb2])
   exact fin _ _ _ rfl
set_option maxRecDepth 4000
theorem chk_good {s:List Ty} (h:errA (chkF s)=0):GoodS s:=by
 unfold chkF at h
 split at h
 ·rename_i h1;exact absurd h h1
 ·rename_i h1;exact plain_good (by omega)
theorem chkF_fl (s:List Ty):∃ t r e,chkF s=flA t r e:=by
 unfold chkF
 split
 ·exact plainF_fl s
 ·cases q5m s (cycF s) with
  | none=>exact ⟨_,_,_,rfl⟩
  | some q=>exact ⟨_,_,_,rfl⟩
set_option maxRecDepth 4000
set_option maxRecDepth 4000
set_option maxRecDepth 4000
theorem esz_kid {k:Int} {n o:ByteArray} {ks:List Ex} {x:Ex} (h:x∈ks):esz x≤esz (.mk k n o ks):=by
 have:∀ l:List Ex,x∈l→esz x≤eszL l:=by
  intro l
  induction l with
  | nil=>intro h;cases h
  | cons y l ih=>
   intro h
   rw [eszL]
   rcases List.mem_cons.1 h with rfl | h
   ·omega
   ·have:=ih h;omega
 have:=this ks h
 rw [esz]
 omega
set_option maxRecDepth 4000
set_option maxRecDepth 4000
set_option maxRecDepth 4000
theorem sum_mem:∀ {l:List Nat} {x:Nat},x∈l→x≤l.sum
 | [],x,h=>by cases h
 | y :: l,x,h=>by
  rw [List.sum_cons]
  rcases List.mem_cons.1 h with rfl | h
  ·omega
  ·have:=sum_mem h;omega
theorem few_N {s:List Ty} {most:Int} (h:fewF s most=true) (hm:most≤1000):OkN s:=by
 have h1:=few_size h
 intro t ht r hr
 have h2:rsz r≤tsz t:=by
  unfold tsz
  exact sum_mem (List.mem_map_of_mem hr)
 have h3:tsz t≤(s.map tsz).sum:=sum_mem (List.mem_map_of_mem ht)
 unfold ssz at h1
 omega
set_option maxRecDepth 4000
structure Ob where
 ty:ByteArray
 id:ByteArray
 deriving DecidableEq
structure Nd where
 o:Ob
 rl:ByteArray
 deriving DecidableEq
structure Tu where
 o:Ob
 rl:ByteArray
 s:Nd
 deriving DecidableEq
def obC (o:Ob):List AV:=[.str o.ty,.str o.id]
def ndC (n:Nd):List AV:=[.str n.o.ty,.str n.o.id,.str n.rl]
def tuC (t:Tu):List AV:=[.str t.o.ty,.str t.o.id,.str t.rl,.str t.s.o.ty,.str t.s.o.id,.str t.s.rl]
structure OkO (o:Ob):Prop where
 ty:o.ty.size≤1125899906842624
 id:o.id.size≤1125899906842624
structure OkD (n:Nd):Prop where
 o:OkO n.o
 rl:n.rl.size≤1125899906842624
structure OkU (t:Tu):Prop where
 o:OkO t.o
 rl:t.rl.size≤1125899906842624
 s:OkD t.s
theorem c_names_great (n:Int):AFun PG nrx201 [.int .u8 n] (.bool (greatN n)):=by
 intro S
 refine wx201 ?_
 unfold Bx201
 (try simp only [rwp,zA,zB,zC,zD,zE,zF,zG,zH,zI])
 exact q02 ⟨rfl,rfl⟩
theorem q7w (s:ByteArray) (c:Int):AFun PG 216 [.str s,.int .u8 c] (.int .i64 (Lib.indexByte s.data.toList c.toNat.toUInt8)):=by
 intro S R w vs hs hv
 obtain ⟨l⟩:=vs
 match l,hv with
 | [],hv=>cases hv.1
 | [_],hv=>cases hv.1
 | _ :: _ :: _ :: _,hv=>cases hv.1
 | [a,b],hv=>
  have h1:RV R w (.str s) a:=hv.head
  have h2:RV R w (.int .u8 c) b:=hv.tail.head
  cases h1
  cases h2
  refine .inr ⟨_,w,?_,R,S,.ret (.int .i64 (Lib.indexByte s.data.toList c.toNat.toUInt8)),.int _ _,⟨rfl,rfl⟩,hs,Step.refl _ _ _⟩
  rw [run_callFunc_extern Go.Proofs.Tryz.func216 (by kernel_rfl) (by kernel_rfl) (by kernel_rfl) (e:=Extern.BytealgIndexByte.indexByte) (by kernel_rfl),Lib.run_indexByteString]
  rfl
theorem c_IndexByte0 (s:ByteArray) (c:Int):AFun PG nrx213 [.str s,.int .u8 c] (.int .i64 (Lib.indexByte s.data.toList c.toNat.toUInt8)):=by
 intro S
 refine wx213 ?_
 unfold Bx213
 refine q05 (q7w s c) ?_
 exact q02 ⟨rfl,rfl⟩
theorem c_IndexByte (s:ByteArray) (c:Int):AFun PG nrx202 [.str s,.int .u8 c] (.int .i64 (Lib.indexByte s.data.toList c.toNat.toUInt8)):=by
 intro S
 refine wx202 ?_
 unfold Bx202
 refine q05 (c_IndexByte0 s c) ?_
 exact q02 ⟨rfl,rfl⟩
def signN (n:Int):Bool:=decide (n=95)||(decide (n=46)||decide (n=45))
theorem sign_idx {b:UInt8}:decide ((0:Int)≤Lib.indexByte [95,46,45] b.toNat.toUInt8)=signN b.toNat:=by
 have key:∀ n:Fin 256,decide ((0:Int)≤Lib.indexByte [95,46,45] n.1.toUInt8)=signN n.1:=by decide +kernel
 exact key ⟨b.toNat,b.toNat_lt⟩
def idN (n:Int):Bool:=q5o n||(greatN n||(digitN n||signN n))
theorem c_names_ID_1 (b:UInt8):AFun PG nrx200 [.int .u8 b.toNat] (.bool (idN b.toNat)):=by
 intro S
 refine wx200 ?_
 unfold Bx200
 refine q05 (q4h b.toNat) ?_
 cases h1:q5o b.toNat
 ·(try simp only [rwp,zA,zB,zC,zD,zE,zF,zG,zH,zI])
  refine q05 (c_names_great b.toNat) ?_
  cases h2:greatN b.toNat
  ·(try simp only [rwp,zA,zB,zC,zD,zE,zF,zG,zH,zI,C200_1])
   refine q05 (q71 b.toNat) ?_
   cases h3:digitN b.toNat
   ·(try simp only [rwp,zA,zB,zC,zD,zE,zF,zG,zH,zI,C200_2])
    refine q05 (c_IndexByte _ _) ?_
    (try simp only [rwp,zA,zB,zC,zD,zE,zF,zG,zH,zI])
    exact q02 ⟨by rw [sign_idx];simp [idN,h1,h2,h3],rfl⟩
   ·(try simp only [rwp,zA,zB,zC,zD,zE,zF,zG,zH,zI,C200_2])
    exact q02 ⟨by simp [idN,h1,h2,h3],rfl⟩
  ·(try simp only [rwp,zA,zB,zC,zD,zE,zF,zG,zH,zI,C200_1,C200_2])
   exact q02 ⟨by simp [idN,h1,h2],rfl⟩
 ·(try simp only [rwp,zA,zB,zC,zD,zE,zF,zG,zH,zI,C200_1,C200_2])
  exact q02 ⟨by simp [idN,h1],rfl⟩
def idB (s:ByteArray):Bool:=allB idN s&&(decide ((0:Int)<s.size)&&decide ((s.size:Int)≤24))
theorem c_names_ID {s:ByteArray} (hs:s.size≤1125899906842624):AFun PG nrx168 [.str s] (.bool (idB s)):=by
 intro S
 refine wx168 ?_
 unfold Bx168
 refine q05 (q8b c_names_ID_1 hs 24) ?_
 exact q02 ⟨rfl,rfl⟩
theorem nb1:∀ a b c d e:Bool,(!(a&&b)&&!c&&!d&&!e)=!((a&&b)||(c||(d||e))):=by decide
theorem nb2:∀ z a b c d e:Bool,(!z&&!(a&&b)&&!c&&!d&&!e)=!(z||((a&&b)||(c||(d||e)))):=by decide
theorem c_ref10_ID {s:ByteArray} (hs:s.size≤1125899906842624):AFun PG nrx79 [.str s] (.bool (idB s)):=by
 intro S
 refine wx79 ?_
 unfold Bx79
 (try simp only [rwp,zA,zB,zC,zD,zE,zF,zG,zH,zI,C79_1])
 (refine q04 (fun h0=>?_) (fun h0=>?_)<;>(try simp only [rwp,zA,zB,zC,zD,zE,zF,zG,zH,zI,h0]))
 ·simp only [Bool.or_eq_true,decide_eq_true_eq] at h0
  refine q02 ⟨?_,rfl⟩
  have:idB s=false:=by
   rcases h0 with h | h
   ·simp only [idB,decide_eq_false (show ¬ (0:Int)<s.size by omega),Bool.false_and,Bool.and_false]
   ·simp only [idB,decide_eq_false (show ¬ (s.size:Int)≤24 by omega),Bool.and_false]
  rw [this]
 ·simp only [Bool.or_eq_false_iff,decide_eq_false_iff_not] at h0
  refine LoopP.intro (fun i:Nat=>[(0,.str s),(3,.int .i64 i)]) (fun _=>S) (fun i=>i≤s.size∧∀ j b,j<i→s[j]?=some b→idN b.toNat=true) (fun i=>s.size-i) 0 ⟨by omega,by omega⟩ rfl (Sub.refl S) ?_
  rintro i ⟨hi,hn⟩ r hr
  (try simp only [rwp,zA,zB,zC,zD,zE,zF,zG,zH,zI,C79_2])
  (refine q04 (fun hlt=>?_) (fun hlt=>?_)<;>(try simp only [hlc] at hlt))
  ·obtain ⟨b,hb⟩:=q4i hlt
   (try simp only [rwp,zA,zB,zC,zD,zE,zF,zG,zH,zI,hb])
   have good:idN b.toNat=true→r [(0,.str s),(3,.int .i64 ((i:Int)+1))] S:=fun h=>by
    refine hr (i+1) ⟨by omega,fun j c hj hc=>?_⟩ (by omega)
    rcases Nat.lt_succ_iff_lt_or_eq.1 hj with h1 | rfl
    ·exact hn j c h1 hc
    ·rw [hb] at hc;cases hc;exact h
   have bad:idN b.toNat=false→idB s=false:=fun h=>by simp only [idB,q7y hb h,Bool.false_and]
   cases a1:(decide (97≤(b.toNat:Int))&&decide ((b.toNat:Int)≤122))<;>cases a2:decide (65≤(b.toNat:Int))<;>(try simp only [rwp,zA,zB,zC,zD,zE,zF,zG,zH,zI,C79_3,C79_4,C79_5,C79_6,C79_7,C79_8,C79_9,C79_10,a1,a2])
   all_goals have key:idN b.toNat=((decide (97≤(b.toNat:Int))&&decide ((b.toNat:Int)≤122))||((decide (65≤(b.toNat:Int))&&decide ((b.toNat:Int)≤90))||((decide (48≤(b.toNat:Int))&&decide ((b.toNat:Int)≤57))||(decide ((b.toNat:Int)=95)||(decide ((b.toNat:Int)=46)||decide ((b.toNat:Int)=45)))))):=rfl
   all_goals rw [a1,a2] at key
   ·simp only [Bool.false_or,Bool.false_and] at key
    (refine q04 (fun h9=>?_) (fun h9=>?_)<;>(try simp only [rwp,zA,zB,zC,zD,zE,zF,zG,zH,zI,h9]))
    ·exact q02 ⟨by rw [bad (key.trans (Eq.mp (Bool.not_eq_true' _) ((nb1 _ _ _ _ _).symm.trans h9)))],rfl⟩
    ·(simp (disch:=omega) only [q03]);exact q09 rfl (good (key.trans (Eq.mp (Bool.not_eq_false' _) ((nb1 _ _ _ _ _).symm.trans h9))))
   ·simp only [Bool.false_or,Bool.true_and] at key
    (refine q04 (fun h9=>?_) (fun h9=>?_)<;>(try simp only [rwp,zA,zB,zC,zD,zE,zF,zG,zH,zI,h9]))
    ·exact q02 ⟨by rw [bad (key.trans (Eq.mp (Bool.not_eq_true' _) ((nb2 _ _ _ _ _ _).symm.trans h9)))],rfl⟩
    ·(simp (disch:=omega) only [q03]);exact q09 rfl (good (key.trans (Eq.mp (Bool.not_eq_false' _) ((nb2 _ _ _ _ _ _).symm.trans h9))))
   ·(simp (disch:=omega) only [q03]);exact q09 rfl (good key)
   ·(simp (disch:=omega) only [q03]);exact q09 rfl (good key)
  ·have hall:allB idN s=true:=allB_iff.2 fun j c hc=>hn j c (by have:=q75 hc;omega) hc
   refine q02 ⟨?_,rfl⟩
   rw [idB,hall,decide_eq_true (show (0:Int)<s.size by omega),decide_eq_true (show (s.size:Int)≤24 by omega)]
   rfl
def obB (o:Ob):Bool:=q0p o.ty&&idB o.id
def tuB (t:Tu):Bool:=obB t.o&&(obB t.s.o&&(q0p t.rl&&(decide (t.s.rl=⟨#[]⟩)||q0p t.s.rl)))
def q30 (o:Ob):ByteArray:=if obB o then o.ty++⟨#[58]⟩++o.id else ⟨#[]⟩
def q36 (n:Nd):ByteArray:=if obB n.o then (if n.rl=⟨#[]⟩ then q30 n.o else if q0p n.rl then q30 n.o++⟨#[35]⟩++n.rl else ⟨#[]⟩) else ⟨#[]⟩
def q8d (t:Tu):ByteArray:=if tuB t then q30 t.o++⟨#[35]⟩++t.rl++⟨#[64]⟩++q36 t.s else ⟨#[]⟩
theorem q3r {a b:ByteArray}:(a++b).size=a.size+b.size:=by simp
theorem app_ne {a b:ByteArray} (h:0<a.size∨0<b.size):¬ a++b=⟨#[]⟩:=fun e=>by
 have:=congrArg ByteArray.size e
 rw [q3r] at this
 have:(ByteArray.mk #[]).size=0:=rfl
 omega
theorem q2k {o:Ob} (ho:OkO o):AFun PG nrx124 [.agg (obC o)] (.str (q30 o)):=by
 intro S
 refine wx124 ?_
 unfold Bx124
 (try simp only [rwp,zA,zB,zC,zD,zE,zF,zG,zH,zI,rwb,reduceIte,obC])
 refine q05 (q0v ho.ty) ?_
 have h1:=ho.ty
 have h2:=ho.id
 cases a1:q0p o.ty
 ·(try simp only [rwp,zA,zB,zC,zD,zE,zF,zG,zH,zI,rwb,reduceIte,C124_1])
  exact q02 ⟨by simp [q30,obB,a1],rfl⟩
 ·(try simp only [rwp,zA,zB,zC,zD,zE,zF,zG,zH,zI,rwb,reduceIte])
  refine q05 (c_names_ID ho.id) ?_
  cases a2:idB o.id
  ·(try simp only [rwp,zA,zB,zC,zD,zE,zF,zG,zH,zI,rwb,reduceIte,C124_1])
   exact q02 ⟨by simp [q30,obB,a1,a2],rfl⟩
  ·(try simp only [rwp,zA,zB,zC,zD,zE,zF,zG,zH,zI,rwb,reduceIte,C124_1,ByteArray.size_append])
   refine ⟨?_,?_,q02 ⟨by simp [q30,obB,a1,a2],rfl⟩⟩
   ·have:(ByteArray.mk #[58]).size=1:=rfl
    omega
   ·have:(ByteArray.mk #[58]).size=1:=rfl
    omega
theorem q4d {o:Ob} (ho:OkO o):(q30 o).size≤2251799813685249:=by
 have h1:=ho.ty
 have h2:=ho.id
 unfold q30
 split
 ·rw [q3r,q3r]
  have:(ByteArray.mk #[58]).size=1:=rfl
  omega
 ·exact Nat.zero_le _
theorem q4w {o:Ob}:decide (q30 o=⟨#[]⟩)=!obB o:=by
 unfold q30
 cases h:obB o
 ·rfl
 ·rw [if_pos rfl]
  refine decide_eq_false (app_ne (.inl ?_))
  rw [q3r]
  have:(ByteArray.mk #[58]).size=1:=rfl
  omega
theorem q3m {n:Nd} (hn:OkD n):AFun PG nrx125 [.agg (ndC n)] (.str (q36 n)):=by
 intro S
 refine wx125 ?_
 unfold Bx125
 (try simp only [rwp,zA,zB,zC,zD,zE,zF,zG,zH,zI,rwb,reduceIte,ndC])
 have q:=q2k hn.o
 simp only [obC] at q
 have h1:=q4d hn.o
 have h2:=hn.rl
 refine q05 q ?_
 (try simp only [rwp,zA,zB,zC,zD,zE,zF,zG,zH,zI,rwb,reduceIte])
 rw [q4w]
 cases a1:obB n.o
 ·(try simp only [rwp,zA,zB,zC,zD,zE,zF,zG,zH,zI,rwb,reduceIte,C125_1])
  exact q02 ⟨by simp [q36,q30,a1],rfl⟩
 ·cases a2:decide (n.rl=⟨#[]⟩)
  ·(try simp only [rwp,zA,zB,zC,zD,zE,zF,zG,zH,zI,rwb,reduceIte,C125_1,a2])
   have a2:=of_decide_eq_false a2
   refine q05 (q0v hn.rl) ?_
   cases a3:q0p n.rl
   ·(try simp only [rwp,zA,zB,zC,zD,zE,zF,zG,zH,zI,rwb,reduceIte])
    exact q02 ⟨by simp [q36,a1,a2,a3],rfl⟩
   ·(try simp only [rwp,zA,zB,zC,zD,zE,zF,zG,zH,zI,rwb,reduceIte,ByteArray.size_append])
    have:(ByteArray.mk #[35]).size=1:=rfl
    exact ⟨by omega,by omega,q02 ⟨by simp [q36,a1,a2,a3],rfl⟩⟩
  ·(try simp only [rwp,zA,zB,zC,zD,zE,zF,zG,zH,zI,rwb,reduceIte,C125_1,a2])
   have a2:=of_decide_eq_true a2
   exact q02 ⟨by simp [q36,a1,a2],rfl⟩
theorem showN_le {n:Nd} (hn:OkD n):(q36 n).size≤4503599627370496:=by
 have h1:=q4d hn.o
 have h2:=hn.rl
 have:(ByteArray.mk #[35]).size=1:=rfl
 unfold q36
 repeat' split
 ·omega
 ·rw [q3r,q3r];omega
 ·exact Nat.zero_le _
 ·exact Nat.zero_le _
theorem showN_nil {n:Nd}:decide (q36 n=⟨#[]⟩)=!(obB n.o&&(decide (n.rl=⟨#[]⟩)||q0p n.rl)):=by
 unfold q36
 cases h1:obB n.o
 ·rfl
 ·rw [if_pos rfl]
  by_cases h2:n.rl=⟨#[]⟩
  ·rw [if_pos h2,q4w,h1,decide_eq_true h2];rfl
  ·rw [if_neg h2,decide_eq_false h2]
   cases h3:q0p n.rl
   ·rfl
   ·rw [if_pos rfl]
    refine decide_eq_false (app_ne (.inl ?_))
    rw [q3r]
    have:(ByteArray.mk #[35]).size=1:=rfl
    omega
theorem tuB_eq (t:Tu):tuB t=(obB t.o&&((obB t.s.o&&(decide (t.s.rl=⟨#[]⟩)||q0p t.s.rl))&&q0p t.rl)):=by
 unfold tuB
 cases obB t.o<;>cases obB t.s.o<;>cases q0p t.rl<;>simp
theorem showT_nil {t:Tu}:decide (q8d t=⟨#[]⟩)=!tuB t:=by
 unfold q8d
 cases h1:tuB t
 ·rfl
 ·rw [if_pos rfl]
  refine decide_eq_false (app_ne (.inl ?_))
  rw [q3r]
  have:(ByteArray.mk #[64]).size=1:=rfl
  omega
theorem q7v {t:Tu} (ht:OkU t):AFun PG nrx98 [.agg (tuC t)] (.str (q8d t)):=by
 intro S
 refine wx98 ?_
 unfold Bx98
 (try simp only [rwp,zA,zB,zC,zD,zE,zF,zG,zH,zI,rwb,reduceIte,tuC])
 have q1:=q2k ht.o
 have q2:=q3m ht.s
 simp only [obC] at q1
 simp only [ndC] at q2
 have h1:=q4d ht.o
 have h2:=showN_le ht.s
 have h3:=ht.rl
 refine q05 q1 ?_
 (try simp only [rwp,zA,zB,zC,zD,zE,zF,zG,zH,zI,rwb,reduceIte])
 refine q05 q2 ?_
 (try simp only [rwp,zA,zB,zC,zD,zE,zF,zG,zH,zI,rwb,reduceIte])
 have e:=tuB_eq t
 rw [q4w,showN_nil]
 cases a1:obB t.o
 ·(try simp only [rwp,zA,zB,zC,zD,zE,zF,zG,zH,zI,rwb,reduceIte,C98_1,C98_2])
  exact q02 ⟨by simp [q8d,e,a1],rfl⟩
 ·cases a2:(obB t.s.o&&(decide (t.s.rl=⟨#[]⟩)||q0p t.s.rl))
  ·(try simp only [rwp,zA,zB,zC,zD,zE,zF,zG,zH,zI,rwb,reduceIte,C98_1,C98_2])
   exact q02 ⟨by simp only [q8d,e,a1,a2];rfl,rfl⟩
  ·(try simp only [rwp,zA,zB,zC,zD,zE,zF,zG,zH,zI,rwb,reduceIte,C98_1])
   refine q05 (q0v ht.rl) ?_
   cases a3:q0p t.rl
   ·(try simp only [rwp,zA,zB,zC,zD,zE,zF,zG,zH,zI,rwb,reduceIte,C98_2])
    exact q02 ⟨by simp only [q8d,e,a1,a2,a3];rfl,rfl⟩
   ·(try simp only [rwp,zA,zB,zC,zD,zE,zF,zG,zH,zI,rwb,reduceIte,C98_2,ByteArray.size_append])
    have:(ByteArray.mk #[35]).size=1:=rfl
    have:(ByteArray.mk #[64]).size=1:=rfl
    exact ⟨by omega,by omega,by omega,by omega,q02 ⟨by simp only [q8d,e,a1,a2,a3];rfl,rfl⟩⟩
set_option maxRecDepth 4000
section
variable {α:Type} {enc:α→List AV} {xs:List α} {S:q00} {g:Nat} {fi ca:List AV} {p:α→Bool}
theorem q8n (hl:∀ x∈xs,(enc x).length=2) (hb:xs.length≤1125899906842624) (hp:∀ x∈xs,AFunS PG g (fi++[.agg (enc x)]++ca) S (.bool (p x))) :
  AFunS PG nrx127 [.sl 2 (xs.map enc),.func (.func g) fi ca] S (.int .i64 (oi (q0t p xs))):=by
 refine wx127 ?_
 unfold Bx127
 (try simp only [rwp,zA,zB,zC,zD,zE,zF,zG,zH,zI])
 refine LoopP.intro (fun i:Nat=>[(0,.sl 2 (xs.map enc)),(1,.func (.func g) fi ca),(7,.int .i64 xs.length),(8,.int .i64 i)]) (fun _=>S) (fun i=>i≤xs.length∧∀ j x,j<i→xs[j]?=some x→p x=false) (fun i=>xs.length-i) 0 ⟨by omega,by omega⟩ rfl (Sub.refl S) ?_
 rintro i ⟨hi,hn⟩ r hr
 unfold C127_1
 (try simp only [rwp,zA,zB,zC,zD,zE,zF,zG,zH,zI])
 (refine q04 (fun hlt=>?_) (fun hlt=>?_)<;>(try simp only [hlc] at hlt))
 ·obtain ⟨x,hx⟩:=q0s hlt
  (try simp only [rwp,zA,zB,zC,zD,zE,zF,zG,zH,zI,hx])
  rw [tkW_all (hl x (List.mem_of_getElem? hx))]
  refine caW_atv (hp x (List.mem_of_getElem? hx)) ?_
  (refine q04 (fun he=>?_) (fun he=>?_)<;>(try simp only [rwp,zA,zB,zC,zD,zE,zF,zG,zH,zI,he]))
  ·have:q0t p xs=some i:=firstI_some.2 ⟨⟨x,hx,he⟩,hn⟩
   exact q02 ⟨by rw [this];rfl,rfl⟩
  ·(simp (disch:=omega) only [q03])
   refine q09 rfl (hr (i+1) ⟨by omega,fun j u hj hu=>?_⟩ (by omega))
   rcases Nat.lt_succ_iff_lt_or_eq.1 hj with h | rfl
   ·exact hn j u h hu
   ·rw [hx] at hu;cases hu;exact he
 ·have:q0t p xs=none:=firstI_none.2 fun j u hu=>hn j u (by have:=(List.getElem?_eq_some_iff.1 hu).1;omega) hu
  exact q02 ⟨by rw [this];rfl,rfl⟩
theorem q62 (hl:∀ x∈xs,(enc x).length=2) (hb:xs.length≤1125899906842624) (hp:∀ x∈xs,AFunS PG g (fi++[.agg (enc x)]++ca) S (.bool (p x))) :
  AFunS PG nrx80 [.sl 2 (xs.map enc),.func (.func g) fi ca] S (.bool (xs.any p)):=by
 refine wx80 ?_
 unfold Bx80
 refine q1l (q8n hl hb hp) ?_
 (try simp only [rwp,zA,zB,zC,zD,zE,zF,zG,zH,zI])
 exact q02 ⟨by rw [oi_some,q3b],rfl⟩
end
theorem c_Index_Ref {l:List Rf} (hl:l.length≤1125899906842624) (f:Rf):AFun PG nrx145 [.sl 2 (l.map rfC),.agg (rfC f)] (.int .i64 (oi (q0t (fun g=>decide (f.ty=g.ty)&&decide (f.rl=g.rl)) l))):=by
 intro S
 refine wx145 ?_
 unfold Bx145
 (try simp only [rwp,zA,zB,zC,zD,zE,zF,zG,zH,zI,rfC])
 refine LoopP.intro (fun i:Nat=>[(0,.sl 2 (l.map rfC)),(3,.rop [.str f.ty,.str f.rl]),(7,.int .i64 l.length),(8,.int .i64 i)]) (fun _=>S) (fun i=>i≤l.length∧∀ j x,j<i→l[j]?=some x→(decide (f.ty=x.ty)&&decide (f.rl=x.rl))=false) (fun i=>l.length-i) 0 ⟨by omega,by omega⟩ rfl (Sub.refl S) ?_
 rintro i ⟨hi,hn⟩ r hr
 unfold C145_1
 (try simp only [rwp,zA,zB,zC,zD,zE,zF,zG,zH,zI])
 (refine q04 (fun hlt=>?_) (fun hlt=>?_)<;>(try simp only [hlc] at hlt))
 ·obtain ⟨x,hx⟩:=q0s hlt
  (try simp only [rwp,zA,zB,zC,zD,zE,zF,zG,zH,zI,hx,rfC,eqW_def])
  (refine q04 (fun he=>?_) (fun he=>?_)<;>(try simp only [rwp,zA,zB,zC,zD,zE,zF,zG,zH,zI,he]))
  ·have:q0t (fun g:Rf=>decide (f.ty=g.ty)&&decide (f.rl=g.rl)) l=some i:=firstI_some.2 ⟨⟨x,hx,he⟩,hn⟩
   exact q02 ⟨by rw [this];rfl,rfl⟩
  ·(simp (disch:=omega) only [q03])
   refine q09 rfl (hr (i+1) ⟨by omega,fun j u hj hu=>?_⟩ (by omega))
   rcases Nat.lt_succ_iff_lt_or_eq.1 hj with h | rfl
   ·exact hn j u h hu
   ·rw [hx] at hu;cases hu;exact he
 ·have:q0t (fun g:Rf=>decide (f.ty=g.ty)&&decide (f.rl=g.rl)) l=none:=firstI_none.2 fun j u hu=>hn j u (by have:=(List.getElem?_eq_some_iff.1 hu).1;omega) hu
  exact q02 ⟨by rw [this];rfl,rfl⟩
theorem c_Contains_Ref {l:List Rf} (hl:l.length≤1125899906842624) (f:Rf):AFun PG nrx100 [.sl 2 (l.map rfC),.agg (rfC f)] (.bool (l.any fun g=>decide (f.ty=g.ty)&&decide (f.rl=g.rl))):=by
 intro S
 refine wx100 ?_
 unfold Bx100
 have q:=c_Index_Ref hl f
 simp only [rfC] at q
 (try simp only [rwp,zA,zB,zC,zD,zE,zF,zG,zH,zI,rfC])
 refine q05 q ?_
 (try simp only [rwp,zA,zB,zC,zD,zE,zF,zG,zH,zI])
 exact q02 ⟨by rw [oi_some,q3b],rfl⟩
def q1m (s:List Ty) (t:Tu):Int:=if tuB t then (match q0o s t.o.ty t.rl with
  | none=>6
  | some (_,_,r)=>if (typF s t.s.o.ty).isSome then (if r.refs.any fun f=>decide (t.s.o.ty=f.ty)&&decide (t.s.rl=f.rl) then 0 else 10) else 6) else 1
theorem q7t {u:Ty} {t:Tu}:AFun PG nrx99 [.agg (tyC u),.rop (tuC t)] (.bool (decide (u.name=t.s.o.ty))):=by
 intro S
 refine wx99 ?_
 unfold Bx99
 (try simp only [rwp,zA,zB,zC,zD,zE,zF,zG,zH,zI,tyC,tuC])
 exact q02 ⟨rfl,rfl⟩
theorem typ_any {s:List Ty} {n:ByteArray}:(s.any fun u=>decide (u.name=n))=(typF s n).isSome:=by rw [typF,q3b]
theorem q59 {s:List Ty} (hs:OkS s) {t:Tu} (ht:OkU t):AFun PG nrx49 [scA s,.agg (tuC t)] (.int .i64 (q1m s t)):=by
 intro S
 refine wx49 ?_
 unfold Bx49
 have q:=q7v ht
 simp only [tuC] at q
 (try simp only [rwp,zA,zB,zC,zD,zE,zF,zG,zH,zI,rwb,reduceIte,scA,tuC])
 refine q05 q ?_
 (try simp only [rwp,zA,zB,zC,zD,zE,zF,zG,zH,zI,rwb,reduceIte])
 rw [showT_nil]
 cases a1:tuB t
 ·(try simp only [rwp,zA,zB,zC,zD,zE,zF,zG,zH,zI,rwb,reduceIte])
  exact q02 ⟨by simp [q1m,a1],rfl⟩
 ·(try simp only [rwp,zA,zB,zC,zD,zE,zF,zG,zH,zI,rwb,reduceIte])
  have q2:=q1g hs t.o.ty t.rl
  simp only [scA] at q2
  cases hq:q0o s t.o.ty t.rl with
  | none=>
   refine q0c (q2 S) ?_
   rintro ae S' ⟨rfl,rfl⟩
   rw [hq]
   dsimp only
   (try simp only [rwp,zA,zB,zC,zD,zE,zF,zG,zH,zI,rwb,reduceIte,C49_1,zeroR])
   exact q02 ⟨by simp [q1m,a1,hq],rfl⟩
  | some q3=>
   obtain ⟨i,k,r⟩:=q3
   obtain ⟨-,ty,h2,-,h4⟩:=q23 hq
   have hok:=(hs.at h2).at h4
   refine q0c (q2 S) ?_
   rintro ae S' ⟨rfl,rfl⟩
   rw [hq]
   dsimp only
   (try simp only [rwp,zA,zB,zC,zD,zE,zF,zG,zH,zI,rwb,reduceIte,q0g])
   refine q1l (q62 (enc:=tyC) (fi:=[]) (p:=fun u:Ty=>decide (u.name=t.s.o.ty)) (fun x _=>rfl) hs.types fun u _=>q7t (u:=u) (t:=t) S') ?_
   rw [typ_any]
   cases a2:(typF s t.s.o.ty).isSome
   ·(try simp only [rwp,zA,zB,zC,zD,zE,zF,zG,zH,zI,rwb,reduceIte,C49_1])
    exact q02 ⟨by simp only [q1m,a1,hq,a2];rfl,rfl⟩
   ·(try simp only [rwp,zA,zB,zC,zD,zE,zF,zG,zH,zI,rwb,reduceIte,C49_1])
    have q4:=c_Contains_Ref hok.refs ⟨t.s.o.ty,t.s.rl⟩
    simp only [rfC] at q4
    refine q05 q4 ?_
    cases a3:(r.refs.any fun f=>decide (t.s.o.ty=f.ty)&&decide (t.s.rl=f.rl))
    ·(try simp only [rwp,zA,zB,zC,zD,zE,zF,zG,zH,zI,rwb,reduceIte])
     exact q02 ⟨by simp only [q1m,a1,hq,a2,a3];rfl,rfl⟩
    ·(try simp only [rwp,zA,zB,zC,zD,zE,zF,zG,zH,zI,rwb,reduceIte])
     exact q02 ⟨by simp only [q1m,a1,hq,a2,a3];rfl,rfl⟩
theorem q79 {α:Type} {p:α→Bool} {l:List α} {i:Nat} {x:α} (h:l[i]?=some x):(l.take (i+1)).any p=((l.take i).any p||p x):=by
 rw [q0w h,List.any_append];simp
def q0d (s:List Ty) (l:List Tu):List Tu:=l.filter fun t=>decide (q1m s t=0)
def ofF (l:List Tu) (n:Nd):List Tu:=l.filter fun t=>decide (t.o=n.o)&&decide (t.rl=n.rl)
theorem q31 {α:Type} {p:α→Bool} {l:List α} {i:Nat} {x:α} (h:l[i]?=some x):(l.take (i+1)).filter p=(l.take i).filter p++if p x then [x] else []:=by
 rw [q0w h,List.filter_append]
 congr 1
 cases hp:p x<;>simp [hp]
abbrev tyTu:Nat:=41
theorem LstN.tu {S0 S:q00} {v:AV} {l:List Tu} {t:Tu} {K:AV→q00→Prop} (hs:Sub S0 S) (h:LstN S0 S tyTu 6 v (l.map tuC)) (hl:l.length≤1000000) (hK:∀ v' S',Sub S0 S'→LstN S0 S' tyTu 6 v' ((l++[t]).map tuC)→K v' S'):apW S tyTu 6 96 v (.sl 6 [tuC t]) K:=by
 refine LstN.app hs h (fun r hr=>by rw [List.mem_singleton.1 hr];rfl) (q2u fun r hr=>by rw [List.mem_singleton.1 hr];rfl) (by simp only [List.length_map,List.length_singleton];omega) fun v' S' h1 h2 _=>?_
 exact hK v' S' h1 (by simpa using h2)
structure OkL (l:List Tu):Prop where
 n:l.length≤100000
 ok:∀ t∈l,OkU t
def smallF (s:List Ty) (l:List Tu):Bool:=fewF s 60&&decide ((l.length:Int)≤30)
theorem c_law14_Small {s:List Ty} (hs:OkS s) (l:List Tu):AFun PG nrx17 [scA s,.sl 6 (l.map tuC)] (.bool (smallF s l)):=by
 intro S
 refine wx17 ?_
 unfold Bx17
 (try simp only [rwp,zA,zB,zC,zD,zE,zF,zG,zH,zI,rwb,reduceIte,scA])
 refine q05 (by simpa only [scA] using c_law11_Few hs (most:=60) (by decide) (by decide)) ?_
 cases a1:fewF s 60<;>(try simp only [rwp,zA,zB,zC,zD,zE,zF,zG,zH,zI,rwb,reduceIte])<;>exact q02 ⟨by simp [smallF,a1],rfl⟩
def q4q {α σ:Type} (step:σ→α→Option (Bool×σ)):List α→σ→Option (Bool×σ)
 | [],a=>some (false,a)
 | x :: r,a=>match step a x with
  | none=>none
  | some (true,a')=>some (true,a')
  | some (false,a')=>q4q step r a'
structure q1v where
 s:List Ty
 of:Nd→List Nd
 who:Ob
def stepT (who:Ob) (ask:Nd→Nat→Option (Bool×Nat)) (w:Nat) (x:Nd):Option (Bool×Nat):=if x.rl=⟨#[]⟩ then some (decide (x.o=who),w) else ask x w
def stepA (over:ByteArray) (ask:Nd→Nat→Option (Bool×Nat)) (w:Nat) (x:Nd):Option (Bool×Nat):=if x.rl=⟨#[]⟩ then ask ⟨x.o,over⟩ w else some (false,w)
def comb (k:Int) (p:Option (Bool×Nat)) (q:Nat→Option (Bool×Nat)):Option (Bool×Nat):=match p with
 | none=>none
 | some (x,w1)=>if x=decide (k=2) then some (x,w1) else match q w1 with
  | none=>none
  | some (y,w2)=>some (if k=4 then !y else y,w2)
def exQ (E:q1v) (ask:Nd→Nat→Option (Bool×Nat)) (o:Ob):Nat→Ex→Nat→Option (Bool×Nat)
 | 0,_,_=>none
 | m+1,.mk k n ov ks,w=>if k=0 then ask ⟨o,n⟩ w else if k=1 then q4q (stepA ov ask) (E.of ⟨o,n⟩) w else match ks with
  | [a,b]=>comb k (exQ E ask o m a w) (exQ E ask o m b)
  | _=>none
def bodyQ (E:q1v) (ask:Nd→Nat→Option (Bool×Nat)) (n:Nd) (r:Rl) (w:Nat):Option (Bool×Nat):=
 if r.refs.length=0 then exQ E ask n.o 12 r.ex w else q4q (stepT E.who ask) (E.of n) w
def askQ (E:q1v) (B:Int):Nat→List Nd→Nd→Nat→Option (Bool×Nat)
 | 0,P,n,w=>match q0o E.s n.o.ty n.rl with
  | none=>some (false,w)
  | some _=>none
 | f+1,P,n,w=>match q0o E.s n.o.ty n.rl with
  | none=>some (false,w)
  | some (_,_,r)=>if B<(w:Int)+1 then none else if n∈P then some (false,w+1) else bodyQ E (askQ E B f (n :: P)) n r (w+1)
def Bu {α:Type} (b:Int) (f g:α→Nat→Option (Bool×Nat)):Prop:=∀ n w x w',f n w=some (x,w')→w≤w'∧((w:Int)≤b→((w':Int)≤b→g n w=some (x,w'))∧(b<(w':Int)→g n w=none))
section
variable {b:Int} {E:q1v} {f g:Nd→Nat→Option (Bool×Nat)}
theorem Bu.fold {α:Type} {s t:Nat→α→Option (Bool×Nat)} (h:Bu b (fun x w=>s w x) (fun x w=>t w x)):Bu b (q4q s) (q4q t):=by
 intro l
 induction l with
 | nil=>
  intro w y w' e
  simp only [q4q,Option.some.injEq,Prod.mk.injEq] at e
  obtain ⟨rfl,rfl⟩:=e
  exact ⟨Nat.le_refl _,fun hw=>⟨fun _=>rfl,fun h=>by omega⟩⟩
 | cons x r ih=>
  intro w y w' e
  unfold q4q at e ⊢
  cases hs:s w x with
  | none=>rw [hs] at e;cases e
  | some q=>
   obtain ⟨z,w1⟩:=q
   rw [hs] at e
   obtain ⟨h1,h2⟩:=h x w z w1 hs
   dsimp only at h2
   cases z with
   | true=>
    simp only [Option.some.injEq,Prod.mk.injEq] at e
    obtain ⟨rfl,rfl⟩:=e
    exact ⟨h1,fun hw=>⟨fun h=>by rw [(h2 hw).1 h],fun h=>by rw [(h2 hw).2 h]⟩⟩
   | false=>
    obtain ⟨k1,k2⟩:=ih w1 y w' e
    refine ⟨by omega,fun hw=>?_⟩
    by_cases h4:(w1:Int)≤b
    ·rw [(h2 hw).1 h4]
     exact k2 h4
    ·rw [(h2 hw).2 (by omega)]
     exact ⟨fun h=>by omega,fun _=>rfl⟩
theorem Bu.told {who:Ob} (h:Bu b f g):Bu b (fun x w=>stepT who f w x) (fun x w=>stepT who g w x):=by
 intro x w y w' e
 dsimp only at e ⊢
 unfold stepT at e ⊢
 split at e
 ·rename_i h0
  simp only [if_pos h0]
  simp only [Option.some.injEq,Prod.mk.injEq] at e
  obtain ⟨rfl,rfl⟩:=e
  exact ⟨Nat.le_refl _,fun hw=>⟨fun _=>rfl,fun h=>by omega⟩⟩
 ·rename_i h0
  simp only [if_neg h0]
  exact h x w y w' e
theorem Bu.arr {over:ByteArray} (h:Bu b f g):Bu b (fun x w=>stepA over f w x) (fun x w=>stepA over g w x):=by
 intro x w y w' e
 dsimp only at e ⊢
 unfold stepA at e ⊢
 split at e
 ·rename_i h0
  simp only [if_pos h0]
  exact h _ w y w' e
 ·rename_i h0
  simp only [if_neg h0]
  simp only [Option.some.injEq,Prod.mk.injEq] at e
  obtain ⟨rfl,rfl⟩:=e
  exact ⟨Nat.le_refl _,fun hw=>⟨fun _=>rfl,fun h=>by omega⟩⟩
theorem Bu.ex (h:Bu b f g) (o:Ob):∀ m,Bu b (exQ E f o m) (exQ E g o m)
 | 0=>fun e w y w' h=>by cases h
 | m+1=>by
  have ih:=Bu.ex h o m
  rintro ⟨k,n,ov,ks⟩ w y w' e
  unfold exQ at e ⊢
  split at e
  ·rename_i h0
   simp only [if_pos h0]
   exact h _ w y w' e
  ·rename_i h0
   simp only [if_neg h0]
   split at e
   ·rename_i h1
    simp only [if_pos h1]
    exact Bu.fold (Bu.arr h) _ w y w' e
   ·rename_i h1
    simp only [if_neg h1]
    match ks,e with
    | [x1,x2],e=>
     dsimp only at e ⊢
     unfold comb at e ⊢
     cases hs:exQ E f o m x1 w with
     | none=>rw [hs] at e;cases e
     | some q=>
      obtain ⟨z,w1⟩:=q
      rw [hs] at e
      obtain ⟨k1,k2⟩:=ih x1 w z w1 hs
      dsimp only at e
      split at e
      ·rename_i h2
       simp only [Option.some.injEq,Prod.mk.injEq] at e
       obtain ⟨rfl,rfl⟩:=e
       exact ⟨k1,fun hw=>⟨fun h=>by rw [(k2 hw).1 h];dsimp only;rw [if_pos h2],fun h=>by rw [(k2 hw).2 h]⟩⟩
      ·rename_i h2
       cases hs2:exQ E f o m x2 w1 with
       | none=>rw [hs2] at e;cases e
       | some q2=>
        obtain ⟨z2,w2⟩:=q2
        rw [hs2] at e
        simp only [Option.some.injEq,Prod.mk.injEq] at e
        obtain ⟨e1,rfl⟩:=e
        obtain ⟨k3,k4⟩:=ih x2 w1 z2 w2 hs2
        refine ⟨by omega,fun hw=>?_⟩
        by_cases h4:(w1:Int)≤b
        ·rw [(k2 hw).1 h4]
         dsimp only
         rw [if_neg h2]
         exact ⟨fun h=>by rw [(k4 h4).1 h,← e1],fun h=>by rw [(k4 h4).2 h]⟩
        ·rw [(k2 hw).2 (by omega)]
         exact ⟨fun h=>by omega,fun _=>rfl⟩
    | [],e=>cases e
    | [_],e=>cases e
    | _ :: _ :: _ :: _,e=>cases e
theorem Bu.body (h:Bu b f g) (n:Nd) (r:Rl):Bu b (fun (_:Unit) w=>bodyQ E f n r w) (fun _ w=>bodyQ E g n r w):=by
 intro _ w y w' e
 dsimp only at e ⊢
 unfold bodyQ at e ⊢
 split at e
 ·rename_i h0
  simp only [if_pos h0]
  exact Bu.ex h _ _ _ w y w' e
 ·rename_i h0
  simp only [if_neg h0]
  exact Bu.fold (Bu.told h) _ w y w' e
theorem ask_bu {B:Int}:∀ (fu:Nat) (P:List Nd),Bu b (askQ E B fu P) (askQ E b fu P)
 | 0,P=>by
  intro n w y w' e
  unfold askQ at e ⊢
  split at e
  ·rename_i h0
   try simp only [h0]
   simp only [Option.some.injEq,Prod.mk.injEq] at e
   obtain ⟨rfl,rfl⟩:=e
   exact ⟨Nat.le_refl _,fun hw=>⟨fun _=>rfl,fun h=>by omega⟩⟩
  ·cases e
 | fu+1,P=>by
  intro n w y w' e
  unfold askQ at e ⊢
  split at e
  ·rename_i h0
   try simp only [h0]
   simp only [Option.some.injEq,Prod.mk.injEq] at e
   obtain ⟨rfl,rfl⟩:=e
   exact ⟨Nat.le_refl _,fun hw=>⟨fun _=>rfl,fun h=>by omega⟩⟩
  ·rename_i i k r h0
   try simp only [h0]
   split at e
   ·cases e
   ·split at e
    ·rename_i h2
     simp only [Option.some.injEq,Prod.mk.injEq] at e
     obtain ⟨rfl,rfl⟩:=e
     refine ⟨by omega,fun hw=>⟨fun h=>?_,fun h=>?_⟩⟩
     ·rw [if_neg (by omega),if_pos h2]
     ·rw [if_pos (by omega)]
    ·rename_i h2
     obtain ⟨k1,k2⟩:=Bu.body (ask_bu fu (n :: P)) n r () (w+1) y w' e
     refine ⟨by omega,fun hw=>?_⟩
     by_cases h3:b<(w:Int)+1
     ·rw [if_pos h3]
      exact ⟨fun h=>by omega,fun _=>rfl⟩
     ·rw [if_neg h3,if_neg h2]
      exact k2 (by omega)
theorem ask_work {B:Int} {fu:Nat} {n:Nd} {y:Bool} {w':Nat} (hn:(q0o E.s n.o.ty n.rl).isSome=true) (h:askQ E B (fu+1) [] n 0=some (y,w')):1≤w'∧(w':Int)≤B:=by
 have key:∀ (fu:Nat) (P:List Nd) n w y w',askQ E B fu P n w=some (y,w')→(w:Int)≤B→(w':Int)≤B:=by
  intro fu P n w y w' h hw
  rcases Int.lt_or_le B (w':Int) with h1 | h1
  ·have:=((ask_bu (b:=B) fu P n w y w' h).2 hw).2 h1
   rw [h] at this
   cases this
  ·exact h1
 unfold askQ at h
 split at h
 ·rename_i h0;rw [h0] at hn;cases hn
 ·rename_i i k r h0
  split at h
  ·cases h
  ·rename_i h1
   simp only [List.not_mem_nil,if_false] at h
   have h2:=(Bu.body (b:=B) (ask_bu fu [n]) n r () 1 y w' h).1
   refine ⟨h2,?_⟩
   rcases Int.lt_or_le B (w':Int) with h3 | h3
   ·have:=((Bu.body (b:=B) (ask_bu fu [n]) n r () 1 y w' h).2 (by omega)).2 h3
    dsimp only at this
    rw [h] at this
    cases this
   ·exact h3
end
def chk15 (E:q1v) (B:Int) (n:Nd):AV:=
 if B<0∨100000<B∨errA (chkF E.s)≠0 then .tup [.bool false,.int .i64 0,.int .i64 1]
 else if q0o E.s n.o.ty n.rl=none then .tup [.bool false,.int .i64 0,.int .i64 6]
 else match askQ E B 50 [] n 0 with
  | none=>.tup [.bool false,.int .i64 0,.int .i64 12]
  | some (b,w)=>.tup [.bool b,.int .i64 w,.int .i64 0]
def envE (s:List Ty) (l:List Tu) (who:Ob):q1v:=⟨s,fun n=>(ofF (q0d s l) n).map Tu.s,who⟩
theorem sc_may {s:List Ty} (h:scB s=true):∀ t∈s,∀ r∈t.rels,r.refs.length=0→mayE 12 r.ex=true:=by
 intro t ht r hr h0
 have h1:=List.all_eq_true.1 h t ht
 simp only [typB,Bool.and_eq_true] at h1
 have h2:=List.all_eq_true.1 h1.2 r hr
 simp only [relB,Bool.and_eq_true,Bool.or_eq_true] at h2
 rcases h2.2.2 with h3 | h3
 ·rw [List.length_eq_zero_iff.1 h0] at h3;cases h3
 ·exact h3
theorem q3j {s:List Ty} {l:List Tu} (h:OkL l):OkL (q0d s l):=⟨Nat.le_trans (List.length_filter_le _ _) h.n,fun t ht=>h.ok t (List.mem_filter.1 ht).1⟩
theorem nd_len {α:Type} [DecidableEq α]:∀ {L C:List α},L.Nodup→(∀ x∈L,x∈C)→L.length≤C.length
 | [],C,_,_=>Nat.zero_le _
 | x :: r,C,h,hs=>by
  rw [List.nodup_cons] at h
  have hx:=hs x (by simp)
  have:=nd_len (L:=r) (C:=C.erase x) h.2 fun y hy=>(List.mem_erase_of_ne (by rintro rfl;exact h.1 hy)).2 (hs y (List.mem_cons_of_mem _ hy))
  rw [List.length_erase_of_mem hx] at this
  have hpos:=List.length_pos_of_mem hx
  simp only [List.length_cons]
  omega
section
variable {α:Type}
def vl (n:Nat) (v:Nat→α):List α:=(List.range n).map v
theorem q1x {n:Nat} {v:Nat→α}:(vl n v).length=n:=by simp [vl]
theorem vl_get {n:Nat} {v:Nat→α} {i:Nat} (h:i<n):(vl n v)[i]?=some (v i):=by simp [vl,h]
theorem vl_of (xs:List α) (d:α):vl xs.length (fun i=>xs.getD i d)=xs:=by
 apply List.ext_getElem?
 intro i
 by_cases h:i<xs.length
 ·rw [vl_get h];simp [h]
 ·rw [List.getElem?_eq_none_iff.2 (by rw [q1x];omega),List.getElem?_eq_none_iff.2 (by omega)]
structure Rng (n a b:Nat) (v w:Nat→α):Prop where
 perm:(vl n v).Perm (vl n w)
 out:∀ i,i<a∨b≤i→w i=v i
def sw (v:Nat→α) (i j:Nat):Nat→α:=fun k=>if k=j then v i else if k=i then v j else v k
theorem sw_i {v:Nat→α} {i j:Nat}:sw v i j i=v j:=by
 unfold sw
 by_cases h:i=j
 ·rw [if_pos h,h]
 ·rw [if_neg h,if_pos rfl]
theorem sw_j {v:Nat→α} {i j:Nat}:sw v i j j=v i:=if_pos rfl
theorem sw_o {v:Nat→α} {i j k:Nat} (h1:k≠i) (h2:k≠j):sw v i j k=v k:=by unfold sw;rw [if_neg h2,if_neg h1]
theorem vl_set {n:Nat} {v:Nat→α} {i:Nat} {x:α}:(vl n v).set i x=vl n fun k=>if k=i then x else v k:=by
 apply List.ext_getElem?
 intro k
 rw [List.getElem?_set]
 by_cases h:k<n
 ·rw [vl_get h,vl_get h,q1x]
  by_cases e:i=k
  ·subst e;simp [h]
  ·rw [if_neg e,if_neg (Ne.symm e)]
 ·rw [List.getElem?_eq_none_iff.2 (by rw [q1x];omega),List.getElem?_eq_none_iff.2 (by rw [q1x];omega),q1x]
  split
  ·rw [if_neg (by omega)]
  ·rfl
theorem Rng.refl (n a b:Nat) (v:Nat→α):Rng n a b v v:=⟨List.Perm.refl _,fun _ _=>rfl⟩
theorem Rng.trans {n a b:Nat} {u v w:Nat→α} (h:Rng n a b u v) (k:Rng n a b v w):Rng n a b u w:=⟨h.perm.trans k.perm,fun i hi=>(k.out i hi).trans (h.out i hi)⟩
theorem Rng.mono {n a b a' b':Nat} {v w:Nat→α} (h:Rng n a b v w) (ha:a'≤a) (hb:b≤b'):Rng n a' b' v w:=⟨h.perm,fun i hi=>h.out i (by omega)⟩
theorem Rng.sw {n a b i j:Nat} {v:Nat→α} (hi:a≤i) (hi':i<b) (hj:a≤j) (hj':j<b) (hb:b≤n):Rng n a b v (sw v i j):=by
 refine ⟨?_,fun k hk=>sw_o (by omega) (by omega)⟩
 have h:=@List.set_set_perm _ (vl n v) i j (by rw [q1x];omega) (by rw [q1x];omega)
 have e1:(vl n v)[i]'(by rw [q1x];omega)=v i:=by
  have:=vl_get (v:=v) (show i<n by omega)
  rw [List.getElem?_eq_getElem (by rw [q1x];omega)] at this
  exact Option.some.inj this
 have e2:(vl n v)[j]'(by rw [q1x];omega)=v j:=by
  have:=vl_get (v:=v) (show j<n by omega)
  rw [List.getElem?_eq_getElem (by rw [q1x];omega)] at this
  exact Option.some.inj this
 rw [e1,e2,vl_set,vl_set] at h
 exact h.symm
theorem Rng.mem {n a b:Nat} {v w:Nat→α} (h:Rng n a b v w) (hb:b≤n) {i:Nat} (h1:a≤i) (h2:i<b):∃ j,a≤j∧j<b∧w i=v j:=by
 have e:∀ u:Nat→α,vl n u=(List.range' 0 a).map u++((List.range' a (b-a)).map u++(List.range' b (n-b)).map u):=by
  intro u
  rw [← List.map_append,← List.map_append]
  unfold vl
  congr 1
  rw [List.range_eq_range']
  have r2:List.range' a (b-a)++List.range' b (n-b)=List.range' a (n-a):=by
   have:=List.range'_append (s:=a) (m:=b-a) (n:=n-b) (step:=1)
   rw [show a+1 * (b-a)=b by omega,show (b-a)+(n-b)=n-a by omega] at this
   exact this
  have r1:List.range' 0 a++List.range' a (n-a)=List.range' 0 n:=by
   have:=List.range'_append (s:=0) (m:=a) (n:=n-a) (step:=1)
   rw [show 0+1 * a=a by omega,show a+(n-a)=n by omega] at this
   exact this
  rw [r2,r1]
 have hp:=h.perm
 rw [e v,e w] at hp
 have c1:(List.range' 0 a).map w=(List.range' 0 a).map v:=List.map_congr_left fun k hk=>h.out k (.inl (by simp at hk;omega))
 have c2:(List.range' b (n-b)).map w=(List.range' b (n-b)).map v:=List.map_congr_left fun k hk=>h.out k (.inr (by simp at hk;omega))
 rw [c1,c2,List.perm_append_left_iff,List.perm_append_right_iff] at hp
 have hm:w i∈(List.range' a (b-a)).map w:=List.mem_map.2 ⟨i,by simp;omega,rfl⟩
 obtain ⟨j,hj,e⟩:=List.mem_map.1 (hp.mem_iff.2 hm)
 simp at hj
 exact ⟨j,by omega,by omega,e.symm⟩
structure LtOk (lt:α→α→Bool):Prop where
 asy:∀ x y,lt x y=true→lt y x=false
 tr:∀ x y z,lt y x=false→lt z y=false→lt z x=false
variable {lt:α→α→Bool}
def Le (lt:α→α→Bool) (x y:α):Prop:=lt y x=false
theorem Le.refl (h:LtOk lt) (x:α):Le lt x x:=by
 unfold Le
 cases e:lt x x with
 | false=>rfl
 | true=>have:=h.asy x x e;rw [e] at this;exact this
theorem Le.trans (h:LtOk lt) {x y z:α} (h1:Le lt x y) (h2:Le lt y z):Le lt x z:=h.tr x y z h1 h2
theorem Le.of_lt (h:LtOk lt) {x y:α} (h1:lt x y=true):Le lt x y:=h.asy x y h1
def Srt (lt:α→α→Bool) (a b:Nat) (v:Nat→α):Prop:=∀ p q,a≤p→p<q→q<b→Le lt (v p) (v q)
theorem Srt.one {a b:Nat} {v:Nat→α} (h:b≤a+1):Srt lt a b v:=fun p q h1 h2 h3=>by omega
theorem Srt.snoc (h:LtOk lt) {a b:Nat} {v:Nat→α} (hs:Srt lt a b v) (hab:a<b) (hl:Le lt (v (b-1)) (v b)):Srt lt a (b+1) v:=by
 intro p q h1 h2 h3
 by_cases hq:q=b
 ·subst hq
  by_cases hp:p=q-1
  ·rw [hp];exact hl
  ·exact (hs p (q-1) h1 (by omega) (by omega)).trans h hl
 ·exact hs p q h1 h2 (by omega)
theorem Srt.same {a b:Nat} {v w:Nat→α} (hs:Srt lt a b v) (e:∀ i,a≤i→i<b→w i=v i):Srt lt a b w:=fun p q h1 h2 h3=>by rw [e p h1 (by omega),e q (by omega) h3];exact hs p q h1 h2 h3
structure InsI (lt:α→α→Bool) (a i j:Nat) (v:Nat→α):Prop where
 lo:a≤j
 hi:j≤i
 s:∀ p q,a≤p→p<q→q≤i→q≠j→Le lt (v p) (v q)
theorem InsI.start {a i:Nat} {v:Nat→α} (hs:Srt lt a i v) (h:a≤i):InsI lt a i i v:=⟨h,Nat.le_refl _,fun p q h1 h2 h3 h4=>hs p q h1 h2 (by omega)⟩
theorem InsI.stop (h:LtOk lt) {a i j:Nat} {v:Nat→α} (hs:InsI lt a i j v) (hj:j=a∨Le lt (v (j-1)) (v j)):Srt lt a (i+1) v:=by
 intro p q h1 h2 h3
 by_cases hq:q=j
 ·rcases hj with hj | hj
  ·omega
  ·subst hq
   by_cases hp:p=q-1
   ·rw [hp];exact hj
   ·exact (hs.s p (q-1) h1 (by omega) (by have:=hs.hi;omega) (by omega)).trans h hj
 ·exact hs.s p q h1 h2 (by omega) hq
theorem InsI.step (h:LtOk lt) {a i j:Nat} {v:Nat→α} (hs:InsI lt a i j v) (hj:a<j) (hl:lt (v j) (v (j-1))=true):InsI lt a i (j-1) (sw v j (j-1)):=by
 have h0:=hs.hi
 refine ⟨by omega,by omega,fun p q h1 h2 h3 h4=>?_⟩
 by_cases hq:q=j
 ·subst hq
  rw [sw_i]
  by_cases hp:p=q-1
  ·subst hp
   rw [sw_j]
   exact Le.of_lt h hl
  ·rw [sw_o (by omega) hp]
   exact hs.s p (q-1) h1 (by omega) (by omega) (by omega)
 ·rw [sw_o hq h4 (v:=v)]
  by_cases hp:p=j-1
  ·subst hp
   rw [sw_j]
   exact hs.s j q (by omega) (by omega) h3 hq
  ·by_cases hp2:p=j
   ·subst hp2
    rw [sw_i]
    exact hs.s (p-1) q (by omega) (by omega) h3 hq
   ·rw [sw_o hp2 hp]
    exact hs.s p q h1 h2 h3 hq
def Hp (lt:α→α→Bool) (f lo hi:Nat) (v:Nat→α):Prop:=∀ p c,lo≤p→(c=2 * p+1∨c=2 * p+2)→c<hi→Le lt (v (f+c)) (v (f+p))
structure Sif (lt:α→α→Bool) (f lo hi r:Nat) (v:Nat→α):Prop where
 lr:lo≤r
 pp:∀ p c,lo≤p→p≠r→(c=2 * p+1∨c=2 * p+2)→c<hi→Le lt (v (f+c)) (v (f+p))
 gg:∀ q c,lo≤q→(r=2 * q+1∨r=2 * q+2)→(c=2 * r+1∨c=2 * r+2)→c<hi→Le lt (v (f+c)) (v (f+q))
theorem Sif.start {f lo hi:Nat} {v:Nat→α} (h:Hp lt f (lo+1) hi v):Sif lt f lo hi lo v:=⟨Nat.le_refl _,fun p c h1 h2 h3 h4=>h p c (by omega) h3 h4,fun q c h1 h2=>by omega⟩
theorem Sif.stop0 {f lo hi r:Nat} {v:Nat→α} (h:Sif lt f lo hi r v) (hr:hi≤2 * r+1):Hp lt f lo hi v:=fun p c h1 h2 h3=>by
 by_cases hp:p=r
 ·omega
 ·exact h.pp p c h1 hp h2 h3
structure Best (lt:α→α→Bool) (f hi r ch:Nat) (v:Nat→α):Prop where
 cc:ch=2 * r+1∨ch=2 * r+2
 cl:ch<hi
 mm:∀ c,(c=2 * r+1∨c=2 * r+2)→c<hi→Le lt (v (f+c)) (v (f+ch))
theorem Sif.stop (h0:LtOk lt) {f lo hi r ch:Nat} {v:Nat→α} (h:Sif lt f lo hi r v) (hb:Best lt f hi r ch v) (hl:Le lt (v (f+ch)) (v (f+r))):Hp lt f lo hi v:=fun p c h1 h2 h3=>by
 by_cases hp:p=r
 ·subst hp
  exact (hb.mm c h2 h3).trans h0 hl
 ·exact h.pp p c h1 hp h2 h3
theorem Sif.step (h0:LtOk lt) {f lo hi r ch:Nat} {v:Nat→α} (h:Sif lt f lo hi r v) (hb:Best lt f hi r ch v) (hl:lt (v (f+r)) (v (f+ch))=true):Sif lt f lo hi ch (sw v (f+r) (f+ch)):=by
 have h1:=h.lr
 have h2:=hb.cc
 have h3:=hb.cl
 refine ⟨by omega,fun p c a1 a2 a3 a4=>?_,fun q c a1 a2 a3 a4=>?_⟩
 ·by_cases hp:p=r
  ·subst hp
   rw [sw_i]
   by_cases hc:c=ch
   ·subst hc
    rw [sw_j]
    exact Le.of_lt h0 hl
   ·rw [sw_o (by omega) (by omega)]
    exact hb.mm c a3 a4
  ·rw [sw_o (k:=f+p) (by omega) (by omega)]
   by_cases hc:c=r
   ·subst hc
    rw [sw_i]
    exact h.gg p ch a1 a3 h2 h3
   ·rw [sw_o (by omega) (by omega)]
    exact h.pp p c a1 hp a3 a4
 ·have hq:q=r:=by omega
  subst hq
  rw [sw_i,sw_o (by omega) (by omega)]
  exact h.pp ch c (by omega) (by omega) a3 a4
theorem Hp.max (h0:LtOk lt) {f hi:Nat} {v:Nat→α} (h:Hp lt f 0 hi v):∀ i,i<hi→Le lt (v (f+i)) (v f):=by
 intro i
 induction i using Nat.strongRecOn with
 | ind i ih=>
  intro hi'
  by_cases e:i=0
  ·subst e;exact Le.refl h0 _
  ·exact (h ((i-1) / 2) i (Nat.zero_le _) (by omega) hi').trans h0 (ih ((i-1) / 2) (by omega) (by omega))
structure Pop (lt:α→α→Bool) (f m hi:Nat) (v:Nat→α):Prop where
 h:Hp lt f 0 m v
 s:Srt lt (f+m) (f+hi) v
 u:∀ i j,i<m→m≤j→j<hi→Le lt (v (f+i)) (v (f+j))
theorem Pop.pre {f i hi:Nat} {v:Nat→α} (h:Pop lt f (i+1) hi v):Hp lt f 1 i (sw v f (f+i)):=fun p c h1 h2 h3=>by
 rw [sw_o (by omega) (by omega),sw_o (by omega) (by omega)]
 exact h.h p c (Nat.zero_le _) h2 (by omega)
theorem Pop.step (h0:LtOk lt) {n f i hi:Nat} {v w:Nat→α} (hi':i<hi) (hn:f+hi≤n) (h:Pop lt f (i+1) hi v) (hr:Rng n f (f+i) (sw v f (f+i)) w) (hw:Hp lt f 0 i w):Pop lt f i hi w:=by
 have hmax:=h.h.max h0
 have wi:w (f+i)=v f:=by rw [hr.out _ (.inr (Nat.le_refl _)),sw_j]
 have wo:∀ j,i<j→w (f+j)=v (f+j):=fun j hj=>by rw [hr.out _ (.inr (by omega)),sw_o (by omega) (by omega)]
 have wl:∀ k,k<i→∃ m,m≤i∧w (f+k)=v (f+m):=by
  intro k hk
  obtain ⟨j,j1,j2,j3⟩:=hr.mem (by omega) (i:=f+k) (by omega) (by omega)
  rw [j3]
  by_cases e:j=f
  ·subst e;exact ⟨i,Nat.le_refl _,sw_i⟩
  ·exact ⟨j-f,by omega,by rw [sw_o e (by omega)];congr 1;omega⟩
 refine ⟨hw,fun p q h1 h2 h3=>?_,fun k j h1 h2 h3=>?_⟩
 ·have ep:p=f+(p-f):=by omega
  have eq:q=f+(q-f):=by omega
  rw [eq,wo _ (by omega)]
  by_cases hp:p=f+i
  ·rw [hp,wi]
   exact h.u 0 (q-f) (by omega) (by omega) (by omega)
  ·rw [ep,wo _ (by omega)]
   exact h.s _ _ (by omega) (by omega) (by omega)
 ·obtain ⟨m,m1,m2⟩:=wl k h1
  rw [m2]
  by_cases e:j=i
  ·subst e
   rw [wi]
   exact hmax m (by omega)
  ·rw [wo j (by omega)]
   exact h.u m j (by omega) (by omega) h3
structure Par (lt:α→α→Bool) (a b i j:Nat) (v:Nat→α):Prop where
 i1:a<i
 j1:j<b
 ij:i≤j+1
 l:∀ k,a<k→k<i→lt (v k) (v a)=true
 r:∀ k,j<k→k<b→Le lt (v a) (v k)
theorem Par.swap {a b i j:Nat} {v:Nat→α} (h:Par lt a b i j v) (hij:i≤j) (h1:Le lt (v a) (v i)) (h2:lt (v j) (v a)=true):Par lt a b (i+1) (j-1) (sw v i j)∧i<j:=by
 have hi:=h.i1
 have hne:i≠j:=by rintro rfl;unfold Le at h1;rw [h1] at h2;cases h2
 have ea:sw v i j a=v a:=sw_o (by omega) (by omega)
 refine ⟨⟨by omega,by have:=h.j1;omega,by omega,fun k k1 k2=>?_,fun k k1 k2=>?_⟩,by omega⟩
 ·rw [ea]
  by_cases e:k=i
  ·subst e;rw [sw_i];exact h2
  ·rw [sw_o e (by omega)];exact h.l k k1 (by omega)
 ·rw [ea]
  by_cases e:k=j
  ·subst e;rw [sw_j];exact h1
  ·rw [sw_o (by omega) e];exact h.r k (by omega) k2
structure Cut (lt:α→α→Bool) (a b m:Nat) (v:Nat→α):Prop where
 ca:a≤m
 cb:m<b
 l:∀ k,a≤k→k<m→Le lt (v k) (v m)
 r:∀ k,m<k→k<b→Le lt (v m) (v k)
theorem Par.cut (h0:LtOk lt) {a b i j:Nat} {v:Nat→α} (h:Par lt a b i j v) (hij:j<i):Cut lt a b j (sw v j a):=by
 have h1:=h.i1
 have h2:=h.ij
 have h3:=h.j1
 have ej:sw v j a j=v a:=sw_i
 refine ⟨by omega,h3,fun k k1 k2=>?_,fun k k1 k2=>?_⟩
 ·rw [ej]
  by_cases e:k=a
  ·subst e
   rw [sw_j]
   exact Le.of_lt h0 (h.l j k2 hij)
  ·rw [sw_o (by omega) e]
   exact Le.of_lt h0 (h.l k (by omega) (by omega))
 ·rw [ej,sw_o (by omega) (by omega)]
  exact h.r k k1 k2
structure ParE (lt:α→α→Bool) (a b i j:Nat) (v:Nat→α):Prop where
 i1:a<i
 j1:j<b
 ij:i≤j+1
 l:∀ k,a<k→k<i→Le lt (v k) (v a)
 r:∀ k,j<k→k<b→lt (v a) (v k)=true
theorem ParE.swap {a b i j:Nat} {v:Nat→α} (h:ParE lt a b i j v) (hij:i≤j) (h1:lt (v a) (v i)=true) (h2:Le lt (v j) (v a)):ParE lt a b (i+1) (j-1) (sw v i j)∧i<j:=by
 have hi:=h.i1
 have hne:i≠j:=by rintro rfl;unfold Le at h2;rw [h2] at h1;cases h1
 have ea:sw v i j a=v a:=sw_o (by omega) (by omega)
 refine ⟨⟨by omega,by have:=h.j1;omega,by omega,fun k k1 k2=>?_,fun k k1 k2=>?_⟩,by omega⟩
 ·rw [ea]
  by_cases e:k=i
  ·subst e;rw [sw_i];exact h2
  ·rw [sw_o e (by omega)];exact h.l k k1 (by omega)
 ·rw [ea]
  by_cases e:k=j
  ·subst e;rw [sw_j];exact h1
  ·rw [sw_o (by omega) e];exact h.r k (by omega) k2
structure Pdq (lt:α→α→Bool) (A B a b:Nat) (v:Nat→α):Prop where
 pa:A≤a
 ab:a≤b
 pb:b≤B
 l:Srt lt A a v
 r:Srt lt b B v
 lm:∀ i j,A≤i→i<a→a≤j→j<B→Le lt (v i) (v j)
 mr:∀ i j,A≤i→i<b→b≤j→j<B→Le lt (v i) (v j)
theorem Pdq.start {A B:Nat} {v:Nat→α} (h:A≤B):Pdq lt A B A B v:=⟨Nat.le_refl _,h,Nat.le_refl _,Srt.one (by omega),Srt.one (by omega),fun i j h1 h2=>by omega,fun i j h1 h2 h3 h4=>by omega⟩
theorem Pdq.rng {n A B a b:Nat} {v w:Nat→α} (h:Pdq lt A B a b v) (hn:B≤n) (hr:Rng n a b v w):Pdq lt A B a b w:=by
 have h1:=h.pa
 have h2:=h.ab
 have h3:=h.pb
 have lo:∀ i,i<a→w i=v i:=fun i hi=>hr.out i (.inl hi)
 have hi:∀ i,b≤i→w i=v i:=fun i hi=>hr.out i (.inr hi)
 refine ⟨h1,h2,h3,h.l.same fun i _ hi=>lo i hi,h.r.same fun i hi' _=>hi i hi',fun i j a1 a2 a3 a4=>?_,fun i j a1 a2 a3 a4=>?_⟩
 ·rw [lo i a2]
  by_cases e:j<b
  ·obtain ⟨k,k1,k2,k3⟩:=hr.mem (by omega) a3 e
   rw [k3]
   exact h.lm i k a1 a2 k1 (by omega)
  ·rw [hi j (by omega)]
   exact h.lm i j a1 a2 a3 a4
 ·rw [hi j a3]
  by_cases e:a≤i
  ·obtain ⟨k,k1,k2,k3⟩:=hr.mem (by omega) e a2
   rw [k3]
   exact h.mr k j (by omega) k2 a3 a4
  ·rw [lo i (by omega)]
   exact h.mr i j a1 a2 a3 a4
theorem Pdq.done (h0:LtOk lt) {A B a b:Nat} {v:Nat→α} (h:Pdq lt A B a b v) (hs:Srt lt a b v):Srt lt A B v:=by
 have h1:=h.ab
 intro p q a1 a2 a3
 by_cases e1:q<a
 ·exact h.l p q a1 a2 e1
 ·by_cases e2:p<a
  ·exact h.lm p q a1 e2 (by omega) a3
  ·by_cases e3:q<b
   ·exact hs p q (by omega) a2 e3
   ·by_cases e4:p<b
    ·exact h.mr p q a1 e4 (by omega) a3
    ·exact h.r p q (by omega) a2 a3
theorem Pdq.left (h0:LtOk lt) {A B a b m:Nat} {v:Nat→α} (h:Pdq lt A B a b v) (hm:Cut lt a b m v) (hs:Srt lt a m v):Pdq lt A B (m+1) b v:=by
 have h1:=h.pa
 have h2:=hm.ca
 have h3:=hm.cb
 have h4:=h.pb
 have key:∀ i j,a≤i→i<m+1→m≤j→j<b→i<j→Le lt (v i) (v j):=by
  intro i j b1 b2 b3 b4 b5
  have q1:Le lt (v i) (v m):=by
   by_cases e:i=m
   ·rw [e];exact Le.refl h0 _
   ·exact hm.l i b1 (by omega)
  by_cases e:j=m
  ·rw [e];exact q1
  ·exact q1.trans h0 (hm.r j (by omega) b4)
 refine ⟨by omega,by omega,h4,fun p q a1 a2 a3=>?_,h.r,fun i j a1 a2 a3 a4=>?_,h.mr⟩
 ·by_cases e1:q<a
  ·exact h.l p q a1 a2 e1
  ·by_cases e2:p<a
   ·exact h.lm p q a1 e2 (by omega) (by omega)
   ·by_cases e3:q<m
    ·exact hs p q (by omega) a2 e3
    ·exact key p q (by omega) (by omega) (by omega) (by omega) a2
 ·by_cases e1:i<a
  ·exact h.lm i j a1 e1 (by omega) a4
  ·by_cases e2:j<b
   ·exact key i j (by omega) a2 (by omega) e2 (by omega)
   ·exact h.mr i j a1 (by omega) (by omega) a4
theorem Pdq.right (h0:LtOk lt) {A B a b m:Nat} {v:Nat→α} (h:Pdq lt A B a b v) (hm:Cut lt a b m v) (hs:Srt lt (m+1) b v):Pdq lt A B a m v:=by
 have h1:=h.pa
 have h2:=hm.ca
 have h3:=hm.cb
 have h4:=h.pb
 have key:∀ i j,a≤i→i<m+1→m≤j→j<b→i<j→Le lt (v i) (v j):=by
  intro i j b1 b2 b3 b4 b5
  have q1:Le lt (v i) (v m):=by
   by_cases e:i=m
   ·rw [e];exact Le.refl h0 _
   ·exact hm.l i b1 (by omega)
  by_cases e:j=m
  ·rw [e];exact q1
  ·exact q1.trans h0 (hm.r j (by omega) b4)
 refine ⟨h1,h2,by omega,h.l,fun p q a1 a2 a3=>?_,h.lm,fun i j a1 a2 a3 a4=>?_⟩
 ·by_cases e1:b≤p
  ·exact h.r p q e1 a2 a3
  ·by_cases e2:b≤q
   ·exact h.mr p q (by omega) (by omega) e2 a3
   ·by_cases e3:p=m
    ·subst e3;exact hm.r q a2 (by omega)
    ·exact hs p q (by omega) a2 (by omega)
 ·by_cases e1:b≤j
  ·exact h.mr i j a1 (by omega) e1 a4
  ·by_cases e2:i<a
   ·exact h.lm i j a1 e2 (by omega) a4
   ·exact key i j (by omega) (by omega) a3 (by omega) (by omega)
theorem Pdq.same (h0:LtOk lt) {A B a b m:Nat} {v:Nat→α} (h:Pdq lt A B a b v) (ham:a≤m) (hmb:m≤b) (hmin:∀ k,a≤k→k<b→Le lt (v a) (v k)) (hl:∀ k,a≤k→k<m→Le lt (v k) (v a)):Pdq lt A B m b v:=by
 have h1:=h.pa
 have h4:=h.pb
 have key:∀ i j,a≤i→i<m→a≤j→j<b→Le lt (v i) (v j):=fun i j b1 b2 b3 b4=>(hl i b1 b2).trans h0 (hmin j b3 b4)
 refine ⟨by omega,hmb,h4,fun p q a1 a2 a3=>?_,h.r,fun i j a1 a2 a3 a4=>?_,h.mr⟩
 ·by_cases e1:q<a
  ·exact h.l p q a1 a2 e1
  ·by_cases e2:p<a
   ·exact h.lm p q a1 e2 (by omega) (by omega)
   ·exact key p q (by omega) (by omega) (by omega) (by omega)
 ·by_cases e1:i<a
  ·exact h.lm i j a1 e1 (by omega) a4
  ·by_cases e2:j<b
   ·exact key i j (by omega) a2 (by omega) e2
   ·exact h.mr i j a1 (by omega) (by omega) a4
end
end Go.HL
