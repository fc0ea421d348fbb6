/- A part of a proof. -/
import Derived.Test.YtadmdlpmikoghaaGreatKkHlN
import Derived.Test.YtadmdlpmikoghaaGreatKkHlS1
import Derived.Test.YtadmdlpmikoghaaGreatKkHlS2
import Derived.Test.YtadmdlpmikoghaaGreatKkHlS3
import Derived.Test.YtadmdlpmikoghaaGreatKkHlS5
import Derived.Test.YtadmdlpmikoghaaGreatKkHlS6
import Derived.Test.YtadmdlpmikoghaaGreatKkHlS7
import Derived.Test.YtadmdlpmikoghaaGreatKkHlS4
set_option linter.defProp false
set_option linter.unusedSimpArgs false
set_option linter.unusedVariables false
namespace Go.HL
open Nat renaming reduceAdd→zA,reduceLeDiff→zB,reduceLT→zC,reduceSub→zD,reduceMul→zE,reduceEqDiff→zF,reduceBEq→zG
open Int renaming reduceAdd→zH,reduceToNat→zI
structure Rf where
 ty:ByteArray
 rl:ByteArray
inductive Ex where
 | mk (kind:Int) (name over:ByteArray) (kids:List Ex)
structure Rl where
 name:ByteArray
 refs:List Rf
 ex:Ex
structure Ty where
 name:ByteArray
 rels:List Rl
mutual
def exC:Ex→List AV
 | .mk k n o ks=>[.int .i64 k,.str n,.str o,.sl 4 (exsC ks)]
def exsC:List Ex→List (List AV)
 | []=>[]
 | e :: r=>exC e :: exsC r
end
def rfC (r:Rf):List AV:=[.str r.ty,.str r.rl]
def rlC (r:Rl):List AV:=.str r.name :: .sl 2 (r.refs.map rfC) :: exC r.ex
def tyC (t:Ty):List AV:=[.str t.name,.sl 6 (t.rels.map rlC)]
def scA (s:List Ty):AV:=.agg [.sl 2 (s.map tyC)]
theorem exsC_map:∀ (l:List Ex),exsC l=l.map exC
 | []=>rfl
 | e :: r=>by rw [exsC,exsC_map r,List.map_cons]
def Ex.kind:Ex→Int
 | .mk k _ _ _=>k
def Ex.name:Ex→ByteArray
 | .mk _ n _ _=>n
def Ex.over:Ex→ByteArray
 | .mk _ _ o _=>o
def Ex.kids:Ex→List Ex
 | .mk _ _ _ ks=>ks
theorem q0d (e:Ex):exC e=[.int .i64 e.kind,.str e.name,.str e.over,.sl 4 (e.kids.map exC)]:=by
 cases e
 rw [exC,exsC_map]
 rfl
theorem q0i (r:Rl):rlC r=[.str r.name,.sl 2 (r.refs.map rfC),.int .i64 r.ex.kind,.str r.ex.name,.str r.ex.over,.sl 4 (r.ex.kids.map exC)]:=by rw [rlC,q0d]
theorem exC_len (e:Ex):(exC e).length=4:=by rw [q0d];rfl
theorem rlC_len (r:Rl):(rlC r).length=6:=by rw [q0i];rfl
theorem tkW_exC {e:Ex} {K:List AV→Prop}:tkW 4 (exC e) K=K (exC e):=tkW_all (exC_len e)
theorem tkW_rlC {r:Rl} {K:List AV→Prop}:tkW 6 (rlC r) K=K (rlC r):=tkW_all (rlC_len r)
def hwR:=And.intro @tkW_exC @tkW_rlC
inductive OkE:Ex→Prop
 | mk (k:Int) (n o:ByteArray) (ks:List Ex) (hk:ks.length≤1125899906842624) (hn:n.size≤1125899906842624) (ho:o.size≤1125899906842624) (h:∀ e∈ks,OkE e):OkE (.mk k n o ks)
structure OkF (r:Rf):Prop where
 ty:r.ty.size≤1125899906842624
 rl:r.rl.size≤1125899906842624
structure OkR (r:Rl):Prop where
 name:r.name.size≤1125899906842624
 refs:r.refs.length≤1125899906842624
 ref:∀ f∈r.refs,OkF f
 ex:OkE r.ex
structure OkT (t:Ty):Prop where
 name:t.name.size≤1125899906842624
 rels:t.rels.length≤1125899906842624
 rel:∀ r∈t.rels,OkR r
structure OkS (s:List Ty):Prop where
 types:s.length≤1125899906842624
 typ:∀ t∈s,OkT t
theorem OkS.at {s:List Ty} (h:OkS s) {i:Nat} {t:Ty} (ht:s[i]?=some t):OkT t:=h.typ t (List.mem_of_getElem? ht)
theorem OkT.at {t:Ty} (h:OkT t) {i:Nat} {r:Rl} (hr:t.rels[i]?=some r):OkR r:=h.rel r (List.mem_of_getElem? hr)
theorem OkR.at {r:Rl} (h:OkR r) {i:Nat} {f:Rf} (hf:r.refs[i]?=some f):OkF f:=h.ref f (List.mem_of_getElem? hf)
def q0r {α:Type} (p:α→Bool):List α→Option Nat
 | []=>none
 | x :: r=>if p x then some 0 else (q0r p r).map (·+1)
theorem firstI_none {α:Type} {p:α→Bool}:∀ {l:List α},q0r p l=none↔∀ (i:Nat) (x:α),l[i]?=some x→p x=false
 | []=>by simp [q0r]
 | x :: r=>by
  unfold q0r
  constructor
  ·intro h i y hy
   split at h
   ·cases h
   ·rename_i hp
    have h2:q0r p r=none:=by simpa using h
    cases i with
    | zero=>simp at hy;subst hy;simpa using hp
    | succ i=>exact firstI_none.1 h2 i y (by simpa using hy)
  ·intro h
   rw [if_neg (by simp [h 0 x rfl])]
   rw [firstI_none.2 fun i y hy=>h (i+1) y (by simpa using hy)]
   rfl
theorem firstI_some {α:Type} {p:α→Bool}:∀ {l:List α} {i:Nat},q0r p l=some i↔(∃ x,l[i]?=some x∧p x=true)∧∀ (j:Nat) (x:α),j<i→l[j]?=some x→p x=false
 | [],i=>by simp [q0r]
 | x :: r,i=>by
  unfold q0r
  by_cases hp:p x=true
  ·rw [if_pos hp]
   constructor
   ·intro h
    cases h
    exact ⟨⟨x,rfl,hp⟩,fun j y hj=>by omega⟩
   ·rintro ⟨⟨y,hy,hpy⟩,h⟩
    cases i with
    | zero=>rfl
    | succ i=>have:=h 0 x (by omega) rfl;rw [hp] at this;cases this
  ·rw [if_neg hp]
   cases i with
   | zero=>
    constructor
    ·intro h
     cases hf:q0r p r<;>simp [hf] at h
    ·rintro ⟨⟨y,hy,hpy⟩,h⟩
     simp at hy
     subst hy
     exact absurd hpy hp
   | succ i=>
    have hiff:(q0r p r).map (·+1)=some (i+1)↔q0r p r=some i:=by
     cases q0r p r<;>simp
    rw [hiff,firstI_some]
    constructor
    ·rintro ⟨⟨y,hy,hpy⟩,h⟩
     refine ⟨⟨y,by simpa using hy,hpy⟩,fun j z hj hz=>?_⟩
     cases j with
     | zero=>simp at hz;subst hz;simpa using hp
     | succ j=>exact h j z (by omega) (by simpa using hz)
    ·rintro ⟨⟨y,hy,hpy⟩,h⟩
     exact ⟨⟨y,by simpa using hy,hpy⟩,fun j z hj hz=>h (j+1) z (by omega) (by simpa using hz)⟩
def oi:Option Nat→Int
 | some i=>i
 | none=>-1
def typF (s:List Ty) (n:ByteArray):Option Nat:=q0r (fun t=>decide (t.name=n)) s
def q4w (rs:List Rl) (n:ByteArray):Option Nat:=q0r (fun r=>decide (r.name=n)) rs
def relF (s:List Ty) (t:Option Nat) (n:ByteArray):Option Nat:=(t.bind (s[·]?)).bind fun t=>q4w t.rels n
theorem q4t {s:List Ty} {n:ByteArray} {i:Nat} (h:typF s n=some i):i<s.length:=by
 obtain ⟨⟨x,hx,-⟩,-⟩:=firstI_some.1 h
 exact (List.getElem?_eq_some_iff.1 hx).1
theorem relIn_lt {s:List Rl} {n:ByteArray} {i:Nat} (h:q4w s n=some i):i<s.length:=by
 obtain ⟨⟨x,hx,-⟩,-⟩:=firstI_some.1 h
 exact (List.getElem?_eq_some_iff.1 hx).1
theorem q37 {s:List Ty} (hs:OkS s) (n:ByteArray):AFun PG nrx66 [scA s,.str n] (.int .i64 (oi (typF s n))):=by
 intro S
 have hb:=hs.types
 refine wx66 ?_
 unfold Bx66
 (try simp only [rwp,hwR,zA,zB,zC,zD,zE,zF,zG,zH,zI,scA])
 refine LoopP.intro (fun i:Nat=>[(1,.str n),(2,.rop [.sl 2 (s.map tyC)]),(5,.int .i64 i)]) (fun _=>S) (fun i=>i≤s.length∧∀ j t,j<i→s[j]?=some t→decide (t.name=n)=false) (fun i=>s.length-i) 0 ⟨by omega,by omega⟩ rfl (Sub.refl S) ?_
 rintro i ⟨hi,hn⟩ r hr
 unfold C66_1
 (try simp only [rwp,hwR,zA,zB,zC,zD,zE,zF,zG,zH,zI])
 (refine q03 (fun hlt=>?_) (fun hlt=>?_)<;>(try simp only [hlc] at hlt))
 ·obtain ⟨t,ht⟩:=q0h hlt
  (try simp only [rwp,hwR,zA,zB,zC,zD,zE,zF,zG,zH,zI,ht,tyC])
  (refine q03 (fun he=>?_) (fun he=>?_)<;>(try simp only [hlc] at he))
  ·have:typF s n=some i:=firstI_some.2 ⟨⟨t,ht,by simpa using he⟩,hn⟩
   exact q02 ⟨by rw [this];rfl,rfl⟩
  ·(simp (disch:=omega) only [q04])
   refine q08 rfl (hr (i+1) ⟨by omega,fun j u hj hu=>?_⟩ (by omega))
   rcases Nat.lt_succ_iff_lt_or_eq.1 hj with h | rfl
   ·exact hn j u h hu
   ·rw [ht] at hu;cases hu;simpa using he
 ·have:typF s n=none:=firstI_none.2 fun j u hu=>hn j u (by have:=(List.getElem?_eq_some_iff.1 hu).1;omega) hu
  exact q02 ⟨by rw [this];rfl,rfl⟩
theorem q6q {s:List Ty} (hs:OkS s) (t:Option Nat) (ht:∀ i,t=some i→i<s.length) (n:ByteArray):AFun PG nrx67 [scA s,.int .i64 (oi t),.str n] (.int .i64 (oi (relF s t n))):=by
 intro S
 refine wx67 ?_
 unfold Bx67
 (try simp only [rwp,hwR,zA,zB,zC,zD,zE,zF,zG,zH,zI,scA])
 cases t with
 | none=>
  (refine q03 (fun hlt=>?_) (fun hlt=>?_)<;>(try simp only [hlc] at hlt))
  ·exact q02 ⟨rfl,rfl⟩
  ·simp [oi] at hlt
 | some k=>
  have hk:=ht k rfl
  obtain ⟨ty,hty⟩:∃ ty,s[k]?=some ty:=⟨_,List.getElem?_eq_getElem hk⟩
  have hrel:relF s (some k) n=q4w ty.rels n:=by simp [relF,hty]
  have hb:=(hs.at hty).rels
  (refine q03 (fun hlt=>?_) (fun hlt=>?_)<;>(try simp only [hlc] at hlt))
  ·simp [oi] at hlt;omega
  simp only [oi]
  refine LoopP.intro (fun i:Nat=>[(1,.int .i64 k),(2,.str n),(3,.rop [.sl 2 (s.map tyC)]),(7,.int .i64 i)]) (fun _=>S) (fun i=>i≤ty.rels.length∧∀ j r,j<i→ty.rels[j]?=some r→decide (r.name=n)=false) (fun i=>ty.rels.length-i) 0 ⟨by omega,by omega⟩ rfl (Sub.refl S) ?_
  rintro i ⟨hi,hn⟩ r hr
  unfold C67_1
  (try simp only [rwp,hwR,zA,zB,zC,zD,zE,zF,zG,zH,zI,hty,tyC])
  (refine q03 (fun hlt=>?_) (fun hlt=>?_)<;>(try simp only [hlc] at hlt))
  ·obtain ⟨r,hr'⟩:=q0h hlt
   (try simp only [rwp,hwR,zA,zB,zC,zD,zE,zF,zG,zH,zI,hr',q0i])
   (refine q03 (fun he=>?_) (fun he=>?_)<;>(try simp only [hlc] at he))
   ·have:relF s (some k) n=some i:=by rw [hrel];exact firstI_some.2 ⟨⟨r,hr',by simpa using he⟩,hn⟩
    exact q02 ⟨by rw [this],rfl⟩
   ·(simp (disch:=omega) only [q04])
    refine q08 rfl (hr (i+1) ⟨by omega,fun j u hj hu=>?_⟩ (by omega))
    rcases Nat.lt_succ_iff_lt_or_eq.1 hj with h | rfl
    ·exact hn j u h hu
    ·rw [hr'] at hu;cases hu;simpa using he
  ·have:relF s (some k) n=none:=by rw [hrel];exact firstI_none.2 fun j u hu=>hn j u (by have:=(List.getElem?_eq_some_iff.1 hu).1;omega) hu
   exact q02 ⟨by rw [this],rfl⟩
def q0l (s:List Ty) (t n:ByteArray):Option (Nat×Nat×Rl):=match typF s t with
 | none=>none
 | some i=>match s[i]? with
  | none=>none
  | some ty=>match q4w ty.rels n with
   | none=>none
   | some k=>(ty.rels[k]?).map fun r=>(i,k,r)
theorem q7k {s:List Ty} {t n:ByteArray}:relF s (typF s t) n=(q0l s t n).map fun q=>q.2.1:=by
 unfold relF q0l
 cases h1:typF s t with
 | none=>rfl
 | some i=>
  have hi:=q4t h1
  simp only [Option.bind_some,List.getElem?_eq_getElem hi]
  cases h2:q4w (s[i]).rels n with
  | none=>rfl
  | some k=>simp [List.getElem?_eq_getElem (relIn_lt h2)]
theorem q1h {s:List Ty} {t n:ByteArray} {i k:Nat} {r:Rl} (h:q0l s t n=some (i,k,r)):typF s t=some i∧∃ ty,s[i]?=some ty∧q4w ty.rels n=some k∧ty.rels[k]?=some r:=by
 unfold q0l at h
 split at h
 ·cases h
 ·split at h
  ·cases h
  ·split at h
   ·cases h
   ·rename_i h1 _ ty h2 _ k' h3
    cases h4:ty.rels[k']? with
    | none=>rw [h4] at h;cases h
    | some r'=>rw [h4] at h;simp at h;obtain ⟨rfl,rfl,rfl⟩:=h;exact ⟨h1,ty,h2,h3,h4⟩
def q6w:List AV:=[.str ⟨#[]⟩,.nils,.int .i64 0,.str ⟨#[]⟩,.str ⟨#[]⟩,.nils]
theorem q3h {s:List Ty} (hs:OkS s) (t n:ByteArray):AFun PG nrx28 [scA s,.str t,.str n] (match q0l s t n with
  | some (_,_,r)=>.tup [.agg (rlC r),.bool true]
  | none=>.tup [.agg q6w,.bool false]):=by
 intro S
 refine wx28 ?_
 unfold Bx28
 (try simp only [rwp,hwR,zA,zB,zC,zD,zE,zF,zG,zH,zI,scA])
 intro b hb
 have hS:∀ o,Sub S (supd S b o):=fun o=>Sub.fresh o hb
 refine q05 (q37 hs t) ?_
 (try simp only [rwp,hwR,zA,zB,zC,zD,zE,zF,zG,zH,zI])
 refine q05 (q6q hs (typF s t) (fun i h=>q4t h) n) ?_
 (try simp only [rwp,hwR,zA,zB,zC,zD,zE,zF,zG,zH,zI])
 have hf:relF s (typF s t) n=(q0l s t n).map fun q=>q.2.1:=q7k
 cases hq:q0l s t n with
 | none=>
  rw [hq] at hf
  (refine q03 (fun hlt=>?_) (fun hlt=>?_)<;>(try simp only [hlc] at hlt))
  ·refine q17 S (hS _) ?_
   (try simp only [rwp,hwR,zA,zB,zC,zD,zE,zF,zG,zH,zI])<;>(first | rfl | exact ⟨rfl,rfl⟩)
  ·rw [hf] at hlt;simp [oi] at hlt
 | some q=>
  obtain ⟨i,k,r⟩:=q
  obtain ⟨h1,ty,h2,-,h3⟩:=q1h hq
  rw [hq] at hf
  have hf':oi (relF s (typF s t) n)=(k:Int):=by rw [hf];rfl
  have h1':oi (typF s t)=(i:Int):=by rw [h1];rfl
  rw [hf',h1']
  (refine q03 (fun hlt=>?_) (fun hlt=>?_)<;>(try simp only [hlc] at hlt))
  ·omega
  ·(try simp only [rwp,hwR,zA,zB,zC,zD,zE,zF,zG,zH,zI,h2,h3,tyC,q0i])
   refine q17 S (hS _) ?_
   (try simp only [rwp,hwR,zA,zB,zC,zD,zE,zF,zG,zH,zI,q0i])<;>(first | rfl | exact ⟨rfl,rfl⟩)
def q66 (n:Int):Bool:=decide (97≤n)&&decide (n≤122)
def digitN (n:Int):Bool:=decide (48≤n)&&decide (n≤57)
def greatN (n:Int):Bool:=decide (65≤n)&&decide (n≤90)
theorem q50 (n:Int):AFun PG nrx183 [.int .u8 n] (.bool (q66 n)):=by
 intro S
 refine wx183 ?_
 unfold Bx183
 (try simp only [rwp,hwR,zA,zB,zC,zD,zE,zF,zG,zH,zI])
 exact q02 ⟨rfl,rfl⟩
theorem q7w (n:Int):AFun PG nrx184 [.int .u8 n] (.bool (digitN n)):=by
 intro S
 refine wx184 ?_
 unfold Bx184
 (try simp only [rwp,hwR,zA,zB,zC,zD,zE,zF,zG,zH,zI])
 exact q02 ⟨rfl,rfl⟩
def nameN (n:Int):Bool:=q66 n||digitN n||decide (n=95)
theorem c_names_Name_1 (n:Int):AFun PG nrx182 [.int .u8 n] (.bool (nameN n)):=by
 intro S
 refine wx182 ?_
 unfold Bx182
 refine q05 (q50 n) ?_
 (refine q1m (fun hg=>?_) (fun hg=>?_)<;>(try simp only [rwp,hwR,zA,zB,zC,zD,zE,zF,zG,zH,zI,hg,C182_1]))
 ·refine q05 (q7w n) ?_
  (try simp only [rwp,hwR,zA,zB,zC,zD,zE,zF,zG,zH,zI,C182_1])
  exact q02 ⟨by simp [nameN,hg],rfl⟩
 ·exact q02 ⟨by simp [nameN,hg],rfl⟩
theorem q9c {p:Int→Bool} {f:Nat} (hf:∀ b:UInt8,AFun PG f [.int .u8 b.toNat] (.bool (p b.toNat))) {s:ByteArray} (hs:s.size≤1125899906842624) (m:Int):AFun PG nrx181 [.str s,.int .i64 m,.func (.func f) [] []] (.bool (allB p s&&(decide ((0:Int)<s.size)&&decide ((s.size:Int)≤m)))):=by
 intro S
 refine wx181 ?_
 unfold Bx181
 (try simp only [rwp,hwR,zA,zB,zC,zD,zE,zF,zG,zH,zI])
 refine LoopP.intro (fun i:Nat=>[(0,.str s),(1,.int .i64 m),(2,.func (.func f) [] []),(9,.int .i64 s.size),(10,.int .i64 i)]) (fun _=>S) (fun i=>i≤s.size∧∀ j b,j<i→s[j]?=some b→p b.toNat=true) (fun i=>s.size-i) 0 ⟨by omega,by omega⟩ rfl (Sub.refl S) ?_
 rintro i ⟨hi,hn⟩ r hr
 unfold C181_1
 (try simp only [rwp,hwR,zA,zB,zC,zD,zE,zF,zG,zH,zI])
 (refine q03 (fun hlt=>?_) (fun hlt=>?_)<;>(try simp only [hlc] at hlt))
 ·obtain ⟨b,hb⟩:=q51 hlt
  (try simp only [rwp,hwR,zA,zB,zC,zD,zE,zF,zG,zH,zI,hb])
  refine q05 (hf b) ?_
  (try simp only [rwp,hwR,zA,zB,zC,zD,zE,zF,zG,zH,zI])
  (refine q03 (fun hp=>?_) (fun hp=>?_)<;>(try simp only [hlc] at hp))
  ·exact q02 ⟨by simp only [q8y hb hp,Bool.false_and],rfl⟩
  ·(simp (disch:=omega) only [q04])
   refine q08 rfl (hr (i+1) ⟨by omega,fun j c hj hc=>?_⟩ (by omega))
   rcases Nat.lt_succ_iff_lt_or_eq.1 hj with h | rfl
   ·exact hn j c h hc
   ·rw [hb] at hc;cases hc;exact hp
 ·have hall:allB p s=true:=allB_iff.2 fun j c hc=>hn j c (by have:=q80 hc;omega) hc
  exact q02 ⟨by simp only [hall,Bool.true_and],rfl⟩
def q27:ByteArray:=⟨#[116,121,112,101]⟩
def q0c:ByteArray:=⟨#[114,101,108,97,116,105,111,110]⟩
def q1f:ByteArray:=⟨#[100,101,102,105,110,101]⟩
def q0q (s:ByteArray):Bool:=!decide (s=q27)&&(!decide (s=q0c)&&(!decide (s=q1f)&&((allB nameN s&&(decide ((0:Int)<s.size)&&decide ((s.size:Int)≤16)))&&(match s[0]? with
 | some b=>q66 b.toNat
 | none=>false))))
theorem q19 {s:ByteArray} (hs:s.size≤1125899906842624):AFun PG nrx144 [.str s] (.bool (q0q s)):=by
 intro S
 refine wx144 ?_
 unfold Bx144
 (try simp only [rwp,hwR,zA,zB,zC,zD,zE,zF,zG,zH,zI,C144_1])
 (refine q03 (fun e1=>?_) (fun e1=>?_)<;>(try simp only [rwp,hwR,zA,zB,zC,zD,zE,zF,zG,zH,zI,e1]))
 ·have e1:decide (s=q27)=true:=e1
  exact q02 ⟨by simp only [q0q,e1,Bool.not_true,Bool.false_and],rfl⟩
 (refine q03 (fun e2=>?_) (fun e2=>?_)<;>(try simp only [rwp,hwR,zA,zB,zC,zD,zE,zF,zG,zH,zI,e2]))
 ·have e2:decide (s=q0c)=true:=e2
  exact q02 ⟨by simp only [q0q,e2,Bool.not_true,Bool.false_and,Bool.and_false],rfl⟩
 (refine q03 (fun e3=>?_) (fun e3=>?_)<;>(try simp only [rwp,hwR,zA,zB,zC,zD,zE,zF,zG,zH,zI,e3]))
 ·have e3:decide (s=q1f)=true:=e3
  exact q02 ⟨by simp only [q0q,e3,Bool.not_true,Bool.false_and,Bool.and_false],rfl⟩
 have e1:decide (s=q27)=false:=e1
 have e2:decide (s=q0c)=false:=e2
 have e3:decide (s=q1f)=false:=e3
 refine q05 (q9c (fun b=>c_names_Name_1 b.toNat) hs 16) ?_
 (refine q1m (fun hg=>?_) (fun hg=>?_)<;>(try simp only [rwp,hwR,zA,zB,zC,zD,zE,zF,zG,zH,zI,hg]))
 ·have h5:((0:Nat):Int)<s.size:=by
   simp only [Bool.and_eq_true,decide_eq_true_eq] at hg
   omega
  obtain ⟨b,hb⟩:=q51 h5
  (try simp only [rwp,hwR,zA,zB,zC,zD,zE,zF,zG,zH,zI,hb])
  refine q05 (q50 b.toNat) ?_
  exact q02 ⟨by simp only [q0q,e1,e2,e3,hg,hb,Bool.not_false,Bool.true_and],rfl⟩
 ·exact q02 ⟨by simp only [q0q,e1,e2,e3,hg,Bool.false_and,Bool.and_false,Bool.not_true],rfl⟩
def atN (i:Nat) (n:Int):Bool:=q66 n||(!decide ((i:Int)=0)&&(decide (n=95)||digitN n))
theorem q0v {s:ByteArray} (hs:s.size≤1125899906842624):AFun PG nrx78 [.str s] (.bool (q0q s)):=by
 intro S
 refine wx78 ?_
 unfold Bx78
 (try simp only [rwp,hwR,zA,zB,zC,zD,zE,zF,zG,zH,zI,C78_1,C78_2,C78_3,C78_4])
 have hc:(decide ((s.size:Int)=0)||decide (16<(s.size:Int))||decide (s=q27)||decide (s=q0c)||decide (s=q1f))=true→q0q s=false:=by
  intro h
  simp only [Bool.or_eq_true,decide_eq_true_eq] at h
  rcases h with (((h | h) | h) | h) | h
  ·simp only [q0q,decide_eq_false (show ¬ (0:Int)<s.size by omega),Bool.false_and,Bool.and_false]
  ·simp only [q0q,decide_eq_false (show ¬ (s.size:Int)≤16 by omega),Bool.false_and,Bool.and_false]
  ·rw [h];rfl
  ·rw [h];rfl
  ·rw [h];rfl
 (refine q03 (fun h0=>?_) (fun h0=>?_)<;>(try simp only [rwp,hwR,zA,zB,zC,zD,zE,zF,zG,zH,zI,h0]))
 ·exact q02 ⟨by rw [hc h0],rfl⟩
 have h0:(decide ((s.size:Int)=0)||decide (16<(s.size:Int))||decide (s=q27)||decide (s=q0c)||decide (s=q1f))=false:=h0
 simp only [Bool.or_eq_false_iff,decide_eq_false_iff_not] at h0
 obtain ⟨⟨⟨⟨c1,c2⟩,c3⟩,c4⟩,c5⟩:=h0
 refine LoopP.intro (fun i:Nat=>[(0,.str s),(3,.int .i64 i)]) (fun _=>S) (fun i=>i≤s.size∧∀ j b,j<i→s[j]?=some b→atN j b.toNat=true) (fun i=>s.size-i) 0 ⟨by omega,by omega⟩ rfl (Sub.refl S) ?_
 rintro i ⟨hi,hn⟩ r hr
 (try simp only [rwp,hwR,zA,zB,zC,zD,zE,zF,zG,zH,zI,C78_5,C78_6,C78_7,C78_8])
 (refine q03 (fun hlt=>?_) (fun hlt=>?_)<;>(try simp only [hlc] at hlt))
 ·obtain ⟨b,hb⟩:=q51 hlt
  (try simp only [rwp,hwR,zA,zB,zC,zD,zE,zF,zG,zH,zI,hb])
  have fin:atN i b.toNat=true→nameN b.toNat=true:=by
   simp only [atN,nameN,Bool.or_eq_true,Bool.and_eq_true]
   rintro (h | ⟨-,h | h⟩)
   ·exact .inl (.inl h)
   ·exact .inr h
   ·exact .inl (.inr h)
  have bad:atN i b.toNat=false→q0q s=false:=by
   intro h
   by_cases h0:i=0
   ·subst h0
    have:q66 b.toNat=false:=by
     simp only [atN,Bool.or_eq_false_iff] at h
     exact h.1
    simp only [q0q,hb,this,Bool.and_false]
   ·have h5:nameN b.toNat=false:=by
     have:decide ((i:Int)=0)=false:=decide_eq_false (by omega)
     simp only [atN,this,Bool.not_false,Bool.true_and,Bool.or_eq_false_iff] at h
     simp only [nameN,Bool.or_eq_false_iff]
     exact ⟨⟨h.1,h.2.2⟩,h.2.1⟩
    simp only [q0q,q8y hb h5,Bool.false_and,Bool.and_false]
  have good:atN i b.toNat=true→r [(0,.str s),(3,.int .i64 ((i:Int)+1))] S:=fun h=>by
   refine hr (i+1) ⟨by omega,fun j c hj hc=>?_⟩ (by omega)
   rcases Nat.lt_succ_iff_lt_or_eq.1 hj with h1 | rfl
   ·exact hn j c h1 hc
   ·rw [hb] at hc;cases hc;exact h
  have ea:atN i b.toNat=((decide (97≤(b.toNat:Int))&&decide ((b.toNat:Int)≤122))||(!decide ((i:Int)=0)&&(decide ((b.toNat:Int)=95)||(!decide ((b.toNat:Int)<48)&&!decide (57<(b.toNat:Int)))))):=by
   simp only [atN,q66,digitN,← decide_not,Int.not_lt]
  cases h1:decide (97≤(b.toNat:Int))<;>cases h2:decide ((b.toNat:Int)≤122)<;>cases h3:decide ((i:Int)=0)<;>cases h4:decide ((b.toNat:Int)=95)<;>cases h5:decide ((b.toNat:Int)<48)<;>cases h6:decide (57<(b.toNat:Int)) <;>
   simp only [h1,h2,h3,h4,h5,h6,Bool.true_and,Bool.false_and,Bool.and_true,Bool.and_false,Bool.or_true,Bool.true_or,Bool.or_false,Bool.false_or,Bool.not_true,Bool.not_false] at ea <;>
   (try simp only [rwp,hwR,zA,zB,zC,zD,zE,zF,zG,zH,zI,C78_9,C78_10,C78_11,C78_12,h4,h5,h6]) <;>
   first
    | exact q02 ⟨by rw [bad ea],rfl⟩
    | ((simp (disch:=omega) only [q04]);exact q08 rfl (good ea))
 ·refine q02 ⟨?_,rfl⟩
  obtain ⟨b0,hb0⟩:∃ b,s[0]?=some b:=q51 (i:=0) (by omega)
  have h0:=hn 0 b0 (by omega) hb0
  have h0':q66 b0.toNat=true:=by simpa [atN] using h0
  have hall:allB nameN s=true:=allB_iff.2 fun j c hc=>by
   have h8:=hn j c (by have:=q80 hc;omega) hc
   simp only [atN,Bool.or_eq_true,Bool.and_eq_true] at h8
   simp only [nameN,Bool.or_eq_true]
   rcases h8 with h8 | ⟨-,h8 | h8⟩
   ·exact .inl (.inl h8)
   ·exact .inr h8
   ·exact .inl (.inr h8)
  have:q0q s=true:=by
   simp only [q0q,decide_eq_false c3,decide_eq_false c4,decide_eq_false c5,hall,hb0,h0',Bool.not_false,Bool.true_and,Bool.and_true,Bool.and_eq_true,decide_eq_true_eq]
   omega
  rw [this]
theorem q3r {α:Type} {p:α→Bool}:∀ {l:List α},(q0r p l).isSome=l.any p
 | []=>rfl
 | x :: r=>by
  unfold q0r
  by_cases h:p x=true
  ·simp [h]
  ·have:=q3r (p:=p) (l:=r)
   simp only [h,if_false,Option.isSome_map,this,List.any_cons,Bool.false_or,Bool.false_eq_true]
theorem oi_some {o:Option Nat}:decide (0≤oi o)=o.isSome:=by
 cases o with
 | none=>rfl
 | some i=>simp [oi]
section
variable {α:Type} {enc:α→List AV} {xs:List α} {S:q00} {g:Nat} {fi ca:List AV} {p:α→Bool}
theorem c_IndexFunc_Ref (hl:∀ x∈xs,(enc x).length=2) (hb:xs.length≤1125899906842624) (hp:∀ x∈xs,AFunS PG g (fi++[.agg (enc x)]++ca) S (.bool (p x))) :
  AFunS PG nrx215 [.sl 2 (xs.map enc),.func (.func g) fi ca] S (.int .i64 (oi (q0r p xs))):=by
 refine wx215 ?_
 unfold Bx215
 (try simp only [rwp,hwR,zA,zB,zC,zD,zE,zF,zG,zH,zI])
 refine LoopP.intro (fun i:Nat=>[(0,.sl 2 (xs.map enc)),(1,.func (.func g) fi ca),(7,.int .i64 xs.length),(8,.int .i64 i)]) (fun _=>S) (fun i=>i≤xs.length∧∀ j x,j<i→xs[j]?=some x→p x=false) (fun i=>xs.length-i) 0 ⟨by omega,by omega⟩ rfl (Sub.refl S) ?_
 rintro i ⟨hi,hn⟩ r hr
 unfold C215_1
 (try simp only [rwp,hwR,zA,zB,zC,zD,zE,zF,zG,zH,zI])
 (refine q03 (fun hlt=>?_) (fun hlt=>?_)<;>(try simp only [hlc] at hlt))
 ·obtain ⟨x,hx⟩:=q0h hlt
  (try simp only [rwp,hwR,zA,zB,zC,zD,zE,zF,zG,zH,zI,hx])
  rw [tkW_all (hl x (List.mem_of_getElem? hx))]
  refine caW_atv (hp x (List.mem_of_getElem? hx)) ?_
  (refine q03 (fun he=>?_) (fun he=>?_)<;>(try simp only [rwp,hwR,zA,zB,zC,zD,zE,zF,zG,zH,zI,he]))
  ·have:q0r p xs=some i:=firstI_some.2 ⟨⟨x,hx,he⟩,hn⟩
   exact q02 ⟨by rw [this];rfl,rfl⟩
  ·(simp (disch:=omega) only [q04])
   refine q08 rfl (hr (i+1) ⟨by omega,fun j u hj hu=>?_⟩ (by omega))
   rcases Nat.lt_succ_iff_lt_or_eq.1 hj with h | rfl
   ·exact hn j u h hu
   ·rw [hx] at hu;cases hu;exact he
 ·have:q0r p xs=none:=firstI_none.2 fun j u hu=>hn j u (by have:=(List.getElem?_eq_some_iff.1 hu).1;omega) hu
  exact q02 ⟨by rw [this];rfl,rfl⟩
theorem q7z (hl:∀ x∈xs,(enc x).length=2) (hb:xs.length≤1125899906842624) (hp:∀ x∈xs,AFunS PG g (fi++[.agg (enc x)]++ca) S (.bool (p x))) :
  AFunS PG nrx207 [.sl 2 (xs.map enc),.func (.func g) fi ca] S (.bool (xs.any p)):=by
 refine wx207 ?_
 unfold Bx207
 refine q1u (c_IndexFunc_Ref hl hb hp) ?_
 (try simp only [rwp,hwR,zA,zB,zC,zD,zE,zF,zG,zH,zI])
 exact q02 ⟨by rw [oi_some,q3r],rfl⟩
theorem c_IndexFunc_Rel (hl:∀ x∈xs,(enc x).length=6) (hb:xs.length≤1125899906842624) (hp:∀ x∈xs,AFunS PG g (fi++[.agg (enc x)]++ca) S (.bool (p x))) :
  AFunS PG nrx205 [.sl 6 (xs.map enc),.func (.func g) fi ca] S (.int .i64 (oi (q0r p xs))):=by
 refine wx205 ?_
 unfold Bx205
 (try simp only [rwp,hwR,zA,zB,zC,zD,zE,zF,zG,zH,zI])
 refine LoopP.intro (fun i:Nat=>[(0,.sl 6 (xs.map enc)),(1,.func (.func g) fi ca),(7,.int .i64 xs.length),(8,.int .i64 i)]) (fun _=>S) (fun i=>i≤xs.length∧∀ j x,j<i→xs[j]?=some x→p x=false) (fun i=>xs.length-i) 0 ⟨by omega,by omega⟩ rfl (Sub.refl S) ?_
 rintro i ⟨hi,hn⟩ r hr
 unfold C205_1
 (try simp only [rwp,hwR,zA,zB,zC,zD,zE,zF,zG,zH,zI])
 (refine q03 (fun hlt=>?_) (fun hlt=>?_)<;>(try simp only [hlc] at hlt))
 ·obtain ⟨x,hx⟩:=q0h hlt
  (try simp only [rwp,hwR,zA,zB,zC,zD,zE,zF,zG,zH,zI,hx])
  rw [tkW_all (hl x (List.mem_of_getElem? hx))]
  refine caW_atv (hp x (List.mem_of_getElem? hx)) ?_
  (refine q03 (fun he=>?_) (fun he=>?_)<;>(try simp only [rwp,hwR,zA,zB,zC,zD,zE,zF,zG,zH,zI,he]))
  ·have:q0r p xs=some i:=firstI_some.2 ⟨⟨x,hx,he⟩,hn⟩
   exact q02 ⟨by rw [this];rfl,rfl⟩
  ·(simp (disch:=omega) only [q04])
   refine q08 rfl (hr (i+1) ⟨by omega,fun j u hj hu=>?_⟩ (by omega))
   rcases Nat.lt_succ_iff_lt_or_eq.1 hj with h | rfl
   ·exact hn j u h hu
   ·rw [hx] at hu;cases hu;exact he
 ·have:q0r p xs=none:=firstI_none.2 fun j u hu=>hn j u (by have:=(List.getElem?_eq_some_iff.1 hu).1;omega) hu
  exact q02 ⟨by rw [this];rfl,rfl⟩
theorem q7y (hl:∀ x∈xs,(enc x).length=6) (hb:xs.length≤1125899906842624) (hp:∀ x∈xs,AFunS PG g (fi++[.agg (enc x)]++ca) S (.bool (p x))) :
  AFunS PG nrx173 [.sl 6 (xs.map enc),.func (.func g) fi ca] S (.bool (xs.any p)):=by
 refine wx173 ?_
 unfold Bx173
 refine q1u (c_IndexFunc_Rel hl hb hp) ?_
 (try simp only [rwp,hwR,zA,zB,zC,zD,zE,zF,zG,zH,zI])
 exact q02 ⟨by rw [oi_some,q3r],rfl⟩
end
def two (p:Ex→Bool):List Ex→Bool
 | [a,b]=>p a&&p b
 | _=>false
theorem two_of {ks:List Ex} (h:(ks.length:Int)=2):∃ a b,ks=[a,b]:=by
 match ks,h with
 | [a,b],_=>exact ⟨a,b,rfl⟩
 | [],h=>simp at h
 | [_],h=>simp at h
 | _ :: _ :: _ :: r,h=>simp at h;omega
theorem two_not {p:Ex→Bool} {ks:List Ex} (h:¬ (ks.length:Int)=2):two p ks=false:=by
 unfold two
 split
 ·exact absurd rfl h
 ·rfl
def mayE:Nat→Ex→Bool
 | 0,_=>false
 | m+1,.mk k n o ks=>
  if k=0 then q0q n&&ks.isEmpty
  else if k=1 then q0q n&&(q0q o&&ks.isEmpty)
  else if k=2∨k=3∨k=4 then two (mayE m) ks
  else false
theorem q6l {ks:List Ex}:ks.isEmpty=decide ((ks.length:Int)=0):=by
 cases ks with
 | nil=>rfl
 | cons a r=>rw [decide_eq_false (by simp only [List.length_cons];omega)];rfl
def signS (k:Int):ByteArray:=if k=2 then ⟨#[32,43,32]⟩ else if k=3 then ⟨#[32,38,32]⟩ else if k=4 then ⟨#[32,45,32]⟩ else ⟨#[]⟩
theorem c_lang_sign (k:Int):AFun PG nrx214 [.int .i64 k] (.str (signS k)):=by
 intro S
 refine wx214 ?_
 unfold Bx214
 (try simp only [rwp,hwR,zA,zB,zC,zD,zE,zF,zG,zH,zI])
 (refine q03 (fun h1=>?_) (fun h1=>?_)<;>(try simp only [hlc] at h1))
 ·exact q02 ⟨by rw [h1];rfl,rfl⟩
 (refine q03 (fun h2=>?_) (fun h2=>?_)<;>(try simp only [hlc] at h2))
 ·exact q02 ⟨by rw [h2];rfl,rfl⟩
 (refine q03 (fun h3=>?_) (fun h3=>?_)<;>(try simp only [hlc] at h3))
 ·exact q02 ⟨by rw [h3];rfl,rfl⟩
 exact q02 ⟨by simp only [signS,if_neg h1,if_neg h2,if_neg h3],rfl⟩
theorem sign_none {k:Int}:signS k=⟨#[]⟩↔¬ (k=2∨k=3∨k=4):=by
 unfold signS
 constructor
 ·intro h
  split at h
  ·exact absurd h (by decide)
  ·split at h
   ·exact absurd h (by decide)
   ·split at h
    ·exact absurd h (by decide)
    ·omega
 ·intro h
  rw [if_neg (by omega),if_neg (by omega),if_neg (by omega)]
theorem c_ref11_MayExpr:∀ (m:Nat),m≤1000→∀ (e:Ex),OkE e→AFun PG nrx210 [.agg (exC e),.int .i64 m] (.bool (mayE m e)):=by
 intro m
 induction m with
 | zero=>
  intro hm e he S
  refine wx210 ?_
  unfold Bx210
  have h0:decide (((0:Nat):Int)=0)=true:=rfl
  (try simp only [rwp,hwR,zA,zB,zC,zD,zE,zF,zG,zH,zI,q0d,h0,C210_1,C210_2])
  exact q02 ⟨by cases e;rfl,rfl⟩
 | succ m ih=>
  intro hm e he S
  refine wx210 ?_
  unfold Bx210
  have h0:decide (((m+1:Nat):Int)=0)=false:=decide_eq_false (by omega)
  obtain ⟨k,n,o,ks,hk,hn,ho,hks⟩:=he
  (try simp only [rwp,hwR,zA,zB,zC,zD,zE,zF,zG,zH,zI,q0d,Ex.kind,Ex.name,Ex.over,Ex.kids,h0,C210_1,C210_2])
  (refine q03 (fun h1=>?_) (fun h1=>?_)<;>(try simp only [hlc] at h1))
  ·refine q02 ⟨?_,rfl⟩
   simp only [Bool.or_eq_true,decide_eq_true_eq,Bool.false_or] at h1
   have:mayE (m+1) (.mk k n o ks)=false:=by
    unfold mayE
    rw [if_neg (by omega),if_neg (by omega),if_neg (by omega)]
   rw [this]
  simp only [Bool.or_eq_false_iff,decide_eq_false_iff_not,Bool.false_or] at h1
  (refine q03 (fun h2=>?_) (fun h2=>?_)<;>(try simp only [hlc] at h2))
  ·refine q05 (q0v hn) ?_
   (try simp only [rwp,hwR,zA,zB,zC,zD,zE,zF,zG,zH,zI])
   refine q05 (q0v ho) ?_
   have key:mayE (m+1) (.mk k n o ks)=(q0q n&&(ks.isEmpty&&(decide (k=0)||q0q o))):=by
    unfold mayE
    by_cases h:k=0
    ·rw [if_pos h,decide_eq_true h];simp
    ·rw [if_neg h,if_pos (by omega),decide_eq_false h];cases q0q n<;>cases q0q o<;>cases ks.isEmpty<;>rfl
   rw [q6l] at key
   (try simp only [rwp,hwR,zA,zB,zC,zD,zE,zF,zG,zH,zI])
   cases a1:q0q n<;>cases a2:decide ((ks.length:Int)=0)<;>cases a3:decide (k=0)<;>rw [a1,a2,a3] at key <;>
    (try simp only [rwp,hwR,zA,zB,zC,zD,zE,zF,zG,zH,zI,C210_3,C210_4,C210_5,a3])<;>exact q02 ⟨by rw [key];rfl,rfl⟩
  ·have key:mayE (m+1) (.mk k n o ks)=two (mayE m) ks:=by rw [mayE,if_neg (by omega),if_neg (by omega),if_pos (by omega)]
   (refine q03 (fun h3=>?_) (fun h3=>?_)<;>(try simp only [hlc] at h3))
   ·exact q02 ⟨by rw [key,two_not h3],rfl⟩
   ·obtain ⟨a,b,rfl⟩:=two_of h3
    have hm1:IntKind.i64.wrap (((m+1:Nat):Int)-1)=(m:Int):=by rw [q04]<;>omega
    (try simp only [rwp,hwR,zA,zB,zC,zD,zE,zF,zG,zH,zI,hm1])
    refine q05 (ih (by omega) a (hks a (by simp))) ?_
    (refine q1m (fun hg=>?_) (fun hg=>?_)<;>(try simp only [rwp,hwR,zA,zB,zC,zD,zE,zF,zG,zH,zI,hg,hm1]))
    ·refine q05 (ih (by omega) b (hks b (by simp))) ?_
     exact q02 ⟨by simp only [key,two,hg,Bool.true_and],rfl⟩
    ·exact q02 ⟨by simp only [key,two,hg,Bool.false_and,Bool.not_true],rfl⟩
theorem c_lang_may:∀ (m:Nat),m≤1000→∀ (e:Ex),OkE e→AFun PG nrx206 [.agg (exC e),.int .i64 m] (.bool (mayE m e)):=by
 intro m
 induction m with
 | zero=>
  intro hm e he S
  refine wx206 ?_
  unfold Bx206
  have h0:decide (((0:Nat):Int)=0)=true:=rfl
  (try simp only [rwp,hwR,zA,zB,zC,zD,zE,zF,zG,zH,zI,q0d,h0])
  exact q02 ⟨by cases e;rfl,rfl⟩
 | succ m ih=>
  intro hm e he S
  refine wx206 ?_
  unfold Bx206
  have h0:decide (((m+1:Nat):Int)=0)=false:=decide_eq_false (by omega)
  obtain ⟨k,n,o,ks,hk,hn,ho,hks⟩:=he
  (try simp only [rwp,hwR,zA,zB,zC,zD,zE,zF,zG,zH,zI,q0d,Ex.kind,Ex.name,Ex.over,Ex.kids,h0])
  (refine q03 (fun h2=>?_) (fun h2=>?_)<;>(try simp only [hlc] at h2))
  ·have key:mayE (m+1) (.mk k n o ks)=(q0q n&&decide ((ks.length:Int)=0)):=by rw [mayE,if_pos h2,q6l]
   refine q05 (q19 hn) ?_
   (try simp only [rwp,hwR,zA,zB,zC,zD,zE,zF,zG,zH,zI])
   exact q02 ⟨by rw [key],rfl⟩
  (refine q03 (fun h3=>?_) (fun h3=>?_)<;>(try simp only [hlc] at h3))
  ·have key:mayE (m+1) (.mk k n o ks)=(q0q n&&(q0q o&&decide ((ks.length:Int)=0))):=by rw [mayE,if_neg h2,if_pos h3,q6l]
   refine q05 (q19 hn) ?_
   (refine q1m (fun hg=>?_) (fun hg=>?_)<;>(try simp only [rwp,hwR,zA,zB,zC,zD,zE,zF,zG,zH,zI,hg,C206_3]))
   ·refine q05 (q19 ho) ?_
    (try simp only [rwp,hwR,zA,zB,zC,zD,zE,zF,zG,zH,zI,C206_3])
    exact q02 ⟨by rw [key,hg];rfl,rfl⟩
   ·exact q02 ⟨by rw [key,hg];rfl,rfl⟩
  ·refine q05 (c_lang_sign k) ?_
   by_cases h4:k=2∨k=3∨k=4
   ·have key:mayE (m+1) (.mk k n o ks)=two (mayE m) ks:=by rw [mayE,if_neg h2,if_neg h3,if_pos h4]
    have hs:decide (signS k=⟨#[]⟩)=false:=decide_eq_false fun h=>sign_none.1 h h4
    (try simp only [rwp,hwR,zA,zB,zC,zD,zE,zF,zG,zH,zI,hs,C206_1])
    (refine q1m (fun hg=>?_) (fun hg=>?_)<;>(try simp only [rwp,hwR,zA,zB,zC,zD,zE,zF,zG,zH,zI,hg,hs]))
    ·obtain ⟨a,b,rfl⟩:=two_of (by simpa using hg)
     have hm1:IntKind.i64.wrap (((m+1:Nat):Int)-1)=(m:Int):=by rw [q04]<;>omega
     (try simp only [rwp,hwR,zA,zB,zC,zD,zE,zF,zG,zH,zI,hm1])
     refine q05 (ih (by omega) a (hks a (by simp))) ?_
     (try simp only [rwp,hwR,zA,zB,zC,zD,zE,zF,zG,zH,zI,C206_2])
     (refine q1m (fun hg=>?_) (fun hg=>?_)<;>(try simp only [rwp,hwR,zA,zB,zC,zD,zE,zF,zG,zH,zI,hg,hm1]))
     ·refine q05 (ih (by omega) b (hks b (by simp))) ?_
      exact q02 ⟨by simp only [key,two,hg,Bool.true_and],rfl⟩
     ·exact q02 ⟨by simp only [key,two,hg,Bool.false_and,Bool.not_true],rfl⟩
    ·(try simp only [rwp,hwR,zA,zB,zC,zD,zE,zF,zG,zH,zI,C206_2])
     exact q02 ⟨by rw [key,two_not (by simpa using hg)],rfl⟩
   ·have key:mayE (m+1) (.mk k n o ks)=false:=by rw [mayE,if_neg h2,if_neg h3,if_neg h4]
    have hs:decide (signS k=⟨#[]⟩)=true:=decide_eq_true (sign_none.2 h4)
    (try simp only [rwp,hwR,zA,zB,zC,zD,zE,zF,zG,zH,zI,hs,C206_1,C206_2])
    exact q02 ⟨by rw [key],rfl⟩
def refB (f:Rf):Bool:=q0q f.ty&&(decide (f.rl=⟨#[]⟩)||q0q f.rl)
def relB (r:Rl):Bool:=q0q r.name&&(r.refs.all refB&&(!r.refs.isEmpty||mayE 12 r.ex))
def typB (t:Ty):Bool:=q0q t.name&&t.rels.all relB
def scB (s:List Ty):Bool:=s.all typB
theorem c_lang_ref {f:Rf} (hf:OkF f):AFun PG nrx209 [.agg (rfC f)] (.bool (refB f)):=by
 intro S
 refine wx209 ?_
 unfold Bx209
 (try simp only [rwp,hwR,zA,zB,zC,zD,zE,zF,zG,zH,zI,rfC])
 refine q05 (q19 hf.ty) ?_
 cases h1:q0q f.ty<;>(try simp only [rwp,hwR,zA,zB,zC,zD,zE,zF,zG,zH,zI,C209_1,C209_2])
 ·exact q02 ⟨by simp only [refB,h1,Bool.false_and],rfl⟩
 (refine q1m (fun hg=>?_) (fun hg=>?_)<;>(try simp only [rwp,hwR,zA,zB,zC,zD,zE,zF,zG,zH,zI,hg,C209_2]))
 ·refine q05 (q19 hf.rl) ?_
  (try simp only [rwp,hwR,zA,zB,zC,zD,zE,zF,zG,zH,zI,C209_2,hg])
  exact q02 ⟨by simp only [refB,h1,hg,Bool.true_and,Bool.false_or],rfl⟩
 ·exact q02 ⟨by simp only [refB,h1,hg,Bool.true_and,Bool.true_or,Bool.not_false],rfl⟩
theorem c_lang_rel_1 {f:Rf} (hf:OkF f):AFun PG nrx208 [.agg (rfC f)] (.bool (!refB f)):=by
 intro S
 refine wx208 ?_
 unfold Bx208
 (try simp only [rwp,hwR,zA,zB,zC,zD,zE,zF,zG,zH,zI,rfC])
 refine q05 (c_lang_ref hf) ?_
 (try simp only [rwp,hwR,zA,zB,zC,zD,zE,zF,zG,zH,zI])
 exact q02 ⟨rfl,rfl⟩
theorem any_not {α:Type} {p:α→Bool} {l:List α}:(!l.any fun x=>!p x)=l.all p:=by
 induction l with
 | nil=>rfl
 | cons x r ih=>simp only [List.any_cons,List.all_cons,Bool.not_or,Bool.not_not,ih]
theorem c_lang_rel {r:Rl} (hr:OkR r):AFun PG nrx175 [.agg (rlC r)] (.bool (relB r)):=by
 intro S
 refine wx175 ?_
 unfold Bx175
 (try simp only [rwp,hwR,zA,zB,zC,zD,zE,zF,zG,zH,zI,q0i])
 (refine q03 (fun h1=>?_) (fun h1=>?_)<;>(try simp only [rwp,hwR,zA,zB,zC,zD,zE,zF,zG,zH,zI,h1]))
 ·have he:r.refs=[]:=by simpa using h1
  refine q05 (q19 hr.name) ?_
  (refine q1m (fun hg=>?_) (fun hg=>?_)<;>(try simp only [rwp,hwR,zA,zB,zC,zD,zE,zF,zG,zH,zI,hg]))
  ·rw [← q0d]
   refine q05 (c_lang_may 12 (by omega) r.ex hr.ex) ?_
   exact q02 ⟨by simp only [relB,hg,he,List.all_nil,List.isEmpty_nil,Bool.true_and,Bool.not_true,Bool.false_or],rfl⟩
  ·exact q02 ⟨by simp only [relB,hg,Bool.false_and,Bool.not_true],rfl⟩
 ·have he:r.refs.isEmpty=false:=by
   cases h2:r.refs with
   | nil=>rw [h2] at h1;simp at h1
   | cons a l=>rfl
  refine q05 (q19 hr.name) ?_
  (refine q1m (fun hg=>?_) (fun hg=>?_)<;>(try simp only [rwp,hwR,zA,zB,zC,zD,zE,zF,zG,zH,zI,hg]))
  ·refine q1u (q7z (enc:=rfC) (p:=fun f=>!refB f) (fun x _=>rfl) hr.refs (fun x hx=>c_lang_rel_1 (hr.ref x hx) S)) ?_
   (try simp only [rwp,hwR,zA,zB,zC,zD,zE,zF,zG,zH,zI])
   exact q02 ⟨by rw [any_not];simp only [relB,hg,he,Bool.true_and,Bool.not_false,Bool.true_or,Bool.and_true],rfl⟩
  ·exact q02 ⟨by simp only [relB,hg,Bool.false_and,Bool.not_true],rfl⟩
theorem c_lang_May_1 {r:Rl} (hr:OkR r):AFun PG nrx174 [.agg (rlC r)] (.bool (!relB r)):=by
 intro S
 refine wx174 ?_
 unfold Bx174
 (try simp only [rwp,hwR,zA,zB,zC,zD,zE,zF,zG,zH,zI,q0i])
 rw [← q0i]
 refine q05 (c_lang_rel hr) ?_
 (try simp only [rwp,hwR,zA,zB,zC,zD,zE,zF,zG,zH,zI])
 exact q02 ⟨rfl,rfl⟩
theorem q3j {α:Type} {p:α→Bool} {l:List α} {i:Nat} {x:α} (h:l[i]?=some x) (hp:p x=false):l.all p=false:=by
 cases hq:l.all p with
 | false=>rfl
 | true=>rw [List.all_eq_true] at hq;rw [hq x (List.mem_of_getElem? h)] at hp;cases hp
theorem q63 {α:Type} {p:α→Bool} {l:List α} (h:∀ j x,j<l.length→l[j]?=some x→p x=true):l.all p=true:=by
 rw [List.all_eq_true]
 intro x hx
 obtain ⟨i,hi⟩:=List.getElem?_of_mem hx
 exact h i x (List.getElem?_eq_some_iff.1 hi).1 hi
theorem c_lang_May {s:List Ty} (hs:OkS s):AFun PG nrx136 [scA s] (.bool (scB s)):=by
 intro S
 have hb:=hs.types
 refine wx136 ?_
 unfold Bx136
 (try simp only [rwp,hwR,zA,zB,zC,zD,zE,zF,zG,zH,zI,scA])
 refine LoopP.intro (fun i:Nat=>[(6,.sl 2 (s.map tyC)),(7,.int .i64 s.length),(8,.int .i64 i)]) (fun _=>S) (fun i=>i≤s.length∧∀ j t,j<i→s[j]?=some t→typB t=true) (fun i=>s.length-i) 0 ⟨by omega,by omega⟩ rfl (Sub.refl S) ?_
 rintro i ⟨hi,hn⟩ r hr
 unfold C136_1
 (try simp only [rwp,hwR,zA,zB,zC,zD,zE,zF,zG,zH,zI])
 (refine q03 (fun hlt=>?_) (fun hlt=>?_)<;>(try simp only [hlc] at hlt))
 ·obtain ⟨t,ht⟩:=q0h hlt
  have hok:=hs.at ht
  (try simp only [rwp,hwR,zA,zB,zC,zD,zE,zF,zG,zH,zI,ht,tyC])
  refine q05 (q19 hok.name) ?_
  (try simp only [rwp,hwR,zA,zB,zC,zD,zE,zF,zG,zH,zI])
  have next:typB t=true→r [(6,.sl 2 (s.map tyC)),(7,.int .i64 s.length),(8,.int .i64 ((i:Int)+1))] S:=fun h=>by
   refine hr (i+1) ⟨by omega,fun j u hj hu=>?_⟩ (by omega)
   rcases Nat.lt_succ_iff_lt_or_eq.1 hj with h1 | rfl
   ·exact hn j u h1 hu
   ·rw [ht] at hu;cases hu;exact h
  cases h1:q0q t.name<;>(try simp only [rwp,hwR,zA,zB,zC,zD,zE,zF,zG,zH,zI])
  ·exact q02 ⟨by rw [scB,q3j ht (by simp only [typB,h1,Bool.false_and])],rfl⟩
  ·refine q1u (q7y (enc:=rlC) (p:=fun r=>!relB r) (fun x _=>rlC_len x) hok.rels (fun x hx=>c_lang_May_1 (hok.rel x hx) S)) ?_
   (try simp only [rwp,hwR,zA,zB,zC,zD,zE,zF,zG,zH,zI])
   have h2:(t.rels.any fun r=>!relB r)=!t.rels.all relB:=by rw [← any_not,Bool.not_not]
   rw [h2]
   (refine q03 (fun h3=>?_) (fun h3=>?_)<;>(try simp only [rwp,hwR,zA,zB,zC,zD,zE,zF,zG,zH,zI,h3]))
   ·exact q02 ⟨by rw [scB,q3j ht (by simp only [typB,h1,Bool.true_and];simpa using h3)],rfl⟩
   ·(simp (disch:=omega) only [q04])
    exact q08 rfl (next (by simp only [typB,h1,Bool.true_and];simpa using h3))
 ·exact q02 ⟨by rw [scB,q63 fun j t hj ht=>hn j t (by omega) ht],rfl⟩
theorem isEmpty_ln {α:Type} {l:List α}:(!l.isEmpty)=decide ((0:Int)<l.length):=by
 cases l with
 | nil=>rfl
 | cons a r=>rw [decide_eq_true (by simp only [List.length_cons];omega)];rfl
theorem c_ref11_mayRel {r:Rl} (hr:OkR r):AFun PG nrx187 [.agg (rlC r)] (.bool (relB r)):=by
 intro S
 have hb:=hr.refs
 refine wx187 ?_
 unfold Bx187
 (try simp only [rwp,hwR,zA,zB,zC,zD,zE,zF,zG,zH,zI,q0i])
 refine q05 (q0v hr.name) ?_
 (try simp only [rwp,hwR,zA,zB,zC,zD,zE,zF,zG,zH,zI])
 cases h1:q0q r.name<;>(try simp only [rwp,hwR,zA,zB,zC,zD,zE,zF,zG,zH,zI])
 ·exact q02 ⟨by simp only [relB,h1,Bool.false_and],rfl⟩
 refine LoopP.intro (fun i:Nat=>[(1,.rop [.str r.name,.sl 2 (r.refs.map rfC),.int .i64 r.ex.kind,.str r.ex.name,.str r.ex.over,.sl 4 (r.ex.kids.map exC)]),(4,.int .i64 i)]) (fun _=>S) (fun i=>i≤r.refs.length∧∀ j t,j<i→r.refs[j]?=some t→refB t=true) (fun i=>r.refs.length-i) 0 ⟨by omega,by omega⟩ rfl (Sub.refl S) ?_
 rintro i ⟨hi,hn⟩ k hk
 (try simp only [rwp,hwR,zA,zB,zC,zD,zE,zF,zG,zH,zI,C187_1])
 (refine q03 (fun hlt=>?_) (fun hlt=>?_)<;>(try simp only [hlc] at hlt))
 ·obtain ⟨f,hf⟩:=q0h hlt
  have hok:=hr.at hf
  (try simp only [rwp,hwR,zA,zB,zC,zD,zE,zF,zG,zH,zI,hf,rfC])
  refine q05 (q0v hok.ty) ?_
  (try simp only [rwp,hwR,zA,zB,zC,zD,zE,zF,zG,zH,zI,hf,rfC])
  refine q05 (q0v hok.rl) ?_
  have bad:refB f=false→relB r=false:=fun h=>by rw [relB,q3j hf h];simp
  have next:refB f=true→k [(1,.rop [.str r.name,.sl 2 (r.refs.map rfC),.int .i64 r.ex.kind,.str r.ex.name,.str r.ex.over,.sl 4 (r.ex.kids.map exC)]),(4,.int .i64 ((i:Int)+1))] S:=fun h=>by
   refine hk (i+1) ⟨by omega,fun j u hj hu=>?_⟩ (by omega)
   rcases Nat.lt_succ_iff_lt_or_eq.1 hj with h1 | rfl
   ·exact hn j u h1 hu
   ·rw [hf] at hu;cases hu;exact h
  have ea:refB f=(q0q f.ty&&(decide (f.rl=⟨#[]⟩)||q0q f.rl)):=rfl
  cases a1:q0q f.ty<;>cases a2:q0q f.rl<;>cases a3:decide (f.rl=⟨#[]⟩)<;>rw [a1,a2,a3] at ea <;>
   (try simp only [rwp,hwR,zA,zB,zC,zD,zE,zF,zG,zH,zI,C187_2,C187_3,hf,rfC,a3]) <;>
   first
    | exact q02 ⟨by rw [bad ea],rfl⟩
    | ((simp (disch:=omega) only [q04]);exact q08 rfl (next ea))
 ·have hall:r.refs.all refB=true:=q63 fun j t hj ht=>hn j t (by omega) ht
  have e1:relB r=(decide ((0:Int)<r.refs.length)||mayE 12 r.ex):=by simp only [relB,h1,hall,Bool.true_and,isEmpty_ln]
  (refine q1m (fun hg=>?_) (fun hg=>?_)<;>(try simp only [rwp,hwR,zA,zB,zC,zD,zE,zF,zG,zH,zI,hg]))
  ·rw [← q0d]
   refine q05 (c_ref11_MayExpr 12 (by omega) r.ex hr.ex) ?_
   exact q02 ⟨by rw [e1,hg];rfl,rfl⟩
  ·exact q02 ⟨by rw [e1,hg];rfl,rfl⟩
theorem c_ref11_May {s:List Ty} (hs:OkS s):AFun PG nrx149 [scA s] (.bool (scB s)):=by
 intro S
 have hb:=hs.types
 refine wx149 ?_
 unfold Bx149
 (try simp only [rwp,hwR,zA,zB,zC,zD,zE,zF,zG,zH,zI,scA])
 refine LoopP.intro (fun i:Nat=>[(1,.rop [.sl 2 (s.map tyC)]),(3,.int .i64 i)]) (fun _=>S) (fun i=>i≤s.length∧∀ j t,j<i→s[j]?=some t→typB t=true) (fun i=>s.length-i) 0 ⟨by omega,by omega⟩ rfl (Sub.refl S) ?_
 rintro i ⟨hi,hn⟩ k hk
 (try simp only [rwp,hwR,zA,zB,zC,zD,zE,zF,zG,zH,zI,C149_1])
 (refine q03 (fun hlt=>?_) (fun hlt=>?_)<;>(try simp only [hlc] at hlt))
 ·obtain ⟨t,ht⟩:=q0h hlt
  have hok:=hs.at ht
  have hb2:=hok.rels
  (try simp only [rwp,hwR,zA,zB,zC,zD,zE,zF,zG,zH,zI,ht,tyC])
  refine q05 (q0v hok.name) ?_
  (try simp only [rwp,hwR,zA,zB,zC,zD,zE,zF,zG,zH,zI])
  cases h1:q0q t.name<;>(try simp only [rwp,hwR,zA,zB,zC,zD,zE,zF,zG,zH,zI])
  ·exact q02 ⟨by rw [scB,q3j ht (by simp only [typB,h1,Bool.false_and])],rfl⟩
  refine LoopP.intro (fun j:Nat=>[(1,.rop [.sl 2 (s.map tyC)]),(3,.int .i64 i),(5,.int .i64 j)]) (fun _=>S) (fun j=>j≤t.rels.length∧∀ m r,m<j→t.rels[m]?=some r→relB r=true) (fun j=>t.rels.length-j) 0 ⟨by omega,by omega⟩ rfl (Sub.refl S) ?_
  rintro j ⟨hj,hnj⟩ k2 hk2
  (try simp only [rwp,hwR,zA,zB,zC,zD,zE,zF,zG,zH,zI,C149_2,ht,tyC])
  (refine q03 (fun hlt2=>?_) (fun hlt2=>?_)<;>(try simp only [hlc] at hlt2))
  ·obtain ⟨r,hr⟩:=q0h hlt2
   (try simp only [rwp,hwR,zA,zB,zC,zD,zE,zF,zG,zH,zI,hr])
   refine q05 (c_ref11_mayRel (hok.at hr)) ?_
   cases h2:relB r<;>(try simp only [rwp,hwR,zA,zB,zC,zD,zE,zF,zG,zH,zI])
   ·exact q02 ⟨by rw [scB,q3j ht (by simp only [typB,q3j hr h2,Bool.and_false])],rfl⟩
   ·(simp (disch:=omega) only [q04])
    refine q08 rfl (hk2 (j+1) ⟨by omega,fun m u hm hu=>?_⟩ (by omega))
    rcases Nat.lt_succ_iff_lt_or_eq.1 hm with h3 | rfl
    ·exact hnj m u h3 hu
    ·rw [hr] at hu;cases hu;exact h2
  ·(simp (disch:=omega) only [q04])
   refine q08 rfl (hk (i+1) ⟨by omega,fun m u hm hu=>?_⟩ (by omega))
   rcases Nat.lt_succ_iff_lt_or_eq.1 hm with h3 | rfl
   ·exact hn m u h3 hu
   ·rw [ht] at hu;cases hu
    simp only [typB,h1,Bool.true_and]
    exact q63 fun m r hm hr=>hnj m r (by omega) hr
 ·exact q02 ⟨by rw [scB,q63 fun j t hj ht=>hn j t (by omega) ht],rfl⟩
mutual
def q1k:Ex→Int→Int
 | .mk _ _ _ ks,m=>if m<ks.length then 0 else q1x ks (m-1)
def q1x:List Ex→Int→Int
 | [],m=>m
 | e :: r,m=>if 0<m then q1x r (q1k e m) else m
end
mutual
theorem q89:∀ (e:Ex) (m:Int),q1k e m≤max m 0∧(-1≤q1k e m∨m≤q1k e m+1)
 | .mk _ _ _ ks,m=>by
  unfold q1k
  split
  ·omega
  ·have:=weightL_le ks (m-1)
   omega
theorem weightL_le:∀ (l:List Ex) (m:Int),q1x l m≤max m 0∧(-1≤q1x l m∨m≤q1x l m)
 | [],m=>by unfold q1x;omega
 | e :: r,m=>by
  unfold q1x
  split
  ·have h1:=q89 e m
   have h2:=weightL_le r (q1k e m)
   omega
  ·omega
end
theorem q90 {l:List Ex} {m:Int} (h:¬ 0<m):q1x l m=m:=by
 cases l with
 | nil=>rfl
 | cons e r=>rw [q1x,if_neg h]
theorem c_law11_weight:∀ (e:Ex),OkE e→∀ (m:Int),-1125899906842624≤m→m≤1125899906842624→AFun PG nrx90 [.agg (exC e),.int .i64 m] (.int .i64 (q1k e m)):=by
 intro e he
 induction he with
 | mk k n o ks hk hn ho hks ih=>
  intro m hm1 hm2 S
  refine wx90 ?_
  unfold Bx90
  (try simp only [rwp,hwR,zA,zB,zC,zD,zE,zF,zG,zH,zI,q0d,Ex.kind,Ex.name,Ex.over,Ex.kids])
  (refine q03 (fun h1=>?_) (fun h1=>?_)<;>(try simp only [hlc] at h1))
  ·exact q02 ⟨by rw [q1k,if_pos h1],rfl⟩
  (simp (disch:=omega) only [q04])
  refine LoopP.intro (fun p:Nat×Int=>[(1,.int .i64 p.2),(2,.rop [.int .i64 k,.str n,.str o,.sl 4 (ks.map exC)]),(5,.int .i64 p.1)]) (fun _=>S) (fun p=>p.1≤ks.length∧q1x (ks.drop p.1) p.2=q1x ks (m-1)∧-1125899906842626≤p.2∧p.2≤1125899906842624) (fun p=>ks.length-p.1) (0,m-1) ⟨by omega,rfl,by omega,by omega⟩ rfl (Sub.refl S) ?_
  rintro ⟨i,q⟩ ⟨hi,hq,hb1,hb2⟩ r hr
  dsimp only at hi hq hb1 hb2
  (try simp only [rwp,hwR,zA,zB,zC,zD,zE,zF,zG,zH,zI,C90_1,C90_2])
  have fin:∀ v,v=q1x ks (m-1)→v=q1k (.mk k n o ks) m:=fun v hv=>by rw [q1k,if_neg h1,hv]
  (refine q03 (fun h2=>?_) (fun h2=>?_)<;>(try simp only [rwp,hwR,zA,zB,zC,zD,zE,zF,zG,zH,zI,h2]))
  ·simp only [Bool.and_eq_true,decide_eq_true_eq] at h2
   obtain ⟨e,he⟩:=q0h h2.1
   have hem:=List.mem_of_getElem? he
   (try simp only [rwp,hwR,zA,zB,zC,zD,zE,zF,zG,zH,zI,he])
   have hd:ks.drop i=e :: ks.drop (i+1):=by
    have:=(List.getElem?_eq_some_iff.1 he)
    obtain ⟨h3,h4⟩:=this
    rw [← h4]
    exact List.drop_eq_getElem_cons h3
   have hw:=q89 e q
   refine q05 (ih e hem q (by omega) (by omega)) ?_
   (try simp only [rwp,hwR,zA,zB,zC,zD,zE,zF,zG,zH,zI])
   (simp (disch:=omega) only [q04])
   refine q08 rfl (hr (i+1,q1k e q) ⟨by dsimp only;omega,?_,by dsimp only;omega,by dsimp only;omega⟩ (by dsimp only;omega))
   dsimp only
   rw [hd,q1x,if_pos h2.2] at hq
   exact hq
  ·refine q02 ⟨?_,rfl⟩
   rw [fin q]
   simp only [Bool.and_eq_false_iff,decide_eq_false_iff_not] at h2
   rw [← hq]
   rcases h2 with h2 | h2
   ·have:ks.drop i=[]:=List.drop_of_length_le (by omega)
    rw [this];rfl
   ·rw [q90 h2]
def q9g (most:Int):List Rl→Int→Option Int
 | [],n=>some n
 | r :: rs,n=>if 0<n then (if most<r.refs.length∨(100:Int)<r.name.size then none else q9g most rs (q1k r.ex (n-r.refs.length))) else some n
def typsW (most:Int):List Ty→Int→Option Int
 | [],n=>some n
 | t :: ts,n=>if 0<n then (if (100:Int)<t.name.size then none else (q9g most t.rels n).bind (typsW most ts)) else some n
def fewF (s:List Ty) (most:Int):Bool:=match typsW most s (most-s.length) with
 | some n=>decide (0<n)
 | none=>false
mutual
def esz:Ex→Nat
 | .mk _ _ _ ks=>1+eszL ks
def eszL:List Ex→Nat
 | []=>0
 | e :: r=>esz e+eszL r
end
mutual
theorem weightF_esz:∀ (e:Ex) (m:Int),0<q1k e m→q1k e m=m-esz e
 | .mk _ _ _ ks,m,h=>by
  unfold q1k at h ⊢
  unfold esz
  split at h
  ·omega
  ·rw [if_neg ‹_›]
   have:=weightL_esz ks (m-1) h
   omega
theorem weightL_esz:∀ (l:List Ex) (m:Int),0<q1x l m→q1x l m=m-eszL l
 | [],m,h=>by unfold q1x eszL;omega
 | e :: r,m,h=>by
  unfold q1x at h ⊢
  unfold eszL
  split at h
  ·rw [if_pos ‹_›]
   have h1:=weightL_esz r (q1k e m) h
   have h2:0<q1k e m:=by
    rcases Int.lt_or_le 0 (q1k e m) with h3 | h3
    ·exact h3
    ·rw [q90 (by omega)] at h;omega
   have h4:=weightF_esz e m h2
   omega
  ·omega
end
def rsz (r:Rl):Nat:=r.refs.length+esz r.ex
theorem relsW_le {most:Int}:∀ {l:List Rl} {n n':Int},q9g most l n=some n'→0<n'→n'=n-(l.map rsz).sum
 | [],n,n',h,hp=>by simp only [q9g,Option.some.injEq] at h;subst h;simp
 | r :: l,n,n',h,hp=>by
  simp only [q9g] at h
  split at h
  ·split at h
   ·cases h
   ·have h1:=relsW_le h hp
    have h2:0<q1k r.ex (n-r.refs.length):=by
     have:0≤((l.map rsz).sum:Int):=by exact_mod_cast Nat.zero_le _
     omega
    have h3:=weightF_esz _ _ h2
    simp only [List.map_cons,List.sum_cons,rsz]
    push_cast
    omega
  ·simp only [Option.some.injEq] at h;omega
def tsz (t:Ty):Nat:=(t.rels.map rsz).sum
theorem typsW_le {most:Int}:∀ {l:List Ty} {n n':Int},typsW most l n=some n'→0<n'→n'=n-(l.map tsz).sum
 | [],n,n',h,hp=>by simp only [typsW,Option.some.injEq] at h;subst h;simp
 | t :: l,n,n',h,hp=>by
  simp only [typsW] at h
  split at h
  ·split at h
   ·cases h
   ·cases h1:q9g most t.rels n with
    | none=>rw [h1] at h;cases h
    | some n1=>
     rw [h1] at h
     have h2:=typsW_le (n:=n1) h hp
     have h3:0<n1:=by
      have:0≤((l.map tsz).sum:Int):=by exact_mod_cast Nat.zero_le _
      omega
     have h4:=relsW_le h1 h3
     simp only [List.map_cons,List.sum_cons,tsz]
     push_cast
     have h5:((l.map tsz).sum:Int)=((l.map fun t=>(t.rels.map rsz).sum).sum:Nat):=rfl
     omega
  ·simp only [Option.some.injEq] at h;omega
def ssz (s:List Ty):Nat:=s.length+(s.map tsz).sum
theorem few_size {s:List Ty} {most:Int} (h:fewF s most=true):(ssz s:Int)<most:=by
 unfold fewF at h
 split at h
 ·rename_i n hn
  have h1:0<n:=by simpa using h
  have:=typsW_le hn h1
  unfold ssz
  push_cast
  omega
 ·cases h
theorem q0e {α:Type} {l:List α} {i:Nat} {x:α} (h:l[i]?=some x):l.drop i=x :: l.drop (i+1):=by
 obtain ⟨h1,h2⟩:=List.getElem?_eq_some_iff.1 h
 rw [← h2]
 exact List.drop_eq_getElem_cons h1
theorem q0u {α:Type} {l:List α} {i:Nat} (h:¬ (i:Int)<l.length):l.drop i=[]:=List.drop_of_length_le (by omega)
theorem relsW_stop {most:Int} {l:List Rl} {n:Int} (h:¬ 0<n):q9g most l n=some n:=by
 cases l with
 | nil=>rfl
 | cons e r=>rw [q9g,if_neg h]
theorem typsW_stop {most:Int} {l:List Ty} {n:Int} (h:¬ 0<n):typsW most l n=some n:=by
 cases l with
 | nil=>rfl
 | cons e r=>rw [typsW,if_neg h]
theorem c_law11_Few {s:List Ty} (hs:OkS s) {most:Int} (hm0:0≤most) (hm1:most≤1000):AFun PG nrx46 [scA s,.int .i64 most] (.bool (fewF s most)):=by
 intro S
 have hb:=hs.types
 refine wx46 ?_
 unfold Bx46
 (try simp only [rwp,hwR,zA,zB,zC,zD,zE,zF,zG,zH,zI,scA])
 (simp (disch:=omega) only [q04])
 refine LoopP.intro (fun p:Nat×Int=>[(1,.int .i64 most),(2,.rop [.sl 2 (s.map tyC)]),(5,.int .i64 p.2),(6,.int .i64 p.1)]) (fun _=>S) (fun p=>p.1≤s.length∧typsW most (s.drop p.1) p.2=typsW most s (most-s.length)∧p.2≤most∧-1125899906842624≤p.2) (fun p=>s.length-p.1) (0,most-s.length) ⟨by omega,rfl,by dsimp only;omega,by dsimp only;omega⟩ rfl (Sub.refl S) ?_
 rintro ⟨i,n⟩ ⟨hi,hn,hn1,hn2⟩ k hk
 dsimp only at hi hn hn1 hn2
 (try simp only [rwp,hwR,zA,zB,zC,zD,zE,zF,zG,zH,zI,C46_1,C46_2])
 (refine q03 (fun h1=>?_) (fun h1=>?_)<;>(try simp only [rwp,hwR,zA,zB,zC,zD,zE,zF,zG,zH,zI,h1]))
 ·simp only [Bool.and_eq_true,decide_eq_true_eq] at h1
  obtain ⟨t,ht⟩:=q0h h1.1
  have hok:=hs.at ht
  have hb1:=hok.rels
  have hb2:=hok.name
  rw [q0e ht,typsW,if_pos h1.2] at hn
  (try simp only [rwp,hwR,zA,zB,zC,zD,zE,zF,zG,zH,zI,ht,tyC])
  (refine q03 (fun h2=>?_) (fun h2=>?_)<;>(try simp only [hlc] at h2))
  ·rw [if_pos h2] at hn
   exact q02 ⟨by rw [fewF,← hn],rfl⟩
  rw [if_neg h2] at hn
  refine LoopP.intro (fun p:Nat×Int=>[(1,.int .i64 most),(2,.rop [.sl 2 (s.map tyC)]),(5,.int .i64 p.2),(6,.int .i64 i),(7,.int .i64 p.1)]) (fun _=>S) (fun p=>p.1≤t.rels.length∧q9g most (t.rels.drop p.1) p.2=q9g most t.rels n∧p.2≤most∧-1125899906842624≤p.2) (fun p=>t.rels.length-p.1) (0,n) ⟨by omega,rfl,by dsimp only;omega,by dsimp only;omega⟩ rfl (Sub.refl S) ?_
  rintro ⟨j,q⟩ ⟨hj,hq,hq1,hq2⟩ k2 hk2
  dsimp only at hj hq hq1 hq2
  (try simp only [rwp,hwR,zA,zB,zC,zD,zE,zF,zG,zH,zI,C46_3,C46_4,ht,tyC])
  (refine q03 (fun h3=>?_) (fun h3=>?_)<;>(try simp only [rwp,hwR,zA,zB,zC,zD,zE,zF,zG,zH,zI,h3]))
  ·simp only [Bool.and_eq_true,decide_eq_true_eq] at h3
   obtain ⟨r,hr⟩:=q0h h3.1
   have hokr:=hok.at hr
   have hb3:=hokr.refs
   have hb4:=hokr.name
   rw [q0e hr,q9g,if_pos h3.2] at hq
   (try simp only [rwp,hwR,zA,zB,zC,zD,zE,zF,zG,zH,zI,hr,q0i,C46_5])
   (refine q03 (fun h4=>?_) (fun h4=>?_)<;>(try simp only [rwp,hwR,zA,zB,zC,zD,zE,zF,zG,zH,zI,h4]))
   ·rw [if_pos (by simpa using h4)] at hq
    rw [← hq] at hn
    exact q02 ⟨by rw [fewF,← hn];rfl,rfl⟩
   have h4':¬ (most<r.refs.length∨(100:Int)<r.name.size):=by simpa using h4
   rw [if_neg h4'] at hq
   (simp (disch:=omega) only [q04])
   rw [← q0d]
   have hw:=q89 r.ex (q-r.refs.length)
   refine q05 (c_law11_weight r.ex hokr.ex (q-r.refs.length) (by omega) (by omega)) ?_
   (try simp only [rwp,hwR,zA,zB,zC,zD,zE,zF,zG,zH,zI])
   exact q08 rfl (hk2 (j+1,q1k r.ex (q-r.refs.length)) ⟨by dsimp only;omega,hq,by dsimp only;omega,by dsimp only;omega⟩ (by dsimp only;omega))
  ·have hend:q9g most (t.rels.drop j) q=some q:=by
    simp only [Bool.and_eq_false_iff,decide_eq_false_iff_not] at h3
    rcases h3 with h3 | h3
    ·rw [q0u h3];rfl
    ·exact relsW_stop h3
   rw [hend] at hq
   rw [← hq] at hn
   (simp (disch:=omega) only [q04])
   exact q08 rfl (hk (i+1,q) ⟨by dsimp only;omega,by dsimp only;rw [← hn];rfl,hq1,hq2⟩ (by dsimp only;omega))
 ·have hend:typsW most (s.drop i) n=some n:=by
   simp only [Bool.and_eq_false_iff,decide_eq_false_iff_not] at h1
   rcases h1 with h1 | h1
   ·rw [q0u h1];rfl
   ·exact typsW_stop h1
  rw [hend] at hn
  exact q02 ⟨by rw [fewF,← hn],rfl⟩
theorem q6n {α:Type} {p:α→Bool} {x:α}:∀ {l:List α},q0r p (l++[x])=match q0r p l with
  | some i=>some i
  | none=>if p x then some l.length else none
 | []=>by
  simp only [List.nil_append,q0r,List.length_nil]
  split<;>rfl
 | y :: r=>by
  have ih:=q6n (p:=p) (x:=x) (l:=r)
  simp only [List.cons_append,q0r,ih]
  by_cases hy:p y=true
  ·simp [hy]
  ·simp only [hy,if_false,Bool.false_eq_true]
   cases q0r p r with
   | some i=>rfl
   | none=>
    by_cases hx:p x=true<;>simp [hx]
theorem q0z {α:Type} {l:List α} {i:Nat} {x:α} (h:l[i]?=some x):l.take (i+1)=l.take i++[x]:=by
 rw [List.take_add_one,h];rfl
theorem typF_snoc {ts:List Ty} {t:Ty} {n:ByteArray}:typF (ts++[t]) n=match typF ts n with
  | some i=>some i
  | none=>if t.name=n then some ts.length else none:=by
 unfold typF
 rw [q6n]
 cases q0r (fun t=>decide (t.name=n)) ts with
 | some i=>rfl
 | none=>by_cases h:t.name=n<;>simp [h]
theorem relIn_snoc {ts:List Rl} {t:Rl} {n:ByteArray}:q4w (ts++[t]) n=match q4w ts n with
  | some i=>some i
  | none=>if t.name=n then some ts.length else none:=by
 unfold q4w
 rw [q6n]
 cases q0r (fun t=>decide (t.name=n)) ts with
 | some i=>rfl
 | none=>by_cases h:t.name=n<;>simp [h]
abbrev MS:Bool×List EK:=(false,[.str])
abbrev iv (i:Nat):AV:=.int .i64 (i:Int)
structure IxB (S:q00) (b1 b2:Nat) (B:Nat→Nat) (ts:List Ty):Prop where
 typs:KMap MS AV.str S b1 (fun n=>(typF ts n).map iv)
 rels:KMap MS AV.str S b2 (fun n=>(typF ts n).map fun i=>.map (some (B i)))
 each:∀ n i t,typF ts n=some i→ts[i]?=some t→KMap MS AV.str S (B i) (fun m=>(q4w t.rels m).map iv)
def IxS (S:q00) (b1 b2:Nat) (s:List Ty):Prop:=∃ B,IxB S b1 b2 B s
abbrev ixP (s:List Ty) (b1 b2:Nat):AV:=.rop [.sl 2 (s.map tyC),.map (some b1),.map (some b2)]
theorem IxS.sub {S S':q00} {b1 b2:Nat} {s:List Ty} (h:IxS S b1 b2 s) (hs:Sub S S'):IxS S' b1 b2 s:=by
 obtain ⟨B,h1,h2,h3⟩:=h
 exact ⟨B,h1.sub hs,h2.sub hs,fun n i t hn ht=>(h3 n i t hn ht).sub hs⟩
theorem q5p {s:List Ty} (hs:OkS s) (S:q00):ACalls PG nrx91 [scA s] S fun ae S'=>∃ b1 b2,ae=.ret (ixP s b1 b2)∧IxS S' b1 b2 s∧Sub S S':=by
 have hb:=hs.types
 refine wx91 ?_
 unfold Bx91
 (try simp only [rwp,hwR,zA,zB,zC,zD,zE,zF,zG,zH,zI,scA])
 refine KMap.mm (enc:=AV.str) fun b1 hb1 m1=>?_
 refine KMap.mm (enc:=AV.str) fun b2 hb2 m2=>?_
 have hne:b2≠b1:=fun e=>m1.is (e ▸ hb2)
 have m1:=m1.fresh hb2 (.map MS [] 0)
 have hsub:Sub S (supd (supd S b1 (.map MS [] 0)) b2 (.map MS [] 0)):=(Sub.fresh _ hb1).trans (Sub.fresh _ hb2)
 (try simp only [rwp,hwR,zA,zB,zC,zD,zE,zF,zG,zH,zI])
 have hb2':sget S b2=none:=by rw [q01,if_neg (Ne.symm hne)] at hb2;exact hb2
 generalize supd (supd S b1 (.map MS [] 0)) b2 (.map MS [] 0)=S0 at m1 m2 hsub
 refine LoopP.introS (fun i:Nat=>[(3,ixP s b1 b2),(18,.sl 2 (s.map tyC)),(19,.int .i64 s.length),(20,.int .i64 i)]) (fun i S'=>i≤s.length∧Sub S S'∧∃ B,IxB S' b1 b2 B (s.take i)∧∀ n j,typF (s.take i) n=some j→B j≠b1∧B j≠b2) (fun i=>s.length-i) 0 ⟨by omega,hsub,fun _=>0,?_,fun n j h=>by cases h⟩ rfl ?_
 ·rw [List.take_zero]
  exact ⟨m1,m2,fun n i t h=>by cases h⟩
 rintro i S1 ⟨hi,hsub1,B,I,hB⟩ r hr
 (try simp only [rwp,hwR,zA,zB,zC,zD,zE,zF,zG,zH,zI,C91_1])
 (refine q03 (fun hlt=>?_) (fun hlt=>?_)<;>(try simp only [hlc] at hlt))
 ·obtain ⟨t,ht⟩:=q0h hlt
  have hok:=hs.at ht
  have hbr:=hok.rels
  (try simp only [rwp,hwR,zA,zB,zC,zD,zE,zF,zG,zH,zI,ht])
  refine alst rfl ?_
  (try simp only [rwp,hwR,zA,zB,zC,zD,zE,zF,zG,zH,zI,tyC])
  rw [I.typs.lk q4a]
  have hlen:(s.take i).length=i:=by simp;omega
  have htk:=q0z ht
  cases hq:typF (s.take i) t.name with
  | some j=>
   (try simp only [rwp,hwR,zA,zB,zC,zD,zE,zF,zG,zH,zI])
   (simp (disch:=omega) only [q04])
   refine q08 rfl (hr (i+1) S1 ⟨by omega,hsub1,B,?_⟩ (by omega))
   rw [htk]
   have hsame:∀ n,typF (s.take i++[t]) n=typF (s.take i) n:=fun n=>by
    rw [typF_snoc]
    cases h:typF (s.take i) n with
    | some k=>rfl
    | none=>
     have:¬ t.name=n:=by rintro rfl;rw [hq] at h;cases h
     simp [this]
   refine ⟨⟨I.typs.cong fun n=>by rw [hsame],I.rels.cong fun n=>by rw [hsame],fun n k u hn hu=>?_⟩,fun n k hn=>hB n k (by rw [← hsame];exact hn)⟩
   rw [hsame] at hn
   have hk:=q4t hn
   rw [List.getElem?_append_left hk] at hu
   exact I.each n k u hn hu
  | none=>
   (try simp only [rwp,hwR,zA,zB,zC,zD,zE,zF,zG,zH,zI])
   refine I.typs.mu q4a t.name fun es clk k1=>?_
   have hs2:=hsub1.supd (o:=.map MS es clk) hb1
   have k2:=I.rels.upd (Ne.symm hne) (.map MS es clk)
   have k3:=fun n j u hn hu=>(I.each n j u hn hu).upd (Ne.symm (hB n j hn).1) (.map MS es clk)
   generalize supd S1 b1 (.map MS es clk)=S2 at k1 k2 k3 hs2
   refine KMap.mm (enc:=AV.str) fun b hbf k4=>?_
   have hb':=Sub.none hs2 hbf
   have hs3:=hs2.supd (o:=.map MS [] 0) hb'
   have d1:b≠b1:=fun e=>k1.is (e ▸ hbf)
   have d2:b≠b2:=fun e=>k2.is (e ▸ hbf)
   have d3:∀ n j,typF (s.take i) n=some j→B j≠b:=fun n j hn e=>by
    have hj:=q4t hn
    exact (k3 n j _ hn (List.getElem?_eq_getElem hj)).is (e ▸ hbf)
   have k1:=k1.fresh hbf (.map MS [] 0)
   have k2:=k2.fresh hbf (.map MS [] 0)
   have k3:=fun n j u hn hu=>(k3 n j u hn hu).fresh hbf (.map MS [] 0)
   generalize supd S2 b (.map MS [] 0)=S3 at k1 k2 k3 k4 hs3
   refine k2.mu q4a t.name fun es2 clk2 k2=>?_
   have hs4:=hs3.supd (o:=.map MS es2 clk2) hb2'
   have k1:=k1.upd hne (.map MS es2 clk2)
   have k3:=fun n j u hn hu=>(k3 n j u hn hu).upd (Ne.symm (hB n j hn).2) (.map MS es2 clk2)
   have k4:=k4.upd (Ne.symm d2) (.map MS es2 clk2)
   generalize supd S3 b2 (.map MS es2 clk2)=S4 at k1 k2 k3 k4 hs4
   have e1:∀ n,typF (s.take i++[t]) n=if n=t.name then some i else typF (s.take i) n:=fun n=>by
    rw [typF_snoc,hlen]
    by_cases h:n=t.name
    ·subst h;simp [hq]
    ·rw [if_neg h,if_neg (Ne.symm h)]
     cases typF (s.take i) n<;>rfl
   have k1:KMap MS AV.str S4 b1 (fun n=>(typF (s.take i++[t]) n).map iv):=k1.cong fun n=>by
    rw [e1]
    by_cases h:n=t.name<;>simp [h]
   have k2:KMap MS AV.str S4 b2 (fun n=>(typF (s.take i++[t]) n).map fun j=>.map (some (if j=i then b else B j))):=k2.cong fun n=>by
    rw [e1]
    by_cases h:n=t.name
    ·simp [h]
    ·simp only [if_neg h]
     cases hc:typF (s.take i) n with
     | none=>rfl
     | some j=>
      have:=q4t hc
      simp [show ¬ j=i by omega]
   (try simp only [rwp,hwR,zA,zB,zC,zD,zE,zF,zG,zH,zI])
   refine LoopP.introS (fun k:Nat=>[(3,ixP s b1 b2),(5,.rop [.str t.name,.sl 6 (t.rels.map rlC)]),(18,.sl 2 (s.map tyC)),(19,.int .i64 s.length),(20,.int .i64 i),(51,.sl 6 (t.rels.map rlC)),(52,.int .i64 t.rels.length),(53,.int .i64 k)]) (fun k S'=>k≤t.rels.length∧Sub S S'∧KMap MS AV.str S' b1 (fun n=>(typF (s.take i++[t]) n).map iv)∧KMap MS AV.str S' b2 (fun n=>(typF (s.take i++[t]) n).map fun j=>.map (some (if j=i then b else B j))) ∧
    (∀ n j u,typF (s.take i) n=some j→(s.take i)[j]?=some u→KMap MS AV.str S' (B j) (fun m=>(q4w u.rels m).map iv))∧KMap MS AV.str S' b (fun m=>(q4w (t.rels.take k) m).map iv)) (fun k=>t.rels.length-k) 0 ⟨by omega,hs4,k1,k2,k3,k4⟩ rfl ?_
   rintro k S5 ⟨hk,hs5,k1,k2,k3,k4⟩ r2 hr2
   (try simp only [rwp,hwR,zA,zB,zC,zD,zE,zF,zG,zH,zI,C91_2])
   (refine q03 (fun hlt2=>?_) (fun hlt2=>?_)<;>(try simp only [hlc] at hlt2))
   ·obtain ⟨q,hqr⟩:=q0h hlt2
    have hlk:(t.rels.take k).length=k:=by simp;omega
    have htq:=q0z hqr
    (try simp only [rwp,hwR,zA,zB,zC,zD,zE,zF,zG,zH,zI,hqr])
    refine alst rfl ?_
    (try simp only [rwp,hwR,zA,zB,zC,zD,zE,zF,zG,zH,zI,q0i])
    rw [k2.lk q4a,e1,if_pos rfl]
    simp only [Option.map_some,if_true,q5i]
    rw [k4.lk q4a]
    cases hrq:q4w (t.rels.take k) q.name with
    | some m=>
     (try simp only [rwp,hwR,zA,zB,zC,zD,zE,zF,zG,zH,zI])
     (simp (disch:=omega) only [q04])
     refine q08 rfl (hr2 (k+1) S5 ⟨by omega,hs5,k1,k2,k3,k4.cong fun n=>?_⟩ (by omega))
     rw [htq,relIn_snoc]
     cases h:q4w (t.rels.take k) n with
     | some m=>rfl
     | none=>
      have:¬ q.name=n:=by rintro rfl;rw [hrq] at h;cases h
      simp [this]
    | none=>
     (try simp only [rwp,hwR,zA,zB,zC,zD,zE,zF,zG,zH,zI])
     rw [k2.lk q4a,e1,if_pos rfl]
     simp only [Option.map_some,if_true,q5i]
     refine k4.mu q4a q.name fun es3 clk3 k4=>?_
     (try simp only [rwp,hwR,zA,zB,zC,zD,zE,zF,zG,zH,zI])
     (simp (disch:=omega) only [q04])
     refine q08 rfl (hr2 (k+1) _ ⟨by omega,hs5.supd hb',k1.upd d1 _,k2.upd d2 _,fun n j u hn hu=>(k3 n j u hn hu).upd (Ne.symm (d3 n j hn)) _,k4.cong fun n=>?_⟩ (by omega))
     rw [htq,relIn_snoc,hlk]
     by_cases h:n=q.name
     ·subst h;simp [hrq]
     ·simp only [if_neg h,if_neg (Ne.symm h)]
      cases q4w (t.rels.take k) n<;>rfl
   ·have hend:t.rels.take k=t.rels:=List.take_of_length_le (by omega)
    rw [hend] at k4
    (simp (disch:=omega) only [q04])
    refine q08 rfl (hr (i+1) S5 ⟨by omega,hs5,fun j=>if j=i then b else B j,?_⟩ (by omega))
    rw [htk]
    refine ⟨⟨k1,k2,fun n j u hn hu=>?_⟩,fun n j hn=>?_⟩
    ·rw [e1] at hn
     split at hn
     ·cases hn
      rw [List.getElem?_append_right (by omega),hlen,Nat.sub_self] at hu
      simp at hu
      subst hu
      simp only [if_true]
      exact k4
     ·have hj:=q4t hn
      rw [List.getElem?_append_left hj] at hu
      simp only [if_neg (show ¬ j=i by omega)]
      exact k3 n j u hn hu
    ·rw [e1] at hn
     split at hn
     ·cases hn;simp only [if_true];exact ⟨d1,d2⟩
     ·have hj:=q4t hn
      simp only [if_neg (show ¬ j=i by omega)]
      exact hB n j hn
 ·have hend:s.take i=s:=List.take_of_length_le (by omega)
  rw [hend] at I
  exact q02 ⟨b1,b2,rfl,⟨B,I⟩,hsub1⟩
def fiN (s:List Ty) (t n:ByteArray):Nat×Nat:=((typF s t).getD 0,(relF s (typF s t) n).getD 0)
def fiB (s:List Ty) (t n:ByteArray):Bool:=(relF s (typF s t) n).isSome
theorem q7n {s:List Ty} {t n:ByteArray}:fiB s t n=(q0l s t n).isSome:=by
 unfold fiB
 rw [q7k]
 cases q0l s t n<;>rfl
theorem q7m {s:List Ty} {t n:ByteArray} {i k:Nat} {r:Rl} (h:q0l s t n=some (i,k,r)):fiN s t n=(i,k):=by
 obtain ⟨h1,-⟩:=q1h h
 unfold fiN
 rw [q7k,h,h1]
 rfl
theorem q22 {s:List Ty} {S:q00} {b1 b2:Nat} (I:IxS S b1 b2 s) (t n:ByteArray):AFunS PG nrx96 [ixP s b1 b2,.str t,.str n] S (.tup [q1s (fiN s t n),.bool (fiB s t n)]):=by
 obtain ⟨B,I⟩:=I
 refine wx96 ?_
 unfold Bx96
 intro b hb
 have hS:∀ o,Sub S (supd S b o):=fun o=>Sub.fresh o hb
 (try simp only [rwp,hwR,zA,zB,zC,zD,zE,zF,zG,zH,zI])
 rw [(I.typs.fresh hb _).lk q4a]
 cases hq:typF s t with
 | none=>
  (try simp only [rwp,hwR,zA,zB,zC,zD,zE,zF,zG,zH,zI])
  rw [(I.rels.fresh hb _).lk q4a,hq]
  (try simp only [rwp,hwR,zA,zB,zC,zD,zE,zF,zG,zH,zI])
  refine q17 S (by rw [q33 hb];exact Sub.refl S) ?_
  (try simp only [rwp,hwR,zA,zB,zC,zD,zE,zF,zG,zH,zI])
  simp [q1s,fiN,fiB,hq,relF]
 | some i=>
  have hi:=q4t hq
  (try simp only [rwp,hwR,zA,zB,zC,zD,zE,zF,zG,zH,zI])
  rw [(I.rels.fresh hb _).lk q4a,hq]
  (try simp only [rwp,hwR,zA,zB,zC,zD,zE,zF,zG,zH,zI])
  rw [((I.each t i s[i] hq (List.getElem?_eq_getElem hi)).fresh hb _).lk q4a]
  have hr:relF s (typF s t) n=q4w s[i].rels n:=by simp [relF,hq,List.getElem?_eq_getElem hi]
  rw [hq] at hr
  cases hk:q4w s[i].rels n with
  | none=>
   (try simp only [rwp,hwR,zA,zB,zC,zD,zE,zF,zG,zH,zI])
   refine q17 S (by rw [q33 hb];exact Sub.refl S) ?_
   (try simp only [rwp,hwR,zA,zB,zC,zD,zE,zF,zG,zH,zI])
   simp [q1s,fiN,fiB,hq,hr,hk]
  | some k=>
   (try simp only [rwp,hwR,zA,zB,zC,zD,zE,zF,zG,zH,zI])
   refine q17 S (by rw [q33 hb];exact Sub.refl S) ?_
   (try simp only [rwp,hwR,zA,zB,zC,zD,zE,zF,zG,zH,zI])
   simp [q1s,fiN,fiB,hq,hr,hk]
theorem q62 {s:List Ty} {b1 b2 i k:Nat} {t:Ty} {r:Rl} (ht:s[i]?=some t) (hr:t.rels[k]?=some r):AFun PG nrx97 [ixP s b1 b2,q1s (i,k)] (.agg (rlC r)):=by
 intro S
 refine wx97 ?_
 unfold Bx97
 (try simp only [rwp,hwR,zA,zB,zC,zD,zE,zF,zG,zH,zI,q1s])
 intro b hb
 (try simp only [rwp,hwR,zA,zB,zC,zD,zE,zF,zG,zH,zI,ht,hr,tyC,q0i])
 refine q17 S (by rw [q33 hb];exact Sub.refl S) ?_
 (try simp only [rwp,hwR,zA,zB,zC,zD,zE,zF,zG,zH,zI])<;>exact ⟨by rw [q0i],rfl⟩
theorem q1q {s:List Ty} (hs:OkS s) (t n:ByteArray) (S:q00):ACalls PG nrx48 [scA s,.str t,.str n] S fun ae S'=>ae=.ret (match q0l s t n with
  | some (_,_,r)=>.tup [.agg (rlC r),.bool true]
  | none=>.tup [.agg q6w,.bool false])∧S'=S:=by
 refine wx48 ?_
 unfold Bx48
 (try simp only [rwp,hwR,zA,zB,zC,zD,zE,zF,zG,zH,zI,scA])
 intro b hb
 (try simp only [rwp,hwR,zA,zB,zC,zD,zE,zF,zG,zH,zI])
 refine q0b (q5p hs _) ?_
 rintro _ S1 ⟨b1,b2,rfl,I,hsub⟩
 have hsb:=hsub b _ (by rw [q01,if_pos rfl])
 have hS1:Sub S S1:=(Sub.fresh _ hb).trans hsub
 dsimp only
 refine q1u (q22 I t n) ?_
 (try simp only [rwp,hwR,zA,zB,zC,zD,zE,zF,zG,zH,zI,q1s])
 rw [q7n]
 cases hq:q0l s t n with
 | none=>
  (try simp only [rwp,hwR,zA,zB,zC,zD,zE,zF,zG,zH,zI,objAt_some.2 hsb])
  refine q17 S (hS1.supd hb) ?_
  (try simp only [rwp,hwR,zA,zB,zC,zD,zE,zF,zG,zH,zI])
  exact rfl
 | some q=>
  obtain ⟨i,k,r⟩:=q
  obtain ⟨h1,ty,h2,h3,h4⟩:=q1h hq
  rw [q7m hq]
  (try simp only [rwp,hwR,zA,zB,zC,zD,zE,zF,zG,zH,zI])
  refine q05 (q62 h2 h4) ?_
  (try simp only [rwp,hwR,zA,zB,zC,zD,zE,zF,zG,zH,zI,objAt_some.2 hsb,q0i])
  refine q17 S (hS1.supd hb) ?_
  (try simp only [rwp,hwR,zA,zB,zC,zD,zE,zF,zG,zH,zI,q0i])
mutual
/-- The leaves of an expression, from the left, and whether they are left out. -/
def q0k:Ex→Bool→List (Ex×Bool)
 | .mk k n o ks,out=>if ks.isEmpty then [(.mk k n o ks,out)] else q0w k 0 ks out
def q0w:Int→Nat→List Ex→Bool→List (Ex×Bool)
 | _,_,[],_=>[]
 | k,i,e :: r,out=>q0k e (out||(decide (k=4)&&decide ((i:Int)=1)))++q0w k (i+1) r out
end
def q2e {α:Type} (f:α→Ex→Bool→Bool×α):List (Ex×Bool)→α→Bool×α
 | [],a=>(true,a)
 | (e,o) :: r,a=>match f a e o with
  | (true,a')=>q2e f r a'
  | (false,a')=>(false,a')
theorem foldA_app {α:Type} {f:α→Ex→Bool→Bool×α}:∀ {l r:List (Ex×Bool)} {a:α},q2e f (l++r) a=match q2e f l a with
  | (true,a')=>q2e f r a'
  | (false,a')=>(false,a')
 | [],r,a=>rfl
 | (e,o) :: l,r,a=>by
  simp only [List.cons_append,q2e]
  cases f a e o with
  | mk b a'=>cases b with
   | true=>exact foldA_app
   | false=>rfl
theorem foldA_snoc {α:Type} {f:α→Ex→Bool→Bool×α} {l:List (Ex×Bool)} {p:Ex×Bool} {a:α} (h:(q2e f l a).1=true):q2e f (l++[p]) a=f (q2e f l a).2 p.1 p.2:=by
 rw [foldA_app]
 cases hq:q2e f l a with
 | mk b a'=>
  rw [hq] at h
  dsimp only at h
  subst h
  obtain ⟨e,o⟩:=p
  simp only [q2e]
  cases hf:f a' e o with
  | mk c a2=>cases c<;>rfl
theorem foldA_stop {α:Type} {f:α→Ex→Bool→Bool×α} {l r:List (Ex×Bool)} {a:α} (h:(q2e f l a).1=false):q2e f (l++r) a=q2e f l a:=by
 rw [foldA_app]
 cases hq:q2e f l a with
 | mk b a'=>
  rw [hq] at h
  dsimp only at h
  subst h
  rfl
theorem q7t {α:Type} (I:α→q00→Prop) (f:α→Ex→Bool→Bool×α) {g:Nat} {fi ca:List AV} (T:List (Ex×Bool)) (a0:α)
  (hcb:∀ l1 p l2,T=l1++p :: l2→(q2e f l1 a0).1=true→∀ (S:q00),OkE p.1→I (q2e f l1 a0).2 S→ACalls PG g (fi++[.agg (exC p.1),.bool p.2]++ca) S fun ae S'=>ae=.ret (.bool (f (q2e f l1 a0).2 p.1 p.2).1)∧I (f (q2e f l1 a0).2 p.1 p.2).2 S') :
  ∀ (e:Ex),OkE e→∀ (out:Bool) (l0 l2:List (Ex×Bool)),T=l0++q0k e out++l2→(q2e f l0 a0).1=true→∀ (S:q00),I (q2e f l0 a0).2 S →
   ACalls PG nrx176 [.agg (exC e),.bool out,.func (.func g) fi ca] S fun ae S'=>ae=.ret (.bool (q2e f (l0++q0k e out) a0).1)∧I (q2e f (l0++q0k e out) a0).2 S':=by
 intro e he
 induction he with
 | mk k n o ks hk hn ho hks ih=>
  intro out l0 l2 hT hl0 S hI
  refine wx176 ?_
  unfold Bx176
  (try simp only [rwp,hwR,zA,zB,zC,zD,zE,zF,zG,zH,zI,q0d,Ex.kind,Ex.name,Ex.over,Ex.kids])
  have hok:OkE (.mk k n o ks):=.mk k n o ks hk hn ho hks
  by_cases hnil:ks=[]
  ·subst hnil
   refine LoopP.introS (fun _:Unit=>[(1,.bool out),(2,.func (.func g) fi ca),(3,.rop [.int .i64 k,.str n,.str o,.sl 4 []]),(10,.sl 4 []),(11,.int .i64 0),(12,.int .i64 0)]) (fun _ S'=>S'=S) (fun _=>0) () rfl rfl ?_
   rintro _ S rfl r hr
   (try simp only [rwp,hwR,zA,zB,zC,zD,zE,zF,zG,zH,zI,C176_1,show decide ((0:Int)<0)=false from rfl,show decide (((0:Nat):Int)>0)=false from rfl,show decide (((0:Nat):Int)<((0:Nat):Int))=false from rfl,show decide ((0:Int)<((0:Nat):Int))=false from rfl])
   have hl:q0k (.mk k n o []) out=[(.mk k n o [],out)]:=by simp [q0k]
   rw [hl] at hT ⊢
   have h1:=hcb l0 (.mk k n o [],out) l2 (by rw [hT];simp) hl0 S hok hI
   rw [q0d] at h1
   refine caW_ofv h1 ?_
   rintro _ S' ⟨rfl,hI'⟩
   (try simp only [rwp,hwR,zA,zB,zC,zD,zE,zF,zG,zH,zI])
   rw [foldA_snoc hl0]
   exact q02 ⟨rfl,hI'⟩
  ·have hl:q0k (.mk k n o ks) out=q0w k 0 ks out:=by
    cases ks with
    | nil=>exact absurd rfl hnil
    | cons x r=>simp [q0k]
   rw [hl] at hT ⊢
   generalize hL:l0++q0w k 0 ks out=L at hT ⊢
   refine LoopP.introS (fun p:Nat×List (Ex×Bool)=>[(1,.bool out),(2,.func (.func g) fi ca),(3,.rop [.int .i64 k,.str n,.str o,.sl 4 (ks.map exC)]),(10,.sl 4 (ks.map exC)),(11,.int .i64 ks.length),(12,.int .i64 p.1)])
    (fun p S'=>p.1≤ks.length∧(q2e f p.2 a0).1=true∧I (q2e f p.2 a0).2 S'∧p.2++q0w k p.1 (ks.drop p.1) out=L) (fun p=>ks.length-p.1) (0,l0) ⟨by omega,hl0,hI,hL⟩ rfl ?_
   rintro ⟨i,lp⟩ S1 ⟨hi,hlp,hI1,hf1⟩ r hr
   dsimp only at hi hlp hI1 hf1
   (try simp only [rwp,hwR,zA,zB,zC,zD,zE,zF,zG,zH,zI,C176_1])
   (refine q03 (fun hlt=>?_) (fun hlt=>?_)<;>(try simp only [hlc] at hlt))
   ·obtain ⟨x,hx⟩:=q0h hlt
    rw [q0e hx,q0w] at hf1
    (try simp only [rwp,hwR,zA,zB,zC,zD,zE,zF,zG,zH,zI,hx])
    refine alst rfl ?_
    (try simp only [rwp,hwR,zA,zB,zC,zD,zE,zF,zG,zH,zI,q0d,q1e])
    rw [← q0d]
    have fin:∀ o2,o2=(out||(decide (k=4)&&decide ((i:Int)=1)))→C176_4 (fun ae S'=>ae=.ret (.bool (q2e f L a0).1)∧I (q2e f L a0).2 S') r (.bool out) (.func (.func g) fi ca) (.rop [.int .i64 k,.str n,.str o,.sl 4 (ks.map exC)]) (.sl 4 (ks.map exC)) (.int .i64 ks.length) (.int .i64 i) (.agg (exC x)) (.bool o2) S1:=by
     intro o2 ho2
     unfold C176_4
     rw [← ho2,← List.append_assoc] at hf1
     refine q0b (ih x (List.mem_of_getElem? hx) o2 lp (q0w k (i+1) (ks.drop (i+1)) out++l2) (by rw [hT,← hf1];simp) hlp S1 hI1) ?_
     rintro _ S' ⟨rfl,h2⟩
     (try simp only [rwp,hwR,zA,zB,zC,zD,zE,zF,zG,zH,zI])
     cases hq:(q2e f (lp++q0k x o2) a0).1 with
     | false=>
      (try simp only [rwp,hwR,zA,zB,zC,zD,zE,zF,zG,zH,zI])
      rw [← hf1,foldA_stop hq]
      exact q02 ⟨by rw [hq],h2⟩
     | true=>
      (try simp only [rwp,hwR,zA,zB,zC,zD,zE,zF,zG,zH,zI])
      (simp (disch:=omega) only [q04])
      exact q08 rfl (hr (i+1,lp++q0k x o2) S' ⟨by dsimp only;omega,hq,h2,hf1⟩ (by dsimp only;omega))
    cases a1':out<;>cases a2':decide (k=4)<;>cases a3':decide ((i:Int)=1) <;>
     (try simp only [rwp,hwR,zA,zB,zC,zD,zE,zF,zG,zH,zI,C176_2,C176_3,a1',a2',a3'])<;>(rw [a1'] at fin;exact fin _ (by rw [a2',a3'];rfl))
   ·have h0:decide ((0:Int)<ks.length)=true:=by
     rw [decide_eq_true_eq]
     have:ks.length≠0:=fun h=>hnil (List.length_eq_zero_iff.1 h)
     omega
    rw [q0u hlt] at hf1
    have hf2:lp=L:=by rw [← hf1];simp [q0w]
    subst hf2
    (try simp only [rwp,hwR,zA,zB,zC,zD,zE,zF,zG,zH,zI,h0])
    exact q02 ⟨by rw [hlp],hI1⟩
def q2c (s:List Ty) (refs:List Rf) (name:ByteArray):List (Nat×Nat):=refs.filterMap fun f=>if f.rl=⟨#[]⟩ then (q0l s f.ty name).map fun q=>(q.1,q.2.1) else none
def nodeC (p:Nat×Nat):List AV:=[.int .i64 p.1,.int .i64 p.2]
theorem take_fm {α β:Type} {g:α→Option β} {l:List α} {i:Nat} {x:α} (h:l[i]?=some x):(l.take (i+1)).filterMap g=(l.take i).filterMap g++(g x).toList:=by
 rw [q0z h,List.filterMap_append]
 cases hg:g x<;>simp [hg]
theorem fm_le {α β:Type} {g:α→Option β} {l:List α} {i:Nat}:((l.take i).filterMap g).length≤l.length:=by
 have h1:=List.length_filterMap_le g (l.take i)
 have h2:(l.take i).length≤l.length:=by simp;omega
 omega
theorem q9b {s:List Ty} {S:q00} {b1 b2:Nat} (I:IxS S b1 b2 s) {r:Rl} (hr:OkR r) (hn:r.refs.length≤1000000) (name:ByteArray) :
  AFunS PG nrx180 [ixP s b1 b2,.agg (rlC r),.str name] S (.sl 2 ((q2c s r.refs name).map nodeC)):=by
 refine wx180 ?_
 unfold Bx180
 (try simp only [rwp,hwR,zA,zB,zC,zD,zE,zF,zG,zH,zI,q0i])
 let g:Rf→Option (Nat×Nat):=fun f=>if f.rl=⟨#[]⟩ then (q0l s f.ty name).map fun q=>(q.1,q.2.1) else none
 refine LoopP.introS (fun p:Nat×AV=>[(0,ixP s b1 b2),(2,.str name),(7,p.2),(13,.sl 2 (r.refs.map rfC)),(14,.int .i64 r.refs.length),(15,.int .i64 p.1)])
  (fun p S'=>p.1≤r.refs.length∧Sub S S'∧LstN S S' 163 2 p.2 (((r.refs.take p.1).filterMap g).map nodeC)) (fun p=>r.refs.length-p.1) (0,.nils) ⟨by omega,Sub.refl S,.nil⟩ rfl ?_
 rintro ⟨i,v⟩ S1 ⟨hi,hs,hv⟩ k hk
 dsimp only at hi hv
 (try simp only [rwp,hwR,zA,zB,zC,zD,zE,zF,zG,zH,zI,C180_1])
 (refine q03 (fun hlt=>?_) (fun hlt=>?_)<;>(try simp only [hlc] at hlt))
 ·obtain ⟨f,hf⟩:=q0h hlt
  (try simp only [rwp,hwR,zA,zB,zC,zD,zE,zF,zG,zH,zI,hf,rfC])
  refine q1u (q22 (I.sub hs) f.ty name) ?_
  have htk:=take_fm (g:=g) hf
  have hle:=fm_le (g:=g) (l:=r.refs) (i:=i)
  (try simp only [rwp,hwR,zA,zB,zC,zD,zE,zF,zG,zH,zI,q1s,q7n])
  have skip:g f=none→k [(0,ixP s b1 b2),(2,.str name),(7,v),(13,.sl 2 (r.refs.map rfC)),(14,.int .i64 r.refs.length),(15,.int .i64 ((i:Int)+1))] S1:=fun hg=>by
   refine hk (i+1,v) S1 ⟨by dsimp only;omega,hs,?_⟩ (by dsimp only;omega)
   dsimp only
   rw [htk,hg]
   simpa using hv
  cases hq:q0l s f.ty name with
  | none=>
   (try simp only [rwp,hwR,zA,zB,zC,zD,zE,zF,zG,zH,zI,C180_2])
   (simp (disch:=omega) only [q04])
   exact q08 rfl (skip (by simp only [g,hq];split<;>rfl))
  | some q=>
   obtain ⟨a,b,q⟩:=q
   rw [q7m hq]
   (try simp only [rwp,hwR,zA,zB,zC,zD,zE,zF,zG,zH,zI,C180_2])
   (refine q03 (fun he=>?_) (fun he=>?_)<;>(try simp only [rwp,hwR,zA,zB,zC,zD,zE,zF,zG,zH,zI,he]))
   ·have hg:g f=some (a,b):=by simp only [g,hq];rw [if_pos (by simpa using he)];rfl
    refine hv.app hs (xs:=[nodeC (a,b)]) (fun r hr=>by simp at hr;subst hr;rfl) rfl (by simp only [List.length_map,List.length_cons,List.length_nil];omega) ?_
    intro v' S' h1 h2 _
    (simp (disch:=omega) only [q04])
    refine q08 rfl (hk (i+1,v') S' ⟨by dsimp only;omega,h1,?_⟩ (by dsimp only;omega))
    dsimp only
    rw [htk,hg]
    simpa using h2
   ·(simp (disch:=omega) only [q04])
    exact q08 rfl (skip (by simp only [g,hq];rw [if_neg (by simpa using he)]))
 ·have hend:r.refs.take i=r.refs:=List.take_of_length_le (by omega)
  rw [hend] at hv
  exact q3l hs hv ⟨rfl,rfl⟩
def q4q (s:List Ty) (t:ByteArray) (e:Ex):Int:=match q0l s t e.name with
 | none=>6
 | some (_,_,r)=>if e.kind=0 then 0 else if r.refs.length=0 then 10 else if (q2c s r.refs e.over).length=0 then 6 else 0
def OkN (s:List Ty):Prop:=∀ t∈s,∀ r∈t.rels,rsz r≤1000
theorem findF_mem {s:List Ty} {t n:ByteArray} {i k:Nat} {r:Rl} (h:q0l s t n=some (i,k,r)):∃ ty∈s,r∈ty.rels:=by
 obtain ⟨h1,ty,h2,h3,h4⟩:=q1h h
 exact ⟨ty,List.mem_of_getElem? h2,List.mem_of_getElem? h4⟩
theorem c_rules_atom {s:List Ty} (hs:OkS s) (hN:OkN s) {S:q00} {b1 b2:Nat} (I:IxS S b1 b2 s) (t:ByteArray) (e:Ex):AFunS PG nrx178 [ixP s b1 b2,.str t,.agg (exC e)] S (.int .i64 (q4q s t e)):=by
 refine wx178 ?_
 unfold Bx178
 (try simp only [rwp,hwR,zA,zB,zC,zD,zE,zF,zG,zH,zI,q0d])
 refine q1u (q22 I t e.name) ?_
 (try simp only [rwp,hwR,zA,zB,zC,zD,zE,zF,zG,zH,zI,q1s,q7n])
 cases hq:q0l s t e.name with
 | none=>
  (try simp only [rwp,hwR,zA,zB,zC,zD,zE,zF,zG,zH,zI])
  exact q02 ⟨by rw [q4q,hq],rfl⟩
 | some q=>
  obtain ⟨i,k,r⟩:=q
  obtain ⟨h1,ty,h2,h3,h4⟩:=q1h hq
  have hr:=(hs.at h2).at h4
  have hn:r.refs.length≤1000000:=by
   have:=hN ty (List.mem_of_getElem? h2) r (List.mem_of_getElem? h4)
   unfold rsz at this
   omega
  have key:q4q s t e=if e.kind=0 then 0 else if r.refs.length=0 then 10 else if (q2c s r.refs e.over).length=0 then 6 else 0:=by rw [q4q,hq]
  rw [q7m hq]
  (try simp only [rwp,hwR,zA,zB,zC,zD,zE,zF,zG,zH,zI])
  (refine q03 (fun he=>?_) (fun he=>?_)<;>(try simp only [hlc] at he))
  ·exact q02 ⟨by rw [key,if_pos he],rfl⟩
  refine q05 (q62 h2 h4) ?_
  (try simp only [rwp,hwR,zA,zB,zC,zD,zE,zF,zG,zH,zI,q0i])
  (refine q03 (fun hl=>?_) (fun hl=>?_)<;>(try simp only [hlc] at hl))
  ·exact q02 ⟨by rw [key,if_neg he,if_pos (by omega)],rfl⟩
  refine q05 (q62 h2 h4) ?_
  (try simp only [rwp,hwR,zA,zB,zC,zD,zE,zF,zG,zH,zI])
  refine q1u (q9b I hr hn e.over) ?_
  (try simp only [rwp,hwR,zA,zB,zC,zD,zE,zF,zG,zH,zI])
  (refine q03 (fun h0=>?_) (fun h0=>?_)<;>(try simp only [hlc] at h0))
  ·exact q02 ⟨by rw [key,if_neg he,if_neg (by omega),if_pos (by omega)],rfl⟩
  ·exact q02 ⟨by rw [key,if_neg he,if_neg (by omega),if_neg (by omega)],rfl⟩
def q32 (f:Ex→Int):List (Ex×Bool)→Int
 | []=>0
 | (e,_) :: r=>if f e=0 then q32 f r else f e
def q3f (s:List Ty) (f:Rf):Bool:=(typF s f.ty).isSome&&(decide (f.rl=⟨#[]⟩)||(q0l s f.ty f.rl).isSome)
def q1l (s:List Ty) (t:ByteArray) (r:Rl):Int:=if r.refs.all (q3f s) then (if r.refs.length=0 then q32 (q4q s t) (q0k r.ex false) else 0) else 6
theorem c_rules_names_1 {s:List Ty} (hs:OkS s) (hN:OkN s) {S:q00} {b1 b2:Nat} (I:IxS S b1 b2 s) (t:ByteArray) (e:Ex) (o:Bool) {b:Nat} (hb:sget S b=none) (a:Int) :
  ACalls PG nrx177 [.agg (exC e),.bool o,.rop [ixP s b1 b2],.rop [.str t],.ptr b 0] (supd S b (.cells 30 [.int .i64 a] 1)) fun ae S'=>ae=.ret (.bool (decide (q4q s t e=0)))∧S'=supd S b (.cells 30 [.int .i64 (q4q s t e)] 1):=by
 refine wx177 ?_
 unfold Bx177
 (try simp only [rwp,hwR,zA,zB,zC,zD,zE,zF,zG,zH,zI,q0d])
 rw [← q0d]
 refine q1u ((c_rules_atom hs hN I t e).frame hb _) ?_
 (try simp only [rwp,hwR,zA,zB,zC,zD,zE,zF,zG,zH,zI])
 exact q02 ⟨rfl,rfl⟩
theorem foldA_first {f:Ex→Int}:∀ {l:List (Ex×Bool)} {a:Int},a=0→(q2e (fun (_:Int) e (_:Bool)=>(decide (f e=0),f e)) l a).2=q32 f l
 | [],a,h=>h
 | (e,o) :: r,a,h=>by
  simp only [q2e,q32]
  by_cases he:f e=0
  ·simp only [he,decide_true,if_true]
   exact foldA_first rfl
  ·simp only [he,decide_false,if_false]
theorem c_rules_names {s:List Ty} (hs:OkS s) (hN:OkN s) {S:q00} {b1 b2:Nat} (I:IxS S b1 b2 s) (t:ByteArray) {r:Rl} (hr:OkR r):AFunS PG nrx140 [ixP s b1 b2,.str t,.agg (rlC r)] S (.int .i64 (q1l s t r)):=by
 have hb:=hr.refs
 refine wx140 ?_
 unfold Bx140
 (try simp only [rwp,hwR,zA,zB,zC,zD,zE,zF,zG,zH,zI,q0i])
 intro b hbf
 (try simp only [rwp,hwR,zA,zB,zC,zD,zE,zF,zG,zH,zI])
 refine LoopP.intro (fun i:Nat=>[(3,.rop [ixP s b1 b2]),(4,.rop [.str t]),(5,.rop [.str r.name,.sl 2 (r.refs.map rfC),.int .i64 r.ex.kind,.str r.ex.name,.str r.ex.over,.sl 4 (r.ex.kids.map exC)]),(7,.ptr b 0),(15,.sl 2 (r.refs.map rfC)),(16,.int .i64 r.refs.length),(17,.int .i64 i)])
  (fun _=>supd S b (.cells 30 [.int .i64 0] 1)) (fun i=>i≤r.refs.length∧∀ j f,j<i→r.refs[j]?=some f→q3f s f=true) (fun i=>r.refs.length-i) 0 ⟨by omega,by omega⟩ rfl (Sub.refl _) ?_
 rintro i ⟨hi,hn⟩ k hk
 (try simp only [rwp,hwR,zA,zB,zC,zD,zE,zF,zG,zH,zI,C140_1])
 (refine q03 (fun hlt=>?_) (fun hlt=>?_)<;>(try simp only [hlc] at hlt))
 ·obtain ⟨f,hf⟩:=q0h hlt
  have next:q3f s f=true→k [(3,.rop [ixP s b1 b2]),(4,.rop [.str t]),(5,.rop [.str r.name,.sl 2 (r.refs.map rfC),.int .i64 r.ex.kind,.str r.ex.name,.str r.ex.over,.sl 4 (r.ex.kids.map exC)]),(7,.ptr b 0),(15,.sl 2 (r.refs.map rfC)),(16,.int .i64 r.refs.length),(17,.int .i64 ((i:Int)+1))] (supd S b (.cells 30 [.int .i64 0] 1)):=fun h=>by
   refine hk (i+1) ⟨by omega,fun j u hj hu=>?_⟩ (by omega)
   rcases Nat.lt_succ_iff_lt_or_eq.1 hj with h1 | rfl
   ·exact hn j u h1 hu
   ·rw [hf] at hu;cases hu;exact h
  have bad:q3f s f=false→q1l s t r=6:=fun h=>by rw [q1l,q3j hf h];rfl
  obtain ⟨B,J⟩:=I
  (try simp only [rwp,hwR,zA,zB,zC,zD,zE,zF,zG,zH,zI,hf,rfC])
  rw [(J.typs.fresh hbf _).lk q4a]
  have e1:∀ z:Prop,True:=fun _=>trivial
  refine (show ∀ x:Bool,x=(typF s f.ty).isSome→exW 0 (q2p true (.int .i64 0) ((typF s f.ty).map iv)) _ from ?_) _ rfl
  intro x hx
  have hv:∃ u,q2p true (.int .i64 0) ((typF s f.ty).map iv)=.tup [u,.bool x]:=by
   rw [hx]
   cases typF s f.ty with
   | none=>exact ⟨_,rfl⟩
   | some j=>exact ⟨_,rfl⟩
  obtain ⟨u,hu⟩:=hv
  rw [hu]
  (try simp only [rwp,hwR,zA,zB,zC,zD,zE,zF,zG,zH,zI])
  refine q1u ((q22 ⟨B,J⟩ f.ty f.rl).frame hbf _) ?_
  (try simp only [rwp,hwR,zA,zB,zC,zD,zE,zF,zG,zH,zI,q1s,q7n])
  have ea:q3f s f=(x&&(decide (f.rl=⟨#[]⟩)||(q0l s f.ty f.rl).isSome)):=by rw [q3f,hx]
  cases x<;>cases a2:decide (f.rl=⟨#[]⟩)<;>cases a3:(q0l s f.ty f.rl).isSome<;>rw [a2,a3] at ea <;>
   (try simp only [rwp,hwR,zA,zB,zC,zD,zE,zF,zG,zH,zI,C140_2,C140_3,C140_4,a2,a3]) <;>
   first
    | exact rtW_sub (Sub.fresh _ hbf) ⟨by rw [bad ea],rfl⟩
    | ((simp (disch:=omega) only [q04]);exact q08 rfl (next ea))
 ·have hall:r.refs.all (q3f s)=true:=q63 fun j f hj hf=>hn j f (by omega) hf
  (refine q03 (fun h0=>?_) (fun h0=>?_)<;>(try simp only [hlc] at h0))
  ·rw [← q0d]
   have hc:=q7t (fun (a:Int) S'=>S'=supd S b (.cells 30 [.int .i64 a] 1)) (fun (_:Int) e (_:Bool)=>(decide (q4q s t e=0),q4q s t e)) (g:=nrx177) (fi:=[]) (ca:=[.rop [ixP s b1 b2],.rop [.str t],.ptr b 0]) (q0k r.ex false) 0
    (fun l1 p l2 _ _ S' _ h=>by
     subst h
     exact c_rules_names_1 hs hN I t p.1 p.2 hbf _) r.ex hr.ex false [] [] (by simp) rfl _ rfl
   rw [List.nil_append] at hc
   refine q0b hc ?_
   rintro _ S' ⟨rfl,rfl⟩
   (try simp only [rwp,hwR,zA,zB,zC,zD,zE,zF,zG,zH,zI])
   refine rtW_sub (Sub.fresh _ hbf) ⟨?_,rfl⟩
   rw [q1l,hall,if_pos rfl,if_pos (by omega),foldA_first rfl]
  ·refine rtW_sub (Sub.fresh _ hbf) ⟨?_,rfl⟩
   rw [q1l,hall,if_pos rfl,if_neg (by omega)]
def q31 {α:Type} (f:α→Nat→Rl→Int×α):Nat→List Rl→α→Option (Nat×Int)×α
 | _,[],a=>(none,a)
 | k,r :: rs,a=>if (f a k r).1=0 then q31 f (k+1) rs (f a k r).2 else (some (k,(f a k r).1),(f a k r).2)
def q30 {α:Type} (f:α→Nat→Nat→Ty→Rl→Int×α):Nat→List Ty→α→Option (Nat×Nat×Int)×α
 | _,[],a=>(none,a)
 | i,t :: ts,a=>match q31 (fun a k r=>f a i k t r) 0 t.rels a with
  | (some (k,e),a')=>(some (i,k,e),a')
  | (none,a')=>q30 f (i+1) ts a'
def flA (t r e:Int):AV:=.agg [.int .i64 t,.int .i64 r,.int .i64 e]
def flO:Option (Nat×Nat×Int)→AV
 | some (i,k,e)=>flA i k e
 | none=>flA 0 0 0
theorem q5q {α:Type} (I:α→q00→Prop) (f:α→Nat→Nat→Ty→Rl→Int×α) {s:List Ty} (hs:OkS s) {b1 b2 g:Nat} {fi ca:List AV}
  (hcb:∀ i k t r a S,s[i]?=some t→t.rels[k]?=some r→I a S→ACalls PG g (fi++[q1s (i,k),.agg (tyC t),.agg (rlC r)]++ca) S fun ae S'=>ae=.ret (.int .i64 (f a i k t r).1)∧I (f a i k t r).2 S') (a0:α) (S:q00) (hI:I a0 S) :
  ACalls PG nrx94 [ixP s b1 b2,.func (.func g) fi ca] S fun ae S'=>ae=.ret (flO (q30 f 0 s a0).1)∧I (q30 f 0 s a0).2 S':=by
 have hb:=hs.types
 refine wx94 ?_
 unfold Bx94
 intro b hbf
 (try simp only [rwp,hwR,zA,zB,zC,zD,zE,zF,zG,zH,zI])
 refine LoopP.introS (fun p:Nat×α=>[(1,.func (.func g) fi ca),(4,.ptr b 0),(14,.sl 2 (s.map tyC)),(15,.int .i64 s.length),(16,.int .i64 p.1)])
  (fun p S'=>p.1≤s.length∧(∃ S1,S'=supd S1 b (.cells 88 [.int .i64 0,.int .i64 0,.int .i64 0] 3)∧sget S1 b=none∧I p.2 S1)∧q30 f p.1 (s.drop p.1) p.2=q30 f 0 s a0) (fun p=>s.length-p.1) (0,a0) ⟨by omega,⟨S,rfl,hbf,hI⟩,rfl⟩ rfl ?_
 rintro ⟨i,a⟩ _ ⟨hi,⟨S1,rfl,hb1,hI1⟩,hf⟩ q hq
 dsimp only at hi hf hI1
 (try simp only [rwp,hwR,zA,zB,zC,zD,zE,zF,zG,zH,zI,C94_1])
 (refine q03 (fun hlt=>?_) (fun hlt=>?_)<;>(try simp only [hlc] at hlt))
 ·obtain ⟨t,ht⟩:=q0h hlt
  have hok:=hs.at ht
  have hbt:=hok.rels
  rw [q0e ht,q30] at hf
  (try simp only [rwp,hwR,zA,zB,zC,zD,zE,zF,zG,zH,zI,ht,tyC])
  refine alst rfl ?_
  (try simp only [rwp,hwR,zA,zB,zC,zD,zE,zF,zG,zH,zI])
  refine LoopP.introS (fun p:Nat×α=>[(1,.func (.func g) fi ca),(4,.ptr b 0),(5,.int .i64 i),(6,.rop [.str t.name,.sl 6 (t.rels.map rlC)]),(14,.sl 2 (s.map tyC)),(15,.int .i64 s.length),(16,.int .i64 i),(22,.sl 6 (t.rels.map rlC)),(23,.int .i64 t.rels.length),(24,.int .i64 p.1)])
   (fun p S'=>p.1≤t.rels.length∧(∃ S1,S'=supd S1 b (.cells 88 [.int .i64 0,.int .i64 0,.int .i64 0] 3)∧sget S1 b=none∧I p.2 S1)∧q31 (fun a k r=>f a i k t r) p.1 (t.rels.drop p.1) p.2=q31 (fun a k r=>f a i k t r) 0 t.rels a) (fun p=>t.rels.length-p.1) (0,a) ⟨by omega,⟨S1,rfl,hb1,hI1⟩,rfl⟩ rfl ?_
  rintro ⟨k,a2⟩ _ ⟨hk,⟨S2,rfl,hb2,hI2⟩,hf2⟩ q2 hq2
  dsimp only at hk hf2 hI2
  (try simp only [rwp,hwR,zA,zB,zC,zD,zE,zF,zG,zH,zI,C94_2])
  (refine q03 (fun hlt2=>?_) (fun hlt2=>?_)<;>(try simp only [hlc] at hlt2))
  ·obtain ⟨r,hr⟩:=q0h hlt2
   rw [q0e hr,q31] at hf2
   (try simp only [rwp,hwR,zA,zB,zC,zD,zE,zF,zG,zH,zI,hr])
   refine alst rfl ?_
   (try simp only [rwp,hwR,zA,zB,zC,zD,zE,zF,zG,zH,zI,q0i])
   have h1:=ACalls.frame (hcb i k t r a2 S2 ht hr hI2) hb2 (.cells 88 [.int .i64 0,.int .i64 0,.int .i64 0] 3)
   simp only [q1s,q0i,tyC] at h1
   refine caW_ofv h1 ?_
   rintro _ S3 ⟨S4,⟨rfl,hI4⟩,hb4,rfl⟩
   (try simp only [rwp,hwR,zA,zB,zC,zD,zE,zF,zG,zH,zI])
   (refine q03 (fun he=>?_) (fun he=>?_)<;>(try simp only [hlc] at he))
   ·rw [if_neg he] at hf2
    rw [← hf2] at hf
    refine q17 S4 (Sub.fresh _ hb4) ?_
    (try simp only [rwp,hwR,zA,zB,zC,zD,zE,zF,zG,zH,zI])
    rw [← hf]
    exact ⟨rfl,hI4⟩
   ·rw [if_pos he] at hf2
    (simp (disch:=omega) only [q04])
    exact q08 rfl (hq2 (k+1,(f a2 i k t r).2) _ ⟨by dsimp only;omega,⟨S4,rfl,hb4,hI4⟩,hf2⟩ (by dsimp only;omega))
  ·rw [q0u hlt2,q31] at hf2
   rw [← hf2] at hf
   (simp (disch:=omega) only [q04])
   exact q08 rfl (hq (i+1,a2) _ ⟨by dsimp only;omega,⟨S2,rfl,hb2,hI2⟩,hf⟩ (by dsimp only;omega))
 ·rw [q0u hlt,q30] at hf
  (try simp only [rwp,hwR,zA,zB,zC,zD,zE,zF,zG,zH,zI])
  refine q17 S1 (Sub.fresh _ hb1) ?_
  (try simp only [rwp,hwR,zA,zB,zC,zD,zE,zF,zG,zH,zI])
  rw [← hf]
  exact ⟨rfl,hI1⟩
def q36 (s:List Ty) (f:Nat→Nat→Ty→Rl→Int):Option (Nat×Nat×Int):=(q30 (fun (_:Unit) i k t r=>(f i k t r,())) 0 s ()).1
theorem q4z {f:Nat→Nat→Ty→Rl→Int} {s:List Ty} (hs:OkS s) {b1 b2 g:Nat} {fi ca:List AV} {S:q00}
  (hcb:∀ i k t r,s[i]?=some t→t.rels[k]?=some r→AFunS PG g (fi++[q1s (i,k),.agg (tyC t),.agg (rlC r)]++ca) S (.int .i64 (f i k t r))) :
  AFunS PG nrx94 [ixP s b1 b2,.func (.func g) fi ca] S (flO (q36 s f)):=
 q5q (fun (_:Unit) S'=>S'=S) (fun _ i k t r=>(f i k t r,())) hs (fun i k t r a S' h1 h2 h=>by subst h;exact hcb i k t r h1 h2) () S rfl
def longI (s:List Ty):Option Nat:=q0r (fun t=>decide ((16:Int)<t.rels.length)) s
def dupB (ts:List Ty) (t:Ty):Bool:=(typF ts t.name).isSome
def dupI:List Ty→List Ty→Option Nat
 | _,[]=>none
 | ts,t :: r=>if dupB ts t then some ts.length else dupI (ts++[t]) r
def szF (s:List Ty):AV:=if (16:Int)<s.length then flA 0 (-1) 2 else match longI s with
 | some i=>flA i (-1) 2
 | none=>match dupI [] s with
  | some i=>flA i (-1) 7
  | none=>flA 0 0 0
theorem c_rules_sizes {s:List Ty} (hs:OkS s):AFun PG nrx137 [scA s] (szF s):=by
 intro S
 have hb:=hs.types
 refine wx137 ?_
 unfold Bx137
 (try simp only [rwp,hwR,zA,zB,zC,zD,zE,zF,zG,zH,zI,scA])
 intro b2 hb2
 (try simp only [rwp,hwR,zA,zB,zC,zD,zE,zF,zG,zH,zI])
 intro b3 hb3
 have hne:b2≠b3:=by
  rintro rfl
  rw [q01,if_pos rfl] at hb3
  cases hb3
 have hne':b3≠b2:=Ne.symm hne
 have hb3':sget S b3=none:=by rw [q01,if_neg hne] at hb3;exact hb3
 have hS2:Sub S (supd (supd S b2 (.cells 88 [.int .i64 0,.int .i64 0,.int .i64 0] 3)) b3 (.cells 88 [.int .i64 0,.int .i64 (-1),.int .i64 2] 3)):=(Sub.fresh _ hb2).supd hb3'
 (try simp only [rwp,hwR,zA,zB,zC,zD,zE,zF,zG,zH,zI,if_neg hne,if_neg hne'])
 (refine q03 (fun h1=>?_) (fun h1=>?_)<;>(try simp only [hlc] at h1))
 ·refine q17 S (hS2.supd hb2) ?_
  (try simp only [rwp,hwR,zA,zB,zC,zD,zE,zF,zG,zH,zI])
  rw [szF,if_pos h1];rfl
 refine LoopP.introS (fun i:Nat=>[(1,.rop [.sl 2 (s.map tyC)]),(2,.ptr b2 0),(3,.ptr b3 0),(14,.int .i64 s.length),(15,.int .i64 i)])
  (fun i S'=>i≤s.length∧Sub S S'∧q0j S' b2=some (88,[.int .i64 0,.int .i64 0,.int .i64 0],3)∧(∃ v:Int,q0j S' b3=some (88,[.int .i64 v,.int .i64 (-1),.int .i64 2],3))∧∀ j t,j<i→s[j]?=some t→decide ((16:Int)<t.rels.length)=false) (fun i=>s.length-i) 0
  ⟨by omega,hS2,by rw [q0n hne',q0m],⟨0,q0m⟩,by omega⟩ rfl ?_
 rintro i S1 ⟨hi,hs1,h2,⟨v,h3⟩,hn⟩ r hr
 (try simp only [rwp,hwR,zA,zB,zC,zD,zE,zF,zG,zH,zI,C137_1,h3])
 (refine q03 (fun hlt=>?_) (fun hlt=>?_)<;>(try simp only [hlc] at hlt))
 ·obtain ⟨t,ht⟩:=q0h hlt
  have hbt:=(hs.at ht).rels
  (try simp only [rwp,hwR,zA,zB,zC,zD,zE,zF,zG,zH,zI,ht,tyC])
  (refine q03 (fun hl=>?_) (fun hl=>?_)<;>(try simp only [hlc] at hl))
  ·(try simp only [rwp,hwR,zA,zB,zC,zD,zE,zF,zG,zH,zI,if_neg hne',h2])
   refine q17 S ((hs1.supd hb3').supd hb2) ?_
   (try simp only [rwp,hwR,zA,zB,zC,zD,zE,zF,zG,zH,zI])
   have:longI s=some i:=firstI_some.2 ⟨⟨t,ht,by simpa using hl⟩,hn⟩
   rw [szF,if_neg h1,this];rfl
  ·(simp (disch:=omega) only [q04])
   refine q08 rfl (hr (i+1) _ ⟨by omega,hs1.supd hb3',by rw [q0n hne'];exact h2,⟨_,q0m⟩,fun j u hj hu=>?_⟩ (by omega))
   rcases Nat.lt_succ_iff_lt_or_eq.1 hj with h | rfl
   ·exact hn j u h hu
   ·rw [ht] at hu;cases hu;simpa using hl
 ·have hln:longI s=none:=firstI_none.2 fun j u hu=>hn j u (by have:=(List.getElem?_eq_some_iff.1 hu).1;omega) hu
  have hs2:=hs1.supd (o:=.cells 88 [.int .i64 v,.int .i64 (-1),.int .i64 7] 3) hb3'
  have h2':q0j (supd S1 b3 (.cells 88 [.int .i64 v,.int .i64 (-1),.int .i64 7] 3)) b2=some (88,[.int .i64 0,.int .i64 0,.int .i64 0],3):=by rw [q0n hne'];exact h2
  have h3':q0j (supd S1 b3 (.cells 88 [.int .i64 v,.int .i64 (-1),.int .i64 7] 3)) b3=some (88,[.int .i64 v,.int .i64 (-1),.int .i64 7],3):=q0m
  clear h2 h3 hr r
  generalize supd S1 b3 (.cells 88 [.int .i64 v,.int .i64 (-1),.int .i64 7] 3)=S2 at hs2 h2' h3' ⊢
  refine KMap.mm (enc:=AV.str) fun b4 hb4 k4=>?_
  have d2:b4≠b2:=fun e=>objAt_is h2' (e ▸ hb4)
  have d3:b4≠b3:=fun e=>objAt_is h3' (e ▸ hb4)
  have hb4':=Sub.none hs2 hb4
  refine LoopP.introS (fun i:Nat=>[(1,.rop [.sl 2 (s.map tyC)]),(2,.ptr b2 0),(3,.ptr b3 0),(4,.map (some b4)),(34,.int .i64 s.length),(35,.int .i64 i)])
   (fun i S'=>i≤s.length∧Sub S S'∧q0j S' b2=some (88,[.int .i64 0,.int .i64 0,.int .i64 0],3)∧(∃ v:Int,q0j S' b3=some (88,[.int .i64 v,.int .i64 (-1),.int .i64 7],3)) ∧
    KMap MS AV.str S' b4 (fun n=>if (typF (s.take i) n).isSome then some (.bool true) else none)∧dupI [] s=dupI (s.take i) (s.drop i)) (fun i=>s.length-i) 0
   ⟨by omega,hs2.supd hb4',by rw [q0n d2];exact h2',⟨v,by rw [q0n d3];exact h3'⟩,k4,rfl⟩ rfl ?_
  clear k4 h2' h3' hs2 hb4
  rintro i S3 ⟨hi,hs3,h2,⟨v,h3⟩,hm,hd⟩ r hr
  (try simp only [rwp,hwR,zA,zB,zC,zD,zE,zF,zG,zH,zI,C137_2,h3])
  (refine q03 (fun hlt2=>?_) (fun hlt2=>?_)<;>(try simp only [hlc] at hlt2))
  ·obtain ⟨t,ht⟩:=q0h hlt2
   have hlen:(s.take i).length=i:=by simp;omega
   rw [q0e ht,dupI,hlen] at hd
   (try simp only [rwp,hwR,zA,zB,zC,zD,zE,zF,zG,zH,zI,ht,tyC])
   have hm':=hm.upd (Ne.symm d3) (.cells 88 [.int .i64 i,.int .i64 (-1),.int .i64 7] 3)
   rw [hm'.lk q4a]
   cases hq:(typF (s.take i) t.name).isSome with
   | true=>
    rw [show dupB (s.take i) t=true from hq,if_pos rfl] at hd
    (try simp only [rwp,hwR,zA,zB,zC,zD,zE,zF,zG,zH,zI,if_neg hne',h2,if_true])
    refine q17 S ((hs3.supd hb3').supd hb2) ?_
    (try simp only [rwp,hwR,zA,zB,zC,zD,zE,zF,zG,zH,zI])
    rw [szF,if_neg h1,hln,hd];rfl
   | false=>
    rw [show dupB (s.take i) t=false from hq,if_neg (by simp)] at hd
    (try simp only [rwp,hwR,zA,zB,zC,zD,zE,zF,zG,zH,zI,Bool.false_eq_true,if_false])
    refine hm'.mu q4a t.name fun es clk k=>?_
    (simp (disch:=omega) only [q04])
    refine q08 rfl (hr (i+1) _ ⟨by omega,(hs3.supd hb3').supd hb4',by rw [q0n d2,q0n hne'];exact h2,⟨i,by rw [q0n d3];exact q0m⟩,k.cong fun n=>?_,?_⟩ (by omega))
    ·rw [q0z ht,typF_snoc]
     by_cases hn:n=t.name
     ·subst hn
      cases h:typF (s.take i) t.name<;>simp
     ·simp only [if_neg hn,if_neg (Ne.symm hn)]
      cases typF (s.take i) n<;>rfl
    ·rw [q0z ht];exact hd
  ·rw [q0u hlt2,dupI] at hd
   (try simp only [rwp,hwR,zA,zB,zC,zD,zE,zF,zG,zH,zI,h2])
   refine q17 S (hs3.supd hb2) ?_
   (try simp only [rwp,hwR,zA,zB,zC,zD,zE,zF,zG,zH,zI])
   rw [szF,if_neg h1,hln,hd];rfl
def q52 (s:List Ty) (i k:Nat) (t:Ty) (r:Rl):Int:=if fiN s t.name r.name=(i,k) then 0 else 7
def errA:AV→Int
 | .agg [_,_,.int _ e]=>e
 | _=>0
def q2n (s:List Ty):AV:=
 if s.length=0∨scB s=false then flA 0 (-1) 1
 else if errA (szF s)≠0 then szF s
 else match q36 s (q52 s) with
  | some (i,k,e)=>flA i k e
  | none=>flO (q36 s fun _ _ t r=>q1l s t.name r)
theorem c_rules_plain_1 {s:List Ty} {S:q00} {b1 b2:Nat} (I:IxS S b1 b2 s) {i k:Nat} {t:Ty} {r:Rl}:AFunS PG nrx138 [q1s (i,k),.agg (tyC t),.agg (rlC r),.rop [ixP s b1 b2]] S (.int .i64 (q52 s i k t r)):=by
 refine wx138 ?_
 unfold Bx138
 (try simp only [rwp,hwR,zA,zB,zC,zD,zE,zF,zG,zH,zI,q1s,tyC,q0i])
 refine q1u (q22 I t.name r.name) ?_
 (try simp only [rwp,hwR,zA,zB,zC,zD,zE,zF,zG,zH,zI,q1s,q6o])
 have h1:∀ a b c d:Nat,(decide ((a:Int)=(b:Int))&&decide ((c:Int)=(d:Int)))=decide ((a,c)=(b,d)):=fun a b c d=>by
  rw [Bool.eq_iff_iff]
  simp only [Bool.and_eq_true,decide_eq_true_eq,Prod.mk.injEq]
  omega
 rw [h1]
 (refine q03 (fun h=>?_) (fun h=>?_)<;>(try simp only [hlc] at h))
 ·exact q02 ⟨by rw [q52,if_neg (show ¬ fiN s t.name r.name=(i,k) from h)],rfl⟩
 ·exact q02 ⟨by rw [q52,if_pos (show fiN s t.name r.name=(i,k) from h)],rfl⟩
theorem c_rules_plain_2 {s:List Ty} (hs:OkS s) (hN:OkN s) {S:q00} {b1 b2:Nat} (I:IxS S b1 b2 s) {i k:Nat} {t:Ty} {r:Rl} (hr:OkR r):AFunS PG nrx139 [q1s (i,k),.agg (tyC t),.agg (rlC r),.rop [ixP s b1 b2]] S (.int .i64 (q1l s t.name r)):=by
 refine wx139 ?_
 unfold Bx139
 (try simp only [rwp,hwR,zA,zB,zC,zD,zE,zF,zG,zH,zI,q1s,tyC,q0i])
 rw [← q0i]
 refine q1u (c_rules_names hs hN I t.name hr) ?_
 exact q02 ⟨rfl,rfl⟩
theorem szF_fl (s:List Ty):∃ t r e,szF s=flA t r e:=by
 unfold szF
 split
 ·exact ⟨_,_,_,rfl⟩
 ·split
  ·exact ⟨_,_,_,rfl⟩
  ·split
   ·exact ⟨_,_,_,rfl⟩
   ·exact ⟨_,_,_,rfl⟩
theorem eachR_err {α:Type} {f:α→Nat→Rl→Int×α}:∀ {l:List Rl} {k:Nat} {a:α} {q:Nat×Int},(q31 f k l a).1=some q→q.2≠0
 | [],k,a,q,h=>by cases h
 | r :: l,k,a,q,h=>by
  unfold q31 at h
  split at h
  ·exact eachR_err h
  ·cases h;assumption
theorem eachT_err {α:Type} {f:α→Nat→Nat→Ty→Rl→Int×α}:∀ {l:List Ty} {i:Nat} {a:α} {q:Nat×Nat×Int},(q30 f i l a).1=some q→q.2.2≠0
 | [],i,a,q,h=>by cases h
 | t :: l,i,a,q,h=>by
  unfold q30 at h
  split at h
  ·rename_i k e a' hq
   cases h
   exact eachR_err (q:=(k,e)) (by rw [hq])
  ·exact eachT_err h
theorem eachF_err {f:Nat→Nat→Ty→Rl→Int} {s:List Ty} {q:Nat×Nat×Int} (h:q36 s f=some q):q.2.2≠0:=eachT_err h
theorem c_rules_plain {s:List Ty} (hs:OkS s) (hN:OkN s) {S:q00} {b1 b2:Nat} (I:IxS S b1 b2 s):AFunS PG nrx92 [ixP s b1 b2] S (q2n s):=by
 refine wx92 ?_
 unfold Bx92
 (try simp only [rwp,hwR,zA,zB,zC,zD,zE,zF,zG,zH,zI])
 intro b hb
 (try simp only [rwp,hwR,zA,zB,zC,zD,zE,zF,zG,zH,zI])
 have low:∀ v,v=(decide (s.length=0)||!scB s)→C92_1 (fun ae S'=>ae=.ret (q2n s)∧S'=S) (.rop [ixP s b1 b2]) (.ptr b 0) (.bool v) (supd S b (.cells 88 [.int .i64 0,.int .i64 0,.int .i64 0] 3)):=by
  intro v hv
  unfold C92_1
  cases v with
  | true=>
   have h:s.length=0∨scB s=false:=by
    have:=hv.symm
    simpa using this
   (try simp only [rwp,hwR,zA,zB,zC,zD,zE,zF,zG,zH,zI])
   refine q17 S (Sub.fresh _ hb) ?_
   (try simp only [rwp,hwR,zA,zB,zC,zD,zE,zF,zG,zH,zI])
   rw [q2n,if_pos h];rfl
  | false=>
   have h:¬ (s.length=0∨scB s=false):=by
    have:=hv.symm
    simpa using this
   (try simp only [rwp,hwR,zA,zB,zC,zD,zE,zF,zG,zH,zI])
   refine q05 (c_rules_sizes hs) ?_
   obtain ⟨ft,fr,fe,hsz⟩:=szF_fl s
   rw [hsz]
   (try simp only [rwp,hwR,zA,zB,zC,zD,zE,zF,zG,zH,zI,flA])
   intro b3 hb3
   have hne:b≠b3:=by
    rintro rfl
    rw [q01,if_pos rfl] at hb3
    cases hb3
   have hne':b3≠b:=Ne.symm hne
   have hb3':sget S b3=none:=by rw [q01,if_neg hne] at hb3;exact hb3
   (try simp only [rwp,hwR,zA,zB,zC,zD,zE,zF,zG,zH,zI,if_neg hne,if_neg hne',C92_2,C92_3])
   have key:q2n s=if fe≠0 then flA ft fr fe else match q36 s (q52 s) with
     | some (i,k,e)=>flA i k e
     | none=>flO (q36 s fun _ _ t r=>q1l s t.name r):=by
    rw [q2n,if_neg h,hsz];rfl
   have ret:∀ x y z:Int,q2n s=flA x y z→rtW [.cell (.ptr b 0) 3 true] (fun ae S'=>ae=.ret (q2n s)∧S'=S) (supd (supd (supd S b (.cells 88 [.int .i64 0,.int .i64 0,.int .i64 0] 3)) b3 (.cells 88 [.int .i64 x,.int .i64 y,.int .i64 z] 3)) b (.cells 88 [.int .i64 x,.int .i64 y,.int .i64 z] 3)):=by
    intro x y z hp
    refine q17 S (((Sub.fresh _ hb).supd hb3').supd hb) ?_
    (try simp only [rwp,hwR,zA,zB,zC,zD,zE,zF,zG,zH,zI])
    rw [hp];rfl
   have fr2:∀ {f:Nat} {args:List AV} {u:AV} {x y z:Int},AFunS PG f args S u→AFunS PG f args (supd (supd S b (.cells 88 [.int .i64 0,.int .i64 0,.int .i64 0] 3)) b3 (.cells 88 [.int .i64 x,.int .i64 y,.int .i64 z] 3)) u:=fun h=>(h.frame hb _).frame hb3 _
   (refine q03 (fun h0=>?_) (fun h0=>?_)<;>(try simp only [hlc] at h0))
   ·subst h0
    rw [if_neg (by simp)] at key
    have h1:=q4z (b1:=b1) (b2:=b2) (g:=nrx138) (fi:=[]) (ca:=[.rop [ixP s b1 b2]]) (f:=q52 s) hs (S:=S) fun i k t r ht hr=>c_rules_plain_1 I
    refine q1u (fr2 h1) ?_
    cases hq:q36 s (q52 s) with
    | some q=>
     obtain ⟨i,k,e⟩:=q
     have he:=eachF_err hq
     rw [hq] at key
     dsimp only at key he
     (try simp only [rwp,hwR,zA,zB,zC,zD,zE,zF,zG,zH,zI,flO,flA,if_neg hne,if_neg hne'])
     (refine q03 (fun h2=>?_) (fun h2=>?_)<;>(try simp only [hlc] at h2))
     ·exact absurd h2 he
     ·exact ret _ _ _ key
    | none=>
     rw [hq] at key
     dsimp only at key
     (try simp only [rwp,hwR,zA,zB,zC,zD,zE,zF,zG,zH,zI,flO,flA,if_neg hne,if_neg hne',decide_true])
     have h2:=q4z (b1:=b1) (b2:=b2) (g:=nrx139) (fi:=[]) (ca:=[.rop [ixP s b1 b2]]) (f:=fun _ _ t r=>q1l s t.name r) hs (S:=S) fun i k t r ht hr=>c_rules_plain_2 hs hN I ((hs.at ht).at hr)
     refine q1u (fr2 h2) ?_
     cases hq2:q36 s (fun _ _ t r=>q1l s t.name r) with
     | some q=>
      obtain ⟨i,k,e⟩:=q
      rw [hq2] at key
      (try simp only [rwp,hwR,zA,zB,zC,zD,zE,zF,zG,zH,zI,flO,flA,if_neg hne,if_neg hne'])
      exact ret _ _ _ key
     | none=>
      rw [hq2] at key
      (try simp only [rwp,hwR,zA,zB,zC,zD,zE,zF,zG,zH,zI,flO,flA,if_neg hne,if_neg hne'])
      exact ret _ _ _ key
   ·rw [if_pos h0] at key
    (refine q03 (fun h00=>?_) (fun h00=>?_)<;>(try simp only [hlc] at h00))
    ·exact absurd h00 h0
    ·exact ret _ _ _ key
 (refine q1m (fun hg=>?_) (fun hg=>?_)<;>(try simp only [rwp,hwR,zA,zB,zC,zD,zE,zF,zG,zH,zI,hg]))
 ·refine q05 (c_lang_May hs) ?_
  (try simp only [rwp,hwR,zA,zB,zC,zD,zE,zF,zG,zH,zI])
  exact low _ (by rw [show decide (s.length=0)=decide ((s.length:Int)=0) from by simp,hg];rfl)
 ·exact low _ (by rw [show decide (s.length=0)=decide ((s.length:Int)=0) from by simp,hg];rfl)
abbrev Ln:Type:=(Nat×Nat)×Bool
def q2z (n:Ln):List AV:=[.int .i64 n.1.1,.int .i64 n.1.2,.bool n.2]
def q6i (s:List Ty) (t:ByteArray) (e:Ex) (o:Bool):List Ln:=match q0l s t e.name with
 | none=>[]
 | some (i,k,r)=>((i,k),o) :: (if e.kind=1 then (q2c s r.refs e.over).map fun p=>(p,o) else [])
def q1y (s:List Ty) (f:Rf):Option Ln:=if f.rl=⟨#[]⟩ then none else (q0l s f.ty f.rl).map fun q=>((q.1,q.2.1),false)
def q1p (s:List Ty) (t:ByteArray) (r:Rl):List Ln:=if r.refs.length=0 then (q0k r.ex false).flatMap fun p=>q6i s t p.1 p.2 else r.refs.filterMap (q1y s)
def LI (S S':q00) (b:Nat) (rows:List (List AV)):Prop:=Sub S S'∧∃ v,q0j S' b=some (224,[v],1)∧q0x v b∧LstN S S' 227 3 v rows
theorem LI.app {S S':q00} {b:Nat} {rows:List (List AV)} {v:AV} {K:q00→Prop} (hb:sget S b=none) (hs:Sub S S') (hv:q0j S' b=some (224,[v],1)) (ha:q0x v b) (hl:LstN S S' 227 3 v rows) {new:List AV} (hn:new.length=3) (ho:ones new=true)
  (hlen:rows.length≤4000000) (hK:∀ S2,LI S S2 b (rows++[new])→K S2):apW S' 227 3 24 v (.sl 3 [new]) fun v' S1=>soW (q0j S1 b) S1 1 b 0 v' K:=by
 refine hl.app hs (xs:=[new]) (fun r hr=>by simp at hr;subst hr;exact hn) (by simpa using ho) (by simp only [List.length_cons,List.length_nil];omega) ?_
 intro v' S1 h1 h2 h3
 obtain ⟨k1,k2⟩:=h3 b _ (objAt_some.1 hv) ha
 rw [objAt_some.2 k1,soW_one h2.one]
 exact hK _ ⟨h1.supd hb,v',q0m,k2,h2.upd k2 _⟩
mutual
theorem q5y:∀ (e:Ex) (o:Bool),(q0k e o).length≤esz e
 | .mk k n o' ks,o=>by
  unfold q0k esz
  split
  ·simp
  ·have:=leavesL_le ks k 0 o
   omega
theorem leavesL_le:∀ (l:List Ex) (k:Int) (i:Nat) (o:Bool),(q0w k i l o).length≤eszL l
 | [],k,i,o=>by simp [q0w,eszL]
 | e :: r,k,i,o=>by
  have h1:=q5y e (o||(decide (k=4)&&decide ((i:Int)=1)))
  have h2:=leavesL_le r k (i+1) o
  simp only [q0w,eszL,List.length_append]
  omega
end
theorem overF_le {s:List Ty} {refs:List Rf} {n:ByteArray}:(q2c s refs n).length≤refs.length:=List.length_filterMap_le _ _
theorem leafF_le {s:List Ty} (hN:OkN s) {t:ByteArray} {e:Ex} {o:Bool}:(q6i s t e o).length≤1001:=by
 unfold q6i
 split
 ·simp
 ·rename_i i k r hq
  obtain ⟨ty,h1,h2⟩:=findF_mem hq
  have h3:=hN ty h1 r h2
  have h4:=overF_le (s:=s) (refs:=r.refs) (n:=e.over)
  unfold rsz at h3
  simp only [List.length_cons]
  split
  ·simp only [List.length_map];omega
  ·simp
theorem flat_le {α β:Type} {f:α→List β} {n:Nat} (h:∀ x,(f x).length≤n):∀ {l:List α},(l.flatMap f).length≤l.length * n
 | []=>by simp
 | x :: l=>by
  have:=flat_le h (l:=l)
  have:=h x
  simp only [List.flatMap_cons,List.length_append,List.length_cons,Nat.succ_mul]
  omega
theorem q6m {s:List Ty} {t:ByteArray}:∀ {l:List (Ex×Bool)} {a:List Ln},q2e (fun (a:List Ln) e o=>(true,a++q6i s t e o)) l a=(true,a++l.flatMap fun p=>q6i s t p.1 p.2)
 | [],a=>by simp [q2e]
 | (e,o) :: r,a=>by
  simp only [q2e]
  rw [q6m]
  simp [List.flatMap_cons]
theorem c_rules_leans_1 {s:List Ty} (hs:OkS s) (hN:OkN s) {S:q00} {b1 b2:Nat} (I:IxS S b1 b2 s) {t:Ty} {e:Ex} {o:Bool} {b:Nat} (hb:sget S b=none) {a:List Ln} (hlen:a.length≤2000000) (hf:(q0l s t.name e.name).isSome=true) {S':q00} (hI:LI S S' b (a.map q2z)) :
  ACalls PG nrx179 [.agg (exC e),.bool o,.rop [ixP s b1 b2],.rop (tyC t),.ptr b 0] S' fun ae S2=>ae=.ret (.bool true)∧LI S S2 b ((a++q6i s t.name e o).map q2z):=by
 cases hq:q0l s t.name e.name with
 | none=>rw [hq] at hf;cases hf
 | some q=>
  obtain ⟨i,k,r⟩:=q
  obtain ⟨h1,ty,h2,h3,h4⟩:=q1h hq
  have hr:=(hs.at h2).at h4
  have hn0:=hN ty (List.mem_of_getElem? h2) r (List.mem_of_getElem? h4)
  have hn:r.refs.length≤1000000:=by unfold rsz at hn0;omega
  refine wx179 ?_
  unfold Bx179
  obtain ⟨hs',v,hv,ha,hl⟩:=hI
  (try simp only [rwp,hwR,zA,zB,zC,zD,zE,zF,zG,zH,zI,q0d,tyC])
  refine q1u (q22 (I.sub hs') t.name e.name) ?_
  rw [q7m hq]
  (try simp only [rwp,hwR,zA,zB,zC,zD,zE,zF,zG,zH,zI,q1s,q07 hv])
  refine LI.app hb hs' hv ha hl (new:=q2z ((i,k),o)) rfl rfl (by simp;omega) ?_
  clear hv ha hl hs' S'
  intro S1 hI1
  (refine q03 (fun he=>?_) (fun he=>?_)<;>(try simp only [hlc] at he))
  ·refine q05 (q62 h2 h4) ?_
   (try simp only [rwp,hwR,zA,zB,zC,zD,zE,zF,zG,zH,zI])
   refine q1u (q9b (I.sub hI1.1) hr hn e.over) ?_
   (try simp only [rwp,hwR,zA,zB,zC,zD,zE,zF,zG,zH,zI])
   have hov:(q2c s r.refs e.over).length≤1000:=by
    have:=overF_le (s:=s) (refs:=r.refs) (n:=e.over)
    unfold rsz at hn0
    omega
   refine LoopP.introS (fun j:Nat=>[(1,.bool o),(4,.ptr b 0),(36,.sl 2 ((q2c s r.refs e.over).map nodeC)),(37,.int .i64 (q2c s r.refs e.over).length),(38,.int .i64 j)])
    (fun j S'=>j≤(q2c s r.refs e.over).length∧LI S S' b ((a++((i,k),o) :: ((q2c s r.refs e.over).take j).map fun p=>(p,o)).map q2z)) (fun j=>(q2c s r.refs e.over).length-j) 0 ⟨by omega,by simpa using hI1⟩ rfl ?_
   rintro j S2 ⟨hj,hI2⟩ w hw
   (try simp only [rwp,hwR,zA,zB,zC,zD,zE,zF,zG,zH,zI,C179_1])
   (refine q03 (fun hlt=>?_) (fun hlt=>?_)<;>(try simp only [hlc] at hlt))
   ·obtain ⟨p,hp⟩:=q0h hlt
    obtain ⟨hs2,v2,hv2,ha2,hl2⟩:=hI2
    (try simp only [rwp,hwR,zA,zB,zC,zD,zE,zF,zG,zH,zI,hp,nodeC,q07 hv2])
    refine LI.app hb hs2 hv2 ha2 hl2 (new:=q2z (p,o)) rfl rfl (by simp;omega) ?_
    intro S3 hI3
    (simp (disch:=omega) only [q04])
    refine q08 rfl (hw (j+1) S3 ⟨by omega,?_⟩ (by omega))
    rw [q0z hp]
    simpa using hI3
   ·have hend:(q2c s r.refs e.over).take j=q2c s r.refs e.over:=List.take_of_length_le (by omega)
    rw [hend] at hI2
    refine q02 ⟨rfl,?_⟩
    rw [q6i,hq]
    simpa [he] using hI2
  ·refine q02 ⟨rfl,?_⟩
   rw [q6i,hq]
   simpa [he] using hI1
theorem c_rules_leans {s:List Ty} (hs:OkS s) (hN:OkN s) {S:q00} {b1 b2:Nat} (I:IxS S b1 b2 s) {t:Ty} {r:Rl} (hr:OkR r) (hrs:rsz r≤1000) (hf:r.refs.length=0→∀ p∈q0k r.ex false,(q0l s t.name p.1.name).isSome=true) :
  AFunS PG nrx142 [ixP s b1 b2,.agg (tyC t),.agg (rlC r)] S (.sl 3 ((q1p s t.name r).map q2z)):=by
 have hn:r.refs.length≤1000:=by unfold rsz at hrs;omega
 refine wx142 ?_
 unfold Bx142
 (try simp only [rwp,hwR,zA,zB,zC,zD,zE,zF,zG,zH,zI,tyC,q0i])
 intro b hb
 refine LoopP.introS (fun j:Nat=>[(3,.rop [ixP s b1 b2]),(4,.rop (tyC t)),(5,.rop [.str r.name,.sl 2 (r.refs.map rfC),.int .i64 r.ex.kind,.str r.ex.name,.str r.ex.over,.sl 4 (r.ex.kids.map exC)]),(7,.ptr b 0),(13,.sl 2 (r.refs.map rfC)),(14,.int .i64 r.refs.length),(15,.int .i64 j)])
  (fun j S'=>j≤r.refs.length∧LI S S' b (((r.refs.take j).filterMap (q1y s)).map q2z)) (fun j=>r.refs.length-j) 0
  ⟨by omega,Sub.fresh _ hb,.nils,q0m,fun _ _ _ _ h=>(by cases h),.nil⟩ rfl ?_
 rintro j S1 ⟨hj,hI⟩ q hq
 (try simp only [rwp,hwR,zA,zB,zC,zD,zE,zF,zG,zH,zI,C142_1])
 (refine q03 (fun hlt=>?_) (fun hlt=>?_)<;>(try simp only [hlc] at hlt))
 ·obtain ⟨f,hfj⟩:=q0h hlt
  have htk:=take_fm (g:=q1y s) hfj
  have hle:=fm_le (g:=q1y s) (l:=r.refs) (i:=j)
  (try simp only [rwp,hwR,zA,zB,zC,zD,zE,zF,zG,zH,zI,hfj,rfC])
  refine q1u (q22 (I.sub hI.1) f.ty f.rl) ?_
  (try simp only [rwp,hwR,zA,zB,zC,zD,zE,zF,zG,zH,zI,q1s,q7n])
  have skip:q1y s f=none→q [(3,.rop [ixP s b1 b2]),(4,.rop (tyC t)),(5,.rop [.str r.name,.sl 2 (r.refs.map rfC),.int .i64 r.ex.kind,.str r.ex.name,.str r.ex.over,.sl 4 (r.ex.kids.map exC)]),(7,.ptr b 0),(13,.sl 2 (r.refs.map rfC)),(14,.int .i64 r.refs.length),(15,.int .i64 ((j:Int)+1))] S1:=fun h=>by
   refine hq (j+1) S1 ⟨by omega,?_⟩ (by omega)
   rw [htk,h]
   simpa using hI
  cases hg:q0l s f.ty f.rl with
  | none=>
   (try simp only [rwp,hwR,zA,zB,zC,zD,zE,zF,zG,zH,zI,C142_2])
   (simp (disch:=omega) only [q04])
   exact q08 rfl (skip (by simp only [q1y,hg];split<;>rfl))
  | some w=>
   obtain ⟨i,k,w⟩:=w
   rw [q7m hg]
   (try simp only [rwp,hwR,zA,zB,zC,zD,zE,zF,zG,zH,zI,C142_2])
   (refine q03 (fun he=>?_) (fun he=>?_)<;>(try simp only [rwp,hwR,zA,zB,zC,zD,zE,zF,zG,zH,zI,he]))
   ·have he':¬ f.rl=⟨#[]⟩:=by simpa using he
    have hgf:q1y s f=some ((i,k),false):=by simp only [q1y,hg];rw [if_neg he'];rfl
    obtain ⟨hs1,v,hv,ha,hl⟩:=hI
    (try simp only [rwp,hwR,zA,zB,zC,zD,zE,zF,zG,zH,zI,q07 hv])
    refine LI.app hb hs1 hv ha hl (new:=q2z ((i,k),false)) rfl rfl (by simp only [List.length_map];omega) ?_
    intro S2 hI2
    (simp (disch:=omega) only [q04])
    refine q08 rfl (hq (j+1) S2 ⟨by omega,?_⟩ (by omega))
    rw [htk,hgf]
    simpa using hI2
   ·(simp (disch:=omega) only [q04])
    exact q08 rfl (skip (by simp only [q1y,hg];rw [if_pos (by simpa using he)]))
 ·have hend:r.refs.take j=r.refs:=List.take_of_length_le (by omega)
  rw [hend] at hI
  (refine q03 (fun h0=>?_) (fun h0=>?_)<;>(try simp only [hlc] at h0))
  ·obtain ⟨hs1,v,hv,ha,hl⟩:=hI
   (try simp only [rwp,hwR,zA,zB,zC,zD,zE,zF,zG,zH,zI,q07 hv])
   refine q3l hs1 hl ⟨?_,rfl⟩
   rw [q1p,if_neg (by omega)]
  ·have h00:r.refs.length=0:=by omega
   have hnil:r.refs=[]:=List.length_eq_zero_iff.1 h00
   rw [hnil] at hI
   have hI:LI S S1 b (([]:List Ln).map q2z):=hI
   rw [← q0d]
   have hc:=q7t (fun (a:List Ln) S'=>LI S S' b (a.map q2z)) (fun (a:List Ln) e o=>(true,a++q6i s t.name e o)) (g:=nrx179) (fi:=[]) (ca:=[.rop [ixP s b1 b2],.rop (tyC t),.ptr b 0]) (q0k r.ex false) []
    (fun l1 p l2 hT _ S' _ hI'=>by
     rw [q6m] at hI' ⊢
     have hl1:l1.length≤1000:=by
      have h1:=q5y r.ex false
      rw [hT] at h1
      simp only [List.length_append] at h1
      unfold rsz at hrs
      omega
     have hl2:=flat_le (f:=fun p:Ex×Bool=>q6i s t.name p.1 p.2) (n:=1001) (fun _=>leafF_le hN) (l:=l1)
     exact c_rules_leans_1 hs hN I hb (by simp only [List.nil_append];omega) (hf h00 p (by rw [hT];simp)) hI') r.ex hr.ex false [] [] (by simp) rfl S1 hI
   rw [List.nil_append,q6m] at hc
   refine q0b hc ?_
   rintro _ S2 ⟨rfl,hs2,v,hv,ha,hl⟩
   (try simp only [rwp,hwR,zA,zB,zC,zD,zE,zF,zG,zH,zI,q07 hv])
   refine q3l hs2 hl ⟨?_,rfl⟩
   rw [q1p,if_pos h00,List.nil_append]
abbrev Lv:Type:=List (List Nat)
def getL (lv:Lv) (p:Nat×Nat):Nat:=(((lv[p.1]?).getD [])[p.2]?).getD 0
def setL (lv:Lv) (p:Nat×Nat) (v:Nat):Lv:=lv.set p.1 (((lv[p.1]?).getD []).set p.2 v)
abbrev Rw:Type:=(Nat×Nat)×List Ln
def q3e (s:List Ty) (i:Nat) (tn:ByteArray):Nat→List Rl→List Rw
 | _,[]=>[]
 | k,r :: rs=>((i,k),q1p s tn r) :: q3e s i tn (k+1) rs
def q4f (s:List Ty):Nat→List Ty→List Rw
 | _,[]=>[]
 | i,t :: ts=>q3e s i t.name 0 t.rels++q4f s (i+1) ts
def q2l (s:List Ty):List Rw:=q4f s 0 s
def q1i (N:Nat) (n:Nat×Nat):List Ln→Lv×Bool→Lv×Bool
 | [],a=>a
 | l :: r,a=>if getL a.1 n<getL a.1 l.1+l.2.toNat∧getL a.1 n≤N then q1i N n r (setL a.1 n (getL a.1 l.1+l.2.toNat),true) else q1i N n r a
def q1o (N:Nat):List Rw→Lv×Bool→Lv×Bool
 | [],a=>a
 | w :: r,a=>q1o N r (q1i N w.1 w.2 a)
def q6k (N:Nat) (w:List Rw):Nat→Lv→Lv
 | 0,lv=>lv
 | f+1,lv=>if (q1o N w (lv,false)).2=true then q6k N w f (q1o N w (lv,false)).1 else (q1o N w (lv,false)).1
def q6b (s:List Ty):Lv:=s.map fun t=>List.replicate t.rels.length 0
def q0y (s:List Ty):Nat:=(s.map fun t=>t.rels.length).sum
def levF (s:List Ty):Lv:=q6k (q0y s) (q2l s) 70000 (q6b s)
def Shp (lv:Lv) (s:List Ty):Prop:=lv.map List.length=s.map fun t=>t.rels.length
def In (lv:Lv) (p:Nat×Nat):Prop:=∃ l,lv[p.1]?=some l∧p.2<l.length
theorem q9q (s:List Ty):Shp (q6b s) s:=by
 unfold Shp q6b
 rw [List.map_map]
 exact List.map_congr_left fun t ht=>by simp
theorem setL_len {lv:Lv} {p:Nat×Nat} {v:Nat}:(setL lv p v).map List.length=lv.map List.length:=by
 apply List.ext_getElem?
 intro i
 unfold setL
 rw [List.getElem?_map,List.getElem?_map,List.getElem?_set]
 by_cases h:p.1=i
 ·subst h
  simp only [if_true]
  cases hl:lv[p.1]? with
  | none=>
   have:=List.getElem?_eq_none_iff.1 hl
   rw [if_neg (by omega)]
  | some l=>
   have:=(List.getElem?_eq_some_iff.1 hl).1
   rw [if_pos this]
   simp
 ·rw [if_neg h]
theorem shp_set {lv:Lv} {s:List Ty} (h:Shp lv s) (p:Nat×Nat) (v:Nat):Shp (setL lv p v) s:=by
 unfold Shp
 rw [setL_len]
 exact h
theorem in_of {lv:Lv} {s:List Ty} (h:Shp lv s) {i k:Nat} {t:Ty} (ht:s[i]?=some t) (hk:k<t.rels.length):In lv (i,k):=by
 have h1:=congrArg (fun l=>l[i]?) h
 simp only [List.getElem?_map,ht,Option.map_some] at h1
 cases hl:lv[i]? with
 | none=>rw [hl] at h1;cases h1
 | some l=>
  rw [hl] at h1
  simp only [Option.map_some,Option.some.injEq] at h1
  exact ⟨l,hl,by dsimp only;omega⟩
theorem in_set {lv:Lv} {p q:Nat×Nat} {v:Nat} (h:In lv q):In (setL lv p v) q:=by
 obtain ⟨l,h1,h2⟩:=h
 unfold In setL
 rw [List.getElem?_set]
 by_cases hp:p.1=q.1
 ·rw [if_pos hp,if_pos (by have:=(List.getElem?_eq_some_iff.1 h1).1;omega),hp,h1]
  exact ⟨_,rfl,by simpa using h2⟩
 ·rw [if_neg hp];exact ⟨l,h1,h2⟩
theorem getL_set {lv:Lv} {p q:Nat×Nat} {v:Nat} (h:In lv p):getL (setL lv p v) q=if q=p then v else getL lv q:=by
 obtain ⟨l,h1,h2⟩:=h
 have h3:=(List.getElem?_eq_some_iff.1 h1).1
 unfold getL setL
 rw [List.getElem?_set]
 obtain ⟨a,b⟩:=p
 obtain ⟨c,d⟩:=q
 dsimp only at h1 h2 h3 ⊢
 by_cases hac:a=c
 ·subst hac
  rw [if_pos rfl,if_pos h3,h1]
  simp only [Option.getD_some]
  rw [List.getElem?_set]
  by_cases hbd:b=d
  ·subst hbd;simp [h2]
  ·rw [if_neg hbd,if_neg (by rw [Prod.mk.injEq];omega)]
 ·rw [if_neg hac,if_neg (by rw [Prod.mk.injEq];omega)]
def phiR (N:Nat) (l:List Nat):Nat:=(l.map fun v=>min v (N+1)).sum
def phi (N:Nat) (lv:Lv):Nat:=(lv.map (phiR N)).sum
theorem sum_set:∀ {l:List Nat} {i:Nat} {u v:Nat},l[i]?=some u→(l.set i v).sum+u=l.sum+v
 | [],i,u,v,h=>by simp at h
 | x :: l,0,u,v,h=>by simp at h;subst h;simp only [List.set_cons_zero,List.sum_cons];omega
 | x :: l,i+1,u,v,h=>by
  simp at h
  have:=sum_set (v:=v) h
  simp only [List.set_cons_succ,List.sum_cons]
  omega
theorem phi_set {N:Nat} {lv:Lv} {p:Nat×Nat} {v:Nat} (h:In lv p):phi N (setL lv p v)+min (getL lv p) (N+1)=phi N lv+min v (N+1):=by
 obtain ⟨l,h1,h2⟩:=h
 have e1:getL lv p=l[p.2]:=by
  unfold getL
  rw [h1]
  simp [List.getElem?_eq_getElem h2]
 have h3:(l.map fun v=>min v (N+1))[p.2]?=some (min l[p.2] (N+1)):=by simp [List.getElem?_eq_getElem h2]
 have h4:=sum_set (v:=min v (N+1)) h3
 have h5:(lv.map (phiR N))[p.1]?=some (phiR N l):=by rw [List.getElem?_map,h1];rfl
 have h6:=sum_set (v:=phiR N (l.set p.2 v)) h5
 unfold phi setL
 rw [h1,Option.getD_some,List.map_set,e1]
 have h7:phiR N (l.set p.2 v)+min l[p.2] (N+1)=phiR N l+min v (N+1):=by
  unfold phiR
  rw [List.map_set]
  exact h4
 omega
theorem phi_le {N:Nat} {lv:Lv}:phi N lv≤(lv.map List.length).sum * (N+1):=by
 have key:∀ l:List Nat,phiR N l≤l.length * (N+1):=by
  intro l
  induction l with
  | nil=>simp [phiR]
  | cons x l ih=>
   simp only [phiR,List.map_cons,List.sum_cons,List.length_cons,Nat.succ_mul] at ih ⊢
   omega
 induction lv with
 | nil=>simp [phi]
 | cons l lv ih=>
  have:=key l
  simp only [phi,List.map_cons,List.sum_cons,Nat.add_mul] at ih ⊢
  omega
theorem phi_shp {N:Nat} {lv:Lv} {s:List Ty} (h:Shp lv s):phi N lv≤q0y s * (N+1):=by
 have:=phi_le (N:=N) (lv:=lv)
 unfold Shp at h
 rw [h] at this
 exact this
def Bdd (N:Nat) (lv:Lv):Prop:=∀ p,getL lv p≤phi N lv
def RwOk (s:List Ty) (w:List Rw):Prop:=∀ x∈w,∃ t,s[x.1.1]?=some t∧x.1.2<t.rels.length
theorem q6e {N:Nat} {lv:Lv} {n m:Nat×Nat} {o:Bool} (hin:In lv n) (hb:Bdd N lv) (h:getL lv n<getL lv m+o.toNat∧getL lv n≤N) :
  Bdd N (setL lv n (getL lv m+o.toNat))∧phi N lv<phi N (setL lv n (getL lv m+o.toNat)):=by
 have h1:=phi_set (N:=N) (v:=getL lv m+o.toNat) hin
 have h2:phi N lv<phi N (setL lv n (getL lv m+o.toNat)):=by omega
 refine ⟨fun p=>?_,h2⟩
 rw [getL_set hin]
 have ho:o.toNat≤1:=by cases o<;>decide
 split
 ·have:=hb m
  omega
 ·have:=hb p
  omega
theorem q6f {N:Nat} {n:Nat×Nat} {s:List Ty}:∀ {l:List Ln} {a:Lv×Bool},Shp a.1 s→In a.1 n→Bdd N a.1→Shp (q1i N n l a).1 s∧Bdd N (q1i N n l a).1∧phi N a.1≤phi N (q1i N n l a).1∧(a.2=true→(q1i N n l a).2=true)∧(a.2=false→(q1i N n l a).2=true→phi N a.1<phi N (q1i N n l a).1)∧((q1i N n l a).2=false→(q1i N n l a).1=a.1)
 | [],a,h1,h2,h3=>⟨h1,h3,Nat.le_refl _,fun h=>h,fun h h'=>(by rw [show q1i N n [] a=a from rfl,h] at h';cases h'),fun _=>rfl⟩
 | l :: r,a,h1,h2,h3=>by
  unfold q1i
  split
  ·rename_i hc
   obtain ⟨k1,k2⟩:=q6e h2 h3 hc
   obtain ⟨j1,j2,j3,j4,j5,j6⟩:=q6f (l:=r) (a:=(setL a.1 n (getL a.1 l.1+l.2.toNat),true)) (shp_set h1 _ _) (in_set h2) k1
   dsimp only at j3 j4 j5 j6
   exact ⟨j1,j2,by omega,fun _=>j4 rfl,fun _ _=>by omega,fun h=>by rw [j4 rfl] at h;cases h⟩
  ·exact q6f h1 h2 h3
theorem q3x {N:Nat} {s:List Ty}:∀ {w:List Rw} {a:Lv×Bool},RwOk s w→Shp a.1 s→Bdd N a.1→Shp (q1o N w a).1 s∧Bdd N (q1o N w a).1∧phi N a.1≤phi N (q1o N w a).1∧(a.2=true→(q1o N w a).2=true)∧(a.2=false→(q1o N w a).2=true→phi N a.1<phi N (q1o N w a).1)∧((q1o N w a).2=false→(q1o N w a).1=a.1)
 | [],a,_,h1,h3=>⟨h1,h3,Nat.le_refl _,fun h=>h,fun h h'=>(by rw [show q1o N [] a=a from rfl,h] at h';cases h'),fun _=>rfl⟩
 | x :: w,a,hw,h1,h3=>by
  obtain ⟨t,ht,hk⟩:=hw x (by simp)
  obtain ⟨k1,k2,k3,k4,k5,k6⟩:=q6f (N:=N) (n:=x.1) (l:=x.2) h1 (in_of h1 ht hk) h3
  obtain ⟨j1,j2,j3,j4,j5,j6⟩:=q3x (w:=w) (fun y hy=>hw y (List.mem_cons_of_mem _ hy)) k1 k2
  unfold q1o
  refine ⟨j1,j2,by omega,fun h=>j4 (k4 h),fun h h'=>?_,fun h=>?_⟩
  ·cases hr:(q1i N x.1 x.2 a).2 with
   | true=>have:=k5 h hr;omega
   | false=>have:=j5 hr h';omega
  ·have:=j6 h
   rw [this]
   cases hr:(q1i N x.1 x.2 a).2 with
   | true=>rw [j4 hr] at h;cases h
   | false=>exact k6 hr
theorem q83 {N:Nat} {s:List Ty}:Bdd N (q6b s):=fun p=>by
 have:getL (q6b s) p=0:=by
  unfold getL q6b
  rw [List.getElem?_map]
  cases s[p.1]? with
  | none=>simp
  | some t=>
   simp only [Option.map_some,Option.getD_some,List.getElem?_replicate]
   split<;>rfl
 omega
theorem q8k {N:Nat} {s:List Ty} {w:List Rw} (hw:RwOk s w):∀ {f g:Nat} {lv:Lv},Shp lv s→Bdd N lv→q0y s * (N+1)<f+phi N lv→q0y s * (N+1)<g+phi N lv→q6k N w f lv=q6k N w g lv
 | 0,g,lv,h1,h2,h3,_=>by have:=phi_shp (N:=N) h1;omega
 | f+1,0,lv,h1,h2,_,h4=>by have:=phi_shp (N:=N) h1;omega
 | f+1,g+1,lv,h1,h2,h3,h4=>by
  obtain ⟨k1,k2,k3,k4,k5,k6⟩:=q3x (N:=N) (a:=(lv,false)) hw h1 h2
  unfold q6k
  split
  ·rename_i hr
   have:=k5 rfl hr
   exact q8k hw k1 k2 (by dsimp only at this;omega) (by dsimp only at this;omega)
  ·rfl
theorem rowsR_ok {s:List Ty} {i:Nat} {t:Ty} (ht:s[i]?=some t):∀ {l:List Rl} {k:Nat},k+l.length=t.rels.length→∀ x∈q3e s i t.name k l,∃ t,s[x.1.1]?=some t∧x.1.2<t.rels.length
 | [],k,h,x,hx=>by cases hx
 | r :: l,k,h,x,hx=>by
  simp only [q3e,List.mem_cons] at hx
  rcases hx with rfl | hx
  ·exact ⟨t,ht,by simp only [List.length_cons] at h;dsimp only;omega⟩
  ·exact rowsR_ok ht (by simp only [List.length_cons] at h;omega) x hx
theorem rowsT_ok {s:List Ty}:∀ {l:List Ty} {i:Nat},s.drop i=l→∀ x∈q4f s i l,∃ t,s[x.1.1]?=some t∧x.1.2<t.rels.length
 | [],i,h,x,hx=>by cases hx
 | t :: l,i,h,x,hx=>by
  have ht:s[i]?=some t:=by
   have:=List.getElem?_drop (xs:=s) (i:=i) (j:=0)
   rw [h] at this
   simpa using this.symm
  have hd:s.drop (i+1)=l:=by
   have:=q0e ht
   rw [h] at this
   simpa using this.symm
  simp only [q4f,List.mem_append] at hx
  rcases hx with hx | hx
  ·exact rowsR_ok ht (by simp) x hx
  ·exact rowsT_ok hd x hx
theorem q8e (s:List Ty):RwOk s (q2l s):=rowsT_ok (by simp)
theorem rowsR_len {s:List Ty} {i:Nat} {n:ByteArray}:∀ {l:List Rl} {k:Nat},(q3e s i n k l).length=l.length
 | [],k=>rfl
 | r :: l,k=>by simp [q3e,rowsR_len]
theorem rowsT_len {s:List Ty}:∀ {l:List Ty} {i:Nat},(q4f s i l).length=q0y l
 | [],i=>rfl
 | t :: l,i=>by simp [q4f,rowsT_len,rowsR_len,q0y]
theorem rows_len (s:List Ty):(q2l s).length=q0y s:=rowsT_len
def q1w:List Rw→Nat×Nat→Option (List Ln)
 | [],_=>none
 | w :: r,p=>if p=w.1 then some w.2 else q1w r p
def upR:List Rw→Nat×Nat→List Ln→List Rw
 | [],p,l=>[(p,l)]
 | w :: r,p,l=>if p=w.1 then (p,l) :: r else w :: upR r p l
theorem lookR_up {a:List Rw} {p q:Nat×Nat} {l:List Ln}:q1w (upR a p l) q=if q=p then some l else q1w a q:=by
 induction a with
 | nil=>simp [upR,q1w]
 | cons w r ih=>
  unfold upR
  split
  ·rename_i h
   unfold q1w
   subst h
   split<;>rfl
  ·rename_i h
   simp only [q1w,ih]
   by_cases hq:q=w.1
   ·subst hq
    simp [Ne.symm h]
   ·simp [hq]
theorem upR_len {a:List Rw} {p:Nat×Nat} {l:List Ln}:(upR a p l).length=if (q1w a p).isSome then a.length else a.length+1:=by
 induction a with
 | nil=>rfl
 | cons w r ih=>
  unfold upR q1w
  by_cases h:p=w.1
  ·simp [h]
  ·simp only [h,if_false,List.length_cons,ih]
   split<;>rfl
def lnsA (l:List Ln):AV:=.sl 3 (l.map q2z)
def OnM (S0 S:q00) (b:Nat) (a:List Rw):Prop:=Sub S0 S∧KMapL MN q1s S b (fun p=>(q1w a p).map lnsA) a.length
def FoundS (s:List Ty):Prop:=∀ t∈s,∀ r∈t.rels,r.refs.length=0→∀ p∈q0k r.ex false,(q0l s t.name p.1.name).isSome=true
theorem q9o {s:List Ty} (hs:OkS s) (hN:OkN s) (hF:FoundS s) {S:q00} {b1 b2:Nat} (I:IxS S b1 b2 s) {bo:Nat} (hbo:sget S bo=none) {i k:Nat} {t:Ty} {r:Rl} (ht:s[i]?=some t) (hr:t.rels[k]?=some r) {a:List Rw} {S':q00} (hI:OnM S S' bo a) :
  ACalls PG nrx141 [q1s (i,k),.agg (tyC t),.agg (rlC r),.rop [ixP s b1 b2],.rop [.map (some bo)]] S' fun ae S2=>ae=.ret (.int .i64 0)∧OnM S S2 bo (upR a (i,k) (q1p s t.name r)):=by
 have hm:=List.mem_of_getElem? ht
 have hmr:=List.mem_of_getElem? hr
 refine wx141 ?_
 unfold Bx141
 (try simp only [rwp,hwR,zA,zB,zC,zD,zE,zF,zG,zH,zI,q1s,tyC,q0i])
 rw [← q0i]
 refine q1u (c_rules_leans hs hN (I.sub hI.1) ((hs.at ht).at hr) (hN t hm r hmr) (hF t hm r hmr)) ?_
 (try simp only [rwp,hwR,zA,zB,zC,zD,zE,zF,zG,zH,zI])
 refine hI.2.mu ke_node (i,k) fun es clk h=>?_
 refine q02 ⟨rfl,hI.1.supd hbo,h.cong (fun p=>?_) ?_⟩
 ·rw [lookR_up]
  by_cases hp:p=(i,k)
  ·simp only [hp,if_true,Option.map_some];rfl
  ·simp only [hp,if_false]
 ·rw [upR_len]
  simp
structure LvI (s:List Ty) (N:Nat) (w:List Rw) (S0:q00) (bo bf bm:Nat) (a:Lv×Bool) (S:q00):Prop where
 sub:Sub S0 S
 on:KMapL MN q1s S bo (fun p=>(q1w w p).map lnsA) N
 of:∃ o,KMap MN q1s S bf o∧∀ p,q2p false (.int .i64 0) (o p)=.int .i64 (getL a.1 p)
 more:q0j S bm=some (4,[.bool a.2],1)
 shp:Shp a.1 s
 bdd:Bdd N a.1
theorem lookR_none {s:List Ty} {i:Nat} {n:ByteArray}:∀ {l:List Rl} {k m:Nat},m<k→q1w (q3e s i n k l) (i,m)=none
 | [],k,m,h=>rfl
 | r :: l,k,m,h=>by
  unfold q3e q1w
  rw [if_neg (by rw [Prod.mk.injEq];omega)]
  exact lookR_none (by omega)
theorem q6h {s:List Ty} {i j m:Nat} {n:ByteArray} (h:j≠i):∀ {l:List Rl} {k:Nat},q1w (q3e s i n k l) (j,m)=none
 | [],k=>rfl
 | r :: l,k=>by
  unfold q3e q1w
  rw [if_neg (by rw [Prod.mk.injEq];omega)]
  exact q6h h
theorem q5h {a b:List Rw} {p:Nat×Nat}:q1w (a++b) p=match q1w a p with
  | some l=>some l
  | none=>q1w b p:=by
 induction a with
 | nil=>rfl
 | cons w r ih=>
  simp only [List.cons_append,q1w,ih]
  by_cases h:p=w.1<;>simp [h]
theorem lookR_rel {s:List Ty} {i:Nat} {n:ByteArray}:∀ {l:List Rl} {k m:Nat} {r:Rl},l[m]?=some r→q1w (q3e s i n k l) (i,k+m)=some (q1p s n r)
 | [],k,m,r,h=>by simp at h
 | x :: l,k,0,r,h=>by
  simp at h;subst h
  unfold q3e q1w
  simp
 | x :: l,k,m+1,r,h=>by
  simp at h
  unfold q3e q1w
  rw [if_neg (by rw [Prod.mk.injEq];omega)]
  have:=lookR_rel (s:=s) (i:=i) (n:=n) (k:=k+1) h
  rw [show k+(m+1)=k+1+m by omega]
  exact this
theorem lookR_typ {s:List Ty}:∀ {l:List Ty} {j m:Nat} {t:Ty} {k:Nat} {r:Rl},l[m]?=some t→t.rels[k]?=some r→q1w (q4f s j l) (j+m,k)=some (q1p s t.name r)
 | [],j,m,t,k,r,h,_=>by simp at h
 | x :: l,j,0,t,k,r,h,hr=>by
  simp at h;subst h
  unfold q4f
  rw [q5h,Nat.add_zero]
  have:=lookR_rel (s:=s) (i:=j) (n:=x.name) (k:=0) hr
  rw [Nat.zero_add] at this
  rw [this]
 | x :: l,j,m+1,t,k,r,h,hr=>by
  simp at h
  unfold q4f
  rw [q5h,q6h (by omega)]
  have:=lookR_typ (s:=s) (j:=j+1) h hr
  rw [show j+(m+1)=j+1+m by omega]
  exact this
theorem lookR_at {s:List Ty} {i k:Nat} {t:Ty} {r:Rl} (ht:s[i]?=some t) (hr:t.rels[k]?=some r):q1w (q2l s) (i,k)=some (q1p s t.name r):=by
 have:=lookR_typ (s:=s) (j:=0) ht hr
 rw [Nat.zero_add] at this
 exact this
theorem q9n {s:List Ty} {N:Nat} (hN:q0y s≤1000) (hNN:N≤1000) {S0:q00} {bo bf bm:Nat} (d1:bf≠bo) (d2:bm≠bo) (d3:bm≠bf) (hf0:sget S0 bf=none) (hm0:sget S0 bm=none) {i k:Nat} {t:Ty} {r:Rl} (ht:s[i]?=some t) (hr:t.rels[k]?=some r)
  (hlen:(q1p s t.name r).length≤4000000) {a:Lv×Bool} {S:q00} (hI:LvI s N (q2l s) S0 bo bf bm a S) :
  ACalls PG nrx143 [q1s (i,k),.agg (tyC t),.agg (rlC r),.rop [.map (some bo)],.rop [.map (some bf)],.ptr bm 0] S fun ae S2=>ae=.ret (.int .i64 0)∧LvI s N (q2l s) S0 bo bf bm (q1i N (i,k) (q1p s t.name r) a) S2:=by
 refine wx143 ?_
 unfold Bx143
 (try simp only [rwp,hwR,zA,zB,zC,zD,zE,zF,zG,zH,zI,q1s,tyC,q0i])
 rw [hI.on.k.lkn,lookR_at ht hr]
 (try simp only [rwp,hwR,zA,zB,zC,zD,zE,zF,zG,zH,zI,lnsA])
 generalize hL:q1p s t.name r=L at hlen
 refine LoopP.introS (fun p:Nat×Lv×Bool=>[(3,.rop [.map (some bo)]),(4,.rop [.map (some bf)]),(5,.ptr bm 0),(6,.rop [.int .i64 i,.int .i64 k]),(15,.sl 3 (L.map q2z)),(16,.int .i64 L.length),(17,.int .i64 p.1)])
  (fun p S'=>p.1≤L.length∧LvI s N (q2l s) S0 bo bf bm p.2 S'∧q1i N (i,k) (L.drop p.1) p.2=q1i N (i,k) L a) (fun p=>L.length-p.1) (0,a) ⟨by omega,hI,rfl⟩ rfl ?_
 clear hI
 rintro ⟨j,lv,mo⟩ S1 ⟨hj,hI,hra⟩ q hq
 dsimp only at hj hI hra
 (try simp only [rwp,hwR,zA,zB,zC,zD,zE,zF,zG,zH,zI,C143_1])
 (refine q03 (fun hlt=>?_) (fun hlt=>?_)<;>(try simp only [hlc] at hlt))
 ·obtain ⟨l,hl⟩:=q0h hlt
  rw [q0e hl,q1i] at hra
  dsimp only at hra
  obtain ⟨o,hof,hoq⟩:=hI.of
  have hphi:=phi_shp (N:=N) hI.shp
  dsimp only at hphi
  have hM:q0y s * (N+1)≤1000 * 1001:=Nat.mul_le_mul hN (by omega)
  have bd:=fun p=>hI.bdd p
  dsimp only at bd hoq
  have hbl:=bd l.1
  have hbl2:getL lv (l.1.1,l.1.2)≤phi N lv:=bd l.1
  have hin:In lv (i,k):=in_of hI.shp ht (List.getElem?_eq_some_iff.1 hr).1
  (try simp only [rwp,hwR,zA,zB,zC,zD,zE,zF,zG,zH,zI,hl,q2z,q1e])
  rw [hof.lkn,hoq]
  (try simp only [rwp,hwR,zA,zB,zC,zD,zE,zF,zG,zH,zI])
  have low:∀ m:Nat,m=getL lv l.1+l.2.toNat→C143_2 (fun ae S2=>ae=.ret (.int .i64 0)∧LvI s N (q2l s) S0 bo bf bm (q1i N (i,k) L a) S2) q (.rop [.map (some bo)]) (.rop [.map (some bf)]) (.ptr bm 0) (.rop [.int .i64 i,.int .i64 k]) (.int .i64 m) (.sl 3 (L.map q2z)) (.int .i64 L.length) (.int .i64 j) S1:=by
   intro m hm
   unfold C143_2
   rw [← hm] at hra
   (try simp only [rwp,hwR,zA,zB,zC,zD,zE,zF,zG,zH,zI])
   rw [hof.lkn,hoq]
   (try simp only [rwp,hwR,zA,zB,zC,zD,zE,zF,zG,zH,zI])
   have keep:¬ (getL lv (i,k)<m∧getL lv (i,k)≤N)→q [(3,.rop [.map (some bo)]),(4,.rop [.map (some bf)]),(5,.ptr bm 0),(6,.rop [.int .i64 i,.int .i64 k]),(15,.sl 3 (L.map q2z)),(16,.int .i64 L.length),(17,.int .i64 ((j:Int)+1))] S1:=fun h=>by
    rw [if_neg h] at hra
    exact hq (j+1,lv,mo) S1 ⟨by dsimp only;omega,hI,hra⟩ (by dsimp only;omega)
   (refine q1m (fun hg=>?_) (fun hg=>?_)<;>(try simp only [rwp,hwR,zA,zB,zC,zD,zE,zF,zG,zH,zI,hg]))
   ·have h1:getL lv (i,k)<m:=by simpa using hg
    rw [hof.lkn,hoq,hI.on.ln]
    (try simp only [rwp,hwR,zA,zB,zC,zD,zE,zF,zG,zH,zI,C143_3])
    (refine q03 (fun h2=>?_) (fun h2=>?_)<;>(try simp only [hlc] at h2))
    ·have h3:getL lv (i,k)<m∧getL lv (i,k)≤N:=⟨h1,by omega⟩
     rw [if_pos h3] at hra
     rw [hm] at h3
     obtain ⟨k1,k2⟩:=q6e (N:=N) (m:=l.1) (o:=l.2) hin hI.bdd h3
     rw [← hm] at k1 k2
     refine hof.mu ke_node (i,k) fun es clk h4=>?_
     have h5:q0j (supd S1 bf (.map MN es clk)) bm=some (4,[.bool mo],1):=by rw [q0n (Ne.symm d3)];exact hI.more
     (try simp only [rwp,hwR,zA,zB,zC,zD,zE,zF,zG,zH,zI,h5])
     (simp (disch:=omega) only [q04])
     refine q08 rfl (hq (j+1,setL lv (i,k) m,true) _ ⟨by dsimp only;omega,⟨(hI.sub.supd hf0).supd hm0,(hI.on.upd d1 _).upd d2 _,⟨_,h4.upd d3 _,fun p=>?_⟩,q0m,shp_set hI.shp _ _,k1⟩,hra⟩ (by dsimp only;omega))
     dsimp only
     rw [getL_set hin]
     by_cases hp:p=(i,k)
     ·simp only [hp,if_true];rfl
     ·simp only [hp,if_false];exact hoq p
    ·(simp (disch:=omega) only [q04])
     exact q08 rfl (keep (fun h=>h2 (by omega)))
   ·have h1:¬ getL lv (i,k)<m:=by simpa using hg
    (try simp only [rwp,hwR,zA,zB,zC,zD,zE,zF,zG,zH,zI,C143_3])
    (simp (disch:=omega) only [q04])
    exact q08 rfl (keep (fun h=>h1 h.1))
  cases ho:l.2 with
  | true=>
   (try simp only [rwp,hwR,zA,zB,zC,zD,zE,zF,zG,zH,zI])
   rw [q04 (by omega) (by omega)]
   exact low (getL lv l.1+1) (by rw [ho];rfl)
  | false=>
   (try simp only [rwp,hwR,zA,zB,zC,zD,zE,zF,zG,zH,zI])
   exact low (getL lv l.1) (by rw [ho];rfl)
 ·rw [q0u hlt] at hra
  refine q02 ⟨rfl,?_⟩
  rw [← hra]
  exact hI
theorem eachR_fold {α:Type} {s:List Ty} {i:Nat} {n:ByteArray} {f:α→Nat→Rl→Int×α} {g:Rw→α→α} (hg:∀ a k r,f a k r=(0,g ((i,k),q1p s n r) a)):∀ {l:List Rl} {k:Nat} {a:α},q31 f k l a=(none,(q3e s i n k l).foldl (fun a w=>g w a) a)
 | [],k,a=>rfl
 | r :: l,k,a=>by
  simp only [q31,q3e,List.foldl_cons,hg,if_true]
  exact eachR_fold hg
theorem q8p {α:Type} {s:List Ty} {f:α→Nat→Nat→Ty→Rl→Int×α} {g:Rw→α→α} (hg:∀ a i k t r,f a i k t r=(0,g ((i,k),q1p s t.name r) a)):∀ {l:List Ty} {i:Nat} {a:α},q30 f i l a=(none,(q4f s i l).foldl (fun a w=>g w a) a)
 | [],i,a=>rfl
 | t :: l,i,a=>by
  unfold q30
  rw [eachR_fold (s:=s) (i:=i) (n:=t.name) (g:=g) (fun a k r=>hg a i k t r)]
  simp only [q4f,List.foldl_append]
  exact q8p hg
theorem roundF_fold {N:Nat}:∀ {w:List Rw} {a:Lv×Bool},w.foldl (fun a x=>q1i N x.1 x.2 a) a=q1o N w a
 | [],a=>rfl
 | x :: w,a=>roundF_fold (w:=w)
def upAll (w:List Rw) (a:List Rw):List Rw:=w.foldl (fun a x=>upR a x.1 x.2) a
theorem upR_new {a:List Rw} {p:Nat×Nat} {l:List Ln} (h:q1w a p=none):upR a p l=a++[(p,l)]:=by
 induction a with
 | nil=>rfl
 | cons w r ih=>
  unfold q1w at h
  split at h
  ·cases h
  ·unfold upR
   rw [if_neg ‹_›,ih h]
   rfl
def nodupR:List Rw→Prop
 | []=>True
 | w :: r=>q1w r w.1=none∧nodupR r
theorem lookR_snoc {a:List Rw} {p:Nat×Nat} {w:Rw} (h:q1w a p=none) (hp:p≠w.1):q1w (a++[w]) p=none:=by
 rw [q5h,h]
 simp [q1w,hp]
theorem upAll_app:∀ {w:List Rw} {a:List Rw},nodupR w→(∀ x∈w,q1w a x.1=none)→upAll w a=a++w
 | [],a,_,_=>by simp [upAll]
 | x :: w,a,hd,h=>by
  have h1:=upR_new (l:=x.2) (h x (by simp))
  have ih:=upAll_app (w:=w) (a:=a++[x]) hd.2 fun y hy=>lookR_snoc (h y (List.mem_cons_of_mem _ hy)) fun e=>by
   have h2:=hd.1
   have:∀ {r:List Rw} {y:Rw},y∈r→q1w r y.1≠none:=by
    intro r y hy
    induction r with
    | nil=>cases hy
    | cons z r ih=>
     unfold q1w
     split
     ·simp
     ·rename_i hne
      rcases List.mem_cons.1 hy with rfl | hy
      ·exact absurd rfl hne
      ·exact ih hy
   exact this hy (by rw [e];exact h2)
  simp only [upAll,List.foldl_cons] at ih ⊢
  rw [h1,ih,List.append_assoc]
  rfl
theorem nodup_app {a b:List Rw} (ha:nodupR a) (hb:nodupR b) (h:∀ x∈a,q1w b x.1=none):nodupR (a++b):=by
 induction a with
 | nil=>exact hb
 | cons x a ih=>
  refine ⟨?_,ih ha.2 fun y hy=>h y (List.mem_cons_of_mem _ hy)⟩
  show q1w (a++b) x.1=none
  rw [q5h,ha.1]
  exact h x (by simp)
theorem rowsR_key {s:List Ty} {i:Nat} {n:ByteArray}:∀ {l:List Rl} {k:Nat} {x:Rw},x∈q3e s i n k l→x.1.1=i
 | [],k,x,h=>by cases h
 | r :: l,k,x,h=>by
  simp only [q3e,List.mem_cons] at h
  rcases h with rfl | h
  ·rfl
  ·exact rowsR_key h
theorem lookT_less {s:List Ty}:∀ {l:List Ty} {i:Nat} {p:Nat×Nat},p.1<i→q1w (q4f s i l) p=none
 | [],i,p,h=>rfl
 | t :: l,i,(a,b),h=>by
  unfold q4f
  rw [q5h,q6h (by dsimp only at h;omega)]
  exact lookT_less (by dsimp only at h ⊢;omega)
theorem nodup_R {s:List Ty} {i:Nat} {n:ByteArray}:∀ {l:List Rl} {k:Nat},nodupR (q3e s i n k l)
 | [],k=>trivial
 | r :: l,k=>⟨lookR_none (by omega),nodup_R⟩
theorem nodup_T {s:List Ty}:∀ {l:List Ty} {i:Nat},nodupR (q4f s i l)
 | [],i=>trivial
 | t :: l,i=>nodup_app nodup_R nodup_T fun x hx=>lookT_less (by have:=rowsR_key hx;omega)
theorem rows_all (s:List Ty):upAll (q2l s) []=q2l s:=upAll_app nodup_T fun _ _=>rfl
theorem leans_len {s:List Ty} (hN:OkN s) {t:ByteArray} {r:Rl} (hr:rsz r≤1000):(q1p s t r).length≤4000000:=by
 unfold q1p
 unfold rsz at hr
 split
 ·have h1:=q5y r.ex false
  have h2:=flat_le (f:=fun p:Ex×Bool=>q6i s t p.1 p.2) (n:=1001) (fun _=>leafF_le hN) (l:=q0k r.ex false)
  omega
 ·have:=List.length_filterMap_le (q1y s) r.refs
  omega
theorem c_rules_levels {s:List Ty} (hs:OkS s) (hN:OkN s) (hF:FoundS s) (hM:q0y s≤256) {S:q00} {b1 b2:Nat} (I:IxS S b1 b2 s) :
  ACalls PG nrx93 [ixP s b1 b2] S fun ae S'=>∃ bf o,ae=.ret (.tup [.map (some bf),.int .i64 (q0y s)])∧KMap MN q1s S' bf o∧(∀ p,q2p false (.int .i64 0) (o p)=.int .i64 (getL (levF s) p))∧Sub S S':=by
 refine wx93 ?_
 unfold Bx93
 (try simp only [rwp,hwR,zA,zB,zC,zD,zE,zF,zG,zH,zI])
 refine KMap.mm (enc:=q1s) fun bf hbf kf=>?_
 have hsf:Sub S (supd S bf (.map MN [] 0)):=Sub.fresh _ hbf
 have I:=I.sub hsf
 generalize supd S bf (.map MN [] 0)=Sf at kf hsf I ⊢
 refine KMapL.mm (enc:=q1s) fun bo hbo ko=>?_
 have d1:bf≠bo:=fun e=>kf.is (e ▸ hbo)
 have hs1:Sub Sf (supd Sf bo (.map MN [] 0)):=Sub.fresh _ hbo
 generalize supd Sf bo (.map MN [] 0)=S1 at ko hs1 ⊢
 refine alst2 rfl rfl rfl rfl rfl rfl ?_
 (try simp only [rwp,hwR,zA,zB,zC,zD,zE,zF,zG,zH,zI])
 have h1:=q5q (b1:=b1) (b2:=b2) (g:=nrx141) (fi:=[]) (ca:=[.rop [ixP s b1 b2],.rop [.map (some bo)]]) (fun (a:List Rw) S'=>OnM Sf S' bo a) (fun a i k t r=>(0,upR a (i,k) (q1p s t.name r))) hs
  (fun i k t r a S' ht hr hI=>q9o hs hN hF I hbo ht hr hI) [] S1 ⟨hs1,ko⟩
 have e1:q30 (fun (a:List Rw) i k t r=>((0:Int),upR a (i,k) (q1p s t.name r))) 0 s []=(none,q2l s):=by
  rw [q8p (s:=s) (g:=fun w a=>upR a w.1 w.2) (fun a i k t r=>rfl)]
  exact congrArg (Prod.mk none) (rows_all s)
 rw [e1] at h1
 refine q0b h1 ?_
 rintro _ S2 ⟨rfl,hs2,ko⟩
 clear h1 e1 hs1
 dsimp only
 have ko:KMapL MN q1s S2 bo (fun p=>(q1w (q2l s) p).map lnsA) (q0y s):=ko.cong (fun _=>rfl) (rows_len s)
 have kf:=kf.sub hs2
 have hs3:=hsf.trans hs2
 intro bm hbm
 have m1:bm≠bo:=fun e=>ko.k.is (e ▸ hbm)
 have m2:bm≠bf:=fun e=>kf.is (e ▸ hbm)
 (try simp only [rwp,hwR,zA,zB,zC,zD,zE,zF,zG,zH,zI])
 have hphi0:∀ lv,Shp lv s→phi (q0y s) lv≤q0y s * (q0y s+1):=fun lv h=>phi_shp h
 have hMM:q0y s * (q0y s+1)≤256 * 257:=Nat.mul_le_mul hM (by omega)
 refine LoopP.introS (fun p:Nat×Lv×Bool=>[(1,.rop [ixP s b1 b2]),(4,.rop [.map (some bf)]),(5,.rop [.map (some bo)]),(6,.ptr p.1 0)])
  (fun p S'=>sget S p.1=none∧p.1≠bo∧p.1≠bf∧LvI s (q0y s) (q2l s) S bo bf p.1 p.2 S'∧(p.2.2=true→∀ F,q0y s * (q0y s+1)<F+phi (q0y s) p.2.1→q6k (q0y s) (q2l s) F p.2.1=levF s)∧(p.2.2=false→p.2.1=levF s))
  (fun p=>2 * (q0y s * (q0y s+1)-phi (q0y s) p.2.1)+p.2.2.toNat) (bm,q6b s,true)
  ⟨Sub.none hs3 hbm,m1,m2,⟨hs3.supd (Sub.none hs3 hbm),ko.fresh hbm _,⟨_,kf.fresh hbm _,fun p=>?_⟩,q0m,q9q s,q83⟩,fun _ F hF2=>q8k (q8e s) (q9q s) q83 hF2 (by omega),fun h=>by cases h⟩ rfl ?_
 ·have h0:getL (q6b s) p=0:=by
   have:=q83 (N:=0) (s:=s) p
   unfold getL q6b
   rw [List.getElem?_map]
   cases s[p.1]? with
   | none=>simp
   | some t=>
    simp only [Option.map_some,Option.getD_some,List.getElem?_replicate]
    split<;>rfl
  rw [h0]
  rfl
 rintro ⟨cm,lv,mo⟩ S3 ⟨hcm,m1,m2,hI,hy,hn⟩ q hq
 dsimp only at hcm m1 m2 hI hy hn
 (try simp only [rwp,hwR,zA,zB,zC,zD,zE,zF,zG,zH,zI,C93_1,q07 hI.more])
 cases mo with
 | false=>
  (try simp only [rwp,hwR,zA,zB,zC,zD,zE,zF,zG,zH,zI])
  obtain ⟨o,ho1,ho2⟩:=hI.of
  rw [hI.on.ln]
  refine rtW_two ⟨bf,o,rfl,ho1,fun p=>?_,hI.sub⟩
  rw [ho2,hn rfl]
 | true=>
  (try simp only [rwp,hwR,zA,zB,zC,zD,zE,zF,zG,zH,zI,hI.more])
  have hI2:LvI s (q0y s) (q2l s) S bo bf cm (lv,false) (supd S3 cm (.cells 4 [.bool false] 1)):=by
   obtain ⟨o,ho1,ho2⟩:=hI.of
   exact ⟨hI.sub.supd hcm,hI.on.upd m1 _,⟨o,ho1.upd m2 _,ho2⟩,q0m,hI.shp,hI.bdd⟩
  have h2:=q5q (b1:=b1) (b2:=b2) (g:=nrx143) (fi:=[]) (ca:=[.rop [.map (some bo)],.rop [.map (some bf)],.ptr cm 0]) (fun (a:Lv×Bool) S'=>LvI s (q0y s) (q2l s) S bo bf cm a S') (fun a i k t r=>(0,q1i (q0y s) (i,k) (q1p s t.name r) a)) hs
   (fun i k t r a S' ht hr hI=>q9n (by omega) (by omega) d1 m1 m2 hbf hcm ht hr (leans_len hN (hN t (List.mem_of_getElem? ht) r (List.mem_of_getElem? hr))) hI) (lv,false) _ hI2
  have e2:q30 (fun (a:Lv×Bool) i k t r=>((0:Int),q1i (q0y s) (i,k) (q1p s t.name r) a)) 0 s (lv,false)=(none,q1o (q0y s) (q2l s) (lv,false)):=by
   rw [q8p (s:=s) (g:=fun w a=>q1i (q0y s) w.1 w.2 a) (fun a i k t r=>rfl)]
   exact congrArg (Prod.mk none) roundF_fold
  rw [e2] at h2
  refine q0b h2 ?_
  rintro _ S4 ⟨rfl,hI3⟩
  obtain ⟨k1,k2,k3,k4,k5,k6⟩:=q3x (N:=q0y s) (a:=(lv,false)) (q8e s) hI2.shp hI2.bdd
  generalize hR:q1o (q0y s) (q2l s) (lv,false)=R at hI3 k1 k2 k3 k4 k5 k6
  obtain ⟨lv2,mo2⟩:=R
  dsimp only at hI3 k1 k2 k3 k4 k5 k6
  (try simp only [rwp,hwR,zA,zB,zC,zD,zE,zF,zG,zH,zI,q07 hI3.more])
  intro dm hdm
  have hdm':=Sub.none hI3.sub hdm
  have n1:dm≠bo:=fun e=>hI3.on.k.is (e ▸ hdm)
  have n2:dm≠bf:=fun e=>by
   obtain ⟨o,ho1,-⟩:=hI3.of
   exact ho1.is (e ▸ hdm)
  (try simp only [rwp,hwR,zA,zB,zC,zD,zE,zF,zG,zH,zI])
  have hi:=fun F=>show q6k (q0y s) (q2l s) (F+1) lv=if mo2=true then q6k (q0y s) (q2l s) F lv2 else lv2 by rw [q6k,hR]
  have hp1:=hphi0 lv hI.shp
  have hp2:=hphi0 lv2 k1
  refine q08 rfl (hq (dm,lv2,mo2) _ ⟨hdm',n1,n2,?_,fun h F hF2=>?_,fun h=>?_⟩ ?_)
  ·obtain ⟨o,ho1,ho2⟩:=hI3.of
   exact ⟨hI3.sub.supd hdm',hI3.on.fresh hdm _,⟨o,ho1.fresh hdm _,ho2⟩,q0m,k1,k2⟩
  ·dsimp only at h hF2 ⊢
   subst h
   have:=k5 rfl rfl
   have h3:=hy rfl (q0y s * (q0y s+1)+1+1) (by omega)
   rw [hi,if_pos rfl] at h3
   exact (q8k (q8e s) k1 k2 hF2 (by omega)).trans h3
  ·dsimp only at h ⊢
   subst h
   have h3:=hy rfl (q0y s * (q0y s+1)+1+1) (by omega)
   rw [hi,if_neg (by simp)] at h3
   exact h3
  ·dsimp only
   cases mo2 with
   | false=>simp only [Bool.toNat_false,Bool.toNat_true];omega
   | true=>have:=k5 rfl rfl;omega
set_option maxRecDepth 4000
def q2o (bs:List Nat) (lv:Lv):List (List AV):=List.zipWith (fun b (l:List Nat)=>[AV.own b 0 l.length l.length]) bs lv
structure LvO (S0 S:q00) (v:AV) (bs:List Nat) (lv:Lv):Prop where
 sub:Sub S0 S
 len:bs.length=lv.length
 lst:LstN S0 S 174 1 v (q2o bs lv)
 inn:∀ (i b:Nat) (l:List Nat),bs[i]?=some b→lv[i]?=some l→q0j S b=some (3,l.map iv,l.length)∧sget S0 b=none∧q0x v b
 nod:bs.Nodup
def lvC (lv:Lv):List (List AV):=lv.map fun l=>[.sl 1 (l.map fun x=>[iv x])]
theorem flat_one {l:List Nat}:(l.map fun x=>[iv x]).flatten=l.map iv:=by
 induction l with
 | nil=>rfl
 | cons x l ih=>simp [ih]
theorem q5x {bs:List Nat} {lv:Lv} {i:Nat}:(q2o bs lv)[i]?=match bs[i]?,lv[i]? with
  | some b,some l=>some [.own b 0 l.length l.length]
  | _,_=>none:=by
 unfold q2o
 rw [List.getElem?_zipWith]
 cases bs[i]?<;>cases lv[i]?<;>rfl
theorem ShV.lv {S0 S:q00} {v:AV} {bs:List Nat} {lv:Lv} (h:LvO S0 S v bs lv):ShV v S (.sl 1 (lvC lv)) S0:=by
 obtain ⟨hs,hlen,⟨hr,hl⟩,hin,hnd⟩:=h
 have hrl:(q2o bs lv).length=lv.length:=by simp [q2o,hlen]
 rcases hl with ⟨rfl,h0⟩ | ⟨b,cap,rfl,h1,h2,h3,h4,h5⟩
 ·intro R w u hS hv
  have:lv=[]:=by
   rw [h0] at hrl
   exact List.length_eq_zero_iff.1 hrl.symm
  subst this
  refine ⟨R,hS.sub hs,?_,(Step.refl _ _ _).sub hs⟩
  cases hv
  exact .sl0 _ _ _
 ·intro R w u hS hv
  have hs1:=hS.sub hs
  let R':Nat→Prop:=fun k=>R k∨k=b∨k∈bs
  have hRR:∀ k,R k→R' k:=fun k h=>.inl h
  have hbn:∀ k∈bs,sget S0 k=none∧k<w.heap.size:=fun k hk=>by
   obtain ⟨i,hi⟩:=List.getElem?_of_mem hk
   have hi2:=(List.getElem?_eq_some_iff.1 hi).1
   obtain ⟨o1,o2,o3⟩:=hin i k lv[i] hi (List.getElem?_eq_getElem (by omega))
   exact ⟨o2,hS.lt (objAt_some.1 o1)⟩
  refine ⟨R',⟨fun c o hc=>?_,fun c hc=>?_⟩,?_,⟨Nat.le_refl _,rfl,rfl,rfl,fun k _ hk=>⟨rfl,Sub.none hs hk⟩,hRR,fun k hk=>?_⟩⟩
  ·obtain ⟨y,k1,k2⟩:=hs1.own c o hc
   exact ⟨y,k1,k2.step hRR (fun k hk=>rfl)⟩
  ·rcases hc with hc | rfl | hc
   ·exact hs1.ro c hc
   ·exact ⟨h1,hS.lt h2⟩
   ·exact hbn c hc
  ·cases hv
   obtain ⟨x,hx,hro⟩:=hS.own b _ h2
   obtain ⟨vs,hvs,hcell⟩:=cell_at hx hro
   have hfl:=q25 hr
   rw [hrl] at *
   refine .sl 1 (lvC lv) ⟨b,0,none⟩ lv.length cap (fun i j=>vs.getD (i * 1+j) undef) (by simp [lvC]) h3 (.inr (.inl rfl)) (fun i cs h=>?_) (fun i j hi hj=>?_) (fun i j cs u h1' h2'=>?_)
   ·simp only [lvC,List.getElem?_map] at h
    cases hli:lv[i]? with
    | none=>rw [hli] at h;cases h
    | some l=>rw [hli] at h;cases h;rfl
   ·rw [q4g,Nat.zero_add]
    exact hcell _ (by rw [hfl];omega)
   ·simp only [lvC,List.getElem?_map] at h1'
    cases hli:lv[i]? with
    | none=>rw [hli] at h1';cases h1'
    | some l=>
     rw [hli] at h1'
     cases h1'
     have hil:=(List.getElem?_eq_some_iff.1 hli).1
     have hbi:bs[i]?=some bs[i]:=List.getElem?_eq_getElem (by omega)
     cases j with
     | succ j=>simp at h2'
     | zero=>
      simp at h2'
      subst h2'
      obtain ⟨o1,o2,o3⟩:=hin i _ l hbi hli
      have hrow:(q2o bs lv)[i]?=some [.own bs[i] 0 l.length l.length]:=by rw [q5x,hbi,hli]
      have hval:=hvs.2 (i * 1+0) (.own bs[i] 0 l.length l.length) (q7j hr hrow rfl)
      refine row_rv (rows:=l.map fun x=>[iv x]) (cap:=l.length) (t:=3) hS ?_ (fun r hr=>?_) (by simp) hRR (.inr (.inr (List.mem_of_getElem? hbi))) (by simpa using hval)
      ·rw [flat_one,Nat.mul_one];exact objAt_some.1 o1
      ·obtain ⟨x,-,rfl⟩:=List.mem_map.1 hr;rfl
  ·rcases hk with hk | rfl | hk
   ·exact .inl hk
   ·exact .inr (.inl (by rw [h2];simp))
   ·obtain ⟨i,hi⟩:=List.getElem?_of_mem hk
    have hi2:=(List.getElem?_eq_some_iff.1 hi).1
    obtain ⟨o1,-,-⟩:=hin i k lv[i] hi (List.getElem?_eq_getElem (by omega))
    exact .inr (.inl (objAt_is o1))
theorem eachR_none {α:Type} {f:α→Nat→Rl→Int×α} {g:Nat→Rl→Int} (hg:∀ a k r,(f a k r).1=g k r):∀ {l:List Rl} {k:Nat} {a:α},(q31 f k l a).1=none→∀ (m:Nat) (r:Rl),l[m]?=some r→g (k+m) r=0
 | [],k,a,h,m,r,hr=>by simp at hr
 | x :: l,k,a,h,m,r,hr=>by
  unfold q31 at h
  split at h
  ·rename_i h0
   rw [hg] at h0
   cases m with
   | zero=>simp at hr;subst hr;exact h0
   | succ m=>
    simp at hr
    have:=eachR_none hg h m r hr
    rw [show k+(m+1)=k+1+m by omega]
    exact this
  ·cases h
theorem eachT_none {α:Type} {f:α→Nat→Nat→Ty→Rl→Int×α} {g:Nat→Nat→Ty→Rl→Int} (hg:∀ a i k t r,(f a i k t r).1=g i k t r):∀ {l:List Ty} {i:Nat} {a:α},(q30 f i l a).1=none→∀ (m:Nat) (t:Ty) (k:Nat) (r:Rl),l[m]?=some t→t.rels[k]?=some r→g (i+m) k t r=0
 | [],i,a,h,m,t,k,r,ht,_=>by simp at ht
 | x :: l,i,a,h,m,t,k,r,ht,hr=>by
  unfold q30 at h
  split at h
  ·cases h
  ·rename_i a' hq
   cases m with
   | zero=>
    simp at ht;subst ht
    have:=eachR_none (g:=fun k r=>g i k x r) (fun a k r=>hg a i k x r) (k:=0) (a:=a) (by rw [hq]) k r hr
    simpa using this
   | succ m=>
    simp at ht
    have:=eachT_none hg h m t k r ht hr
    rw [show i+(m+1)=i+1+m by omega]
    exact this
theorem eachF_none {s:List Ty} {f:Nat→Nat→Ty→Rl→Int} (h:q36 s f=none) {i k:Nat} {t:Ty} {r:Rl} (ht:s[i]?=some t) (hr:t.rels[k]?=some r):f i k t r=0:=by
 have:=eachT_none (f:=fun (_:Unit) i k t r=>(f i k t r,())) (g:=f) (fun _ _ _ _ _=>rfl) h i t k r ht hr
 simpa using this
structure GoodS (s:List Ty):Prop where
 some:s.length≠0
 may:scB s=true
 size:szF s=flA 0 0 0
 once:∀ {i k:Nat} {t:Ty} {r:Rl},s[i]?=.some t→t.rels[k]?=.some r→fiN s t.name r.name=(i,k)
 name:∀ {i k:Nat} {t:Ty} {r:Rl},s[i]?=.some t→t.rels[k]?=.some r→q1l s t.name r=0
theorem q28 {a b c:Int}:errA (flA a b c)=c:=rfl
theorem szF_ok {s:List Ty} (h:errA (szF s)=0):szF s=flA 0 0 0∧s.length≤16∧(∀ t∈s,t.rels.length≤16)∧dupI [] s=none:=by
 unfold szF at h ⊢
 split at h
 ·rw [q28] at h;omega
 ·rename_i h1
  rw [if_neg h1]
  split at h
  ·rw [q28] at h;omega
  ·rename_i h2
   split at h
   ·rw [q28] at h;omega
   ·rename_i h3
    refine ⟨rfl,by omega,fun t ht=>?_,by first | rfl | assumption⟩
    obtain ⟨i,hi⟩:=List.getElem?_of_mem ht
    have:=firstI_none.1 h2 i t hi
    simp only [decide_eq_false_iff_not] at this
    omega
theorem q8g {s:List Ty} (h:errA (q2n s)=0):GoodS s:=by
 unfold q2n at h
 split at h
 ·rw [q28] at h;omega
 ·rename_i h1
  split at h
  ·rename_i h2;exact absurd h h2
  ·rename_i h2
   have h2:errA (szF s)=0:=by omega
   split at h
   ·rename_i i k e hq
    have:=eachF_err hq
    rw [q28] at h
    exact absurd h this
   ·rename_i hq
    have hn:q36 s (fun _ _ t r=>q1l s t.name r)=none:=by
     cases hq2:q36 s (fun _ _ t r=>q1l s t.name r) with
     | none=>rfl
     | some q=>
      obtain ⟨i,k,e⟩:=q
      have:=eachF_err hq2
      rw [hq2] at h
      exact absurd h this
    refine ⟨fun h=>h1 (.inl h),?_,(szF_ok h2).1,fun ht hr=>?_,fun ht hr=>eachF_none hn ht hr⟩
    ·cases hb:scB s with
     | true=>rfl
     | false=>exact absurd (.inr hb) h1
    ·have:=eachF_none hq ht hr
     unfold q52 at this
     split at this
     ·assumption
     ·omega
theorem firstZ_zero {f:Ex→Int}:∀ {l:List (Ex×Bool)},q32 f l=0→∀ p∈l,f p.1=0
 | [],h,p,hp=>by cases hp
 | (e,o) :: r,h,p,hp=>by
  unfold q32 at h
  split at h
  ·rename_i h0
   rcases List.mem_cons.1 hp with rfl | hp
   ·exact h0
   ·exact firstZ_zero h p hp
  ·rename_i h0;exact absurd h h0
theorem GoodS.found {s:List Ty} (h:GoodS s):FoundS s:=by
 intro t ht r hr h0 p hp
 obtain ⟨i,hi⟩:=List.getElem?_of_mem ht
 obtain ⟨k,hk⟩:=List.getElem?_of_mem hr
 have:=h.name hi hk
 unfold q1l at this
 split at this
 ·try rw [if_pos h0] at this
  have h2:=firstZ_zero this p hp
  unfold q4q at h2
  split at h2
  ·omega
  ·rename_i q hq;rw [hq];rfl
 ·omega
theorem GoodS.sizes {s:List Ty} (h:GoodS s):s.length≤16∧(∀ t∈s,t.rels.length≤16)∧dupI [] s=none:=(szF_ok (by rw [h.size];rfl)).2
theorem manyF_le {s:List Ty} (h1:s.length≤16) (h2:∀ t∈s,t.rels.length≤16):q0y s≤256:=by
 have key:∀ l:List Ty,(∀ t∈l,t.rels.length≤16)→q0y l≤l.length * 16:=by
  intro l
  induction l with
  | nil=>intro _;simp [q0y]
  | cons t l ih=>
   intro h
   have:=ih fun u hu=>h u (List.mem_cons_of_mem _ hu)
   have:=h t (by simp)
   simp only [q0y,List.map_cons,List.sum_cons,List.length_cons] at *
   omega
 have:=key s h2
 omega
theorem GoodS.many {s:List Ty} (h:GoodS s):q0y s≤256:=manyF_le h.sizes.1 h.sizes.2.1
def cycF (s:List Ty) (i k:Nat) (_:Ty) (_:Rl):Int:=if q0y s<getL (levF s) (i,k) then 11 else 0
def chkF (s:List Ty):AV:=if errA (q2n s)≠0 then q2n s else flO (q36 s (cycF s))
theorem plainF_fl (s:List Ty):∃ t r e,q2n s=flA t r e:=by
 unfold q2n
 split
 ·exact ⟨_,_,_,rfl⟩
 ·split
  ·exact szF_fl s
  ·split
   ·exact ⟨_,_,_,rfl⟩
   ·cases q36 s (fun _ _ t r=>q1l s t.name r) with
    | none=>exact ⟨_,_,_,rfl⟩
    | some q=>exact ⟨_,_,_,rfl⟩
theorem c_rules_Check_1 {s:List Ty} {S:q00} {bf:Nat} {o:Nat×Nat→Option AV} (h1:KMap MN q1s S bf o) (h2:∀ p,q2p false (.int .i64 0) (o p)=.int .i64 (getL (levF s) p)) {i k:Nat} {t:Ty} {r:Rl} :
  AFunS PG nrx95 [q1s (i,k),.agg (tyC t),.agg (rlC r),.rop [.map (.some bf)],.rop [.int .i64 (q0y s)]] S (.int .i64 (cycF s i k t r)):=by
 refine wx95 ?_
 unfold Bx95
 (try simp only [rwp,hwR,zA,zB,zC,zD,zE,zF,zG,zH,zI,q1s,tyC,q0i])
 rw [h1.lkn,h2]
 (try simp only [rwp,hwR,zA,zB,zC,zD,zE,zF,zG,zH,zI])
 (refine q03 (fun h=>?_) (fun h=>?_)<;>(try simp only [hlc] at h))
 ·exact q02 ⟨by rw [cycF,if_pos (by omega)],rfl⟩
 ·exact q02 ⟨by rw [cycF,if_neg (by omega)],rfl⟩
theorem q7u {s:List Ty} (hs:OkS s) (hN:OkN s):AFun PG nrx47 [scA s] (chkF s):=by
 intro S
 refine wx47 ?_
 unfold Bx47
 (try simp only [rwp,hwR,zA,zB,zC,zD,zE,zF,zG,zH,zI,scA])
 intro b hb
 (try simp only [rwp,hwR,zA,zB,zC,zD,zE,zF,zG,zH,zI])
 refine q0b (q5p hs _) ?_
 rintro _ S1 ⟨b1,b2,rfl,I,hsub⟩
 have hsb:=objAt_some.2 (hsub b _ (by rw [q01,if_pos rfl]))
 have hS1:Sub S S1:=(Sub.fresh _ hb).trans hsub
 dsimp only
 refine q1u (c_rules_plain hs hN I) ?_
 obtain ⟨ft,fr,fe,hp⟩:=plainF_fl s
 rw [hp]
 (try simp only [rwp,hwR,zA,zB,zC,zD,zE,zF,zG,zH,zI,flA])
 (refine q03 (fun h0=>?_) (fun h0=>?_)<;>(try simp only [hlc] at h0))
 ·(try simp only [rwp,hwR,zA,zB,zC,zD,zE,zF,zG,zH,zI,hsb])
  refine q17 S (hS1.supd hb) ?_
  (try simp only [rwp,hwR,zA,zB,zC,zD,zE,zF,zG,zH,zI])
  rw [chkF,hp,q28,if_pos h0];rfl
 ·have hgood:GoodS s:=q8g (by rw [hp,q28];omega)
  refine q0b (c_rules_levels hs hN hgood.found hgood.many I) ?_
  rintro _ S2 ⟨bf,o,rfl,hm,ho,hsub2⟩
  (try simp only [rwp,hwR,zA,zB,zC,zD,zE,zF,zG,zH,zI])
  refine alst2 rfl rfl rfl rfl rfl rfl ?_
  (try simp only [rwp,hwR,zA,zB,zC,zD,zE,zF,zG,zH,zI])
  have h1:=q4z (b1:=b1) (b2:=b2) (g:=nrx95) (fi:=[]) (ca:=[.rop [.map (.some bf)],.rop [.int .i64 (q0y s)]]) (f:=cycF s) hs (S:=S2) fun i k t r ht hr=>c_rules_Check_1 hm ho
  refine q1u h1 ?_
  have hsb2:=objAt_some.2 (hsub2 b _ (objAt_some.1 hsb))
  have fin:∀ x y z:Int,flO (q36 s (cycF s))=flA x y z→rtW [.cell (.ptr b 0) 3 true] (fun ae S'=>ae=.ret (chkF s)∧S'=S) (supd S2 b (.cells 88 [.int .i64 x,.int .i64 y,.int .i64 z] 3)):=by
   intro x y z h
   refine q17 S ((hS1.trans hsub2).supd hb) ?_
   (try simp only [rwp,hwR,zA,zB,zC,zD,zE,zF,zG,zH,zI])
   rw [chkF,hp,q28,if_neg (by omega),h];rfl
  cases hq:q36 s (cycF s) with
  | none=>
   rw [hq] at fin
   (try simp only [rwp,hwR,zA,zB,zC,zD,zE,zF,zG,zH,zI,flO,flA,hsb2])
   exact fin _ _ _ rfl
  | some q=>
   obtain ⟨i,k,e⟩:=q
   rw [hq] at fin
   (try simp only [rwp,hwR,zA,zB,zC,zD,zE,zF,zG,zH,zI,flO,flA,hsb2])
   exact fin _ _ _ rfl
set_option maxRecDepth 4000
theorem shp_len {lv:Lv} {s:List Ty} (h:Shp lv s):lv.length=s.length:=by
 have:=congrArg List.length h
 simpa using this
theorem shp_row {lv:Lv} {s:List Ty} (h:Shp lv s) {i:Nat} {t:Ty} (ht:s[i]?=some t):∃ l,lv[i]?=some l∧l.length=t.rels.length:=by
 have h1:=congrArg (fun l=>l[i]?) h
 simp only [List.getElem?_map,ht,Option.map_some] at h1
 cases hl:lv[i]? with
 | none=>rw [hl] at h1;cases h1
 | some l=>rw [hl] at h1;exact ⟨l,rfl,by simpa using h1⟩
theorem iterF_shp {N:Nat} {s:List Ty} {w:List Rw} (hw:RwOk s w):∀ {f:Nat} {lv:Lv},Shp lv s→Bdd N lv→Shp (q6k N w f lv) s∧Bdd N (q6k N w f lv)
 | 0,lv,h1,h2=>⟨h1,h2⟩
 | f+1,lv,h1,h2=>by
  obtain ⟨k1,k2,-⟩:=q3x (N:=N) (a:=(lv,false)) hw h1 h2
  unfold q6k
  split
  ·exact iterF_shp hw k1 k2
  ·exact ⟨k1,k2⟩
theorem lev_shp (s:List Ty):Shp (levF s) s:=(iterF_shp (q8e s) (q9q s) (q83 (N:=q0y s))).1
theorem LvO.nil (S:q00) {S':q00} (h:Sub S S'):LvO S S' .nils [] []:=⟨h,rfl,LstN.nil,fun i b l h=>by simp at h,List.nodup_nil⟩
theorem LvO.fresh {S0 S:q00} {v:AV} {bs:List Nat} {lv:Lv} (h:LvO S0 S v bs lv) {c:Nat} (hc:sget S c=none) (o:AObj):LvO S0 (supd S c o) v bs lv:=by
 obtain ⟨hs,hl,h1,h2,h3⟩:=h
 refine ⟨hs.supd (Sub.none hs hc),hl,h1.upd (h1.fresh hc) o,fun i b l k1 k2=>?_,h3⟩
 obtain ⟨o1,o2,o3⟩:=h2 i b l k1 k2
 refine ⟨?_,o2,o3⟩
 rw [q0n (fun e=>by rw [objAt_some.1 (e ▸ o1)] at hc;cases hc)]
 exact o1
theorem qa2 {s:List Ty} (h:errA (chkF s)=0):GoodS s:=by
 unfold chkF at h
 split at h
 ·rename_i h1;exact absurd h h1
 ·rename_i h1;exact q8g (by omega)
theorem chkF_fl (s:List Ty):∃ t r e,chkF s=flA t r e:=by
 unfold chkF
 split
 ·exact plainF_fl s
 ·cases q36 s (cycF s) with
  | none=>exact ⟨_,_,_,rfl⟩
  | some q=>exact ⟨_,_,_,rfl⟩
theorem lvRows_snoc {bs:List Nat} {lv:Lv} {b:Nat} {l:List Nat} (h:bs.length=lv.length):q2o (bs++[b]) (lv++[l])=q2o bs lv++[[.own b 0 l.length l.length]]:=by
 unfold q2o
 rw [List.zipWith_append h]
 rfl
set_option maxRecDepth 4000
theorem firstZ_app {f:Ex→Int}:∀ {l r:List (Ex×Bool)},q32 f (l++r)=if q32 f l=0 then q32 f r else q32 f l
 | [],r=>rfl
 | (e,o) :: l,r=>by
  simp only [List.cons_append,q32]
  by_cases h:f e=0
  ·simp only [h,if_true]
   exact firstZ_app
  ·simp only [if_neg h]
theorem overF_nil {s:List Ty} {refs:List Rf} {n:ByteArray}:(q2c s refs n).length=0↔∀ f∈refs,¬ (f.rl=⟨#[]⟩∧(q0l s f.ty n).isSome=true):=by
 rw [List.length_eq_zero_iff]
 unfold q2c
 rw [List.filterMap_eq_nil_iff]
 refine forall_congr' fun f=>forall_congr' fun _=>?_
 by_cases h:f.rl=⟨#[]⟩
 ·simp only [h,if_true,true_and]
  cases q0l s f.ty n<;>simp
 ·simp [h]
theorem oi_neg {o:Option Nat}:decide (oi o<0)=o.isNone:=by
 cases o with
 | none=>rfl
 | some i=>exact decide_eq_false (by simp [oi])
theorem oi_pos {o:Option Nat}:decide (0≤oi o)=o.isSome:=by
 cases o with
 | none=>rfl
 | some i=>exact decide_eq_true (by simp [oi])
theorem q26 {s:List Ty} (hs:OkS s) (t n:ByteArray):AFun PG nrx67 [scA s,.int .i64 (oi (typF s t)),.str n] (.int .i64 (oi ((q0l s t n).map fun q=>q.2.1))):=by
 rw [← q7k]
 exact q6q hs (typF s t) (fun i h=>q4t h) n
theorem c_ref12_expr {s:List Ty} (hs:OkS s) {t:ByteArray} {ti:Nat} (ht:typF s t=some ti):∀ (e:Ex),OkE e→∀ out:Bool,AFun PG nrx188 [scA s,.int .i64 ti,.agg (exC e)] (.int .i64 (q32 (q4q s t) (q0k e out))):=by
 intro e he
 induction he with
 | mk k n o ks hk hn ho hks ih=>
  intro out S
  have hrelT:∀ m:ByteArray,AFun PG nrx67 [scA s,.int .i64 ti,.str m] (.int .i64 (oi ((q0l s t m).map fun q=>q.2.1))):=fun m=>by
   have:=q26 hs t m
   rw [ht] at this
   exact this
  refine wx188 ?_
  unfold Bx188
  (try simp only [rwp,hwR,zA,zB,zC,zD,zE,zF,zG,zH,zI,q0d,Ex.kind,Ex.name,Ex.over,Ex.kids,scA])
  refine LoopP.introS (fun i:Nat=>[(1,.int .i64 ti),(3,.rop [.sl 2 (s.map tyC)]),(5,.rop [.int .i64 k,.str n,.str o,.sl 4 (ks.map exC)]),(7,.int .i64 i)])
   (fun i S'=>S'=S∧i≤ks.length∧q32 (q4q s t) (q0w k i (ks.drop i) out)=q32 (q4q s t) (q0w k 0 ks out)) (fun i=>ks.length-i) 0 ⟨rfl,by omega,rfl⟩ rfl ?_
  rintro i S' ⟨rfl,hi,hf⟩ q hq
  (try simp only [rwp,hwR,zA,zB,zC,zD,zE,zF,zG,zH,zI,C188_1])
  (refine q03 (fun hlt=>?_) (fun hlt=>?_)<;>(try simp only [hlc] at hlt))
  ·obtain ⟨x,hx⟩:=q0h hlt
   rw [q0e hx,q0w,firstZ_app] at hf
   have hwhole:q0k (.mk k n o ks) out=q0w k 0 ks out:=by
    cases ks with
    | nil=>simp at hx
    | cons x r=>simp [q0k]
   (try simp only [rwp,hwR,zA,zB,zC,zD,zE,zF,zG,zH,zI,hx])
   refine q05 (ih x (List.mem_of_getElem? hx) (out||(decide (k=4)&&decide ((i:Int)=1)))) ?_
   (try simp only [rwp,hwR,zA,zB,zC,zD,zE,zF,zG,zH,zI])
   (refine q03 (fun h0=>?_) (fun h0=>?_)<;>(try simp only [hlc] at h0))
   ·rw [if_neg h0] at hf
    exact q02 ⟨by rw [hwhole,← hf],rfl⟩
   ·rw [if_pos (by omega)] at hf
    (simp (disch:=omega) only [q04])
    exact q08 rfl (hq (i+1) _ ⟨rfl,by omega,hf⟩ (by omega))
  ·rw [q0u hlt] at hf
   (refine q03 (fun h0=>?_) (fun h0=>?_)<;>(try simp only [hlc] at h0))
   ·have hwhole:q0k (.mk k n o ks) out=q0w k 0 ks out:=by
     cases ks with
     | nil=>simp at h0
     | cons x r=>simp [q0k]
    exact q02 ⟨by rw [hwhole,← hf];rfl,rfl⟩
   ·have hnil:ks=[]:=List.length_eq_zero_iff.1 (by omega)
    subst hnil
    have hl:q32 (q4q s t) (q0k (.mk k n o []) out)=q4q s t (.mk k n o []):=by
     simp only [q0k,List.isEmpty_nil,if_true,q32]
     split
     ·rename_i h;exact h.symm
     ·rfl
    rw [hl]
    refine q05 (hrelT n) ?_
    (try simp only [rwp,hwR,zA,zB,zC,zD,zE,zF,zG,zH,zI,oi_neg])
    cases hq2:q0l s t n with
    | none=>
     (try simp only [rwp,hwR,zA,zB,zC,zD,zE,zF,zG,zH,zI,Option.map_none,Option.isNone_none])
     exact q02 ⟨by rw [q4q,Ex.name,hq2],rfl⟩
    | some w=>
     obtain ⟨a,b,r⟩:=w
     obtain ⟨h1,ty,h2,h3,h4⟩:=q1h hq2
     rw [ht] at h1
     cases h1
     have hok:=(hs.at h2).at h4
     have key:q4q s t (.mk k n o [])=if k=0 then 0 else if r.refs.length=0 then 10 else if (q2c s r.refs o).length=0 then 6 else 0:=by rw [q4q,Ex.name,hq2];rfl
     rw [key]
     (try simp only [rwp,hwR,zA,zB,zC,zD,zE,zF,zG,zH,zI,Option.map_some,Option.isNone_some,oi])
     (refine q03 (fun hk0=>?_) (fun hk0=>?_)<;>(try simp only [hlc] at hk0))
     ·exact q02 ⟨by rw [if_pos hk0],rfl⟩
     rw [if_neg hk0]
     (try simp only [rwp,hwR,zA,zB,zC,zD,zE,zF,zG,zH,zI,h2,h4,tyC,q0i])
     (refine q03 (fun hr0=>?_) (fun hr0=>?_)<;>(try simp only [hlc] at hr0))
     ·exact q02 ⟨by rw [if_pos (by omega)],rfl⟩
     rw [if_neg (by omega)]
     have hrf:=hok.refs
     refine LoopP.introS (fun j:Nat=>[(3,.rop [.sl 2 (s.map tyC)]),(5,.rop [.int .i64 k,.str n,.str o,.sl 4 []]),(10,.sl 2 (r.refs.map rfC)),(11,.int .i64 j)])
      (fun j S2=>S2=S'∧j≤r.refs.length∧∀ m f,m<j→r.refs[m]?=some f→¬ (f.rl=⟨#[]⟩∧(q0l s f.ty o).isSome=true)) (fun j=>r.refs.length-j) 0 ⟨rfl,by omega,by omega⟩ rfl ?_
     rintro j S2 ⟨rfl,hj,hn2⟩ q2 hq3
     (try simp only [rwp,hwR,zA,zB,zC,zD,zE,zF,zG,zH,zI,C188_2])
     (refine q03 (fun hlt2=>?_) (fun hlt2=>?_)<;>(try simp only [hlc] at hlt2))
     ·obtain ⟨f,hfj⟩:=q0h hlt2
      (try simp only [rwp,hwR,zA,zB,zC,zD,zE,zF,zG,zH,zI,hfj,rfC])
      refine q05 (q37 hs f.ty) ?_
      (try simp only [rwp,hwR,zA,zB,zC,zD,zE,zF,zG,zH,zI])
      refine q05 (q26 hs f.ty o) ?_
      (try simp only [rwp,hwR,zA,zB,zC,zD,zE,zF,zG,zH,zI,hfj,rfC,oi_pos])
      have next:¬ (f.rl=⟨#[]⟩∧(q0l s f.ty o).isSome=true)→q2 [(3,.rop [.sl 2 (s.map tyC)]),(5,.rop [.int .i64 k,.str n,.str o,.sl 4 []]),(10,.sl 2 (r.refs.map rfC)),(11,.int .i64 ((j:Int)+1))] S2:=fun h=>by
       refine hq3 (j+1) S2 ⟨rfl,by omega,fun m u hm hu=>?_⟩ (by omega)
       rcases Nat.lt_succ_iff_lt_or_eq.1 hm with h1 | rfl
       ·exact hn2 m u h1 hu
       ·rw [hfj] at hu;cases hu;exact h
      (refine q03 (fun hcb=>?_) (fun hcb=>?_)<;>(try simp only [hlc] at hcb))
      ·have hh:f.rl=⟨#[]⟩∧(q0l s f.ty o).isSome=true:=by simpa using hcb
       have h0:¬ (q2c s r.refs o).length=0:=fun h=>overF_nil.1 h f (List.mem_of_getElem? hfj) hh
       exact q02 ⟨by rw [if_neg h0],rfl⟩
      ·(simp (disch:=omega) only [q04])
       exact q08 rfl (next fun hh=>by simp [hh.1,hh.2] at hcb)
     ·have h0:(q2c s r.refs o).length=0:=overF_nil.2 fun f hf=>by
       obtain ⟨m,hm⟩:=List.getElem?_of_mem hf
       exact hn2 m f (by have:=(List.getElem?_eq_some_iff.1 hm).1;omega) hm
      exact q02 ⟨by rw [if_pos h0],rfl⟩
theorem refOk_eq {s:List Ty} (f:Rf):q3f s f=!(decide (oi (typF s f.ty)<0)||(!decide (f.rl=⟨#[]⟩)&&decide (oi ((q0l s f.ty f.rl).map fun q=>q.2.1)<0))):=by
 rw [oi_neg,oi_neg,q3f]
 cases typF s f.ty<;>cases q0l s f.ty f.rl<;>cases decide (f.rl=⟨#[]⟩)<;>rfl
theorem c_ref12_names {s:List Ty} (hs:OkS s) {t:ByteArray} {ti:Nat} (ht:typF s t=some ti) {r:Rl} (hr:OkR r):AFun PG nrx150 [scA s,.int .i64 ti,.agg (rlC r)] (.int .i64 (q1l s t r)):=by
 intro S
 have hb:=hr.refs
 refine wx150 ?_
 unfold Bx150
 (try simp only [rwp,hwR,zA,zB,zC,zD,zE,zF,zG,zH,zI,q0i,scA])
 (refine q03 (fun h0=>?_) (fun h0=>?_)<;>(try simp only [hlc] at h0))
 ·refine q05 (by simpa only [scA,q0d] using c_ref12_expr hs ht r.ex hr.ex false) ?_
  have hnil:r.refs=[]:=List.length_eq_zero_iff.1 (by omega)
  exact q02 ⟨by rw [q1l,hnil];rfl,rfl⟩
 refine LoopP.introS (fun j:Nat=>[(3,.rop [.sl 2 (s.map tyC)]),(5,.rop [.str r.name,.sl 2 (r.refs.map rfC),.int .i64 r.ex.kind,.str r.ex.name,.str r.ex.over,.sl 4 (r.ex.kids.map exC)]),(7,.int .i64 j)])
  (fun j S2=>S2=S∧j≤r.refs.length∧∀ m f,m<j→r.refs[m]?=some f→q3f s f=true) (fun j=>r.refs.length-j) 0 ⟨rfl,by omega,by omega⟩ rfl ?_
 rintro j S2 ⟨rfl,hj,hn⟩ q hq
 (try simp only [rwp,hwR,zA,zB,zC,zD,zE,zF,zG,zH,zI,C150_1])
 (refine q03 (fun hlt=>?_) (fun hlt=>?_)<;>(try simp only [hlc] at hlt))
 ·obtain ⟨f,hf⟩:=q0h hlt
  (try simp only [rwp,hwR,zA,zB,zC,zD,zE,zF,zG,zH,zI,hf,rfC])
  refine q05 (q37 hs f.ty) ?_
  (try simp only [rwp,hwR,zA,zB,zC,zD,zE,zF,zG,zH,zI,hf,rfC])
  refine q05 (q26 hs f.ty f.rl) ?_
  have ea:=refOk_eq (s:=s) f
  have next:q3f s f=true→q [(3,.rop [.sl 2 (s.map tyC)]),(5,.rop [.str r.name,.sl 2 (r.refs.map rfC),.int .i64 r.ex.kind,.str r.ex.name,.str r.ex.over,.sl 4 (r.ex.kids.map exC)]),(7,.int .i64 ((j:Int)+1))] S2:=fun h=>by
   refine hq (j+1) S2 ⟨rfl,by omega,fun m u hm hu=>?_⟩ (by omega)
   rcases Nat.lt_succ_iff_lt_or_eq.1 hm with h1 | rfl
   ·exact hn m u h1 hu
   ·rw [hf] at hu;cases hu;exact h
  have bad:q3f s f=false→q1l s t r=6:=fun h=>by rw [q1l,q3j hf h];rfl
  (try simp only [rwp,hwR,zA,zB,zC,zD,zE,zF,zG,zH,zI,hf,rfC])
  cases a1:decide (oi (typF s f.ty)<0)<;>cases a2:decide (f.rl=⟨#[]⟩)<;>cases a3:decide (oi ((q0l s f.ty f.rl).map fun q=>q.2.1)<0)<;>rw [a1,a2,a3] at ea <;>
   (try simp only [rwp,hwR,zA,zB,zC,zD,zE,zF,zG,zH,zI,C150_2,C150_3,a1,a2,a3,hf,rfC]) <;>
   first
    | exact q02 ⟨by rw [bad ea],rfl⟩
    | ((simp (disch:=omega) only [q04]);exact q08 rfl (next ea))
 ·have hall:r.refs.all (q3f s)=true:=q63 fun j f hj hf=>hn j f (by omega) hf
  exact q02 ⟨by rw [q1l,hall,if_pos rfl,if_neg (by omega)],rfl⟩
set_option maxRecDepth 4000
theorem firstI_take {α:Type} {p:α→Bool}:∀ {l:List α} {i:Nat},(q0r p (l.take i)).isSome=match q0r p l with
  | some j=>decide (j<i)
  | none=>false
 | [],i=>by simp [q0r]
 | x :: l,0=>by
  rw [List.take_zero]
  cases q0r p (x :: l)<;>simp [q0r]
 | x :: l,i+1=>by
  rw [List.take_succ_cons]
  unfold q0r
  by_cases h:p x=true
  ·simp [h]
  ·simp only [h,if_false,Bool.false_eq_true]
   have:=firstI_take (p:=p) (l:=l) (i:=i)
   cases h2:q0r p l with
   | none=>rw [h2] at this;simpa using this
   | some j=>rw [h2] at this;simpa using this
theorem firstI_at {α:Type} {p:α→Bool} {l:List α} {i:Nat} {x:α} (h:l[i]?=some x) (hp:p x=true):∃ j,q0r p l=some j∧j≤i:=by
 cases hq:q0r p l with
 | none=>rw [firstI_none.1 hq i x h] at hp;cases hp
 | some j=>
  obtain ⟨-,h2⟩:=firstI_some.1 hq
  refine ⟨j,rfl,?_⟩
  rcases Nat.lt_or_ge i j with h3 | h3
  ·rw [h2 i x h3 h] at hp;cases hp
  ·exact h3
theorem dupB_oi {s:List Ty} {i:Nat} {t:Ty} (h:s[i]?=some t):decide (oi (typF s t.name)<(i:Int))=dupB (s.take i) t:=by
 obtain ⟨j,h1,h2⟩:=firstI_at (p:=fun u:Ty=>decide (u.name=t.name)) h (by simp)
 have h3:=firstI_take (p:=fun u:Ty=>decide (u.name=t.name)) (l:=s) (i:=i)
 rw [h1] at h3
 unfold dupB typF
 rw [h3,h1]
 simp only [oi]
 simp
theorem dup_all:∀ {r ts:List Ty},dupI ts r=none→∀ (m:Nat) (t:Ty),r[m]?=some t→dupB (ts++r.take m) t=false
 | [],ts,h,m,t,ht=>by simp at ht
 | x :: r,ts,h,m,t,ht=>by
  unfold dupI at h
  split at h
  ·cases h
  ·rename_i h0
   cases m with
   | zero=>simp at ht;subst ht;simpa using h0
   | succ m=>
    simp at ht
    have:=dup_all h m t ht
    simpa using this
theorem dup_typ {s:List Ty} (h:dupI [] s=none) {i:Nat} {t:Ty} (ht:s[i]?=some t):typF s t.name=some i:=by
 have h1:=dup_all h i t ht
 rw [List.nil_append,← dupB_oi ht] at h1
 obtain ⟨j,h2,h3⟩:=firstI_at (p:=fun u:Ty=>decide (u.name=t.name)) ht (by simp)
 have h4:typF s t.name=some j:=h2
 rw [h4] at h1 ⊢
 simp [oi] at h1
 congr 1
 omega
theorem relF_at {s:List Ty} {i:Nat} {t:Ty} (ht:s[i]?=some t) (n:ByteArray):relF s (some i) n=q4w t.rels n:=by simp [relF,ht]
def q5t (s:List Ty) (i k:Nat) (_:Ty) (r:Rl):Int:=if oi (relF s (some i) r.name)<k then 7 else 0
theorem again_twice {s:List Ty} (h:dupI [] s=none) {i k:Nat} {t:Ty} {r:Rl} (ht:s[i]?=some t) (hr:t.rels[k]?=some r):q5t s i k t r=q52 s i k t r:=by
 obtain ⟨m,h1,h2⟩:=firstI_at (p:=fun u:Rl=>decide (u.name=r.name)) hr (by simp)
 have h3:q4w t.rels r.name=some m:=h1
 unfold q5t q52 fiN
 rw [dup_typ h ht,relF_at ht,h3]
 by_cases hk:m=k
 ·subst hk
  rw [if_neg (show ¬ (oi (some m)<(m:Int)) by simp only [oi];omega)];simp
 ·rw [if_pos (show oi (some m)<(k:Int) by simp only [oi];omega),if_neg (by simp [hk])]
theorem eachR_cong {α:Type} {f g:α→Nat→Rl→Int×α}:∀ {l:List Rl} {k:Nat} {a:α},(∀ a m r,l[m]?=some r→f a (k+m) r=g a (k+m) r)→q31 f k l a=q31 g k l a
 | [],k,a,h=>rfl
 | x :: l,k,a,h=>by
  unfold q31
  have h0:=h a 0 x rfl
  rw [Nat.add_zero] at h0
  have ih:=fun a=>eachR_cong (f:=f) (g:=g) (l:=l) (k:=k+1) (a:=a) fun a m r hr=>by
   have:=h a (m+1) r (by simpa using hr)
   rw [show k+1+m=k+(m+1) by omega]
   exact this
  rw [h0,ih]
theorem eachT_cong {α:Type} {f g:α→Nat→Nat→Ty→Rl→Int×α}:∀ {l:List Ty} {i:Nat} {a:α},(∀ a m k t r,l[m]?=some t→t.rels[k]?=some r→f a (i+m) k t r=g a (i+m) k t r)→q30 f i l a=q30 g i l a
 | [],i,a,h=>rfl
 | x :: l,i,a,h=>by
  unfold q30
  rw [eachR_cong (g:=fun a k r=>g a i k x r) fun a m r hr=>by
   have:=h a 0 m x r rfl hr
   rw [Nat.add_zero] at this
   rw [Nat.zero_add]
   exact this]
  cases hq:q31 (fun a k r=>g a i k x r) 0 x.rels a with
  | mk o a'=>
   cases o with
   | some q=>rfl
   | none=>
    dsimp only
    exact eachT_cong fun a m k t r ht hr=>by
     have:=h a (m+1) k t r (by simpa using ht) hr
     rw [show i+1+m=i+(m+1) by omega]
     exact this
theorem eachF_cong {s:List Ty} {f g:Nat→Nat→Ty→Rl→Int} (h:∀ i k t r,s[i]?=some t→t.rels[k]?=some r→f i k t r=g i k t r):q36 s f=q36 s g:=by
 unfold q36
 rw [eachT_cong (g:=fun (_:Unit) i k t r=>(g i k t r,())) fun a m k t r ht hr=>by
  rw [Nat.zero_add,h m k t r ht hr]]
theorem c_ref12_plain {s:List Ty} (hs:OkS s):AFun PG nrx102 [scA s] (q2n s):=by
 intro S
 have hb:=hs.types
 refine wx102 ?_
 unfold Bx102
 (try simp only [rwp,hwR,zA,zB,zC,zD,zE,zF,zG,zH,zI,scA])
 intro b hbf
 (try simp only [rwp,hwR,zA,zB,zC,zD,zE,zF,zG,zH,zI])
 refine q05 (by simpa only [scA] using c_ref11_May hs) ?_
 have ret:∀ x y z:Int,q2n s=flA x y z→rtW [.cell (.ptr b 0) 3 true] (fun ae S'=>ae=.ret (q2n s)∧S'=S) (supd S b (.cells 88 [.int .i64 x,.int .i64 y,.int .i64 z] 3)):=by
  intro x y z hp
  refine q17 S (Sub.fresh _ hbf) ?_
  (try simp only [rwp,hwR,zA,zB,zC,zD,zE,zF,zG,zH,zI])
  rw [hp];rfl
 have low:∀ v,v=(!scB s||decide (s.length=0))→C102_1 (fun ae S'=>ae=.ret (q2n s)∧S'=S) (.rop [.sl 2 (s.map tyC)]) (.ptr b 0) (.bool v) (supd S b (.cells 88 [.int .i64 0,.int .i64 0,.int .i64 0] 3)):=by
  intro v hv
  unfold C102_1
  cases v with
  | true=>
   have h:s.length=0∨scB s=false:=by
    have:=hv.symm
    simpa [or_comm] using this
   (try simp only [rwp,hwR,zA,zB,zC,zD,zE,zF,zG,zH,zI])
   refine ret _ _ _ ?_
   rw [q2n,if_pos h]
  | false=>
   have h:¬ (s.length=0∨scB s=false):=by
    have:=hv.symm
    simp at this
    simpa using And.symm this
   have hp1:q2n s=if errA (szF s)≠0 then szF s else match q36 s (q52 s) with
    | some (i,k,e)=>flA i k e
    | none=>flO (q36 s fun _ _ t r=>q1l s t.name r):=by rw [q2n,if_neg h]<;>rfl
   (try simp only [rwp,hwR,zA,zB,zC,zD,zE,zF,zG,zH,zI])
   (refine q03 (fun hl=>?_) (fun hl=>?_)<;>(try simp only [hlc] at hl))
   ·refine ret _ _ _ ?_
    rw [hp1,szF,if_pos hl];rfl
   have hsz1:szF s=match longI s with
    | some i=>flA i (-1) 2
    | none=>match dupI [] s with
     | some i=>flA i (-1) 7
     | none=>flA 0 0 0:=by rw [szF,if_neg hl]<;>rfl
   refine LoopP.introS (fun i:Nat=>[(1,.rop [.sl 2 (s.map tyC)]),(2,.ptr b 0),(4,.int .i64 i)])
    (fun i S'=>S'=supd S b (.cells 88 [.int .i64 0,.int .i64 0,.int .i64 0] 3)∧i≤s.length∧∀ j t,j<i→s[j]?=some t→decide ((16:Int)<t.rels.length)=false) (fun i=>s.length-i) 0 ⟨rfl,by omega,by omega⟩ rfl ?_
   rintro i _ ⟨rfl,hi,hn⟩ q hq
   (try simp only [rwp,hwR,zA,zB,zC,zD,zE,zF,zG,zH,zI,C102_2])
   (refine q03 (fun hlt=>?_) (fun hlt=>?_)<;>(try simp only [hlc] at hlt))
   ·obtain ⟨t,ht⟩:=q0h hlt
    (try simp only [rwp,hwR,zA,zB,zC,zD,zE,zF,zG,zH,zI,ht,tyC])
    (refine q03 (fun h16=>?_) (fun h16=>?_)<;>(try simp only [hlc] at h16))
    ·refine ret _ _ _ ?_
     have:longI s=some i:=firstI_some.2 ⟨⟨t,ht,by simpa using h16⟩,hn⟩
     rw [hp1,hsz1,this];rfl
    ·(simp (disch:=omega) only [q04])
     refine q08 rfl (hq (i+1) _ ⟨rfl,by omega,fun j u hj hu=>?_⟩ (by omega))
     rcases Nat.lt_succ_iff_lt_or_eq.1 hj with h1 | rfl
     ·exact hn j u h1 hu
     ·rw [ht] at hu;cases hu;simpa using h16
   have hlong:longI s=none:=firstI_none.2 fun j u hu=>hn j u (by have:=(List.getElem?_eq_some_iff.1 hu).1;omega) hu
   rw [hlong] at hsz1
   dsimp only at hsz1
   clear hq q hn hi i hlt
   refine LoopP.introS (fun i:Nat=>[(1,.rop [.sl 2 (s.map tyC)]),(2,.ptr b 0),(5,.int .i64 i)])
    (fun i S'=>S'=supd S b (.cells 88 [.int .i64 0,.int .i64 0,.int .i64 0] 3)∧i≤s.length∧dupI [] s=dupI (s.take i) (s.drop i)) (fun i=>s.length-i) 0 ⟨rfl,by omega,rfl⟩ rfl ?_
   rintro i _ ⟨rfl,hi,hd⟩ q hq
   (try simp only [rwp,hwR,zA,zB,zC,zD,zE,zF,zG,zH,zI,C102_3])
   (refine q03 (fun hlt=>?_) (fun hlt=>?_)<;>(try simp only [hlc] at hlt))
   ·obtain ⟨t,ht⟩:=q0h hlt
    have hlen:(s.take i).length=i:=by simp;omega
    rw [q0e ht,dupI,hlen] at hd
    (try simp only [rwp,hwR,zA,zB,zC,zD,zE,zF,zG,zH,zI,ht,tyC])
    refine q05 (by simpa only [scA] using q37 hs t.name) ?_
    (try simp only [rwp,hwR,zA,zB,zC,zD,zE,zF,zG,zH,zI,dupB_oi ht])
    (refine q03 (fun hdu=>?_) (fun hdu=>?_)<;>(try simp only [hlc] at hdu))
    ·rw [hdu,if_pos rfl] at hd
     rw [hd] at hsz1
     refine ret _ _ _ ?_
     rw [hp1,hsz1];rfl
    ·rw [hdu,if_neg (by simp),← q0z ht] at hd
     (simp (disch:=omega) only [q04])
     exact q08 rfl (hq (i+1) _ ⟨rfl,by omega,hd⟩ (by omega))
   rw [q0u hlt,dupI] at hd
   rw [hd] at hsz1
   dsimp only at hsz1
   clear hq q hi i hlt
   rw [hsz1,q28,if_neg (by simp)] at hp1
   have hag:q36 s (q52 s)=q36 s (q5t s):=eachF_cong fun i k t r ht hr=>(again_twice hd ht hr).symm
   rw [hag] at hp1
   refine LoopP.introS (fun i:Nat=>[(1,.rop [.sl 2 (s.map tyC)]),(2,.ptr b 0),(6,.int .i64 i)])
    (fun i S'=>S'=supd S b (.cells 88 [.int .i64 0,.int .i64 0,.int .i64 0] 3)∧i≤s.length∧(q30 (fun (_:Unit) i k t r=>(q5t s i k t r,())) i (s.drop i) ()).1=q36 s (q5t s)) (fun i=>s.length-i) 0 ⟨rfl,by omega,rfl⟩ rfl ?_
   rintro i _ ⟨rfl,hi,hf⟩ q hq
   (try simp only [rwp,hwR,zA,zB,zC,zD,zE,zF,zG,zH,zI,C102_4])
   (refine q03 (fun hlt=>?_) (fun hlt=>?_)<;>(try simp only [hlc] at hlt))
   ·obtain ⟨t,ht⟩:=q0h hlt
    have hok:=hs.at ht
    have hbt:=hok.rels
    rw [q0e ht,q30] at hf
    (try simp only [rwp,hwR,zA,zB,zC,zD,zE,zF,zG,zH,zI,ht,tyC])
    refine LoopP.introS (fun k:Nat=>[(1,.rop [.sl 2 (s.map tyC)]),(2,.ptr b 0),(6,.int .i64 i),(7,.int .i64 k)])
     (fun k S'=>S'=supd S b (.cells 88 [.int .i64 0,.int .i64 0,.int .i64 0] 3)∧k≤t.rels.length∧q31 (fun (_:Unit) k r=>(q5t s i k t r,())) k (t.rels.drop k) ()=q31 (fun (_:Unit) k r=>(q5t s i k t r,())) 0 t.rels ()) (fun k=>t.rels.length-k) 0 ⟨rfl,by omega,rfl⟩ rfl ?_
    rintro k _ ⟨rfl,hk,hf2⟩ q2 hq2
    (try simp only [rwp,hwR,zA,zB,zC,zD,zE,zF,zG,zH,zI,C102_7,ht,tyC])
    (refine q03 (fun hlt2=>?_) (fun hlt2=>?_)<;>(try simp only [hlc] at hlt2))
    ·obtain ⟨r,hr⟩:=q0h hlt2
     rw [q0e hr,q31] at hf2
     (try simp only [rwp,hwR,zA,zB,zC,zD,zE,zF,zG,zH,zI,ht,hr,q0i,tyC])
     have hc:AFun PG nrx67 [scA s,.int .i64 (i:Int),.str r.name] (.int .i64 (oi (relF s (some i) r.name))):=q6q hs (some i) (fun j hj=>by cases hj;omega) r.name
     refine q05 hc ?_
     (try simp only [rwp,hwR,zA,zB,zC,zD,zE,zF,zG,zH,zI])
     (refine q03 (fun hag2=>?_) (fun hag2=>?_)<;>(try simp only [hlc] at hag2))
     ·have he:q5t s i k t r=7:=by rw [q5t,if_pos hag2]
      rw [he,if_neg (by decide)] at hf2
      rw [← hf2] at hf
      refine ret _ _ _ ?_
      rw [hp1,← hf]
     ·have he:q5t s i k t r=0:=by rw [q5t,if_neg (by omega)]
      rw [he,if_pos rfl] at hf2
      (simp (disch:=omega) only [q04])
      exact q08 rfl (hq2 (k+1) _ ⟨rfl,by omega,hf2⟩ (by omega))
    ·rw [q0u hlt2,q31] at hf2
     rw [← hf2] at hf
     (simp (disch:=omega) only [q04])
     exact q08 rfl (hq (i+1) _ ⟨rfl,by omega,hf⟩ (by omega))
   rw [q0u hlt,q30] at hf
   rw [← hf] at hp1
   dsimp only at hp1
   clear hq q hi i hlt hf
   refine LoopP.introS (fun i:Nat=>[(1,.rop [.sl 2 (s.map tyC)]),(2,.ptr b 0),(8,.int .i64 i)])
    (fun i S'=>S'=supd S b (.cells 88 [.int .i64 0,.int .i64 0,.int .i64 0] 3)∧i≤s.length∧(q30 (fun (_:Unit) i k (t:Ty) r=>(q1l s t.name r,())) i (s.drop i) ()).1=q36 s fun _ _ t r=>q1l s t.name r) (fun i=>s.length-i) 0 ⟨rfl,by omega,rfl⟩ rfl ?_
   rintro i _ ⟨rfl,hi,hf⟩ q hq
   (try simp only [rwp,hwR,zA,zB,zC,zD,zE,zF,zG,zH,zI,C102_5])
   (refine q03 (fun hlt=>?_) (fun hlt=>?_)<;>(try simp only [hlc] at hlt))
   ·obtain ⟨t,ht⟩:=q0h hlt
    have hok:=hs.at ht
    have hbt:=hok.rels
    have hT:=dup_typ hd ht
    rw [q0e ht,q30] at hf
    (try simp only [rwp,hwR,zA,zB,zC,zD,zE,zF,zG,zH,zI,ht,tyC])
    refine LoopP.introS (fun k:Nat=>[(1,.rop [.sl 2 (s.map tyC)]),(2,.ptr b 0),(8,.int .i64 i),(9,.int .i64 k)])
     (fun k S'=>S'=supd S b (.cells 88 [.int .i64 0,.int .i64 0,.int .i64 0] 3)∧k≤t.rels.length∧q31 (fun (_:Unit) k r=>(q1l s t.name r,())) k (t.rels.drop k) ()=q31 (fun (_:Unit) k r=>(q1l s t.name r,())) 0 t.rels ()) (fun k=>t.rels.length-k) 0 ⟨rfl,by omega,rfl⟩ rfl ?_
    rintro k _ ⟨rfl,hk,hf2⟩ q2 hq2
    (try simp only [rwp,hwR,zA,zB,zC,zD,zE,zF,zG,zH,zI,C102_6,ht,tyC])
    (refine q03 (fun hlt2=>?_) (fun hlt2=>?_)<;>(try simp only [hlc] at hlt2))
    ·obtain ⟨r,hr⟩:=q0h hlt2
     have hok2:=hok.at hr
     rw [q0e hr,q31] at hf2
     (try simp only [rwp,hwR,zA,zB,zC,zD,zE,zF,zG,zH,zI,ht,hr,q0i,tyC])
     refine q05 (by simpa only [scA,q0i] using c_ref12_names hs hT hok2) ?_
     (try simp only [rwp,hwR,zA,zB,zC,zD,zE,zF,zG,zH,zI])
     (refine q03 (fun hne=>?_) (fun hne=>?_)<;>(try simp only [hlc] at hne))
     ·rw [if_neg hne] at hf2
      rw [← hf2] at hf
      refine ret _ _ _ ?_
      rw [hp1,← hf];rfl
     ·rw [if_pos (by omega)] at hf2
      (simp (disch:=omega) only [q04])
      exact q08 rfl (hq2 (k+1) _ ⟨rfl,by omega,hf2⟩ (by omega))
    ·rw [q0u hlt2,q31] at hf2
     rw [← hf2] at hf
     (simp (disch:=omega) only [q04])
     exact q08 rfl (hq (i+1) _ ⟨rfl,by omega,hf⟩ (by omega))
   rw [q0u hlt,q30] at hf
   rw [← hf] at hp1
   (try simp only [rwp,hwR,zA,zB,zC,zD,zE,zF,zG,zH,zI])
   exact ret _ _ _ hp1
 (try simp only [rwp,hwR,zA,zB,zC,zD,zE,zF,zG,zH,zI])
 cases hsc:scB s with
 | false=>
  (try simp only [rwp,hwR,zA,zB,zC,zD,zE,zF,zG,zH,zI])
  exact low true (by rw [hsc];rfl)
 | true=>
  (try simp only [rwp,hwR,zA,zB,zC,zD,zE,zF,zG,zH,zI])
  exact low _ (by rw [hsc];simp)
set_option maxRecDepth 4000
abbrev lfF (s:List Ty) (t:ByteArray) (p:Ex×Bool):List Ln:=q6i s t p.1 p.2
theorem lf_le {s:List Ty} (hN:OkN s) {t:ByteArray} (e:Ex) (o:Bool):((q0k e o).flatMap (lfF s t)).length≤esz e * 1001:=by
 have h1:=flat_le (f:=lfF s t) (n:=1001) (fun _=>leafF_le hN) (l:=q0k e o)
 have h2:=Nat.mul_le_mul_right 1001 (q5y e o)
 omega
theorem esz_kid {k:Int} {n o:ByteArray} {ks:List Ex} {x:Ex} (h:x∈ks):esz x≤esz (.mk k n o ks):=by
 have:∀ l:List Ex,x∈l→esz x≤eszL l:=by
  intro l
  induction l with
  | nil=>intro h;cases h
  | cons y l ih=>
   intro h
   rw [eszL]
   rcases List.mem_cons.1 h with rfl | h
   ·omega
   ·have:=ih h;omega
 have:=this ks h
 rw [esz]
 omega
theorem leavesL_mem {k:Int} {out:Bool}:∀ {l:List Ex} {i m:Nat} {x:Ex},l[m]?=some x→∀ p∈q0k x (out||(decide (k=4)&&decide (((i+m:Nat):Int)=1))),p∈q0w k i l out
 | [],i,m,x,h,p,hp=>by simp at h
 | y :: l,i,0,x,h,p,hp=>by
  simp at h;subst h
  rw [q0w]
  exact List.mem_append_left _ hp
 | y :: l,i,m+1,x,h,p,hp=>by
  simp at h
  rw [q0w]
  refine List.mem_append_right _ (leavesL_mem (i:=i+1) (m:=m) h p ?_)
  rw [show i+1+m=i+(m+1) by omega]
  exact hp
theorem over_snoc {s:List Ty} {refs:List Rf} {n:ByteArray} {j:Nat} {f:Rf} (h:refs[j]?=some f):q2c s (refs.take (j+1)) n=q2c s (refs.take j) n++(if f.rl=⟨#[]⟩ then (q0l s f.ty n).map fun q=>(q.1,q.2.1) else none).toList:=by
 unfold q2c
 exact take_fm h
theorem over_take {s:List Ty} {refs:List Rf} {n:ByteArray} {j:Nat}:(q2c s (refs.take j) n).length≤refs.length:=by
 unfold q2c
 exact fm_le
theorem c_ref12_typAt {s:List Ty} (hs:OkS s) {t n:ByteArray} {i k:Nat} {r:Rl} (h:q0l s t n=some (i,k,r)):oi (typF s t)=i:=by
 obtain ⟨h1,-⟩:=q1h h
 rw [h1];rfl
theorem c_ref12_leans {s:List Ty} (hs:OkS s) (hN:OkN s) {t:ByteArray} {ti:Nat} (ht:typF s t=some ti):∀ (e:Ex),OkE e→esz e≤1000→∀ out:Bool,(∀ p∈q0k e out,(q0l s t p.1.name).isSome=true) →
  AFun PG nrx199 [scA s,.int .i64 ti,.agg (exC e),.bool out] (.sl 3 (((q0k e out).flatMap (lfF s t)).map q2z)):=by
 intro e he
 induction he with
 | mk k n o ks hk hn ho hks ih=>
  intro hsz out hfd S
  have hrelT:∀ m:ByteArray,AFun PG nrx67 [scA s,.int .i64 ti,.str m] (.int .i64 (oi ((q0l s t m).map fun q=>q.2.1))):=fun m=>by
   have:=q26 hs t m
   rw [ht] at this
   exact this
  have hle:=lf_le hN (t:=t) (.mk k n o ks) out
  refine wx199 ?_
  unfold Bx199
  (try simp only [rwp,hwR,zA,zB,zC,zD,zE,zF,zG,zH,zI,q0d,Ex.kind,Ex.name,Ex.over,Ex.kids,scA])
  refine LoopP.introS (fun p:Nat×AV=>[(1,.int .i64 ti),(3,.bool out),(4,.rop [.sl 2 (s.map tyC)]),(6,.rop [.int .i64 k,.str n,.str o,.sl 4 (ks.map exC)]),(9,p.2),(10,.int .i64 p.1)])
   (fun p S'=>p.1≤ks.length∧Sub S S'∧∃ rows:List Ln,LstN S S' 253 3 p.2 (rows.map q2z)∧rows++(q0w k p.1 (ks.drop p.1) out).flatMap (lfF s t)=(q0w k 0 ks out).flatMap (lfF s t)) (fun p=>ks.length-p.1) (0,.nils) ⟨by omega,Sub.refl S,[],.nil,rfl⟩ rfl ?_
  rintro ⟨i,v⟩ S1 ⟨hi,hs1,rows,hl,hf⟩ q hq
  dsimp only at hi hl hf
  (try simp only [rwp,hwR,zA,zB,zC,zD,zE,zF,zG,zH,zI,C199_1])
  (refine q03 (fun hlt=>?_) (fun hlt=>?_)<;>(try simp only [hlc] at hlt))
  ·obtain ⟨x,hx⟩:=q0h hlt
   rw [q0e hx,q0w,List.flatMap_append,← List.append_assoc] at hf
   have hwhole:q0k (.mk k n o ks) out=q0w k 0 ks out:=by
    cases ks with
    | nil=>simp at hx
    | cons x r=>simp [q0k]
   rw [hwhole] at hle hfd ⊢
   have hlen:=congrArg List.length hf
   simp only [List.length_append] at hlen
   have fin:∀ o2,o2=(out||(decide (k=4)&&decide ((i:Int)=1)))→C199_8 (fun ae S'=>ae=.ret (.sl 3 (((q0w k 0 ks out).flatMap (lfF s t)).map q2z))∧S'=S) q (.int .i64 ti) (.bool out) (.rop [.sl 2 (s.map tyC)]) (.rop [.int .i64 k,.str n,.str o,.sl 4 (ks.map exC)]) (.int .i64 i) v (.agg [.sl 2 (s.map tyC)]) (.int .i64 ti) (.agg (exC x)) (.bool o2) S1:=by
    intro o2 ho2
    unfold C199_8
    rw [← ho2] at hf hlen
    have hkid:=esz_kid (k:=k) (n:=n) (o:=o) (List.mem_of_getElem? hx)
    refine q05 (by simpa only [scA] using ih x (List.mem_of_getElem? hx) (by omega) o2 (fun p hp=>hfd p (leavesL_mem (i:=0) hx p (by rw [Nat.zero_add,← ho2];exact hp)))) ?_
    refine hl.app hs1 (xs:=((q0k x o2).flatMap (lfF s t)).map q2z) (fun r hr=>by obtain ⟨y,-,rfl⟩:=List.mem_map.1 hr;rfl) (q1t fun r hr=>by obtain ⟨y,-,rfl⟩:=List.mem_map.1 hr;rfl) (by simp only [List.length_map];omega) ?_
    intro v' S2 h1 h2 _
    (try simp only [rwp,hwR,zA,zB,zC,zD,zE,zF,zG,zH,zI])
    (simp (disch:=omega) only [q04])
    refine q08 rfl (hq (i+1,v') S2 ⟨by dsimp only;omega,h1,_,?_,hf⟩ (by dsimp only;omega))
    rw [List.map_append]
    exact h2
   cases a1:out<;>cases a2:decide (k=4)<;>cases a3:decide ((i:Int)=1) <;>
    (try simp only [rwp,hwR,zA,zB,zC,zD,zE,zF,zG,zH,zI,C199_5,C199_6,C199_7,a1,a2,a3,hx])<;>(rw [a1] at fin;exact fin _ (by rw [a2,a3];rfl))
  ·rw [q0u hlt] at hf
   have hrows:rows=(q0w k 0 ks out).flatMap (lfF s t):=by rw [← hf];simp [q0w]
   (refine q03 (fun h0=>?_) (fun h0=>?_)<;>(try simp only [hlc] at h0))
   ·have hwhole:q0k (.mk k n o ks) out=q0w k 0 ks out:=by
     cases ks with
     | nil=>simp at h0
     | cons x r=>simp [q0k]
    refine q3l hs1 hl ⟨?_,rfl⟩
    rw [hwhole,hrows]
   ·have hnil:ks=[]:=List.length_eq_zero_iff.1 (by omega)
    subst hnil
    have hle1:q0k (.mk k n o []) out=[(.mk k n o [],out)]:=by simp [q0k]
    rw [hle1] at hfd ⊢
    have hrows:rows=[]:=by rw [hrows];rfl
    subst hrows
    have hfd:=hfd _ (List.mem_singleton.2 rfl)
    cases hq2:q0l s t n with
    | none=>simp only [Ex.name,hq2] at hfd;cases hfd
    | some w=>
     obtain ⟨a,b,r⟩:=w
     obtain ⟨h1,ty,h2,h3,h4⟩:=q1h hq2
     rw [ht] at h1
     cases h1
     have hok:=(hs.at h2).at h4
     have hn0:=hN ty (List.mem_of_getElem? h2) r (List.mem_of_getElem? h4)
     have hrl:r.refs.length≤1000:=by unfold rsz at hn0;omega
     have hr1:=hrelT n
     rw [hq2] at hr1
     have hr1:AFun PG nrx67 [scA s,.int .i64 ti,.str n] (.int .i64 b):=hr1
     refine q05 (by simpa only [scA] using hr1) ?_
     (try simp only [rwp,hwR,zA,zB,zC,zD,zE,zF,zG,zH,zI])
     refine hl.app hs1 (xs:=[q2z ((ti,b),out)]) (fun r hr=>by simp at hr;subst hr;rfl) rfl (by simp) ?_
     intro v1 S2 hs2 hl2 _
     (try simp only [rwp,hwR,zA,zB,zC,zD,zE,zF,zG,zH,zI,h2,h4,tyC,q0i])
     have hval:q6i s t (.mk k n o []) out=((ti,b),out) :: (if k=1 then (q2c s r.refs o).map fun p=>(p,out) else []):=by rw [q6i,Ex.name,hq2];rfl
     have hgoal:([(Ex.mk k n o [],out)].flatMap (lfF s t))=((ti,b),out) :: (if k=1 then (q2c s r.refs o).map fun p=>(p,out) else []):=by
      rw [← hval];simp
     rw [hgoal]
     refine LoopP.introS (fun p:Nat×AV=>[(3,.bool out),(4,.rop [.sl 2 (s.map tyC)]),(6,.rop [.int .i64 k,.str n,.str o,.sl 4 []]),(9,p.2),(12,.sl 2 (r.refs.map rfC)),(13,.int .i64 p.1)])
      (fun p S'=>p.1≤r.refs.length∧(p.1≠0→k=1)∧Sub S S'∧LstN S S' 253 3 p.2 ((((ti,b),out) :: (q2c s (r.refs.take p.1) o).map fun p=>(p,out)).map q2z)) (fun p=>r.refs.length-p.1) (0,v1) ⟨by omega,fun h=>absurd rfl h,hs2,by simpa [q2c] using hl2⟩ rfl ?_
     rintro ⟨j,v2⟩ S3 ⟨hj,hj0,hs3,hl3⟩ q2 hq3
     dsimp only at hj hj0 hl3
     (try simp only [rwp,hwR,zA,zB,zC,zD,zE,zF,zG,zH,zI,C199_2])
     have stop:(k=1→q2c s (r.refs.take j) o=q2c s r.refs o)→rtW [.tmp v2] (fun ae S'=>ae=.ret (.sl 3 ((((ti,b),out) :: (if k=1 then (q2c s r.refs o).map fun p=>(p,out) else [])).map q2z))∧S'=S) S3:=fun h=>by
      refine q3l hs3 hl3 ⟨?_,rfl⟩
      by_cases hk1:k=1
      ·rw [if_pos hk1,h hk1]
      ·rw [if_neg hk1]
       have:j=0:=by
        rcases Nat.eq_zero_or_pos j with h0 | h0
        ·exact h0
        ·exact absurd (hj0 (by omega)) hk1
       subst this
       rfl
     cases a1:decide ((j:Int)<r.refs.length) with
     | false=>
      (try simp only [rwp,hwR,zA,zB,zC,zD,zE,zF,zG,zH,zI,C199_3])
      refine stop fun _=>?_
      rw [List.take_of_length_le (by have:=of_decide_eq_false a1;omega)]
     | true=>
      have hjl:=of_decide_eq_true a1
      cases a2:decide (k=1) with
      | false=>
       (try simp only [rwp,hwR,zA,zB,zC,zD,zE,zF,zG,zH,zI,C199_3])
       exact stop fun h=>absurd h (of_decide_eq_false a2)
      | true=>
       obtain ⟨f,hfj⟩:=q0h hjl
       (try simp only [rwp,hwR,zA,zB,zC,zD,zE,zF,zG,zH,zI,C199_3,hfj,rfC])
       refine q05 (by simpa only [scA] using q37 hs f.ty) ?_
       (try simp only [rwp,hwR,zA,zB,zC,zD,zE,zF,zG,zH,zI])
       refine q05 (by simpa only [scA] using q26 hs f.ty o) ?_
       (try simp only [rwp,hwR,zA,zB,zC,zD,zE,zF,zG,zH,zI,hfj,rfC,oi_pos])
       have hsn:=over_snoc (s:=s) (n:=o) hfj
       have hol:=over_take (s:=s) (refs:=r.refs) (n:=o) (j:=j)
       have skip:(if f.rl=⟨#[]⟩ then (q0l s f.ty o).map fun q=>(q.1,q.2.1) else none)=none→q2 [(3,.bool out),(4,.rop [.sl 2 (s.map tyC)]),(6,.rop [.int .i64 k,.str n,.str o,.sl 4 []]),(9,v2),(12,.sl 2 (r.refs.map rfC)),(13,.int .i64 ((j:Int)+1))] S3:=fun h=>by
        refine hq3 (j+1,v2) S3 ⟨by dsimp only;omega,fun _=>of_decide_eq_true a2,hs3,?_⟩ (by dsimp only;omega)
        dsimp only
        rw [hsn,h]
        simpa using hl3
       cases hg:q0l s f.ty o with
       | none=>
        have hsk:=skip (by rw [hg];simp)
        cases a3:decide (f.rl=⟨#[]⟩)<;>(try simp only [rwp,hwR,zA,zB,zC,zD,zE,zF,zG,zH,zI,C199_4,a3,Option.map_none,Option.isSome_none])<;>(simp (disch:=omega) only [q04])<;>exact q08 rfl hsk
       | some w=>
        obtain ⟨x,y,w⟩:=w
        (try simp only [rwp,hwR,zA,zB,zC,zD,zE,zF,zG,zH,zI,c_ref12_typAt hs hg,Option.map_some,Option.isSome_some])
        cases a3:decide (f.rl=⟨#[]⟩) with
        | false=>
         (try simp only [rwp,hwR,zA,zB,zC,zD,zE,zF,zG,zH,zI,C199_4])
         (simp (disch:=omega) only [q04])
         exact q08 rfl (skip (by rw [if_neg (of_decide_eq_false a3)]))
        | true=>
         (try simp only [rwp,hwR,zA,zB,zC,zD,zE,zF,zG,zH,zI,C199_4])
         refine hl3.app hs3 (xs:=[q2z ((x,y),out)]) (fun r hr=>by simp at hr;subst hr;rfl) rfl (by simp;omega) ?_
         intro v4 S4 hs4 hl4 _
         (simp (disch:=omega) only [q04])
         refine q08 rfl (hq3 (j+1,v4) S4 ⟨by dsimp only;omega,fun _=>of_decide_eq_true a2,hs4,?_⟩ (by dsimp only;omega))
         dsimp only
         rw [hsn,if_pos (of_decide_eq_true a3),hg]
         simpa using hl4
set_option maxRecDepth 4000
theorem good_refs {s:List Ty} (h:GoodS s) {i k:Nat} {t:Ty} {r:Rl} (ht:s[i]?=some t) (hr:t.rels[k]?=some r):∀ f∈r.refs,q3f s f=true:=by
 have:=h.name ht hr
 unfold q1l at this
 split at this
 ·rename_i h;exact List.all_eq_true.1 h
 ·omega
theorem good_typ {s:List Ty} (h:GoodS s) {i:Nat} {t:Ty} (ht:s[i]?=some t):typF s t.name=some i:=dup_typ h.sizes.2.2 ht
theorem refLean_ok {s:List Ty} {f:Rf} (h:q3f s f=true):q1y s f=if f.rl=⟨#[]⟩ then none else some (((typF s f.ty).getD 0,((q0l s f.ty f.rl).map fun q=>q.2.1).getD 0),false):=by
 unfold q1y
 by_cases h0:f.rl=⟨#[]⟩
 ·rw [if_pos h0,if_pos h0]
 ·rw [if_neg h0,if_neg h0]
  unfold q3f at h
  simp only [h0,decide_false,Bool.false_or,Bool.and_eq_true] at h
  cases hq:q0l s f.ty f.rl with
  | none=>rw [hq] at h;cases h.2
  | some q=>
   obtain ⟨i,k,w⟩:=q
   obtain ⟨h1,-⟩:=q1h hq
   rw [h1]
   rfl
theorem c_ref12_all {s:List Ty} (hs:OkS s) (hN:OkN s) (hg:GoodS s) {i k:Nat} {t:Ty} {r:Rl} (ht:s[i]?=some t) (hr:t.rels[k]?=some r):AFun PG nrx167 [scA s,.int .i64 i,.agg (rlC r)] (.sl 3 ((q1p s t.name r).map q2z)):=by
 intro S
 have hok:=(hs.at ht).at hr
 have hm:=List.mem_of_getElem? ht
 have hmr:=List.mem_of_getElem? hr
 have hn:=hN t hm r hmr
 have hrl:r.refs.length≤1000:=by unfold rsz at hn;omega
 have hez:esz r.ex≤1000:=by unfold rsz at hn;omega
 have hrf:=good_refs hg ht hr
 refine wx167 ?_
 unfold Bx167
 (try simp only [rwp,hwR,zA,zB,zC,zD,zE,zF,zG,zH,zI,q0i,scA])
 (refine q03 (fun h0=>?_) (fun h0=>?_)<;>(try simp only [hlc] at h0))
 ·refine q05 (by simpa only [scA,q0d] using c_ref12_leans hs hN (good_typ hg ht) r.ex hok.ex hez false (hg.found t hm r hmr (by omega))) ?_
  exact q02 ⟨by rw [q1p,if_pos (by omega)],rfl⟩
 refine LoopP.introS (fun p:Nat×AV=>[(3,.rop [.sl 2 (s.map tyC)]),(5,.rop [.str r.name,.sl 2 (r.refs.map rfC),.int .i64 r.ex.kind,.str r.ex.name,.str r.ex.over,.sl 4 (r.ex.kids.map exC)]),(7,p.2),(8,.int .i64 p.1)])
  (fun p S'=>p.1≤r.refs.length∧Sub S S'∧LstN S S' 253 3 p.2 (((r.refs.take p.1).filterMap (q1y s)).map q2z)) (fun p=>r.refs.length-p.1) (0,.nils) ⟨by omega,Sub.refl S,.nil⟩ rfl ?_
 rintro ⟨j,v⟩ S1 ⟨hj,hs1,hl⟩ q hq
 dsimp only at hj hl
 (try simp only [rwp,hwR,zA,zB,zC,zD,zE,zF,zG,zH,zI,C167_1])
 (refine q03 (fun hlt=>?_) (fun hlt=>?_)<;>(try simp only [hlc] at hlt))
 ·obtain ⟨f,hf⟩:=q0h hlt
  have hfo:=hrf f (List.mem_of_getElem? hf)
  have htk:=take_fm (g:=q1y s) hf
  have hle:=fm_le (g:=q1y s) (l:=r.refs) (i:=j)
  have hrl2:=refLean_ok hfo
  (try simp only [rwp,hwR,zA,zB,zC,zD,zE,zF,zG,zH,zI,hf,rfC])
  cases a1:decide (f.rl=⟨#[]⟩) with
  | true=>
   rw [if_pos (of_decide_eq_true a1)] at hrl2
   (try simp only [rwp,hwR,zA,zB,zC,zD,zE,zF,zG,zH,zI])
   (simp (disch:=omega) only [q04])
   refine q08 rfl (hq (j+1,v) S1 ⟨by dsimp only;omega,hs1,?_⟩ (by dsimp only;omega))
   dsimp only
   rw [htk,hrl2]
   simpa using hl
  | false=>
   rw [if_neg (of_decide_eq_false a1)] at hrl2
   unfold q3f at hfo
   rw [a1,Bool.false_or,Bool.and_eq_true] at hfo
   obtain ⟨q1,hq1⟩:=Option.isSome_iff_exists.1 hfo.2
   obtain ⟨x,y,w⟩:=q1
   obtain ⟨k1,-⟩:=q1h hq1
   rw [k1,hq1] at hrl2
   have hrl2:q1y s f=some ((x,y),false):=hrl2
   (try simp only [rwp,hwR,zA,zB,zC,zD,zE,zF,zG,zH,zI,hf,rfC])
   refine q05 (by simpa only [scA] using q37 hs f.ty) ?_
   (try simp only [rwp,hwR,zA,zB,zC,zD,zE,zF,zG,zH,zI,hf,rfC])
   refine q05 (by simpa only [scA] using q26 hs f.ty f.rl) ?_
   (try simp only [rwp,hwR,zA,zB,zC,zD,zE,zF,zG,zH,zI,k1,hq1,Option.map_some,oi])
   refine hl.app hs1 (xs:=[q2z ((x,y),false)]) (fun r hr=>by simp at hr;subst hr;rfl) rfl (by simp only [List.length_map,List.length_cons,List.length_nil];omega) ?_
   intro v' S2 h1 h2 _
   (try simp only [rwp,hwR,zA,zB,zC,zD,zE,zF,zG,zH,zI])
   (simp (disch:=omega) only [q04])
   refine q08 rfl (hq (j+1,v') S2 ⟨by dsimp only;omega,h1,?_⟩ (by dsimp only;omega))
   dsimp only
   rw [htk,hrl2]
   simpa using h2
 ·have hend:r.refs.take j=r.refs:=List.take_of_length_le (by omega)
  rw [hend] at hl
  exact q3l hs1 hl ⟨by rw [q1p,if_neg (by omega)],rfl⟩
def rwC (w:Rw):List AV:=[.int .i64 w.1.1,.int .i64 w.1.2,.sl 3 (w.2.map q2z)]
theorem c_ref12_rows {s:List Ty} (hs:OkS s) (hN:OkN s) (hg:GoodS s):AFun PG nrx118 [scA s] (.sl 3 ((q2l s).map rwC)):=by
 intro S
 have hb:=hs.types
 have hsz:=hg.sizes
 have hall:(q2l s).length≤256:=by rw [rows_len];exact hg.many
 refine wx118 ?_
 unfold Bx118
 (try simp only [rwp,hwR,zA,zB,zC,zD,zE,zF,zG,zH,zI,scA])
 refine LoopP.introS (fun p:Nat×AV=>[(1,.rop [.sl 2 (s.map tyC)]),(3,p.2),(4,.int .i64 p.1)])
  (fun p S'=>p.1≤s.length∧Sub S S'∧∃ w:List Rw,LstN S S' 251 3 p.2 (w.map rwC)∧w++q4f s p.1 (s.drop p.1)=q2l s) (fun p=>s.length-p.1) (0,.nils) ⟨by omega,Sub.refl S,[],.nil,rfl⟩ rfl ?_
 rintro ⟨i,v⟩ S1 ⟨hi,hs1,w,hl,hf⟩ q hq
 dsimp only at hi hl hf
 (try simp only [rwp,hwR,zA,zB,zC,zD,zE,zF,zG,zH,zI,C118_1])
 (refine q03 (fun hlt=>?_) (fun hlt=>?_)<;>(try simp only [hlc] at hlt))
 ·obtain ⟨t,ht⟩:=q0h hlt
  have hbt:=(hs.at ht).rels
  rw [q0e ht,q4f,← List.append_assoc] at hf
  refine LoopP.introS (fun p:Nat×AV=>[(1,.rop [.sl 2 (s.map tyC)]),(3,p.2),(4,.int .i64 i),(5,.int .i64 p.1)])
   (fun p S'=>p.1≤t.rels.length∧Sub S S'∧∃ u:List Rw,LstN S S' 251 3 p.2 (u.map rwC)∧u++q3e s i t.name p.1 (t.rels.drop p.1)=w++q3e s i t.name 0 t.rels) (fun p=>t.rels.length-p.1) (0,v) ⟨by omega,hs1,w,hl,rfl⟩ rfl ?_
  rintro ⟨k,v2⟩ S2 ⟨hk,hs2,u,hl2,hf2⟩ q2 hq2
  dsimp only at hk hl2 hf2
  (try simp only [rwp,hwR,zA,zB,zC,zD,zE,zF,zG,zH,zI,C118_2,ht,tyC])
  (refine q03 (fun hlt2=>?_) (fun hlt2=>?_)<;>(try simp only [hlc] at hlt2))
  ·obtain ⟨r,hr⟩:=q0h hlt2
   rw [q0e hr,q3e] at hf2
   (try simp only [rwp,hwR,zA,zB,zC,zD,zE,zF,zG,zH,zI,ht,hr,tyC,q0i])
   refine q05 (by simpa only [scA,q0i] using c_ref12_all hs hN hg ht hr) ?_
   have hul:u.length≤256:=by
    have h1:=congrArg List.length hf
    have h2:=congrArg List.length hf2
    simp only [List.length_append,List.length_cons] at h1 h2
    omega
   (try simp only [rwp,hwR,zA,zB,zC,zD,zE,zF,zG,zH,zI])
   refine hl2.app hs2 (xs:=[rwC ((i,k),q1p s t.name r)]) (fun r hr=>by simp at hr;subst hr;rfl) rfl (by simp only [List.length_map,List.length_cons,List.length_nil];omega) ?_
   intro v' S3 h1 h2 _
   (try simp only [rwp,hwR,zA,zB,zC,zD,zE,zF,zG,zH,zI])
   (simp (disch:=omega) only [q04])
   refine q08 rfl (hq2 (k+1,v') S3 ⟨by dsimp only;omega,h1,u++[((i,k),q1p s t.name r)],by simpa using h2,?_⟩ (by dsimp only;omega))
   rw [List.append_assoc]
   exact hf2
  ·rw [q0u hlt2,q3e,List.append_nil] at hf2
   (simp (disch:=omega) only [q04])
   refine q08 rfl (hq (i+1,v2) S2 ⟨by dsimp only;omega,hs2,u,hl2,?_⟩ (by dsimp only;omega))
   rw [hf2]
   exact hf
 ·rw [q0u hlt,q4f,List.append_nil] at hf
  exact q3l hs1 hl ⟨by rw [hf],rfl⟩
end Go.HL
