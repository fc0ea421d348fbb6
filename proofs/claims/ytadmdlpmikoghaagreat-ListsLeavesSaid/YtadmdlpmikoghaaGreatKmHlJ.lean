/- A part of a proof. -/
import Derived.Test.YtadmdlpmikoghaaGreatKmHlI
set_option linter.defProp false
set_option linter.unusedSimpArgs false
set_option linter.unusedVariables false
namespace Go.HL
section
variable {P:Program} {K:Env→q00→Prop} {Qp:AV→q00→Prop} {e:Env} {S:q00} {d:Option Nat}
theorem q0u {b:Nat} {o o':AObj}:supd (supd S b o) b o'=supd S b o':=by
 funext c
 simp only [supd]
 split<;>rfl
def q0i (S:q00) (b:Nat):Option (Nat×List AV×Nat):=match sget S b with
 | some (.cells t cs tot)=>some (t,cs,tot)
 | _=>none
theorem objAt_supd {b c t tot:Nat} {cs:List AV}:q0i (supd S b (.cells t cs tot)) c=if b=c then some (t,cs,tot) else q0i S c:=by
 unfold q0i
 rw [q01]
 by_cases h:b=c<;>simp [h]
theorem q2v {b c clk:Nat} {M:Bool×List EK} {es:List (AV×AV×Nat)}:q0i (supd S b (.map M es clk)) c=if b=c then none else q0i S c:=by
 unfold q0i
 rw [q01]
 by_cases h:b=c<;>simp [h]
theorem objAt_some {b t tot:Nat} {cs:List AV}:q0i S b=some (t,cs,tot)↔sget S b=some (.cells t cs tot):=by
 unfold q0i
 cases sget S b with
 | none=>simp
 | some o=>cases o<;>simp
theorem cellsAt_obj {b:Nat}:q2q S b=(q0i S b).map (·.2.1):=by
 unfold q2q q0i
 cases sget S b with
 | none=>rfl
 | some o=>cases o<;>rfl
def q4k (S:q00) (n:Nat) (x v:AV) (p:q00→Prop):Prop:=match x with
 | .ptr b off=>match q0i S b with
  | some (t,cs,tot)=>(q08 v).length=n∧off+n≤cs.length∧ones (q08 v)=true∧p (supd S b (.cells t (q1j cs off (q08 v)) tot))
  | none=>False
 | _=>False
@[congr] theorem storeA_congr {n:Nat} {x x' v v':AV} {p:q00→Prop} (h:x=x') (h':v=v'):q4k S n x v p=q4k S n x' v' p:=by subst h;subst h';rfl
theorem aeff_store {n:Nat} {x v:SX}:aeff P (.store n x v) d K Qp e S=q4k S n (ev e x) (ev e v) (fun S'=>K (put e d q06) S'):=by
 apply propext
 simp only [aeff,q4k]
 constructor
 ·rintro ⟨b,off,t,cs,tot,h1,h2,h3,h4,h5,h6⟩
  rw [h1]
  dsimp only
  rw [objAt_some.2 h2]
  exact ⟨h3,h4,h5,h6⟩
 ·intro h
  split at h
  ·rename_i b off hx
   split at h
   ·rename_i t cs tot ho
    exact ⟨b,off,t,cs,tot,hx,objAt_some.1 ho,h.1,h.2.1,h.2.2.1,h.2.2.2⟩
   ·exact h.elim
  ·exact h.elim
theorem storeA_ptr {n b off t tot:Nat} {cs:List AV} {v:AV} {p:q00→Prop} (h:q0i S b=some (t,cs,tot)):q4k S n (.ptr b off) v p↔(q08 v).length=n∧off+n≤cs.length∧ones (q08 v)=true∧p (supd S b (.cells t (q1j cs off (q08 v)) tot)):=by
 unfold q4k
 dsimp only
 rw [h]
def q1z (S:q00) (b:Nat):Option ((Bool×List EK)×List (AV×AV×Nat)×Nat):=match sget S b with
 | some (.map M es clk)=>some (M,es,clk)
 | _=>none
theorem mapObj_some {b clk:Nat} {M:Bool×List EK} {es:List (AV×AV×Nat)}:q1z S b=some (M,es,clk)↔sget S b=some (.map M es clk):=by
 unfold q1z
 cases sget S b with
 | none=>simp
 | some o=>cases o<;>simp
theorem mapObj_supd {b c t tot:Nat} {cs:List AV}:q1z (supd S b (.cells t cs tot)) c=if b=c then none else q1z S c:=by
 unfold q1z
 rw [q01]
 by_cases h:b=c<;>simp [h]
theorem mapObj_supd_map {b c clk:Nat} {M:Bool×List EK} {es:List (AV×AV×Nat)}:q1z (supd S b (.map M es clk)) c=if b=c then some (M,es,clk) else q1z S c:=by
 unfold q1z
 rw [q01]
 by_cases h:b=c<;>simp [h]
theorem mapAt_obj {b:Nat}:mapAt S b=(q1z S b).map fun q=>(q.1,q.2.1):=by
 unfold mapAt q1z
 cases sget S b with
 | none=>rfl
 | some o=>cases o<;>rfl
def mset (es:List (AV×AV×Nat)) (k v:AV) (clk:Nat):List (AV×AV×Nat)×Nat:=match q0q es k with
 | some (i,_,bn)=>(es.set i (k,v,bn),clk)
 | none=>(es++[(k,v,clk)],clk+1)
def mget (es:List (AV×AV×Nat)) (k:AV):Option AV:=(q0q es k).map (·.2.1)
def mupdA (S:q00) (M:Bool×List EK) (m k v:AV) (p:q00→Prop):Prop:=match m with
 | .map (some b)=>match q1z S b with
  | some (M',es,clk)=>M'=M∧q0m M k=true∧p (supd S b (.map M (mset es k v clk).1 (mset es k v clk).2))
  | none=>False
 | _=>False
@[congr] theorem mupdA_congr {M:Bool×List EK} {m m' k k' v v':AV} {p:q00→Prop} (h:m=m') (h1:k=k') (h2:v=v'):mupdA S M m k v p=mupdA S M m' k' v' p:=by subst h;subst h1;subst h2;rfl
theorem aeff_mupd {M:Bool×List EK} {m k v:SX}:aeff P (.mupd M m k v) d K Qp e S=mupdA S M (ev e m) (ev e k) (ev e v) (fun S'=>K (put e d q06) S'):=by
 apply propext
 simp only [aeff,mupdA]
 constructor
 ·rintro ⟨b,es,clk,h1,h2,h3,h4⟩
  rw [h1]
  dsimp only
  rw [mapObj_some.2 h2]
  refine ⟨rfl,h3,?_⟩
  unfold mset
  split at h4<;>rename_i hf<;>rw [hf]<;>exact h4
 ·intro h
  split at h
  ·rename_i b hm
   split at h
   ·rename_i M' es clk ho
    obtain ⟨rfl,h3,h4⟩:=h
    refine ⟨b,es,clk,hm,mapObj_some.1 ho,h3,?_⟩
    unfold mset at h4
    split<;>rename_i hf<;>rw [hf] at h4<;>exact h4
   ·exact h.elim
  ·exact h.elim
theorem mupdA_map {M M':Bool×List EK} {b clk:Nat} {es:List (AV×AV×Nat)} {k v:AV} {p:q00→Prop} (h:q1z S b=some (M',es,clk)):mupdA S M (.map (some b)) k v p↔M'=M∧q0m M k=true∧p (supd S b (.map M (mset es k v clk).1 (mset es k v clk).2)):=by
 unfold mupdA
 dsimp only
 rw [h]
theorem q39 {M:Bool×List EK} {k:AV} (h:q0m M k=true):q1d k k=true:=by
 have key:∀ (ks:List EK) (xs:List AV),q17 ks xs=true→eqs xs xs=true:=by
  intro ks
  induction ks with
  | nil=>intro xs h;cases xs<;>first | rfl | (cases h)
  | cons q ks ih=>
   intro xs h
   cases xs with
   | nil=>rfl
   | cons x xs=>
    simp only [q17,Bool.and_eq_true] at h
    simp only [eqs,Bool.and_eq_true]
    refine ⟨?_,ih xs h.2⟩
    rcases q0r h.1 with ⟨i,n,-,rfl⟩ | ⟨s,-,rfl⟩ | ⟨b,-,rfl⟩<;>simp [eq1]
 unfold q0m at h
 unfold q1d
 split at h
 ·simp only [Bool.and_eq_true] at h
  exact key _ _ h.2
 ·rename_i hne
  simp only [Bool.and_eq_true] at h
  have:q2f k=[k]:=by
   cases k<;>first | rfl | exact absurd rfl (hne _)
  rw [this]
  exact key _ _ h.2
theorem eqs_iff:∀ {ks:List EK} {xs ys:List AV},q17 ks xs=true→q17 ks ys=true→(eqs xs ys=true↔xs=ys)
 | [],[],[],_,_=>by simp [eqs]
 | k :: ks,x :: xs,y :: ys,h,h'=>by
  simp only [q17,Bool.and_eq_true] at h h'
  simp only [eqs,Bool.and_eq_true,List.cons.injEq,eqs_iff h.2 h'.2]
  have:eq1 x y=true↔x=y:=by
   rcases q0r h.1 with ⟨i,n,rfl,rfl⟩ | ⟨s,rfl,rfl⟩ | ⟨b,rfl,rfl⟩
   ·rcases q0r h'.1 with ⟨i',n',h1,rfl⟩ | ⟨s',h1,rfl⟩ | ⟨b',h1,rfl⟩
    ·cases h1;simp [eq1]
    ·cases h1
    ·cases h1
   ·rcases q0r h'.1 with ⟨i',n',h1,rfl⟩ | ⟨s',h1,rfl⟩ | ⟨b',h1,rfl⟩
    ·cases h1
    ·simp [eq1]
    ·cases h1
   ·rcases q0r h'.1 with ⟨i',n',h1,rfl⟩ | ⟨s',h1,rfl⟩ | ⟨b',h1,rfl⟩
    ·cases h1
    ·cases h1
    ·simp [eq1]
  rw [this]
 | [],[],_ :: _,_,h=>by cases h
 | [],_ :: _,_,h,_=>by cases h
 | _ :: _,[],_,h,_=>by cases h
 | _ :: _,_ :: _,[],_,h=>by cases h
theorem q3h {M:Bool×List EK} {a b:AV} (h:q0m M a=true) (h':q0m M b=true):q1d a b=true↔a=b:=by
 unfold q0m at h h'
 split at h<;>split at h'
 ·simp only [Bool.and_eq_true] at h h'
  simp only [q1d,q2f,AV.agg.injEq]
  exact eqs_iff h.2 h'.2
 ·rename_i cs _ _
  simp only [Bool.and_eq_true,Bool.not_eq_true'] at h h'
  rw [h.1] at h'
  exact absurd h'.1 (by simp)
 ·simp only [Bool.and_eq_true,Bool.not_eq_true'] at h h'
  rw [h'.1] at h
  exact absurd h.1 (by simp)
 ·rename_i h1 _ h2
  simp only [Bool.and_eq_true] at h h'
  have e1:q2f a=[a]:=by cases a<;>first | rfl | exact absurd rfl (h1 _)
  have e2:q2f b=[b]:=by cases b<;>first | rfl | exact absurd rfl (h2 _)
  unfold q1d
  rw [e1,e2,eqs_iff h.2 h'.2]
  simp
def mput:List (AV×AV×Nat)→AV→AV→Nat→List (AV×AV×Nat)
 | [],k,v,clk=>[(k,v,clk)]
 | x :: r,k,v,clk=>if q1d k x.1 then (k,v,x.2.2) :: r else x :: mput r k v clk
theorem q3g:∀ (es:List (AV×AV×Nat)) (k v:AV) (clk:Nat),(mset es k v clk).1=mput es k v clk
 | [],k,v,clk=>rfl
 | x :: r,k,v,clk=>by
  have ih:=q3g r k v clk
  unfold mset at ih ⊢
  by_cases h:q1d k x.1=true
  ·simp only [q0q,mput,h,if_true]
   rfl
  ·simp only [q0q,mput,h,Bool.false_eq_true,if_false]
   cases hf:q0q r k with
   | none=>
    rw [hf] at ih
    dsimp only [Option.map_none] at ih ⊢
    rw [← ih]
    rfl
   | some q=>
    obtain ⟨i,u,bn⟩:=q
    rw [hf] at ih
    dsimp only [Option.map_some] at ih ⊢
    rw [← ih]
    rfl
def keysOk (M:Bool×List EK) (es:List (AV×AV×Nat)):Prop:=∀ x∈es,q0m M x.1=true
theorem q8t {k:AV}:mget [] k=none:=rfl
theorem q1r {x:AV×AV×Nat} {r:List (AV×AV×Nat)} {k:AV}:mget (x :: r) k=if q1d k x.1 then some x.2.1 else mget r k:=by
 unfold mget
 simp only [q0q]
 split
 ·rfl
 ·cases q0q r k<;>rfl
theorem q5y {M:Bool×List EK} {k:AV} (hk:q0m M k=true) (v:AV) (clk:Nat):∀ {es:List (AV×AV×Nat)},keysOk M es→keysOk M (mput es k v clk)
 | [],_=>fun x hx=>by simp [mput] at hx;subst hx;exact hk
 | y :: r,h=>fun x hx=>by
  unfold mput at hx
  split at hx
  ·rcases List.mem_cons.1 hx with rfl | hx
   ·exact hk
   ·exact h x (List.mem_cons_of_mem _ hx)
  ·rcases List.mem_cons.1 hx with rfl | hx
   ·exact h x (by simp)
   ·exact q5y hk v clk (fun z hz=>h z (List.mem_cons_of_mem _ hz)) x hx
open Classical in
theorem q6n {M:Bool×List EK} {k:AV} (hk:q0m M k=true) (v:AV) (clk:Nat):∀ {es:List (AV×AV×Nat)},keysOk M es→∀ {k':AV},q0m M k'=true→mget (mput es k v clk) k'=if k'=k then some v else mget es k'
 | [],_,k',hk'=>by
  unfold mput
  rw [q1r]
  by_cases h:k'=k
  ·subst h;simp [q39 hk]
  ·have:¬ q1d k' k=true:=fun h2=>h ((q3h hk' hk).1 h2)
   simp [h,this]
 | x :: r,h,k',hk'=>by
  have hx:=h x (by simp)
  have ih:=q6n hk v clk (es:=r) (fun z hz=>h z (List.mem_cons_of_mem _ hz)) hk'
  unfold mput
  by_cases h1:q1d k x.1=true
  ·have e1:=(q3h hk hx).1 h1
   rw [if_pos h1,q1r,q1r]
   by_cases h2:k'=k
   ·subst h2
    simp [q39 hk]
   ·have h3:¬ q1d k' k=true:=fun h4=>h2 ((q3h hk' hk).1 h4)
    have h4:¬ q1d k' x.1=true:=fun h4=>h2 (((q3h hk' hx).1 h4).trans e1.symm)
    simp [h2,h3,h4]
  ·rw [if_neg h1,q1r,q1r,ih]
   by_cases h2:q1d k' x.1=true
   ·have e2:=(q3h hk' hx).1 h2
    have h3:k'≠k:=by rintro rfl;exact h1 h2
    simp [h2,h3]
   ·simp [h2]
def q28 (ok:Bool) (z:AV):Option AV→AV
 | some v=>if ok then .tup [v,.bool true] else v
 | none=>if ok then .tup [z,.bool false] else z
theorem foundA_get {ok:Bool} {z:AV} {es:List (AV×AV×Nat)} {k:AV}:foundA ok z (q0q es k)=q28 ok z (mget es k):=by
 unfold mget
 cases q0q es k with
 | none=>rfl
 | some q=>rfl
def appA (S:q00) (t sz bytes:Nat) (s x:AV) (p:AV→q00→Prop):Prop:=∃ m news,appX S sz x=some (m,news)∧ones news=true∧(match s with
   | .nils=>m * bytes≤140737488355328∧(if m=0 then p .nils S else
     ∀ b cap,sget S b=none→m≤cap→cap≤maxLen→p (.own b 0 m cap) (supd S b (.cells t news (cap * sz))))
   | .own b 0 n cap=>∃ cs,sget S b=some (.cells t cs (cap * sz))∧n≤cap∧cap≤maxLen∧n * sz≤cs.length∧(n+m) * bytes≤140737488355328 ∧
     ∀ b' cap',(b'=b∨sget S b'=none)→n+m≤cap'→cap'≤maxLen→p (.own b' 0 (n+m) cap') (supd (sdel S b) b' (.cells t (cs.take (n * sz)++news) (cap' * sz)))
   | _=>False)
@[congr] theorem appA_congr {t sz bytes:Nat} {s s' x x':AV} {p:AV→q00→Prop} (h:s=s') (h':x=x'):appA S t sz bytes s x p=appA S t sz bytes s' x' p:=by subst h;subst h';rfl
theorem aeff_app {t sz bytes:Nat} {s x:SX}:aeff P (.app t sz bytes s x) d K Qp e S=appA S t sz bytes (ev e s) (ev e x) (fun v S'=>K (put e d v) S'):=rfl
theorem q4i {s:ByteArray} {i:Nat} (h:(i:Int)<s.size):∃ b,s[i]?=some b:=⟨_,getElem?_pos s i (by omega)⟩
theorem q75 {s:ByteArray} {i:Nat} {b:UInt8} (h:s[i]?=some b):i<s.size:=by
 rcases Nat.lt_or_ge i s.size with h1 | h1
 ·exact h1
 ·rw [getElem?_neg s i (by omega)] at h;cases h
def allB (p:Int→Bool) (s:ByteArray):Bool:=s.data.toList.all fun b=>p b.toNat
theorem q76 (s:ByteArray) (i:Nat):s[i]?=s.data.toList[i]?:=by
 rcases Nat.lt_or_ge i s.size with h | h
 ·rw [getElem?_pos s i h]
  have h':i<s.data.toList.length:=by simpa using h
  rw [List.getElem?_eq_getElem h']
  rfl
 ·rw [getElem?_neg s i (by omega)]
  rw [List.getElem?_eq_none (by simpa using h)]
theorem allB_iff {p:Int→Bool} {s:ByteArray}:allB p s=true↔∀ (i:Nat) (b:UInt8),s[i]?=some b→p b.toNat=true:=by
 unfold allB
 rw [List.all_eq_true]
 constructor
 ·intro h i b hb
  rw [q76] at hb
  exact h b (List.mem_of_getElem? hb)
 ·intro h b hb
  obtain ⟨i,hi⟩:=List.getElem?_of_mem hb
  exact h i b (by rw [q76];exact hi)
theorem q7y {p:Int→Bool} {s:ByteArray} {i:Nat} {b:UInt8} (hb:s[i]?=some b) (h:p b.toNat=false):allB p s=false:=by
 cases hq:allB p s with
 | false=>rfl
 | true=>rw [allB_iff.1 hq i b hb] at h;cases h
def someL (o:Option (List AV)) (p:List AV→Prop):Prop:=match o with
 | some v=>p v
 | none=>False
@[congr] theorem someL_congr {o o':Option (List AV)} {p:List AV→Prop} (h:o=o'):someL o p=someL o' p:=h ▸ rfl
theorem someL_some {v:List AV} {p:List AV→Prop}:someL (some v) p=p v:=rfl
theorem tupA_nil:tupA []=.tup []:=rfl
theorem tupA_one {v:AV}:tupA [v]=v:=rfl
theorem tupA_two {v u:AV} {r:List AV}:tupA (v :: u :: r)=.tup (v :: u :: r):=rfl
theorem storeA_supd {n b off t tot:Nat} {cs:List AV} {v:AV} {p:q00→Prop}:q4k (supd S b (.cells t cs tot)) n (.ptr b off) v p↔(q08 v).length=n∧off+n≤cs.length∧ones (q08 v)=true∧p (supd S b (.cells t (q1j cs off (q08 v)) tot)):=by
 rw [storeA_ptr (objAt_supd.trans (if_pos rfl)),q0u]
theorem mupdA_supd {M M':Bool×List EK} {b clk:Nat} {es:List (AV×AV×Nat)} {k v:AV} {p:q00→Prop}:mupdA (supd S b (.map M' es clk)) M (.map (some b)) k v p↔M'=M∧q0m M k=true∧p (supd S b (.map M (mset es k v clk).1 (mset es k v clk).2)):=by
 rw [mupdA_map (mapObj_supd_map.trans (if_pos rfl)),q0u]
theorem ones_nil:ones []=true:=rfl
theorem q18 {x:AV} {r:List AV}:ones (x :: r)=(one x&&ones r):=rfl
theorem one_int {k:IntKind} {n:Int}:one (.int k n)=true:=rfl
theorem one_str {s:ByteArray}:one (.str s)=true:=rfl
theorem one_bool {q:Bool}:one (.bool q)=true:=rfl
theorem one_sl {sz:Nat} {xs:List (List AV)}:one (.sl sz xs)=true:=rfl
theorem one_rop {cs:List AV}:one (.rop cs)=true:=rfl
theorem one_ptr {b o:Nat}:one (.ptr b o)=true:=rfl
theorem one_own {b o l c:Nat}:one (.own b o l c)=true:=rfl
theorem one_nils :one (.nils)=true:=rfl
theorem one_map {m:Option Nat}:one (.map m)=true:=rfl
theorem one_func {f:Fn} {ys zs:List AV}:one (.func f ys zs)=true:=rfl
theorem one_nilp :one (.nilp)=true:=rfl
theorem one_nilf :one (.nilf)=true:=rfl
theorem one_nili :one (.nili)=true:=rfl
theorem one_iface {t:Nat} {v:AV}:one (.iface t v)=true:=rfl
def hl10:=And.intro @storeA_supd (And.intro @mupdA_supd (And.intro @ones_nil (And.intro @q18 (And.intro @one_int (And.intro @one_str (And.intro @one_bool (And.intro @one_sl (And.intro @one_rop (And.intro @one_ptr (And.intro @one_own (And.intro @one_nils (And.intro @one_map (And.intro @one_func (And.intro @one_nilp (And.intro @one_nilf (And.intro @one_nili @one_iface))))))))))))))))
end
end Go.HL
