/- A part of a proof. -/
import Derived.Test.YtadmdlpmikoghaaGreatKoHlI
set_option linter.defProp false
set_option linter.unusedSimpArgs false
set_option linter.unusedVariables false
namespace Go.HL
section
variable {P:Program} {K:Env->q00->Prop} {Qp:AV->q00->Prop} {e:Env} {S:q00} {d:Option Nat}
theorem q1b {b:Nat} {o o':AObj}:supd (supd S b o) b o'=supd S b o':=by
 funext c
 simp only [supd];split<;>rfl
def q0m (S:q00) (b:Nat):Option (Nat×List AV×Nat):=match y01 S b with
 | some (.cells t cs tot)=>some (t,cs,tot)
 | _=>none
theorem objAt_supd {b c t tot:Nat} {cs:List AV}:q0m (supd S b (.cells t cs tot)) c=if b=c then some (t,cs,tot) else q0m S c:=by
 unfold q0m;rw [q01];by_cases h:b=c<;>simp [h]
theorem q3k {b c clk:Nat} {M:Bool×List EK} {es:List (AV×AV×Nat)}:q0m (supd S b (.map M es clk)) c=if b=c then none else q0m S c:=by
 unfold q0m;rw [q01];by_cases h:b=c<;>simp [h]
theorem objAt_some {b t tot:Nat} {cs:List AV}:q0m S b=some (t,cs,tot)↔y01 S b=some (.cells t cs tot):=by
 unfold q0m;cases y01 S b with
 | none=>simp
 | some o=>cases o<;>simp
theorem yc9 {b:Nat}:q2y S b=(q0m S b).map (·.2.1):=by
 unfold q2y q0m;cases y01 S b with
 | none=>rfl
 | some o=>cases o<;>rfl
def q5c (S:q00) (n:Nat) (x v:AV) (p:q00->Prop):Prop:=match x with
 | .ptr b off=>match q0m S b with
  | some (t,cs,tot)=>(q09 v).length=n/\off+n<=cs.length/\y09 (q09 v)=true/\p (supd S b (.cells t (q1t cs off (q09 v)) tot))
  | none=>False
 | _=>False
@[congr] theorem yt8 {n:Nat} {x x' v v':AV} {p:q00->Prop} (h:x=x') (h':v=v'):q5c S n x v p=q5c S n x' v' p:=by subst h;subst h';rfl
theorem yil {n:Nat} {x v:SX}:y03 P (.store n x v) d K Qp e S=q5c S n (ev e x) (ev e v) (fun S'=>K (put e d q06) S'):=by
 apply propext
 simp only [y03,q5c];constructor
 ·rintro ⟨b,off,t,cs,tot,h1,h2,h3,h4,h5,h6⟩;rw [h1];dsimp only;rw [objAt_some.2 h2];exact ⟨h3,h4,h5,h6⟩
 ·intro h;split at h
  ·rename_i b off hx
   split at h
   ·rename_i t cs tot ho
    exact ⟨b,off,t,cs,tot,hx,objAt_some.1 ho,h.1,h.2.1,h.2.2.1,h.2.2.2⟩
   ·exact h.elim
  ·exact h.elim
theorem ygv {n b off t tot:Nat} {cs:List AV} {v:AV} {p:q00->Prop} (h:q0m S b=some (t,cs,tot)):q5c S n (.ptr b off) v p↔(q09 v).length=n/\off+n<=cs.length/\y09 (q09 v)=true/\p (supd S b (.cells t (q1t cs off (q09 v)) tot)):=by
 unfold q5c;dsimp only;rw [h]
def q2f (S:q00) (b:Nat):Option ((Bool×List EK)×List (AV×AV×Nat)×Nat):=match y01 S b with
 | some (.map M es clk)=>some (M,es,clk)
 | _=>none
theorem mapObj_some {b clk:Nat} {M:Bool×List EK} {es:List (AV×AV×Nat)}:q2f S b=some (M,es,clk)↔y01 S b=some (.map M es clk):=by
 unfold q2f;cases y01 S b with
 | none=>simp
 | some o=>cases o<;>simp
theorem y1m {b c t tot:Nat} {cs:List AV}:q2f (supd S b (.cells t cs tot)) c=if b=c then none else q2f S c:=by
 unfold q2f;rw [q01];by_cases h:b=c<;>simp [h]
theorem mapObj_supd_map {b c clk:Nat} {M:Bool×List EK} {es:List (AV×AV×Nat)}:q2f (supd S b (.map M es clk)) c=if b=c then some (M,es,clk) else q2f S c:=by
 unfold q2f;rw [q01];by_cases h:b=c<;>simp [h]
theorem y8k {b:Nat}:q9v S b=(q2f S b).map fun q=>(q.1,q.2.1):=by
 unfold q9v q2f;cases y01 S b with
 | none=>rfl
 | some o=>cases o<;>rfl
def y0m (es:List (AV×AV×Nat)) (k v:AV) (clk:Nat):List (AV×AV×Nat)×Nat:=match q16 es k with
 | some (i,_,bn)=>(es.set i (k,v,bn),clk)
 | none=>(es++[(k,v,clk)],clk+1)
def y0e (es:List (AV×AV×Nat)) (k:AV):Option AV:=(q16 es k).map (·.2.1)
def y5y (S:q00) (M:Bool×List EK) (m k v:AV) (p:q00->Prop):Prop:=match m with
 | .map (some b)=>match q2f S b with
  | some (M',es,clk)=>M'=M/\q0u M k=true/\p (supd S b (.map M (y0m es k v clk).1 (y0m es k v clk).2))
  | none=>False
 | _=>False
@[congr] theorem x07 {M:Bool×List EK} {m m' k k' v v':AV} {p:q00->Prop} (h:m=m') (h1:k=k') (h2:v=v'):y5y S M m k v p=y5y S M m' k' v' p:=by subst h;subst h1;subst h2;rfl
theorem ynf {M:Bool×List EK} {m k v:SX}:y03 P (.mupd M m k v) d K Qp e S=y5y S M (ev e m) (ev e k) (ev e v) (fun S'=>K (put e d q06) S'):=by
 apply propext
 simp only [y03,y5y];constructor
 ·rintro ⟨b,es,clk,h1,h2,h3,h4⟩;rw [h1];dsimp only;rw [mapObj_some.2 h2];refine ⟨rfl,h3,?_⟩;unfold y0m;split at h4<;>rename_i hf<;>rw [hf]<;>exact h4
 ·intro h;split at h
  ·rename_i b hm
   split at h
   ·rename_i M' es clk ho
    obtain ⟨rfl,h3,h4⟩:=h;refine ⟨b,es,clk,hm,mapObj_some.1 ho,h3,?_⟩;unfold y0m at h4;split<;>rename_i hf<;>rw [hf] at h4<;>exact h4
   ·exact h.elim
  ·exact h.elim
theorem ykz {M M':Bool×List EK} {b clk:Nat} {es:List (AV×AV×Nat)} {k v:AV} {p:q00->Prop} (h:q2f S b=some (M',es,clk)):y5y S M (.map (some b)) k v p↔M'=M/\q0u M k=true/\p (supd S b (.map M (y0m es k v clk).1 (y0m es k v clk).2)):=by
 unfold y5y;dsimp only;rw [h]
theorem q3w {M:Bool×List EK} {k:AV} (h:q0u M k=true):q1m k k=true:=by
 have key:∀ (ks:List EK) (xs:List AV),q1i ks xs=true->eqs xs xs=true:=by
  intro ks
  induction ks with
  | nil=>intro xs h;cases xs<;>first | rfl | (cases h)
  | cons q ks ih=>
   intro xs h;cases xs with
   | nil=>rfl
   | cons x xs=>
    simp only [q1i,Bool.and_eq_true] at h;simp only [eqs,Bool.and_eq_true];refine ⟨?_,ih xs h.2⟩;rcases q17 h.1 with ⟨i,n,-,rfl⟩ | ⟨s,-,rfl⟩ | ⟨b,-,rfl⟩<;>simp [eq1]
 unfold q0u at h;unfold q1m;split at h
 ·simp only [Bool.and_eq_true] at h;exact key _ _ h.2
 ·rename_i hne
  simp only [Bool.and_eq_true] at h;have:q2u k=[k]:=by
   cases k<;>first | rfl | exact absurd rfl (hne _)
  rw [this];exact key _ _ h.2
theorem yc3:∀ {ks:List EK} {xs ys:List AV},q1i ks xs=true->q1i ks ys=true->(eqs xs ys=true↔xs=ys)
 | [],[],[],_,_=>by simp [eqs]
 | k :: ks,x :: xs,y :: ys,h,h'=>by
  simp only [q1i,Bool.and_eq_true] at h h';simp only [eqs,Bool.and_eq_true,List.cons.injEq,yc3 h.2 h'.2];have:eq1 x y=true↔x=y:=by
   rcases q17 h.1 with ⟨i,n,rfl,rfl⟩ | ⟨s,rfl,rfl⟩ | ⟨b,rfl,rfl⟩
   ·rcases q17 h'.1 with ⟨i',n',h1,rfl⟩ | ⟨s',h1,rfl⟩ | ⟨b',h1,rfl⟩
    ·cases h1;simp [eq1]
    ·cases h1
    ·cases h1
   ·rcases q17 h'.1 with ⟨i',n',h1,rfl⟩ | ⟨s',h1,rfl⟩ | ⟨b',h1,rfl⟩
    ·cases h1
    ·simp [eq1]
    ·cases h1
   ·rcases q17 h'.1 with ⟨i',n',h1,rfl⟩ | ⟨s',h1,rfl⟩ | ⟨b',h1,rfl⟩
    ·cases h1
    ·cases h1
    ·simp [eq1]
  rw [this]
 | [],[],_ :: _,_,h=>by cases h
 | [],_ :: _,_,h,_=>by cases h
 | _ :: _,[],_,h,_=>by cases h
 | _ :: _,_ :: _,[],_,h=>by cases h
theorem q44 {M:Bool×List EK} {a b:AV} (h:q0u M a=true) (h':q0u M b=true):q1m a b=true↔a=b:=by
 unfold q0u at h h';split at h<;>split at h'
 ·simp only [Bool.and_eq_true] at h h';simp only [q1m,q2u,AV.agg.injEq];exact yc3 h.2 h'.2
 ·rename_i cs _ _
  simp only [Bool.and_eq_true,Bool.not_eq_true'] at h h';rw [h.1] at h';exact absurd h'.1 (by simp)
 ·simp only [Bool.and_eq_true,Bool.not_eq_true'] at h h';rw [h'.1] at h;exact absurd h.1 (by simp)
 ·rename_i h1 _ h2
  simp only [Bool.and_eq_true] at h h';have e1:q2u a=[a]:=by cases a<;>first | rfl | exact absurd rfl (h1 _)
  have e2:q2u b=[b]:=by cases b<;>first | rfl | exact absurd rfl (h2 _)
  unfold q1m;rw [e1,e2,yc3 h.2 h'.2];simp
def yj4:List (AV×AV×Nat)->AV->AV->Nat->List (AV×AV×Nat)
 | [],k,v,clk=>[(k,v,clk)]
 | x :: r,k,v,clk=>if q1m k x.1 then (k,v,x.2.2) :: r else x :: yj4 r k v clk
theorem q43:∀ (es:List (AV×AV×Nat)) (k v:AV) (clk:Nat),(y0m es k v clk).1=yj4 es k v clk
 | [],k,v,clk=>rfl
 | x :: r,k,v,clk=>by
  have ih:=q43 r k v clk;unfold y0m at ih ⊢;by_cases h:q1m k x.1=true
  ·simp only [q16,yj4,h,if_true];rfl
  ·simp only [q16,yj4,h,Bool.false_eq_true,if_false];cases hf:q16 r k with
   | none=>
    rw [hf] at ih;dsimp only [Option.map_none] at ih ⊢;rw [<- ih];rfl
   | some q=>
    obtain ⟨i,u,bn⟩:=q;rw [hf] at ih;dsimp only [Option.map_some] at ih ⊢;rw [<- ih];rfl
def y3t (M:Bool×List EK) (es:List (AV×AV×Nat)):Prop:=∀ x∈es,q0u M x.1=true
theorem qa8 {k:AV}:y0e [] k=none:=rfl
theorem q24 {x:AV×AV×Nat} {r:List (AV×AV×Nat)} {k:AV}:y0e (x :: r) k=if q1m k x.1 then some x.2.1 else y0e r k:=by
 unfold y0e;simp only [q16];split
 ·rfl
 ·cases q16 r k<;>rfl
theorem q6x {M:Bool×List EK} {k:AV} (hk:q0u M k=true) (v:AV) (clk:Nat):∀ {es:List (AV×AV×Nat)},y3t M es->y3t M (yj4 es k v clk)
 | [],_=>fun x hx=>by simp [yj4] at hx;subst hx;exact hk
 | y :: r,h=>fun x hx=>by
  unfold yj4 at hx;split at hx
  ·rcases List.mem_cons.1 hx with rfl | hx
   ·exact hk
   ·exact h x (List.mem_cons_of_mem _ hx)
  ·rcases List.mem_cons.1 hx with rfl | hx
   ·exact h x (by simp)
   ·exact q6x hk v clk (fun z hz=>h z (List.mem_cons_of_mem _ hz)) x hx
open Classical in
theorem q7p {M:Bool×List EK} {k:AV} (hk:q0u M k=true) (v:AV) (clk:Nat):∀ {es:List (AV×AV×Nat)},y3t M es->∀ {k':AV},q0u M k'=true->y0e (yj4 es k v clk) k'=if k'=k then some v else y0e es k'
 | [],_,k',hk'=>by
  unfold yj4;rw [q24];by_cases h:k'=k
  ·subst h;simp [q3w hk]
  ·have:¬ q1m k' k=true:=fun h2=>h ((q44 hk' hk).1 h2)
   simp [h,this]
 | x :: r,h,k',hk'=>by
  have hx:=h x (by simp)
  have ih:=q7p hk v clk (es:=r) (fun z hz=>h z (List.mem_cons_of_mem _ hz)) hk'
  unfold yj4;by_cases h1:q1m k x.1=true
  ·have e1:=(q44 hk hx).1 h1;rw [if_pos h1,q24,q24];by_cases h2:k'=k
   ·subst h2;simp [q3w hk]
   ·have h3:¬ q1m k' k=true:=fun h4=>h2 ((q44 hk' hk).1 h4)
    have h4:¬ q1m k' x.1=true:=fun h4=>h2 (((q44 hk' hx).1 h4).trans e1.symm)
    simp [h2,h3,h4]
  ·rw [if_neg h1,q24,q24,ih];by_cases h2:q1m k' x.1=true
   ·have e2:=(q44 hk' hx).1 h2;have h3:k'≠k:=by rintro rfl;exact h1 h2
    simp [h2,h3]
   ·simp [h2]
def q2q (ok:Bool) (z:AV):Option AV->AV
 | some v=>if ok then .tup [v,.bool true] else v
 | none=>if ok then .tup [z,.bool false] else z
theorem yhr {ok:Bool} {z:AV} {es:List (AV×AV×Nat)} {k:AV}:y1q ok z (q16 es k)=q2q ok z (y0e es k):=by
 unfold y0e;cases q16 es k with
 | none=>rfl
 | some q=>rfl
def xcr (S:q00) (t sz bytes:Nat) (s x:AV) (p:AV->q00->Prop):Prop:=∃ m news,yay S sz x=some (m,news)/\y09 news=true/\(match s with
   | .nils=>m * bytes<=140737488355328/\(if m=0 then p .nils S else
     ∀ b cap,y01 S b=none->m<=cap->cap<=maxLen->p (.own b 0 m cap) (supd S b (.cells t news (cap * sz))))
   | .own b 0 n cap=>∃ cs,y01 S b=some (.cells t cs (cap * sz))/\n<=cap/\cap<=maxLen/\n * sz<=cs.length/\(n+m) * bytes<=140737488355328 /\
     ∀ b' cap',(b'=b\/y01 S b'=none)->n+m<=cap'->cap'<=maxLen->p (.own b' 0 (n+m) cap') (supd (y0f S b) b' (.cells t (cs.take (n * sz)++news) (cap' * sz)))
   | _=>False)
@[congr] theorem x3z {t sz bytes:Nat} {s s' x x':AV} {p:AV->q00->Prop} (h:s=s') (h':x=x'):xcr S t sz bytes s x p=xcr S t sz bytes s' x' p:=by subst h;subst h';rfl
theorem yss {t sz bytes:Nat} {s x:SX}:y03 P (.app t sz bytes s x) d K Qp e S=xcr S t sz bytes (ev e s) (ev e x) (fun v S'=>K (put e d v) S'):=rfl
theorem q59 {s:ByteArray} {i:Nat} (h:(i:Int)<s.size):∃ b,s[i]?=some b:=⟨_,getElem?_pos s i (by omega)⟩
theorem q8b {s:ByteArray} {i:Nat} {b:UInt8} (h:s[i]?=some b):i<s.size:=by
 rcases Nat.lt_or_ge i s.size with h1 | h1
 ·exact h1
 ·rw [getElem?_neg s i (by omega)] at h;cases h
def ypd (p:Int->Bool) (s:ByteArray):Bool:=s.data.toList.all fun b=>p b.toNat
theorem q8c (s:ByteArray) (i:Nat):s[i]?=s.data.toList[i]?:=by
 rcases Nat.lt_or_ge i s.size with h | h
 ·rw [getElem?_pos s i h];have h':i<s.data.toList.length:=by simpa using h
  rw [List.getElem?_eq_getElem h'];rfl
 ·rw [getElem?_neg s i (by omega)]
  rw [List.getElem?_eq_none (by simpa using h)]
theorem allB_iff {p:Int->Bool} {s:ByteArray}:ypd p s=true↔∀ (i:Nat) (b:UInt8),s[i]?=some b->p b.toNat=true:=by
 unfold ypd;rw [List.all_eq_true];constructor
 ·intro h i b hb;rw [q8c] at hb;exact h b (List.mem_of_getElem? hb)
 ·intro h b hb;obtain ⟨i,hi⟩:=List.getElem?_of_mem hb;exact h i b (by rw [q8c];exact hi)
theorem q9a {p:Int->Bool} {s:ByteArray} {i:Nat} {b:UInt8} (hb:s[i]?=some b) (h:p b.toNat=false):ypd p s=false:=by
 cases hq:ypd p s with
 | false=>rfl
 | true=>rw [allB_iff.1 hq i b hb] at h;cases h
def y14 (o:Option (List AV)) (p:List AV->Prop):Prop:=match o with
 | some v=>p v
 | none=>False
@[congr] theorem yyo {o o':Option (List AV)} {p:List AV->Prop} (h:o=o'):y14 o p=y14 o' p:=h ▸ rfl
theorem yh3 {v:List AV} {p:List AV->Prop}:y14 (some v) p=p v:=rfl
theorem ypm:ypn []=.tup []:=rfl
theorem ypl {v:AV}:ypn [v]=v:=rfl
theorem ypk {v u:AV} {r:List AV}:ypn (v :: u :: r)=.tup (v :: u :: r):=rfl
theorem yb5 {n b off t tot:Nat} {cs:List AV} {v:AV} {p:q00->Prop}:q5c (supd S b (.cells t cs tot)) n (.ptr b off) v p↔(q09 v).length=n/\off+n<=cs.length/\y09 (q09 v)=true/\p (supd S b (.cells t (q1t cs off (q09 v)) tot)):=by
 rw [ygv (objAt_supd.trans (if_pos rfl)),q1b]
theorem yhg {M M':Bool×List EK} {b clk:Nat} {es:List (AV×AV×Nat)} {k v:AV} {p:q00->Prop}:y5y (supd S b (.map M' es clk)) M (.map (some b)) k v p↔M'=M/\q0u M k=true/\p (supd S b (.map M (y0m es k v clk).1 (y0m es k v clk).2)):=by
 rw [ykz (mapObj_supd_map.trans (if_pos rfl)),q1b]
theorem yq5:y09 []=true:=rfl
theorem q1j {x:AV} {r:List AV}:y09 (x :: r)=(one x&&y09 r):=rfl
theorem yzq {k:IntKind} {n:Int}:one (.int k n)=true:=rfl
theorem yzl {s:ByteArray}:one (.str s)=true:=rfl
theorem yqc {q:Bool}:one (.bool q)=true:=rfl
theorem x4v {sz:Nat} {xs:List (List AV)}:one (.sl sz xs)=true:=rfl
theorem yzm {cs:List AV}:one (.rop cs)=true:=rfl
theorem yzn {b o:Nat}:one (.ptr b o)=true:=rfl
theorem yzo {b o l c:Nat}:one (.own b o l c)=true:=rfl
theorem yq6 :one (.nils)=true:=rfl
theorem yzp {m:Option Nat}:one (.map m)=true:=rfl
theorem yqa {f:Fn} {ys zs:List AV}:one (.func f ys zs)=true:=rfl
theorem yq7 :one (.nilp)=true:=rfl
theorem yq9 :one (.nilf)=true:=rfl
theorem yq8 :one (.nili)=true:=rfl
theorem yk8 {t:Nat} {v:AV}:one (.iface t v)=true:=rfl
def xjy:=And.intro @yb5 (And.intro @yhg (And.intro @yq5 (And.intro @q1j (And.intro @yzq (And.intro @yzl (And.intro @yqc (And.intro @x4v (And.intro @yzm (And.intro @yzn (And.intro @yzo (And.intro @yq6 (And.intro @yzp (And.intro @yqa (And.intro @yq7 (And.intro @yq9 (And.intro @yq8 @yk8))))))))))))))))
end
end Go.HL
