/- A part of a proof. -/
import Derived.Test.YtadmdlpmikoghaaGreatKeHlI
set_option linter.defProp false
set_option linter.unusedSimpArgs false
set_option linter.unusedVariables false
namespace Go.HL
section
variable {P:Program} {K:Env->q00->Prop} {Qp:AV->q00->Prop} {e:Env} {S:q00} {d:Option Nat}
theorem q0q {b:Nat} {o o':AObj}:supd (supd S b o) b o'=supd S b o':=by
 funext c
 simp only [supd];split<;>rfl
def q0m (S:q00) (b:Nat):Option (Nat×List AV×Nat):=match y01 S b with
 | some (.cells t cs tot)=>some (t,cs,tot)
 | _=>none
theorem objAt_supd {b c t tot:Nat} {cs:List AV}:q0m (supd S b (.cells t cs tot)) c=if b=c then some (t,cs,tot) else q0m S c:=by
 unfold q0m;rw [q01];by_cases h:b=c<;>simp [h]
theorem y2q {b c clk:Nat} {M:Bool×List EK} {es:List (AV×AV×Nat)}:q0m (supd S b (.map M es clk)) c=if b=c then none else q0m S c:=by
 unfold q0m;rw [q01];by_cases h:b=c<;>simp [h]
theorem objAt_some {b t tot:Nat} {cs:List AV}:q0m S b=some (t,cs,tot)↔y01 S b=some (.cells t cs tot):=by
 unfold q0m;cases y01 S b with
 | none=>simp
 | some o=>cases o<;>simp
theorem ybs {b:Nat}:q2e S b=(q0m S b).map (·.2.1):=by
 unfold q2e q0m;cases y01 S b with
 | none=>rfl
 | some o=>cases o<;>rfl
def q6u (S:q00) (n:Nat) (x v:AV) (p:q00->Prop):Prop:=match x with
 | .ptr b off=>match q0m S b with
  | some (t,cs,tot)=>(q0a v).length=n/\off+n<=cs.length/\y06 (q0a v)=true/\p (supd S b (.cells t (q1i cs off (q0a v)) tot))
  | none=>False
 | _=>False
@[congr] theorem ys1 {n:Nat} {x x' v v':AV} {p:q00->Prop} (h:x=x') (h':v=v'):q6u S n x v p=q6u S n x' v' p:=by subst h;subst h';rfl
theorem yi0 {n:Nat} {x v:SX}:y03 P (.store n x v) d K Qp e S=q6u S n (ev e x) (ev e v) (fun S'=>K (put e d q07) S'):=by
 apply propext
 simp only [y03,q6u];constructor
 ·rintro ⟨b,off,t,cs,tot,h1,h2,h3,h4,h5,h6⟩;rw [h1];dsimp only;rw [objAt_some.2 h2];exact ⟨h3,h4,h5,h6⟩
 ·intro h;split at h
  ·rename_i b off hx
   split at h
   ·rename_i t cs tot ho
    exact ⟨b,off,t,cs,tot,hx,objAt_some.1 ho,h.1,h.2.1,h.2.2.1,h.2.2.2⟩
   ·exact h.elim
  ·exact h.elim
theorem ygb {n b off t tot:Nat} {cs:List AV} {v:AV} {p:q00->Prop} (h:q0m S b=some (t,cs,tot)):q6u S n (.ptr b off) v p↔(q0a v).length=n/\off+n<=cs.length/\y06 (q0a v)=true/\p (supd S b (.cells t (q1i cs off (q0a v)) tot)):=by
 unfold q6u;dsimp only;rw [h]
def q2o (S:q00) (b:Nat):Option ((Bool×List EK)×List (AV×AV×Nat)×Nat):=match y01 S b with
 | some (.map M es clk)=>some (M,es,clk)
 | _=>none
theorem mapObj_some {b clk:Nat} {M:Bool×List EK} {es:List (AV×AV×Nat)}:q2o S b=some (M,es,clk)↔y01 S b=some (.map M es clk):=by
 unfold q2o;cases y01 S b with
 | none=>simp
 | some o=>cases o<;>simp
theorem yb5 {b c t tot:Nat} {cs:List AV}:q2o (supd S b (.cells t cs tot)) c=if b=c then none else q2o S c:=by
 unfold q2o;rw [q01];by_cases h:b=c<;>simp [h]
theorem mapObj_supd_map {b c clk:Nat} {M:Bool×List EK} {es:List (AV×AV×Nat)}:q2o (supd S b (.map M es clk)) c=if b=c then some (M,es,clk) else q2o S c:=by
 unfold q2o;rw [q01];by_cases h:b=c<;>simp [h]
theorem y88 {b:Nat}:q99 S b=(q2o S b).map fun q=>(q.1,q.2.1):=by
 unfold q99 q2o;cases y01 S b with
 | none=>rfl
 | some o=>cases o<;>rfl
def y0k (es:List (AV×AV×Nat)) (k v:AV) (clk:Nat):List (AV×AV×Nat)×Nat:=match q1f es k with
 | some (i,_,bn)=>(es.set i (k,v,bn),clk)
 | none=>(es++[(k,v,clk)],clk+1)
def y09 (es:List (AV×AV×Nat)) (k:AV):Option AV:=(q1f es k).map (·.2.1)
def y5m (S:q00) (M:Bool×List EK) (m k v:AV) (p:q00->Prop):Prop:=match m with
 | .map (some b)=>match q2o S b with
  | some (M',es,clk)=>M'=M/\q0x M k=true/\p (supd S b (.map M (y0k es k v clk).1 (y0k es k v clk).2))
  | none=>False
 | _=>False
@[congr] theorem yyo {M:Bool×List EK} {m m' k k' v v':AV} {p:q00->Prop} (h:m=m') (h1:k=k') (h2:v=v'):y5m S M m k v p=y5m S M m' k' v' p:=by subst h;subst h1;subst h2;rfl
theorem ymk {M:Bool×List EK} {m k v:SX}:y03 P (.mupd M m k v) d K Qp e S=y5m S M (ev e m) (ev e k) (ev e v) (fun S'=>K (put e d q07) S'):=by
 apply propext
 simp only [y03,y5m];constructor
 ·rintro ⟨b,es,clk,h1,h2,h3,h4⟩;rw [h1];dsimp only;rw [mapObj_some.2 h2];refine ⟨rfl,h3,?_⟩;unfold y0k;split at h4<;>rename_i hf<;>rw [hf]<;>exact h4
 ·intro h;split at h
  ·rename_i b hm
   split at h
   ·rename_i M' es clk ho
    obtain ⟨rfl,h3,h4⟩:=h;refine ⟨b,es,clk,hm,mapObj_some.1 ho,h3,?_⟩;unfold y0k at h4;split<;>rename_i hf<;>rw [hf] at h4<;>exact h4
   ·exact h.elim
  ·exact h.elim
theorem yka {M M':Bool×List EK} {b clk:Nat} {es:List (AV×AV×Nat)} {k v:AV} {p:q00->Prop} (h:q2o S b=some (M',es,clk)):y5m S M (.map (some b)) k v p↔M'=M/\q0x M k=true/\p (supd S b (.map M (y0k es k v clk).1 (y0k es k v clk).2)):=by
 unfold y5m;dsimp only;rw [h]
theorem q86 {M:Bool×List EK} {k:AV} (h:q0x M k=true):q1h k k=true:=by
 have key:∀ (ks:List EK) (xs:List AV),q19 ks xs=true->eqs xs xs=true:=by
  intro ks
  induction ks with
  | nil=>intro xs h;cases xs<;>first | rfl | (cases h)
  | cons q ks ih=>
   intro xs h;cases xs with
   | nil=>rfl
   | cons x xs=>
    simp only [q19,Bool.and_eq_true] at h;simp only [eqs,Bool.and_eq_true];refine ⟨?_,ih xs h.2⟩;rcases q14 h.1 with ⟨i,n,-,rfl⟩ | ⟨s,-,rfl⟩ | ⟨b,-,rfl⟩<;>simp [eq1]
 unfold q0x at h;unfold q1h;split at h
 ·simp only [Bool.and_eq_true] at h;exact key _ _ h.2
 ·rename_i hne
  simp only [Bool.and_eq_true] at h;have:q2j k=[k]:=by
   cases k<;>first | rfl | exact absurd rfl (hne _)
  rw [this];exact key _ _ h.2
theorem ybl:∀ {ks:List EK} {xs ys:List AV},q19 ks xs=true->q19 ks ys=true->(eqs xs ys=true↔xs=ys)
 | [],[],[],_,_=>by simp [eqs]
 | k :: ks,x :: xs,y :: ys,h,h'=>by
  simp only [q19,Bool.and_eq_true] at h h';simp only [eqs,Bool.and_eq_true,List.cons.injEq,ybl h.2 h'.2];have:eq1 x y=true↔x=y:=by
   rcases q14 h.1 with ⟨i,n,rfl,rfl⟩ | ⟨s,rfl,rfl⟩ | ⟨b,rfl,rfl⟩
   ·rcases q14 h'.1 with ⟨i',n',h1,rfl⟩ | ⟨s',h1,rfl⟩ | ⟨b',h1,rfl⟩
    ·cases h1;simp [eq1]
    ·cases h1
    ·cases h1
   ·rcases q14 h'.1 with ⟨i',n',h1,rfl⟩ | ⟨s',h1,rfl⟩ | ⟨b',h1,rfl⟩
    ·cases h1
    ·simp [eq1]
    ·cases h1
   ·rcases q14 h'.1 with ⟨i',n',h1,rfl⟩ | ⟨s',h1,rfl⟩ | ⟨b',h1,rfl⟩
    ·cases h1
    ·cases h1
    ·simp [eq1]
  rw [this]
 | [],[],_ :: _,_,h=>by cases h
 | [],_ :: _,_,h,_=>by cases h
 | _ :: _,[],_,h,_=>by cases h
 | _ :: _,_ :: _,[],_,h=>by cases h
theorem q4b {M:Bool×List EK} {a b:AV} (h:q0x M a=true) (h':q0x M b=true):q1h a b=true↔a=b:=by
 unfold q0x at h h';split at h<;>split at h'
 ·simp only [Bool.and_eq_true] at h h';simp only [q1h,q2j,AV.agg.injEq];exact ybl h.2 h'.2
 ·rename_i cs _ _
  simp only [Bool.and_eq_true,Bool.not_eq_true'] at h h';rw [h.1] at h';exact absurd h'.1 (by simp)
 ·simp only [Bool.and_eq_true,Bool.not_eq_true'] at h h';rw [h'.1] at h;exact absurd h.1 (by simp)
 ·rename_i h1 _ h2
  simp only [Bool.and_eq_true] at h h';have e1:q2j a=[a]:=by cases a<;>first | rfl | exact absurd rfl (h1 _)
  have e2:q2j b=[b]:=by cases b<;>first | rfl | exact absurd rfl (h2 _)
  unfold q1h;rw [e1,e2,ybl h.2 h'.2];simp
def yii:List (AV×AV×Nat)->AV->AV->Nat->List (AV×AV×Nat)
 | [],k,v,clk=>[(k,v,clk)]
 | x :: r,k,v,clk=>if q1h k x.1 then (k,v,x.2.2) :: r else x :: yii r k v clk
theorem q3q:∀ (es:List (AV×AV×Nat)) (k v:AV) (clk:Nat),(y0k es k v clk).1=yii es k v clk
 | [],k,v,clk=>rfl
 | x :: r,k,v,clk=>by
  have ih:=q3q r k v clk;unfold y0k at ih ⊢;by_cases h:q1h k x.1=true
  ·simp only [q1f,yii,h,if_true];rfl
  ·simp only [q1f,yii,h,Bool.false_eq_true,if_false];cases hf:q1f r k with
   | none=>
    rw [hf] at ih;dsimp only [Option.map_none] at ih ⊢;rw [<- ih];rfl
   | some q=>
    obtain ⟨i,u,bn⟩:=q;rw [hf] at ih;dsimp only [Option.map_some] at ih ⊢;rw [<- ih];rfl
def y3m (M:Bool×List EK) (es:List (AV×AV×Nat)):Prop:=∀ x∈es,q0x M x.1=true
theorem q5l {k:AV}:y09 [] k=none:=rfl
theorem q22 {x:AV×AV×Nat} {r:List (AV×AV×Nat)} {k:AV}:y09 (x :: r) k=if q1h k x.1 then some x.2.1 else y09 r k:=by
 unfold y09;simp only [q1f];split
 ·rfl
 ·cases q1f r k<;>rfl
theorem q6f {M:Bool×List EK} {k:AV} (hk:q0x M k=true) (v:AV) (clk:Nat):∀ {es:List (AV×AV×Nat)},y3m M es->y3m M (yii es k v clk)
 | [],_=>fun x hx=>by simp [yii] at hx;subst hx;exact hk
 | y :: r,h=>fun x hx=>by
  unfold yii at hx;split at hx
  ·rcases List.mem_cons.1 hx with rfl | hx
   ·exact hk
   ·exact h x (List.mem_cons_of_mem _ hx)
  ·rcases List.mem_cons.1 hx with rfl | hx
   ·exact h x (by simp)
   ·exact q6f hk v clk (fun z hz=>h z (List.mem_cons_of_mem _ hz)) x hx
open Classical in
theorem q74 {M:Bool×List EK} {k:AV} (hk:q0x M k=true) (v:AV) (clk:Nat):∀ {es:List (AV×AV×Nat)},y3m M es->∀ {k':AV},q0x M k'=true->y09 (yii es k v clk) k'=if k'=k then some v else y09 es k'
 | [],_,k',hk'=>by
  unfold yii;rw [q22];by_cases h:k'=k
  ·subst h;simp [q86 hk]
  ·have:¬ q1h k' k=true:=fun h2=>h ((q4b hk' hk).1 h2)
   simp [h,this]
 | x :: r,h,k',hk'=>by
  have hx:=h x (by simp)
  have ih:=q74 hk v clk (es:=r) (fun z hz=>h z (List.mem_cons_of_mem _ hz)) hk'
  unfold yii;by_cases h1:q1h k x.1=true
  ·have e1:=(q4b hk hx).1 h1;rw [if_pos h1,q22,q22];by_cases h2:k'=k
   ·subst h2;simp [q86 hk]
   ·have h3:¬ q1h k' k=true:=fun h4=>h2 ((q4b hk' hk).1 h4)
    have h4:¬ q1h k' x.1=true:=fun h4=>h2 (((q4b hk' hx).1 h4).trans e1.symm)
    simp [h2,h3,h4]
  ·rw [if_neg h1,q22,q22,ih];by_cases h2:q1h k' x.1=true
   ·have e2:=(q4b hk' hx).1 h2;have h3:k'≠k:=by rintro rfl;exact h1 h2
    simp [h2,h3]
   ·simp [h2]
def q23 (ok:Bool) (z:AV):Option AV->AV
 | some v=>if ok then .tup [v,.bool true] else v
 | none=>if ok then .tup [z,.bool false] else z
theorem yh8 {ok:Bool} {z:AV} {es:List (AV×AV×Nat)} {k:AV}:y1j ok z (q1f es k)=q23 ok z (y09 es k):=by
 unfold y09;cases q1f es k with
 | none=>rfl
 | some q=>rfl
def xdo (S:q00) (t sz bytes:Nat) (s x:AV) (p:AV->q00->Prop):Prop:=∃ m news,y9h S sz x=some (m,news)/\y06 news=true/\(match s with
   | .nils=>m * bytes<=140737488355328/\(if m=0 then p .nils S else
     ∀ b cap,y01 S b=none->m<=cap->cap<=maxLen->p (.own b 0 m cap) (supd S b (.cells t news (cap * sz))))
   | .own b 0 n cap=>∃ cs,y01 S b=some (.cells t cs (cap * sz))/\n<=cap/\cap<=maxLen/\n * sz<=cs.length/\(n+m) * bytes<=140737488355328 /\
     ∀ b' cap',(b'=b\/y01 S b'=none)->n+m<=cap'->cap'<=maxLen->p (.own b' 0 (n+m) cap') (supd (y0d S b) b' (.cells t (cs.take (n * sz)++news) (cap' * sz)))
   | _=>False)
@[congr] theorem x2f {t sz bytes:Nat} {s s' x x':AV} {p:AV->q00->Prop} (h:s=s') (h':x=x'):xdo S t sz bytes s x p=xdo S t sz bytes s' x' p:=by subst h;subst h';rfl
theorem yrm {t sz bytes:Nat} {s x:SX}:y03 P (.app t sz bytes s x) d K Qp e S=xdo S t sz bytes (ev e s) (ev e x) (fun v S'=>K (put e d v) S'):=rfl
theorem q4j {s:ByteArray} {i:Nat} (h:(i:Int)<s.size):∃ b,s[i]?=some b:=⟨_,getElem?_pos s i (by omega)⟩
theorem q7j {s:ByteArray} {i:Nat} {b:UInt8} (h:s[i]?=some b):i<s.size:=by
 rcases Nat.lt_or_ge i s.size with h1 | h1
 ·exact h1
 ·rw [getElem?_neg s i (by omega)] at h;cases h
def yog (p:Int->Bool) (s:ByteArray):Bool:=s.data.toList.all fun b=>p b.toNat
theorem q7k (s:ByteArray) (i:Nat):s[i]?=s.data.toList[i]?:=by
 rcases Nat.lt_or_ge i s.size with h | h
 ·rw [getElem?_pos s i h];have h':i<s.data.toList.length:=by simpa using h
  rw [List.getElem?_eq_getElem h'];rfl
 ·rw [getElem?_neg s i (by omega)]
  rw [List.getElem?_eq_none (by simpa using h)]
theorem allB_iff {p:Int->Bool} {s:ByteArray}:yog p s=true↔∀ (i:Nat) (b:UInt8),s[i]?=some b->p b.toNat=true:=by
 unfold yog;rw [List.all_eq_true];constructor
 ·intro h i b hb;rw [q7k] at hb;exact h b (List.mem_of_getElem? hb)
 ·intro h b hb;obtain ⟨i,hi⟩:=List.getElem?_of_mem hb;exact h i b (by rw [q7k];exact hi)
theorem q8o {p:Int->Bool} {s:ByteArray} {i:Nat} {b:UInt8} (hb:s[i]?=some b) (h:p b.toNat=false):yog p s=false:=by
 cases hq:yog p s with
 | false=>rfl
 | true=>rw [allB_iff.1 hq i b hb] at h;cases h
def q7w (o:Option (List AV)) (p:List AV->Prop):Prop:=match o with
 | some v=>p v
 | none=>False
@[congr] theorem yxe {o o':Option (List AV)} {p:List AV->Prop} (h:o=o'):q7w o p=q7w o' p:=h ▸ rfl
theorem ygi {v:List AV} {p:List AV->Prop}:q7w (some v) p=p v:=rfl
theorem yoo:yo6 []=.tup []:=rfl
theorem yon {v:AV}:yo6 [v]=v:=rfl
theorem yom {v u:AV} {r:List AV}:yo6 (v :: u :: r)=.tup (v :: u :: r):=rfl
theorem RetA.step (S':q00) {rs:List yam} {QF:AEnd->q00->Prop} (hS:Sub S' S) (h:q7w (y2o S e rs) fun vs=>QF (.ret (yo6 vs)) S'):RetA rs QF e S:=by
 unfold q7w at h;unfold RetA;cases hr:y2o S e rs with
 | none=>rw [hr] at h;exact h
 | some vs=>rw [hr] at h;exact ⟨_,S',ShV.sub hS,h⟩
theorem yar {n b off t tot:Nat} {cs:List AV} {v:AV} {p:q00->Prop}:q6u (supd S b (.cells t cs tot)) n (.ptr b off) v p↔(q0a v).length=n/\off+n<=cs.length/\y06 (q0a v)=true/\p (supd S b (.cells t (q1i cs off (q0a v)) tot)):=by
 rw [ygb (objAt_supd.trans (if_pos rfl)),q0q]
theorem ygw {M M':Bool×List EK} {b clk:Nat} {es:List (AV×AV×Nat)} {k v:AV} {p:q00->Prop}:y5m (supd S b (.map M' es clk)) M (.map (some b)) k v p↔M'=M/\q0x M k=true/\p (supd S b (.map M (y0k es k v clk).1 (y0k es k v clk).2)):=by
 rw [yka (mapObj_supd_map.trans (if_pos rfl)),q0q]
theorem yp7:y06 []=true:=rfl
theorem q1e {x:AV} {r:List AV}:y06 (x :: r)=(one x&&y06 r):=rfl
theorem yyc {k:IntKind} {n:Int}:one (.int k n)=true:=rfl
theorem yy7 {s:ByteArray}:one (.str s)=true:=rfl
theorem ype {q:Bool}:one (.bool q)=true:=rfl
theorem x62 {sz:Nat} {xs:List (List AV)}:one (.sl sz xs)=true:=rfl
theorem yy8 {cs:List AV}:one (.rop cs)=true:=rfl
theorem yy9 {b o:Nat}:one (.ptr b o)=true:=rfl
theorem yya {b o l c:Nat}:one (.own b o l c)=true:=rfl
theorem yp8 :one (.nils)=true:=rfl
theorem yyb {m:Option Nat}:one (.map m)=true:=rfl
theorem ypc {f:Fn} {ys zs:List AV}:one (.func f ys zs)=true:=rfl
theorem yp9 :one (.nilp)=true:=rfl
theorem ypb :one (.nilf)=true:=rfl
theorem ypa :one (.nili)=true:=rfl
theorem yjl {t:Nat} {v:AV}:one (.iface t v)=true:=rfl
def xm2:=And.intro @yar (And.intro @ygw (And.intro @yp7 (And.intro @q1e (And.intro @yyc (And.intro @yy7 (And.intro @ype (And.intro @x62 (And.intro @yy8 (And.intro @yy9 (And.intro @yya (And.intro @yp8 (And.intro @yyb (And.intro @ypc (And.intro @yp9 (And.intro @ypb (And.intro @ypa @yjl))))))))))))))))
end
end Go.HL
