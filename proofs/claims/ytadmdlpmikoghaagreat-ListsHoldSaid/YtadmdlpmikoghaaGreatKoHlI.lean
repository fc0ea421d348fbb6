/- A part of a proof. -/
import Derived.Test.YtadmdlpmikoghaaGreatKoHlH
set_option linter.defProp false
set_option linter.unusedSimpArgs false
set_option linter.unusedVariables false
namespace Go.HL
section
variable {P:Program} {K:Env->q00->Prop} {Qp:AV->q00->Prop} {e:Env} {S:q00} {d:Option Nat}
theorem ysk:y0o P [] K Qp e S=K e S:=rfl
theorem yn5 {s:SI} {r:List SI}:y0o P (s :: r) K Qp e S=aop P s (y0o P r K Qp) Qp e S:=rfl
theorem yn7 {o:SOp}:aop P { d:=d,o:=o,g:=none,x:=[] } K Qp e S=y03 P o d K Qp e S:=rfl
def ynm (x:List Nat) (e:Env) (S:q00) (K:Env->q00->Prop):Env->q00->Prop:=fun e' S'=>Kept x e S S'/\K e' S'
theorem ysm {o:SOp} {t:Nat} {x:List Nat}:aop P { d:=d,o:=o,g:=none,x:=t :: x } K Qp e S=y03 P o d (ynm (t :: x) e S K) Qp e S:=rfl
theorem ycx {x:List Nat} {e':Env} {S':q00}:ynm x e S K e' S'=(Kept x e S S'/\K e' S'):=rfl
def q3u (v:AV) (e:Env) (t:Nat) (want:Bool) (p q:Env->Prop):Prop:=match v with
 | .bool b=>(b=want->p (put e (some t) (.bool want)))/\(b=!want->q (put e (some t) (.bool (!want))))
 | .tup []=>q e
 | _=>False
theorem yq1 {t:Nat} {v:AV} (h:e t=v):put e (some t) v=e:=by
 funext k
 simp only [put,q1v];split
 ·rename_i h1;rw [<- h1,h]
 ·rfl
theorem yeq {s:SI} {t:Nat} {w:Bool} (hg:s.g=some (t,w)):aop P s K Qp e S=q3u (e t) e t w (fun e=>y03 P s.o s.d (KX s.x e S K) Qp e S) (fun e=>K (put e s.d q06) S):=by
 unfold aop q3u;rw [hg];dsimp only;cases hv:e t with
 | bool b=>
  apply propext
  dsimp only;cases b<;>cases w<;>simp [yq1 hv]
 | tup vs=>cases vs<;>rfl
 | _=>rfl
theorem yn8 {o:SOp} {t:Nat} {w:Bool}:aop P { d:=d,o:=o,g:=some (t,w),x:=[] } K Qp e S=q3u (e t) e t w (fun e=>y03 P o d K Qp e S) (fun e=>K (put e d q06) S):=yeq rfl
theorem y34 {o:SOp} {t u:Nat} {w:Bool} {x:List Nat}:aop P { d:=d,o:=o,g:=some (t,w),x:=u :: x } K Qp e S=q3u (e t) e t w (fun e=>y03 P o d (ynm (u :: x) e S K) Qp e S) (fun e=>K (put e d q06) S):=yeq rfl
theorem ylp {t:Nat} {p q:Env->Prop}:q3u (.bool true) e t true p q=p (put e (some t) (.bool true)):=by simp [q3u]
theorem ylq {t:Nat} {p q:Env->Prop}:q3u (.bool true) e t false p q=q (put e (some t) (.bool true)):=by simp [q3u]
theorem ylr {t:Nat} {p q:Env->Prop}:q3u (.bool false) e t true p q=q (put e (some t) (.bool false)):=by simp [q3u]
theorem yls {t:Nat} {p q:Env->Prop}:q3u (.bool false) e t false p q=p (put e (some t) (.bool false)):=by simp [q3u]
theorem y8t {w:Bool} {t:Nat} {p q:Env->Prop}:q3u q06 e t w p q=q e:=rfl
theorem yhq {w:Bool} {t:Nat} {p q:Env->Prop}:q3u (.tup []) e t w p q=q e:=rfl
theorem yq2 {v:AV}:put e none v=e:=rfl
theorem yq3 {l:List (Nat×AV)} {k:Nat} {v:AV}:put (y00 l) (some k) v=y00 ((k,v) :: l):=rfl
theorem xk1 {n:Nat}:ev e (.t n)=e n:=rfl
theorem xk3 {v:AV}:ev e (.c v)=v:=rfl
theorem xk2 {f:Nat}:ev e (.f f)=.func (.func f) [] []:=rfl
def x4l (c:Bool) (v:AV) (l:List (Nat×AV)) (t:Nat):AV:=bif c then v else y00 l t
theorem y7v {v:AV} {l:List (Nat×AV)} {t:Nat}:x4l true v l t=v:=rfl
theorem y3f {v:AV} {l:List (Nat×AV)} {t:Nat}:x4l false v l t=y00 l t:=rfl
theorem yeg {k t:Nat} {v:AV} {l:List (Nat×AV)}:y00 ((k,v) :: l) t=x4l (k==t) v l t:=rfl
theorem yeh {t:Nat}:y00 [] t=.junk:=rfl
theorem yiw {ks:List Nat}:xk4 ks K e S=K (y00 (q4v ks e)) S:=rfl
theorem yli:q4v [] e=[]:=rfl
theorem yhn {k:Nat} {ks:List Nat}:q4v (k :: ks) e=(k,e k) :: q4v ks e:=rfl
def q0p (o:Option AV) (p:AV->Prop):Prop:=match o with
 | some v=>p v
 | none=>False
theorem y3a {v:AV} {p:AV->Prop}:q0p (some v) p=p v:=rfl
theorem yjn {c:Prop} [Decidable c] {v:AV} {p:AV->Prop}:q0p (if c then some v else none) p↔c/\p v:=by
 split<;>simp [q0p, *]
theorem yh4 {p:AV->Prop}:q0p none p=False:=rfl
theorem yso {x:SX}:y03 P (.mov x) d K Qp e S=K (put e d (ev e x)) S:=rfl
def y2t (c a b:AV) (p:AV->Prop):Prop:=match c with
 | .bool true=>p a
 | .bool false=>p b
 | _=>False
theorem yz9 {x y:AV} {p:AV->Prop}:y2t (.bool true) x y p=p x:=rfl
theorem yza {x y:AV} {p:AV->Prop}:y2t (.bool false) x y p=p y:=rfl
theorem y9t {c a b:SX}:y03 P (.pick c a b) d K Qp e S=y2t (ev e c) (ev e a) (ev e b) (fun v=>K (put e d v) S):=by
 show (match qev S (ev e) (.pick c a b) with | some v=>K (put e d v) S | none=>False)=_
 simp only [qev,y2t];cases ev e c with
 | bool b=>cases b<;>rfl
 | _=>rfl
theorem y9v {n:Nat} {ag:Bool} {x:SX}:y03 P (.load n ag x) d K Qp e S=q0p (qev S (ev e) (.load n ag x)) (fun v=>K (put e d v) S):=rfl
theorem y4r {x:SX}:y03 P (.nilck x) d K Qp e S=q0p (qev S (ev e) (.nilck x)) (fun v=>K (put e d v) S):=rfl
theorem ysr {b:BinOp} {x y:SX}:y03 P (.bin b x y) d K Qp e S=q0p (ywb b (ev e x) (ev e y)) (fun v=>K (put e d v) S):=rfl
theorem ysp {n:Bool} {M:Bool×List EK} {x y:SX}:y03 P (.eqp n M x y) d K Qp e S=q0p (qev S (ev e) (.eqp n M x y)) (fun v=>K (put e d v) S):=rfl
theorem y4v {n:Bool} {x:SX}:y03 P (.eqnil n x) d K Qp e S=q0p (qev S (ev e) (.eqnil n x)) (fun v=>K (put e d v) S):=rfl
theorem yfo {x:SX}:y03 P (.not x) d K Qp e S=q0p (qev S (ev e) (.not x)) (fun v=>K (put e d v) S):=rfl
theorem y9z {k:IntKind} {x:SX}:y03 P (.conv k x) d K Qp e S=q0p (qev S (ev e) (.conv k x)) (fun v=>K (put e d v) S):=rfl
theorem y4t {off n:Nat} {ag:Bool} {x:SX}:y03 P (.field off n ag x) d K Qp e S=q0p (qev S (ev e) (.field off n ag x)) (fun v=>K (put e d v) S):=rfl
theorem y4u {off:Nat} {x:SX}:y03 P (.faddr off x) d K Qp e S=q0p (qev S (ev e) (.faddr off x)) (fun v=>K (put e d v) S):=rfl
theorem y4s {sz:Nat} {x i:SX}:y03 P (.iaddr sz x i) d K Qp e S=q0p (qev S (ev e) (.iaddr sz x i)) (fun v=>K (put e d v) S):=rfl
theorem y9w {x i:SX}:y03 P (.idxs x i) d K Qp e S=q0p (qev S (ev e) (.idxs x i)) (fun v=>K (put e d v) S):=rfl
theorem y9x {l sz:Nat} {ag:Bool} {x i:SX}:y03 P (.idxa l sz ag x i) d K Qp e S=q0p (qev S (ev e) (.idxa l sz ag x i)) (fun v=>K (put e d v) S):=rfl
theorem y4p {x:SX} {lo hi:Option SX}:y03 P (.slics x lo hi) d K Qp e S=q0p (qev S (ev e) (.slics x lo hi)) (fun v=>K (put e d v) S):=rfl
theorem y4q {sz:Nat} {x:SX} {lo hi:Option SX}:y03 P (.slicl sz x lo hi) d K Qp e S=q0p (qev S (ev e) (.slicl sz x lo hi)) (fun v=>K (put e d v) S):=rfl
theorem y4w {zs:List AV} {ps:List (Nat×Nat×SX)}:y03 P (.build zs ps) d K Qp e S=q0p (qev S (ev e) (.build zs ps)) (fun v=>K (put e d v) S):=rfl
theorem y2l {M:Bool×List EK} {ok:Bool} {z:AV} {x k:SX}:y03 P (.lookup M ok z x k) d K Qp e S=q0p (qev S (ev e) (.lookup M ok z x k)) (fun v=>K (put e d v) S):=rfl
theorem y9y {x:SX} {i:Nat}:y03 P (.extr x i) d K Qp e S=q0p (qev S (ev e) (.extr x i)) (fun v=>K (put e d v) S):=rfl
theorem yfq {k:Nat} {x:SX}:y03 P (.len k x) d K Qp e S=q0p (qev S (ev e) (.len k x)) (fun v=>K (put e d v) S):=rfl
theorem y76 {f:Fn} {xs ys:List SX}:y03 P (.mkf f xs ys) d K Qp e S=K (put e d (.func f (xs.map (ev e)) (ys.map (ev e)))) S:=rfl
theorem yfp {t:Nat} {x:SX}:y03 P (.mki t x) d K Qp e S=K (put e d (.iface t (ev e x))) S:=rfl
theorem ya0 {t:Nat} {ok:Bool} {z:AV} {x:SX}:y03 P (.asrt t ok z x) d K Qp e S=q0p (qev S (ev e) (.asrt t ok z x)) (fun v=>K (put e d v) S):=rfl
theorem y9u {x y:SX}:y03 P (.max2 x y) d K Qp e S=q0p (qev S (ev e) (.max2 x y)) (fun v=>K (put e d v) S):=rfl
theorem ynh {t n:Nat} {x:SX}:y03 P (.boxr t n x) d K Qp e S=((q09 (ev e x)).length=n/\y0g (ev e x)=true/\K (put e d (.rop (q09 (ev e x)))) S):=rfl
theorem ycr {t sz:Nat} {xs:List SX}:y03 P (.bslicr t sz xs) d K Qp e S=(q8g (ev e) sz xs/\K (put e d (.sl sz (xs.map fun x=>q09 (ev e x)))) S):=rfl
theorem yin {t:Nat} {zs:List AV}:y03 P (.alloc t zs) d K Qp e S=∀ b,y01 S b=none->K (put e d (.ptr b 0)) (supd S b (.cells t zs zs.length)):=rfl
theorem ysq {t n:Nat} {x:SX}:y03 P (.box t n x) d K Qp e S=((q09 (ev e x)).length=n/\y0g (ev e x)=true/\∀ b,y01 S b=none->K (put e d (.ptr b 0)) (supd S b (.cells t (q09 (ev e x)) n))):=rfl
theorem yim {M:Bool×List EK}:y03 P (.mkmap M) d K Qp e S=∀ b,y01 S b=none->K (put e d (.map (some b))) (supd S b (.map M [] 0)):=rfl
theorem ydk {g:SX->AV} {n:Nat} {ag:Bool} {x:SX}:qev S g (.load n ag x)=(cellsOf S (g x)).bind (mkA ag n):=by
 simp only [qev];cases cellsOf S (g x)<;>rfl
theorem y24 {cs:List AV}:cellsOf S (.rop cs)=some cs:=rfl
def q2y (S:q00) (b:Nat):Option (List AV):=match y01 S b with
 | some (.cells _ cs _)=>some cs
 | _=>none
theorem q71 {b off:Nat}:cellsOf S (.ptr b off)=(q2y S b).map (·.drop off):=by
 unfold cellsOf q2y;dsimp only;cases y01 S b with
 | none=>rfl
 | some o=>cases o<;>rfl
theorem q9o {b c t tot:Nat} {cs:List AV}:q2y (supd S b (.cells t cs tot)) c=if b=c then some cs else q2y S c:=by
 unfold q2y;rw [q01];by_cases h:b=c<;>simp [h]
theorem q5g {b c clk:Nat} {M:Bool×List EK} {es:List (AV×AV×Nat)}:q2y (supd S b (.map M es clk)) c=if b=c then none else q2y S c:=by
 unfold q2y;rw [q01];by_cases h:b=c<;>simp [h]
theorem yl3 {n:Nat} {cs:List AV}:mkA true n cs=if n<=cs.length then some (.agg (cs.take n)) else none:=rfl
theorem yl2 {n:Nat} {c:AV} {cs:List AV}:mkA false n (c :: cs)=some c:=rfl
theorem q2j {b:BinOp} {k:IntKind} {x y:Int}:ywb b (.int k x) (.int k y)=y9q b k x y:=by simp [ywb]
theorem yfl {b:BinOp} {x y:ByteArray}:ywb b (.str x) (.str y)=x1u b x y:=rfl
theorem ys8 {k:IntKind} {x y:Int}:y9q .add k x y=some (.int k (k.wrap (x+y))):=rfl
theorem yrz {k:IntKind} {x y:Int}:y9q .sub k x y=some (.int k (k.wrap (x-y))):=rfl
theorem ys2 {k:IntKind} {x y:Int}:y9q .mul k x y=some (.int k (k.wrap (x * y))):=rfl
theorem ys7 {k:IntKind} {x y:Int}:y9q .eql k x y=some (.bool (decide (x=y))):=rfl
theorem ys1 {k:IntKind} {x y:Int}:y9q .neq k x y=some (.bool (!decide (x=y))):=rfl
theorem ys3 {k:IntKind} {x y:Int}:y9q .lss k x y=some (.bool (decide (x<y))):=rfl
theorem ys4 {k:IntKind} {x y:Int}:y9q .leq k x y=some (.bool (decide (x<=y))):=rfl
theorem ys5 {k:IntKind} {x y:Int}:y9q .gtr k x y=some (.bool (decide (y<x))):=rfl
theorem ys6 {k:IntKind} {x y:Int}:y9q .geq k x y=some (.bool (decide (y<=x))):=rfl
theorem yfk {x y:ByteArray}:x1u .add x y=if x.size+y.size<=9223372036854775807 then some (.str (x++y)) else none:=rfl
theorem yry {x y:ByteArray}:x1u .eql x y=some (.bool (decide (x=y))):=rfl
theorem yrx {x y:ByteArray}:x1u .neq x y=some (.bool (!decide (x=y))):=rfl
theorem yi5 {b:Bool} {p q:Prop}:yi6 (.bool b) p q↔(b=true->p)/\(b=false->q):=Iff.rfl
theorem q04 {n:Int} (h1:-9223372036854775808<=n) (h2:n<=9223372036854775807):IntKind.i64.wrap n=n:=by
 rw [IntKind.wrap_i64];omega
def yez (off:Nat):AV->Option AV
 | .ptr b o=>some (.ptr b (o+off))
 | .rop cs=>some (.rop (cs.drop off))
 | _=>none
def ye6:AV->Option AV
 | .ptr b o=>some (.ptr b o)
 | .rop cs=>some (.rop cs)
 | _=>none
def xfs (neg:Bool) (M:Bool×List EK) (x y:AV):Option AV:=if q0u M x&&q0u M y then some (.bool (if neg then !q1m x y else q1m x y)) else none
def yf4 (neg:Bool):AV->Option AV
 | .nili=>some (.bool (!neg))
 | .iface _ _=>some (.bool neg)
 | _=>none
def xfo:AV->Option AV
 | .bool b=>some (.bool (!b))
 | _=>none
def x19 (k:IntKind):AV->Option AV
 | .int _ n=>some (.int k (k.wrap n))
 | _=>none
def ym4 (off n:Nat) (ag:Bool):AV->Option AV
 | .agg cs=>if off+n<=cs.length then mkA ag n (cs.drop off) else none
 | _=>none
def yeo (sz:Nat):AV->AV->Option AV
 | .sl sz' xs,.int _ n=>if sz=sz'/\0<=n then (xs[n.toNat]?).map .rop else none
 | .own b off len _,.int _ n=>if 0<=n/\n<len then some (.ptr b (off+n.toNat * sz)) else none
 | _,_=>none
def x0m:AV->AV->Option AV
 | .str s,.int _ n=>if 0<=n then (s[n.toNat]?).map fun b=>.int .u8 b.toNat else none
 | _,_=>none
def yhp (len sz:Nat) (ag:Bool):AV->AV->Option AV
 | .agg cs,.int _ n=>if 0<=n/\n<len/\n.toNat * sz+sz<=cs.length then mkA ag sz (cs.drop (n.toNat * sz)) else none
 | _,_=>none
def x0w (i:Nat):AV->Option AV
 | .tup vs=>vs[i]?
 | _=>none
def yqx (S:q00):Nat->AV->Option AV
 | 0,.str s=>some (.int .i64 s.size)
 | 1,.sl _ xs=>some (.int .i64 xs.length)
 | 1,.nils=>some (.int .i64 0)
 | 1,.own _ _ n _=>some (.int .i64 n)
 | 2,.map (some b)=>match y01 S b with
  | some (.map _ es _)=>some (.int .i64 es.length)
  | _=>none
 | _,_=>none
def x2b (t:Nat) (ok:Bool) (z:AV):AV->Option AV
 | .iface t' v=>if t'=t then some (if ok then .tup [v,.bool true] else v) else if ok then some (.tup [z,.bool false]) else none
 | .nili=>if ok then some (.tup [z,.bool false]) else none
 | _=>none
def x0c:AV->AV->Option AV
 | .int k a,.int _ b=>some (.int k (if a<b then b else a))
 | _,_=>none
def q9v (S:q00) (b:Nat):Option ((Bool×List EK)×List (AV×AV×Nat)):=match y01 S b with
 | some (.map M es _)=>some (M,es)
 | _=>none
def y1q (ok:Bool) (z:AV):Option (Nat×AV×Nat)->AV
 | some (_,v,_)=>if ok then .tup [v,.bool true] else v
 | none=>if ok then .tup [z,.bool false] else z
def q55 (S:q00) (M:Bool×List EK) (ok:Bool) (z:AV):AV->AV->Option AV
 | .map none,k=>if q0u M k then some (y1q ok z none) else none
 | .map (some b),k=>match q9v S b with
  | some (M',es)=>if q0u M k/\M'=M then some (y1q ok z (q16 es k)) else none
  | none=>none
 | _,_=>none
def loI:Option AV->Option Int
 | none=>some 0
 | some (.int _ n)=>some n
 | _=>none
def hiI (d:Int):Option AV->Option Int
 | none=>some d
 | some (.int _ n)=>some n
 | _=>none
def y7p (lo hi:Option AV):AV->Option AV
 | .str s=>match loI lo,hiI s.size hi with
  | some l,some h=>if 0<=l/\l<=h/\h<=s.size then some (.str (s.extract l.toNat h.toNat)) else none
  | _,_=>none
 | _=>none
def q7e (sz:Nat) (lo hi:Option AV):AV->Option AV
 | .sl sz' xs=>match loI lo,hiI xs.length hi with
  | some l,some h=>if sz=sz'/\0<=l/\l<=h/\h<=xs.length then some (.sl sz ((xs.take h.toNat).drop l.toNat)) else none
  | _,_=>none
 | .own b off n cap=>match loI lo,hiI n hi with
  | some l,some h=>if 0<=l/\l<=h/\h<=cap then some (.own b (if cap=l.toNat then off else off+l.toNat * sz) (h.toNat-l.toNat) (cap-l.toNat)) else none
  | _,_=>none
 | .nils=>match loI lo,hiI 0 hi with
  | some 0,some 0=>some .nils
  | _,_=>none
 | _=>none
variable {g:SX->AV} {x y:SX} {k:IntKind} {n:Int} {b off:Nat} {cs:List AV}
theorem y8a:qev S g (.faddr off x)=yez off (g x):=by simp only [qev];cases g x<;>rfl
theorem y87:qev S g (.nilck x)=ye6 (g x):=by simp only [qev];cases g x<;>rfl
theorem yz6 {neg:Bool} {M:Bool×List EK}:qev S g (.eqp neg M x y)=xfs neg M (g x) (g y):=rfl
theorem y8b {neg:Bool}:qev S g (.eqnil neg x)=yf4 neg (g x):=by simp only [qev];cases g x<;>rfl
theorem yjz:qev S g (.not x)=xfo (g x):=by simp only [qev];cases g x<;>rfl
theorem ydr:qev S g (.conv k x)=x19 k (g x):=by simp only [qev];cases g x<;>rfl
theorem y89 {m:Nat} {ag:Bool}:qev S g (.field off m ag x)=ym4 off m ag (g x):=by simp only [qev];cases g x<;>rfl
theorem y88 {sz:Nat}:qev S g (.iaddr sz x y)=yeo sz (g x) (g y):=by simp only [qev];cases g x<;>cases g y<;>rfl
theorem ydo:qev S g (.idxs x y)=x0m (g x) (g y):=by simp only [qev];cases g x<;>cases g y<;>rfl
theorem ydp {l sz:Nat} {ag:Bool}:qev S g (.idxa l sz ag x y)=yhp l sz ag (g x) (g y):=by simp only [qev];cases g x<;>cases g y<;>rfl
theorem ydq {i:Nat}:qev S g (.extr x i)=x0w i (g x):=by simp only [qev];cases g x<;>rfl
theorem ydn:qev S g (.len 0 x)=yqx S 0 (g x):=by simp only [qev];cases g x<;>rfl
theorem ydm:qev S g (.len 1 x)=yqx S 1 (g x):=by simp only [qev];cases g x<;>rfl
theorem ydl:qev S g (.len 2 x)=yqx S 2 (g x):=by
 simp only [qev];cases g x<;>try rfl
 rename_i o
 cases o<;>rfl
theorem yds {t:Nat} {ok:Bool} {z:AV}:qev S g (.asrt t ok z x)=x2b t ok z (g x):=by simp only [qev];cases g x<;>rfl
theorem ydj:qev S g (.max2 x y)=x0c (g x) (g y):=by simp only [qev];cases g x<;>cases g y<;>rfl
theorem y8d {zs:List AV} {ps:List (Nat×Nat×SX)}:qev S g (.build zs ps)=(q4y g ps zs).map .agg:=rfl
theorem y3l {M:Bool×List EK} {ok:Bool} {z:AV}:qev S g (.lookup M ok z x y)=q55 S M ok z (g x) (g y):=by
 simp only [qev];cases g x<;>try (simp [q55];done)
 rename_i o
 cases o with
 | none=>simp only [q55,y1q]
 | some b=>
  simp only [q55,q9v];cases y01 S b with
  | none=>simp
  | some q=>
   cases q with
   | cells=>simp
   | map M' es clk=>
    simp only [];by_cases h1:q0u M (g y)=true<;>by_cases h2:M'=M<;>simp [h1,h2]
    cases q16 es (g y) with
    | none=>simp [y1q]
    | some p=>obtain ⟨i,v,bn⟩:=p;simp [y1q]
theorem yfi {o:Option SX}:bnd g 0 o=loI (o.map g):=by
 cases o with
 | none=>rfl
 | some z=>simp only [bnd,Option.map_some];cases g z<;>rfl
theorem yfj {d:Nat} {o:Option SX}:bnd g d o=hiI d (o.map g):=by
 cases o with
 | none=>rfl
 | some z=>simp only [bnd,Option.map_some];cases g z<;>rfl
theorem y85 {lo hi:Option SX}:qev S g (.slics x lo hi)=y7p (lo.map g) (hi.map g) (g x):=by
 simp only [qev];cases g x<;>try rfl
 simp only [y7p];rw [yfi (o:=lo),yfj];generalize loI _=a;generalize hiI _ _=c;cases a<;>cases c<;>rfl
theorem y86 {sz:Nat} {lo hi:Option SX}:qev S g (.slicl sz x lo hi)=q7e sz (lo.map g) (hi.map g) (g x):=by
 simp only [qev];cases g x<;>try rfl
 ·simp only [q7e];rw [yfi (o:=lo),yfj (o:=hi)];generalize loI _=a;generalize hiI _ _=c;rfl
 ·simp only [q7e];rw [yfi (o:=lo),yfj (o:=hi)];generalize loI _=a;generalize hiI _ _=c;cases a<;>cases c<;>rfl
 ·simp only [q7e];rw [yfi (o:=lo),yfj (o:=hi)];generalize loI _=a;generalize hiI _ _=c;cases a<;>cases c<;>rfl
theorem y2v {c clk:Nat} {M:Bool×List EK} {es:List (AV×AV×Nat)}:q9v (supd S b (.map M es clk)) c=if b=c then some (M,es) else q9v S c:=by
 unfold q9v;rw [q01];by_cases h:b=c<;>simp [h]
theorem q9u {c t tot:Nat}:q9v (supd S b (.cells t cs tot)) c=if b=c then none else q9v S c:=by
 unfold q9v;rw [q01];by_cases h:b=c<;>simp [h]
theorem yhz {o:Nat}:yez off (.ptr b o)=some (.ptr b (o+off)):=rfl
theorem yhy:yez off (.rop cs)=some (.rop (cs.drop off)):=rfl
theorem yhf {o:Nat}:ye6 (.ptr b o)=some (.ptr b o):=rfl
theorem yhe:ye6 (.rop cs)=some (.rop cs):=rfl
theorem yi0 {neg:Bool}:yf4 neg .nili=some (.bool (!neg)):=rfl
theorem y8z {neg:Bool} {t:Nat} {v:AV}:yf4 neg (.iface t v)=some (.bool neg):=rfl
theorem ykr {c:Bool}:xfo (.bool c)=some (.bool (!c)):=rfl
theorem ymk {k':IntKind}:x19 k (.int k' n)=some (.int k (k.wrap n)):=rfl
theorem y45 {m:Nat} {ag:Bool}:ym4 off m ag (.agg cs)=if off+m<=cs.length then mkA ag m (cs.drop off) else none:=rfl
theorem y8s {sz sz':Nat} {xs:List (List AV)}:yeo sz (.sl sz' xs) (.int k n)=if sz=sz'/\0<=n then (xs[n.toNat]?).map .rop else none:=rfl
theorem y3w {sz l cap:Nat}:yeo sz (.own b off l cap) (.int k n)=if 0<=n/\n<l then some (.ptr b (off+n.toNat * sz)) else none:=rfl
theorem y8r {s:ByteArray}:x0m (.str s) (.int k n)=if 0<=n then (s[n.toNat]?).map fun b=>.int .u8 b.toNat else none:=rfl
theorem ym5 {i:Nat}:x0w i (.tup cs)=cs[i]?:=rfl
theorem yqv {s:ByteArray}:yqx S 0 (.str s)=some (.int .i64 s.size):=rfl
theorem x0i {sz:Nat} {xs:List (List AV)}:yqx S 1 (.sl sz xs)=some (.int .i64 xs.length):=rfl
theorem ylb:yqx S 1 .nils=some (.int .i64 0):=rfl
theorem yqw {l cap:Nat}:yqx S 1 (.own b off l cap)=some (.int .i64 l):=rfl
theorem yl6 {k':IntKind} {m:Int}:x0c (.int k n) (.int k' m)=some (.int k (if n<m then m else n)):=rfl
theorem y8l {M:Bool×List EK} {ok:Bool} {z:AV} {v:AV} {M':Bool×List EK} {es:List (AV×AV×Nat)} (h:q9v S b=some (M',es)):q55 S M ok z (.map (some b)) v=if q0u M v/\M'=M then some (y1q ok z (q16 es v)) else none:=by
 simp only [q55,h]
theorem yee:loI none=some 0:=rfl
theorem yl7:loI (some (.int k n))=some n:=rfl
theorem yep {d:Int}:hiI d none=some d:=rfl
theorem ylm {d:Int}:hiI d (some (.int k n))=some n:=rfl
def yi4 (l h:Option Int) (d:Int) (p:Nat->Nat->AV):Option AV:=match l,h with
 | some l,some h=>if 0<=l/\l<=h/\h<=d then some (p l.toNat h.toNat) else none
 | _,_=>none
theorem y94 {l h d:Int} {p:Nat->Nat->AV}:yi4 (some l) (some h) d p=if 0<=l/\l<=h/\h<=d then some (p l.toNat h.toNat) else none:=rfl
theorem y3b {lo hi:Option AV} {s:ByteArray}:y7p lo hi (.str s)=yi4 (loI lo) (hiI s.size hi) s.size fun l h=>.str (s.extract l h):=by
 simp only [y7p,yi4]
theorem y3d {sz:Nat} {lo hi:Option AV} {xs:List (List AV)}:q7e sz lo hi (.sl sz xs)=yi4 (loI lo) (hiI xs.length hi) xs.length fun l h=>.sl sz ((xs.take h).drop l):=by
 simp only [q7e,yi4,true_and]
theorem y3c {sz l cap:Nat} {lo hi:Option AV}:q7e sz lo hi (.own b off l cap)=yi4 (loI lo) (hiI l hi) cap fun p h=>.own b (if cap=p then off else off+p * sz) (h-p) (cap-p):=by
 simp only [q7e,yi4]
end
@[congr] theorem x3u {c c':Bool} {v:AV} {l:List (Nat×AV)} {t:Nat} (h:c=c'):x4l c v l t=x4l c' v l t:=h ▸ rfl
@[congr] theorem yyp {o o':Option AV} {p:AV->Prop} (h:o=o'):q0p o p=q0p o' p:=h ▸ rfl
@[congr] theorem yzb {c c' a b:AV} {p:AV->Prop} (h:c=c'):y2t c a b p=y2t c' a b p:=h ▸ rfl
@[congr] theorem yw0 {v v':AV} {e e':Env} {t:Nat} {w:Bool} {p q:Env->Prop} (h:v=v') (h':e=e'):q3u v e t w p q=q3u v' e' t w p q:=by subst h;subst h';rfl
@[congr] theorem x1a {v v':AV} {p q:Prop} (h:v=v'):yi6 v p q=yi6 v' p q:=h ▸ rfl
@[congr] theorem x8j {P:Program} {s:SI} {K:Env->q00->Prop} {Qp:AV->q00->Prop} {e e':Env} {S:q00} (h:e=e'):aop P s K Qp e S=aop P s K Qp e' S:=h ▸ rfl
@[congr] theorem x40 {P:Program} {s:List SI} {K:Env->q00->Prop} {Qp:AV->q00->Prop} {e e':Env} {S:q00} (h:e=e'):y0o P s K Qp e S=y0o P s K Qp e' S:=h ▸ rfl
@[congr] theorem x41 {P:Program} {o:SOp} {d:Option Nat} {K:Env->q00->Prop} {Qp:AV->q00->Prop} {e e':Env} {S:q00} (h:e=e'):y03 P o d K Qp e S=y03 P o d K Qp e' S:=h ▸ rfl
@[congr] theorem x2k {x:List Nat} {e:Env} {S:q00} {K:Env->q00->Prop} {e':Env} {S':q00} {e'':Env} (h:e'=e''):ynm x e S K e' S'=ynm x e S K e'' S':=h ▸ rfl
def APost.seq (Q:APost) (P:Program) (N:Nat) (y:q76):APost:={ Q with norm:=Aw P N y Q }
def APost.blk (Q:APost) (id:Nat):APost:={ Q with exit:=fun i e S=>if i=id then Q.norm e S else Q.exit i e S }
def APost.lp (Q:APost) {α:Type} (env:α->List (Nat×AV)) (st:α->q00) (inv:α->Prop) (mu:α->Nat) (x:α):APost:=
 { Q with norm:=fun e S=>∃ x',inv x'/\mu x'<mu x/\e=y00 (env x')/\Sub (st x') S }
section
variable {P:Program} {N:Nat} {Q:APost} {e:Env} {S:q00}
def APost.mid (Q:APost) {α:Type} (env:α->List (Nat×AV)) (st:α->q00) (inv:α->Prop):APost:={ Q with norm:=fun e S=>∃ z,inv z/\e=y00 (env z)/\Sub (st z) S }
variable {P':Program} {N':Nat} {y:q76} {i j:Nat} {rs:List y7d} {QF:AEnd->q00->Prop} {u:AV}
end
attribute [irreducible] APost.seq APost.blk APost.lp APost.mid
section
variable {cs:List AV} {k:IntKind} {n:Int} {s:ByteArray} {sz:Nat} {xs:List (List AV)} {b o l c:Nat} {m:Option Nat} {f:Fn} {ys zs:List AV}
theorem yit:q09 (.int k n)=[.int k n]:=rfl
theorem yqn:y0g (.int k n)=true:=rfl
theorem yio:q09 (.str s)=[.str s]:=rfl
theorem yqi:y0g (.str s)=true:=rfl
theorem ycw {q:Bool}:q09 (.bool q)=[.bool q]:=rfl
theorem ykq {q:Bool}:y0g (.bool q)=true:=rfl
theorem ynk:q09 (.sl sz xs)=[.sl sz xs]:=rfl
theorem x03:y0g (.sl sz xs)=true:=rfl
theorem yip:q09 (.rop cs)=[.rop cs]:=rfl
theorem yqj:y0g (.rop cs)=true:=rfl
theorem yiq:q09 (.ptr b o)=[.ptr b o]:=rfl
theorem yqk:y0g (.ptr b o)=true:=rfl
theorem yir:q09 (.own b o l c)=[.own b o l c]:=rfl
theorem yql:y0g (.own b o l c)=true:=rfl
theorem yct:q09 (.nils)=[.nils]:=rfl
theorem ykn:y0g (.nils)=true:=rfl
theorem yis:q09 (.map m)=[.map m]:=rfl
theorem yqm:y0g (.map m)=true:=rfl
theorem ycv:q09 (.func f ys zs)=[.func f ys zs]:=rfl
theorem ykp:y0g (.func f ys zs)=true:=rfl
theorem ycu:q09 (.nilp)=[.nilp]:=rfl
theorem yko:y0g (.nilp)=true:=rfl
theorem y4y:q09 (.agg cs)=cs:=rfl
theorem ye5:y0g (.agg cs)=true:=rfl
theorem yne {g:SX->AV}:q8g g sz []=True:=rfl
theorem yik {g:SX->AV} {x:SX} {r:List SX}:q8g g sz (x :: r)=((q09 (g x)).length=sz/\y0g (g x)=true/\q8g g sz r):=rfl
theorem yig {g:SX->AV}:q4y g [] cs=some cs:=rfl
theorem ycn {g:SX->AV} {off j:Nat} {x:SX} {r:List (Nat×Nat×SX)}:q4y g ((off,j,x) :: r) cs=if (q09 (g x)).length=j/\off+j<=cs.length/\y0g (g x)=true then q4y g r (q1t cs off (q09 (g x))) else none:=rfl
theorem ym3 {off:Nat}:q1t cs off []=cs:=rfl
theorem yhx {off:Nat} {v:AV} {r:List AV}:q1t cs off (v :: r)=q1t (cs.set off v) (off+1) r:=rfl
end
def y02 (P:Program) (f:Nat) (args:List AV) (v:AV):Prop:=∀ S:q00,ACalls P f args S fun ae S'=>ae=.ret v/\S'=S
section
variable {P:Program} {K:Env->q00->Prop} {Qp:AV->q00->Prop} {e:Env} {S:q00} {d:Option Nat}
theorem q0e {α:Type} {l:List α} {i:Nat} (h:(i:Int)<l.length):∃ x,l[i]?=some x:=⟨_,List.getElem?_eq_getElem (by omega)⟩
end
def hl1:=And.intro @ysk (And.intro @yn5 (And.intro @yn7 (And.intro @ysm (And.intro @ycx (And.intro @yn8 (And.intro @y34 (And.intro @ylp (And.intro @ylq (And.intro @ylr (And.intro @yls (And.intro @y8t (And.intro @yhq (And.intro @yq2 (And.intro @yq3 (And.intro @xk1 (And.intro @xk3 (And.intro @xk2 (And.intro @yeg (And.intro @y7v (And.intro @y3f (And.intro @yeh (And.intro @yiw (And.intro @yli (And.intro @yhn (And.intro @y3a (And.intro @yjn (And.intro @yh4 (@yso))))))))))))))))))))))))))))
def hl2:=And.intro @yz9 (And.intro @yza (And.intro @y9t (And.intro @y9v (And.intro @y4r (And.intro @ysr (And.intro @ysp (And.intro @y4v (And.intro @yfo (And.intro @y9z (And.intro @y4t (And.intro @y4u (And.intro @y4s (And.intro @y9w (And.intro @y9x (And.intro @y4p (And.intro @y4q (And.intro @y4w (And.intro @y2l (And.intro @y9y (And.intro @yfq (And.intro @y76 (And.intro @yfp (And.intro @ya0 (And.intro @y9u (@ynh)))))))))))))))))))))))))
def hl3:=And.intro @ycr (And.intro @yin (And.intro @ysq (And.intro @yim (And.intro @ydk (And.intro @y8a (And.intro @y87 (And.intro @yz6 (And.intro @y8b (And.intro @yjz (And.intro @ydr (And.intro @y89 (And.intro @y88 (And.intro @ydo (And.intro @ydp (And.intro @ydq (And.intro @ydn (And.intro @ydm (And.intro @ydl (And.intro @yds (And.intro @ydj (And.intro @y8d (And.intro @y3l (And.intro @y85 (@y86))))))))))))))))))))))))
def hl4:=And.intro @y2v (And.intro @q9u (And.intro @yhz (And.intro @yhy (And.intro @yhf (And.intro @yhe (And.intro @yi0 (And.intro @y8z (And.intro @ykr (And.intro @ymk (And.intro @y45 (And.intro @y8s (And.intro @y3w (And.intro @y8r (And.intro @ym5 (And.intro @yqv (And.intro @x0i (And.intro @ylb (And.intro @yqw (And.intro @yl6 (And.intro @yee (And.intro @yl7 (And.intro @yep (And.intro @ylm (@y94))))))))))))))))))))))))
def hl5:=And.intro @y3b (And.intro @y3d (And.intro @y3c (And.intro @y24 (And.intro @q71 (And.intro @q9o (And.intro @q5g (And.intro @yl3 (And.intro @yl2 (And.intro @q2j (And.intro @yfl (And.intro @ys8 (And.intro @yrz (And.intro @ys2 (And.intro @ys7 (And.intro @ys1 (And.intro @ys3 (And.intro @ys4 (And.intro @ys5 (And.intro @ys6 (And.intro @yfk (And.intro @yry (And.intro @yrx (And.intro @yi5 (@y4y))))))))))))))))))))))))
def hl6:=And.intro @yit (And.intro @yio (And.intro @ycw (And.intro @ynk (And.intro @yip (And.intro @yiq (And.intro @yir (And.intro @yct (And.intro @yis (And.intro @ycv (And.intro @ycu (And.intro @ye5 (And.intro @yqn (And.intro @yqi (And.intro @ykq (And.intro @x03 (And.intro @yqj (And.intro @yqk (And.intro @yql (And.intro @ykn (And.intro @yqm (And.intro @ykp (And.intro @yko (And.intro @yne (@yik))))))))))))))))))))))))
def hl7:=And.intro @yig (And.intro @ycn (And.intro @ym3 @yhx))
def hlc:=And.intro @Bool.true_and (And.intro @Bool.and_true (And.intro @Bool.false_and (And.intro @Bool.and_false (And.intro @Bool.not_true (And.intro @Bool.not_false (And.intro @Option.bind_some.{0,0} (And.intro @Option.map_some.{0,0} (And.intro @Option.map_none.{0,0} (And.intro @Option.bind_none.{0,0} (And.intro @List.drop_succ_cons.{0} (And.intro @List.drop_zero.{0} (And.intro @List.take_succ_cons.{0} (And.intro @List.take_zero.{0} (And.intro @List.length_cons.{0} (And.intro @List.length_nil.{0} (And.intro @List.set_cons_zero.{0} (And.intro @List.set_cons_succ.{0} (And.intro @List.map_cons.{0,0} (And.intro @List.map_nil.{0,0} (And.intro @List.getElem?_cons_zero.{0} (And.intro @List.getElem?_cons_succ.{0} (And.intro @List.getElem?_map.{0,0} (And.intro @List.length_map.{0,0} (And.intro @Int.toNat_natCast (And.intro @Int.natCast_nonneg (And.intro @Int.toNat_zero (And.intro @Nat.add_zero (And.intro @Nat.zero_add (And.intro @if_true.{1} (And.intro @if_false.{1} (And.intro @true_and (And.intro @and_true (And.intro @and_self (And.intro @decide_eq_true_eq (And.intro @decide_eq_false_iff_not (And.intro @Bool.not_eq_true' (And.intro @Bool.not_eq_false' (And.intro @Classical.not_not (And.intro @true_implies (And.intro @false_implies (And.intro @implies_true.{1} (@forall_const.{1}))))))))))))))))))))))))))))))))))))))))))
end Go.HL
