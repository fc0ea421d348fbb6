/- A part of a proof. -/
import Derived.Test.YtadmdlpmikoghaaGreatKeHlH
set_option linter.defProp false
set_option linter.unusedSimpArgs false
set_option linter.unusedVariables false
namespace Go.HL
section
variable {P:Program} {K:Env->q00->Prop} {Qp:AV->q00->Prop} {e:Env} {S:q00} {d:Option Nat}
theorem yre:y2l P [] K Qp e S=K e S:=rfl
theorem ymb {s:SI} {r:List SI}:y2l P (s :: r) K Qp e S=aop P s (y2l P r K Qp) Qp e S:=rfl
theorem ymd {o:SOp}:aop P { d:=d,o:=o,g:=none,x:=[] } K Qp e S=y03 P o d K Qp e S:=rfl
def ymq (x:List Nat) (e:Env) (S:q00) (K:Env->q00->Prop):Env->q00->Prop:=fun e' S'=>Kept x e S S'/\K e' S'
theorem yrg {o:SOp} {t:Nat} {x:List Nat}:aop P { d:=d,o:=o,g:=none,x:=t :: x } K Qp e S=y03 P o d (ymq (t :: x) e S K) Qp e S:=rfl
theorem ycg {x:List Nat} {e':Env} {S':q00}:ymq x e S K e' S'=(Kept x e S S'/\K e' S'):=rfl
def q3g (v:AV) (e:Env) (t:Nat) (want:Bool) (p q:Env->Prop):Prop:=match v with
 | .bool b=>(b=want->p (put e (some t) (.bool want)))/\(b=!want->q (put e (some t) (.bool (!want))))
 | .tup []=>q e
 | _=>False
theorem yp3 {t:Nat} {v:AV} (h:e t=v):put e (some t) v=e:=by
 funext k
 simp only [put,q2d];split
 ·rename_i h1;rw [<- h1,h]
 ·rfl
theorem ye5 {s:SI} {t:Nat} {w:Bool} (hg:s.g=some (t,w)):aop P s K Qp e S=q3g (e t) e t w (fun e=>y03 P s.o s.d (KX s.x e S K) Qp e S) (fun e=>K (put e s.d q07) S):=by
 unfold aop q3g;rw [hg];dsimp only;cases hv:e t with
 | bool b=>
  apply propext
  dsimp only;cases b<;>cases w<;>simp [yp3 hv]
 | tup vs=>cases vs<;>rfl
 | _=>rfl
theorem yme {o:SOp} {t:Nat} {w:Bool}:aop P { d:=d,o:=o,g:=some (t,w),x:=[] } K Qp e S=q3g (e t) e t w (fun e=>y03 P o d K Qp e S) (fun e=>K (put e d q07) S):=ye5 rfl
theorem y31 {o:SOp} {t u:Nat} {w:Bool} {x:List Nat}:aop P { d:=d,o:=o,g:=some (t,w),x:=u :: x } K Qp e S=q3g (e t) e t w (fun e=>y03 P o d (ymq (u :: x) e S K) Qp e S) (fun e=>K (put e d q07) S):=ye5 rfl
theorem yl4 {t:Nat} {p q:Env->Prop}:q3g (.bool true) e t true p q=p (put e (some t) (.bool true)):=by simp [q3g]
theorem yl5 {t:Nat} {p q:Env->Prop}:q3g (.bool true) e t false p q=q (put e (some t) (.bool true)):=by simp [q3g]
theorem yl6 {t:Nat} {p q:Env->Prop}:q3g (.bool false) e t true p q=q (put e (some t) (.bool false)):=by simp [q3g]
theorem yl7 {t:Nat} {p q:Env->Prop}:q3g (.bool false) e t false p q=p (put e (some t) (.bool false)):=by simp [q3g]
theorem y8i {w:Bool} {t:Nat} {p q:Env->Prop}:q3g q07 e t w p q=q e:=rfl
theorem yh7 {w:Bool} {t:Nat} {p q:Env->Prop}:q3g (.tup []) e t w p q=q e:=rfl
theorem yp4 {v:AV}:put e none v=e:=rfl
theorem yp5 {l:List (Nat×AV)} {k:Nat} {v:AV}:put (y00 l) (some k) v=y00 ((k,v) :: l):=rfl
theorem xm7 {n:Nat}:ev e (.t n)=e n:=rfl
theorem xm9 {v:AV}:ev e (.c v)=v:=rfl
theorem xm8 {f:Nat}:ev e (.f f)=.func (.func f) [] []:=rfl
def x5t (c:Bool) (v:AV) (l:List (Nat×AV)) (t:Nat):AV:=bif c then v else y00 l t
theorem y7h {v:AV} {l:List (Nat×AV)} {t:Nat}:x5t true v l t=v:=rfl
theorem y39 {v:AV} {l:List (Nat×AV)} {t:Nat}:x5t false v l t=y00 l t:=rfl
theorem ydv {k t:Nat} {v:AV} {l:List (Nat×AV)}:y00 ((k,v) :: l) t=x5t (k==t) v l t:=rfl
theorem ydw {t:Nat}:y00 [] t=.junk:=rfl
theorem yic {ks:List Nat}:x12 ks K e S=K (y00 (q50 ks e)) S:=rfl
theorem ykw:q50 [] e=[]:=rfl
theorem yh5 {k:Nat} {ks:List Nat}:q50 (k :: ks) e=(k,e k) :: q50 ks e:=rfl
def q0s (o:Option AV) (p:AV->Prop):Prop:=match o with
 | some v=>p v
 | none=>False
theorem y34 {v:AV} {p:AV->Prop}:q0s (some v) p=p v:=rfl
theorem yiz {c:Prop} [Decidable c] {v:AV} {p:AV->Prop}:q0s (if c then some v else none) p↔c/\p v:=by
 split<;>simp [q0s, *]
theorem ygj {p:AV->Prop}:q0s none p=False:=rfl
theorem yri {x:SX}:y03 P (.mov x) d K Qp e S=K (put e d (ev e x)) S:=rfl
def y2p (c a b:AV) (p:AV->Prop):Prop:=match c with
 | .bool true=>p a
 | .bool false=>p b
 | _=>False
theorem yxv {x y:AV} {p:AV->Prop}:y2p (.bool true) x y p=p x:=rfl
theorem yxw {x y:AV} {p:AV->Prop}:y2p (.bool false) x y p=p y:=rfl
theorem y9j {c a b:SX}:y03 P (.pick c a b) d K Qp e S=y2p (ev e c) (ev e a) (ev e b) (fun v=>K (put e d v) S):=by
 show (match qev S (ev e) (.pick c a b) with | some v=>K (put e d v) S | none=>False)=_
 simp only [qev,y2p];cases ev e c with
 | bool b=>cases b<;>rfl
 | _=>rfl
theorem y9l {n:Nat} {ag:Bool} {x:SX}:y03 P (.load n ag x) d K Qp e S=q0s (qev S (ev e) (.load n ag x)) (fun v=>K (put e d v) S):=rfl
theorem y4k {x:SX}:y03 P (.nilck x) d K Qp e S=q0s (qev S (ev e) (.nilck x)) (fun v=>K (put e d v) S):=rfl
theorem yrl {b:BinOp} {x y:SX}:y03 P (.bin b x y) d K Qp e S=q0s (yux b (ev e x) (ev e y)) (fun v=>K (put e d v) S):=rfl
theorem yrj {n:Bool} {M:Bool×List EK} {x y:SX}:y03 P (.eqp n M x y) d K Qp e S=q0s (qev S (ev e) (.eqp n M x y)) (fun v=>K (put e d v) S):=rfl
theorem y4o {n:Bool} {x:SX}:y03 P (.eqnil n x) d K Qp e S=q0s (qev S (ev e) (.eqnil n x)) (fun v=>K (put e d v) S):=rfl
theorem yf2 {x:SX}:y03 P (.not x) d K Qp e S=q0s (qev S (ev e) (.not x)) (fun v=>K (put e d v) S):=rfl
theorem y9p {k:IntKind} {x:SX}:y03 P (.conv k x) d K Qp e S=q0s (qev S (ev e) (.conv k x)) (fun v=>K (put e d v) S):=rfl
theorem y4m {off n:Nat} {ag:Bool} {x:SX}:y03 P (.field off n ag x) d K Qp e S=q0s (qev S (ev e) (.field off n ag x)) (fun v=>K (put e d v) S):=rfl
theorem y4n {off:Nat} {x:SX}:y03 P (.faddr off x) d K Qp e S=q0s (qev S (ev e) (.faddr off x)) (fun v=>K (put e d v) S):=rfl
theorem y4l {sz:Nat} {x i:SX}:y03 P (.iaddr sz x i) d K Qp e S=q0s (qev S (ev e) (.iaddr sz x i)) (fun v=>K (put e d v) S):=rfl
theorem y9m {x i:SX}:y03 P (.idxs x i) d K Qp e S=q0s (qev S (ev e) (.idxs x i)) (fun v=>K (put e d v) S):=rfl
theorem y9n {l sz:Nat} {ag:Bool} {x i:SX}:y03 P (.idxa l sz ag x i) d K Qp e S=q0s (qev S (ev e) (.idxa l sz ag x i)) (fun v=>K (put e d v) S):=rfl
theorem y4i {x:SX} {lo hi:Option SX}:y03 P (.slics x lo hi) d K Qp e S=q0s (qev S (ev e) (.slics x lo hi)) (fun v=>K (put e d v) S):=rfl
theorem y4j {sz:Nat} {x:SX} {lo hi:Option SX}:y03 P (.slicl sz x lo hi) d K Qp e S=q0s (qev S (ev e) (.slicl sz x lo hi)) (fun v=>K (put e d v) S):=rfl
theorem y4p {zs:List AV} {ps:List (Nat×Nat×SX)}:y03 P (.build zs ps) d K Qp e S=q0s (qev S (ev e) (.build zs ps)) (fun v=>K (put e d v) S):=rfl
theorem y2j {M:Bool×List EK} {ok:Bool} {z:AV} {x k:SX}:y03 P (.lookup M ok z x k) d K Qp e S=q0s (qev S (ev e) (.lookup M ok z x k)) (fun v=>K (put e d v) S):=rfl
theorem y9o {x:SX} {i:Nat}:y03 P (.extr x i) d K Qp e S=q0s (qev S (ev e) (.extr x i)) (fun v=>K (put e d v) S):=rfl
theorem yf5 {k:Nat} {x:SX}:y03 P (.len k x) d K Qp e S=q0s (qev S (ev e) (.len k x)) (fun v=>K (put e d v) S):=rfl
theorem yf4 {f:Fn} {xs ys:List SX}:y03 P (.mkf f xs ys) d K Qp e S=K (put e d (.func f (xs.map (ev e)) (ys.map (ev e)))) S:=rfl
theorem yf3 {t:Nat} {x:SX}:y03 P (.mki t x) d K Qp e S=K (put e d (.iface t (ev e x))) S:=rfl
theorem y9q {t:Nat} {ok:Bool} {z:AV} {x:SX}:y03 P (.asrt t ok z x) d K Qp e S=q0s (qev S (ev e) (.asrt t ok z x)) (fun v=>K (put e d v) S):=rfl
theorem y9k {x y:SX}:y03 P (.max2 x y) d K Qp e S=q0s (qev S (ev e) (.max2 x y)) (fun v=>K (put e d v) S):=rfl
theorem ymm {t n:Nat} {x:SX}:y03 P (.boxr t n x) d K Qp e S=((q0a (ev e x)).length=n/\y0b (ev e x)=true/\K (put e d (.rop (q0a (ev e x)))) S):=rfl
theorem ycb {t sz:Nat} {xs:List SX}:y03 P (.bslicr t sz xs) d K Qp e S=(q7n (ev e) sz xs/\K (put e d (.sl sz (xs.map fun x=>q0a (ev e x)))) S):=rfl
theorem yi2 {t:Nat} {zs:List AV}:y03 P (.alloc t zs) d K Qp e S=∀ b,y01 S b=none->K (put e d (.ptr b 0)) (supd S b (.cells t zs zs.length)):=rfl
theorem yrk {t n:Nat} {x:SX}:y03 P (.box t n x) d K Qp e S=((q0a (ev e x)).length=n/\y0b (ev e x)=true/\∀ b,y01 S b=none->K (put e d (.ptr b 0)) (supd S b (.cells t (q0a (ev e x)) n))):=rfl
theorem yi1 {M:Bool×List EK}:y03 P (.mkmap M) d K Qp e S=∀ b,y01 S b=none->K (put e d (.map (some b))) (supd S b (.map M [] 0)):=rfl
theorem yd3 {g:SX->AV} {n:Nat} {ag:Bool} {x:SX}:qev S g (.load n ag x)=(cellsOf S (g x)).bind (mkA ag n):=by
 simp only [qev];cases cellsOf S (g x)<;>rfl
theorem y1z {cs:List AV}:cellsOf S (.rop cs)=some cs:=rfl
def q2e (S:q00) (b:Nat):Option (List AV):=match y01 S b with
 | some (.cells _ cs _)=>some cs
 | _=>none
theorem q6j {b off:Nat}:cellsOf S (.ptr b off)=(q2e S b).map (·.drop off):=by
 unfold cellsOf q2e;dsimp only;cases y01 S b with
 | none=>rfl
 | some o=>cases o<;>rfl
theorem q91 {b c t tot:Nat} {cs:List AV}:q2e (supd S b (.cells t cs tot)) c=if b=c then some cs else q2e S c:=by
 unfold q2e;rw [q01];by_cases h:b=c<;>simp [h]
theorem q4o {b c clk:Nat} {M:Bool×List EK} {es:List (AV×AV×Nat)}:q2e (supd S b (.map M es clk)) c=if b=c then none else q2e S c:=by
 unfold q2e;rw [q01];by_cases h:b=c<;>simp [h]
theorem ykf {n:Nat} {cs:List AV}:mkA true n cs=if n<=cs.length then some (.agg (cs.take n)) else none:=rfl
theorem yke {n:Nat} {c:AV} {cs:List AV}:mkA false n (c :: cs)=some c:=rfl
theorem q2k {b:BinOp} {k:IntKind} {x y:Int}:yux b (.int k x) (.int k y)=y9f b k x y:=by simp [yux]
theorem yez {b:BinOp} {x y:ByteArray}:yux b (.str x) (.str y)=x0c b x y:=rfl
theorem yr1 {k:IntKind} {x y:Int}:y9f .add k x y=some (.int k (k.wrap (x+y))):=rfl
theorem yqs {k:IntKind} {x y:Int}:y9f .sub k x y=some (.int k (k.wrap (x-y))):=rfl
theorem yqv {k:IntKind} {x y:Int}:y9f .mul k x y=some (.int k (k.wrap (x * y))):=rfl
theorem yr0 {k:IntKind} {x y:Int}:y9f .eql k x y=some (.bool (decide (x=y))):=rfl
theorem yqu {k:IntKind} {x y:Int}:y9f .neq k x y=some (.bool (!decide (x=y))):=rfl
theorem yqw {k:IntKind} {x y:Int}:y9f .lss k x y=some (.bool (decide (x<y))):=rfl
theorem yqx {k:IntKind} {x y:Int}:y9f .leq k x y=some (.bool (decide (x<=y))):=rfl
theorem yqy {k:IntKind} {x y:Int}:y9f .gtr k x y=some (.bool (decide (y<x))):=rfl
theorem yqz {k:IntKind} {x y:Int}:y9f .geq k x y=some (.bool (decide (y<=x))):=rfl
theorem yey {x y:ByteArray}:x0c .add x y=if x.size+y.size<=9223372036854775807 then some (.str (x++y)) else none:=rfl
theorem yqr {x y:ByteArray}:x0c .eql x y=some (.bool (decide (x=y))):=rfl
theorem yqq {x y:ByteArray}:x0c .neq x y=some (.bool (!decide (x=y))):=rfl
theorem yhj {b:Bool} {p q:Prop}:yhk (.bool b) p q↔(b=true->p)/\(b=false->q):=Iff.rfl
theorem q05 {n:Int} (h1:-9223372036854775808<=n) (h2:n<=9223372036854775807):IntKind.i64.wrap n=n:=by
 rw [IntKind.wrap_i64];omega
def yee (off:Nat):AV->Option AV
 | .ptr b o=>some (.ptr b (o+off))
 | .rop cs=>some (.rop (cs.drop off))
 | _=>none
def ydk:AV->Option AV
 | .ptr b o=>some (.ptr b o)
 | .rop cs=>some (.rop cs)
 | _=>none
def xi6 (neg:Bool) (M:Bool×List EK) (x y:AV):Option AV:=if q0x M x&&q0x M y then some (.bool (if neg then !q1h x y else q1h x y)) else none
def yej (neg:Bool):AV->Option AV
 | .nili=>some (.bool (!neg))
 | .iface _ _=>some (.bool neg)
 | _=>none
def xi3:AV->Option AV
 | .bool b=>some (.bool (!b))
 | _=>none
def yzq (k:IntKind):AV->Option AV
 | .int _ n=>some (.int k (k.wrap n))
 | _=>none
def ylh (off n:Nat) (ag:Bool):AV->Option AV
 | .agg cs=>if off+n<=cs.length then mkA ag n (cs.drop off) else none
 | _=>none
def ye3 (sz:Nat):AV->AV->Option AV
 | .sl sz' xs,.int _ n=>if sz=sz'/\0<=n then (xs[n.toNat]?).map .rop else none
 | .own b off len _,.int _ n=>if 0<=n/\n<len then some (.ptr b (off+n.toNat * sz)) else none
 | _,_=>none
def yz6:AV->AV->Option AV
 | .str s,.int _ n=>if 0<=n then (s[n.toNat]?).map fun b=>.int .u8 b.toNat else none
 | _,_=>none
def x88 (len sz:Nat) (ag:Bool):AV->AV->Option AV
 | .agg cs,.int _ n=>if 0<=n/\n<len/\n.toNat * sz+sz<=cs.length then mkA ag sz (cs.drop (n.toNat * sz)) else none
 | _,_=>none
def yzg (i:Nat):AV->Option AV
 | .tup vs=>vs[i]?
 | _=>none
def ypv (S:q00):Nat->AV->Option AV
 | 0,.str s=>some (.int .i64 s.size)
 | 1,.sl _ xs=>some (.int .i64 xs.length)
 | 1,.nils=>some (.int .i64 0)
 | 1,.own _ _ n _=>some (.int .i64 n)
 | 2,.map (some b)=>match y01 S b with
  | some (.map _ es _)=>some (.int .i64 es.length)
  | _=>none
 | _,_=>none
def x0u (t:Nat) (ok:Bool) (z:AV):AV->Option AV
 | .iface t' v=>if t'=t then some (if ok then .tup [v,.bool true] else v) else if ok then some (.tup [z,.bool false]) else none
 | .nili=>if ok then some (.tup [z,.bool false]) else none
 | _=>none
def yyr:AV->AV->Option AV
 | .int k a,.int _ b=>some (.int k (if a<b then b else a))
 | _,_=>none
def q99 (S:q00) (b:Nat):Option ((Bool×List EK)×List (AV×AV×Nat)):=match y01 S b with
 | some (.map M es _)=>some (M,es)
 | _=>none
def y1j (ok:Bool) (z:AV):Option (Nat×AV×Nat)->AV
 | some (_,v,_)=>if ok then .tup [v,.bool true] else v
 | none=>if ok then .tup [z,.bool false] else z
def q4f (S:q00) (M:Bool×List EK) (ok:Bool) (z:AV):AV->AV->Option AV
 | .map none,k=>if q0x M k then some (y1j ok z none) else none
 | .map (some b),k=>match q99 S b with
  | some (M',es)=>if q0x M k/\M'=M then some (y1j ok z (q1f es k)) else none
  | none=>none
 | _,_=>none
def loI:Option AV->Option Int
 | none=>some 0
 | some (.int _ n)=>some n
 | _=>none
def hiI (d:Int):Option AV->Option Int
 | none=>some d
 | some (.int _ n)=>some n
 | _=>none
def y7a (lo hi:Option AV):AV->Option AV
 | .str s=>match loI lo,hiI s.size hi with
  | some l,some h=>if 0<=l/\l<=h/\h<=s.size then some (.str (s.extract l.toNat h.toNat)) else none
  | _,_=>none
 | _=>none
def q6v (sz:Nat) (lo hi:Option AV):AV->Option AV
 | .sl sz' xs=>match loI lo,hiI xs.length hi with
  | some l,some h=>if sz=sz'/\0<=l/\l<=h/\h<=xs.length then some (.sl sz ((xs.take h.toNat).drop l.toNat)) else none
  | _,_=>none
 | .own b off n cap=>match loI lo,hiI n hi with
  | some l,some h=>if 0<=l/\l<=h/\h<=cap then some (.own b (if cap=l.toNat then off else off+l.toNat * sz) (h.toNat-l.toNat) (cap-l.toNat)) else none
  | _,_=>none
 | .nils=>match loI lo,hiI 0 hi with
  | some 0,some 0=>some .nils
  | _,_=>none
 | _=>none
variable {g:SX->AV} {x y:SX} {k:IntKind} {n:Int} {b off:Nat} {cs:List AV}
theorem y7x:qev S g (.faddr off x)=yee off (g x):=by simp only [qev];cases g x<;>rfl
theorem y7u:qev S g (.nilck x)=ydk (g x):=by simp only [qev];cases g x<;>rfl
theorem yxt {neg:Bool} {M:Bool×List EK}:qev S g (.eqp neg M x y)=xi6 neg M (g x) (g y):=rfl
theorem y7y {neg:Bool}:qev S g (.eqnil neg x)=yej neg (g x):=by simp only [qev];cases g x<;>rfl
theorem yjb:qev S g (.not x)=xi3 (g x):=by simp only [qev];cases g x<;>rfl
theorem yda:qev S g (.conv k x)=yzq k (g x):=by simp only [qev];cases g x<;>rfl
theorem y7w {m:Nat} {ag:Bool}:qev S g (.field off m ag x)=ylh off m ag (g x):=by simp only [qev];cases g x<;>rfl
theorem y7v {sz:Nat}:qev S g (.iaddr sz x y)=ye3 sz (g x) (g y):=by simp only [qev];cases g x<;>cases g y<;>rfl
theorem yd7:qev S g (.idxs x y)=yz6 (g x) (g y):=by simp only [qev];cases g x<;>cases g y<;>rfl
theorem yd8 {l sz:Nat} {ag:Bool}:qev S g (.idxa l sz ag x y)=x88 l sz ag (g x) (g y):=by simp only [qev];cases g x<;>cases g y<;>rfl
theorem yd9 {i:Nat}:qev S g (.extr x i)=yzg i (g x):=by simp only [qev];cases g x<;>rfl
theorem yd6:qev S g (.len 0 x)=ypv S 0 (g x):=by simp only [qev];cases g x<;>rfl
theorem yd5:qev S g (.len 1 x)=ypv S 1 (g x):=by simp only [qev];cases g x<;>rfl
theorem yd4:qev S g (.len 2 x)=ypv S 2 (g x):=by
 simp only [qev];cases g x<;>try rfl
 rename_i o
 cases o<;>rfl
theorem ydb {t:Nat} {ok:Bool} {z:AV}:qev S g (.asrt t ok z x)=x0u t ok z (g x):=by simp only [qev];cases g x<;>rfl
theorem yd2:qev S g (.max2 x y)=yyr (g x) (g y):=by simp only [qev];cases g x<;>cases g y<;>rfl
theorem y80 {zs:List AV} {ps:List (Nat×Nat×SX)}:qev S g (.build zs ps)=(q4c g ps zs).map .agg:=rfl
theorem y3f {M:Bool×List EK} {ok:Bool} {z:AV}:qev S g (.lookup M ok z x y)=q4f S M ok z (g x) (g y):=by
 simp only [qev];cases g x<;>try (simp [q4f];done)
 rename_i o
 cases o with
 | none=>simp only [q4f,y1j]
 | some b=>
  simp only [q4f,q99];cases y01 S b with
  | none=>simp
  | some q=>
   cases q with
   | cells=>simp
   | map M' es clk=>
    simp only [];by_cases h1:q0x M (g y)=true<;>by_cases h2:M'=M<;>simp [h1,h2]
    cases q1f es (g y) with
    | none=>simp [y1j]
    | some p=>obtain ⟨i,v,bn⟩:=p;simp [y1j]
theorem yew {o:Option SX}:bnd g 0 o=loI (o.map g):=by
 cases o with
 | none=>rfl
 | some z=>simp only [bnd,Option.map_some];cases g z<;>rfl
theorem yex {d:Nat} {o:Option SX}:bnd g d o=hiI d (o.map g):=by
 cases o with
 | none=>rfl
 | some z=>simp only [bnd,Option.map_some];cases g z<;>rfl
theorem y7s {lo hi:Option SX}:qev S g (.slics x lo hi)=y7a (lo.map g) (hi.map g) (g x):=by
 simp only [qev];cases g x<;>try rfl
 simp only [y7a];rw [yew (o:=lo),yex];generalize loI _=a;generalize hiI _ _=c;cases a<;>cases c<;>rfl
theorem y7t {sz:Nat} {lo hi:Option SX}:qev S g (.slicl sz x lo hi)=q6v sz (lo.map g) (hi.map g) (g x):=by
 simp only [qev];cases g x<;>try rfl
 ·simp only [q6v];rw [yew (o:=lo),yex (o:=hi)];generalize loI _=a;generalize hiI _ _=c;rfl
 ·simp only [q6v];rw [yew (o:=lo),yex (o:=hi)];generalize loI _=a;generalize hiI _ _=c;cases a<;>cases c<;>rfl
 ·simp only [q6v];rw [yew (o:=lo),yex (o:=hi)];generalize loI _=a;generalize hiI _ _=c;cases a<;>cases c<;>rfl
theorem y2s {c clk:Nat} {M:Bool×List EK} {es:List (AV×AV×Nat)}:q99 (supd S b (.map M es clk)) c=if b=c then some (M,es) else q99 S c:=by
 unfold q99;rw [q01];by_cases h:b=c<;>simp [h]
theorem q98 {c t tot:Nat}:q99 (supd S b (.cells t cs tot)) c=if b=c then none else q99 S c:=by
 unfold q99;rw [q01];by_cases h:b=c<;>simp [h]
theorem yhe {o:Nat}:yee off (.ptr b o)=some (.ptr b (o+off)):=rfl
theorem yhd:yee off (.rop cs)=some (.rop (cs.drop off)):=rfl
theorem ygv {o:Nat}:ydk (.ptr b o)=some (.ptr b o):=rfl
theorem ygu:ydk (.rop cs)=some (.rop cs):=rfl
theorem yhf {neg:Bool}:yej neg .nili=some (.bool (!neg)):=rfl
theorem y8p {neg:Bool} {t:Nat} {v:AV}:yej neg (.iface t v)=some (.bool neg):=rfl
theorem yk3 {c:Bool}:xi3 (.bool c)=some (.bool (!c)):=rfl
theorem ylu {k':IntKind}:yzq k (.int k' n)=some (.int k (k.wrap n)):=rfl
theorem y3y {m:Nat} {ag:Bool}:ylh off m ag (.agg cs)=if off+m<=cs.length then mkA ag m (cs.drop off) else none:=rfl
theorem y8h {sz sz':Nat} {xs:List (List AV)}:ye3 sz (.sl sz' xs) (.int k n)=if sz=sz'/\0<=n then (xs[n.toNat]?).map .rop else none:=rfl
theorem y3p {sz l cap:Nat}:ye3 sz (.own b off l cap) (.int k n)=if 0<=n/\n<l then some (.ptr b (off+n.toNat * sz)) else none:=rfl
theorem y8g {s:ByteArray}:yz6 (.str s) (.int k n)=if 0<=n then (s[n.toNat]?).map fun b=>.int .u8 b.toNat else none:=rfl
theorem yli {i:Nat}:yzg i (.tup cs)=cs[i]?:=rfl
theorem ypt {s:ByteArray}:ypv S 0 (.str s)=some (.int .i64 s.size):=rfl
theorem yyw {sz:Nat} {xs:List (List AV)}:ypv S 1 (.sl sz xs)=some (.int .i64 xs.length):=rfl
theorem ykq:ypv S 1 .nils=some (.int .i64 0):=rfl
theorem ypu {l cap:Nat}:ypv S 1 (.own b off l cap)=some (.int .i64 l):=rfl
theorem ykh {k':IntKind} {m:Int}:yyr (.int k n) (.int k' m)=some (.int k (if n<m then m else n)):=rfl
theorem y89 {M:Bool×List EK} {ok:Bool} {z:AV} {v:AV} {M':Bool×List EK} {es:List (AV×AV×Nat)} (h:q99 S b=some (M',es)):q4f S M ok z (.map (some b)) v=if q0x M v/\M'=M then some (y1j ok z (q1f es v)) else none:=by
 simp only [q4f,h]
theorem ydt:loI none=some 0:=rfl
theorem ykj:loI (some (.int k n))=some n:=rfl
theorem ye4 {d:Int}:hiI d none=some d:=rfl
theorem yl1 {d:Int}:hiI d (some (.int k n))=some n:=rfl
def yen (l h:Option Int) (d:Int) (p:Nat->Nat->AV):Option AV:=match l,h with
 | some l,some h=>if 0<=l/\l<=h/\h<=d then some (p l.toNat h.toNat) else none
 | _,_=>none
theorem y8t {l h d:Int} {p:Nat->Nat->AV}:yen (some l) (some h) d p=if 0<=l/\l<=h/\h<=d then some (p l.toNat h.toNat) else none:=rfl
theorem y35 {lo hi:Option AV} {s:ByteArray}:y7a lo hi (.str s)=yen (loI lo) (hiI s.size hi) s.size fun l h=>.str (s.extract l h):=by
 simp only [y7a,yen]
theorem y37 {sz:Nat} {lo hi:Option AV} {xs:List (List AV)}:q6v sz lo hi (.sl sz xs)=yen (loI lo) (hiI xs.length hi) xs.length fun l h=>.sl sz ((xs.take h).drop l):=by
 simp only [q6v,yen,true_and]
theorem y36 {sz l cap:Nat} {lo hi:Option AV}:q6v sz lo hi (.own b off l cap)=yen (loI lo) (hiI l hi) cap fun p h=>.own b (if cap=p then off else off+p * sz) (h-p) (cap-p):=by
 simp only [q6v,yen]
end
@[congr] theorem x28 {c c':Bool} {v:AV} {l:List (Nat×AV)} {t:Nat} (h:c=c'):x5t c v l t=x5t c' v l t:=h ▸ rfl
@[congr] theorem yxf {o o':Option AV} {p:AV->Prop} (h:o=o'):q0s o p=q0s o' p:=h ▸ rfl
@[congr] theorem yxx {c c' a b:AV} {p:AV->Prop} (h:c=c'):y2p c a b p=y2p c' a b p:=h ▸ rfl
@[congr] theorem yuo {v v':AV} {e e':Env} {t:Nat} {w:Bool} {p q:Env->Prop} (h:v=v') (h':e=e'):q3g v e t w p q=q3g v' e' t w p q:=by subst h;subst h';rfl
@[congr] theorem yzr {v v':AV} {p q:Prop} (h:v=v'):yhk v p q=yhk v' p q:=h ▸ rfl
@[congr] theorem x9l {P:Program} {s:SI} {K:Env->q00->Prop} {Qp:AV->q00->Prop} {e e':Env} {S:q00} (h:e=e'):aop P s K Qp e S=aop P s K Qp e' S:=h ▸ rfl
@[congr] theorem x2g {P:Program} {s:List SI} {K:Env->q00->Prop} {Qp:AV->q00->Prop} {e e':Env} {S:q00} (h:e=e'):y2l P s K Qp e S=y2l P s K Qp e' S:=h ▸ rfl
@[congr] theorem x2h {P:Program} {o:SOp} {d:Option Nat} {K:Env->q00->Prop} {Qp:AV->q00->Prop} {e e':Env} {S:q00} (h:e=e'):y03 P o d K Qp e S=y03 P o d K Qp e' S:=h ▸ rfl
@[congr] theorem x11 {x:List Nat} {e:Env} {S:q00} {K:Env->q00->Prop} {e':Env} {S':q00} {e'':Env} (h:e'=e''):ymq x e S K e' S'=ymq x e S K e'' S':=h ▸ rfl
def APost.seq (Q:APost) (P:Program) (N:Nat) (y:q3w):APost:={ Q with norm:=Aw P N y Q }
def APost.blk (Q:APost) (id:Nat):APost:={ Q with exit:=fun i e S=>if i=id then Q.norm e S else Q.exit i e S }
def APost.lp (Q:APost) {α:Type} (env:α->List (Nat×AV)) (st:α->q00) (inv:α->Prop) (mu:α->Nat) (x:α):APost:=
 { Q with norm:=fun e S=>∃ x',inv x'/\mu x'<mu x/\e=y00 (env x')/\Sub (st x') S }
section
variable {P:Program} {N:Nat} {Q:APost} {e:Env} {S:q00}
theorem AwS.seq {x y:q3w} (h:Aw P N x (Q.seq P N y) e S):Aw P N (.seq x y) Q e S:=Aw.seq h
theorem AwS.block {id:Nat} {x:q3w} (h:Aw P N x (Q.blk id) e S):Aw P N (.block id x) Q e S:=Aw.block h
theorem AwS.reg {sis:List SI} {keep:List Nat} (h:∀ (K:Env->q00->Prop) (Qp:AV->q00->Prop),(∀ e S,Q.norm e S->K e S)->(∀ u S,Q.pan u S->Qp u S)->y2l P sis (x12 keep K) Qp e S):Aw P N (.reg sis keep) Q e S:=
 Aw.reg (h Q.norm Q.pan (fun _ _ h=>h) fun _ _ h=>h)
theorem AwS.regl {ixs:List Nat} {sis:List SI} {keep:List Nat} (h:∀ (K:Env->q00->Prop) (Qp:AV->q00->Prop),(∀ e S,Q.norm e S->K e S)->(∀ u S,Q.pan u S->Qp u S)->y2l P sis (x12 keep K) Qp e S):Aw P N (.regl ixs sis keep) Q e S:=
 Aw.regl (h Q.norm Q.pan (fun _ _ h=>h) fun _ _ h=>h)
theorem AwS.cond {x:SX} {y z:q3w} {b:Bool} (hb:ev e x=.bool b) (h1:b=true->Aw P N y Q e S) (h2:b=false->Aw P N z Q e S):Aw P N (.cond x y z) Q e S:=Aw.cond (by rw [hb];exact ⟨h1,h2⟩)
theorem AwS.skip (h:Q.norm e S):Aw P N .skip Q e S:=Aw.skip h
theorem AwS.exit {id:Nat} (h:Q.exit id e S):Aw P N (.exit id) Q e S:=Aw.exit h
theorem AwS.ret (h:Q.ret e S):Aw P N .ret Q e S:=Aw.ret h
theorem AwS.loop {c:q3w} {α:Type} (env:α->List (Nat×AV)) (st:α->q00) (inv:α->Prop) (mu:α->Nat) (x0:α) (h0:inv x0) (he:e=y00 (env x0)) (hS:Sub (st x0) S)
  (step:∀ x,inv x->Aw P N c (Q.lp env st inv mu x) (y00 (env x)) (st x)):Aw P N (.loop c) Q e S:=by
 refine Aw.loop (fun m e S=>∃ x,inv x/\mu x=m/\e=y00 (env x)/\Sub (st x) S) (mu x0) ⟨x0,h0,rfl,he,hS⟩ fun m e S ⟨x,hx,hm,he,hS⟩=>?_
 subst he;subst hm;refine Aw.shift (Shift.sub hS) ((step x hx).mono (fun e S h=>?_) (fun _ _ _ h=>h) (fun _ _ h=>h) (fun _ _ h=>h))
 obtain ⟨x',h1,h2,h3,h4⟩:=h;exact ⟨mu x',h2,x',h1,rfl,h3,h4⟩
def APost.mid (Q:APost) {α:Type} (env:α->List (Nat×AV)) (st:α->q00) (inv:α->Prop):APost:={ Q with norm:=fun e S=>∃ z,inv z/\e=y00 (env z)/\Sub (st z) S }
theorem AwS.mid {x y:q3w} {α:Type} (env:α->List (Nat×AV)) (st:α->q00) (inv:α->Prop) (h:Aw P N x (Q.mid env st inv) e S) (k:∀ z,inv z->Aw P N y Q (y00 (env z)) (st z)):Aw P N (.seq x y) Q e S:=
 Aw.seq (h.mono (fun e S ⟨z,h1,h2,h3⟩=>h2 ▸ Aw.shift (Shift.sub h3) (k z h1)) (fun _ _ _ h=>h) (fun _ _ h=>h) (fun _ _ h=>h))
theorem AwS.cut {x y:q3w} {P':Program} {N':Nat} {α:Type} (env:α->List (Nat×AV)) (st:α->q00) (inv:α->Prop) (h:Aw P N x (Q.mid env st inv) e S) (k:∀ z,inv z->Aw P' N' y Q (y00 (env z)) (st z)):Aw P N x (Q.seq P' N' y) e S:=
 h.mono (fun e S ⟨z,h1,h2,h3⟩=>h2 ▸ Aw.shift (Shift.sub h3) (k z h1)) (fun _ _ _ h=>h) (fun _ _ h=>h) (fun _ _ h=>h)
variable {P':Program} {N':Nat} {y:q3w} {i j:Nat} {rs:List yam} {QF:AEnd->q00->Prop} {u:AV}
section
variable {α:Type} {env:α->List (Nat×AV)} {st:α->q00} {inv:α->Prop} {mu:α->Nat} {x:α}
end
theorem RetA.one {t:Nat} (h:QF (.ret (e t)) S):RetA [.tmp t] QF e S:=⟨e t,S,ShV.refl _ _,h⟩
theorem RetA.sub {t:Nat} {S':q00} (hS:Sub S' S) (h:QF (.ret (e t)) S'):RetA [.tmp t] QF e S:=⟨e t,S',ShV.sub hS,h⟩
theorem RetA.two {t u:Nat} {S':q00} (hS:Sub S' S) (h:QF (.ret (.tup [e t,e u])) S'):RetA [.tmp t,.tmp u] QF e S:=⟨_,S',ShV.sub hS,h⟩
theorem RetA.none {S':q00} (hS:Sub S' S) (h:QF (.ret (.tup [])) S'):RetA [] QF e S:=⟨_,S',ShV.sub hS,h⟩
end
attribute [irreducible] APost.seq APost.blk APost.lp APost.mid
section
variable {cs:List AV} {k:IntKind} {n:Int} {s:ByteArray} {sz:Nat} {xs:List (List AV)} {b o l c:Nat} {m:Option Nat} {f:Fn} {ys zs:List AV}
theorem yi8:q0a (.int k n)=[.int k n]:=rfl
theorem ypo:y0b (.int k n)=true:=rfl
theorem yi3:q0a (.str s)=[.str s]:=rfl
theorem ypj:y0b (.str s)=true:=rfl
theorem ycf {q:Bool}:q0a (.bool q)=[.bool q]:=rfl
theorem yk2 {q:Bool}:y0b (.bool q)=true:=rfl
theorem ymo:q0a (.sl sz xs)=[.sl sz xs]:=rfl
theorem yyj:y0b (.sl sz xs)=true:=rfl
theorem yi4:q0a (.rop cs)=[.rop cs]:=rfl
theorem ypk:y0b (.rop cs)=true:=rfl
theorem yi5:q0a (.ptr b o)=[.ptr b o]:=rfl
theorem ypl:y0b (.ptr b o)=true:=rfl
theorem yi6:q0a (.own b o l c)=[.own b o l c]:=rfl
theorem ypm:y0b (.own b o l c)=true:=rfl
theorem ycc:q0a (.nils)=[.nils]:=rfl
theorem yjz:y0b (.nils)=true:=rfl
theorem yi7:q0a (.map m)=[.map m]:=rfl
theorem ypn:y0b (.map m)=true:=rfl
theorem yce:q0a (.func f ys zs)=[.func f ys zs]:=rfl
theorem yk1:y0b (.func f ys zs)=true:=rfl
theorem ycd:q0a (.nilp)=[.nilp]:=rfl
theorem yk0:y0b (.nilp)=true:=rfl
theorem y4q:q0a (.agg cs)=cs:=rfl
theorem ydj:y0b (.agg cs)=true:=rfl
theorem ymj {g:SX->AV}:q7n g sz []=True:=rfl
theorem yhz {g:SX->AV} {x:SX} {r:List SX}:q7n g sz (x :: r)=((q0a (g x)).length=sz/\y0b (g x)=true/\q7n g sz r):=rfl
theorem yhw {g:SX->AV}:q4c g [] cs=some cs:=rfl
theorem yc6 {g:SX->AV} {off j:Nat} {x:SX} {r:List (Nat×Nat×SX)}:q4c g ((off,j,x) :: r) cs=if (q0a (g x)).length=j/\off+j<=cs.length/\y0b (g x)=true then q4c g r (q1i cs off (q0a (g x))) else none:=rfl
theorem ylg {off:Nat}:q1i cs off []=cs:=rfl
theorem yhc {off:Nat} {v:AV} {r:List AV}:q1i cs off (v :: r)=q1i (cs.set off v) (off+1) r:=rfl
end
def AFun (P:Program) (f:Nat) (args:List AV) (v:AV):Prop:=∀ S:q00,ACalls P f args S fun ae S'=>ae=.ret v/\S'=S
section
variable {P:Program} {K:Env->q00->Prop} {Qp:AV->q00->Prop} {e:Env} {S:q00} {d:Option Nat}
theorem q0c {α:Type} {l:List α} {i:Nat} (h:(i:Int)<l.length):∃ x,l[i]?=some x:=⟨_,List.getElem?_eq_getElem (by omega)⟩
end
def hl1:=And.intro @yre (And.intro @ymb (And.intro @ymd (And.intro @yrg (And.intro @ycg (And.intro @yme (And.intro @y31 (And.intro @yl4 (And.intro @yl5 (And.intro @yl6 (And.intro @yl7 (And.intro @y8i (And.intro @yh7 (And.intro @yp4 (And.intro @yp5 (And.intro @xm7 (And.intro @xm9 (And.intro @xm8 (And.intro @ydv (And.intro @y7h (And.intro @y39 (And.intro @ydw (And.intro @yic (And.intro @ykw (And.intro @yh5 (And.intro @y34 (And.intro @yiz (And.intro @ygj (@yri))))))))))))))))))))))))))))
def hl2:=And.intro @yxv (And.intro @yxw (And.intro @y9j (And.intro @y9l (And.intro @y4k (And.intro @yrl (And.intro @yrj (And.intro @y4o (And.intro @yf2 (And.intro @y9p (And.intro @y4m (And.intro @y4n (And.intro @y4l (And.intro @y9m (And.intro @y9n (And.intro @y4i (And.intro @y4j (And.intro @y4p (And.intro @y2j (And.intro @y9o (And.intro @yf5 (And.intro @yf4 (And.intro @yf3 (And.intro @y9q (And.intro @y9k (@ymm)))))))))))))))))))))))))
def hl3:=And.intro @ycb (And.intro @yi2 (And.intro @yrk (And.intro @yi1 (And.intro @yd3 (And.intro @y7x (And.intro @y7u (And.intro @yxt (And.intro @y7y (And.intro @yjb (And.intro @yda (And.intro @y7w (And.intro @y7v (And.intro @yd7 (And.intro @yd8 (And.intro @yd9 (And.intro @yd6 (And.intro @yd5 (And.intro @yd4 (And.intro @ydb (And.intro @yd2 (And.intro @y80 (And.intro @y3f (And.intro @y7s (@y7t))))))))))))))))))))))))
def hl4:=And.intro @y2s (And.intro @q98 (And.intro @yhe (And.intro @yhd (And.intro @ygv (And.intro @ygu (And.intro @yhf (And.intro @y8p (And.intro @yk3 (And.intro @ylu (And.intro @y3y (And.intro @y8h (And.intro @y3p (And.intro @y8g (And.intro @yli (And.intro @ypt (And.intro @yyw (And.intro @ykq (And.intro @ypu (And.intro @ykh (And.intro @ydt (And.intro @ykj (And.intro @ye4 (And.intro @yl1 (@y8t))))))))))))))))))))))))
def hl5:=And.intro @y35 (And.intro @y37 (And.intro @y36 (And.intro @y1z (And.intro @q6j (And.intro @q91 (And.intro @q4o (And.intro @ykf (And.intro @yke (And.intro @q2k (And.intro @yez (And.intro @yr1 (And.intro @yqs (And.intro @yqv (And.intro @yr0 (And.intro @yqu (And.intro @yqw (And.intro @yqx (And.intro @yqy (And.intro @yqz (And.intro @yey (And.intro @yqr (And.intro @yqq (And.intro @yhj (@y4q))))))))))))))))))))))))
def hl6:=And.intro @yi8 (And.intro @yi3 (And.intro @ycf (And.intro @ymo (And.intro @yi4 (And.intro @yi5 (And.intro @yi6 (And.intro @ycc (And.intro @yi7 (And.intro @yce (And.intro @ycd (And.intro @ydj (And.intro @ypo (And.intro @ypj (And.intro @yk2 (And.intro @yyj (And.intro @ypk (And.intro @ypl (And.intro @ypm (And.intro @yjz (And.intro @ypn (And.intro @yk1 (And.intro @yk0 (And.intro @ymj (@yhz))))))))))))))))))))))))
def hl7:=And.intro @yhw (And.intro @yc6 (And.intro @ylg @yhc))
def hlc:=And.intro @Bool.true_and (And.intro @Bool.and_true (And.intro @Bool.false_and (And.intro @Bool.and_false (And.intro @Bool.not_true (And.intro @Bool.not_false (And.intro @Option.bind_some.{0,0} (And.intro @Option.map_some.{0,0} (And.intro @Option.map_none.{0,0} (And.intro @Option.bind_none.{0,0} (And.intro @List.drop_succ_cons.{0} (And.intro @List.drop_zero.{0} (And.intro @List.take_succ_cons.{0} (And.intro @List.take_zero.{0} (And.intro @List.length_cons.{0} (And.intro @List.length_nil.{0} (And.intro @List.set_cons_zero.{0} (And.intro @List.set_cons_succ.{0} (And.intro @List.map_cons.{0,0} (And.intro @List.map_nil.{0,0} (And.intro @List.getElem?_cons_zero.{0} (And.intro @List.getElem?_cons_succ.{0} (And.intro @List.getElem?_map.{0,0} (And.intro @List.length_map.{0,0} (And.intro @Int.toNat_natCast (And.intro @Int.natCast_nonneg (And.intro @Int.toNat_zero (And.intro @Nat.add_zero (And.intro @Nat.zero_add (And.intro @if_true.{1} (And.intro @if_false.{1} (And.intro @true_and (And.intro @and_true (And.intro @and_self (And.intro @decide_eq_true_eq (And.intro @decide_eq_false_iff_not (And.intro @Bool.not_eq_true' (And.intro @Bool.not_eq_false' (And.intro @Classical.not_not (And.intro @true_implies (And.intro @false_implies (And.intro @implies_true.{1} (@forall_const.{1}))))))))))))))))))))))))))))))))))))))))))
end Go.HL
