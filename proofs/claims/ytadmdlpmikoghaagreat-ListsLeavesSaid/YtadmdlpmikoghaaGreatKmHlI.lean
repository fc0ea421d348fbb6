/- A part of a proof. -/
import Derived.Test.YtadmdlpmikoghaaGreatKmHlH
set_option linter.defProp false
set_option linter.unusedSimpArgs false
set_option linter.unusedVariables false
namespace Go.HL
section
variable {P:Program} {K:Env→q00→Prop} {Qp:AV→q00→Prop} {e:Env} {S:q00} {d:Option Nat}
theorem aops_nil:aops P [] K Qp e S=K e S:=rfl
theorem aops_cons {s:SI} {r:List SI}:aops P (s :: r) K Qp e S=aop P s (aops P r K Qp) Qp e S:=rfl
theorem aop_plain {o:SOp}:aop P { d:=d,o:=o,g:=none,x:=[] } K Qp e S=aeff P o d K Qp e S:=rfl
def KeptK (x:List Nat) (e:Env) (S:q00) (K:Env→q00→Prop):Env→q00→Prop:=fun e' S'=>Kept x e S S'∧K e' S'
theorem aop_kept {o:SOp} {t:Nat} {x:List Nat}:aop P { d:=d,o:=o,g:=none,x:=t :: x } K Qp e S=aeff P o d (KeptK (t :: x) e S K) Qp e S:=rfl
theorem KeptK_apply {x:List Nat} {e':Env} {S':q00}:KeptK x e S K e' S'=(Kept x e S S'∧K e' S'):=rfl
def q34 (v:AV) (e:Env) (t:Nat) (want:Bool) (p q:Env→Prop):Prop:=match v with
 | .bool b=>(b=want→p (put e (some t) (.bool want)))∧(b=!want→q (put e (some t) (.bool (!want))))
 | .tup []=>q e
 | _=>False
theorem put_same {t:Nat} {v:AV} (h:e t=v):put e (some t) v=e:=by
 funext k
 simp only [put,q1h]
 split
 ·rename_i h1;rw [← h1,h]
 ·rfl
theorem guard_eq {s:SI} {t:Nat} {w:Bool} (hg:s.g=some (t,w)):aop P s K Qp e S=q34 (e t) e t w (fun e=>aeff P s.o s.d (KX s.x e S K) Qp e S) (fun e=>K (put e s.d q06) S):=by
 unfold aop q34
 rw [hg]
 dsimp only
 cases hv:e t with
 | bool b=>
  apply propext
  dsimp only
  cases b<;>cases w<;>simp [put_same hv]
 | tup vs=>cases vs<;>rfl
 | _=>rfl
theorem aop_guard {o:SOp} {t:Nat} {w:Bool}:aop P { d:=d,o:=o,g:=some (t,w),x:=[] } K Qp e S=q34 (e t) e t w (fun e=>aeff P o d K Qp e S) (fun e=>K (put e d q06) S):=guard_eq rfl
theorem aop_guard_kept {o:SOp} {t u:Nat} {w:Bool} {x:List Nat}:aop P { d:=d,o:=o,g:=some (t,w),x:=u :: x } K Qp e S=q34 (e t) e t w (fun e=>aeff P o d (KeptK (u :: x) e S K) Qp e S) (fun e=>K (put e d q06) S):=guard_eq rfl
theorem guardB_tt {t:Nat} {p q:Env→Prop}:q34 (.bool true) e t true p q=p (put e (some t) (.bool true)):=by simp [q34]
theorem guardB_tf {t:Nat} {p q:Env→Prop}:q34 (.bool true) e t false p q=q (put e (some t) (.bool true)):=by simp [q34]
theorem guardB_ft {t:Nat} {p q:Env→Prop}:q34 (.bool false) e t true p q=q (put e (some t) (.bool false)):=by simp [q34]
theorem guardB_ff {t:Nat} {p q:Env→Prop}:q34 (.bool false) e t false p q=p (put e (some t) (.bool false)):=by simp [q34]
theorem guardB_undef {w:Bool} {t:Nat} {p q:Env→Prop}:q34 q06 e t w p q=q e:=rfl
theorem guardB_tup {w:Bool} {t:Nat} {p q:Env→Prop}:q34 (.tup []) e t w p q=q e:=rfl
theorem put_none {v:AV}:put e none v=e:=rfl
theorem put_lget {l:List (Nat×AV)} {k:Nat} {v:AV}:put (lget l) (some k) v=lget ((k,v) :: l):=rfl
theorem ev_t {n:Nat}:ev e (.t n)=e n:=rfl
theorem ev_c {v:AV}:ev e (.c v)=v:=rfl
theorem ev_f {f:Nat}:ev e (.f f)=.func (.func f) [] []:=rfl
def selA (c:Bool) (v:AV) (l:List (Nat×AV)) (t:Nat):AV:=bif c then v else lget l t
theorem selA_true {v:AV} {l:List (Nat×AV)} {t:Nat}:selA true v l t=v:=rfl
theorem selA_false {v:AV} {l:List (Nat×AV)} {t:Nat}:selA false v l t=lget l t:=rfl
theorem lget_sel {k t:Nat} {v:AV} {l:List (Nat×AV)}:lget ((k,v) :: l) t=selA (k==t) v l t:=rfl
theorem lget_nil {t:Nat}:lget [] t=.junk:=rfl
theorem Keep_apply {ks:List Nat}:Keep ks K e S=K (lget (q46 ks e)) S:=rfl
theorem keepE_nil:q46 [] e=[]:=rfl
theorem keepE_cons {k:Nat} {ks:List Nat}:q46 (k :: ks) e=(k,e k) :: q46 ks e:=rfl
def q0k (o:Option AV) (p:AV→Prop):Prop:=match o with
 | some v=>p v
 | none=>False
theorem someA_some {v:AV} {p:AV→Prop}:q0k (some v) p=p v:=rfl
theorem someA_ite {c:Prop} [Decidable c] {v:AV} {p:AV→Prop}:q0k (if c then some v else none) p↔c∧p v:=by
 split<;>simp [q0k, *]
theorem someA_none {p:AV→Prop}:q0k none p=False:=rfl
theorem aeff_mov {x:SX}:aeff P (.mov x) d K Qp e S=K (put e d (ev e x)) S:=rfl
def pickA (c a b:AV) (p:AV→Prop):Prop:=match c with
 | .bool true=>p a
 | .bool false=>p b
 | _=>False
theorem pickA_t {x y:AV} {p:AV→Prop}:pickA (.bool true) x y p=p x:=rfl
theorem pickA_f {x y:AV} {p:AV→Prop}:pickA (.bool false) x y p=p y:=rfl
theorem aeff_pick {c a b:SX}:aeff P (.pick c a b) d K Qp e S=pickA (ev e c) (ev e a) (ev e b) (fun v=>K (put e d v) S):=by
 show (match qev S (ev e) (.pick c a b) with | some v=>K (put e d v) S | none=>False)=_
 simp only [qev,pickA]
 cases ev e c with
 | bool b=>cases b<;>rfl
 | _=>rfl
theorem aeff_load {n:Nat} {ag:Bool} {x:SX}:aeff P (.load n ag x) d K Qp e S=q0k (qev S (ev e) (.load n ag x)) (fun v=>K (put e d v) S):=rfl
theorem aeff_nilck {x:SX}:aeff P (.nilck x) d K Qp e S=q0k (qev S (ev e) (.nilck x)) (fun v=>K (put e d v) S):=rfl
theorem aeff_bin {b:BinOp} {x y:SX}:aeff P (.bin b x y) d K Qp e S=q0k (binA b (ev e x) (ev e y)) (fun v=>K (put e d v) S):=rfl
theorem aeff_eqp {n:Bool} {M:Bool×List EK} {x y:SX}:aeff P (.eqp n M x y) d K Qp e S=q0k (qev S (ev e) (.eqp n M x y)) (fun v=>K (put e d v) S):=rfl
theorem aeff_eqnil {n:Bool} {x:SX}:aeff P (.eqnil n x) d K Qp e S=q0k (qev S (ev e) (.eqnil n x)) (fun v=>K (put e d v) S):=rfl
theorem aeff_not {x:SX}:aeff P (.not x) d K Qp e S=q0k (qev S (ev e) (.not x)) (fun v=>K (put e d v) S):=rfl
theorem aeff_conv {k:IntKind} {x:SX}:aeff P (.conv k x) d K Qp e S=q0k (qev S (ev e) (.conv k x)) (fun v=>K (put e d v) S):=rfl
theorem aeff_field {off n:Nat} {ag:Bool} {x:SX}:aeff P (.field off n ag x) d K Qp e S=q0k (qev S (ev e) (.field off n ag x)) (fun v=>K (put e d v) S):=rfl
theorem aeff_faddr {off:Nat} {x:SX}:aeff P (.faddr off x) d K Qp e S=q0k (qev S (ev e) (.faddr off x)) (fun v=>K (put e d v) S):=rfl
theorem aeff_iaddr {sz:Nat} {x i:SX}:aeff P (.iaddr sz x i) d K Qp e S=q0k (qev S (ev e) (.iaddr sz x i)) (fun v=>K (put e d v) S):=rfl
theorem aeff_idxs {x i:SX}:aeff P (.idxs x i) d K Qp e S=q0k (qev S (ev e) (.idxs x i)) (fun v=>K (put e d v) S):=rfl
theorem aeff_idxa {l sz:Nat} {ag:Bool} {x i:SX}:aeff P (.idxa l sz ag x i) d K Qp e S=q0k (qev S (ev e) (.idxa l sz ag x i)) (fun v=>K (put e d v) S):=rfl
theorem aeff_slics {x:SX} {lo hi:Option SX}:aeff P (.slics x lo hi) d K Qp e S=q0k (qev S (ev e) (.slics x lo hi)) (fun v=>K (put e d v) S):=rfl
theorem aeff_slicl {sz:Nat} {x:SX} {lo hi:Option SX}:aeff P (.slicl sz x lo hi) d K Qp e S=q0k (qev S (ev e) (.slicl sz x lo hi)) (fun v=>K (put e d v) S):=rfl
theorem aeff_build {zs:List AV} {ps:List (Nat×Nat×SX)}:aeff P (.build zs ps) d K Qp e S=q0k (qev S (ev e) (.build zs ps)) (fun v=>K (put e d v) S):=rfl
theorem aeff_lookup {M:Bool×List EK} {ok:Bool} {z:AV} {x k:SX}:aeff P (.lookup M ok z x k) d K Qp e S=q0k (qev S (ev e) (.lookup M ok z x k)) (fun v=>K (put e d v) S):=rfl
theorem aeff_extr {x:SX} {i:Nat}:aeff P (.extr x i) d K Qp e S=q0k (qev S (ev e) (.extr x i)) (fun v=>K (put e d v) S):=rfl
theorem aeff_len {k:Nat} {x:SX}:aeff P (.len k x) d K Qp e S=q0k (qev S (ev e) (.len k x)) (fun v=>K (put e d v) S):=rfl
theorem aeff_mkf {f:Fn} {xs ys:List SX}:aeff P (.mkf f xs ys) d K Qp e S=K (put e d (.func f (xs.map (ev e)) (ys.map (ev e)))) S:=rfl
theorem aeff_mki {t:Nat} {x:SX}:aeff P (.mki t x) d K Qp e S=K (put e d (.iface t (ev e x))) S:=rfl
theorem aeff_asrt {t:Nat} {ok:Bool} {z:AV} {x:SX}:aeff P (.asrt t ok z x) d K Qp e S=q0k (qev S (ev e) (.asrt t ok z x)) (fun v=>K (put e d v) S):=rfl
theorem aeff_max2 {x y:SX}:aeff P (.max2 x y) d K Qp e S=q0k (qev S (ev e) (.max2 x y)) (fun v=>K (put e d v) S):=rfl
theorem aeff_boxr {t n:Nat} {x:SX}:aeff P (.boxr t n x) d K Qp e S=((q08 (ev e x)).length=n∧notJ (ev e x)=true∧K (put e d (.rop (q08 (ev e x)))) S):=rfl
theorem qev_load {g:SX→AV} {n:Nat} {ag:Bool} {x:SX}:qev S g (.load n ag x)=(cellsOf S (g x)).bind (mkA ag n):=by
 simp only [qev]
 cases cellsOf S (g x)<;>rfl
theorem cellsOf_rop {cs:List AV}:cellsOf S (.rop cs)=some cs:=rfl
def q2q (S:q00) (b:Nat):Option (List AV):=match sget S b with
 | some (.cells _ cs _)=>some cs
 | _=>none
theorem cellsOf_ptr {b off:Nat}:cellsOf S (.ptr b off)=(q2q S b).map (·.drop off):=by
 unfold cellsOf q2q
 dsimp only
 cases sget S b with
 | none=>rfl
 | some o=>cases o<;>rfl
theorem cellsAt_supd {b c t tot:Nat} {cs:List AV}:q2q (supd S b (.cells t cs tot)) c=if b=c then some cs else q2q S c:=by
 unfold q2q
 rw [q01]
 by_cases h:b=c<;>simp [h]
theorem q8k {b c clk:Nat} {M:Bool×List EK} {es:List (AV×AV×Nat)}:q2q (supd S b (.map M es clk)) c=if b=c then none else q2q S c:=by
 unfold q2q
 rw [q01]
 by_cases h:b=c<;>simp [h]
theorem mkA_agg {n:Nat} {cs:List AV}:mkA true n cs=if n≤cs.length then some (.agg (cs.take n)) else none:=rfl
theorem mkA_one {n:Nat} {c:AV} {cs:List AV}:mkA false n (c :: cs)=some c:=rfl
theorem q2l {b:BinOp} {k:IntKind} {x y:Int}:binA b (.int k x) (.int k y)=binI b k x y:=by simp [binA]
theorem binA_str {b:BinOp} {x y:ByteArray}:binA b (.str x) (.str y)=binS b x y:=rfl
theorem binS_add {x y:ByteArray}:binS .add x y=if x.size+y.size≤9223372036854775807 then some (.str (x++y)) else none:=rfl
theorem q03 {n:Int} (h1:-9223372036854775808≤n) (h2:n≤9223372036854775807):IntKind.i64.wrap n=n:=by
 rw [IntKind.wrap_i64]
 omega
def faddrA (off:Nat):AV→Option AV
 | .ptr b o=>some (.ptr b (o+off))
 | .rop cs=>some (.rop (cs.drop off))
 | _=>none
def nilckA:AV→Option AV
 | .ptr b o=>some (.ptr b o)
 | .rop cs=>some (.rop cs)
 | _=>none
def eqpA (neg:Bool) (M:Bool×List EK) (x y:AV):Option AV:=if q0m M x&&q0m M y then some (.bool (if neg then !q1d x y else q1d x y)) else none
def eqnilA (neg:Bool):AV→Option AV
 | .nili=>some (.bool (!neg))
 | .iface _ _=>some (.bool neg)
 | _=>none
def notA:AV→Option AV
 | .bool b=>some (.bool (!b))
 | _=>none
def convA (k:IntKind):AV→Option AV
 | .int _ n=>some (.int k (k.wrap n))
 | _=>none
def fieldA (off n:Nat) (ag:Bool):AV→Option AV
 | .agg cs=>if off+n≤cs.length then mkA ag n (cs.drop off) else none
 | _=>none
def iaddrA (sz:Nat):AV→AV→Option AV
 | .sl sz' xs,.int _ n=>if sz=sz'∧0≤n then (xs[n.toNat]?).map .rop else none
 | .own b off len _,.int _ n=>if 0≤n∧n<len then some (.ptr b (off+n.toNat * sz)) else none
 | _,_=>none
def idxsA:AV→AV→Option AV
 | .str s,.int _ n=>if 0≤n then (s[n.toNat]?).map fun b=>.int .u8 b.toNat else none
 | _,_=>none
def idxaA (len sz:Nat) (ag:Bool):AV→AV→Option AV
 | .agg cs,.int _ n=>if 0≤n∧n<len∧n.toNat * sz+sz≤cs.length then mkA ag sz (cs.drop (n.toNat * sz)) else none
 | _,_=>none
def extrA (i:Nat):AV→Option AV
 | .tup vs=>vs[i]?
 | _=>none
def lenA (S:q00):Nat→AV→Option AV
 | 0,.str s=>some (.int .i64 s.size)
 | 1,.sl _ xs=>some (.int .i64 xs.length)
 | 1,.nils=>some (.int .i64 0)
 | 1,.own _ _ n _=>some (.int .i64 n)
 | 2,.map (some b)=>match sget S b with
  | some (.map _ es _)=>some (.int .i64 es.length)
  | _=>none
 | _,_=>none
def asrtA (t:Nat) (ok:Bool) (z:AV):AV→Option AV
 | .iface t' v=>if t'=t then some (if ok then .tup [v,.bool true] else v) else if ok then some (.tup [z,.bool false]) else none
 | .nili=>if ok then some (.tup [z,.bool false]) else none
 | _=>none
def max2A:AV→AV→Option AV
 | .int k a,.int _ b=>some (.int k (if a<b then b else a))
 | _,_=>none
def mapAt (S:q00) (b:Nat):Option ((Bool×List EK)×List (AV×AV×Nat)):=match sget S b with
 | some (.map M es _)=>some (M,es)
 | _=>none
def foundA (ok:Bool) (z:AV):Option (Nat×AV×Nat)→AV
 | some (_,v,_)=>if ok then .tup [v,.bool true] else v
 | none=>if ok then .tup [z,.bool false] else z
def q4e (S:q00) (M:Bool×List EK) (ok:Bool) (z:AV):AV→AV→Option AV
 | .map none,k=>if q0m M k then some (foundA ok z none) else none
 | .map (some b),k=>match mapAt S b with
  | some (M',es)=>if q0m M k∧M'=M then some (foundA ok z (q0q es k)) else none
  | none=>none
 | _,_=>none
def loI:Option AV→Option Int
 | none=>some 0
 | some (.int _ n)=>some n
 | _=>none
def hiI (d:Int):Option AV→Option Int
 | none=>some d
 | some (.int _ n)=>some n
 | _=>none
def slicsA (lo hi:Option AV):AV→Option AV
 | .str s=>match loI lo,hiI s.size hi with
  | some l,some h=>if 0≤l∧l≤h∧h≤s.size then some (.str (s.extract l.toNat h.toNat)) else none
  | _,_=>none
 | _=>none
def q6d (sz:Nat) (lo hi:Option AV):AV→Option AV
 | .sl sz' xs=>match loI lo,hiI xs.length hi with
  | some l,some h=>if sz=sz'∧0≤l∧l≤h∧h≤xs.length then some (.sl sz ((xs.take h.toNat).drop l.toNat)) else none
  | _,_=>none
 | .own b off n cap=>match loI lo,hiI n hi with
  | some l,some h=>if 0≤l∧l≤h∧h≤cap then some (.own b (if cap=l.toNat then off else off+l.toNat * sz) (h.toNat-l.toNat) (cap-l.toNat)) else none
  | _,_=>none
 | .nils=>match loI lo,hiI 0 hi with
  | some 0,some 0=>some .nils
  | _,_=>none
 | _=>none
variable {g:SX→AV} {x y:SX} {k:IntKind} {n:Int} {b off:Nat} {cs:List AV}
theorem qev_faddr:qev S g (.faddr off x)=faddrA off (g x):=by simp only [qev];cases g x<;>rfl
theorem qev_nilck:qev S g (.nilck x)=nilckA (g x):=by simp only [qev];cases g x<;>rfl
theorem qev_eqnil {neg:Bool}:qev S g (.eqnil neg x)=eqnilA neg (g x):=by simp only [qev];cases g x<;>rfl
theorem qev_not:qev S g (.not x)=notA (g x):=by simp only [qev];cases g x<;>rfl
theorem qev_conv:qev S g (.conv k x)=convA k (g x):=by simp only [qev];cases g x<;>rfl
theorem qev_field {m:Nat} {ag:Bool}:qev S g (.field off m ag x)=fieldA off m ag (g x):=by simp only [qev];cases g x<;>rfl
theorem qev_iaddr {sz:Nat}:qev S g (.iaddr sz x y)=iaddrA sz (g x) (g y):=by simp only [qev];cases g x<;>cases g y<;>rfl
theorem qev_idxs:qev S g (.idxs x y)=idxsA (g x) (g y):=by simp only [qev];cases g x<;>cases g y<;>rfl
theorem qev_idxa {l sz:Nat} {ag:Bool}:qev S g (.idxa l sz ag x y)=idxaA l sz ag (g x) (g y):=by simp only [qev];cases g x<;>cases g y<;>rfl
theorem qev_extr {i:Nat}:qev S g (.extr x i)=extrA i (g x):=by simp only [qev];cases g x<;>rfl
theorem qev_len0:qev S g (.len 0 x)=lenA S 0 (g x):=by simp only [qev];cases g x<;>rfl
theorem qev_len1:qev S g (.len 1 x)=lenA S 1 (g x):=by simp only [qev];cases g x<;>rfl
theorem qev_len2:qev S g (.len 2 x)=lenA S 2 (g x):=by
 simp only [qev]
 cases g x<;>try rfl
 rename_i o
 cases o<;>rfl
theorem qev_asrt {t:Nat} {ok:Bool} {z:AV}:qev S g (.asrt t ok z x)=asrtA t ok z (g x):=by simp only [qev];cases g x<;>rfl
theorem qev_max2:qev S g (.max2 x y)=max2A (g x) (g y):=by simp only [qev];cases g x<;>cases g y<;>rfl
theorem qev_build {zs:List AV} {ps:List (Nat×Nat×SX)}:qev S g (.build zs ps)=(q49 g ps zs).map .agg:=rfl
theorem qev_lookup {M:Bool×List EK} {ok:Bool} {z:AV}:qev S g (.lookup M ok z x y)=q4e S M ok z (g x) (g y):=by
 simp only [qev]
 cases g x<;>try (simp [q4e];done)
 rename_i o
 cases o with
 | none=>simp only [q4e,foundA]
 | some b=>
  simp only [q4e,mapAt]
  cases sget S b with
  | none=>simp
  | some q=>
   cases q with
   | cells=>simp
   | map M' es clk=>
    simp only []
    by_cases h1:q0m M (g y)=true<;>by_cases h2:M'=M<;>simp [h1,h2]
    cases q0q es (g y) with
    | none=>simp [foundA]
    | some p=>obtain ⟨i,v,bn⟩:=p;simp [foundA]
theorem bnd_lo {o:Option SX}:bnd g 0 o=loI (o.map g):=by
 cases o with
 | none=>rfl
 | some z=>simp only [bnd,Option.map_some];cases g z<;>rfl
theorem bnd_hi {d:Nat} {o:Option SX}:bnd g d o=hiI d (o.map g):=by
 cases o with
 | none=>rfl
 | some z=>simp only [bnd,Option.map_some];cases g z<;>rfl
theorem qev_slics {lo hi:Option SX}:qev S g (.slics x lo hi)=slicsA (lo.map g) (hi.map g) (g x):=by
 simp only [qev]
 cases g x<;>try rfl
 simp only [slicsA]
 rw [bnd_lo (o:=lo),bnd_hi]
 generalize loI _=a
 generalize hiI _ _=c
 cases a<;>cases c<;>rfl
theorem qev_slicl {sz:Nat} {lo hi:Option SX}:qev S g (.slicl sz x lo hi)=q6d sz (lo.map g) (hi.map g) (g x):=by
 simp only [qev]
 cases g x<;>try rfl
 ·simp only [q6d]
  rw [bnd_lo (o:=lo),bnd_hi (o:=hi)]
  generalize loI _=a
  generalize hiI _ _=c
  rfl
 ·simp only [q6d]
  rw [bnd_lo (o:=lo),bnd_hi (o:=hi)]
  generalize loI _=a
  generalize hiI _ _=c
  cases a<;>cases c<;>rfl
 ·simp only [q6d]
  rw [bnd_lo (o:=lo),bnd_hi (o:=hi)]
  generalize loI _=a
  generalize hiI _ _=c
  cases a<;>cases c<;>rfl
theorem fieldA_agg {m:Nat} {ag:Bool}:fieldA off m ag (.agg cs)=if off+m≤cs.length then mkA ag m (cs.drop off) else none:=rfl
theorem iaddrA_sl {sz sz':Nat} {xs:List (List AV)}:iaddrA sz (.sl sz' xs) (.int k n)=if sz=sz'∧0≤n then (xs[n.toNat]?).map .rop else none:=rfl
theorem iaddrA_own {sz l cap:Nat}:iaddrA sz (.own b off l cap) (.int k n)=if 0≤n∧n<l then some (.ptr b (off+n.toNat * sz)) else none:=rfl
theorem idxsA_str {s:ByteArray}:idxsA (.str s) (.int k n)=if 0≤n then (s[n.toNat]?).map fun b=>.int .u8 b.toNat else none:=rfl
theorem lookupA_some {M:Bool×List EK} {ok:Bool} {z:AV} {v:AV} {M':Bool×List EK} {es:List (AV×AV×Nat)} (h:mapAt S b=some (M',es)):q4e S M ok z (.map (some b)) v=if q0m M v∧M'=M then some (foundA ok z (q0q es v)) else none:=by
 simp only [q4e,h]
theorem loI_none:loI none=some 0:=rfl
theorem loI_int:loI (some (.int k n))=some n:=rfl
theorem hiI_none {d:Int}:hiI d none=some d:=rfl
theorem hiI_int {d:Int}:hiI d (some (.int k n))=some n:=rfl
def cutI (l h:Option Int) (d:Int) (p:Nat→Nat→AV):Option AV:=match l,h with
 | some l,some h=>if 0≤l∧l≤h∧h≤d then some (p l.toNat h.toNat) else none
 | _,_=>none
theorem cutI_some {l h d:Int} {p:Nat→Nat→AV}:cutI (some l) (some h) d p=if 0≤l∧l≤h∧h≤d then some (p l.toNat h.toNat) else none:=rfl
theorem slicsA_cut {lo hi:Option AV} {s:ByteArray}:slicsA lo hi (.str s)=cutI (loI lo) (hiI s.size hi) s.size fun l h=>.str (s.extract l h):=by
 simp only [slicsA,cutI]
theorem sliclA_cut {sz:Nat} {lo hi:Option AV} {xs:List (List AV)}:q6d sz lo hi (.sl sz xs)=cutI (loI lo) (hiI xs.length hi) xs.length fun l h=>.sl sz ((xs.take h).drop l):=by
 simp only [q6d,cutI,true_and]
theorem sliclA_own {sz l cap:Nat} {lo hi:Option AV}:q6d sz lo hi (.own b off l cap)=cutI (loI lo) (hiI l hi) cap fun p h=>.own b (if cap=p then off else off+p * sz) (h-p) (cap-p):=by
 simp only [q6d,cutI]
end
@[congr] theorem selA_congr {c c':Bool} {v:AV} {l:List (Nat×AV)} {t:Nat} (h:c=c'):selA c v l t=selA c' v l t:=h ▸ rfl
@[congr] theorem someA_congr {o o':Option AV} {p:AV→Prop} (h:o=o'):q0k o p=q0k o' p:=h ▸ rfl
@[congr] theorem pickA_congr {c c' a b:AV} {p:AV→Prop} (h:c=c'):pickA c a b p=pickA c' a b p:=h ▸ rfl
@[congr] theorem guardB_congr {v v':AV} {e e':Env} {t:Nat} {w:Bool} {p q:Env→Prop} (h:v=v') (h':e=e'):q34 v e t w p q=q34 v' e' t w p q:=by subst h;subst h';rfl
@[congr] theorem condA_congr {v v':AV} {p q:Prop} (h:v=v'):condA v p q=condA v' p q:=h ▸ rfl
@[congr] theorem aop_congr {P:Program} {s:SI} {K:Env→q00→Prop} {Qp:AV→q00→Prop} {e e':Env} {S:q00} (h:e=e'):aop P s K Qp e S=aop P s K Qp e' S:=h ▸ rfl
@[congr] theorem aops_congr {P:Program} {s:List SI} {K:Env→q00→Prop} {Qp:AV→q00→Prop} {e e':Env} {S:q00} (h:e=e'):aops P s K Qp e S=aops P s K Qp e' S:=h ▸ rfl
@[congr] theorem aeff_congr {P:Program} {o:SOp} {d:Option Nat} {K:Env→q00→Prop} {Qp:AV→q00→Prop} {e e':Env} {S:q00} (h:e=e'):aeff P o d K Qp e S=aeff P o d K Qp e' S:=h ▸ rfl
@[congr] theorem KeptK_congr {x:List Nat} {e:Env} {S:q00} {K:Env→q00→Prop} {e':Env} {S':q00} {e'':Env} (h:e'=e''):KeptK x e S K e' S'=KeptK x e S K e'' S':=h ▸ rfl
def APost.seq (Q:APost) (P:Program) (N:Nat) (y:q64):APost:={ Q with norm:=Aw P N y Q }
def APost.blk (Q:APost) (id:Nat):APost:={ Q with exit:=fun i e S=>if i=id then Q.norm e S else Q.exit i e S }
def APost.lp (Q:APost) {α:Type} (env:α→List (Nat×AV)) (st:α→q00) (inv:α→Prop) (mu:α→Nat) (x:α):APost:=
 { Q with norm:=fun e S=>∃ x',inv x'∧mu x'<mu x∧e=lget (env x')∧Sub (st x') S }
section
variable {P:Program} {N:Nat} {Q:APost} {e:Env} {S:q00}
def APost.mid (Q:APost) {α:Type} (env:α→List (Nat×AV)) (st:α→q00) (inv:α→Prop):APost:={ Q with norm:=fun e S=>∃ z,inv z∧e=lget (env z)∧Sub (st z) S }
variable {P':Program} {N':Nat} {y:q64} {i j:Nat} {rs:List RVar} {QF:AEnd→q00→Prop} {u:AV}
end
attribute [irreducible] APost.seq APost.blk APost.lp APost.mid
section
variable {cs:List AV} {k:IntKind} {n:Int} {s:ByteArray} {sz:Nat} {xs:List (List AV)} {b o l c:Nat} {m:Option Nat} {f:Fn} {ys zs:List AV}
theorem aCells_int:q08 (.int k n)=[.int k n]:=rfl
theorem notJ_int:notJ (.int k n)=true:=rfl
theorem aCells_str:q08 (.str s)=[.str s]:=rfl
theorem notJ_str:notJ (.str s)=true:=rfl
theorem aCells_bool {q:Bool}:q08 (.bool q)=[.bool q]:=rfl
theorem notJ_bool {q:Bool}:notJ (.bool q)=true:=rfl
theorem aCells_sl:q08 (.sl sz xs)=[.sl sz xs]:=rfl
theorem notJ_sl:notJ (.sl sz xs)=true:=rfl
theorem aCells_rop:q08 (.rop cs)=[.rop cs]:=rfl
theorem notJ_rop:notJ (.rop cs)=true:=rfl
theorem aCells_ptr:q08 (.ptr b o)=[.ptr b o]:=rfl
theorem notJ_ptr:notJ (.ptr b o)=true:=rfl
theorem aCells_own:q08 (.own b o l c)=[.own b o l c]:=rfl
theorem notJ_own:notJ (.own b o l c)=true:=rfl
theorem aCells_nils:q08 (.nils)=[.nils]:=rfl
theorem notJ_nils:notJ (.nils)=true:=rfl
theorem aCells_map:q08 (.map m)=[.map m]:=rfl
theorem notJ_map:notJ (.map m)=true:=rfl
theorem aCells_func:q08 (.func f ys zs)=[.func f ys zs]:=rfl
theorem notJ_func:notJ (.func f ys zs)=true:=rfl
theorem aCells_nilp:q08 (.nilp)=[.nilp]:=rfl
theorem notJ_nilp:notJ (.nilp)=true:=rfl
theorem aCells_agg:q08 (.agg cs)=cs:=rfl
theorem notJ_agg:notJ (.agg cs)=true:=rfl
theorem allSz_nil {g:SX→AV}:q7x g sz []=True:=rfl
theorem allSz_cons {g:SX→AV} {x:SX} {r:List SX}:q7x g sz (x :: r)=((q08 (g x)).length=sz∧notJ (g x)=true∧q7x g sz r):=rfl
theorem buildA_nil {g:SX→AV}:q49 g [] cs=some cs:=rfl
theorem buildA_cons {g:SX→AV} {off j:Nat} {x:SX} {r:List (Nat×Nat×SX)}:q49 g ((off,j,x) :: r) cs=if (q08 (g x)).length=j∧off+j≤cs.length∧notJ (g x)=true then q49 g r (q1j cs off (q08 (g x))) else none:=rfl
theorem fillA_nil {off:Nat}:q1j cs off []=cs:=rfl
theorem fillA_cons {off:Nat} {v:AV} {r:List AV}:q1j cs off (v :: r)=q1j (cs.set off v) (off+1) r:=rfl
end
def AFun (P:Program) (f:Nat) (args:List AV) (v:AV):Prop:=∀ S:q00,ACalls P f args S fun ae S'=>ae=.ret v∧S'=S
section
variable {P:Program} {K:Env→q00→Prop} {Qp:AV→q00→Prop} {e:Env} {S:q00} {d:Option Nat}
theorem q0s {α:Type} {l:List α} {i:Nat} (h:(i:Int)<l.length):∃ x,l[i]?=some x:=⟨_,List.getElem?_eq_getElem (by omega)⟩
end
def hl1:=And.intro @aops_nil (And.intro @aops_cons (And.intro @aop_plain (And.intro @aop_kept (And.intro @KeptK_apply (And.intro @aop_guard (And.intro @aop_guard_kept (And.intro @guardB_tt (And.intro @guardB_tf (And.intro @guardB_ft (And.intro @guardB_ff (And.intro @guardB_undef (And.intro @guardB_tup (And.intro @put_none (And.intro @put_lget (And.intro @ev_t (And.intro @ev_c (And.intro @ev_f (And.intro @lget_sel (And.intro @selA_true (And.intro @selA_false (And.intro @lget_nil (And.intro @Keep_apply (And.intro @keepE_nil (And.intro @keepE_cons (And.intro @someA_some (And.intro @someA_ite (And.intro @someA_none (@aeff_mov))))))))))))))))))))))))))))
def hl2:=And.intro @pickA_t (And.intro @pickA_f (And.intro @aeff_pick (And.intro @aeff_load (And.intro @aeff_nilck (And.intro @aeff_bin (And.intro @aeff_eqp (And.intro @aeff_eqnil (And.intro @aeff_not (And.intro @aeff_conv (And.intro @aeff_field (And.intro @aeff_faddr (And.intro @aeff_iaddr (And.intro @aeff_idxs (And.intro @aeff_idxa (And.intro @aeff_slics (And.intro @aeff_slicl (And.intro @aeff_build (And.intro @aeff_lookup (And.intro @aeff_extr (And.intro @aeff_len (And.intro @aeff_mkf (And.intro @aeff_mki (And.intro @aeff_asrt (And.intro @aeff_max2 (@aeff_boxr)))))))))))))))))))))))))
def hl6:=And.intro @aCells_int (And.intro @aCells_str (And.intro @aCells_bool (And.intro @aCells_sl (And.intro @aCells_rop (And.intro @aCells_ptr (And.intro @aCells_own (And.intro @aCells_nils (And.intro @aCells_map (And.intro @aCells_func (And.intro @aCells_nilp (And.intro @notJ_agg (And.intro @notJ_int (And.intro @notJ_str (And.intro @notJ_bool (And.intro @notJ_sl (And.intro @notJ_rop (And.intro @notJ_ptr (And.intro @notJ_own (And.intro @notJ_nils (And.intro @notJ_map (And.intro @notJ_func (And.intro @notJ_nilp (And.intro @allSz_nil (@allSz_cons))))))))))))))))))))))))
def hl7:=And.intro @buildA_nil (And.intro @buildA_cons (And.intro @fillA_nil @fillA_cons))
def hlc:=And.intro @Bool.true_and (And.intro @Bool.and_true (And.intro @Bool.false_and (And.intro @Bool.and_false (And.intro @Bool.not_true (And.intro @Bool.not_false (And.intro @Option.bind_some.{0,0} (And.intro @Option.map_some.{0,0} (And.intro @Option.map_none.{0,0} (And.intro @Option.bind_none.{0,0} (And.intro @List.drop_succ_cons.{0} (And.intro @List.drop_zero.{0} (And.intro @List.take_succ_cons.{0} (And.intro @List.take_zero.{0} (And.intro @List.length_cons.{0} (And.intro @List.length_nil.{0} (And.intro @List.set_cons_zero.{0} (And.intro @List.set_cons_succ.{0} (And.intro @List.map_cons.{0,0} (And.intro @List.map_nil.{0,0} (And.intro @List.getElem?_cons_zero.{0} (And.intro @List.getElem?_cons_succ.{0} (And.intro @List.getElem?_map.{0,0} (And.intro @List.length_map.{0,0} (And.intro @Int.toNat_natCast (And.intro @Int.natCast_nonneg (And.intro @Int.toNat_zero (And.intro @Nat.add_zero (And.intro @Nat.zero_add (And.intro @if_true.{1} (And.intro @if_false.{1} (And.intro @true_and (And.intro @and_true (And.intro @and_self (And.intro @decide_eq_true_eq (And.intro @decide_eq_false_iff_not (And.intro @Bool.not_eq_true' (And.intro @Bool.not_eq_false' (And.intro @Classical.not_not (And.intro @true_implies (And.intro @false_implies (And.intro @implies_true.{1} (@forall_const.{1}))))))))))))))))))))))))))))))))))))))))))
end Go.HL
