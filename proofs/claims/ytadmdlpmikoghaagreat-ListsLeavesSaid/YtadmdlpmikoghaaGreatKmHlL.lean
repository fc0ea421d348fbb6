/- A part of a proof. -/
import Derived.Test.YtadmdlpmikoghaaGreatKmHlP
set_option linter.defProp false
set_option linter.unusedSimpArgs false
set_option linter.unusedVariables false
namespace Go.HL
def mkW (ag:Bool) (n:Nat) (cs:List AV) (K:AV→Prop):Prop:=q0k (mkA ag n cs) K
def lcW (o:Option (List AV)) (f n:Nat) (ag:Bool) (K:AV→Prop):Prop:=match o with
 | some cs=>mkW ag n (cs.drop f) K
 | none=>False
def atW (o:Option (List AV)) (K:List AV→Prop):Prop:=someL o K
def byW (o:Option UInt8) (K:UInt8→Prop):Prop:=match o with
 | some b=>K b
 | none=>False
def tkW:Nat→List AV→(List AV→Prop)→Prop
 | 0,_,K=>K []
 | n+1,c :: cs,K=>tkW n cs fun l=>K (c :: l)
 | _+1,[],_=>False
def lmW (o:Option ((Bool×List EK)×List (AV×AV×Nat)×Nat)) (M:Bool×List EK) (ok:Bool) (z k:AV) (K:AV→Prop):Prop:=match o with
 | some (M',es,_)=>q0m M k=true∧M'=M∧K (q28 ok z (mget es k))
 | none=>False
def mlW (o:Option ((Bool×List EK)×List (AV×AV×Nat)×Nat)) (K:AV→Prop):Prop:=match o with
 | some (_,es,_)=>K (.int .i64 es.length)
 | none=>False
def soW (o:Option (Nat×List AV×Nat)) (S:q00) (n b f:Nat) (v:AV) (K:q00→Prop):Prop:=match o with
 | some (t,cs,tot)=>(q08 v).length=n∧f+n≤cs.length∧ones (q08 v)=true∧K (supd S b (.cells t (q1j cs f (q08 v)) tot))
 | none=>False
def foW (o:Option (Nat×List AV×Nat)) (S:q00) (b:Nat) (K:AV→q00→Prop):Prop:=match o with
 | some (_,cs,_)=>K (.rop cs) (sdel S b)
 | none=>False
def muoW (o:Option ((Bool×List EK)×List (AV×AV×Nat)×Nat)) (S:q00) (M:Bool×List EK) (b:Nat) (k v:AV) (K:q00→Prop):Prop:=match o with
 | some (M',es,clk)=>M'=M∧q0m M k=true∧K (supd S b (.map M (mset es k v clk).1 (mset es k v clk).2))
 | none=>False
@[congr] theorem ldW_congr {S:q00} {n:Nat} {ag:Bool} {p p':AV} {K:AV→Prop} (hp:p=p'):ldW S n ag p K=ldW S n ag p' K:=by subst hp;rfl
@[congr] theorem nkW_congr {p p':AV} {K:AV→Prop} (hp:p=p'):nkW p K=nkW p' K:=by subst hp;rfl
@[congr] theorem biW_congr {o:BinOp} {x x':AV} {y y':AV} {K:AV→Prop} (hx:x=x') (hy:y=y'):biW o x y K=biW o x' y' K:=by subst hx;subst hy;rfl
@[congr] theorem eqW_congr {g:Bool} {M:Bool×List EK} {x x':AV} {y y':AV} {K:AV→Prop} (hx:x=x') (hy:y=y'):eqW g M x y K=eqW g M x' y' K:=by subst hx;subst hy;rfl
@[congr] theorem enW_congr {g:Bool} {x x':AV} {K:AV→Prop} (hx:x=x'):enW g x K=enW g x' K:=by subst hx;rfl
@[congr] theorem ntW_congr {x x':AV} {K:AV→Prop} (hx:x=x'):ntW x K=ntW x' K:=by subst hx;rfl
@[congr] theorem cvW_congr {k:IntKind} {x x':AV} {K:AV→Prop} (hx:x=x'):cvW k x K=cvW k x' K:=by subst hx;rfl
@[congr] theorem fdW_congr {f:Nat} {n:Nat} {ag:Bool} {x x':AV} {K:AV→Prop} (hx:x=x'):fdW f n ag x K=fdW f n ag x' K:=by subst hx;rfl
@[congr] theorem faW_congr {f:Nat} {x x':AV} {K:AV→Prop} (hx:x=x'):faW f x K=faW f x' K:=by subst hx;rfl
@[congr] theorem iaW_congr {z:Nat} {x x':AV} {i i':AV} {K:AV→Prop} (hx:x=x') (hi:i=i'):iaW z x i K=iaW z x' i' K:=by subst hx;subst hi;rfl
@[congr] theorem isW_congr {x x':AV} {i i':AV} {K:AV→Prop} (hx:x=x') (hi:i=i'):isW x i K=isW x' i' K:=by subst hx;subst hi;rfl
@[congr] theorem ixW_congr {l:Nat} {z:Nat} {ag:Bool} {x x':AV} {i i':AV} {K:AV→Prop} (hx:x=x') (hi:i=i'):ixW l z ag x i K=ixW l z ag x' i' K:=by subst hx;subst hi;rfl
@[congr] theorem ssW_congr {x x':AV} {l l':Option AV} {h h':Option AV} {K:AV→Prop} (hx:x=x') (hl:l=l') (hh:h=h'):ssW x l h K=ssW x' l' h' K:=by subst hx;subst hl;subst hh;rfl
@[congr] theorem slW_congr {z:Nat} {x x':AV} {l l':Option AV} {h h':Option AV} {K:AV→Prop} (hx:x=x') (hl:l=l') (hh:h=h'):slW z x l h K=slW z x' l' h' K:=by subst hx;subst hl;subst hh;rfl
@[congr] theorem bdW_congr {zs zs':List AV} {ps ps':List (Nat×Nat×AV)} {K:AV→Prop} (hzs:zs=zs') (hps:ps=ps'):bdW zs ps K=bdW zs' ps' K:=by subst hzs;subst hps;rfl
@[congr] theorem lkW_congr {S:q00} {M:Bool×List EK} {ok:Bool} {z:AV} {x x':AV} {k k':AV} {K:AV→Prop} (hx:x=x') (hk:k=k'):lkW S M ok z x k K=lkW S M ok z x' k' K:=by subst hx;subst hk;rfl
@[congr] theorem exW_congr {i:Nat} {x x':AV} {K:AV→Prop} (hx:x=x'):exW i x K=exW i x' K:=by subst hx;rfl
@[congr] theorem lnW_congr {S:q00} {k:Nat} {x x':AV} {K:AV→Prop} (hx:x=x'):lnW S k x K=lnW S k x' K:=by subst hx;rfl
@[congr] theorem taW_congr {t:Nat} {ok:Bool} {z:AV} {x x':AV} {K:AV→Prop} (hx:x=x'):taW t ok z x K=taW t ok z x' K:=by subst hx;rfl
@[congr] theorem mxW_congr {x x':AV} {y y':AV} {K:AV→Prop} (hx:x=x') (hy:y=y'):mxW x y K=mxW x' y' K:=by subst hx;subst hy;rfl
@[congr] theorem pkW_congr {c c':AV} {a:AV} {b:AV} {K:AV→Prop} (hc:c=c'):pkW c a b K=pkW c' a b K:=by subst hc;rfl
@[congr] theorem alW_congr {S:q00} {t:Nat} {zs:List AV} {K:AV→q00→Prop}:alW S t zs K=alW S t zs K:=rfl
@[congr] theorem bxW_congr {S:q00} {t:Nat} {n:Nat} {x x':AV} {K:AV→q00→Prop} (hx:x=x'):bxW S t n x K=bxW S t n x' K:=by subst hx;rfl
@[congr] theorem brW_congr {n:Nat} {x x':AV} {K:AV→Prop} (hx:x=x'):brW n x K=brW n x' K:=by subst hx;rfl
@[congr] theorem bfW_congr {n:Nat} {x x':AV} {K:AV→Prop} (hx:x=x'):bfW n x K=bfW n x' K:=by subst hx;rfl
@[congr] theorem bsW_congr {S:q00} {t:Nat} {z:Nat} {xs xs':List AV} {K:AV→q00→Prop} (hxs:xs=xs'):bsW S t z xs K=bsW S t z xs' K:=by subst hxs;rfl
@[congr] theorem srW_congr {z:Nat} {xs xs':List AV} {K:AV→Prop} (hxs:xs=xs'):srW z xs K=srW z xs' K:=by subst hxs;rfl
@[congr] theorem mmW_congr {S:q00} {M:Bool×List EK} {K:AV→q00→Prop}:mmW S M K=mmW S M K:=rfl
@[congr] theorem msW_congr {S:q00} {t:Nat} {b:Nat} {z:AV} {l l':AV} {c c':AV} {K:AV→q00→Prop} (hl:l=l') (hc:c=c'):msW S t b z l c K=msW S t b z l' c' K:=by subst hl;subst hc;rfl
@[congr] theorem stW_congr {S:q00} {n:Nat} {p p':AV} {v v':AV} {K:q00→Prop} (hp:p=p') (hv:v=v'):stW S n p v K=stW S n p' v' K:=by subst hp;subst hv;rfl
@[congr] theorem muW_congr {S:q00} {M:Bool×List EK} {m m':AV} {k k':AV} {v v':AV} {K:q00→Prop} (hm:m=m') (hk:k=k') (hv:v=v'):muW S M m k v K=muW S M m' k' v' K:=by subst hm;subst hk;subst hv;rfl
@[congr] theorem meW_congr {S:q00} {M:Bool×List EK} {z:AV} {m m':AV} {k k':AV} {K:AV→q00→Prop} (hm:m=m') (hk:k=k'):meW S M z m k K=meW S M z m' k' K:=by subst hm;subst hk;rfl
@[congr] theorem mtW_congr {S:q00} {m m':AV} {s s':AV} {v v':AV} {K:q00→Prop} (hm:m=m') (hs:s=s') (hv:v=v'):mtW S m s v K=mtW S m' s' v' K:=by subst hm;subst hs;subst hv;rfl
@[congr] theorem mdW_congr {S:q00} {M:Bool×List EK} {m m':AV} {k k':AV} {K:q00→Prop} (hm:m=m') (hk:k=k'):mdW S M m k K=mdW S M m' k' K:=by subst hm;subst hk;rfl
@[congr] theorem apW_congr {S:q00} {t:Nat} {z:Nat} {b:Nat} {s s':AV} {x x':AV} {K:AV→q00→Prop} (hs:s=s') (hx:x=x'):apW S t z b s x K=apW S t z b s' x' K:=by subst hs;subst hx;rfl
@[congr] theorem fzW_congr {S:q00} {v v':AV} {K:AV→q00→Prop} (hv:v=v'):fzW S v K=fzW S v' K:=by subst hv;rfl
@[congr] theorem mkW_congr {ag:Bool} {n:Nat} {cs cs':List AV} {K:AV→Prop} (hcs:cs=cs'):mkW ag n cs K=mkW ag n cs' K:=by subst hcs;rfl
@[congr] theorem lcW_congr {o o':Option (List AV)} {f:Nat} {n:Nat} {ag:Bool} {K:AV→Prop} (ho:o=o'):lcW o f n ag K=lcW o' f n ag K:=by subst ho;rfl
@[congr] theorem atW_congr {o o':Option (List AV)} {K:List AV→Prop} (ho:o=o'):atW o K=atW o' K:=by subst ho;rfl
@[congr] theorem byW_congr {o o':Option UInt8} {K:UInt8→Prop} (ho:o=o'):byW o K=byW o' K:=by subst ho;rfl
@[congr] theorem tkW_congr {n:Nat} {cs cs':List AV} {K:List AV→Prop} (hcs:cs=cs'):tkW n cs K=tkW n cs' K:=by subst hcs;rfl
@[congr] theorem lmW_congr {o o':Option ((Bool×List EK)×List (AV×AV×Nat)×Nat)} {M:Bool×List EK} {ok:Bool} {z:AV} {k k':AV} {K:AV→Prop} (ho:o=o') (hk:k=k'):lmW o M ok z k K=lmW o' M ok z k' K:=by subst ho;subst hk;rfl
@[congr] theorem mlW_congr {o o':Option ((Bool×List EK)×List (AV×AV×Nat)×Nat)} {K:AV→Prop} (ho:o=o'):mlW o K=mlW o' K:=by subst ho;rfl
@[congr] theorem soW_congr {o o':Option (Nat×List AV×Nat)} {S:q00} {n:Nat} {b:Nat} {f:Nat} {v v':AV} {K:q00→Prop} (ho:o=o') (hv:v=v'):soW o S n b f v K=soW o' S n b f v' K:=by subst ho;subst hv;rfl
@[congr] theorem foW_congr {o o':Option (Nat×List AV×Nat)} {S:q00} {b:Nat} {K:AV→q00→Prop} (ho:o=o'):foW o S b K=foW o' S b K:=by subst ho;rfl
@[congr] theorem muoW_congr {o o':Option ((Bool×List EK)×List (AV×AV×Nat)×Nat)} {S:q00} {M:Bool×List EK} {b:Nat} {k k':AV} {v v':AV} {K:q00→Prop} (ho:o=o') (hk:k=k') (hv:v=v'):muoW o S M b k v K=muoW o' S M b k' v' K:=by subst ho;subst hk;subst hv;rfl
@[congr] theorem cpW_congr {S:q00} {z:Nat} {s s' x x':AV} {K:AV→q00→Prop} (hs:s=s') (hx:x=x'):cpW S z s x K=cpW S z s' x' K:=by subst hs;subst hx;rfl
@[congr] theorem cnW_congr {v v':AV} {Y N:Prop} (h:v=v'):cnW v Y N=cnW v' Y N:=by subst h;rfl
@[congr] theorem grW_congr {v v':AV} {w:Bool} {Y Y' N N':Prop} (h:v=v') (hY:Y=Y') (hN:N=N'):grW v w Y N=grW v' w Y' N':=by subst h;subst hY;subst hN;rfl
@[congr] theorem LoopP_congr {F:(LE→q00→Prop)→LE→q00→Prop} {l:LE} {S:q00}:LoopP F l S=LoopP F l S:=rfl
@[congr] theorem caW_congr {P:Program} {S:q00} {f f':AV} {xs xs':List AV} {K Q:AV→q00→Prop} (h:f=f') (h':xs=xs'):caW P S f xs K Q=caW P S f' xs' K Q:=by subst h;subst h';rfl
section
variable {S:q00} {K:AV→Prop} {KS:AV→q00→Prop} {KT:q00→Prop} {n m f sz b off l cap t:Nat} {ag neg ok w:Bool} {k k':IntKind} {i j:Int} {cs xs ys:List AV} {rows:List (List AV)} {s s':ByteArray} {x y z v:AV} {M:Bool×List EK} {p q:Bool} {Y N:Prop}
theorem ldW_rop:ldW S n ag (.rop cs) K=mkW ag n cs K:=rfl
theorem ldW_ptr:ldW S n ag (.ptr b off) K=lcW (q2q S b) off n ag K:=by
 unfold ldW lcW
 rw [cellsOf_ptr]
 cases q2q S b<;>rfl
theorem lcW_some:lcW (some cs) f n ag K=mkW ag n (cs.drop f) K:=rfl
theorem mkW_one {c:AV}:mkW false n (c :: cs) K=K c:=rfl
theorem mkW_agg:mkW true n cs K=tkW n cs fun l=>K (.agg l):=by
 have key:∀ (n:Nat) (cs:List AV) (K:List AV→Prop),tkW n cs K=if n≤cs.length then K (cs.take n) else False:=by
  intro n
  induction n with
  | zero=>intro cs K;simp [tkW]
  | succ n ih=>
   intro cs K
   cases cs with
   | nil=>simp [tkW]
   | cons c cs=>
    simp only [tkW,ih,List.length_cons,List.take_succ_cons]
    by_cases h:n≤cs.length
    ·rw [if_pos h,if_pos (by omega)]
    ·rw [if_neg h,if_neg (by omega)]
 rw [key]
 unfold mkW mkA
 by_cases h:n≤cs.length
 ·rw [if_pos rfl,if_pos h,if_pos h];rfl
 ·rw [if_pos rfl,if_neg h,if_neg h];rfl
theorem mkW_all (h:cs.length=n):mkW true n cs K=K (.agg cs):=by
 unfold mkW mkA
 rw [if_pos rfl,if_pos (by omega),List.take_of_length_le (by omega)]
 rfl
theorem tkW_all {K:List AV→Prop} (h:cs.length=n):tkW n cs K=K cs:=by
 have h1:mkW true n cs (fun v=>match v with | .agg l=>K l | _=>False)=K cs:=mkW_all h
 rw [mkW_agg] at h1
 exact h1
theorem tkW_zero {K:List AV→Prop}:tkW 0 cs K=K []:=rfl
theorem tkW_succ {c:AV} {K:List AV→Prop}:tkW (n+1) (c :: cs) K=tkW n cs fun l=>K (c :: l):=rfl
theorem nkW_ptr:nkW (.ptr b off) K=K (.ptr b off):=rfl
theorem nkW_rop:nkW (.rop cs) K=K (.rop cs):=rfl
theorem biW_add:biW .add (.int k i) (.int k j) K=K (.int k (k.wrap (i+j))):=by unfold biW;rw [q2l];rfl
theorem biW_sub:biW .sub (.int k i) (.int k j) K=K (.int k (k.wrap (i-j))):=by unfold biW;rw [q2l];rfl
theorem biW_mul:biW .mul (.int k i) (.int k j) K=K (.int k (k.wrap (i * j))):=by unfold biW;rw [q2l];rfl
theorem biW_eql:biW .eql (.int k i) (.int k j) K=K (.bool (decide (i=j))):=by unfold biW;rw [q2l];rfl
theorem biW_neq:biW .neq (.int k i) (.int k j) K=K (.bool (!decide (i=j))):=by unfold biW;rw [q2l];rfl
theorem biW_lss:biW .lss (.int k i) (.int k j) K=K (.bool (decide (i<j))):=by unfold biW;rw [q2l];rfl
theorem biW_leq:biW .leq (.int k i) (.int k j) K=K (.bool (decide (i≤j))):=by unfold biW;rw [q2l];rfl
theorem biW_gtr:biW .gtr (.int k i) (.int k j) K=K (.bool (decide (j<i))):=by unfold biW;rw [q2l];rfl
theorem biW_geq:biW .geq (.int k i) (.int k j) K=K (.bool (decide (j≤i))):=by unfold biW;rw [q2l];rfl
theorem biW_and:biW .and (.int k i) (.int k j) K=K (.int k (Go.bits .and k i j)):=by unfold biW;rw [q2l];rfl
theorem biW_xor:biW .xor (.int k i) (.int k j) K=K (.int k (Go.bits .xor k i j)):=by unfold biW;rw [q2l];rfl
theorem biW_sadd:biW .add (.str s) (.str s') K=(s.size+s'.size≤9223372036854775807∧K (.str (s++s'))):=by
 unfold biW
 rw [binA_str,binS_add]
 by_cases h:s.size+s'.size≤9223372036854775807
 ·rw [if_pos h];simp [q0k,h]
 ·rw [if_neg h];simp [q0k,h]
theorem biW_seql:biW .eql (.str s) (.str s') K=K (.bool (decide (s=s'))):=rfl
theorem biW_sneq:biW .neq (.str s) (.str s') K=K (.bool (!decide (s=s'))):=rfl
theorem biW_slss:biW .lss (.str s) (.str s') K=K (.bool (Op.bytesLess s.toList s'.toList)):=rfl
theorem eqW_def:eqW neg M x y K=((q0m M x&&q0m M y)=true∧K (.bool (if neg then !q1d x y else q1d x y))):=by
 unfold eqW eqpA
 cases h:q0m M x&&q0m M y<;>simp [q0k]
theorem enW_nil:enW neg .nili K=K (.bool (!neg)):=rfl
theorem enW_iface:enW neg (.iface t v) K=K (.bool neg):=rfl
theorem ntW_bool:ntW (.bool p) K=K (.bool (!p)):=rfl
theorem cvW_int:cvW k (.int k' i) K=K (.int k (k.wrap i)):=rfl
theorem fdW_agg:fdW f n ag (.agg cs) K=(f+n≤cs.length∧mkW ag n (cs.drop f) K):=by
 unfold fdW
 rw [fieldA_agg]
 by_cases h:f+n≤cs.length
 ·rw [if_pos h];simp [h,mkW]
 ·rw [if_neg h];simp [q0k,h]
theorem faW_ptr:faW f (.ptr b off) K=K (.ptr b (off+f)):=rfl
theorem faW_rop:faW f (.rop cs) K=K (.rop (cs.drop f)):=rfl
theorem iaW_sl {sz':Nat}:iaW sz (.sl sz' rows) (.int k i) K=(sz=sz'∧0≤i∧atW rows[i.toNat]? fun cs=>K (.rop cs)):=by
 unfold iaW
 rw [iaddrA_sl]
 by_cases h:sz=sz'∧0≤i
 ·rw [if_pos h]
  obtain ⟨h1,h2⟩:=h
  unfold atW someL
  cases rows[i.toNat]?<;>simp [q0k,h1,h2]
 ·rw [if_neg h]
  refine propext ⟨fun h'=>h'.elim,fun h'=>absurd ⟨h'.1,h'.2.1⟩ h⟩
theorem iaW_nat {a:Nat}:iaW sz (.sl sz rows) (.int k (a:Int)) K=atW rows[a]? fun cs=>K (.rop cs):=by
 rw [iaW_sl,Int.toNat_natCast]
 simp
theorem iaW_zero:iaW sz (.sl sz rows) (.int k 0) K=atW rows[0]? fun cs=>K (.rop cs):=iaW_nat (a:=0)
theorem iaW_one:iaW sz (.sl sz rows) (.int k 1) K=atW rows[1]? fun cs=>K (.rop cs):=iaW_nat (a:=1)
theorem iaW_own:iaW sz (.own b off l cap) (.int k i) K=(0≤i∧i<l∧K (.ptr b (off+i.toNat * sz))):=by
 unfold iaW
 rw [iaddrA_own]
 by_cases h:0≤i∧i<l
 ·rw [if_pos h];simp [q0k,h]
 ·rw [if_neg h]
  exact propext ⟨fun h'=>h'.elim,fun h'=>absurd ⟨h'.1,h'.2.1⟩ h⟩
theorem atW_some {K:List AV→Prop}:atW (some cs) K=K cs:=rfl
theorem byW_some {K:UInt8→Prop} {c:UInt8}:byW (some c) K=K c:=rfl
theorem isW_str:isW (.str s) (.int k i) K=(0≤i∧byW s[i.toNat]? fun c=>K (.int .u8 c.toNat)):=by
 unfold isW
 rw [idxsA_str]
 by_cases h:0≤i
 ·rw [if_pos h]
  unfold byW
  cases s[i.toNat]?<;>simp [q0k,h]
 ·rw [if_neg h];simp [q0k,h]
theorem isW_nat {a:Nat}:isW (.str s) (.int k (a:Int)) K=byW s[a]? fun c=>K (.int .u8 c.toNat):=by
 rw [isW_str,Int.toNat_natCast]
 simp
theorem isW_zero:isW (.str s) (.int k 0) K=byW s[0]? fun c=>K (.int .u8 c.toNat):=isW_nat (a:=0)
theorem ssW_cut {lo hi:Option AV}:ssW (.str s) lo hi K=q0k (cutI (loI lo) (hiI s.size hi) s.size fun l h=>.str (s.extract l h)) K:=by unfold ssW;rw [slicsA_cut]
theorem slW_cut {lo hi:Option AV}:slW sz (.sl sz rows) lo hi K=q0k (cutI (loI lo) (hiI rows.length hi) rows.length fun l h=>.sl sz ((rows.take h).drop l)) K:=by unfold slW;rw [sliclA_cut]
theorem slW_own {lo hi:Option AV}:slW sz (.own b off l cap) lo hi K=q0k (cutI (loI lo) (hiI l hi) cap fun p h=>.own b (if cap=p then off else off+p * sz) (h-p) (cap-p)) K:=by unfold slW;rw [sliclA_own]
theorem cut_def {lo hi d:Int} {g:Nat→Nat→AV}:q0k (cutI (some lo) (some hi) d g) K=(0≤lo∧lo≤hi∧hi≤d∧K (g lo.toNat hi.toNat)):=by
 rw [cutI_some]
 by_cases h:0≤lo∧lo≤hi∧hi≤d
 ·rw [if_pos h];simp [q0k,h]
 ·rw [if_neg h]
  exact propext ⟨fun h'=>h'.elim,fun h'=>absurd ⟨h'.1,h'.2.1,h'.2.2.1⟩ h⟩
theorem bdW_nil:bdW cs [] K=K (.agg cs):=rfl
theorem bdW_cons {r:List (Nat×Nat×AV)}:bdW cs ((off,n,x) :: r) K=((q08 x).length=n∧off+n≤cs.length∧notJ x=true∧bdW (q1j cs off (q08 x)) r K):=by
 unfold bdW
 simp only [buildV]
 by_cases h:(q08 x).length=n∧off+n≤cs.length∧notJ x=true
 ·rw [if_pos h];simp [h]
 ·rw [if_neg h]
  exact propext ⟨fun h'=>h'.elim,fun h'=>absurd ⟨h'.1,h'.2.1,h'.2.2.1⟩ h⟩
theorem lkW_map:lkW S M ok z (.map (some b)) x K=lmW (q1z S b) M ok z x K:=by
 unfold lkW lmW
 cases h:q1z S b with
 | none=>
  have:mapAt S b=none:=by rw [mapAt_obj,h];rfl
  simp [q4e,this,q0k]
 | some q=>
  obtain ⟨M',es,clk⟩:=q
  dsimp only
  rw [lookupA_some (M':=M') (es:=es) (by rw [mapAt_obj,h];rfl),foundA_get]
  by_cases h1:q0m M x=true∧M'=M
  ·rw [if_pos h1];simp [q0k,h1]
  ·rw [if_neg h1]
   exact propext ⟨fun h'=>h'.elim,fun h'=>absurd ⟨h'.1,h'.2.1⟩ h1⟩
theorem lkW_nil:lkW S M ok z (.map none) x K=(q0m M x=true∧K (q28 ok z none)):=by
 unfold lkW
 simp only [q4e]
 by_cases h:q0m M x=true
 ·rw [if_pos h];simp [q0k,h];rfl
 ·rw [if_neg h];simp [q0k,h]
theorem lmW_some {M':Bool×List EK} {es:List (AV×AV×Nat)} {clk:Nat}:lmW (some (M',es,clk)) M ok z x K=(q0m M x=true∧M'=M∧K (q28 ok z (mget es x))):=rfl
theorem foundG_some:q28 true z (some v)=.tup [v,.bool true]:=rfl
theorem foundG_none:q28 true z none=.tup [z,.bool false]:=rfl
theorem q53:q28 false z (some v)=v:=rfl
theorem foundG_fnone:q28 false z none=z:=rfl
theorem q6v:exW 0 (.tup (v :: xs)) K=K v:=rfl
theorem exW_succ:exW (n+1) (.tup (v :: xs)) K=exW n (.tup xs) K:=rfl
theorem lnW_str:lnW S 0 (.str s) K=K (.int .i64 s.size):=rfl
theorem lnW_sl:lnW S 1 (.sl sz rows) K=K (.int .i64 rows.length):=rfl
theorem q8x:lnW S 1 .nils K=K (.int .i64 0):=rfl
theorem lnW_own:lnW S 1 (.own b off l cap) K=K (.int .i64 l):=rfl
theorem lnW_map:lnW S 2 (.map (some b)) K=mlW (q1z S b) K:=by
 unfold lnW mlW q1z
 simp only [if_neg (show ¬ 2=0 by omega),if_neg (show ¬ 2=1 by omega),lenA]
 cases sget S b with
 | none=>rfl
 | some o=>cases o<;>rfl
theorem q6m {M':Bool×List EK} {es:List (AV×AV×Nat)} {clk:Nat}:mlW (some (M',es,clk)) K=K (.int .i64 es.length):=rfl
theorem taW_hit:taW t ok z (.iface t v) K=K (if ok then .tup [v,.bool true] else v):=by simp [taW,asrtA,q0k]
theorem taW_nil:taW t true z .nili K=K (.tup [z,.bool false]):=rfl
theorem mxW_int:mxW (.int k i) (.int k' j) K=K (.int k (if i<j then j else i)):=rfl
theorem pkW_t:pkW (.bool true) x y K=K x:=rfl
theorem pkW_f:pkW (.bool false) x y K=K y:=rfl
theorem brW_int:brW 1 (.int k i) K=K (.rop [.int k i]):=by simp [brW,q08,notJ]
theorem brW_str:brW 1 (.str s) K=K (.rop [.str s]):=by simp [brW,q08,notJ]
theorem brW_bool:brW 1 (.bool p) K=K (.rop [.bool p]):=by simp [brW,q08,notJ]
theorem brW_sl:brW 1 (.sl sz rows) K=K (.rop [.sl sz rows]):=by simp [brW,q08,notJ]
theorem brW_rop:brW 1 (.rop cs) K=K (.rop [.rop cs]):=by simp [brW,q08,notJ]
theorem brW_map {o:Option Nat}:brW 1 (.map o) K=K (.rop [.map o]):=by simp [brW,q08,notJ]
theorem brW_ptr:brW 1 (.ptr b off) K=K (.rop [.ptr b off]):=by simp [brW,q08,notJ]
theorem brW_nils:brW 1 .nils K=K (.rop [.nils]):=by simp [brW,q08,notJ]
theorem brW_func {g:Fn}:brW 1 (.func g xs ys) K=K (.rop [.func g xs ys]):=by simp [brW,q08,notJ]
theorem brW_agg:brW n (.agg cs) K=(cs.length=n∧K (.rop cs)):=by simp [brW,q08,notJ]
theorem bfW_int:bfW 1 (.int k i) K=K (.rop [.int k i]):=by simp [bfW,q08,ones,one]
theorem bfW_str:bfW 1 (.str s) K=K (.rop [.str s]):=by simp [bfW,q08,ones,one]
theorem bfW_bool:bfW 1 (.bool p) K=K (.rop [.bool p]):=by simp [bfW,q08,ones,one]
theorem bfW_sl:bfW 1 (.sl sz rows) K=K (.rop [.sl sz rows]):=by simp [bfW,q08,ones,one]
theorem bfW_rop:bfW 1 (.rop cs) K=K (.rop [.rop cs]):=by simp [bfW,q08,ones,one]
theorem bfW_map {o:Option Nat}:bfW 1 (.map o) K=K (.rop [.map o]):=by simp [bfW,q08,ones,one]
theorem bfW_nils:bfW 1 .nils K=K (.rop [.nils]):=by simp [bfW,q08,ones,one]
theorem bfW_agg:bfW n (.agg cs) K=(cs.length=n∧ones cs=true∧K (.rop cs)):=by simp [bfW,q08]
theorem srW_def:srW sz xs K=(allV sz xs∧K (.sl sz (xs.map q08))):=rfl
theorem allV_nil:allV sz []=True:=rfl
theorem allV_cons:allV sz (x :: xs)=((q08 x).length=sz∧notJ x=true∧allV sz xs):=rfl
theorem flatV_nil:flatV []=[]:=rfl
theorem flatV_cons:flatV (x :: xs)=q08 x++flatV xs:=rfl
theorem q3y:stW S n (.ptr b off) v KT=soW (q0i S b) S n b off v KT:=by kernel_rfl
theorem q35 {tot:Nat}:soW (some (t,cs,tot)) S n b f v KT=((q08 v).length=n∧f+n≤cs.length∧ones (q08 v)=true∧KT (supd S b (.cells t (q1j cs f (q08 v)) tot))):=rfl
theorem soW_one {tot:Nat} (h:one v=true) (c:AV):soW (some (t,[c],tot)) S 1 b 0 v KT=KT (supd S b (.cells t [v] tot)):=by
 have h1:q08 v=[v]:=by cases v<;>first | rfl | cases h
 simp [soW,h1,ones,h,q1j]
theorem fzW_ptr:fzW S (.ptr b 0) KS=foW (q0i S b) S b KS:=by kernel_rfl
theorem q8y {tot:Nat}:foW (some (t,cs,tot)) S b KS=KS (.rop cs) (sdel S b):=rfl
theorem muW_map:muW S M (.map (some b)) x v KT=muoW (q1z S b) S M b x v KT:=by kernel_rfl
theorem q6l {M':Bool×List EK} {es:List (AV×AV×Nat)} {clk:Nat}:muoW (some (M',es,clk)) S M b x v KT=(M'=M∧q0m M x=true∧KT (supd S b (.map M (mset es x v clk).1 (mset es x v clk).2))):=rfl
theorem cnW_t:cnW (.bool true) Y N=Y:=by simp [cnW]
theorem cnW_f:cnW (.bool false) Y N=N:=by simp [cnW]
theorem q04 (h1:p=true→Y) (h2:p=false→N):cnW (.bool p) Y N:=⟨h1,h2⟩
theorem grW_tt:grW (.bool true) true Y N=Y:=by simp [grW]
theorem grW_tf:grW (.bool true) false Y N=N:=by simp [grW]
theorem grW_ft:grW (.bool false) true Y N=N:=by simp [grW]
theorem grW_ff:grW (.bool false) false Y N=Y:=by simp [grW]
theorem grW_tup:grW (.tup []) w Y N=N:=rfl
theorem grW_undef:grW q06 w Y N=N:=rfl
theorem q20 (h1:p=w→Y) (h2:p=!w→N):grW (.bool p) w Y N:=⟨h1,h2⟩
theorem grW_and:grW (.bool p) true (pkW (.bool p) (.bool q) (.bool false) K) (pkW (.bool p) q06 (.bool false) K)=K (.bool (p&&q)):=by cases p<;>simp [grW,pkW,pickA]
theorem grW_or:grW (.bool p) false (pkW (.bool p) (.bool true) (.bool q) K) (pkW (.bool p) (.bool true) q06 K)=K (.bool (p||q)):=by cases p<;>simp [grW,pkW,pickA]
theorem grW_same:grW (.bool p) w Y Y=Y:=by cases p<;>cases w<;>simp [grW]
theorem kpW_nil {S':q00}:kpW [] S S' Y=Y:=by simp [kpW]
theorem kpW_cons {S':q00}:kpW (x :: xs) S S' Y=((∀ b,blk x=some b→sget S' b=sget S b)∧kpW xs S S' Y):=by
 simp only [kpW,List.mem_cons,forall_eq_or_imp,and_assoc]
theorem kpW_rop {S':q00}:kpW (.rop cs :: xs) S S' Y=kpW xs S S' Y:=by rw [kpW_cons];simp [blk]
theorem kpW_same:kpW xs S S Y=Y:=by simp [kpW]
theorem alst {zs:List AV} (hz:zs.length=n) (h:bfW n v (fun q=>KS q S)):alW S t zs (fun p S1=>stW S1 n p v (fun S2=>fzW S2 p KS)):=by
 intro b hb
 obtain ⟨h1,h2,h3⟩:=h
 rw [q3y,objAt_supd,if_pos rfl,q35]
 refine ⟨h1,by omega,h2,?_⟩
 rw [fzW_ptr,objAt_supd,if_pos rfl,q8y,q0u,q2n hb,q47 _ _ _ (by omega)]
 simpa using h3
theorem objAt_sdel {b c:Nat}:q0i (sdel S b) c=if b=c then none else q0i S c:=by
 unfold q0i
 rw [q0a]
 by_cases h:b=c<;>simp [h]
theorem sdel_sdel2 {a b:Nat} {o1 o2 o3 o4:AObj} (ha:sget S a=none) (hb:sget S b=none) (h:a≠b):sdel (sdel (supd (supd (supd (supd S a o1) b o2) a o3) b o4) a) b=S:=by
 funext x
 simp only [sdel,supd]
 by_cases h1:a=x
 ·subst h1
  simp only [if_neg (Ne.symm h),if_true];exact ha.symm
 ·by_cases h2:b=x
  ·subst h2;simp only [if_true];exact hb.symm
  ·simp only [if_neg h1,if_neg h2]
theorem alst2 {zs zs':List AV} {t' n':Nat} {v':AV} {KK:AV→AV→q00→Prop} (hz:zs.length=n) (hz':zs'.length=n') (h1:(q08 v).length=n) (h2:ones (q08 v)=true) (h1':(q08 v').length=n') (h2':ones (q08 v')=true) (h:KK (.rop (q08 v)) (.rop (q08 v')) S) :
  alW S t zs (fun p S1=>alW S1 t' zs' (fun q S2=>stW S2 n p v (fun S3=>stW S3 n' q v' (fun S4=>fzW S4 p (fun p' S5=>fzW S5 q (fun q' S6=>KK p' q' S6)))))):=by
 intro a ha b hb
 have hne:a≠b:=by
  rintro rfl
  rw [q01,if_pos rfl] at hb
  cases hb
 have hb':sget S b=none:=by rw [q01,if_neg hne] at hb;exact hb
 rw [q3y,objAt_supd,if_neg (Ne.symm hne),objAt_supd,if_pos rfl,q35]
 refine ⟨h1,by omega,h2,?_⟩
 rw [q3y,objAt_supd,if_neg hne,objAt_supd,if_pos rfl,q35]
 refine ⟨h1',by omega,h2',?_⟩
 rw [q47 _ _ _ (by omega),q47 _ _ _ (by omega),fzW_ptr,objAt_supd,if_neg (Ne.symm hne),objAt_supd,if_pos rfl,q8y,fzW_ptr,objAt_sdel,if_neg hne,objAt_supd,if_pos rfl,q8y,sdel_sdel2 ha hb' hne]
 simpa using h
theorem keyOk_agg:q0m M (.agg cs)=(M.1&&q17 M.2 cs):=rfl
theorem keyOk_str:q0m M (.str s)=(!M.1&&q17 M.2 [.str s]):=rfl
theorem keyOk_bool:q0m M (.bool p)=(!M.1&&q17 M.2 [.bool p]):=rfl
theorem keyOk_int:q0m M (.int k i)=(!M.1&&q17 M.2 [.int k i]):=rfl
theorem eksOk_nil:q17 [] []=true:=rfl
theorem eksOk_cons {e:EK} {es:List EK}:q17 (e :: es) (x :: xs)=(ekOk e x&&q17 es xs):=rfl
theorem ekOk_str:ekOk .str (.str s)=true:=rfl
theorem ekOk_int:ekOk (.int k) (.int k i)=true:=by simp [ekOk]
theorem ekOk_bool:ekOk .bool (.bool p)=true:=rfl
theorem keyEq_agg:q1d (.agg xs) (.agg ys)=eqs xs ys:=rfl
theorem keyEq_str:q1d (.str s) (.str s')=decide (s=s'):=by simp [q1d,q2f,eqs,eq1]
theorem keyEq_bool:q1d (.bool p) (.bool q)=(p==q):=by simp [q1d,q2f,eqs,eq1]
theorem eqs_nil:eqs [] []=true:=rfl
theorem eqs_cons:eqs (x :: xs) (y :: ys)=(eq1 x y&&eqs xs ys):=rfl
theorem eq1_str:eq1 (.str s) (.str s')=decide (s=s'):=rfl
theorem eq1_int:eq1 (.int k i) (.int k' j)=decide (i=j):=by simp only [eq1];exact Bool.beq_eq_decide_eq i j
theorem eq1_bool:eq1 (.bool p) (.bool q)=(p==q):=rfl
end
section
variable {P:Program} {S:q00} {QF:AEnd→q00→Prop}
attribute [local semireducible] LoopP in
theorem LoopP.intro {F:(LE→q00→Prop)→LE→q00→Prop} {l:LE} {α:Type} (env:α→LE) (st:α→q00) (inv:α→Prop) (mu:α→Nat) (x0:α) (h0:inv x0) (he:l=env x0) (hS:Sub (st x0) S)
  (step:∀ x,inv x→∀ r:LE→q00→Prop,(∀ x',inv x'→mu x'<mu x→r (env x') (st x'))→F r (env x) (st x)):LoopP F l S:=by
 refine ⟨fun m l S=>∃ x,inv x∧mu x=m∧l=env x∧S=st x,mu x0,⟨env x0,st x0,?_,x0,h0,rfl,rfl,rfl⟩,?_⟩
 ·subst he;exact Shift.sub hS
 ·rintro m l S ⟨x,hx,rfl,rfl,rfl⟩
  exact step x hx _ fun x' h1 h2=>⟨mu x',h2,x',h1,rfl,rfl,rfl⟩
attribute [local semireducible] LoopP in
theorem LoopP.introS {F:(LE→q00→Prop)→LE→q00→Prop} {l:LE} {α:Type} (env:α→LE) (inv:α→q00→Prop) (mu:α→Nat) (x0:α) (h0:inv x0 S) (he:l=env x0)
  (step:∀ x S,inv x S→∀ r:LE→q00→Prop,(∀ x' S',inv x' S'→mu x'<mu x→r (env x') S')→F r (env x) S):LoopP F l S:=by
 refine ⟨fun m l S=>∃ x,inv x S∧mu x=m∧l=env x,mu x0,⟨env x0,S,?_,x0,h0,rfl,rfl⟩,?_⟩
 ·subst he;exact Shift.refl _ _
 ·rintro m l S ⟨x,hx,rfl,rfl⟩
  exact step x S hx _ fun x' S' h1 h2=>⟨mu x',h2,x',h1,rfl,rfl⟩
theorem rcW_id {r:LE→q00→Prop} {l:LE} (h:r l S):rcW r l S:=⟨l,S,Shift.refl _ _,h⟩
theorem q09 {r:LE→q00→Prop} {l l':LE} (hl:l=l') (h:r l' S):rcW r l S:=hl ▸ rcW_id h
theorem q02 {v:AV} (h:QF (.ret v) S):rtW [.tmp v] QF S:=⟨v,S,ShV.refl _ _,h⟩
theorem rtW_sub {v:AV} {S':q00} (hS:Sub S' S) (h:QF (.ret v) S'):rtW [.tmp v] QF S:=⟨v,S',ShV.sub hS,h⟩
theorem rtW_two {u v:AV} (h:QF (.ret (.tup [u,v])) S):rtW [.tmp u,.tmp v] QF S:=⟨_,S,ShV.refl _ _,h⟩
theorem rtW_three {u v x:AV} (h:QF (.ret (.tup [u,v,x])) S):rtW [.tmp u,.tmp v,.tmp x] QF S:=⟨_,S,ShV.refl _ _,h⟩
theorem q2b (h:QF (.ret (.tup [])) S):rtW [] QF S:=⟨_,S,ShV.refl _ _,h⟩
theorem rtW_view {rs:List RW} {vs:List AV} {v':AV} {S':q00} (hr:q3o S rs=some vs) (hS:ShV (tupA vs) S v' S') (h:QF (.ret v') S'):rtW rs QF S:=by
 unfold rtW
 rw [hr]
 exact ⟨_,S',hS,h⟩
theorem q0y {rs:List RW} (S':q00) (hS:Sub S' S) (h:someL (q3o S rs) fun vs=>QF (.ret (tupA vs)) S'):rtW rs QF S:=by
 unfold rtW
 unfold someL at h ⊢
 split at h
 ·exact ⟨_,S',ShV.sub hS,h⟩
 ·exact h.elim
theorem resWs_nil:q3o S []=some []:=rfl
theorem resWs_tmp {v:AV} {rs:List RW}:q3o S (.tmp v :: rs)=(q3o S rs).map fun vs=>v :: vs:=by
 simp only [q3o,resW]
 cases q3o S rs<;>rfl
theorem resWs_cell {v:AV} {n:Nat} {ag:Bool} {rs:List RW}:q3o S (.cell v n ag :: rs)=((cellsOf S v).bind (mkA ag n)).bind fun v=>(q3o S rs).map fun vs=>v :: vs:=by
 simp only [q3o,resW]
 cases (cellsOf S v).bind (mkA ag n) with
 | none=>rfl
 | some u=>cases q3o S rs<;>rfl
theorem q05 {f:Nat} {xs:List AV} {v:AV} {K Qp:AV→q00→Prop} (h:AFun P f xs v) (hk:K v S):caW P S (.func (.func f) [] []) xs K Qp:=
 ⟨f,[],[],fun ae S'=>ae=.ret v∧S'=S,rfl,by simpa using h S,fun ae S' ⟨h1,h2⟩=>by subst h1;subst h2;exact hk⟩
theorem caW_purev {f:Nat} {fi ca xs:List AV} {v:AV} {K Qp:AV→q00→Prop} (h:AFun P f (fi++xs++ca) v) (hk:K v S):caW P S (.func (.func f) fi ca) xs K Qp:=
 ⟨f,fi,ca,fun ae S'=>ae=.ret v∧S'=S,rfl,h S,fun ae S' ⟨h1,h2⟩=>by subst h1;subst h2;exact hk⟩
theorem q0c {f:Nat} {xs:List AV} {Q:AEnd→q00→Prop} {K Qp:AV→q00→Prop} (h:ACalls P f xs S Q) (hk:∀ ae S',Q ae S'→match ae with
  | .ret v=>K v S'
  | .pan v=>Qp v S'):caW P S (.func (.func f) [] []) xs K Qp:=
 ⟨f,[],[],Q,rfl,by simpa using h,hk⟩
theorem caW_ofv {f:Nat} {fi ca xs:List AV} {Q:AEnd→q00→Prop} {K Qp:AV→q00→Prop} (h:ACalls P f (fi++xs++ca) S Q) (hk:∀ ae S',Q ae S'→match ae with
  | .ret v=>K v S'
  | .pan v=>Qp v S'):caW P S (.func (.func f) fi ca) xs K Qp:=
 ⟨f,fi,ca,Q,rfl,h,hk⟩
def AFunS (P:Program) (f:Nat) (args:List AV) (S:q00) (v:AV):Prop:=ACalls P f args S fun ae S'=>ae=.ret v∧S'=S
theorem q1l {f:Nat} {xs:List AV} {v:AV} {K Qp:AV→q00→Prop} (h:AFunS P f xs S v) (hk:K v S):caW P S (.func (.func f) [] []) xs K Qp:=
 q0c h fun ae S' ⟨h1,h2⟩=>by subst h1;subst h2;exact hk
theorem caW_atv {f:Nat} {fi ca xs:List AV} {v:AV} {K Qp:AV→q00→Prop} (h:AFunS P f (fi++xs++ca) S v) (hk:K v S):caW P S (.func (.func f) fi ca) xs K Qp:=
 caW_ofv h fun ae S' ⟨h1,h2⟩=>by subst h1;subst h2;exact hk
end
def hw0:=And.intro @ldW_rop (And.intro @ldW_ptr (And.intro @lcW_some (And.intro @mkW_one (And.intro @mkW_agg (And.intro @tkW_zero (And.intro @tkW_succ (And.intro @nkW_ptr (And.intro @nkW_rop (And.intro @biW_add (And.intro @biW_sub (And.intro @biW_mul (And.intro @biW_eql (And.intro @biW_neq (And.intro @biW_lss (And.intro @biW_leq (And.intro @biW_gtr (And.intro @biW_geq (And.intro @biW_sadd (And.intro @biW_seql (And.intro @biW_sneq (And.intro @biW_slss (And.intro @eqW_def (And.intro @enW_nil (And.intro @enW_iface (And.intro @ntW_bool (And.intro @cvW_int (And.intro @fdW_agg (And.intro @faW_ptr (And.intro @faW_rop (And.intro @iaW_nat (And.intro @iaW_zero (And.intro @iaW_one (And.intro @iaW_own (And.intro @atW_some (And.intro @byW_some (And.intro @isW_nat (And.intro @isW_zero (And.intro @ssW_cut @slW_cut))))))))))))))))))))))))))))))))))))))
def hw1:=And.intro @slW_own (And.intro @cut_def (And.intro @loI_none (And.intro @loI_int (And.intro @hiI_none (And.intro @hiI_int (And.intro @bdW_nil (And.intro @bdW_cons (And.intro @lkW_nil (And.intro @lmW_some (And.intro @foundG_some (And.intro @foundG_none (And.intro @q53 (And.intro @foundG_fnone (And.intro @q6v (And.intro @exW_succ (And.intro @lnW_str (And.intro @lnW_sl (And.intro @q8x (And.intro @lnW_own (And.intro @q6m (And.intro @taW_hit (And.intro @taW_nil (And.intro @mxW_int (And.intro @pkW_t (And.intro @pkW_f (And.intro @brW_int (And.intro @brW_str (And.intro @brW_bool (And.intro @brW_sl (And.intro @brW_rop (And.intro @brW_map (And.intro @brW_ptr (And.intro @brW_nils (And.intro @brW_func (And.intro @brW_agg (And.intro @bfW_int (And.intro @bfW_str (And.intro @bfW_bool @bfW_sl))))))))))))))))))))))))))))))))))))))
def hw2:=And.intro @bfW_rop (And.intro @bfW_map (And.intro @bfW_nils (And.intro @bfW_agg (And.intro @srW_def (And.intro @allV_nil (And.intro @allV_cons (And.intro @flatV_nil (And.intro @flatV_cons (And.intro @q3y (And.intro @q35 (And.intro @fzW_ptr (And.intro @q8y (And.intro @q6l (And.intro @cnW_t (And.intro @cnW_f (And.intro @grW_tt (And.intro @grW_tf (And.intro @grW_ft (And.intro @grW_ff (And.intro @grW_tup (And.intro @grW_undef (And.intro @grW_and (And.intro @grW_or (And.intro @grW_same (And.intro @kpW_nil (And.intro @kpW_rop (And.intro @kpW_same (And.intro @keyOk_agg (And.intro @keyOk_str (And.intro @keyOk_bool (And.intro @keyOk_int (And.intro @eksOk_nil (And.intro @eksOk_cons (And.intro @ekOk_str (And.intro @ekOk_int (And.intro @ekOk_bool (And.intro @keyEq_agg (And.intro @keyEq_str @keyEq_bool))))))))))))))))))))))))))))))))))))))
def hw3:=And.intro @eqs_nil (And.intro @eqs_cons (And.intro @eq1_str (And.intro @eq1_int (And.intro @eq1_bool (And.intro @lget_sel (And.intro @selA_true (And.intro @selA_false (And.intro @lget_nil (And.intro @cellsAt_supd (And.intro @q8k (And.intro @objAt_supd (And.intro @q2v (And.intro @mapObj_supd (And.intro @mapObj_supd_map (And.intro @q0u (And.intro @objAt_sdel (And.intro @cellsOf_rop (And.intro @cellsOf_ptr (And.intro @mkA_agg (And.intro @mkA_one (And.intro @resWs_nil (And.intro @resWs_tmp (And.intro @resWs_cell (And.intro @someL_some (And.intro @Option.isSome_some.{0} (And.intro @Option.isSome_none.{0} (And.intro @aCells_agg (And.intro @notJ_agg (And.intro @tupA_nil (And.intro @tupA_one @tupA_two))))))))))))))))))))))))))))))
def rws:=And.intro @hl6 (And.intro @hl7 (And.intro @hl10 (And.intro @hlc (And.intro @hw0 (And.intro @hw1 (And.intro @hw2 @hw3))))))
theorem bsN (a:Nat):(a==a)=true:=beq_self_eq_true a
theorem bsB (a:Bool):(a==a)=true:=beq_self_eq_true a
theorem bsI (a:Int):(a==a)=true:=beq_self_eq_true a
def rwp:=And.intro @bsN (And.intro @bsB (And.intro @bsI rws))
def rwb:=And.intro @Bool.not_true (And.intro @Bool.not_false (And.intro @Bool.false_or (And.intro @Bool.true_or (And.intro @Bool.or_false (And.intro @Bool.or_true (And.intro @Bool.false_and (And.intro @Bool.true_and (And.intro @Bool.and_false (And.intro @Bool.and_true (And.intro @decide_true (And.intro @decide_false @Bool.false_eq_true)))))))))))
end Go.HL
