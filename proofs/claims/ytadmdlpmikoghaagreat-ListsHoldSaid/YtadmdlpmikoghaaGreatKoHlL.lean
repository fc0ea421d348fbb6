/- A part of a proof. -/
import Derived.Test.YtadmdlpmikoghaaGreatKoHlP
set_option linter.defProp false
set_option linter.unusedSimpArgs false
set_option linter.unusedVariables false
namespace Go.HL
def mkW (ag:Bool) (n:Nat) (cs:List AV) (K:AV->Prop):Prop:=q0p (mkA ag n cs) K
def lcW (o:Option (List AV)) (f n:Nat) (ag:Bool) (K:AV->Prop):Prop:=match o with
 | some cs=>mkW ag n (cs.drop f) K
 | none=>False
def atW (o:Option (List AV)) (K:List AV->Prop):Prop:=y14 o K
def byW (o:Option UInt8) (K:UInt8->Prop):Prop:=match o with
 | some b=>K b
 | none=>False
def tkW:Nat->List AV->(List AV->Prop)->Prop
 | 0,_,K=>K []
 | n+1,c :: cs,K=>tkW n cs fun l=>K (c :: l)
 | _+1,[],_=>False
def lmW (o:Option ((Bool×List EK)×List (AV×AV×Nat)×Nat)) (M:Bool×List EK) (ok:Bool) (z k:AV) (K:AV->Prop):Prop:=match o with
 | some (M',es,_)=>q0u M k=true/\M'=M/\K (q2q ok z (y0e es k))
 | none=>False
def mlW (o:Option ((Bool×List EK)×List (AV×AV×Nat)×Nat)) (K:AV->Prop):Prop:=match o with
 | some (_,es,_)=>K (.int .i64 es.length)
 | none=>False
def soW (o:Option (Nat×List AV×Nat)) (S:q00) (n b f:Nat) (v:AV) (K:q00->Prop):Prop:=match o with
 | some (t,cs,tot)=>(q09 v).length=n/\f+n<=cs.length/\y09 (q09 v)=true/\K (supd S b (.cells t (q1t cs f (q09 v)) tot))
 | none=>False
def foW (o:Option (Nat×List AV×Nat)) (S:q00) (b:Nat) (K:AV->q00->Prop):Prop:=match o with
 | some (_,cs,_)=>K (.rop cs) (y0f S b)
 | none=>False
def xck (o:Option ((Bool×List EK)×List (AV×AV×Nat)×Nat)) (S:q00) (M:Bool×List EK) (b:Nat) (k v:AV) (K:q00->Prop):Prop:=match o with
 | some (M',es,clk)=>M'=M/\q0u M k=true/\K (supd S b (.map M (y0m es k v clk).1 (y0m es k v clk).2))
 | none=>False
@[congr] theorem x6y {S:q00} {n:Nat} {ag:Bool} {p p':AV} {K:AV->Prop} (hp:p=p'):ldW S n ag p K=ldW S n ag p' K:=by subst hp;rfl
@[congr] theorem x6g {p p':AV} {K:AV->Prop} (hp:p=p'):nkW p K=nkW p' K:=by subst hp;rfl
@[congr] theorem x8b {o:BinOp} {x x':AV} {y y':AV} {K:AV->Prop} (hx:x=x') (hy:y=y'):biW o x y K=biW o x' y' K:=by subst hx;subst hy;rfl
@[congr] theorem x7m {g:Bool} {M:Bool×List EK} {x x':AV} {y y':AV} {K:AV->Prop} (hx:x=x') (hy:y=y'):eqW g M x y K=eqW g M x' y' K:=by subst hx;subst hy;rfl
@[congr] theorem x7n {g:Bool} {x x':AV} {K:AV->Prop} (hx:x=x'):enW g x K=enW g x' K:=by subst hx;rfl
@[congr] theorem x50 {x x':AV} {K:AV->Prop} (hx:x=x'):ntW x K=ntW x' K:=by subst hx;rfl
@[congr] theorem x7p {k:IntKind} {x x':AV} {K:AV->Prop} (hx:x=x'):cvW k x K=cvW k x' K:=by subst hx;rfl
@[congr] theorem x7h {f:Nat} {n:Nat} {ag:Bool} {x x':AV} {K:AV->Prop} (hx:x=x'):fdW f n ag x K=fdW f n ag x' K:=by subst hx;rfl
@[congr] theorem x7i {f:Nat} {x x':AV} {K:AV->Prop} (hx:x=x'):faW f x K=faW f x' K:=by subst hx;rfl
@[congr] theorem x77 {z:Nat} {x x':AV} {i i':AV} {K:AV->Prop} (hx:x=x') (hi:i=i'):iaW z x i K=iaW z x' i' K:=by subst hx;subst hi;rfl
@[congr] theorem x72 {x x':AV} {i i':AV} {K:AV->Prop} (hx:x=x') (hi:i=i'):isW x i K=isW x' i' K:=by subst hx;subst hi;rfl
@[congr] theorem x71 {l:Nat} {z:Nat} {ag:Bool} {x x':AV} {i i':AV} {K:AV->Prop} (hx:x=x') (hi:i=i'):ixW l z ag x i K=ixW l z ag x' i' K:=by subst hx;subst hi;rfl
@[congr] theorem x4g {x x':AV} {l l':Option AV} {h h':Option AV} {K:AV->Prop} (hx:x=x') (hl:l=l') (hh:h=h'):ssW x l h K=ssW x' l' h' K:=by subst hx;subst hl;subst hh;rfl
@[congr] theorem x4k {z:Nat} {x x':AV} {l l':Option AV} {h h':Option AV} {K:AV->Prop} (hx:x=x') (hl:l=l') (hh:h=h'):slW z x l h K=slW z x' l' h' K:=by subst hx;subst hl;subst hh;rfl
@[congr] theorem x8e {zs zs':List AV} {ps ps':List (Nat×Nat×AV)} {K:AV->Prop} (hzs:zs=zs') (hps:ps=ps'):bdW zs ps K=bdW zs' ps' K:=by subst hzs;subst hps;rfl
@[congr] theorem x6x {S:q00} {M:Bool×List EK} {ok:Bool} {z:AV} {x x':AV} {k k':AV} {K:AV->Prop} (hx:x=x') (hk:k=k'):lkW S M ok z x k K=lkW S M ok z x' k' K:=by subst hx;subst hk;rfl
@[congr] theorem x7j {i:Nat} {x x':AV} {K:AV->Prop} (hx:x=x'):exW i x K=exW i x' K:=by subst hx;rfl
@[congr] theorem x6v {S:q00} {k:Nat} {x x':AV} {K:AV->Prop} (hx:x=x'):lnW S k x K=lnW S k x' K:=by subst hx;rfl
@[congr] theorem x4c {t:Nat} {ok:Bool} {z:AV} {x x':AV} {K:AV->Prop} (hx:x=x'):taW t ok z x K=taW t ok z x' K:=by subst hx;rfl
@[congr] theorem x6i {x x':AV} {y y':AV} {K:AV->Prop} (hx:x=x') (hy:y=y'):mxW x y K=mxW x' y' K:=by subst hx;subst hy;rfl
@[congr] theorem x4s {c c':AV} {a:AV} {b:AV} {K:AV->Prop} (hc:c=c'):pkW c a b K=pkW c' a b K:=by subst hc;rfl
@[congr] theorem x8l {S:q00} {t:Nat} {zs:List AV} {K:AV->q00->Prop}:alW S t zs K=alW S t zs K:=rfl
@[congr] theorem x87 {S:q00} {t:Nat} {n:Nat} {x x':AV} {K:AV->q00->Prop} (hx:x=x'):bxW S t n x K=bxW S t n x' K:=by subst hx;rfl
@[congr] theorem x8a {n:Nat} {x x':AV} {K:AV->Prop} (hx:x=x'):brW n x K=brW n x' K:=by subst hx;rfl
@[congr] theorem x8d {n:Nat} {x x':AV} {K:AV->Prop} (hx:x=x'):bfW n x K=bfW n x' K:=by subst hx;rfl
@[congr] theorem x88 {S:q00} {t:Nat} {z:Nat} {xs xs':List AV} {K:AV->q00->Prop} (hxs:xs=xs'):bsW S t z xs K=bsW S t z xs' K:=by subst hxs;rfl
@[congr] theorem x4h {z:Nat} {xs xs':List AV} {K:AV->Prop} (hxs:xs=xs'):srW z xs K=srW z xs' K:=by subst hxs;rfl
@[congr] theorem x6n {S:q00} {M:Bool×List EK} {K:AV->q00->Prop}:mmW S M K=mmW S M K:=rfl
@[congr] theorem x6l {S:q00} {t:Nat} {b:Nat} {z:AV} {l l':AV} {c c':AV} {K:AV->q00->Prop} (hl:l=l') (hc:c=c'):msW S t b z l c K=msW S t b z l' c' K:=by subst hl;subst hc;rfl
@[congr] theorem x4d {S:q00} {n:Nat} {p p':AV} {v v':AV} {K:q00->Prop} (hp:p=p') (hv:v=v'):stW S n p v K=stW S n p' v' K:=by subst hp;subst hv;rfl
@[congr] theorem x6j {S:q00} {M:Bool×List EK} {m m':AV} {k k':AV} {v v':AV} {K:q00->Prop} (hm:m=m') (hk:k=k') (hv:v=v'):muW S M m k v K=muW S M m' k' v' K:=by subst hm;subst hk;subst hv;rfl
@[congr] theorem x6r {S:q00} {M:Bool×List EK} {z:AV} {m m':AV} {k k':AV} {K:AV->q00->Prop} (hm:m=m') (hk:k=k'):meW S M z m k K=meW S M z m' k' K:=by subst hm;subst hk;rfl
@[congr] theorem x6k {S:q00} {m m':AV} {s s':AV} {v v':AV} {K:q00->Prop} (hm:m=m') (hs:s=s') (hv:v=v'):mtW S m s v K=mtW S m' s' v' K:=by subst hm;subst hs;subst hv;rfl
@[congr] theorem x6s {S:q00} {M:Bool×List EK} {m m':AV} {k k':AV} {K:q00->Prop} (hm:m=m') (hk:k=k'):mdW S M m k K=mdW S M m' k' K:=by subst hm;subst hk;rfl
@[congr] theorem x8i {S:q00} {t:Nat} {z:Nat} {b:Nat} {s s':AV} {x x':AV} {K:AV->q00->Prop} (hs:s=s') (hx:x=x'):apW S t z b s x K=apW S t z b s' x' K:=by subst hs;subst hx;rfl
@[congr] theorem x7f {S:q00} {v v':AV} {K:AV->q00->Prop} (hv:v=v'):fzW S v K=fzW S v' K:=by subst hv;rfl
@[congr] theorem x6p {ag:Bool} {n:Nat} {cs cs':List AV} {K:AV->Prop} (hcs:cs=cs'):mkW ag n cs K=mkW ag n cs' K:=by subst hcs;rfl
@[congr] theorem x6z {o o':Option (List AV)} {f:Nat} {n:Nat} {ag:Bool} {K:AV->Prop} (ho:o=o'):lcW o f n ag K=lcW o' f n ag K:=by subst ho;rfl
@[congr] theorem x8g {o o':Option (List AV)} {K:List AV->Prop} (ho:o=o'):atW o K=atW o' K:=by subst ho;rfl
@[congr] theorem x86 {o o':Option UInt8} {K:UInt8->Prop} (ho:o=o'):byW o K=byW o' K:=by subst ho;rfl
@[congr] theorem x4b {n:Nat} {cs cs':List AV} {K:List AV->Prop} (hcs:cs=cs'):tkW n cs K=tkW n cs' K:=by subst hcs;rfl
@[congr] theorem x6w {o o':Option ((Bool×List EK)×List (AV×AV×Nat)×Nat)} {M:Bool×List EK} {ok:Bool} {z:AV} {k k':AV} {K:AV->Prop} (ho:o=o') (hk:k=k'):lmW o M ok z k K=lmW o' M ok z k' K:=by subst ho;subst hk;rfl
@[congr] theorem x6o {o o':Option ((Bool×List EK)×List (AV×AV×Nat)×Nat)} {K:AV->Prop} (ho:o=o'):mlW o K=mlW o' K:=by subst ho;rfl
@[congr] theorem x4j {o o':Option (Nat×List AV×Nat)} {S:q00} {n:Nat} {b:Nat} {f:Nat} {v v':AV} {K:q00->Prop} (ho:o=o') (hv:v=v'):soW o S n b f v K=soW o' S n b f v' K:=by subst ho;subst hv;rfl
@[congr] theorem x7g {o o':Option (Nat×List AV×Nat)} {S:q00} {b:Nat} {K:AV->q00->Prop} (ho:o=o'):foW o S b K=foW o' S b K:=by subst ho;rfl
@[congr] theorem x3w {o o':Option ((Bool×List EK)×List (AV×AV×Nat)×Nat)} {S:q00} {M:Bool×List EK} {b:Nat} {k k':AV} {v v':AV} {K:q00->Prop} (ho:o=o') (hk:k=k') (hv:v=v'):xck o S M b k v K=xck o' S M b k' v' K:=by subst ho;subst hk;subst hv;rfl
@[congr] theorem x7q {S:q00} {z:Nat} {s s' x x':AV} {K:AV->q00->Prop} (hs:s=s') (hx:x=x'):cpW S z s x K=cpW S z s' x' K:=by subst hs;subst hx;rfl
@[congr] theorem x7s {v v':AV} {Y N:Prop} (h:v=v'):cnW v Y N=cnW v' Y N:=by subst h;rfl
@[congr] theorem x7d {v v':AV} {w:Bool} {Y Y' N N':Prop} (h:v=v') (hY:Y=Y') (hN:N=N'):grW v w Y N=grW v' w Y' N':=by subst h;subst hY;subst hN;rfl
@[congr] theorem x2j {F:(LE->q00->Prop)->LE->q00->Prop} {l:LE} {S:q00}:LoopP F l S=LoopP F l S:=rfl
@[congr] theorem x7v {P:Program} {S:q00} {f f':AV} {xs xs':List AV} {K Q:AV->q00->Prop} (h:f=f') (h':xs=xs'):caW P S f xs K Q=caW P S f' xs' K Q:=by subst h;subst h';rfl
section
variable {S:q00} {K:AV->Prop} {KS:AV->q00->Prop} {KT:q00->Prop} {n m f sz b off l cap t:Nat} {ag neg ok w:Bool} {k k':IntKind} {i j:Int} {cs xs ys:List AV} {rows:List (List AV)} {s s':ByteArray} {x y z v:AV} {M:Bool×List EK} {p q:Bool} {Y N:Prop}
theorem x0j:ldW S n ag (.rop cs) K=mkW ag n cs K:=rfl
theorem q8u:ldW S n ag (.ptr b off) K=lcW (q2y S b) off n ag K:=by
 unfold ldW lcW;rw [q71];cases q2y S b<;>rfl
theorem q6d:lcW (some cs) f n ag K=mkW ag n (cs.drop f) K:=rfl
theorem y5z {c:AV}:mkW false n (c :: cs) K=K c:=rfl
theorem y60:mkW true n cs K=tkW n cs fun l=>K (.agg l):=by
 have key:∀ (n:Nat) (cs:List AV) (K:List AV->Prop),tkW n cs K=if n<=cs.length then K (cs.take n) else False:=by
  intro n
  induction n with
  | zero=>intro cs K;simp [tkW]
  | succ n ih=>
   intro cs K;cases cs with
   | nil=>simp [tkW]
   | cons c cs=>
    simp only [tkW,ih,List.length_cons,List.take_succ_cons];by_cases h:n<=cs.length
    ·rw [if_pos h,if_pos (by omega)]
    ·rw [if_neg h,if_neg (by omega)]
 rw [key];unfold mkW mkA;by_cases h:n<=cs.length
 ·rw [if_pos rfl,if_pos h,if_pos h];rfl
 ·rw [if_pos rfl,if_neg h,if_neg h];rfl
theorem x0a (h:cs.length=n):mkW true n cs K=K (.agg cs):=by
 unfold mkW mkA;rw [if_pos rfl,if_pos (by omega),List.take_of_length_le (by omega)]
 rfl
theorem y12 {K:List AV->Prop} (h:cs.length=n):tkW n cs K=K cs:=by
 have h1:mkW true n cs (fun v=>match v with | .agg l=>K l | _=>False)=K cs:=x0a h
 rw [y60] at h1;exact h1
theorem ypo {K:List AV->Prop}:tkW 0 cs K=K []:=rfl
theorem ypp {c:AV} {K:List AV->Prop}:tkW (n+1) (c :: cs) K=tkW n cs fun l=>K (c :: l):=rfl
theorem x05:nkW (.ptr b off) K=K (.ptr b off):=rfl
theorem x04:nkW (.rop cs) K=K (.rop cs):=rfl
theorem x24:biW .add (.int k i) (.int k j) K=K (.int k (k.wrap (i+j))):=by unfold biW;rw [q2j];rfl
theorem x1v:biW .sub (.int k i) (.int k j) K=K (.int k (k.wrap (i-j))):=by unfold biW;rw [q2j];rfl
theorem x1x:biW .mul (.int k i) (.int k j) K=K (.int k (k.wrap (i * j))):=by unfold biW;rw [q2j];rfl
theorem x22:biW .eql (.int k i) (.int k j) K=K (.bool (decide (i=j))):=by unfold biW;rw [q2j];rfl
theorem x1w:biW .neq (.int k i) (.int k j) K=K (.bool (!decide (i=j))):=by unfold biW;rw [q2j];rfl
theorem x1y:biW .lss (.int k i) (.int k j) K=K (.bool (decide (i<j))):=by unfold biW;rw [q2j];rfl
theorem x1z:biW .leq (.int k i) (.int k j) K=K (.bool (decide (i<=j))):=by unfold biW;rw [q2j];rfl
theorem x20:biW .gtr (.int k i) (.int k j) K=K (.bool (decide (j<i))):=by unfold biW;rw [q2j];rfl
theorem x21:biW .geq (.int k i) (.int k j) K=K (.bool (decide (j<=i))):=by unfold biW;rw [q2j];rfl
theorem x23:biW .and (.int k i) (.int k j) K=K (.int k (Go.bits .and k i j)):=by unfold biW;rw [q2j];rfl
theorem yco:biW .xor (.int k i) (.int k j) K=K (.int k (Go.bits .xor k i j)):=by unfold biW;rw [q2j];rfl
theorem ysd:biW .add (.str s) (.str s') K=(s.size+s'.size<=9223372036854775807/\K (.str (s++s'))):=by
 unfold biW;rw [yfl,yfk];by_cases h:s.size+s'.size<=9223372036854775807
 ·rw [if_pos h];simp [q0p,h]
 ·rw [if_neg h];simp [q0p,h]
theorem ysc:biW .eql (.str s) (.str s') K=K (.bool (decide (s=s'))):=rfl
theorem ysa:biW .neq (.str s) (.str s') K=K (.bool (!decide (s=s'))):=rfl
theorem ysb:biW .lss (.str s) (.str s') K=K (.bool (Op.bytesLess s.toList s'.toList)):=rfl
theorem q8z:eqW neg M x y K=((q0u M x&&q0u M y)=true/\K (.bool (if neg then !q1m x y else q1m x y))):=by
 unfold eqW xfs;cases h:q0u M x&&q0u M y<;>simp [q0p]
theorem x10:enW neg .nili K=K (.bool (!neg)):=rfl
theorem yma:enW neg (.iface t v) K=K (.bool neg):=rfl
theorem yqg:ntW (.bool p) K=K (.bool (!p)):=rfl
theorem x17:cvW k (.int k' i) K=K (.int k (k.wrap i)):=rfl
theorem x0t:fdW f n ag (.agg cs) K=(f+n<=cs.length/\mkW ag n (cs.drop f) K):=by
 unfold fdW;rw [y45];by_cases h:f+n<=cs.length
 ·rw [if_pos h];simp [h,mkW]
 ·rw [if_neg h];simp [q0p,h]
theorem x0v:faW f (.ptr b off) K=K (.ptr b (off+f)):=rfl
theorem x0u:faW f (.rop cs) K=K (.rop (cs.drop f)):=rfl
theorem x76 {sz':Nat}:iaW sz (.sl sz' rows) (.int k i) K=(sz=sz'/\0<=i/\atW rows[i.toNat]? fun cs=>K (.rop cs)):=by
 unfold iaW;rw [y8s];by_cases h:sz=sz'/\0<=i
 ·rw [if_pos h];obtain ⟨h1,h2⟩:=h;unfold atW y14;cases rows[i.toNat]?<;>simp [q0p,h1,h2]
 ·rw [if_neg h];refine propext ⟨fun h'=>h'.elim,fun h'=>absurd ⟨h'.1,h'.2.1⟩ h⟩
theorem ybq {a:Nat}:iaW sz (.sl sz rows) (.int k (a:Int)) K=atW rows[a]? fun cs=>K (.rop cs):=by
 rw [x76,Int.toNat_natCast];simp
theorem yr2:iaW sz (.sl sz rows) (.int k 0) K=atW rows[0]? fun cs=>K (.rop cs):=ybq (a:=0)
theorem x0n:iaW sz (.sl sz rows) (.int k 1) K=atW rows[1]? fun cs=>K (.rop cs):=ybq (a:=1)
theorem q8w:iaW sz (.own b off l cap) (.int k i) K=(0<=i/\i<l/\K (.ptr b (off+i.toNat * sz))):=by
 unfold iaW;rw [y3w];by_cases h:0<=i/\i<l
 ·rw [if_pos h];simp [q0p,h]
 ·rw [if_neg h];exact propext ⟨fun h'=>h'.elim,fun h'=>absurd ⟨h'.1,h'.2.1⟩ h⟩
theorem ysi {K:List AV->Prop}:atW (some cs) K=K cs:=rfl
theorem yrs {K:UInt8->Prop} {c:UInt8}:byW (some c) K=K c:=rfl
theorem x0l:isW (.str s) (.int k i) K=(0<=i/\byW s[i.toNat]? fun c=>K (.int .u8 c.toNat)):=by
 unfold isW;rw [y8r];by_cases h:0<=i
 ·rw [if_pos h];unfold byW;cases s[i.toNat]?<;>simp [q0p,h]
 ·rw [if_neg h];simp [q0p,h]
theorem ylj {a:Nat}:isW (.str s) (.int k (a:Int)) K=byW s[a]? fun c=>K (.int .u8 c.toNat):=by
 rw [x0l,Int.toNat_natCast];simp
theorem yr0:isW (.str s) (.int k 0) K=byW s[0]? fun c=>K (.int .u8 c.toNat):=ylj (a:=0)
theorem yyl {lo hi:Option AV}:ssW (.str s) lo hi K=q0p (yi4 (loI lo) (hiI s.size hi) s.size fun l h=>.str (s.extract l h)) K:=by unfold ssW;rw [y3b]
theorem yyu {lo hi:Option AV}:slW sz (.sl sz rows) lo hi K=q0p (yi4 (loI lo) (hiI rows.length hi) rows.length fun l h=>.sl sz ((rows.take h).drop l)) K:=by unfold slW;rw [y3d]
theorem yyt {lo hi:Option AV}:slW sz (.own b off l cap) lo hi K=q0p (yi4 (loI lo) (hiI l hi) cap fun p h=>.own b (if cap=p then off else off+p * sz) (h-p) (cap-p)) K:=by unfold slW;rw [y3c]
theorem x18 {lo hi d:Int} {g:Nat->Nat->AV}:q0p (yi4 (some lo) (some hi) d g) K=(0<=lo/\lo<=hi/\hi<=d/\K (g lo.toNat hi.toNat)):=by
 rw [y94];by_cases h:0<=lo/\lo<=hi/\hi<=d
 ·rw [if_pos h];simp [q0p,h]
 ·rw [if_neg h];exact propext ⟨fun h'=>h'.elim,fun h'=>absurd ⟨h'.1,h'.2.1,h'.2.2.1⟩ h⟩
theorem x2a:bdW cs [] K=K (.agg cs):=rfl
theorem ysh {r:List (Nat×Nat×AV)}:bdW cs ((off,n,x) :: r) K=((q09 x).length=n/\off+n<=cs.length/\y0g x=true/\bdW (q1t cs off (q09 x)) r K):=by
 unfold bdW;simp only [y9n];by_cases h:(q09 x).length=n/\off+n<=cs.length/\y0g x=true
 ·rw [if_pos h];simp [h]
 ·rw [if_neg h];exact propext ⟨fun h'=>h'.elim,fun h'=>absurd ⟨h'.1,h'.2.1,h'.2.2.1⟩ h⟩
theorem x0h:lkW S M ok z (.map (some b)) x K=lmW (q2f S b) M ok z x K:=by
 unfold lkW lmW;cases h:q2f S b with
 | none=>
  have:q9v S b=none:=by rw [y8k,h];rfl
  simp [q55,this,q0p]
 | some q=>
  obtain ⟨M',es,clk⟩:=q;dsimp only;rw [y8l (M':=M') (es:=es) (by rw [y8k,h];rfl),yhr]
  by_cases h1:q0u M x=true/\M'=M
  ·rw [if_pos h1];simp [q0p,h1]
  ·rw [if_neg h1];exact propext ⟨fun h'=>h'.elim,fun h'=>absurd ⟨h'.1,h'.2.1⟩ h1⟩
theorem x0g:lkW S M ok z (.map none) x K=(q0u M x=true/\K (q2q ok z none)):=by
 unfold lkW;simp only [q55];by_cases h:q0u M x=true
 ·rw [if_pos h];simp [q0p,h];rfl
 ·rw [if_neg h];simp [q0p,h]
theorem yef {M':Bool×List EK} {es:List (AV×AV×Nat)} {clk:Nat}:lmW (some (M',es,clk)) M ok z x K=(q0u M x=true/\M'=M/\K (q2q ok z (y0e es x))):=rfl
theorem ybs:q2q true z (some v)=.tup [v,.bool true]:=rfl
theorem ybt:q2q true z none=.tup [z,.bool false]:=rfl
theorem q5s:q2q false z (some v)=v:=rfl
theorem y8v:q2q false z none=z:=rfl
theorem q80:exW 0 (.tup (v :: xs)) K=K v:=rfl
theorem y6f:exW (n+1) (.tup (v :: xs)) K=exW n (.tup xs) K:=rfl
theorem x0f:lnW S 0 (.str s) K=K (.int .i64 s.size):=rfl
theorem x6u:lnW S 1 (.sl sz rows) K=K (.int .i64 rows.length):=rfl
theorem qaa:lnW S 1 .nils K=K (.int .i64 0):=rfl
theorem ybl:lnW S 1 (.own b off l cap) K=K (.int .i64 l):=rfl
theorem y63:lnW S 2 (.map (some b)) K=mlW (q2f S b) K:=by
 unfold lnW mlW q2f;simp only [if_neg (show ¬ 2=0 by omega),if_neg (show ¬ 2=1 by omega),yqx]
 cases y01 S b with
 | none=>rfl
 | some o=>cases o<;>rfl
theorem q7o {M':Bool×List EK} {es:List (AV×AV×Nat)} {clk:Nat}:mlW (some (M',es,clk)) K=K (.int .i64 es.length):=rfl
theorem yyg:taW t ok z (.iface t v) K=K (if ok then .tup [v,.bool true] else v):=by simp [taW,x2b,q0p]
theorem yyf:taW t true z .nili K=K (.tup [z,.bool false]):=rfl
theorem x06:mxW (.int k i) (.int k' j) K=K (.int k (if i<j then j else i)):=rfl
theorem xfl:pkW (.bool true) x y K=K x:=rfl
theorem xfm:pkW (.bool false) x y K=K y:=rfl
theorem x1s:brW 1 (.int k i) K=K (.rop [.int k i]):=by simp [brW,q09,y0g]
theorem x1o:brW 1 (.str s) K=K (.rop [.str s]):=by simp [brW,q09,y0g]
theorem yrv:brW 1 (.bool p) K=K (.rop [.bool p]):=by simp [brW,q09,y0g]
theorem x89:brW 1 (.sl sz rows) K=K (.rop [.sl sz rows]):=by simp [brW,q09,y0g]
theorem x1p:brW 1 (.rop cs) K=K (.rop [.rop cs]):=by simp [brW,q09,y0g]
theorem x1r {o:Option Nat}:brW 1 (.map o) K=K (.rop [.map o]):=by simp [brW,q09,y0g]
theorem x1q:brW 1 (.ptr b off) K=K (.rop [.ptr b off]):=by simp [brW,q09,y0g]
theorem yrt:brW 1 .nils K=K (.rop [.nils]):=by simp [brW,q09,y0g]
theorem yru {g:Fn}:brW 1 (.func g xs ys) K=K (.rop [.func g xs ys]):=by simp [brW,q09,y0g]
theorem x1t:brW n (.agg cs) K=(cs.length=n/\K (.rop cs)):=by simp [brW,q09,y0g]
theorem x28:bfW 1 (.int k i) K=K (.rop [.int k i]):=by simp [bfW,q09,y09,one]
theorem x25:bfW 1 (.str s) K=K (.rop [.str s]):=by simp [bfW,q09,y09,one]
theorem ysf:bfW 1 (.bool p) K=K (.rop [.bool p]):=by simp [bfW,q09,y09,one]
theorem x8c:bfW 1 (.sl sz rows) K=K (.rop [.sl sz rows]):=by simp [bfW,q09,y09,one]
theorem x26:bfW 1 (.rop cs) K=K (.rop [.rop cs]):=by simp [bfW,q09,y09,one]
theorem x27 {o:Option Nat}:bfW 1 (.map o) K=K (.rop [.map o]):=by simp [bfW,q09,y09,one]
theorem yse:bfW 1 .nils K=K (.rop [.nils]):=by simp [bfW,q09,y09,one]
theorem x29:bfW n (.agg cs) K=(cs.length=n/\y09 cs=true/\K (.rop cs)):=by simp [bfW,q09]
theorem yym:srW sz xs K=(ynd sz xs/\K (.sl sz (xs.map q09))):=rfl
theorem ysn:ynd sz []=True:=rfl
theorem ync:ynd sz (x :: xs)=((q09 x).length=sz/\y0g x=true/\ynd sz xs):=rfl
theorem ylz:ybu []=[]:=rfl
theorem yhw:ybu (x :: xs)=q09 x++ybu xs:=rfl
theorem q3s:stW S n (.ptr b off) v KT=soW (q0m S b) S n b off v KT:=by kernel_rfl
theorem q3h {tot:Nat}:soW (some (t,cs,tot)) S n b f v KT=((q09 v).length=n/\f+n<=cs.length/\y09 (q09 v)=true/\KT (supd S b (.cells t (q1t cs f (q09 v)) tot))):=rfl
theorem yyq {tot:Nat} (h:one v=true) (c:AV):soW (some (t,[c],tot)) S 1 b 0 v KT=KT (supd S b (.cells t [v] tot)):=by
 have h1:q09 v=[v]:=by cases v<;>first | rfl | cases h
 simp [soW,h1,y09,h,q1t]
theorem y68:fzW S (.ptr b 0) KS=foW (q0m S b) S b KS:=by kernel_rfl
theorem qac {tot:Nat}:foW (some (t,cs,tot)) S b KS=KS (.rop cs) (y0f S b):=rfl
theorem y1k:muW S M (.map (some b)) x v KT=xck (q2f S b) S M b x v KT:=by kernel_rfl
theorem q7n {M':Bool×List EK} {es:List (AV×AV×Nat)} {clk:Nat}:xck (some (M',es,clk)) S M b x v KT=(M'=M/\q0u M x=true/\KT (supd S b (.map M (y0m es x v clk).1 (y0m es x v clk).2))):=rfl
theorem xft:cnW (.bool true) Y N=Y:=by simp [cnW]
theorem xfu:cnW (.bool false) Y N=N:=by simp [cnW]
theorem q03 (h1:p=true->Y) (h2:p=false->N):cnW (.bool p) Y N:=⟨h1,h2⟩
theorem x78:grW (.bool true) true Y N=Y:=by simp [grW]
theorem x79:grW (.bool true) false Y N=N:=by simp [grW]
theorem x7b:grW (.bool false) true Y N=N:=by simp [grW]
theorem x7c:grW (.bool false) false Y N=Y:=by simp [grW]
theorem x0o:grW (.tup []) w Y N=N:=rfl
theorem ylu:grW q06 w Y N=N:=rfl
theorem q1s (h1:p=w->Y) (h2:p=!w->N):grW (.bool p) w Y N:=⟨h1,h2⟩
theorem x0p:grW (.bool p) true (pkW (.bool p) (.bool q) (.bool false) K) (pkW (.bool p) q06 (.bool false) K)=K (.bool (p&&q)):=by cases p<;>simp [grW,pkW,y2t]
theorem x7a:grW (.bool p) false (pkW (.bool p) (.bool true) (.bool q) K) (pkW (.bool p) (.bool true) q06 K)=K (.bool (p||q)):=by cases p<;>simp [grW,pkW,y2t]
theorem yr3:grW (.bool p) w Y Y=Y:=by cases p<;>cases w<;>simp [grW]
theorem x0k {S':q00}:kpW [] S S' Y=Y:=by simp [kpW]
theorem y67 {S':q00}:kpW (x :: xs) S S' Y=((∀ b,blk x=some b->y01 S' b=y01 S b)/\kpW xs S S' Y):=by
 simp only [kpW,List.mem_cons,forall_eq_or_imp,and_assoc]
theorem ylc {S':q00}:kpW (.rop cs :: xs) S S' Y=kpW xs S S' Y:=by rw [y67];simp [blk]
theorem yqz:kpW xs S S Y=Y:=by simp [kpW]
theorem yij {zs:List AV} (hz:zs.length=n) (h:bfW n v (fun q=>KS q S)):alW S t zs (fun p S1=>stW S1 n p v (fun S2=>fzW S2 p KS)):=by
 intro b hb;obtain ⟨h1,h2,h3⟩:=h;rw [q3s,objAt_supd,if_pos rfl,q3h];refine ⟨h1,by omega,h2,?_⟩
 rw [y68,objAt_supd,if_pos rfl,qac,q1b,q38 hb,q4w _ _ _ (by omega)]
 simpa using h3
theorem y3o {b c:Nat}:q0m (y0f S b) c=if b=c then none else q0m S c:=by
 unfold q0m;rw [q0b];by_cases h:b=c<;>simp [h]
theorem yh7 {a b:Nat} {o1 o2 o3 o4:AObj} (ha:y01 S a=none) (hb:y01 S b=none) (h:a≠b):y0f (y0f (supd (supd (supd (supd S a o1) b o2) a o3) b o4) a) b=S:=by
 funext x
 simp only [y0f,supd];by_cases h1:a=x
 ·subst h1;simp only [if_neg (Ne.symm h),if_true];exact ha.symm
 ·by_cases h2:b=x
  ·subst h2;simp only [if_true];exact hb.symm
  ·simp only [if_neg h1,if_neg h2]
theorem x8k {zs zs':List AV} {t' n':Nat} {v':AV} {KK:AV->AV->q00->Prop} (hz:zs.length=n) (hz':zs'.length=n') (h1:(q09 v).length=n) (h2:y09 (q09 v)=true) (h1':(q09 v').length=n') (h2':y09 (q09 v')=true) (h:KK (.rop (q09 v)) (.rop (q09 v')) S) :
  alW S t zs (fun p S1=>alW S1 t' zs' (fun q S2=>stW S2 n p v (fun S3=>stW S3 n' q v' (fun S4=>fzW S4 p (fun p' S5=>fzW S5 q (fun q' S6=>KK p' q' S6)))))):=by
 intro a ha b hb;have hne:a≠b:=by
  rintro rfl;rw [q01,if_pos rfl] at hb;cases hb
 have hb':y01 S b=none:=by rw [q01,if_neg hne] at hb;exact hb
 rw [q3s,objAt_supd,if_neg (Ne.symm hne),objAt_supd,if_pos rfl,q3h];refine ⟨h1,by omega,h2,?_⟩
 rw [q3s,objAt_supd,if_neg hne,objAt_supd,if_pos rfl,q3h];refine ⟨h1',by omega,h2',?_⟩
 rw [q4w _ _ _ (by omega),q4w _ _ _ (by omega),y68,objAt_supd,if_neg (Ne.symm hne),objAt_supd,if_pos rfl,qac,y68,y3o,if_neg hne,objAt_supd,if_pos rfl,qac,yh7 ha hb' hne]
 simpa using h
theorem ylf:q0u M (.agg cs)=(M.1&&q1i M.2 cs):=rfl
theorem yld:q0u M (.str s)=(!M.1&&q1i M.2 [.str s]):=rfl
theorem yhl:q0u M (.bool p)=(!M.1&&q1i M.2 [.bool p]):=rfl
theorem yle:q0u M (.int k i)=(!M.1&&q1i M.2 [.int k i]):=rfl
theorem ymb:q1i [] []=true:=rfl
theorem yi1 {e:EK} {es:List EK}:q1i (e :: es) (x :: xs)=(y7c e x&&q1i es xs):=rfl
theorem yrf:y7c .str (.str s)=true:=rfl
theorem yrg:y7c (.int k) (.int k i)=true:=by simp [y7c]
theorem ymd:y7c .bool (.bool p)=true:=rfl
theorem ylh:q1m (.agg xs) (.agg ys)=eqs xs ys:=rfl
theorem ylg:q1m (.str s) (.str s')=decide (s=s'):=by simp [q1m,q2u,eqs,eq1]
theorem yhm:q1m (.bool p) (.bool q)=(p==q):=by simp [q1m,q2u,eqs,eq1]
theorem x0x:eqs [] []=true:=rfl
theorem yrc:eqs (x :: xs) (y :: ys)=(eq1 x y&&eqs xs ys):=rfl
theorem x0y:eq1 (.str s) (.str s')=decide (s=s'):=rfl
theorem x0z:eq1 (.int k i) (.int k' j)=decide (i=j):=by simp only [eq1];exact Bool.beq_eq_decide_eq i j
theorem yrd:eq1 (.bool p) (.bool q)=(p==q):=rfl
end
section
variable {P:Program} {S:q00} {QF:AEnd->q00->Prop}
attribute [local semireducible] LoopP in
theorem LoopP.intro {F:(LE->q00->Prop)->LE->q00->Prop} {l:LE} {α:Type} (env:α->LE) (st:α->q00) (inv:α->Prop) (mu:α->Nat) (x0:α) (h0:inv x0) (he:l=env x0) (hS:Sub (st x0) S)
  (step:∀ x,inv x->∀ r:LE->q00->Prop,(∀ x',inv x'->mu x'<mu x->r (env x') (st x'))->F r (env x) (st x)):LoopP F l S:=by
 refine ⟨fun m l S=>∃ x,inv x/\mu x=m/\l=env x/\S=st x,mu x0,⟨env x0,st x0,?_,x0,h0,rfl,rfl,rfl⟩,?_⟩
 ·subst he;exact Shift.sub hS
 ·rintro m l S ⟨x,hx,rfl,rfl,rfl⟩;exact step x hx _ fun x' h1 h2=>⟨mu x',h2,x',h1,rfl,rfl,rfl⟩
attribute [local semireducible] LoopP in
theorem LoopP.introS {F:(LE->q00->Prop)->LE->q00->Prop} {l:LE} {α:Type} (env:α->LE) (inv:α->q00->Prop) (mu:α->Nat) (x0:α) (h0:inv x0 S) (he:l=env x0)
  (step:∀ x S,inv x S->∀ r:LE->q00->Prop,(∀ x' S',inv x' S'->mu x'<mu x->r (env x') S')->F r (env x) S):LoopP F l S:=by
 refine ⟨fun m l S=>∃ x,inv x S/\mu x=m/\l=env x,mu x0,⟨env x0,S,?_,x0,h0,rfl,rfl⟩,?_⟩
 ·subst he;exact Shift.refl _ _
 ·rintro m l S ⟨x,hx,rfl,rfl⟩;exact step x S hx _ fun x' S' h1 h2=>⟨mu x',h2,x',h1,rfl,rfl⟩
theorem x4p {r:LE->q00->Prop} {l:LE} (h:r l S):rcW r l S:=⟨l,S,Shift.refl _ _,h⟩
theorem q08 {r:LE->q00->Prop} {l l':LE} (hl:l=l') (h:r l' S):rcW r l S:=hl ▸ x4p h
theorem q02 {v:AV} (h:QF (.ret v) S):rtW [.tmp v] QF S:=⟨v,S,ShV.refl _ _,h⟩
theorem q8o {v:AV} {S':q00} (hS:Sub S' S) (h:QF (.ret v) S'):rtW [.tmp v] QF S:=⟨v,S',ShV.sub hS,h⟩
theorem q5n {u v:AV} (h:QF (.ret (.tup [u,v])) S):rtW [.tmp u,.tmp v] QF S:=⟨_,S,ShV.refl _ _,h⟩
theorem y7z {u v x:AV} (h:QF (.ret (.tup [u,v,x])) S):rtW [.tmp u,.tmp v,.tmp x] QF S:=⟨_,S,ShV.refl _ _,h⟩
theorem q2s (h:QF (.ret (.tup [])) S):rtW [] QF S:=⟨_,S,ShV.refl _ _,h⟩
theorem y5n {rs:List RW} {vs:List AV} {v':AV} {S':q00} (hr:q4b S rs=some vs) (hS:ShV (ypn vs) S v' S') (h:QF (.ret v') S'):rtW rs QF S:=by
 unfold rtW;rw [hr];exact ⟨_,S',hS,h⟩
theorem q18 {rs:List RW} (S':q00) (hS:Sub S' S) (h:y14 (q4b S rs) fun vs=>QF (.ret (ypn vs)) S'):rtW rs QF S:=by
 unfold rtW;unfold y14 at h ⊢;split at h
 ·exact ⟨_,S',ShV.sub hS,h⟩
 ·exact h.elim
theorem yjw:q4b S []=some []:=rfl
theorem yjv {v:AV} {rs:List RW}:q4b S (.tmp v :: rs)=(q4b S rs).map fun vs=>v :: vs:=by
 simp only [q4b,yz0];cases q4b S rs<;>rfl
theorem yha {v:AV} {n:Nat} {ag:Bool} {rs:List RW}:q4b S (.cell v n ag :: rs)=((cellsOf S v).bind (mkA ag n)).bind fun v=>(q4b S rs).map fun vs=>v :: vs:=by
 simp only [q4b,yz0];cases (cellsOf S v).bind (mkA ag n) with
 | none=>rfl
 | some u=>cases q4b S rs<;>rfl
theorem q05 {f:Nat} {xs:List AV} {v:AV} {K Qp:AV->q00->Prop} (h:y02 P f xs v) (hk:K v S):caW P S (.func (.func f) [] []) xs K Qp:=
 ⟨f,[],[],fun ae S'=>ae=.ret v/\S'=S,rfl,by simpa using h S,fun ae S' ⟨h1,h2⟩=>by subst h1;subst h2;exact hk⟩
theorem y97 {f:Nat} {fi ca xs:List AV} {v:AV} {K Qp:AV->q00->Prop} (h:y02 P f (fi++xs++ca) v) (hk:K v S):caW P S (.func (.func f) fi ca) xs K Qp:=
 ⟨f,fi,ca,fun ae S'=>ae=.ret v/\S'=S,rfl,h S,fun ae S' ⟨h1,h2⟩=>by subst h1;subst h2;exact hk⟩
theorem q0c {f:Nat} {xs:List AV} {Q:AEnd->q00->Prop} {K Qp:AV->q00->Prop} (h:ACalls P f xs S Q) (hk:∀ ae S',Q ae S'->match ae with
  | .ret v=>K v S'
  | .pan v=>Qp v S'):caW P S (.func (.func f) [] []) xs K Qp:=
 ⟨f,[],[],Q,rfl,by simpa using h,hk⟩
theorem y6n {f:Nat} {fi ca xs:List AV} {Q:AEnd->q00->Prop} {K Qp:AV->q00->Prop} (h:ACalls P f (fi++xs++ca) S Q) (hk:∀ ae S',Q ae S'->match ae with
  | .ret v=>K v S'
  | .pan v=>Qp v S'):caW P S (.func (.func f) fi ca) xs K Qp:=
 ⟨f,fi,ca,Q,rfl,h,hk⟩
def AFunS (P:Program) (f:Nat) (args:List AV) (S:q00) (v:AV):Prop:=ACalls P f args S fun ae S'=>ae=.ret v/\S'=S
theorem q1a {f:Nat} {xs:List AV} {v:AV} {K Qp:AV->q00->Prop} (h:AFunS P f xs S v) (hk:K v S):caW P S (.func (.func f) [] []) xs K Qp:=
 q0c h fun ae S' ⟨h1,h2⟩=>by subst h1;subst h2;exact hk
theorem y6o {f:Nat} {fi ca xs:List AV} {v:AV} {K Qp:AV->q00->Prop} (h:AFunS P f (fi++xs++ca) S v) (hk:K v S):caW P S (.func (.func f) fi ca) xs K Qp:=
 y6n h fun ae S' ⟨h1,h2⟩=>by subst h1;subst h2;exact hk
end
def hw0:=And.intro @x0j (And.intro @q8u (And.intro @q6d (And.intro @y5z (And.intro @y60 (And.intro @ypo (And.intro @ypp (And.intro @x05 (And.intro @x04 (And.intro @x24 (And.intro @x1v (And.intro @x1x (And.intro @x22 (And.intro @x1w (And.intro @x1y (And.intro @x1z (And.intro @x20 (And.intro @x21 (And.intro @ysd (And.intro @ysc (And.intro @ysa (And.intro @ysb (And.intro @q8z (And.intro @x10 (And.intro @yma (And.intro @yqg (And.intro @x17 (And.intro @x0t (And.intro @x0v (And.intro @x0u (And.intro @ybq (And.intro @yr2 (And.intro @x0n (And.intro @q8w (And.intro @ysi (And.intro @yrs (And.intro @ylj (And.intro @yr0 (And.intro @yyl @yyu))))))))))))))))))))))))))))))))))))))
def hw1:=And.intro @yyt (And.intro @x18 (And.intro @yee (And.intro @yl7 (And.intro @yep (And.intro @ylm (And.intro @x2a (And.intro @ysh (And.intro @x0g (And.intro @yef (And.intro @ybs (And.intro @ybt (And.intro @q5s (And.intro @y8v (And.intro @q80 (And.intro @y6f (And.intro @x0f (And.intro @x6u (And.intro @qaa (And.intro @ybl (And.intro @q7o (And.intro @yyg (And.intro @yyf (And.intro @x06 (And.intro @xfl (And.intro @xfm (And.intro @x1s (And.intro @x1o (And.intro @yrv (And.intro @x89 (And.intro @x1p (And.intro @x1r (And.intro @x1q (And.intro @yrt (And.intro @yru (And.intro @x1t (And.intro @x28 (And.intro @x25 (And.intro @ysf @x8c))))))))))))))))))))))))))))))))))))))
def hw2:=And.intro @x26 (And.intro @x27 (And.intro @yse (And.intro @x29 (And.intro @yym (And.intro @ysn (And.intro @ync (And.intro @ylz (And.intro @yhw (And.intro @q3s (And.intro @q3h (And.intro @y68 (And.intro @qac (And.intro @q7n (And.intro @xft (And.intro @xfu (And.intro @x78 (And.intro @x79 (And.intro @x7b (And.intro @x7c (And.intro @x0o (And.intro @ylu (And.intro @x0p (And.intro @x7a (And.intro @yr3 (And.intro @x0k (And.intro @ylc (And.intro @yqz (And.intro @ylf (And.intro @yld (And.intro @yhl (And.intro @yle (And.intro @ymb (And.intro @yi1 (And.intro @yrf (And.intro @yrg (And.intro @ymd (And.intro @ylh (And.intro @ylg @yhm))))))))))))))))))))))))))))))))))))))
def hw3:=And.intro @x0x (And.intro @yrc (And.intro @x0y (And.intro @x0z (And.intro @yrd (And.intro @yeg (And.intro @y7v (And.intro @y3f (And.intro @yeh (And.intro @q9o (And.intro @q5g (And.intro @objAt_supd (And.intro @q3k (And.intro @y1m (And.intro @mapObj_supd_map (And.intro @q1b (And.intro @y3o (And.intro @y24 (And.intro @q71 (And.intro @yl3 (And.intro @yl2 (And.intro @yjw (And.intro @yjv (And.intro @yha (And.intro @yh3 (And.intro @Option.isSome_some.{0} (And.intro @Option.isSome_none.{0} (And.intro @y4y (And.intro @ye5 (And.intro @ypm (And.intro @ypl @ypk))))))))))))))))))))))))))))))
def rws:=And.intro @hl6 (And.intro @hl7 (And.intro @xjy (And.intro @hlc (And.intro @hw0 (And.intro @hw1 (And.intro @hw2 @hw3))))))
theorem bsN (a:Nat):(a==a)=true:=beq_self_eq_true a
theorem bsB (a:Bool):(a==a)=true:=beq_self_eq_true a
theorem bsI (a:Int):(a==a)=true:=beq_self_eq_true a
def rwp:=And.intro @bsN (And.intro @bsB (And.intro @bsI rws))
def rwb:=And.intro @Bool.not_true (And.intro @Bool.not_false (And.intro @Bool.false_or (And.intro @Bool.true_or (And.intro @Bool.or_false (And.intro @Bool.or_true (And.intro @Bool.false_and (And.intro @Bool.true_and (And.intro @Bool.and_false (And.intro @Bool.and_true (And.intro @decide_true (And.intro @decide_false @Bool.false_eq_true)))))))))))
end Go.HL
