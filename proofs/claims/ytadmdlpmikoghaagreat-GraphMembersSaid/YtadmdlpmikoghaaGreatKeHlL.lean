/- A part of a proof. -/
import Derived.Test.YtadmdlpmikoghaaGreatKeHlP
set_option linter.defProp false
set_option linter.unusedSimpArgs false
set_option linter.unusedVariables false
namespace Go.HL
def mkW (ag:Bool) (n:Nat) (cs:List AV) (K:AV->Prop):Prop:=q0s (mkA ag n cs) K
def lcW (o:Option (List AV)) (f n:Nat) (ag:Bool) (K:AV->Prop):Prop:=match o with
 | some cs=>mkW ag n (cs.drop f) K
 | none=>False
def atW (o:Option (List AV)) (K:List AV->Prop):Prop:=q7w o K
def byW (o:Option UInt8) (K:UInt8->Prop):Prop:=match o with
 | some b=>K b
 | none=>False
def tkW:Nat->List AV->(List AV->Prop)->Prop
 | 0,_,K=>K []
 | n+1,c :: cs,K=>tkW n cs fun l=>K (c :: l)
 | _+1,[],_=>False
def lmW (o:Option ((Bool×List EK)×List (AV×AV×Nat)×Nat)) (M:Bool×List EK) (ok:Bool) (z k:AV) (K:AV->Prop):Prop:=match o with
 | some (M',es,_)=>q0x M k=true/\M'=M/\K (q23 ok z (y09 es k))
 | none=>False
def mlW (o:Option ((Bool×List EK)×List (AV×AV×Nat)×Nat)) (K:AV->Prop):Prop:=match o with
 | some (_,es,_)=>K (.int .i64 es.length)
 | none=>False
def soW (o:Option (Nat×List AV×Nat)) (S:q00) (n b f:Nat) (v:AV) (K:q00->Prop):Prop:=match o with
 | some (t,cs,tot)=>(q0a v).length=n/\f+n<=cs.length/\y06 (q0a v)=true/\K (supd S b (.cells t (q1i cs f (q0a v)) tot))
 | none=>False
def foW (o:Option (Nat×List AV×Nat)) (S:q00) (b:Nat) (K:AV->q00->Prop):Prop:=match o with
 | some (_,cs,_)=>K (.rop cs) (y0d S b)
 | none=>False
def xdk (o:Option ((Bool×List EK)×List (AV×AV×Nat)×Nat)) (S:q00) (M:Bool×List EK) (b:Nat) (k v:AV) (K:q00->Prop):Prop:=match o with
 | some (M',es,clk)=>M'=M/\q0x M k=true/\K (supd S b (.map M (y0k es k v clk).1 (y0k es k v clk).2))
 | none=>False
@[congr] theorem x81 {S:q00} {n:Nat} {ag:Bool} {p p':AV} {K:AV->Prop} (hp:p=p'):ldW S n ag p K=ldW S n ag p' K:=by subst hp;rfl
@[congr] theorem x7j {p p':AV} {K:AV->Prop} (hp:p=p'):nkW p K=nkW p' K:=by subst hp;rfl
@[congr] theorem x9d {o:BinOp} {x x':AV} {y y':AV} {K:AV->Prop} (hx:x=x') (hy:y=y'):biW o x y K=biW o x' y' K:=by subst hx;subst hy;rfl
@[congr] theorem x8p {g:Bool} {M:Bool×List EK} {x x':AV} {y y':AV} {K:AV->Prop} (hx:x=x') (hy:y=y'):eqW g M x y K=eqW g M x' y' K:=by subst hx;subst hy;rfl
@[congr] theorem x8q {g:Bool} {x x':AV} {K:AV->Prop} (hx:x=x'):enW g x K=enW g x' K:=by subst hx;rfl
@[congr] theorem x64 {x x':AV} {K:AV->Prop} (hx:x=x'):ntW x K=ntW x' K:=by subst hx;rfl
@[congr] theorem x8r {k:IntKind} {x x':AV} {K:AV->Prop} (hx:x=x'):cvW k x K=cvW k x' K:=by subst hx;rfl
@[congr] theorem x8k {f:Nat} {n:Nat} {ag:Bool} {x x':AV} {K:AV->Prop} (hx:x=x'):fdW f n ag x K=fdW f n ag x' K:=by subst hx;rfl
@[congr] theorem x8l {f:Nat} {x x':AV} {K:AV->Prop} (hx:x=x'):faW f x K=faW f x' K:=by subst hx;rfl
@[congr] theorem x8a {z:Nat} {x x':AV} {i i':AV} {K:AV->Prop} (hx:x=x') (hi:i=i'):iaW z x i K=iaW z x' i' K:=by subst hx;subst hi;rfl
@[congr] theorem x85 {x x':AV} {i i':AV} {K:AV->Prop} (hx:x=x') (hi:i=i'):isW x i K=isW x' i' K:=by subst hx;subst hi;rfl
@[congr] theorem x84 {l:Nat} {z:Nat} {ag:Bool} {x x':AV} {i i':AV} {K:AV->Prop} (hx:x=x') (hi:i=i'):ixW l z ag x i K=ixW l z ag x' i' K:=by subst hx;subst hi;rfl
@[congr] theorem x5m {x x':AV} {l l':Option AV} {h h':Option AV} {K:AV->Prop} (hx:x=x') (hl:l=l') (hh:h=h'):ssW x l h K=ssW x' l' h' K:=by subst hx;subst hl;subst hh;rfl
@[congr] theorem x5r {z:Nat} {x x':AV} {l l':Option AV} {h h':Option AV} {K:AV->Prop} (hx:x=x') (hl:l=l') (hh:h=h'):slW z x l h K=slW z x' l' h' K:=by subst hx;subst hl;subst hh;rfl
@[congr] theorem x9g {zs zs':List AV} {ps ps':List (Nat×Nat×AV)} {K:AV->Prop} (hzs:zs=zs') (hps:ps=ps'):bdW zs ps K=bdW zs' ps' K:=by subst hzs;subst hps;rfl
@[congr] theorem x80 {S:q00} {M:Bool×List EK} {ok:Bool} {z:AV} {x x':AV} {k k':AV} {K:AV->Prop} (hx:x=x') (hk:k=k'):lkW S M ok z x k K=lkW S M ok z x' k' K:=by subst hx;subst hk;rfl
@[congr] theorem x8m {i:Nat} {x x':AV} {K:AV->Prop} (hx:x=x'):exW i x K=exW i x' K:=by subst hx;rfl
@[congr] theorem x7y {S:q00} {k:Nat} {x x':AV} {K:AV->Prop} (hx:x=x'):lnW S k x K=lnW S k x' K:=by subst hx;rfl
@[congr] theorem x5k {t:Nat} {ok:Bool} {z:AV} {x x':AV} {K:AV->Prop} (hx:x=x'):taW t ok z x K=taW t ok z x' K:=by subst hx;rfl
@[congr] theorem x7l {x x':AV} {y y':AV} {K:AV->Prop} (hx:x=x') (hy:y=y'):mxW x y K=mxW x' y' K:=by subst hx;subst hy;rfl
@[congr] theorem x5z {c c':AV} {a:AV} {b:AV} {K:AV->Prop} (hc:c=c'):pkW c a b K=pkW c' a b K:=by subst hc;rfl
@[congr] theorem x9n {S:q00} {t:Nat} {zs:List AV} {K:AV->q00->Prop}:alW S t zs K=alW S t zs K:=rfl
@[congr] theorem x99 {S:q00} {t:Nat} {n:Nat} {x x':AV} {K:AV->q00->Prop} (hx:x=x'):bxW S t n x K=bxW S t n x' K:=by subst hx;rfl
@[congr] theorem x9c {n:Nat} {x x':AV} {K:AV->Prop} (hx:x=x'):brW n x K=brW n x' K:=by subst hx;rfl
@[congr] theorem x9f {n:Nat} {x x':AV} {K:AV->Prop} (hx:x=x'):bfW n x K=bfW n x' K:=by subst hx;rfl
@[congr] theorem x9a {S:q00} {t:Nat} {z:Nat} {xs xs':List AV} {K:AV->q00->Prop} (hxs:xs=xs'):bsW S t z xs K=bsW S t z xs' K:=by subst hxs;rfl
@[congr] theorem x5n {z:Nat} {xs xs':List AV} {K:AV->Prop} (hxs:xs=xs'):srW z xs K=srW z xs' K:=by subst hxs;rfl
@[congr] theorem x7r {S:q00} {M:Bool×List EK} {K:AV->q00->Prop}:mmW S M K=mmW S M K:=rfl
@[congr] theorem x7p {S:q00} {t:Nat} {b:Nat} {z:AV} {l l':AV} {c c':AV} {K:AV->q00->Prop} (hl:l=l') (hc:c=c'):msW S t b z l c K=msW S t b z l' c' K:=by subst hl;subst hc;rfl
@[congr] theorem x5l {S:q00} {n:Nat} {p p':AV} {v v':AV} {K:q00->Prop} (hp:p=p') (hv:v=v'):stW S n p v K=stW S n p' v' K:=by subst hp;subst hv;rfl
@[congr] theorem x7n {S:q00} {M:Bool×List EK} {m m':AV} {k k':AV} {v v':AV} {K:q00->Prop} (hm:m=m') (hk:k=k') (hv:v=v'):muW S M m k v K=muW S M m' k' v' K:=by subst hm;subst hk;subst hv;rfl
@[congr] theorem x7v {S:q00} {M:Bool×List EK} {z:AV} {m m':AV} {k k':AV} {K:AV->q00->Prop} (hm:m=m') (hk:k=k'):meW S M z m k K=meW S M z m' k' K:=by subst hm;subst hk;rfl
@[congr] theorem x7o {S:q00} {m m':AV} {s s':AV} {v v':AV} {K:q00->Prop} (hm:m=m') (hs:s=s') (hv:v=v'):mtW S m s v K=mtW S m' s' v' K:=by subst hm;subst hs;subst hv;rfl
@[congr] theorem x7w {S:q00} {M:Bool×List EK} {m m':AV} {k k':AV} {K:q00->Prop} (hm:m=m') (hk:k=k'):mdW S M m k K=mdW S M m' k' K:=by subst hm;subst hk;rfl
@[congr] theorem x9k {S:q00} {t:Nat} {z:Nat} {b:Nat} {s s':AV} {x x':AV} {K:AV->q00->Prop} (hs:s=s') (hx:x=x'):apW S t z b s x K=apW S t z b s' x' K:=by subst hs;subst hx;rfl
@[congr] theorem x8i {S:q00} {v v':AV} {K:AV->q00->Prop} (hv:v=v'):fzW S v K=fzW S v' K:=by subst hv;rfl
@[congr] theorem x7t {ag:Bool} {n:Nat} {cs cs':List AV} {K:AV->Prop} (hcs:cs=cs'):mkW ag n cs K=mkW ag n cs' K:=by subst hcs;rfl
@[congr] theorem x82 {o o':Option (List AV)} {f:Nat} {n:Nat} {ag:Bool} {K:AV->Prop} (ho:o=o'):lcW o f n ag K=lcW o' f n ag K:=by subst ho;rfl
@[congr] theorem x9i {o o':Option (List AV)} {K:List AV->Prop} (ho:o=o'):atW o K=atW o' K:=by subst ho;rfl
@[congr] theorem x98 {o o':Option UInt8} {K:UInt8->Prop} (ho:o=o'):byW o K=byW o' K:=by subst ho;rfl
@[congr] theorem x2q {n:Nat} {cs cs':List AV} {K:List AV->Prop} (hcs:cs=cs'):tkW n cs K=tkW n cs' K:=by subst hcs;rfl
@[congr] theorem x7z {o o':Option ((Bool×List EK)×List (AV×AV×Nat)×Nat)} {M:Bool×List EK} {ok:Bool} {z:AV} {k k':AV} {K:AV->Prop} (ho:o=o') (hk:k=k'):lmW o M ok z k K=lmW o' M ok z k' K:=by subst ho;subst hk;rfl
@[congr] theorem x7s {o o':Option ((Bool×List EK)×List (AV×AV×Nat)×Nat)} {K:AV->Prop} (ho:o=o'):mlW o K=mlW o' K:=by subst ho;rfl
@[congr] theorem x5q {o o':Option (Nat×List AV×Nat)} {S:q00} {n:Nat} {b:Nat} {f:Nat} {v v':AV} {K:q00->Prop} (ho:o=o') (hv:v=v'):soW o S n b f v K=soW o' S n b f v' K:=by subst ho;subst hv;rfl
@[congr] theorem x8j {o o':Option (Nat×List AV×Nat)} {S:q00} {b:Nat} {K:AV->q00->Prop} (ho:o=o'):foW o S b K=foW o' S b K:=by subst ho;rfl
@[congr] theorem x2c {o o':Option ((Bool×List EK)×List (AV×AV×Nat)×Nat)} {S:q00} {M:Bool×List EK} {b:Nat} {k k':AV} {v v':AV} {K:q00->Prop} (ho:o=o') (hk:k=k') (hv:v=v'):xdk o S M b k v K=xdk o' S M b k' v' K:=by subst ho;subst hk;subst hv;rfl
@[congr] theorem x8s {S:q00} {z:Nat} {s s' x x':AV} {K:AV->q00->Prop} (hs:s=s') (hx:x=x'):cpW S z s x K=cpW S z s' x' K:=by subst hs;subst hx;rfl
@[congr] theorem x8u {v v':AV} {Y N:Prop} (h:v=v'):cnW v Y N=cnW v' Y N:=by subst h;rfl
@[congr] theorem x8g {v v':AV} {w:Bool} {Y Y' N N':Prop} (h:v=v') (hY:Y=Y') (hN:N=N'):grW v w Y N=grW v' w Y' N':=by subst h;subst hY;subst hN;rfl
@[congr] theorem x10 {F:(LE->q00->Prop)->LE->q00->Prop} {l:LE} {S:q00}:LoopP F l S=LoopP F l S:=rfl
@[congr] theorem x8x {P:Program} {S:q00} {f f':AV} {xs xs':List AV} {K Q:AV->q00->Prop} (h:f=f') (h':xs=xs'):caW P S f xs K Q=caW P S f' xs' K Q:=by subst h;subst h';rfl
section
variable {S:q00} {K:AV->Prop} {KS:AV->q00->Prop} {KT:q00->Prop} {n m f sz b off l cap t:Nat} {ag neg ok w:Bool} {k k':IntKind} {i j:Int} {cs xs ys:List AV} {rows:List (List AV)} {s s':ByteArray} {x y z v:AV} {M:Bool×List EK} {p q:Bool} {Y N:Prop}
theorem yyx:ldW S n ag (.rop cs) K=mkW ag n cs K:=rfl
theorem q85:ldW S n ag (.ptr b off) K=lcW (q2e S b) off n ag K:=by
 unfold ldW lcW;rw [q6j];cases q2e S b<;>rfl
theorem q5q:lcW (some cs) f n ag K=mkW ag n (cs.drop f) K:=rfl
theorem y5n {c:AV}:mkW false n (c :: cs) K=K c:=rfl
theorem y5o:mkW true n cs K=tkW n cs fun l=>K (.agg l):=by
 have key:∀ (n:Nat) (cs:List AV) (K:List AV->Prop),tkW n cs K=if n<=cs.length then K (cs.take n) else False:=by
  intro n
  induction n with
  | zero=>intro cs K;simp [tkW]
  | succ n ih=>
   intro cs K;cases cs with
   | nil=>simp [tkW]
   | cons c cs=>
    simp only [tkW,ih,List.length_cons,List.take_succ_cons];by_cases h:n<=cs.length
    ·rw [if_pos h,if_pos (by omega)]
    ·rw [if_neg h,if_neg (by omega)]
 rw [key];unfold mkW mkA;by_cases h:n<=cs.length
 ·rw [if_pos rfl,if_pos h,if_pos h];rfl
 ·rw [if_pos rfl,if_neg h,if_neg h];rfl
theorem yyq (h:cs.length=n):mkW true n cs K=K (.agg cs):=by
 unfold mkW mkA;rw [if_pos rfl,if_pos (by omega),List.take_of_length_le (by omega)]
 rfl
theorem y0v {K:List AV->Prop} (h:cs.length=n):tkW n cs K=K cs:=by
 have h1:mkW true n cs (fun v=>match v with | .agg l=>K l | _=>False)=K cs:=yyq h
 rw [y5o] at h1;exact h1
theorem yop {K:List AV->Prop}:tkW 0 cs K=K []:=rfl
theorem yoq {c:AV} {K:List AV->Prop}:tkW (n+1) (c :: cs) K=tkW n cs fun l=>K (c :: l):=rfl
theorem yyl:nkW (.ptr b off) K=K (.ptr b off):=rfl
theorem yyk:nkW (.rop cs) K=K (.rop cs):=rfl
theorem x0m:biW .add (.int k i) (.int k j) K=K (.int k (k.wrap (i+j))):=by unfold biW;rw [q2k];rfl
theorem x0d:biW .sub (.int k i) (.int k j) K=K (.int k (k.wrap (i-j))):=by unfold biW;rw [q2k];rfl
theorem x0f:biW .mul (.int k i) (.int k j) K=K (.int k (k.wrap (i * j))):=by unfold biW;rw [q2k];rfl
theorem x0k:biW .eql (.int k i) (.int k j) K=K (.bool (decide (i=j))):=by unfold biW;rw [q2k];rfl
theorem x0e:biW .neq (.int k i) (.int k j) K=K (.bool (!decide (i=j))):=by unfold biW;rw [q2k];rfl
theorem x0g:biW .lss (.int k i) (.int k j) K=K (.bool (decide (i<j))):=by unfold biW;rw [q2k];rfl
theorem x0h:biW .leq (.int k i) (.int k j) K=K (.bool (decide (i<=j))):=by unfold biW;rw [q2k];rfl
theorem x0i:biW .gtr (.int k i) (.int k j) K=K (.bool (decide (j<i))):=by unfold biW;rw [q2k];rfl
theorem x0j:biW .geq (.int k i) (.int k j) K=K (.bool (decide (j<=i))):=by unfold biW;rw [q2k];rfl
theorem x0l:biW .and (.int k i) (.int k j) K=K (.int k (Go.bits .and k i j)):=by unfold biW;rw [q2k];rfl
theorem yc7:biW .xor (.int k i) (.int k j) K=K (.int k (Go.bits .xor k i j)):=by unfold biW;rw [q2k];rfl
theorem yr6:biW .add (.str s) (.str s') K=(s.size+s'.size<=9223372036854775807/\K (.str (s++s'))):=by
 unfold biW;rw [yez,yey];by_cases h:s.size+s'.size<=9223372036854775807
 ·rw [if_pos h];simp [q0s,h]
 ·rw [if_neg h];simp [q0s,h]
theorem yr5:biW .eql (.str s) (.str s') K=K (.bool (decide (s=s'))):=rfl
theorem yr3:biW .neq (.str s) (.str s') K=K (.bool (!decide (s=s'))):=rfl
theorem yr4:biW .lss (.str s) (.str s') K=K (.bool (Op.bytesLess s.toList s'.toList)):=rfl
theorem ybm:eqW neg M x y K=((q0x M x&&q0x M y)=true/\K (.bool (if neg then !q1h x y else q1h x y))):=by
 unfold eqW xi6;cases h:q0x M x&&q0x M y<;>simp [q0s]
theorem yzk:enW neg .nili K=K (.bool (!neg)):=rfl
theorem yln:enW neg (.iface t v) K=K (.bool neg):=rfl
theorem yph:ntW (.bool p) K=K (.bool (!p)):=rfl
theorem yzo:cvW k (.int k' i) K=K (.int k (k.wrap i)):=rfl
theorem yzd:fdW f n ag (.agg cs) K=(f+n<=cs.length/\mkW ag n (cs.drop f) K):=by
 unfold fdW;rw [y3y];by_cases h:f+n<=cs.length
 ·rw [if_pos h];simp [h,mkW]
 ·rw [if_neg h];simp [q0s,h]
theorem yzf:faW f (.ptr b off) K=K (.ptr b (off+f)):=rfl
theorem yze:faW f (.rop cs) K=K (.rop (cs.drop f)):=rfl
theorem x89 {sz':Nat}:iaW sz (.sl sz' rows) (.int k i) K=(sz=sz'/\0<=i/\atW rows[i.toNat]? fun cs=>K (.rop cs)):=by
 unfold iaW;rw [y8h];by_cases h:sz=sz'/\0<=i
 ·rw [if_pos h];obtain ⟨h1,h2⟩:=h;unfold atW q7w;cases rows[i.toNat]?<;>simp [q0s,h1,h2]
 ·rw [if_neg h];refine propext ⟨fun h'=>h'.elim,fun h'=>absurd ⟨h'.1,h'.2.1⟩ h⟩
theorem ybc {a:Nat}:iaW sz (.sl sz rows) (.int k (a:Int)) K=atW rows[a]? fun cs=>K (.rop cs):=by
 rw [x89,Int.toNat_natCast];simp
theorem yq2:iaW sz (.sl sz rows) (.int k 0) K=atW rows[0]? fun cs=>K (.rop cs):=ybc (a:=0)
theorem yz7:iaW sz (.sl sz rows) (.int k 1) K=atW rows[1]? fun cs=>K (.rop cs):=ybc (a:=1)
theorem q88:iaW sz (.own b off l cap) (.int k i) K=(0<=i/\i<l/\K (.ptr b (off+i.toNat * sz))):=by
 unfold iaW;rw [y3p];by_cases h:0<=i/\i<l
 ·rw [if_pos h];simp [q0s,h]
 ·rw [if_neg h];exact propext ⟨fun h'=>h'.elim,fun h'=>absurd ⟨h'.1,h'.2.1⟩ h⟩
theorem yrb {K:List AV->Prop}:atW (some cs) K=K cs:=rfl
theorem yql {K:UInt8->Prop} {c:UInt8}:byW (some c) K=K c:=rfl
theorem yz4:isW (.str s) (.int k i) K=(0<=i/\byW s[i.toNat]? fun c=>K (.int .u8 c.toNat)):=by
 unfold isW;rw [y8g];by_cases h:0<=i
 ·rw [if_pos h];unfold byW;cases s[i.toNat]?<;>simp [q0s,h]
 ·rw [if_neg h];simp [q0s,h]
theorem ykx {a:Nat}:isW (.str s) (.int k (a:Int)) K=byW s[a]? fun c=>K (.int .u8 c.toNat):=by
 rw [yz4,Int.toNat_natCast];simp
theorem ypz:isW (.str s) (.int k 0) K=byW s[0]? fun c=>K (.int .u8 c.toNat):=ykx (a:=0)
theorem yxb {lo hi:Option AV}:ssW (.str s) lo hi K=q0s (yen (loI lo) (hiI s.size hi) s.size fun l h=>.str (s.extract l h)) K:=by unfold ssW;rw [y35]
theorem yxk {lo hi:Option AV}:slW sz (.sl sz rows) lo hi K=q0s (yen (loI lo) (hiI rows.length hi) rows.length fun l h=>.sl sz ((rows.take h).drop l)) K:=by unfold slW;rw [y37]
theorem yxj {lo hi:Option AV}:slW sz (.own b off l cap) lo hi K=q0s (yen (loI lo) (hiI l hi) cap fun p h=>.own b (if cap=p then off else off+p * sz) (h-p) (cap-p)) K:=by unfold slW;rw [y36]
theorem yzp {lo hi d:Int} {g:Nat->Nat->AV}:q0s (yen (some lo) (some hi) d g) K=(0<=lo/\lo<=hi/\hi<=d/\K (g lo.toNat hi.toNat)):=by
 rw [y8t];by_cases h:0<=lo/\lo<=hi/\hi<=d
 ·rw [if_pos h];simp [q0s,h]
 ·rw [if_neg h];exact propext ⟨fun h'=>h'.elim,fun h'=>absurd ⟨h'.1,h'.2.1,h'.2.2.1⟩ h⟩
theorem x0s:bdW cs [] K=K (.agg cs):=rfl
theorem yra {r:List (Nat×Nat×AV)}:bdW cs ((off,n,x) :: r) K=((q0a x).length=n/\off+n<=cs.length/\y0b x=true/\bdW (q1i cs off (q0a x)) r K):=by
 unfold bdW;simp only [y9b];by_cases h:(q0a x).length=n/\off+n<=cs.length/\y0b x=true
 ·rw [if_pos h];simp [h]
 ·rw [if_neg h];exact propext ⟨fun h'=>h'.elim,fun h'=>absurd ⟨h'.1,h'.2.1,h'.2.2.1⟩ h⟩
theorem yyu:lkW S M ok z (.map (some b)) x K=lmW (q2o S b) M ok z x K:=by
 unfold lkW lmW;cases h:q2o S b with
 | none=>
  have:q99 S b=none:=by rw [y88,h];rfl
  simp [q4f,this,q0s]
 | some q=>
  obtain ⟨M',es,clk⟩:=q;dsimp only;rw [y89 (M':=M') (es:=es) (by rw [y88,h];rfl),yh8]
  by_cases h1:q0x M x=true/\M'=M
  ·rw [if_pos h1];simp [q0s,h1]
  ·rw [if_neg h1];exact propext ⟨fun h'=>h'.elim,fun h'=>absurd ⟨h'.1,h'.2.1⟩ h1⟩
theorem ykk:lkW S M ok z (.map none) x K=(q0x M x=true/\K (q23 ok z none)):=by
 unfold lkW;simp only [q4f];by_cases h:q0x M x=true
 ·rw [if_pos h];simp [q0s,h];rfl
 ·rw [if_neg h];simp [q0s,h]
theorem ydu {M':Bool×List EK} {es:List (AV×AV×Nat)} {clk:Nat}:lmW (some (M',es,clk)) M ok z x K=(q0x M x=true/\M'=M/\K (q23 ok z (y09 es x))):=rfl
theorem ybd:q23 true z (some v)=.tup [v,.bool true]:=rfl
theorem ybe:q23 true z none=.tup [z,.bool false]:=rfl
theorem q52:q23 false z (some v)=v:=rfl
theorem y8l:q23 false z none=z:=rfl
theorem q5v:exW 0 (.tup (v :: xs)) K=K v:=rfl
theorem q9o:exW (n+1) (.tup (v :: xs)) K=exW n (.tup xs) K:=rfl
theorem yys:lnW S 0 (.str s) K=K (.int .i64 s.size):=rfl
theorem x7x:lnW S 1 (.sl sz rows) K=K (.int .i64 rows.length):=rfl
theorem q9m:lnW S 1 .nils K=K (.int .i64 0):=rfl
theorem y5q:lnW S 1 (.own b off l cap) K=K (.int .i64 l):=rfl
theorem yyt:lnW S 2 (.map (some b)) K=mlW (q2o S b) K:=by
 unfold lnW mlW q2o;simp only [if_neg (show ¬ 2=0 by omega),if_neg (show ¬ 2=1 by omega),ypv]
 cases y01 S b with
 | none=>rfl
 | some o=>cases o<;>rfl
theorem ydn {M':Bool×List EK} {es:List (AV×AV×Nat)} {clk:Nat}:mlW (some (M',es,clk)) K=K (.int .i64 es.length):=rfl
theorem yx5:taW t ok z (.iface t v) K=K (if ok then .tup [v,.bool true] else v):=by simp [taW,x0u,q0s]
theorem yx4:taW t true z .nili K=K (.tup [z,.bool false]):=rfl
theorem yyn:mxW (.int k i) (.int k' j) K=K (.int k (if i<j then j else i)):=rfl
theorem xi1:pkW (.bool true) x y K=K x:=rfl
theorem xi2:pkW (.bool false) x y K=K y:=rfl
theorem x09:brW 1 (.int k i) K=K (.rop [.int k i]):=by simp [brW,q0a,y0b]
theorem x05:brW 1 (.str s) K=K (.rop [.str s]):=by simp [brW,q0a,y0b]
theorem yqo:brW 1 (.bool p) K=K (.rop [.bool p]):=by simp [brW,q0a,y0b]
theorem x9b:brW 1 (.sl sz rows) K=K (.rop [.sl sz rows]):=by simp [brW,q0a,y0b]
theorem x06:brW 1 (.rop cs) K=K (.rop [.rop cs]):=by simp [brW,q0a,y0b]
theorem x08 {o:Option Nat}:brW 1 (.map o) K=K (.rop [.map o]):=by simp [brW,q0a,y0b]
theorem x07:brW 1 (.ptr b off) K=K (.rop [.ptr b off]):=by simp [brW,q0a,y0b]
theorem yqm:brW 1 .nils K=K (.rop [.nils]):=by simp [brW,q0a,y0b]
theorem yqn {g:Fn}:brW 1 (.func g xs ys) K=K (.rop [.func g xs ys]):=by simp [brW,q0a,y0b]
theorem x0a:brW n (.agg cs) K=(cs.length=n/\K (.rop cs)):=by simp [brW,q0a,y0b]
theorem x0q:bfW 1 (.int k i) K=K (.rop [.int k i]):=by simp [bfW,q0a,y06,one]
theorem x0n:bfW 1 (.str s) K=K (.rop [.str s]):=by simp [bfW,q0a,y06,one]
theorem yr8:bfW 1 (.bool p) K=K (.rop [.bool p]):=by simp [bfW,q0a,y06,one]
theorem x9e:bfW 1 (.sl sz rows) K=K (.rop [.sl sz rows]):=by simp [bfW,q0a,y06,one]
theorem x0o:bfW 1 (.rop cs) K=K (.rop [.rop cs]):=by simp [bfW,q0a,y06,one]
theorem x0p {o:Option Nat}:bfW 1 (.map o) K=K (.rop [.map o]):=by simp [bfW,q0a,y06,one]
theorem yr7:bfW 1 .nils K=K (.rop [.nils]):=by simp [bfW,q0a,y06,one]
theorem x0r:bfW n (.agg cs) K=(cs.length=n/\y06 cs=true/\K (.rop cs)):=by simp [bfW,q0a]
theorem yxc:srW sz xs K=(yil sz xs/\K (.sl sz (xs.map q0a))):=rfl
theorem yrh:yil sz []=True:=rfl
theorem ymi:yil sz (x :: xs)=((q0a x).length=sz/\y0b x=true/\yil sz xs):=rfl
theorem ylc:ybf []=[]:=rfl
theorem yhb:ybf (x :: xs)=q0a x++ybf xs:=rfl
theorem q69:stW S n (.ptr b off) v KT=soW (q0m S b) S n b off v KT:=by kernel_rfl
theorem q35 {tot:Nat}:soW (some (t,cs,tot)) S n b f v KT=((q0a v).length=n/\f+n<=cs.length/\y06 (q0a v)=true/\KT (supd S b (.cells t (q1i cs f (q0a v)) tot))):=rfl
theorem yxg {tot:Nat} (h:one v=true) (c:AV):soW (some (t,[c],tot)) S 1 b 0 v KT=KT (supd S b (.cells t [v] tot)):=by
 have h1:q0a v=[v]:=by cases v<;>first | rfl | cases h
 simp [soW,h1,y06,h,q1i]
theorem y5v:fzW S (.ptr b 0) KS=foW (q0m S b) S b KS:=by kernel_rfl
theorem q9n {tot:Nat}:foW (some (t,cs,tot)) S b KS=KS (.rop cs) (y0d S b):=rfl
theorem ykb:muW S M (.map (some b)) x v KT=xdk (q2o S b) S M b x v KT:=by kernel_rfl
theorem y1b {M':Bool×List EK} {es:List (AV×AV×Nat)} {clk:Nat}:xdk (some (M',es,clk)) S M b x v KT=(M'=M/\q0x M x=true/\KT (supd S b (.map M (y0k es x v clk).1 (y0k es x v clk).2))):=rfl
theorem xi7:cnW (.bool true) Y N=Y:=by simp [cnW]
theorem xi8:cnW (.bool false) Y N=N:=by simp [cnW]
theorem q02 (h1:p=true->Y) (h2:p=false->N):cnW (.bool p) Y N:=⟨h1,h2⟩
theorem x8b:grW (.bool true) true Y N=Y:=by simp [grW]
theorem x8c:grW (.bool true) false Y N=N:=by simp [grW]
theorem x8e:grW (.bool false) true Y N=N:=by simp [grW]
theorem x8f:grW (.bool false) false Y N=Y:=by simp [grW]
theorem yz8:grW (.tup []) w Y N=N:=rfl
theorem yl9:grW q07 w Y N=N:=rfl
theorem q1l (h1:p=w->Y) (h2:p=!w->N):grW (.bool p) w Y N:=⟨h1,h2⟩
theorem yz9:grW (.bool p) true (pkW (.bool p) (.bool q) (.bool false) K) (pkW (.bool p) q07 (.bool false) K)=K (.bool (p&&q)):=by cases p<;>simp [grW,pkW,y2p]
theorem x8d:grW (.bool p) false (pkW (.bool p) (.bool true) (.bool q) K) (pkW (.bool p) (.bool true) q07 K)=K (.bool (p||q)):=by cases p<;>simp [grW,pkW,y2p]
theorem yq3:grW (.bool p) w Y Y=Y:=by cases p<;>cases w<;>simp [grW]
theorem yyz {S':q00}:kpW [] S S' Y=Y:=by simp [kpW]
theorem ypy {S':q00}:kpW (x :: xs) S S' Y=((∀ b,blk x=some b->y01 S' b=y01 S b)/\kpW xs S S' Y):=by
 simp only [kpW,List.mem_cons,forall_eq_or_imp,and_assoc]
theorem yyy {S':q00}:kpW (.rop cs :: xs) S S' Y=kpW xs S S' Y:=by rw [ypy];simp [blk]
theorem ypx:kpW xs S S Y=Y:=by simp [kpW]
theorem yuz {zs:List AV} (hz:zs.length=n) (h:bfW n v (fun q=>KS q S)):alW S t zs (fun p S1=>stW S1 n p v (fun S2=>fzW S2 p KS)):=by
 intro b hb;obtain ⟨h1,h2,h3⟩:=h;rw [q69,objAt_supd,if_pos rfl,q35];refine ⟨h1,by omega,h2,?_⟩
 rw [y5v,objAt_supd,if_pos rfl,q9n,q0q,q30 hb,q57 _ _ _ (by omega)]
 simpa using h3
theorem y3g {b c:Nat}:q0m (y0d S b) c=if b=c then none else q0m S c:=by
 unfold q0m;rw [q0b];by_cases h:b=c<;>simp [h]
theorem ygm {a b:Nat} {o1 o2 o3 o4:AObj} (ha:y01 S a=none) (hb:y01 S b=none) (h:a≠b):y0d (y0d (supd (supd (supd (supd S a o1) b o2) a o3) b o4) a) b=S:=by
 funext x
 simp only [y0d,supd];by_cases h1:a=x
 ·subst h1;simp only [if_neg (Ne.symm h),if_true];exact ha.symm
 ·by_cases h2:b=x
  ·subst h2;simp only [if_true];exact hb.symm
  ·simp only [if_neg h1,if_neg h2]
theorem x9m {zs zs':List AV} {t' n':Nat} {v':AV} {KK:AV->AV->q00->Prop} (hz:zs.length=n) (hz':zs'.length=n') (h1:(q0a v).length=n) (h2:y06 (q0a v)=true) (h1':(q0a v').length=n') (h2':y06 (q0a v')=true) (h:KK (.rop (q0a v)) (.rop (q0a v')) S) :
  alW S t zs (fun p S1=>alW S1 t' zs' (fun q S2=>stW S2 n p v (fun S3=>stW S3 n' q v' (fun S4=>fzW S4 p (fun p' S5=>fzW S5 q (fun q' S6=>KK p' q' S6)))))):=by
 intro a ha b hb;have hne:a≠b:=by
  rintro rfl;rw [q01,if_pos rfl] at hb;cases hb
 have hb':y01 S b=none:=by rw [q01,if_neg hne] at hb;exact hb
 rw [q69,objAt_supd,if_neg (Ne.symm hne),objAt_supd,if_pos rfl,q35];refine ⟨h1,by omega,h2,?_⟩
 rw [q69,objAt_supd,if_neg hne,objAt_supd,if_pos rfl,q35];refine ⟨h1',by omega,h2',?_⟩
 rw [q57 _ _ _ (by omega),q57 _ _ _ (by omega),y5v,objAt_supd,if_neg (Ne.symm hne),objAt_supd,if_pos rfl,q9n,y5v,y3g,if_neg hne,objAt_supd,if_pos rfl,q9n,ygm ha hb' hne]
 simpa using h
theorem ykt:q0x M (.agg cs)=(M.1&&q19 M.2 cs):=rfl
theorem ykr:q0x M (.str s)=(!M.1&&q19 M.2 [.str s]):=rfl
theorem yh3:q0x M (.bool p)=(!M.1&&q19 M.2 [.bool p]):=rfl
theorem yks:q0x M (.int k i)=(!M.1&&q19 M.2 [.int k i]):=rfl
theorem ylo:q19 [] []=true:=rfl
theorem yhg {e:EK} {es:List EK}:q19 (e :: es) (x :: xs)=(y63 e x&&q19 es xs):=rfl
theorem yqc:y63 .str (.str s)=true:=rfl
theorem yqd:y63 (.int k) (.int k i)=true:=by simp [y63]
theorem ylq:y63 .bool (.bool p)=true:=rfl
theorem ykv:q1h (.agg xs) (.agg ys)=eqs xs ys:=rfl
theorem yku:q1h (.str s) (.str s')=decide (s=s'):=by simp [q1h,q2j,eqs,eq1]
theorem yh4:q1h (.bool p) (.bool q)=(p==q):=by simp [q1h,q2j,eqs,eq1]
theorem yzh:eqs [] []=true:=rfl
theorem yq9:eqs (x :: xs) (y :: ys)=(eq1 x y&&eqs xs ys):=rfl
theorem yzi:eq1 (.str s) (.str s')=decide (s=s'):=rfl
theorem yzj:eq1 (.int k i) (.int k' j)=decide (i=j):=by simp only [eq1];exact Bool.beq_eq_decide_eq i j
theorem yqa:eq1 (.bool p) (.bool q)=(p==q):=rfl
end
section
variable {P:Program} {S:q00} {QF:AEnd->q00->Prop}
attribute [local semireducible] LoopP in
theorem LoopP.intro {F:(LE->q00->Prop)->LE->q00->Prop} {l:LE} {α:Type} (env:α->LE) (st:α->q00) (inv:α->Prop) (mu:α->Nat) (x0:α) (h0:inv x0) (he:l=env x0) (hS:Sub (st x0) S)
  (step:∀ x,inv x->∀ r:LE->q00->Prop,(∀ x',inv x'->mu x'<mu x->r (env x') (st x'))->F r (env x) (st x)):LoopP F l S:=by
 refine ⟨fun m l S=>∃ x,inv x/\mu x=m/\l=env x/\S=st x,mu x0,⟨env x0,st x0,?_,x0,h0,rfl,rfl,rfl⟩,?_⟩
 ·subst he;exact Shift.sub hS
 ·rintro m l S ⟨x,hx,rfl,rfl,rfl⟩;exact step x hx _ fun x' h1 h2=>⟨mu x',h2,x',h1,rfl,rfl,rfl⟩
attribute [local semireducible] LoopP in
theorem LoopP.introS {F:(LE->q00->Prop)->LE->q00->Prop} {l:LE} {α:Type} (env:α->LE) (inv:α->q00->Prop) (mu:α->Nat) (x0:α) (h0:inv x0 S) (he:l=env x0)
  (step:∀ x S,inv x S->∀ r:LE->q00->Prop,(∀ x' S',inv x' S'->mu x'<mu x->r (env x') S')->F r (env x) S):LoopP F l S:=by
 refine ⟨fun m l S=>∃ x,inv x S/\mu x=m/\l=env x,mu x0,⟨env x0,S,?_,x0,h0,rfl,rfl⟩,?_⟩
 ·subst he;exact Shift.refl _ _
 ·rintro m l S ⟨x,hx,rfl,rfl⟩;exact step x S hx _ fun x' S' h1 h2=>⟨mu x',h2,x',h1,rfl,rfl⟩
theorem x5w {r:LE->q00->Prop} {l:LE} (h:r l S):rcW r l S:=⟨l,S,Shift.refl _ _,h⟩
theorem q09 {r:LE->q00->Prop} {l l':LE} (hl:l=l') (h:r l' S):rcW r l S:=hl ▸ x5w h
theorem q04 {v:AV} (h:QF (.ret v) S):rtW [.tmp v] QF S:=⟨v,S,ShV.refl _ _,h⟩
theorem q7z {v:AV} {S':q00} (hS:Sub S' S) (h:QF (.ret v) S'):rtW [.tmp v] QF S:=⟨v,S',ShV.sub hS,h⟩
theorem q3n {u v:AV} (h:QF (.ret (.tup [u,v])) S):rtW [.tmp u,.tmp v] QF S:=⟨_,S,ShV.refl _ _,h⟩
theorem y7l {u v x:AV} (h:QF (.ret (.tup [u,v,x])) S):rtW [.tmp u,.tmp v,.tmp x] QF S:=⟨_,S,ShV.refl _ _,h⟩
theorem q1x (h:QF (.ret (.tup [])) S):rtW [] QF S:=⟨_,S,ShV.refl _ _,h⟩
theorem q9h {rs:List RW} {vs:List AV} {v':AV} {S':q00} (hr:q60 S rs=some vs) (hS:ShV (yo6 vs) S v' S') (h:QF (.ret v') S'):rtW rs QF S:=by
 unfold rtW;rw [hr];exact ⟨_,S',hS,h⟩
theorem q1d {rs:List RW} (S':q00) (hS:Sub S' S) (h:q7w (q60 S rs) fun vs=>QF (.ret (yo6 vs)) S'):rtW rs QF S:=by
 unfold rtW;unfold q7w at h ⊢;split at h
 ·exact ⟨_,S',ShV.sub hS,h⟩
 ·exact h.elim
theorem yj7:q60 S []=some []:=rfl
theorem yj6 {v:AV} {rs:List RW}:q60 S (.tmp v :: rs)=(q60 S rs).map fun vs=>v :: vs:=by
 simp only [q60,x5u];cases q60 S rs<;>rfl
theorem ygp {v:AV} {n:Nat} {ag:Bool} {rs:List RW}:q60 S (.cell v n ag :: rs)=((cellsOf S v).bind (mkA ag n)).bind fun v=>(q60 S rs).map fun vs=>v :: vs:=by
 simp only [q60,x5u];cases (cellsOf S v).bind (mkA ag n) with
 | none=>rfl
 | some u=>cases q60 S rs<;>rfl
theorem q06 {f:Nat} {xs:List AV} {v:AV} {K Qp:AV->q00->Prop} (h:AFun P f xs v) (hk:K v S):caW P S (.func (.func f) [] []) xs K Qp:=
 ⟨f,[],[],fun ae S'=>ae=.ret v/\S'=S,rfl,by simpa using h S,fun ae S' ⟨h1,h2⟩=>by subst h1;subst h2;exact hk⟩
theorem y8w {f:Nat} {fi ca xs:List AV} {v:AV} {K Qp:AV->q00->Prop} (h:AFun P f (fi++xs++ca) v) (hk:K v S):caW P S (.func (.func f) fi ca) xs K Qp:=
 ⟨f,fi,ca,fun ae S'=>ae=.ret v/\S'=S,rfl,h S,fun ae S' ⟨h1,h2⟩=>by subst h1;subst h2;exact hk⟩
theorem q0k {f:Nat} {xs:List AV} {Q:AEnd->q00->Prop} {K Qp:AV->q00->Prop} (h:ACalls P f xs S Q) (hk:∀ ae S',Q ae S'->match ae with
  | .ret v=>K v S'
  | .pan v=>Qp v S'):caW P S (.func (.func f) [] []) xs K Qp:=
 ⟨f,[],[],Q,rfl,by simpa using h,hk⟩
theorem y69 {f:Nat} {fi ca xs:List AV} {Q:AEnd->q00->Prop} {K Qp:AV->q00->Prop} (h:ACalls P f (fi++xs++ca) S Q) (hk:∀ ae S',Q ae S'->match ae with
  | .ret v=>K v S'
  | .pan v=>Qp v S'):caW P S (.func (.func f) fi ca) xs K Qp:=
 ⟨f,fi,ca,Q,rfl,h,hk⟩
def AFunS (P:Program) (f:Nat) (args:List AV) (S:q00) (v:AV):Prop:=ACalls P f args S fun ae S'=>ae=.ret v/\S'=S
theorem q13 {f:Nat} {xs:List AV} {v:AV} {K Qp:AV->q00->Prop} (h:AFunS P f xs S v) (hk:K v S):caW P S (.func (.func f) [] []) xs K Qp:=
 q0k h fun ae S' ⟨h1,h2⟩=>by subst h1;subst h2;exact hk
theorem y6a {f:Nat} {fi ca xs:List AV} {v:AV} {K Qp:AV->q00->Prop} (h:AFunS P f (fi++xs++ca) S v) (hk:K v S):caW P S (.func (.func f) fi ca) xs K Qp:=
 y69 h fun ae S' ⟨h1,h2⟩=>by subst h1;subst h2;exact hk
end
def hw0:=And.intro @yyx (And.intro @q85 (And.intro @q5q (And.intro @y5n (And.intro @y5o (And.intro @yop (And.intro @yoq (And.intro @yyl (And.intro @yyk (And.intro @x0m (And.intro @x0d (And.intro @x0f (And.intro @x0k (And.intro @x0e (And.intro @x0g (And.intro @x0h (And.intro @x0i (And.intro @x0j (And.intro @yr6 (And.intro @yr5 (And.intro @yr3 (And.intro @yr4 (And.intro @ybm (And.intro @yzk (And.intro @yln (And.intro @yph (And.intro @yzo (And.intro @yzd (And.intro @yzf (And.intro @yze (And.intro @ybc (And.intro @yq2 (And.intro @yz7 (And.intro @q88 (And.intro @yrb (And.intro @yql (And.intro @ykx (And.intro @ypz (And.intro @yxb @yxk))))))))))))))))))))))))))))))))))))))
def hw1:=And.intro @yxj (And.intro @yzp (And.intro @ydt (And.intro @ykj (And.intro @ye4 (And.intro @yl1 (And.intro @x0s (And.intro @yra (And.intro @ykk (And.intro @ydu (And.intro @ybd (And.intro @ybe (And.intro @q52 (And.intro @y8l (And.intro @q5v (And.intro @q9o (And.intro @yys (And.intro @x7x (And.intro @q9m (And.intro @y5q (And.intro @ydn (And.intro @yx5 (And.intro @yx4 (And.intro @yyn (And.intro @xi1 (And.intro @xi2 (And.intro @x09 (And.intro @x05 (And.intro @yqo (And.intro @x9b (And.intro @x06 (And.intro @x08 (And.intro @x07 (And.intro @yqm (And.intro @yqn (And.intro @x0a (And.intro @x0q (And.intro @x0n (And.intro @yr8 @x9e))))))))))))))))))))))))))))))))))))))
def hw2:=And.intro @x0o (And.intro @x0p (And.intro @yr7 (And.intro @x0r (And.intro @yxc (And.intro @yrh (And.intro @ymi (And.intro @ylc (And.intro @yhb (And.intro @q69 (And.intro @q35 (And.intro @y5v (And.intro @q9n (And.intro @y1b (And.intro @xi7 (And.intro @xi8 (And.intro @x8b (And.intro @x8c (And.intro @x8e (And.intro @x8f (And.intro @yz8 (And.intro @yl9 (And.intro @yz9 (And.intro @x8d (And.intro @yq3 (And.intro @yyz (And.intro @yyy (And.intro @ypx (And.intro @ykt (And.intro @ykr (And.intro @yh3 (And.intro @yks (And.intro @ylo (And.intro @yhg (And.intro @yqc (And.intro @yqd (And.intro @ylq (And.intro @ykv (And.intro @yku @yh4))))))))))))))))))))))))))))))))))))))
def hw3:=And.intro @yzh (And.intro @yq9 (And.intro @yzi (And.intro @yzj (And.intro @yqa (And.intro @ydv (And.intro @y7h (And.intro @y39 (And.intro @ydw (And.intro @q91 (And.intro @q4o (And.intro @objAt_supd (And.intro @y2q (And.intro @yb5 (And.intro @mapObj_supd_map (And.intro @q0q (And.intro @y3g (And.intro @y1z (And.intro @q6j (And.intro @ykf (And.intro @yke (And.intro @yj7 (And.intro @yj6 (And.intro @ygp (And.intro @ygi (And.intro @Option.isSome_some.{0} (And.intro @Option.isSome_none.{0} (And.intro @y4q (And.intro @ydj (And.intro @yoo (And.intro @yon @yom))))))))))))))))))))))))))))))
def rws:=And.intro @hl6 (And.intro @hl7 (And.intro @xm2 (And.intro @hlc (And.intro @hw0 (And.intro @hw1 (And.intro @hw2 @hw3))))))
theorem bsN (a:Nat):(a==a)=true:=beq_self_eq_true a
theorem bsB (a:Bool):(a==a)=true:=beq_self_eq_true a
theorem bsI (a:Int):(a==a)=true:=beq_self_eq_true a
def rwp:=And.intro @bsN (And.intro @bsB (And.intro @bsI rws))
def rwb:=And.intro @Bool.not_true (And.intro @Bool.not_false (And.intro @Bool.false_or (And.intro @Bool.true_or (And.intro @Bool.or_false (And.intro @Bool.or_true (And.intro @Bool.false_and (And.intro @Bool.true_and (And.intro @Bool.and_false (And.intro @Bool.and_true (And.intro @decide_true (And.intro @decide_false @Bool.false_eq_true)))))))))))
end Go.HL
