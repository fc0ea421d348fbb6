/- A part of a proof. -/
import Derived.Test.YtadmdlpmikoghaaGreatKmHlJ
set_option linter.unusedSimpArgs false
set_option linter.unusedVariables false
namespace Go.HL
abbrev LE:=List (Nat×AV)
def ldW (S:q00) (n:Nat) (ag:Bool) (p:AV) (K:AV→Prop):Prop:=q0k ((cellsOf S p).bind (mkA ag n)) K
def nkW (p:AV) (K:AV→Prop):Prop:=q0k (nilckA p) K
def biW (o:BinOp) (x y:AV) (K:AV→Prop):Prop:=q0k (binA o x y) K
def eqW (neg:Bool) (M:Bool×List EK) (x y:AV) (K:AV→Prop):Prop:=q0k (eqpA neg M x y) K
def enW (neg:Bool) (x:AV) (K:AV→Prop):Prop:=q0k (eqnilA neg x) K
def ntW (x:AV) (K:AV→Prop):Prop:=q0k (notA x) K
def cvW (k:IntKind) (x:AV) (K:AV→Prop):Prop:=q0k (convA k x) K
def fdW (off n:Nat) (ag:Bool) (x:AV) (K:AV→Prop):Prop:=q0k (fieldA off n ag x) K
def faW (off:Nat) (x:AV) (K:AV→Prop):Prop:=q0k (faddrA off x) K
def iaW (sz:Nat) (x i:AV) (K:AV→Prop):Prop:=q0k (iaddrA sz x i) K
def isW (x i:AV) (K:AV→Prop):Prop:=q0k (idxsA x i) K
def ixW (len sz:Nat) (ag:Bool) (x i:AV) (K:AV→Prop):Prop:=q0k (idxaA len sz ag x i) K
def ssW (x:AV) (lo hi:Option AV) (K:AV→Prop):Prop:=q0k (slicsA lo hi x) K
def slW (sz:Nat) (x:AV) (lo hi:Option AV) (K:AV→Prop):Prop:=q0k (q6d sz lo hi x) K
def buildV:List (Nat×Nat×AV)→List AV→Option (List AV)
 | [],cells=>some cells
 | (off,n,x) :: r,cells=>if (q08 x).length=n∧off+n≤cells.length∧notJ x=true then buildV r (q1j cells off (q08 x)) else none
def bdW (zs:List AV) (ps:List (Nat×Nat×AV)) (K:AV→Prop):Prop:=q0k ((buildV ps zs).map .agg) K
def lkW (S:q00) (M:Bool×List EK) (ok:Bool) (z x k:AV) (K:AV→Prop):Prop:=q0k (q4e S M ok z x k) K
def exW (i:Nat) (x:AV) (K:AV→Prop):Prop:=q0k (extrA i x) K
def lnW (S:q00) (k:Nat) (x:AV) (K:AV→Prop):Prop:=q0k (lenA S (if k=0 then 0 else if k=1 then 1 else 2) x) K
def taW (t:Nat) (ok:Bool) (z x:AV) (K:AV→Prop):Prop:=q0k (asrtA t ok z x) K
def mxW (x y:AV) (K:AV→Prop):Prop:=q0k (max2A x y) K
def pkW (c a b:AV) (K:AV→Prop):Prop:=pickA c a b K
def alW (S:q00) (t:Nat) (zs:List AV) (K:AV→q00→Prop):Prop:=∀ b,sget S b=none→K (.ptr b 0) (supd S b (.cells t zs zs.length))
def bxW (S:q00) (t n:Nat) (x:AV) (K:AV→q00→Prop):Prop:=(q08 x).length=n∧notJ x=true∧∀ b,sget S b=none→K (.ptr b 0) (supd S b (.cells t (q08 x) n))
def brW (n:Nat) (x:AV) (K:AV→Prop):Prop:=(q08 x).length=n∧notJ x=true∧K (.rop (q08 x))
def bfW (n:Nat) (x:AV) (K:AV→Prop):Prop:=(q08 x).length=n∧ones (q08 x)=true∧K (.rop (q08 x))
def allV (sz:Nat):List AV→Prop
 | []=>True
 | x :: r=>(q08 x).length=sz∧notJ x=true∧allV sz r
def flatV:List AV→List AV
 | []=>[]
 | x :: r=>q08 x++flatV r
def bsW (S:q00) (t sz:Nat) (xs:List AV) (K:AV→q00→Prop):Prop:=allV sz xs∧∀ b,sget S b=none→K (.own b 0 xs.length xs.length) (supd S b (.cells t (flatV xs) (xs.length * sz)))
def srW (sz:Nat) (xs:List AV) (K:AV→Prop):Prop:=allV sz xs∧K (.sl sz (xs.map q08))
def mmW (S:q00) (M:Bool×List EK) (K:AV→q00→Prop):Prop:=∀ b,sget S b=none→K (.map (some b)) (supd S b (.map M [] 0))
def msW (S:q00) (t bytes:Nat) (z l c:AV) (K:AV→q00→Prop):Prop:=∃ n:Nat,l=.int .i64 n∧c=.int .i64 n∧n * bytes≤140737488355328 ∧
   ∀ b,sget S b=none→K (.own b 0 n n) (supd S b (.cells t (List.replicate n z) n))
def stW (S:q00) (n:Nat) (p v:AV) (K:q00→Prop):Prop:=q4k S n p v K
def muW (S:q00) (M:Bool×List EK) (m k v:AV) (K:q00→Prop):Prop:=mupdA S M m k v K
def meW (S:q00) (M:Bool×List EK) (z m k:AV) (K:AV→q00→Prop):Prop:=∃ b es clk,m=.map (some b)∧sget S b=some (.map M es clk)∧q0m M k=true ∧
   (match q0q es k with
    | some (i,v,bn)=>K (.tup [v,.int .i64 bn]) (supd S b (.map M (es.set i (k,v,bn)) clk))
    | none=>K (.tup [z,.int .i64 clk]) (supd S b (.map M (es++[(k,z,clk)]) (clk+1))))
def mtW (S:q00) (m s v:AV) (K:q00→Prop):Prop:=∃ b M es clk i kk vv,∃ bn:Nat,m=.map (some b)∧sget S b=some (.map M es clk)∧s=.int .i64 bn∧es.findIdx? (fun x=>x.2.2==bn)=some i∧es[i]?=some (kk,vv,bn) ∧
   K (supd S b (.map M (es.set i (kk,v,bn)) clk))
def mdW (S:q00) (M:Bool×List EK) (m k:AV) (K:q00→Prop):Prop:=∃ b es clk,m=.map (some b)∧sget S b=some (.map M es clk)∧q0m M k=true ∧
   K (supd S b (.map M (match q0q es k with
    | some (i,_)=>es.eraseIdx i
    | none=>es) clk))
def caW (P:Program) (S:q00) (f:AV) (xs:List AV) (K:AV→q00→Prop) (Qp:AV→q00→Prop):Prop:=∃ (fid:Nat) (fi ca:List AV) (Q:AEnd→q00→Prop),f=.func (.func fid) fi ca∧ACalls P fid (fi++xs++ca) S Q ∧
   ∀ ae S',Q ae S'→match ae with
    | .ret v=>K v S'
    | .pan v=>Qp v S'
def apW (S:q00) (t sz bytes:Nat) (s x:AV) (K:AV→q00→Prop):Prop:=appA S t sz bytes s x K
def cpW (S:q00) (sz:Nat) (d x:AV) (K:AV→q00→Prop):Prop:=∃ b off n cap t cs tot m news,d=.own b off n cap∧sget S b=some (.cells t cs tot)∧appX S sz x=some (m,news)∧off+min m n * sz≤cs.length∧ones (news.take (min m n * sz))=true ∧
   K (.int .i64 (min m n:Nat)) (supd S b (.cells t (q1j cs off (news.take (min m n * sz))) tot))
def paW (S:q00) (x:AV) (Qp:AV→q00→Prop):Prop:=∃ t v,x=.iface t v∧Qp x S
def xtW (o:XOp) (xs:List AV) (S:q00) (K:AV→q00→Prop):Prop:=xeff o xs S K
def fop (P:Program) (o:SOp) (d:Option Nat) (K:Env→q00→Prop) (Qp:AV→q00→Prop) (e:Env) (S:q00):Prop:=match o with
 | .mov x=>K (put e d (ev e x)) S
 | .pick c a b=>pkW (ev e c) (ev e a) (ev e b) fun v=>K (put e d v) S
 | .load n ag x=>ldW S n ag (ev e x) fun v=>K (put e d v) S
 | .nilck x=>nkW (ev e x) fun v=>K (put e d v) S
 | .bin o x y=>biW o (ev e x) (ev e y) fun v=>K (put e d v) S
 | .eqp neg M x y=>eqW neg M (ev e x) (ev e y) fun v=>K (put e d v) S
 | .eqnil neg x=>enW neg (ev e x) fun v=>K (put e d v) S
 | .not x=>ntW (ev e x) fun v=>K (put e d v) S
 | .conv k x=>cvW k (ev e x) fun v=>K (put e d v) S
 | .field off n ag x=>fdW off n ag (ev e x) fun v=>K (put e d v) S
 | .faddr off x=>faW off (ev e x) fun v=>K (put e d v) S
 | .iaddr sz x i=>iaW sz (ev e x) (ev e i) fun v=>K (put e d v) S
 | .idxs x i=>isW (ev e x) (ev e i) fun v=>K (put e d v) S
 | .idxa len sz ag x i=>ixW len sz ag (ev e x) (ev e i) fun v=>K (put e d v) S
 | .slics x lo hi=>ssW (ev e x) (lo.map (ev e)) (hi.map (ev e)) fun v=>K (put e d v) S
 | .slicl sz x lo hi=>slW sz (ev e x) (lo.map (ev e)) (hi.map (ev e)) fun v=>K (put e d v) S
 | .build zs ps=>bdW zs (ps.map fun p=>(p.1,p.2.1,ev e p.2.2)) fun v=>K (put e d v) S
 | .lookup M ok z x k=>lkW S M ok z (ev e x) (ev e k) fun v=>K (put e d v) S
 | .extr x i=>exW i (ev e x) fun v=>K (put e d v) S
 | .len k x=>lnW S k (ev e x) fun v=>K (put e d v) S
 | .mkf f xs ys=>K (put e d (.func f (xs.map (ev e)) (ys.map (ev e)))) S
 | .mki t x=>K (put e d (.iface t (ev e x))) S
 | .asrt t ok z x=>taW t ok z (ev e x) fun v=>K (put e d v) S
 | .max2 x y=>mxW (ev e x) (ev e y) fun v=>K (put e d v) S
 | .alloc t zs=>alW S t zs fun v S'=>K (put e d v) S'
 | .box t n x=>bxW S t n (ev e x) fun v S'=>K (put e d v) S'
 | .boxr _ n x=>brW n (ev e x) fun v=>K (put e d v) S
 | .bslice t sz xs=>bsW S t sz (xs.map (ev e)) fun v S'=>K (put e d v) S'
 | .bslicr _ sz xs=>srW sz (xs.map (ev e)) fun v=>K (put e d v) S
 | .mkmap M=>mmW S M fun v S'=>K (put e d v) S'
 | .mkslice t bytes z l c=>msW S t bytes z (ev e l) (ev e c) fun v S'=>K (put e d v) S'
 | .store n x v=>stW S n (ev e x) (ev e v) fun S'=>K (put e d q06) S'
 | .mupd M m k v=>muW S M (ev e m) (ev e k) (ev e v) fun S'=>K (put e d q06) S'
 | .ment M z m k=>meW S M z (ev e m) (ev e k) fun v S'=>K (put e d v) S'
 | .mst m s v=>mtW S (ev e m) (ev e s) (ev e v) fun S'=>K (put e d q06) S'
 | .mdel M m k=>mdW S M (ev e m) (ev e k) fun S'=>K (put e d q06) S'
 | .call f xs=>caW P S (ev e f) (xs.map (ev e)) (fun v S'=>K (put e d v) S') Qp
 | .app t sz bytes s x=>apW S t sz bytes (ev e s) (ev e x) fun v S'=>K (put e d v) S'
 | .copy sz y x=>cpW S sz (ev e y) (ev e x) fun v S'=>K (put e d v) S'
 | .panic x=>paW S (ev e x) Qp
 | .ext o xs=>xtW o (xs.map (ev e)) S fun v S'=>K (put e d v) S'
section
variable {P:Program} {K:Env→q00→Prop} {Qp:AV→q00→Prop} {e:Env} {S:q00} {d:Option Nat}
theorem buildV_eq {g:SX→AV}:∀ {ps:List (Nat×Nat×SX)} {cs:List AV},buildV (ps.map fun p=>(p.1,p.2.1,g p.2.2)) cs=q49 g ps cs
 | [],cs=>rfl
 | (off,n,x) :: r,cs=>by
  simp only [List.map_cons,buildV,q49]
  rw [buildV_eq (ps:=r)]
theorem allV_eq {g:SX→AV} {sz:Nat}:∀ {xs:List SX},allV sz (xs.map g)↔q7x g sz xs
 | []=>Iff.rfl
 | x :: r=>by
  simp only [List.map_cons,allV,q7x]
  rw [allV_eq (xs:=r)]
theorem flatV_eq {g:SX→AV}:∀ {xs:List SX},flatV (xs.map g)=q56 g xs
 | []=>rfl
 | x :: r=>by
  simp only [List.map_cons,flatV,q56]
  rw [flatV_eq (xs:=r)]
theorem fop_aeff {o:SOp} (h:fop P o d K Qp e S):aeff P o d K Qp e S:=by
 cases o
 case mov=>exact h
 case pick c a b=>rw [aeff_pick];exact h
 case load=>rw [aeff_load,qev_load];exact h
 case nilck=>rw [aeff_nilck,qev_nilck];exact h
 case bin=>exact h
 case eqp=>exact h
 case eqnil=>rw [aeff_eqnil,qev_eqnil];exact h
 case not=>rw [aeff_not,qev_not];exact h
 case conv=>rw [aeff_conv,qev_conv];exact h
 case field=>rw [aeff_field,qev_field];exact h
 case faddr=>rw [aeff_faddr,qev_faddr];exact h
 case iaddr=>rw [aeff_iaddr,qev_iaddr];exact h
 case idxs=>rw [aeff_idxs,qev_idxs];exact h
 case idxa=>rw [aeff_idxa,qev_idxa];exact h
 case slics=>rw [aeff_slics,qev_slics];exact h
 case slicl=>rw [aeff_slicl,qev_slicl];exact h
 case build zs ps=>rw [aeff_build,qev_build,← buildV_eq];exact h
 case lookup=>rw [aeff_lookup,qev_lookup];exact h
 case extr=>rw [aeff_extr,qev_extr];exact h
 case len k x=>
  rw [aeff_len]
  rcases k with _ | _ | k
  ·rw [qev_len0];exact h
  ·rw [qev_len1];exact h
  ·have:qev S (ev e) (.len (k+2) x)=qev S (ev e) (.len 2 x):=rfl
   rw [this,qev_len2]
   simp only [fop,lnW] at h
   rw [if_neg (by omega),if_neg (by omega)] at h
   exact h
 case mkf=>rw [aeff_mkf];exact h
 case mki=>rw [aeff_mki];exact h
 case asrt=>rw [aeff_asrt,qev_asrt];exact h
 case max2=>rw [aeff_max2,qev_max2];exact h
 case alloc=>exact h
 case box=>exact h
 case boxr=>exact h
 case bslice t sz xs=>
  simp only [fop,bsW,allV_eq,flatV_eq,List.length_map] at h
  exact h
 case bslicr t sz xs=>
  simp only [fop,srW,allV_eq,List.map_map] at h
  exact h
 case mkmap=>exact h
 case mkslice=>exact h
 case store=>rw [aeff_store];exact h
 case mupd=>rw [aeff_mupd];exact h
 case ment=>exact h
 case mst=>exact h
 case mdel=>exact h
 case call=>exact h
 case app=>rw [aeff_app];exact h
 case copy=>exact h
 case panic=>exact h
 case ext=>exact h
end
inductive TI where
 | one (s:SI)
 | box2 (d t:Nat) (zs:List AV) (n:Nat) (v:SX)
 | grp (t:Nat) (w:Bool) (l:List SI)
def grdS (t:Nat) (w:Bool) (s:SI):SI:={ s with g:=some (t,w) }
def flatI:List TI→List SI
 | []=>[]
 | .one s :: r=>s :: flatI r
 | .box2 d t zs n v :: r=>{ d:=some d,o:=.alloc t zs } :: { d:=none,o:=.store n (.t d) v } :: flatI r
 | .grp t w l :: r=>l.map (grdS t w)++flatI r
def isT:SX→Nat→Bool
 | .t n,d=>n==d
 | _,_=>false
def tiOk (b2:Bool):TI→Bool
 | .one s=>s.g.isNone
 | .box2 d _ zs n v=>b2&&zs.length==n&&!isT v d
 | .grp t _ l=>l.all fun s=>s.g.isNone&&s.d != some t
def KL (x:List AV) (S:q00) (K:Env→q00→Prop):Env→q00→Prop:=match x with
 | []=>K
 | y :: ys=>fun e' S'=>(∀ v∈y :: ys,∀ b,blk v=some b→sget S' b=sget S b)∧K e' S'
def oneW (P:Program) (s:SI) (K:Env→q00→Prop) (Qp:AV→q00→Prop) (e:Env) (S:q00):Prop:=fop P s.o s.d (KL (s.x.map e) S K) Qp e S
def gops (P:Program):List SI→(Env→q00→Prop)→(AV→q00→Prop)→Env→q00→Prop
 | [],K,_,e,S=>K e S
 | s :: r,K,Qp,e,S=>oneW P s (gops P r K Qp) Qp e S
def putsU:List SI→Env→Env
 | [],e=>e
 | s :: r,e=>putsU r (put e s.d q06)
def grW (v:AV) (w:Bool) (Y N:Prop):Prop:=match v with
 | .bool b=>(b=w→Y)∧(b=!w→N)
 | .tup []=>N
 | _=>False
def fops (P:Program):List TI→(Env→q00→Prop)→(AV→q00→Prop)→Env→q00→Prop
 | [],K,_,e,S=>K e S
 | .one s :: r,K,Qp,e,S=>oneW P s (fops P r K Qp) Qp e S
 | .box2 d _ _ n v :: r,K,Qp,e,S=>bfW n (ev e v) fun u=>fops P r K Qp (put e (some d) u) S
 | .grp t w l :: r,K,Qp,e,S=>grW (e t) w (gops P l (fops P r K Qp) Qp e S) (fops P r K Qp (putsU l e) S)
section
variable {P:Program} {K K':Env→q00→Prop} {Qp:AV→q00→Prop} {e:Env} {S:q00} {d:Option Nat}
theorem kl_kx {x:List Nat} {e':Env} {S':q00} (h:KL (x.map e) S K e' S'):KX x e S K e' S':=by
 rw [KX_iff]
 cases x with
 | nil=>exact ⟨fun t ht=>(by cases ht),h⟩
 | cons t x=>exact ⟨fun u hu=>h.1 (e u) (List.mem_map_of_mem (f:=e) hu),h.2⟩
theorem aeff_mono {o:SOp} (hK:∀ e' S',K e' S'→K' e' S') (h:aeff P o d K Qp e S):aeff P o d K' Qp e S:=
 aeff_to (fun _ _=>rfl) (fun _ _ _ h=>hK _ _ h) h
theorem q6j {s:SI} (hg:s.g=none) (hK:∀ e' S',K e' S'→K' e' S') (h:oneW P s K Qp e S):aop P s K' Qp e S:=by
 unfold aop
 rw [hg]
 refine aeff_mono (fun e' S' h1=>?_) (fop_aeff h)
 have h2:=KX_iff.1 (kl_kx h1)
 exact KX_iff.2 ⟨h2.1,hK _ _ h2.2⟩
theorem oneW_grd {s:SI} {t:Nat} {w:Bool} (hd:s.d≠some t) (ht:e t=.bool w) (hK:∀ e' S',e' t=.bool w→K e' S'→K' e' S') (h:oneW P s K Qp e S):aop P (grdS t w s) K' Qp e S:=by
 unfold aop grdS
 dsimp only
 rw [ht]
 dsimp only
 rw [if_pos rfl]
 refine aeff_to (fun _ _=>rfl) (fun u S' _ h1=>?_) (fop_aeff h)
 have h2:=KX_iff.1 (kl_kx h1)
 refine KX_iff.2 ⟨h2.1,hK _ _ ?_ h2.2⟩
 cases hsd:s.d with
 | none=>exact ht
 | some k=>
  have:k≠t:=fun h=>hd (by rw [hsd,h])
  simp only [put,q1h,if_neg this]
  exact ht
theorem put_ne {e:Env} {d:Option Nat} {t:Nat} {v:AV} (hd:d≠some t):put e d v t=e t:=by
 cases d with
 | none=>rfl
 | some k=>
  have:k≠t:=fun h=>hd (by rw [h])
  simp only [put,q1h,if_neg this]
theorem q6e {t:Nat} {w:Bool}:∀ (l:List SI),(∀ s∈l,s.d≠some t)→∀ {e:Env},(e t=.bool (!w)∨e t=.tup [])→∀ {r:List SI},aops P r K Qp (putsU l e) S→aops P (l.map (grdS t w)++r) K Qp e S
 | [],_,e,_,r,h=>h
 | s :: l,hl,e,he,r,h=>by
  have ih:=q6e (w:=w) l (fun s hs=>hl s (List.mem_cons_of_mem _ hs)) (e:=put e s.d q06) (by rw [put_ne (hl s (by simp))];exact he) h
  simp only [List.map_cons,List.cons_append,aops]
  unfold aop
  dsimp only [grdS]
  rcases he with he | he
  ·rw [he]
   dsimp only
   rw [if_neg (by cases w<;>simp)]
   exact ih
  ·rw [he]
   exact ih
theorem take_grd {t:Nat} {w:Bool}:∀ (l:List SI),(∀ s∈l,s.g.isNone=true∧s.d≠some t)→∀ {e:Env} {S:q00},e t=.bool w→∀ {r:List SI},gops P l (aops P r K Qp) Qp e S→aops P (l.map (grdS t w)++r) K Qp e S
 | [],_,e,S,_,r,h=>h
 | s :: l,hl,e,S,he,r,h=>oneW_grd (hl s (by simp)).2 he (fun e' S' he' hk=>take_grd l (fun s hs=>hl s (List.mem_cons_of_mem _ hs)) he' hk) h
theorem gops_mono (hK:∀ e S,K e S→K' e S):∀ (l:List SI) {e:Env} {S:q00},gops P l K Qp e S→gops P l K' Qp e S:=by
 intro l
 induction l with
 | nil=>exact fun h=>hK _ _ h
 | cons s l ih=>
  intro e S h
  have:∀ {o:SOp} {d:Option Nat} {K K':Env→q00→Prop},(∀ e S,K e S→K' e S)→fop P o d K Qp e S→fop P o d K' Qp e S:=by
   intro o d K K' hK h
   have sm:∀ {o:Option AV} {p q:AV→Prop},(∀ v,p v→q v)→q0k o p→q0k o q:=fun hpq h=>by
    unfold q0k at h ⊢
    split
    ·exact hpq _ h
    ·exact h
   cases o
   case mov=>exact hK _ _ h
   case pick=>
    simp only [fop,pkW,pickA] at h ⊢
    split at h
    ·exact hK _ _ h
    ·exact hK _ _ h
    ·exact h
   case mkf=>exact hK _ _ h
   case mki=>exact hK _ _ h
   case alloc=>exact fun b hb=>hK _ _ (h b hb)
   case box=>exact ⟨h.1,h.2.1,fun b hb=>hK _ _ (h.2.2 b hb)⟩
   case boxr=>exact ⟨h.1,h.2.1,hK _ _ h.2.2⟩
   case bslice=>exact ⟨h.1,fun b hb=>hK _ _ (h.2 b hb)⟩
   case bslicr=>exact ⟨h.1,hK _ _ h.2⟩
   case mkmap=>exact fun b hb=>hK _ _ (h b hb)
   case mkslice=>
    obtain ⟨n,h1,h2,h3,h4⟩:=h
    exact ⟨n,h1,h2,h3,fun b hb=>hK _ _ (h4 b hb)⟩
   case store=>
    simp only [fop,stW,q4k] at h ⊢
    split at h
    ·split at h
     ·exact ⟨h.1,h.2.1,h.2.2.1,hK _ _ h.2.2.2⟩
     ·exact h
    ·exact h
   case mupd=>
    simp only [fop,muW,mupdA] at h ⊢
    split at h
    ·split at h
     ·exact ⟨h.1,h.2.1,hK _ _ h.2.2⟩
     ·exact h
    ·exact h
   case ment=>
    obtain ⟨b,es,clk,h1,h2,h3,h4⟩:=h
    refine ⟨b,es,clk,h1,h2,h3,?_⟩
    split at h4
    ·exact hK _ _ h4
    ·exact hK _ _ h4
   case mst=>
    obtain ⟨b,M,es,clk,i,kk,vv,bn,h1,h2,h3,h4,h5,h6⟩:=h
    exact ⟨b,M,es,clk,i,kk,vv,bn,h1,h2,h3,h4,h5,hK _ _ h6⟩
   case mdel=>
    obtain ⟨b,es,clk,h1,h2,h3,h4⟩:=h
    exact ⟨b,es,clk,h1,h2,h3,hK _ _ h4⟩
   case call=>
    obtain ⟨fid,fi,ca,Q,h1,h2,h3⟩:=h
    refine ⟨fid,fi,ca,Q,h1,h2,fun ae S' hq=>?_⟩
    have:=h3 ae S' hq
    cases ae with
    | ret v=>exact hK _ _ this
    | pan v=>exact this
   case app=>
    obtain ⟨m,news,h1,h2,h3⟩:=h
    refine ⟨m,news,h1,h2,?_⟩
    split at h3
    ·refine ⟨h3.1,?_⟩
     have h4:=h3.2
     split at h4
     ·exact (if_pos ‹_›).mpr (hK _ _ h4)
     ·exact (if_neg ‹_›).mpr fun b cap h5 h6 h7=>hK _ _ (h4 b cap h5 h6 h7)
    ·obtain ⟨cs,h4,h5,h6,h7,h8,h9⟩:=h3
     exact ⟨cs,h4,h5,h6,h7,h8,fun b' cap' k1 k2 k3=>hK _ _ (h9 b' cap' k1 k2 k3)⟩
    ·exact h3
   case copy=>
    obtain ⟨b,off,n,cap,t,cs,tot,m,news,h1,h2,h3,h4,h5,h6⟩:=h
    exact ⟨b,off,n,cap,t,cs,tot,m,news,h1,h2,h3,h4,h5,hK _ _ h6⟩
   case panic=>exact h
   case ext=>exact xeff_mono (fun v S'=>hK _ _) h
   all_goals exact sm (fun v hv=>hK _ _ hv) h
  refine this (fun e' S' h1=>?_) h
  generalize s.x.map e=y at h1 ⊢
  cases y with
  | nil=>exact ih h1
  | cons t y=>exact ⟨h1.1,ih h1.2⟩
theorem q54:∀ {l:List TI},l.all (tiOk false)=true→∀ {e:Env} {S:q00},fops P l K Qp e S→aops P (flatI l) K Qp e S
 | [],_,e,S,h=>h
 | .one s :: r,hok,e,S,h=>by
  simp only [List.all_cons,Bool.and_eq_true,tiOk,Option.isNone_iff_eq_none] at hok
  exact q6j hok.1 (fun e' S' h=>q54 hok.2 h) h
 | .box2 d t zs n v :: r,hok,e,S,h=>by simp [tiOk] at hok
 | .grp t w l :: r,hok,e,S,h=>by
  simp only [List.all_cons,Bool.and_eq_true] at hok
  obtain ⟨h1,h2⟩:=hok
  simp only [tiOk,List.all_eq_true,Bool.and_eq_true,bne_iff_ne,ne_eq] at h1
  simp only [fops,grW] at h
  split at h
  ·rename_i b hb
   by_cases hw:b=w
   ·subst hw
    exact take_grd l h1 hb (gops_mono (fun e S h=>q54 h2 h) l (h.1 rfl))
   ·have hw':b=!w:=by revert hw;cases b<;>cases w<;>simp
    exact q6e l (fun s hs=>(h1 s hs).2) (.inl (by rw [hb,hw'])) (q54 h2 (h.2 hw'))
  ·rename_i hb
   exact q6e l (fun s hs=>(h1 s hs).2) (.inr hb) (q54 h2 h)
  ·exact h.elim
theorem Shift.frz {t b tt tot:Nat} {cs:List AV} (hb:sget S b=some (.cells tt cs tot)) (he:e t=.ptr b 0):Shift e S (eupd e t (.rop cs)) (sdel S b):=fun R w tmps hs hE=>by
 obtain ⟨x,hx,hro⟩:=hs.own b _ hb
 refine ⟨fun k=>R k∨k=b,⟨fun c o hc=>?_,fun c hc=>?_⟩,fun k=>?_,⟨Nat.le_refl _,rfl,rfl,rfl,fun k _ hk=>⟨rfl,?_⟩,fun k hk=>.inl hk,fun k hk=>?_⟩⟩
 ·rw [q0a] at hc
  split at hc
  ·cases hc
  ·obtain ⟨y,h1,h2⟩:=hs.own c o hc
   exact ⟨y,h1,h2.step (fun k hk=>.inl hk) (fun k hk=>rfl)⟩
 ·rcases hc with hc | rfl
  ·refine ⟨?_,(hs.ro c hc).2⟩
   rw [q0a]
   split
   ·rfl
   ·exact (hs.ro c hc).1
  ·refine ⟨by rw [q0a,if_pos rfl],hs.lt hb⟩
 ·have hk:=hE k
  unfold eget at hk ⊢
  rw [q1h]
  by_cases hkt:t=k
  ·subst hkt
   rw [if_pos rfl]
   rw [he] at hk
   generalize tmps.getD t undef=u at hk
   cases hk
   cases hro with
   | cells _ _ arr vs hv hvs=>
    refine .rop ⟨b,0,none⟩ cs (fun i=>vs.getD i undef) (fun _=>.inr rfl) (fun i hi=>?_) (fun i u hu=>(hvs.step (fun k hk=>.inl hk) (fun k hk=>rfl)).2 i u hu)
    rw [q4j]
    unfold World.cell?
    dsimp only
    rw [hx]
    have hlen:=hvs.1
    have h3:i<vs.length:=by rw [← hlen];exact hi
    have h4:arr[i]?=some (vs.getD i undef):=by
     have h5:vs[i]?=(arr.toList.take cs.length)[i]?:=by rw [hv]
     rw [List.getElem?_take,if_pos hi] at h5
     rw [List.getD_eq_getElem?_getD,List.getElem?_eq_getElem h3,Option.getD_some]
     rw [List.getElem?_eq_getElem h3] at h5
     simpa using h5.symm
    simp [h4]
  ·rw [if_neg hkt]
   exact hk.step (fun k hk=>.inl hk) (fun k hk=>rfl)
 ·rw [q0a]
  split
  ·rfl
  ·exact hk
 ·rcases hk with hk | rfl
  ·exact .inl hk
  ·exact .inr (.inl (by rw [hb];simp))
theorem q2n {b:Nat} {o:AObj} (hb:sget S b=none):sdel (supd S b o) b=S:=by
 funext c
 simp only [sdel,supd]
 split
 ·rename_i h;subst h;exact hb.symm
 ·rfl
theorem eupd_eupd {t:Nat} {u v:AV}:eupd (eupd e t u) t v=eupd e t v:=by
 funext k
 simp only [q1h]
 split<;>rfl
theorem q47:∀ (vs cs:List AV) (off:Nat),off+vs.length=cs.length→q1j cs off vs=cs.take off++vs
 | [],cs,off,h=>by simp only [q1j,List.append_nil];rw [List.take_of_length_le (by simp at h;omega)]
 | v :: r,cs,off,h=>by
  simp only [List.length_cons] at h
  rw [q1j,q47 r _ _ (by simp;omega)]
  have h1:off<cs.length:=by omega
  apply List.ext_getElem?
  intro i
  rcases Nat.lt_trichotomy i off with hi | hi | hi
  ·rw [List.getElem?_append_left (by simp;omega),List.getElem?_append_left (by simp;omega),List.getElem?_take,List.getElem?_take,if_pos (by omega),if_pos hi,List.getElem?_set_ne (by omega)]
  ·subst hi
   rw [List.getElem?_append_left (by simp;omega),List.getElem?_append_right (by simp;omega),List.getElem?_take,if_pos (by omega),List.getElem?_set_self (by omega)]
   simp [Nat.min_eq_left (Nat.le_of_lt h1)]
  ·rw [List.getElem?_append_right (by simp;omega),List.getElem?_append_right (by simp;omega)]
   simp only [List.length_take,List.length_set]
   have e1:i-min off cs.length=(i-min (off+1) cs.length)+1:=by omega
   rw [e1]
   simp
end
section
variable {P:Program} {R:Nat→Prop} {S:q00} {w:World} {a:Act} {N:Nat} {K:Env→q00→Prop} {Qp:AV→q00→Prop} {Qc:Exit→Act→World→Prop}
def Sem (P:Program) (R:Nat→Prop) (S:q00) (w:World) (a:Act) (N:Nat) (ops:Array Oper) (Qc:Exit→Act→World→Prop) (lo:List Oper):Env→q00→Prop:=
 fun e' S'=>∀ R1 w1 a1,Rel R S w a N R1 S' w1 e' a1→wpList P ops Qc lo a1 w1
theorem q8p (hP:Post R S w a N K Qp Qc) {ops:Array Oper} {s:SI} {o:Oper} {lo:List Oper} (hok:siOk P N ops s o=true) {e:Env} {S1:q00} (h:aop P s (Sem P R S w a N ops Qc lo) Qp e S1):Sem P R S w a N ops Qc (o :: lo) e S1:=fun R1 w1 a1 hr=>by
 have h1:=q4a (Qc:=Qc) hr.sim hr.env hr.size hok h (hP.qc hr)
 have hrest:∀ a' w',KC R1 S1 w1 a1 N (Sem P R S w a N ops Qc lo) a' w'→wpList P ops Qc lo a' w':=fun a' w' ⟨R',S',e',hK,hr'⟩=>hK _ _ _ (hr.trans hr')
 unfold wpList
 split
 ·rename_i hw
  rw [if_pos hw] at h1
  exact .inl (Oper.wp_mono hrest h1)
 ·rename_i hw
  rw [if_neg hw] at h1
  exact hrest _ _ h1
theorem q8q (hP:Post R S w a N K Qp Qc) {ops:Array Oper} {rest:List Oper}:∀ (l:List SI) (lo:List Oper),q3e P N ops l lo=true→∀ {e:Env} {S1:q00},aops P l (Sem P R S w a N ops Qc rest) Qp e S1→Sem P R S w a N ops Qc (lo++rest) e S1
 | [],[],_,e,S1,h=>h
 | s :: l,o :: lo,hok,e,S1,h=>by
  simp only [q3e,Bool.and_eq_true] at hok
  exact q8p hP hok.1 (q93 (fun e' S' h=>q8q hP l lo hok.2 h) h)
 | [],_ :: _,hok,_,_,_=>by cases hok
 | _ :: _,[],hok,_,_,_=>by cases hok
theorem sisOk_split {ops:Array Oper}:∀ (l r:List SI) (lo:List Oper),q3e P N ops (l++r) lo=true→∃ x y,lo=x++y∧q3e P N ops l x=true∧q3e P N ops r y=true
 | [],r,lo,h=>⟨[],lo,rfl,rfl,h⟩
 | s :: l,r,[],h=>by cases h
 | s :: l,r,o :: lo,h=>by
  simp only [List.cons_append,q3e,Bool.and_eq_true] at h
  obtain ⟨x,y,h1,h2,h3⟩:=sisOk_split l r lo h.2
  exact ⟨o :: x,y,by rw [h1];rfl,by simp only [q3e,Bool.and_eq_true];exact ⟨h.1,h2⟩,h3⟩
theorem q5h (hP:Post R S w a N K Qp Qc) {ops:Array Oper}:∀ (l:List TI),l.all (tiOk true)=true→∀ (lo:List Oper),q3e P N ops (flatI l) lo=true→∀ {e:Env} {S1:q00},fops P l K Qp e S1→Sem P R S w a N ops Qc lo e S1
 | [],_,[],_,e,S1,h=>fun R1 w1 a1 hr=>hP.norm _ _ _ _ _ h hr
 | [],_,_ :: _,hok,_,_,_=>by cases hok
 | .one s :: r,ht,[],hok,_,_,_=>by cases hok
 | .one s :: r,ht,o :: lo,hok,e,S1,h=>by
  simp only [List.all_cons,Bool.and_eq_true,tiOk,Option.isNone_iff_eq_none] at ht
  simp only [flatI,q3e,Bool.and_eq_true] at hok
  exact q8p hP hok.1 (q6j ht.1 (fun e' S' h=>q5h hP r ht.2 lo hok.2 h) h)
 | .box2 d t zs n v :: r,ht,[],hok,_,_,_=>by cases hok
 | .box2 d t zs n v :: r,ht,[o],hok,_,_,_=>by simp [flatI,q3e] at hok
 | .box2 d t zs n v :: r,ht,o :: o' :: lo,hok,e,S1,h=>by
  simp only [List.all_cons,Bool.and_eq_true,tiOk,beq_iff_eq,Bool.not_eq_true',Bool.true_and] at ht
  simp only [flatI,q3e,Bool.and_eq_true] at hok
  obtain ⟨h1,h2,h3⟩:=h
  have hv:∀ u,ev (put e (some d) u) v=ev e v:=fun u=>by
   cases v with
   | t k=>
    have:¬ k=d:=by simpa [isT] using ht.1.2
    simp only [ev,eget,put,q1h,if_neg (Ne.symm this)]
   | c v=>rfl
   | f k=>rfl
  refine q8p hP hok.1 ?_
  show aeff P (.alloc t zs) (some d) _ Qp e S1
  intro b hb
  refine q8p hP hok.2.1 ?_
  show aeff P (.store n (.t d) v) none _ Qp _ _
  refine ⟨b,0,t,zs,zs.length,by simp only [ev,eget,put,q1h,if_true],by rw [q01,if_pos rfl],by rw [hv];exact h1,by omega,by rw [hv];exact h2,?_⟩
  rw [hv,q47 _ _ _ (by omega)]
  intro R1 w1 a1 hr
  have hsh:=Shift.frz (e:=put e (some d) (.ptr b 0)) (S:=supd (supd S1 b (.cells t zs zs.length)) b (.cells t (zs.take 0++q08 (ev e v)) zs.length)) (t:=d) (b:=b) (tt:=t) (cs:=zs.take 0++q08 (ev e v)) (tot:=zs.length)
   (by rw [q01,if_pos rfl]) (by simp only [put,q1h,if_true])
  obtain ⟨R',hr'⟩:=Shift.kc hr hsh
  rw [q0u,q2n hb] at hr'
  simp only [put,eupd_eupd,List.take_zero,List.nil_append] at hr'
  exact q5h hP r ht.2 lo hok.2.2 h3 R' w1 a1 hr'
 | .grp t w' l :: r,ht,lo,hok,e,S1,h=>by
  simp only [List.all_cons,Bool.and_eq_true] at ht
  obtain ⟨h1,h2⟩:=ht
  simp only [tiOk,List.all_eq_true,Bool.and_eq_true,bne_iff_ne,ne_eq] at h1
  simp only [flatI] at hok
  obtain ⟨x,y,rfl,k1,k2⟩:=sisOk_split _ _ _ hok
  simp only [fops,grW] at h
  have hnil:∀ {e S'},Sem P R S w a N ops Qc y e S'→aops P [] (Sem P R S w a N ops Qc y) Qp e S':=fun h=>h
  split at h
  ·rename_i b hb
   by_cases hw:b=w'
   ·subst hw
    have:=take_grd (P:=P) (K:=Sem P R S w a N ops Qc y) (Qp:=Qp) (r:=[]) l h1 hb (gops_mono (fun e S h=>q5h hP r h2 y k2 h) l (h.1 rfl))
    rw [List.append_nil] at this
    exact q8q hP _ _ k1 this
   ·have hw':b=!w':=by revert hw;cases b<;>cases w'<;>simp
    have:=q6e (P:=P) (K:=Sem P R S w a N ops Qc y) (Qp:=Qp) (S:=S1) (w:=w') (r:=[]) l (fun s hs=>(h1 s hs).2) (.inl (by rw [hb,hw'])) (hnil (q5h hP r h2 y k2 (h.2 hw')))
    rw [List.append_nil] at this
    exact q8q hP _ _ k1 this
  ·rename_i hb
   have:=q6e (P:=P) (K:=Sem P R S w a N ops Qc y) (Qp:=Qp) (S:=S1) (w:=w') (r:=[]) l (fun s hs=>(h1 s hs).2) (.inr hb) (hnil (q5h hP r h2 y k2 h))
   rw [List.append_nil] at this
   exact q8q hP _ _ k1 this
  ·exact h.elim
end
inductive q4b where
 | skip
 | reg (l:List TI) (keep frz:List Nat)
 | regl (ixs:List Nat) (l:List TI) (keep frz:List Nat)
 | regd (sis:List SI) (p:Plan) (keep frz:List Nat)
 | seq (a b:q4b)
 | cond (x:SX) (a b:q4b)
 | block (id:Nat) (c:q4b)
 | loop (ks:List Nat) (c:q4b)
 | exit (id:Nat)
 | ret
 deriving Inhabited
def toS:q4b→q64
 | .skip=>.skip
 | .reg l k _=>.reg (flatI l) k
 | .regl ixs l k _=>.regl ixs (flatI l) k
 | .regd sis p k _=>.regd sis p k
 | .seq a b=>.seq (toS a) (toS b)
 | .cond x a b=>.cond x (toS a) (toS b)
 | .block id c=>.block id (toS c)
 | .loop _ c=>.loop (toS c)
 | .exit id=>.exit id
 | .ret=>.ret
def tcOk:q4b→Bool
 | .reg l _ _=>l.all (tiOk true)
 | .regl _ l _ _=>l.all (tiOk false)
 | .regd sis _ _ _=>sis.all fun s=>s.g.isNone
 | .seq a b=>tcOk a&&tcOk b
 | .cond _ a b=>tcOk a&&tcOk b
 | .block _ c=>tcOk c
 | .loop _ c=>tcOk c
 | _=>true
def lset (l:LE) (t:Nat) (v:AV):LE:=l.map fun p=>bif p.1==t then (t,v) else p
def fzW (S:q00) (v:AV) (K:AV→q00→Prop):Prop:=match v with
 | .ptr b 0=>match q0i S b with
  | some (_,cs,_)=>K (.rop cs) (sdel S b)
  | none=>False
 | _=>False
def frzL:List Nat→(LE→q00→Prop)→LE→q00→Prop
 | [],n,l,S=>n l S
 | t :: ts,n,l,S=>fzW S (lget l t) fun v S'=>frzL ts n (lset l t v) S'
def cnW (v:AV) (Y N:Prop):Prop:=match v with
 | .bool b=>(b=true→Y)∧(b=false→N)
 | _=>False
def rcW (r:LE→q00→Prop) (l:LE) (S:q00):Prop:=∃ l' S',Shift (lget l) S (lget l') S'∧r l' S'
def LoopP (F:(LE→q00→Prop)→LE→q00→Prop) (l:LE) (S:q00):Prop:=
 ∃ (I:Nat→LE→q00→Prop) (n:Nat),rcW (I n) l S∧∀ n l S,I n l S→F (fun l' S'=>∃ m,m<n∧I m l' S') l S
def dopW (P:Program) (sis:List SI) (K:Env→q00→Prop) (Qp:AV→q00→Prop):Plan→Env→q00→Prop
 | .done,e,S=>K e S
 | .go i p,e,S=>match sis[i]? with
  | some s=>oneW P s (dopW P sis K Qp p) Qp e S
  | none=>False
 | .alt i p q,e,S=>(match sis[i]? with
  | some s=>oneW P s (dopW P sis K Qp p) Qp e S
  | none=>False)∧dopW P sis K Qp q e S
def swp (P:Program):q4b→(LE→q00→Prop)→(Nat→LE→q00→Prop)→(LE→q00→Prop)→(AV→q00→Prop)→LE→q00→Prop
 | .skip,n,_,_,_,l,S=>n l S
 | .reg ts keep frz,n,_,_,p,l,S=>fops P ts (fun e S'=>frzL frz n (q46 keep e) S') p (lget l) S
 | .regl _ ts keep frz,n,_,_,p,l,S=>fops P ts (fun e S'=>frzL frz n (q46 keep e) S') p (lget l) S
 | .regd sis pl keep frz,n,_,_,p,l,S=>dopW P sis (fun e S'=>frzL frz n (q46 keep e) S') p pl (lget l) S
 | .seq a b,n,x,r,p,l,S=>swp P a (fun l S=>swp P b n x r p l S) x r p l S
 | .cond c a b,n,x,r,p,l,S=>cnW (ev (lget l) c) (swp P a n x r p l S) (swp P b n x r p l S)
 | .block id c,n,x,r,p,l,S=>swp P c n (fun i l S=>bif i==id then n l S else x i l S) r p l S
 | .loop ks c,n,x,r,p,l,S=>LoopP (fun rec l S=>swp P c (fun l' S'=>rcW rec (q46 ks (lget l')) S') x r p l S) (q46 ks (lget l)) S
 | .exit id,_,x,_,_,l,S=>x id l S
 | .ret,_,_,r,_,l,S=>r l S
section
variable {P:Program} {N:Nat} {S:q00}
theorem lget_lset {l:LE} {t k:Nat} {v:AV}:lget (lset l t v) k=eupd (lget l) t v k∨lget (lset l t v) k=.junk:=by
 induction l with
 | nil=>exact .inr rfl
 | cons p r ih=>
  obtain ⟨q,u⟩:=p
  have:lset ((q,u) :: r) t v=(bif q==t then (t,v) else (q,u)) :: lset r t v:=rfl
  rw [this]
  rw [q1h] at ih ⊢
  by_cases hq:q=t
  ·subst hq
   simp only [beq_self_eq_true,cond_true,q7k]
   by_cases hk:q=k
   ·simp only [if_pos hk];exact .inl trivial
   ·simp only [if_neg hk] at ih ⊢;exact ih
  ·have hb:(q==t)=false:=by simpa using hq
   simp only [hb,cond_false,q7k]
   by_cases hk:q=k
   ·subst hk;simp only [if_true,if_neg (Ne.symm hq)];exact .inl trivial
   ·simp only [if_neg hk];exact ih
theorem Shift.lset {l:LE} {S':q00} {t:Nat} {v:AV} (h:Shift (lget l) S (eupd (lget l) t v) S'):Shift (lget l) S (lget (lset l t v)) S':=fun R w tmps hs he=>by
 obtain ⟨R',h1,h2,h3⟩:=h R w tmps hs he
 refine ⟨R',h1,fun k=>?_,h3⟩
 have hk:=h2 k
 unfold eget at hk ⊢
 rcases lget_lset (l:=l) (t:=t) (k:=k) (v:=v) with hl | hl
 ·rw [hl];exact hk
 ·rw [hl];exact .junk _
theorem frzL_shift:∀ {ts:List Nat} {n:LE→q00→Prop} {l:LE} {S:q00},frzL ts n l S→∃ l' S',Shift (lget l) S (lget l') S'∧n l' S'
 | [],n,l,S,h=>⟨l,S,Shift.refl _ _,h⟩
 | t :: ts,n,l,S,h=>by
  unfold frzL fzW at h
  split at h
  ·rename_i b hv
   split at h
   ·rename_i tt cs tot ho
    obtain ⟨l',S',h1,h2⟩:=frzL_shift h
    exact ⟨l',S',(Shift.lset (Shift.frz (objAt_some.1 ho) hv)).trans h1,h2⟩
   ·exact h.elim
  ·exact h.elim
theorem post_frz {Q:APost} {n:LE→q00→Prop} {p:AV→q00→Prop} (hn:∀ l S,n l S→Q.norm (lget l) S) (hp:∀ u S,p u S→Q.pan u S) {R:Nat→Prop} {w:World} {a:Act} (keep frz:List Nat) :
  Post R S w a N (fun e S'=>frzL frz n (q46 keep e) S') p (PostOf R S w a N Q):=
 ⟨fun R' S' w' e' a' hK hr=>by
  obtain ⟨l',S'',h1,h2⟩:=frzL_shift hK
  have hr1:Rel R S w a N R' S' w' (lget (q46 keep e')) a':=⟨hr.sim,hr.env.keep keep,hr.step,hr.defers,hr.size⟩
  obtain ⟨R'',hr2⟩:=Shift.kc hr1 h1
  exact ⟨R'',S'',_,hn _ _ h2,hr2⟩,fun u v R' S' w' a' hq hv hr=>⟨R',S',u,hp _ _ hq,hv,hr⟩⟩
theorem q91 {sis:List SI} (hg:(sis.all fun s=>s.g.isNone)=true) {K:Env→q00→Prop} {Qp:AV→q00→Prop}:∀ {p:Plan} {e:Env} {S:q00},dopW P sis K Qp p e S→dwp P sis K Qp p e S
 | .done,e,S,h=>h
 | .go i p,e,S,h=>by
  unfold dopW at h
  unfold dwp
  split at h
  ·rename_i s hs
   rw [hs]
   simp only [List.all_eq_true] at hg
   exact q6j (by simpa using hg s (List.mem_of_getElem? hs)) (fun e' S' h=>q91 (by simpa using hg) h) h
  ·exact h.elim
 | .alt i p q,e,S,h=>by
  unfold dopW at h
  unfold dwp
  obtain ⟨h,h'⟩:=h
  refine ⟨?_,q91 hg h'⟩
  split at h
  ·rename_i s hs
   rw [hs]
   simp only [List.all_eq_true] at hg
   exact q6j (by simpa using hg s (List.mem_of_getElem? hs)) (fun e' S' h=>q91 (by simpa using hg) h) h
  ·exact h.elim
theorem q6c:∀ {c:q4b},tcOk c=true→∀ {n:LE→q00→Prop} {x:Nat→LE→q00→Prop} {r:LE→q00→Prop} {p:AV→q00→Prop} {l:LE} {S:q00} {Q:APost},
  (∀ l S,n l S→Q.norm (lget l) S)→(∀ i l S,x i l S→Q.exit i (lget l) S)→(∀ l S,r l S→Q.ret (lget l) S)→(∀ u S,p u S→Q.pan u S)→swp P c n x r p l S→Aw P N (toS c) Q (lget l) S:=by
 intro c
 induction c with
 | skip=>intro _ n x r p l S Q hn hx hr hp h;exact Aw.skip (hn _ _ h)
 | exit id=>intro _ n x r p l S Q hn hx hr hp h;exact Aw.exit (hx _ _ _ h)
 | ret=>intro _ n x r p l S Q hn hx hr hp h;exact Aw.ret (hr _ _ h)
 | reg ts keep frz=>
  intro hok n x r p l S Q hn hx hr hp h c hc R w a hs he hsz
  cases c<;>first | (cases hc;done) | skip
  rename_i id ops d
  cases d<;>simp only [toS,q2i,Bool.not_true,Bool.false_and,Bool.not_false,Bool.true_and,Bool.false_eq_true] at hc
  exact wp_region_list (q5h (post_frz hn hp keep frz) ts hok ops.toList hc h R w a (Rel.refl hs he hsz))
 | regl ixs ts keep frz=>
  intro hok n x r p l S Q hn hx hr hp h c hc R w a hs he hsz
  cases c<;>first | (cases hc;done) | skip
  rename_i id ops d
  cases d<;>simp only [toS,q2i,Bool.false_and,Bool.true_and,Bool.false_eq_true,Bool.and_eq_true] at hc
  have hl:=hc.1
  simp only [linOk,Bool.and_eq_true,beq_iff_eq] at hl
  exact draw_sound (post_frz hn hp keep frz) hc.2 (Rel.refl hs he hsz) (dwp_lin hl.1.1 (fun k i s h1 h2=>sisAt_get hc.1 h1 h2) (q54 hok h))
 | regd sis pl keep frz=>
  intro hok n x r p l S Q hn hx hr hp h c hc R w a hs he hsz
  cases c<;>first | (cases hc;done) | skip
  rename_i id ops d
  cases d<;>simp only [toS,q2i,Bool.false_and,Bool.true_and,Bool.false_eq_true,Bool.and_eq_true] at hc
  exact draw_sound (post_frz hn hp keep frz) hc (Rel.refl hs he hsz) (q91 hok h)
 | seq c d ih1 ih2=>
  intro hok n x r p l S Q hn hx hr hp h
  simp only [tcOk,Bool.and_eq_true] at hok
  exact Aw.seq (ih1 hok.1 (fun l S h=>ih2 hok.2 hn hx hr hp h) hx hr hp h)
 | cond c d e ih1 ih2=>
  intro hok n x r p l S Q hn hx hr hp h
  simp only [tcOk,Bool.and_eq_true] at hok
  refine Aw.cond ?_
  simp only [swp,cnW] at h
  unfold condA
  split at h
  ·rename_i b hb
   rw [hb]
   exact ⟨fun k=>ih1 hok.1 hn hx hr hp (h.1 k),fun k=>ih2 hok.2 hn hx hr hp (h.2 k)⟩
  ·exact h.elim
 | block id c ih=>
  intro hok n x r p l S Q hn hx hr hp h
  refine Aw.block (ih hok hn (fun i l S h=>?_) hr hp h)
  dsimp only at h ⊢
  by_cases hi:i=id
  ·rw [if_pos hi];subst hi;simp only [beq_self_eq_true,cond_true] at h;exact hn _ _ h
  ·rw [if_neg hi]
   have:(i==id)=false:=by simpa using hi
   simp only [this,cond_false] at h
   exact hx _ _ _ h
 | loop ks c ih=>
  intro hok n x r p l S Q hn hx hr hp h
  obtain ⟨I,m,h0,hI⟩:=h
  refine Aw.loop (fun m e S=>∃ l' S',Shift e S (lget l') S'∧I m l' S') m ?_ ?_
  ·obtain ⟨l',S',h1,h2⟩:=h0
   exact ⟨l',S',(Shift.keep ks).trans h1,h2⟩
  ·rintro m e S ⟨l',S',h1,h2⟩
   refine Aw.shift h1 (ih hok (fun l S h=>?_) hx hr hp (hI m l' S' h2))
   obtain ⟨l'',S'',h3,k,h4,h5⟩:=h
   exact ⟨k,h4,l'',S'',(Shift.keep ks).trans h3,h5⟩
end
inductive RW where
 | tmp (v:AV)
 | cell (v:AV) (n:Nat) (ag:Bool)
def resW (S:q00):RW→Option AV
 | .tmp v=>some v
 | .cell v n ag=>(cellsOf S v).bind (mkA ag n)
def q3o (S:q00):List RW→Option (List AV)
 | []=>some []
 | r :: rs=>match resW S r,q3o S rs with
  | some v,some vs=>some (v :: vs)
  | _,_=>none
def toRW (e:Env):RVar→RW
 | .tmp t=>.tmp (e t)
 | .cell t n ag=>.cell (e t) n ag
def rtW (rs:List RW) (QF:AEnd→q00→Prop) (S:q00):Prop:=someL (q3o S rs) fun vs=>∃ v' S',ShV (tupA vs) S v' S'∧QF (.ret v') S'
structure TFunc where
 n:Nat
 args:Nat
 res:List RVar
 code:q4b
def TFunc.toS (F:TFunc):SFunc:=⟨F.n,F.args,F.res,Go.HL.toS F.code⟩
def pqW (QF:AEnd→q00→Prop):AV→q00→Prop:=fun u S=>QF (.pan u) S
def swpF (P:Program) (F:TFunc) (QF:AEnd→q00→Prop) (args:List AV) (S:q00):Prop:=
 swp P F.code (fun l S=>rtW (F.res.map (toRW (lget l))) QF S) (fun _ _ _=>False) (fun l S=>rtW (F.res.map (toRW (lget l))) QF S) (pqW QF) (q4t args) S
theorem resWs_eq {S:q00} {e:Env}:∀ {rs:List RVar},q3o S (rs.map (toRW e))=resVs S e rs
 | []=>rfl
 | r :: rs=>by
  simp only [List.map_cons,q3o,resVs,resWs_eq (rs:=rs)]
  have:resW S (toRW e r)=resV S e r:=by
   cases r with
   | tmp t=>rfl
   | cell t n ag=>
    simp only [toRW,resW,resV]
    cases cellsOf S (e t)<;>rfl
  rw [this]
  rfl
theorem rtW_ret {rs:List RVar} {QF:AEnd→q00→Prop} {l:LE} {S:q00} (h:rtW (rs.map (toRW (lget l))) QF S):RetA rs QF (lget l) S:=by
 unfold rtW at h
 rw [resWs_eq] at h
 unfold RetA
 unfold someL at h
 split at h
 ·rename_i vs hvs
  rw [hvs]
  exact h
 ·exact h.elim
def tfOk (P:Program) (f:Nat) (F:TFunc):Bool:=tcOk F.code&&funcOk P f F.toS
theorem acalls_tf {P:Program} {f:Nat} {F:TFunc} (hok:tfOk P f F=true) {args:List AV} (ha:args.length=F.args) {QF:AEnd→q00→Prop} {S:q00} {B:Prop} (hB:swpF P F QF args S=B) (h:B):ACalls P f args S QF:=by
 subst hB
 simp only [tfOk,Bool.and_eq_true] at hok
 exact acalls_of hok.2 ha (q6c hok.1 (fun l S h=>rtW_ret h) (fun i l S h=>h.elim) (fun l S h=>rtW_ret h) (fun u S h=>h) h)
attribute [irreducible] LoopP
end Go.HL
