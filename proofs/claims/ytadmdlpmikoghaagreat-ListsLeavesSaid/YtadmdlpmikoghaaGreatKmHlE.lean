/- A part of a proof. -/
import Derived.Test.YtadmdlpmikoghaaGreatKmHlD
set_option linter.unusedSimpArgs false
set_option linter.unusedVariables false
namespace Go.HL
inductive AEnd where
 | ret (v:AV)
 | pan (v:AV)
def EndR (R:Nat→Prop) (w:World):AEnd→Ending→Prop
 | .ret u,.returned v=>RV R w u v
 | .pan u,.panicked [⟨v,false,false⟩]=>RV R w u v
 | _,_=>False
def q6y (P:Program) (f:Nat):Bool:=match P.funcs[f]? with
 | some fn => !(fn.name == "runtime.NumGoroutine") && fn.body.isSome
 | none=>false
def CallsX (P:Program) (f:Nat) (vs:Array Value) (w:World) (R:Ending→World→Prop):Prop:=
 (q6y P f=true∧Calls P f vs w R)∨∃ v w',(callFunc f vs).run P w=.ok (.value v) w'∧R (.returned v) w'
theorem CallsX.mono {P:Program} {f:Nat} {vs:Array Value} {w:World} {R R':Ending→World→Prop} (h:CallsX P f vs w R) (hr:∀ e w',R e w'→R' e w'):CallsX P f vs w R':=by
 rcases h with ⟨h1,h2⟩ | ⟨v,w',h1,h2⟩
 ·exact .inl ⟨h1,h2.mono hr⟩
 ·exact .inr ⟨v,w',h1,hr _ _ h2⟩
def ACalls (P:Program) (f:Nat) (args:List AV) (S:q00) (Q:AEnd→q00→Prop):Prop:=
 ∀ (R:Nat→Prop) (w:World) (vs:Array Value),Sim R S w→RVs R w args vs.toList →
  CallsX P f vs w fun en w'=>∃ R' S' ae,EndR R' w' ae en∧Q ae S'∧Sim R' S' w'∧Step R S w R' S' w'
theorem ACalls.mono {P:Program} {f:Nat} {args:List AV} {S:q00} {Q Q':AEnd→q00→Prop} (h:ACalls P f args S Q) (hq:∀ ae S',Q ae S'→Q' ae S'):ACalls P f args S Q':=
 fun R w vs hs hv=>(h R w vs hs hv).mono fun en w' ⟨R',S',ae,h1,h2,h3⟩=>⟨R',S',ae,h1,hq _ _ h2,h3⟩
def one:AV→Bool
 | .junk | .agg _ | .tup _=>false
 | _=>true
theorem one_cell {u:AV} (h:one u=true) {R:Nat→Prop} {w:World} {v:Value} (hv:RV R w u v):v.oneCell'=true:=by
 cases hv<;>first | rfl | (cases h)
def ones:List AV→Bool
 | []=>true
 | x :: xs=>one x&&ones xs
theorem q51:∀ {us:List AV},ones us=true→∀ {R:Nat→Prop} {w:World} {vs:List Value},RVs R w us vs→∀ v∈vs,v.oneCell'=true
 | [],_,R,w,[],_=>fun v h=>by cases h
 | [],_,R,w,_ :: _,h=>by cases h.1
 | x :: xs,h,R,w,[],hv=>by cases hv.1
 | x :: xs,h,R,w,v :: vs,hv=>fun u hu=>by
  simp only [ones,Bool.and_eq_true] at h
  rcases List.mem_cons.1 hu with rfl | hu
  ·exact one_cell h.1 hv.head
  ·exact q51 h.2 hv.tail u hu
def put (e:Env) (d:Option Nat) (v:AV):Env:=match d with
 | none=>e
 | some d=>eupd e d v
def q56 (g:SX→AV):List SX→List AV
 | []=>[]
 | x :: r=>q08 (g x)++q56 g r
def q7x (g:SX→AV) (sz:Nat):List SX→Prop
 | []=>True
 | x :: r=>(q08 (g x)).length=sz∧notJ (g x)=true∧q7x g sz r
def appX (S:q00) (sz:Nat):AV→Option (Nat×List AV)
 | .nils=>some (0,[])
 | .sl sz' xs=>if sz'=sz then some (xs.length,xs.flatten) else none
 | .own b off m _=>match sget S b with
  | some (.cells _ cs _)=>if off+m * sz≤cs.length then some (m,(cs.drop off).take (m * sz)) else none
  | _=>none
 | _=>none
def q06:AV:=.tup []
def repA (zs:List AV):Nat→List AV
 | 0=>[]
 | n+1=>zs++repA zs n
def xeff:XOp→List AV→q00→(AV→q00→Prop)→Prop
 | .eqns neg,[x],S,K=>match x with
  | .nils=>K (.bool (!neg)) S
  | .own ..=>K (.bool neg) S
  | .sl _ (_ :: _)=>K (.bool neg) S
  | .sl _ []=>K (.bool neg) S∧K (.bool (!neg)) S
  | _=>False
 | .clr sz zs,[x],S,K=>match x with
  | .nils=>K q06 S
  | .own b off n _=>∃ t cs tot,sget S b=some (.cells t cs tot)∧off+n * sz≤cs.length∧zs.length=sz∧ones zs=true∧K q06 (supd S b (.cells t (q1j cs off (repA zs n)) tot))
  | _=>False
 | _,_,_,_=>False
theorem xeff_mono {o:XOp} {xs:List AV} {S:q00} {K K':AV→q00→Prop} (hK:∀ v S',K v S'→K' v S') (h:xeff o xs S K):xeff o xs S K':=by
 unfold xeff at h ⊢
 split at h
 ·split at h
  ·exact hK _ _ h
  ·exact hK _ _ h
  ·exact hK _ _ h
  ·exact ⟨hK _ _ h.1,hK _ _ h.2⟩
  ·exact h
 ·split at h
  ·exact hK _ _ h
  ·obtain ⟨t,cs,tot,h1,h2,h3,h4,h5⟩:=h
   exact ⟨t,cs,tot,h1,h2,h3,h4,hK _ _ h5⟩
  ·exact h
 ·exact h
def aeff (P:Program) (o:SOp) (dst:Option Nat) (K:Env→q00→Prop) (Qp:AV→q00→Prop) (e:Env) (S:q00):Prop:=
 match o with
 | .alloc t zs=>∀ b,sget S b=none→K (put e dst (.ptr b 0)) (supd S b (.cells t zs zs.length))
 | .box t n x=>(q08 (ev e x)).length=n∧notJ (ev e x)=true∧∀ b,sget S b=none→K (put e dst (.ptr b 0)) (supd S b (.cells t (q08 (ev e x)) n))
 | .boxr _ n x=>(q08 (ev e x)).length=n∧notJ (ev e x)=true∧K (put e dst (.rop (q08 (ev e x)))) S
 | .bslicr _ sz xs=>q7x (ev e) sz xs∧K (put e dst (.sl sz (xs.map fun x=>q08 (ev e x)))) S
 | .bslice t sz xs=>q7x (ev e) sz xs∧∀ b,sget S b=none→K (put e dst (.own b 0 xs.length xs.length)) (supd S b (.cells t (q56 (ev e) xs) (xs.length * sz)))
 | .mkmap M=>∀ b,sget S b=none→K (put e dst (.map (some b))) (supd S b (.map M [] 0))
 | .mkslice t bytes z l c=>∃ n:Nat,ev e l=.int .i64 n∧ev e c=.int .i64 n∧n * bytes≤140737488355328 ∧
   ∀ b,sget S b=none→K (put e dst (.own b 0 n n)) (supd S b (.cells t (List.replicate n z) n))
 | .store n x v=>∃ b off t cs tot,ev e x=.ptr b off∧sget S b=some (.cells t cs tot)∧(q08 (ev e v)).length=n∧off+n≤cs.length∧ones (q08 (ev e v))=true ∧
   K (put e dst q06) (supd S b (.cells t (q1j cs off (q08 (ev e v))) tot))
 | .mupd M m k v=>∃ b es clk,ev e m=.map (some b)∧sget S b=some (.map M es clk)∧q0m M (ev e k)=true ∧
   (match q0q es (ev e k) with
    | some (i,_,bn)=>K (put e dst q06) (supd S b (.map M (es.set i (ev e k,ev e v,bn)) clk))
    | none=>K (put e dst q06) (supd S b (.map M (es++[(ev e k,ev e v,clk)]) (clk+1))))
 | .ment M z m k=>∃ b es clk,ev e m=.map (some b)∧sget S b=some (.map M es clk)∧q0m M (ev e k)=true ∧
   (match q0q es (ev e k) with
    | some (i,v,bn)=>K (put e dst (.tup [v,.int .i64 bn])) (supd S b (.map M (es.set i (ev e k,v,bn)) clk))
    | none=>K (put e dst (.tup [z,.int .i64 clk])) (supd S b (.map M (es++[(ev e k,z,clk)]) (clk+1))))
 | .mst m s v=>∃ b M es clk i kk vv,∃ bn:Nat,ev e m=.map (some b)∧sget S b=some (.map M es clk)∧ev e s=.int .i64 bn∧es.findIdx? (fun x=>x.2.2==bn)=some i∧es[i]?=some (kk,vv,bn) ∧
   K (put e dst q06) (supd S b (.map M (es.set i (kk,ev e v,bn)) clk))
 | .mdel M m k=>∃ b es clk,ev e m=.map (some b)∧sget S b=some (.map M es clk)∧q0m M (ev e k)=true ∧
   K (put e dst q06) (supd S b (.map M (match q0q es (ev e k) with
    | some (i,_)=>es.eraseIdx i
    | none=>es) clk))
 | .call f xs=>∃ (fid:Nat) (fi ca:List AV) (Q:AEnd→q00→Prop),ev e f=.func (.func fid) fi ca∧ACalls P fid (fi++xs.map (ev e)++ca) S Q ∧
   ∀ ae S',Q ae S'→match ae with
    | .ret v=>K (put e dst v) S'
    | .pan v=>Qp v S'
 | .app t sz bytes s x=>∃ m news,appX S sz (ev e x)=some (m,news)∧ones news=true∧(match ev e s with
   | .nils=>m * bytes≤140737488355328∧(if m=0 then K (put e dst .nils) S else
     ∀ b cap,sget S b=none→m≤cap→cap≤maxLen→K (put e dst (.own b 0 m cap)) (supd S b (.cells t news (cap * sz))))
   | .own b 0 n cap=>∃ cs,sget S b=some (.cells t cs (cap * sz))∧n≤cap∧cap≤maxLen∧n * sz≤cs.length∧(n+m) * bytes≤140737488355328 ∧
     ∀ b' cap',(b'=b∨sget S b'=none)→n+m≤cap'→cap'≤maxLen→K (put e dst (.own b' 0 (n+m) cap')) (supd (sdel S b) b' (.cells t (cs.take (n * sz)++news) (cap' * sz)))
   | _=>False)
 | .copy sz d x=>∃ b off n cap t cs tot m news,ev e d=.own b off n cap∧sget S b=some (.cells t cs tot)∧appX S sz (ev e x)=some (m,news)∧off+min m n * sz≤cs.length∧ones (news.take (min m n * sz))=true ∧
   K (put e dst (.int .i64 (min m n:Nat))) (supd S b (.cells t (q1j cs off (news.take (min m n * sz))) tot))
 | .panic x=>∃ t v,ev e x=.iface t v∧Qp (ev e x) S
 | .ext o xs=>xeff o (xs.map (ev e)) S fun v S'=>K (put e dst v) S'
 | o=>match qev S (ev e) o with
  | some v=>K (put e dst v) S
  | none=>False
def bytesT (P:Program) (t:Nat):Option Nat:=(P.info? t).map (·.bytes)
def q66 (P:Program) (t:Nat):Option (List Value):=(q3x P t).map fun z=>z.cells.toList
def mapT (P:Program) (t:Nat):Option (Nat×Nat):=match P.underlying t with
 | some (.map k e)=>some (k,e)
 | _=>none
def partsOk:Nat→List SX→List (Nat×Operand)→Bool
 | _,[],[]=>true
 | i,x :: xs,(j,y) :: ys=>i==j&&xok x y&&partsOk (i+1) xs ys
 | _,_,_=>false
def zOk (P:Program) (t sz:Nat):Bool:=match q66 P t with
 | some l=>l.length==sz
 | none=>false
def eok (P:Program):SOp→Op→Bool
 | .alloc t zs,.alloc t'=>t==t'&&(match q66 P t with | some l=>coks zs l | none=>false)
 | .box t _ x,.box t' y=>t==t'&&xok x y
 | .boxr t _ x,.box t' y=>t==t'&&xok x y
 | .bslicr t sz xs,.buildSlice t' len ps=>q6w P t'==some t&&szT P t==some sz&&zOk P t sz&&len==xs.length&&decide (0<sz)&&decide (len * sz≤2 ^ 24)&&partsOk 0 xs ps.toList
 | .bslice t sz xs,.buildSlice t' len ps=>q6w P t'==some t&&szT P t==some sz&&zOk P t sz&&len==xs.length&&decide (0<sz)&&decide (len * sz≤2 ^ 24)&&partsOk 0 xs ps.toList
 | .mkmap M,.makeMap t none=>(match mapT P t with | some (k,_)=>keyT P k==some M | none=>false)
 | .mkslice t bytes z l c,.makeSlice t' l' c'=>q6w P t'==some t&&szT P t==some 1&&bytesT P t==some bytes&&(match q3x P t with | some zv=>cok1 z zv&&one z | none=>false)&&decide (0<bytes)&&xok l l'&&xok c c'
 | .store n x v,.store t y z=>szT P t==some n&&xok x y&&xok v z
 | .mupd M m k v,.mapUpdate t m' k' v'=>(match mapT P t with | some (kt,_)=>keyT P kt==some M | none=>false)&&xok m m'&&xok k k'&&xok v v'
 | .mupd M m k v,.insert t m' k' v'=>(match mapT P t with | some (kt,_)=>keyT P kt==some M | none=>false)&&xok m m'&&xok k k'&&xok v v'
 | .ment M z m k,.mapEntry t m' k'=>(match mapT P t with | some (kt,et)=>keyT P kt==some M&&(match q3x P et with | some zv=>cok z zv | none=>false) | none=>false)&&xok m m'&&xok k k'
 | .mst m s v,.entryStore _ m' s' v'=>xok m m'&&xok s s'&&xok v v'
 | .mdel M m k,.call c=>(match c.callee with | .builtin .delete=>true | _=>false)&&(match c.args.toList,c.argTypes[0]? with | [m',k'],some t=>xok m m'&&xok k k'&&(match mapT P t with | some (kt,_)=>keyT P kt==some M | none=>false) | _,_=>false)
 | .call f xs,.call c=>(match c.callee with | .value f'=>xok f f' | _=>false)&&xsok xs c.args.toList
 | .app t sz bytes s x,.call c=>(match c.callee with | .builtin .append=>true | _=>false)&&(match c.args.toList,c.argTypes.toList with | [s',x'],[T,T']=>T==T'&&q6w P T==some t&&xok s s'&&xok x x' | _,_=>false)&&szT P t==some sz&&bytesT P t==some bytes&&zOk P t sz&&decide (0<sz)&&decide (0<bytes)
 | .copy sz d x,.call c=>(match c.callee with | .builtin .copy=>true | _=>false)&&(match c.args.toList,c.argTypes.toList with | [d',x'],[T,_]=>(match q6w P T with | some t=>szT P t==some sz | none=>false)&&xok d d'&&xok x x' | _,_=>false)&&decide (0<sz)
 | .panic x,.panic y=>xok x y
 | .ext (.eqns neg) [x],.binOp op t x' y' _=>(op==(if neg then .neq else .eql))&&xok x x'&&(match P.underlying t with | some (.slice _)=>true | _=>false)&&(match y' with | .const (.slice none 0 0)=>true | _=>false)
 | .ext (.clr sz zs) [x],.call c=>(match c.callee with | .builtin .clear=>true | _=>false)&&(match c.args.toList,c.argTypes.toList with | [x'],[T]=>(match q6w P T with | some t=>szT P t==some sz&&(match q66 P t with | some l=>coks zs l | none=>false) | none=>false)&&xok x x' | _,_=>false)&&decide (0<sz)
 | _,_=>false
structure Rel (R:Nat→Prop) (S:q00) (w:World) (a:Act) (N:Nat) (R':Nat→Prop) (S':q00) (w':World) (e':Env) (a':Act):Prop where
 sim:Sim R' S' w'
 env:REnv R' w' e' a'.tmps
 step:Step R S w R' S' w'
 defers:a'.defers=a.defers
 size:a'.tmps.size=N
theorem Rel.refl {R:Nat→Prop} {S:q00} {w:World} {a:Act} {N:Nat} {e:Env} (hs:Sim R S w) (he:REnv R w e a.tmps) (hn:a.tmps.size=N):Rel R S w a N R S w e a:=⟨hs,he,Step.refl _ _ _,rfl,hn⟩
theorem Rel.trans {R R1 R2:Nat→Prop} {S S1 S2:q00} {w w1 w2:World} {a a1 a2:Act} {N:Nat} {e1 e2:Env} (h:Rel R S w a N R1 S1 w1 e1 a1) (k:Rel R1 S1 w1 a1 N R2 S2 w2 e2 a2):Rel R S w a N R2 S2 w2 e2 a2:=
 ⟨k.sim,k.env,h.step.trans k.step,k.defers.trans h.defers,k.size⟩
def q32 (d:Option Nat) (N:Nat):Prop:=∀ k,d=some k→k<N
theorem Rel.put {R R':Nat→Prop} {S S':q00} {w w':World} {a:Act} {N:Nat} {e:Env} (hs:Sim R S w) (he:REnv R w e a.tmps) (hn:a.tmps.size=N) (hs':Sim R' S' w') (hst:Step R S w R' S' w') {d:Option Nat} (hd:q32 d N)
  {u:AV} {v:Value} (hv:RV R' w' u v):Rel R S w a N R' S' w' (put e d u) (a.put d v):=by
 cases d with
 | none=>exact ⟨hs',he.step hs hst,hst,rfl,hn⟩
 | some k=>exact ⟨hs',(he.step hs hst).put hv (by rw [hn];exact hd k rfl),hst,rfl,by simp [Act.put,hn]⟩
def KC (R:Nat→Prop) (S:q00) (w:World) (a:Act) (N:Nat) (K:Env→q00→Prop):Act→World→Prop:=fun a' w'=>∃ R' S' e',K e' S'∧Rel R S w a N R' S' w' e' a'
def QC (R:Nat→Prop) (S:q00) (w:World) (a:Act) (Qp:AV→q00→Prop) (Qc:Exit→Act→World→Prop):Prop:=
 ∀ u v R' S' w',Qp u S'→RV R' w' u v→Sim R' S' w'→Step R S w R' S' w'→Qc (.panic [⟨v,false,false⟩]) a w'
section
variable {P:Program} {R:Nat→Prop} {S:q00} {w:World} {a:Act} {N:Nat} {e:Env} {dst:Option Nat} {K:Env→q00→Prop} {Qp:AV→q00→Prop} {Qc:Exit→Act→World→Prop}
theorem q7b {t:Nat} {l:List Value} (h:q66 P t=some l):∃ z,z.cells.toList=l∧∀ w':World,(zeroValue t).run P w'=.ok z w':=by
 obtain ⟨z,hz,rfl⟩:=Option.map_eq_some_iff.1 h
 refine ⟨z,rfl,fun w'=>?_⟩
 unfold q3x at hz
 cases hi:P.info? t with
 | none=>rw [hi] at hz;cases hz
 | some i=>
  rw [hi] at hz
  simp at hz
  simp [zeroValue,typeInfo,hi,hz]
theorem q8r {t:Nat} {cs:List AV} {arr:Array Value} (h:RVs R w cs arr.toList):RO R w (.cells t cs cs.length) (.cells arr t):=by
 have hl:cs.length=arr.size:=by simpa using h.1
 rw [hl]
 exact .cells t cs arr arr.toList (by rw [hl];simp [← Array.length_toList]) h
theorem q6q (hs:Sim R S w) (he:REnv R w e a.tmps) (hn:a.tmps.size=N) (hd:q32 dst N) {o:AObj} {x:Obj} (ho:RO R w o x) {u:Nat→AV} {v:Value} (hv:∀ R' w',RV R' w' (u w.heap.size) v)
  (h:∀ b,sget S b=none→K (put e dst (u b)) (supd S b o)):KC R S w a N K (a.put dst v) (w.alloc x):=by
 obtain ⟨h1,h2,h3⟩:=hs.alloc ho
 exact ⟨R,_,_,h _ h1,Rel.put hs he hn h2 h3 hd (hv _ _)⟩
theorem sound_alloc (hs:Sim R S w) (he:REnv R w e a.tmps) (hn:a.tmps.size=N) {op:Oper} (hd:q32 op.dst N) {t:Nat} {zs:List AV} (hok:eok P (.alloc t zs) op.op=true) (h:aeff P (.alloc t zs) op.dst K Qp e S) :
  op.wp P a w (KC R S w a N K) Qc:=by
 obtain ⟨dst,op,ty,pos,aft,gd⟩:=op
 cases op<;>simp only [eok] at hok<;>try (cases hok;done)
 rename_i t'
 simp only [Bool.and_eq_true,beq_iff_eq] at hok
 obtain ⟨rfl,hz⟩:=hok
 cases hzc:q66 P t with
 | none=>rw [hzc] at hz;cases hz
 | some l=>
  rw [hzc] at hz
  obtain ⟨z,hzl,hzr⟩:=q7b hzc
  have hrv:=q7q hz R w
  rw [← hzl] at hrv
  unfold Oper.wp
  simp only [execOp,Instr.alloc,Sem.run_bind,hzr,Result.andThen_ok,newVar,newRow,newObj,Sem.run,Sem.run_pure,Oper.upon]
  exact q6q hs he hn hd (q8r hrv) (u:=fun b=>.ptr b 0) (fun _ _=>.ptr _ _) h
theorem sound_box (hs:Sim R S w) (he:REnv R w e a.tmps) (hn:a.tmps.size=N) {op:Oper} (hd:q32 op.dst N) {t n:Nat} {x:SX} (hok:eok P (.box t n x) op.op=true) (h:aeff P (.box t n x) op.dst K Qp e S) :
  op.wp P a w (KC R S w a N K) Qc:=by
 obtain ⟨dst,op,ty,pos,aft,gd⟩:=op
 cases op<;>simp only [eok] at hok<;>try (cases hok;done)
 rename_i t' y
 simp only [Bool.and_eq_true,beq_iff_eq] at hok
 obtain ⟨rfl,hx⟩:=hok
 obtain ⟨h1,h2,h3⟩:=h
 have hv:=q7a (q1e hx he) (by intro e;rw [e] at h2;cases h2)
 unfold Oper.wp
 simp only [execOp,Instr.box,Sem.run_bind,Result.andThen_ok,newVar,newRow,newObj,Sem.run,Sem.run_pure,Oper.upon]
 rw [← h1] at h3
 exact q6q hs he hn hd (q8r hv) (u:=fun b=>.ptr b 0) (fun _ _=>.ptr _ _) h3
theorem sound_mkmap (hs:Sim R S w) (he:REnv R w e a.tmps) (hn:a.tmps.size=N) {op:Oper} (hd:q32 op.dst N) {M:Bool×List EK} (hok:eok P (.mkmap M) op.op=true) (h:aeff P (.mkmap M) op.dst K Qp e S) :
  op.wp P a w (KC R S w a N K) Qc:=by
 obtain ⟨dst,op,ty,pos,aft,gd⟩:=op
 cases op<;>simp only [eok] at hok<;>try (cases hok;done)
 rename_i t r
 cases r with
 | some y=>simp [eok] at hok
 | none=>
  unfold Oper.wp
  simp only [execOp,Option.map_none,Instr.makeMap,Sem.run_bind,Result.andThen_ok,newObj,Sem.run,Sem.run_pure,Oper.upon]
  exact q6q hs he hn hd (.map M [] #[] 0 rfl (fun i e m he=>by simp at he) (fun e he=>by cases he)) (u:=fun b=>.map (some b)) (fun _ _=>.map _) h
theorem q6p (hs:Sim R S w) (he:REnv R w e a.tmps) (hn:a.tmps.size=N) (hd:q32 dst N) {u:AV} {v:Value} (hv:RV R w u v) (h:K (put e dst u) S):KC R S w a N K (a.put dst v) w:=
 ⟨R,_,_,h,Rel.put hs he hn hs (Step.refl _ _ _) hd hv⟩
theorem kc_set (hs:Sim R S w) (he:REnv R w e a.tmps) (hn:a.tmps.size=N) (hd:q32 dst N) {w':World} {b:Nat} {o o':AObj} {x:Obj} (hb:sget S b=some o) (hx:w'.heap[b]?=some x) (ho:RO R w o' x)
  (hsz:w'.heap.size=w.heap.size) (hos:w'.os=w.os) (ht:w'.tape=w.tape) (hou:w'.output=w.output) (hold:∀ k,k≠b→w'.heap[k]?=w.heap[k]?) {u:AV} {v:Value} (hv:RV R w' u v)
  (h:K (put e dst u) (supd S b o')):KC R S w a N K (a.put dst v) w':=by
 obtain ⟨h1,h2⟩:=hs.set hb hx ho hsz hos ht hou hold
 exact ⟨R,_,_,h,Rel.put hs he hn h1 h2 hd hv⟩
theorem seg_take {α:Type} (L V:List α) (off c:Nat) (h:off+V.length≤c) (hc:c≤L.length) :
  (L.take off++V++L.drop (off+V.length)).take c=(L.take c).take off++V++(L.take c).drop (off+V.length):=by
 have h1:(L.take off++V).length=off+V.length:=by simp;omega
 rw [List.take_append,h1,List.take_of_length_le (by rw [h1];exact h),List.take_take,List.drop_take,Nat.min_eq_left (by omega)]
theorem sound_store (hs:Sim R S w) (he:REnv R w e a.tmps) (hn:a.tmps.size=N) {op:Oper} (hd:q32 op.dst N) {n:Nat} {x v:SX} (hok:eok P (.store n x v) op.op=true) (h:aeff P (.store n x v) op.dst K Qp e S) :
  op.wp P a w (KC R S w a N K) Qc:=by
 obtain ⟨dst,op,ty,pos,aft,gd⟩:=op
 cases op<;>simp only [eok] at hok<;>try (cases hok;done)
 rename_i t y z
 simp only [Bool.and_eq_true,beq_iff_eq] at hok
 obtain ⟨⟨hsz,hx⟩,hv⟩:=hok
 obtain ⟨b,off,t',cs,tot,e1,e2,e3,e4,e5,hK⟩:=h
 have r1:=q1e hx he
 have r2:=q1e hv he
 rw [e1] at r1
 generalize hzz:a.eval y=zz at r1
 cases r1
 have hnj:ev e v≠.junk:=by intro e;rw [e] at e5;cases e5
 have hcs:=q7a r2 hnj
 obtain ⟨o,ho,hr⟩:=hs.own b _ e2
 cases hr
 rename_i arr vs hvs hrv
 have hl:cs.length≤arr.size:=by
  have h1:=hrv.1
  rw [← hvs] at h1
  simp at h1
  omega
 have hlen:(a.eval z).cells.size=n:=by rw [← Array.length_toList,← hcs.1];exact e3
 have hone:=q51 e5 hcs
 have hst:=run_storeCells_at (P:=P) b off t' (a.eval z).cells.toList 0 arr w ho (by simp [hlen];omega) hone
 unfold Oper.wp
 have hrun:(Instr.storeAt t (.pointer (some ⟨b,off,none⟩)) (a.eval z)).run P w=.ok () (w.setRow b (arr.toList.take (off+0)++(a.eval z).cells.toList++arr.toList.drop (off+0+(a.eval z).cells.toList.length)).toArray):=by
  unfold Instr.storeAt storeVar
  simp only [Instr.sureAddr,Sem.run_bind,Sem.run_pure,Result.andThen_ok,q0x hsz,hlen,ne_eq,not_true_eq_false,if_false]
  exact hst
 simp only [execOp,hzz,Sem.run_bind,hrun,Result.andThen_ok,Sem.run_pure,Oper.upon]
 have hheap:(w.setRow b (arr.toList.take (off+0)++(a.eval z).cells.toList++arr.toList.drop (off+0+(a.eval z).cells.toList.length)).toArray).heap[b]?=some (.cells (arr.toList.take (off+0)++(a.eval z).cells.toList++arr.toList.drop (off+0+(a.eval z).cells.toList.length)).toArray t' (0,0)):=setRow_heap w b arr _ t' (0,0) ho
 have hnew:RVs R w (q1j cs off (q08 (ev e v))) ((arr.toList.take (off+0)++(a.eval z).cells.toList++arr.toList.drop (off+0+(a.eval z).cells.toList.length)).take cs.length):=by
  have hf:=fill_rv _ _ hcs cs vs.toArray off (by simpa using hrv) (by rw [e3];exact e4)
  have hfill:∀ (l:List Value) (arr:Array Value) (o:Nat),o+l.length≤arr.size→(l.toArray.zipIdx.foldl (fun cs (c,j)=>cs.setIfInBounds (o+j) c) arr).toList=arr.toList.take o++l++arr.toList.drop (o+l.length):=by
   intro l
   induction l with
   | nil=>intro arr o _;rw [← Array.foldl_toList,Array.toList_zipIdx];simp
   | cons c r ih=>
    intro arr o hlo
    have e':(((c :: r).toArray).zipIdx.foldl (fun cs (c,j)=>cs.setIfInBounds (o+j) c) arr)=(r.toArray.zipIdx.foldl (fun cs (c,j)=>cs.setIfInBounds (o+1+j) c) (arr.setIfInBounds o c)):=by
     rw [← Array.foldl_toList,← Array.foldl_toList]
     simp only [Array.toList_zipIdx,List.zipIdx_cons,List.foldl_cons,Nat.add_zero,Nat.zero_add]
     rw [q7o r (arr.setIfInBounds o c) o 1]
    rw [e',ih _ _ (by simp at hlo ⊢;omega)]
    have:=list_seg_step arr.toList o c r (by simp at hlo ⊢;omega)
    simpa [Array.toList_setIfInBounds,Nat.add_assoc] using this
  rw [hfill _ _ _ (by simp [hlen];rw [← hrv.1];exact e4)] at hf
  have hvl:vs.length=cs.length:=hrv.1.symm
  have hx:(arr.toList.take (off+0)++(a.eval z).cells.toList++arr.toList.drop (off+0+(a.eval z).cells.toList.length)).take cs.length=vs.toArray.toList.take off++(a.eval z).cells.toList++vs.toArray.toList.drop (off+(a.eval z).cells.toList.length):=by
   have hla:(a.eval z).cells.toList.length=n:=by simpa using hlen
   rw [← hvs]
   simpa using seg_take arr.toList (a.eval z).cells.toList off cs.length (by rw [hla];exact e4) (by simpa using hl)
  rw [hx]
  exact hf
 have hro:=RO.cells (R:=R) (w:=w) t' (q1j cs off (q08 (ev e v))) (arr.toList.take (off+0)++(a.eval z).cells.toList++arr.toList.drop (off+0+(a.eval z).cells.toList.length)).toArray _ (by rw [fillA_eq]) hnew
 have hsize:(arr.toList.take (off+0)++(a.eval z).cells.toList++arr.toList.drop (off+0+(a.eval z).cells.toList.length)).toArray.size=arr.size:=by
  simp [hlen];omega
 rw [hsize] at hro
 exact kc_set hs he hn hd e2 hheap hro (by simp [World.setRow]) rfl rfl rfl (fun k hk=>by simp [World.setRow,Array.getElem?_setIfInBounds_ne (Ne.symm hk),Array.getElem?_modify,Ne.symm hk]) (RV.tup_iff.2 ⟨#[],rfl,.nil⟩) hK
theorem foldl_cells:∀ (l:List Value) (arr:Array Value) (o:Nat),o+l.length≤arr.size→(l.toArray.zipIdx.foldl (fun cs (c,j)=>cs.setIfInBounds (o+j) c) arr).toList=arr.toList.take o++l++arr.toList.drop (o+l.length):=by
 intro l
 induction l with
 | nil=>intro arr o _;rw [← Array.foldl_toList,Array.toList_zipIdx];simp
 | cons c r ih=>
  intro arr o hlo
  have e':(((c :: r).toArray).zipIdx.foldl (fun cs (c,j)=>cs.setIfInBounds (o+j) c) arr)=(r.toArray.zipIdx.foldl (fun cs (c,j)=>cs.setIfInBounds (o+1+j) c) (arr.setIfInBounds o c)):=by
   rw [← Array.foldl_toList,← Array.foldl_toList]
   simp only [Array.toList_zipIdx,List.zipIdx_cons,List.foldl_cons,Nat.add_zero,Nat.zero_add]
   rw [q7o r (arr.setIfInBounds o c) o 1]
  rw [e',ih _ _ (by simp at hlo ⊢;omega)]
  have:=list_seg_step arr.toList o c r (by simp at hlo ⊢;omega)
  simpa [Array.toList_setIfInBounds,Nat.add_assoc] using this
theorem fill_parts (he:REnv R w e a.tmps) (sz:Nat):∀ (xs:List SX) (ps:List (Nat×Operand)) (i:Nat) (arr:Array Value) (done:List AV),partsOk i xs ps=true→q7x (ev e) sz xs→RVs R w done (arr.toList.take (i * sz))→done.length=i * sz →
  arr.size=(i+xs.length) * sz→∃ arr',Instr.fill (fun i=>some (i * sz,sz)) arr (ps.map fun (i,x)=>(i,a.eval x))=some arr'∧RVs R w (done++q56 (ev e) xs) arr'.toList
 | [],[],i,arr,done,_,_,hd,hl,hs=>by
  refine ⟨arr,rfl,?_⟩
  rw [List.take_of_length_le (by simp at hs ⊢;omega)] at hd
  simpa [q56] using hd
 | x :: xs,(j,y) :: ps,i,arr,done,hp,hz,hd,hl,hs=>by
  simp only [partsOk,Bool.and_eq_true,beq_iff_eq] at hp
  obtain ⟨⟨rfl,hx⟩,hp⟩:=hp
  obtain ⟨h1,h2,h3⟩:=hz
  have hv:=q7a (q1e hx he) (by intro e;rw [e] at h2;cases h2)
  have hsz:(a.eval y).cells.size=sz:=by rw [← Array.length_toList,← hv.1];exact h1
  have hle:i * sz+sz≤arr.size:=by
   rw [hs,List.length_cons]
   have:i * sz+sz=(i+1) * sz:=by rw [Nat.add_mul,Nat.one_mul]
   rw [this]
   exact Nat.mul_le_mul_right _ (by omega)
  have hf:=foldl_cells (a.eval y).cells.toList arr (i * sz) (by simpa [hsz] using hle)
  have hlen:(((a.eval y).cells.toList.toArray.zipIdx.foldl (fun cs (c,j)=>cs.setIfInBounds (i * sz+j) c) arr)).size=arr.size:=by
   rw [← Array.length_toList,hf]
   simp [hsz];omega
  have ht:(((a.eval y).cells.toList.toArray.zipIdx.foldl (fun cs (c,j)=>cs.setIfInBounds (i * sz+j) c) arr)).toList.take ((i+1) * sz)=arr.toList.take (i * sz)++(a.eval y).cells.toList:=by
   rw [hf]
   have h4:(arr.toList.take (i * sz)++(a.eval y).cells.toList).length=(i+1) * sz:=by
    simp [hsz,Nat.add_mul];omega
   rw [← h4,List.take_left]
  obtain ⟨arr',h5,h6⟩:=fill_parts he sz xs ps (i+1) _ (done++q08 (ev e x)) hp h3 (by rw [ht];exact hd.append hv) (by rw [List.length_append,hl,h1,Nat.add_mul,Nat.one_mul]) (by rw [hlen,hs];simp [Nat.add_assoc,Nat.add_comm 1])
  refine ⟨arr',?_,by simpa [q56] using h6⟩
  have hc1:((a.eval y).cells.size≠sz||decide (i * sz+(a.eval y).cells.size>arr.size))=false:=by simp [hsz];omega
  simp only [List.map_cons,Instr.fill]
  rw [if_neg (by rw [hc1];simp)]
  simpa using h5
 | [],_ :: _,_,_,_,hp,_,_,_,_=>by cases hp
 | _ :: _,[],_,_,_,hp,_,_,_,_=>by cases hp
theorem q55 {g:SX→AV} {sz:Nat}:∀ {xs:List SX},q7x g sz xs→(q56 g xs).length=xs.length * sz
 | [],_=>by simp [q56]
 | x :: xs,h=>by
  obtain ⟨h1,-,h3⟩:=h
  rw [q56,List.length_append,h1,q55 h3,List.length_cons,Nat.add_mul,Nat.one_mul,Nat.add_comm]
theorem q81 (hs:Sim R S w) (he:REnv R w e a.tmps) (hn:a.tmps.size=N) {op:Oper} (hd:q32 op.dst N) {t sz:Nat} {xs:List SX} (hok:eok P (.bslice t sz xs) op.op=true) (h:aeff P (.bslice t sz xs) op.dst K Qp e S) :
  op.wp P a w (KC R S w a N K) Qc:=by
 obtain ⟨dst,op,ty,pos,aft,gd⟩:=op
 cases op<;>simp only [eok] at hok<;>try (cases hok;done)
 rename_i t' len ps
 simp only [Bool.and_eq_true,beq_iff_eq,decide_eq_true_eq] at hok
 obtain ⟨⟨⟨⟨⟨⟨h1,h2⟩,h3⟩,rfl⟩,h4⟩,h5⟩,h6⟩:=hok
 obtain ⟨ha,hK⟩:=h
 have hu:=q3i h1
 unfold zOk at h3
 cases hz:q66 P t with
 | none=>rw [hz] at h3;cases h3
 | some l=>
  rw [hz] at h3
  obtain ⟨z,hzl,hzr⟩:=q7b hz
  obtain ⟨arr',hf,hv⟩:=fill_parts he sz xs ps.toList 0 ((Array.range (xs.length * sz)).map (z.cells[· % z.cells.size]!)) [] h6 ha (by simpa using RVs.nil) (by simp) (by simp)
  have e1:(Array.map (fun x=>(x.1,a.eval x.2)) ps).toList=ps.toList.map fun (i,x)=>(i,a.eval x):=by simp
  have hl:=q55 ha
  have hro:=q8r (t:=t) (cs:=q56 (ev e) xs) (by simpa using hv)
  rw [hl] at hro
  have hfin:=q6q (K:=K) hs he hn hd hro (u:=fun b=>.own b 0 xs.length xs.length) (fun _ _=>.own _ _ _ _) hK
  have hr:(Instr.buildSlice t' xs.length (Array.map (fun x=>(x.1,a.eval x.2)) ps)).run P w=.ok (.slice (some ⟨w.heap.size,0,none⟩) xs.length xs.length) (w.alloc (.cells arr' t)):=by
   unfold Instr.buildSlice
   simp only [Sem.run_bind,run_underlying hu,q0x h2,Result.andThen_ok]
   rw [if_neg (by omega)]
   by_cases h0:xs.length * sz=0
   ·have hm:∀ f:Nat→Value,(Array.range (xs.length * sz)).map f=#[]:=by intro f;rw [h0];simp
    rw [hm] at hf
    simp only [h0,if_true,Sem.run_bind,Sem.run_pure,Result.andThen_ok,e1]
    have hm0:∀ f:Nat→Value,(Array.range 0).map f=#[]:=fun f=>by simp
    rw [hm0,hf]
    rfl
   ·simp only [h0,if_false,Sem.run_bind,hzr,Sem.run_pure,Result.andThen_ok,e1,hf]
    rfl
  unfold Oper.wp
  simp only [execOp,Sem.run_bind,hr,Result.andThen_ok,Sem.run_pure,Oper.upon]
  exact hfin
theorem one_cells {u:AV} (h:one u=true) {v:Value} (hv:RV R w u v):v.cells=#[v]:=by
 cases hv<;>first | rfl | (cases h)
theorem sound_mkslice (hs:Sim R S w) (he:REnv R w e a.tmps) (hn:a.tmps.size=N) {op:Oper} (hd:q32 op.dst N) {t bytes:Nat} {z:AV} {l c:SX} (hok:eok P (.mkslice t bytes z l c) op.op=true)
  (h:aeff P (.mkslice t bytes z l c) op.dst K Qp e S):op.wp P a w (KC R S w a N K) Qc:=by
 obtain ⟨dst,op,ty,pos,aft,gd⟩:=op
 cases op<;>simp only [eok] at hok<;>try (cases hok;done)
 rename_i t' l' c'
 simp only [Bool.and_eq_true,beq_iff_eq,decide_eq_true_eq] at hok
 obtain ⟨⟨⟨⟨⟨⟨h1,h2⟩,h3⟩,h4⟩,h5⟩,h7⟩,h8⟩:=hok
 obtain ⟨n,e1,e2,hby,hK⟩:=h
 have hl:=q1e h7 he
 have hc:=q1e h8 he
 rw [e1] at hl
 rw [e2] at hc
 have hl':=hl.int_inv
 have hc':=hc.int_inv
 have hu:=q3i h1
 cases hz:q3x P t with
 | none=>rw [hz] at h4;cases h4
 | some zv=>
  rw [hz] at h4
  simp only [Bool.and_eq_true] at h4
  have hzrv:=cok1_rv h4.1 R w
  have hz1:=one_cells h4.2 hzrv
  have hinfo:(P.info? t).map (fun i=>(i.zero,i.size,i.bytes))=some (some zv,1,bytes):=by
   unfold q3x at hz
   unfold szT at h2
   unfold bytesT at h3
   cases hi:P.info? t with
   | none=>rw [hi] at hz;cases hz
   | some i=>
    rw [hi] at hz h2 h3
    simp at hz h2 h3
    simp [hz,h2,h3]
  have hn1:n≤n * bytes:=Nat.le_mul_of_pos_right _ h5
  have hr:=run_make_row' (P:=P) t' t zv bytes hu hinfo hz1 .i64 .i64 n (by rw [Nat.mul_comm];omega) (by omega) w
  have hcells:RVs R w (List.replicate n z) (madeCells #[zv] n).toList:=by
   refine ⟨by simp [madeCells],fun j u hj=>?_⟩
   have hlt:j<n:=by
    have:=(List.getElem?_eq_some_iff.1 hj).1
    simpa using this
   have hu':u=z:=by simpa [hlt] using hj.symm
   subst hu'
   simpa [madeCells,hlt,Nat.mod_one] using hzrv
  have hro:=q8r (t:=t) hcells
  rw [List.length_replicate] at hro
  have hfin:=q6q (K:=K) hs he hn hd hro (u:=fun b=>.own b 0 n n) (fun _ _=>.own _ _ _ _) hK
  unfold Oper.wp
  simp only [execOp,hl',hc',Sem.run_bind,hr,Result.andThen_ok,Sem.run_pure,Oper.upon]
  exact hfin
theorem q82 {d:Nat} {k:EK} {x y:AV} (h:ekOk k x=true) (h':ekOk k y=true) (he:eq1 x y=true):Instr.sameBits d (cval x) (cval y)=true:=by
 rcases q0r h with ⟨i,n,rfl,rfl⟩ | ⟨s,rfl,rfl⟩ | ⟨b,rfl,rfl⟩
 ·rcases q0r h' with ⟨j,m,f1,rfl⟩ | ⟨s,f1,rfl⟩ | ⟨b,f1,rfl⟩<;>cases f1
  simp [eq1] at he
  cases d<;>simp [cval,Instr.sameBits,he]
 ·rcases q0r h' with ⟨j,m,f1,rfl⟩ | ⟨s',f1,rfl⟩ | ⟨b,f1,rfl⟩<;>cases f1
  simp [eq1] at he
  subst he
  cases d<;>simp [cval,Instr.sameBits,beq_toListBytes]
 ·rcases q0r h' with ⟨j,m,f1,rfl⟩ | ⟨s',f1,rfl⟩ | ⟨b',f1,rfl⟩<;>cases f1
  simp [eq1] at he
  cases d<;>simp [cval,Instr.sameBits,he]
theorem q83 {d:Nat}:∀ {ks:List EK} {xs ys:List AV},q17 ks xs=true→q17 ks ys=true→eqs xs ys=true→((xs.map cval).zip (ys.map cval)).all (fun (x,y)=>Instr.sameBits d x y)=true
 | [],[],[],_,_,_=>rfl
 | k :: ks,x :: xs,y :: ys,h,h',he=>by
  simp only [q17,eqs,Bool.and_eq_true] at h h' he
  simp only [List.map_cons,List.zip_cons_cons,List.all_cons,Bool.and_eq_true]
  exact ⟨q82 h.1 h'.1 he.1,q83 h.2 h'.2 he.2⟩
 | [],_ :: _,_,h,_,_=>by cases h
 | _ :: _,[],_,h,_,_=>by cases h
 | [],[],_ :: _,_,h,_=>by cases h
 | _ :: _,_ :: _,[],_,h,_=>by cases h
theorem sameBits_of {M:Bool×List EK} {x y:AV} (h:q0m M x=true) (h':q0m M y=true) (he:q1d x y=true) {R1 R2:Nat→Prop} {w1 w2:World} {v u:Value} (hv:RV R1 w1 x v) (hu:RV R2 w2 y u):Instr.sameBits 10000 v u=true:=by
 obtain ⟨rfl,h2⟩:=q1u h hv
 obtain ⟨rfl,h3⟩:=q1u h' hu
 cases hM:M.1 with
 | true=>
  simp only [mkV,if_true,Instr.sameBits]
  have l1:=q3c h2
  have l2:=q3c h3
  have:=q83 (d:=9999) h2 h3 he
  simp only [Bool.and_eq_true,beq_iff_eq]
  refine ⟨by simp;omega,by simpa using this⟩
 | false=>
  have hk:∃ k,M.2=[k]:=by
   unfold q0m at h
   split at h
   ·rw [hM] at h;simp at h
   ·simp only [Bool.and_eq_true] at h
    have h4:=h.2
    cases hK:M.2 with
    | nil=>rw [hK] at h4;cases h4
    | cons a r=>
     cases r with
     | nil=>exact ⟨a,rfl⟩
     | cons b r=>rw [hK] at h4;simp [q17] at h4
  obtain ⟨k,hk⟩:=hk
  rw [hk] at h2 h3
  obtain ⟨x1,e1,g1⟩:=q2h h2
  obtain ⟨y1,e2,g2⟩:=q2h h3
  unfold q1d at he
  rw [e1,e2] at he ⊢
  simp only [eqs,Bool.and_true] at he
  simpa [mkV] using q82 (d:=10000) g1 g2 he
theorem keyEq_symm (x y:AV):q1d x y=q1d y x:=by
 have h1:∀ a b:AV,eq1 a b=eq1 b a:=by
  intro a b
  cases a<;>cases b<;>simp [eq1]<;>first | exact BEq.comm | exact eq_comm
 have h2:∀ xs ys:List AV,eqs xs ys=eqs ys xs:=by
  intro xs
  induction xs with
  | nil=>intro ys;cases ys<;>simp [eqs]
  | cons x xs ih=>intro ys;cases ys with
   | nil=>simp [eqs]
   | cons y ys=>simp [eqs,h1 x y,ih ys]
 exact h2 _ _
theorem q2o {b:Nat} {M:Array MapEntry} {clk:Nat} (h:w.heap[b]?=some (.map M clk)) (o:Obj):(setObj b o).run P w=.ok () { w with heap:=w.heap.setIfInBounds b o }:=by
 simp [setObj,Sem.run,h]
theorem q2p {b:Nat} {M:Array MapEntry} {clk:Nat} (h:w.heap[b]?=some (.map M clk)):(getObj b).run P w=.ok (.map M clk) w:=by
 simp [getObj,Sem.run,h]
theorem q8u (hs:Sim R S w) {b:Nat} {M:Bool×List EK} {es:List (AV×AV×Nat)} {clk:Nat} (hb:sget S b=some (.map M es clk)) :
  ∃ arr,w.heap[b]?=some (.map arr clk)∧es.length=arr.size∧(∀ (i:Nat) (e:AV×AV×Nat) (m:MapEntry),es[i]?=some e→arr[i]?=some m→RME R w e m)∧(∀ e∈es,q0m M e.1=true)∧RMEs R w es arr.toList:=by
 obtain ⟨x0,hx0,hr⟩:=hs.own b _ hb
 cases hr
 rename_i arr hl hm hk
 exact ⟨arr,hx0,hl,hm,hk,RMEs.of _ _ (by simpa using hl) (fun i e m he hm'=>hm i e m he (by simpa using hm'))⟩
theorem kc_map (hs:Sim R S w) (he:REnv R w e a.tmps) (hn:a.tmps.size=N) (hd:q32 dst N) {b:Nat} {M:Bool×List EK} {es es':List (AV×AV×Nat)} {clk clk':Nat} (hb:sget S b=some (.map M es clk)) {arr':Array MapEntry}
  (hM:RMEs R w es' arr'.toList) (hk:∀ e∈es',q0m M e.1=true) {u:AV} {v:Value} (hv:RV R w u v) (h:K (put e dst u) (supd S b (.map M es' clk'))) :
  KC R S w a N K (a.put dst v) { w with heap:=w.heap.setIfInBounds b (.map arr' clk') }:=by
 have hlt:=hs.lt hb
 obtain ⟨h1,h2⟩:=hM.out
 have hro:RO R w (.map M es' clk') (.map arr' clk'):=.map M es' arr' clk' (by simpa using h1) (fun i e m he hm=>h2 i e m he (by simpa using hm)) hk
 have hold:∀ k,k≠b→({ w with heap:=w.heap.setIfInBounds b (.map arr' clk') }:World).heap[k]?=w.heap[k]?:=fun k hk=>by simp [Array.getElem?_setIfInBounds_ne (Ne.symm hk)]
 refine kc_set (w':={ w with heap:=w.heap.setIfInBounds b (.map arr' clk') }) hs he hn hd hb (x:=.map arr' clk') (by simp [hlt]) hro (by simp) rfl rfl rfl hold (hv.step (fun _ h=>h) fun k hk=>hold k ?_) h
 rintro rfl
 rw [(hs.ro _ hk).1] at hb
 cases hb
theorem RMEs.set:∀ {es:List (AV×AV×Nat)} {ms:List MapEntry},RMEs R w es ms→∀ (i:Nat) {x:AV×AV×Nat} {m:MapEntry},RME R w x m→RMEs R w (es.set i x) (ms.set i m)
 | _,_,.nil,i,x,m,h=>.nil
 | _,_,.cons h1 h2,0,x,m,h=>.cons h h2
 | _,_,.cons h1 h2,i+1,x,m,h=>.cons h1 (RMEs.set h2 i h)
theorem RMEs.snoc:∀ {es:List (AV×AV×Nat)} {ms:List MapEntry},RMEs R w es ms→∀ {x:AV×AV×Nat} {m:MapEntry},RME R w x m→RMEs R w (es++[x]) (ms++[m])
 | _,_,.nil,x,m,h=>.cons h .nil
 | _,_,.cons h1 h2,x,m,h=>.cons h1 (RMEs.snoc h2 h)
theorem RMEs.erase:∀ {es:List (AV×AV×Nat)} {ms:List MapEntry},RMEs R w es ms→∀ (i:Nat),RMEs R w (es.eraseIdx i) (ms.eraseIdx i)
 | _,_,.nil,i=>.nil
 | _,_,.cons h1 h2,0=>h2
 | _,_,.cons h1 h2,i+1=>.cons h1 (RMEs.erase h2 i)
theorem mem_set {es:List (AV×AV×Nat)} {i:Nat} {x:AV×AV×Nat} {Q:AV×AV×Nat→Prop} (h:∀ e∈es,Q e) (hx:Q x):∀ e∈es.set i x,Q e:=fun e he=>by
 rcases List.mem_or_eq_of_mem_set he with h1 | rfl
 ·exact h e h1
 ·exact hx
theorem mapT_inv {t kt et:Nat} (h:mapT P t=some (kt,et)):P.underlying t=some (.map kt et):=by
 unfold mapT at h
 split at h
 ·rename_i k e hu;cases h;exact hu
 ·cases h
theorem q5f (R:Nat→Prop) (w:World):RV R w q06 undef:=RV.tup_iff.2 ⟨#[],rfl,.nil⟩
theorem modify_eq {arr:Array MapEntry} {i:Nat} (hlt:i<arr.size) (f:MapEntry→MapEntry):arr.modify i f=arr.setIfInBounds i (f arr[i]):=by
 apply Array.ext_getElem?
 intro j
 rw [Array.getElem?_modify,Array.getElem?_setIfInBounds]
 by_cases e:i=j
 ·subst e;simp [hlt]
 ·simp [e]
theorem run_mapUpdate (hs:Sim R S w) (he:REnv R w e a.tmps) (hn:a.tmps.size=N) (hd:q32 dst N) {t kt et:Nat} (ht:mapT P t=some (kt,et)) {M:Bool×List EK} (hK:keyT P kt=some M) {m k v:SX} {m' k' v':Operand} (h1:xok m m'=true) (h2:xok k k'=true) (h3:xok v v'=true)
  (h:aeff P (.mupd M m k v) dst K Qp e S):∃ w',(Instr.mapUpdate t (a.eval m') (a.eval k') (a.eval v')).run P w=.ok () w'∧KC R S w a N K (a.put dst undef) w':=by
 obtain ⟨b,es,clk,e1,e2,e3,h4⟩:=h
 have r1:=q1e h1 he
 have r2:=q1e h2 he
 have r3:=q1e h3 he
 rw [e1] at r1
 generalize hz:a.eval m'=zm at r1
 cases r1
 have hu:=mapT_inv ht
 obtain ⟨arr,hx0,hl,hm,hk,hM⟩:=q8u hs e2
 have hck:=q7g hK e3 r2 false w
 have hfk:=q3f hK e3 r2 hM hk w
 cases hf:q0q es (ev e k) with
 | none=>
  rw [hf] at h4 hfk
  simp only [found,Option.map_none] at hfk
  refine ⟨_,?_,kc_map hs he hn hd e2 (arr':=arr.push { key:=a.eval k',val:=a.eval v',born:=clk }) (clk':=clk+1) (es':=es++[(ev e k,ev e v,clk)]) (by simpa using hM.snoc (x:=(ev e k,ev e v,clk)) (m:={ key:=a.eval k',val:=a.eval v',born:=clk }) ⟨r2,r3,rfl⟩) (fun x hx=>?_) (q5f _ _) h4⟩
  ·simp [Instr.mapUpdate,run_underlying hu,q2p hx0,hck,hfk,q2o hx0]
  ·rcases List.mem_append.1 hx with hx | hx
   ·exact hk x hx
   ·rw [List.mem_singleton.1 hx];exact e3
 | some q=>
  obtain ⟨i,vv,bn⟩:=q
  rw [hf] at h4 hfk
  obtain ⟨kk,hi,hkk⟩:=q45 hf
  have hlt:i<arr.size:=by rw [← hl];exact (List.getElem?_eq_some_iff.1 hi).1
  have hme:=hm i _ _ hi (Array.getElem?_eq_getElem hlt)
  have hsb:=sameBits_of (hk _ (List.mem_of_getElem? hi)) e3 (by rw [keyEq_symm];exact hkk) hme.1 r2
  simp only [found,Option.map_some] at hfk
  refine ⟨_,?_,kc_map hs he hn hd e2 (arr':=arr.setIfInBounds i { arr[i] with key:=a.eval k',val:=a.eval v' }) (clk':=clk) (es':=es.set i (ev e k,ev e v,bn)) (by simpa using hM.set i (x:=(ev e k,ev e v,bn)) (m:={ arr[i] with key:=a.eval k',val:=a.eval v' }) ⟨r2,r3,hme.2.2⟩) (mem_set hk e3) (q5f _ _) h4⟩
  have hmod:=modify_eq hlt (fun e=>{ e with key:=a.eval k',val:=a.eval v' })
  simp [Instr.mapUpdate,run_underlying hu,q2p hx0,hck,hfk,q2o hx0,Instr.keyThatStays,hlt,hsb,hmod]
theorem sound_mupd (hs:Sim R S w) (he:REnv R w e a.tmps) (hn:a.tmps.size=N) {op:Oper} (hd:q32 op.dst N) {M:Bool×List EK} {m k v:SX} (hok:eok P (.mupd M m k v) op.op=true) (h:aeff P (.mupd M m k v) op.dst K Qp e S) :
  op.wp P a w (KC R S w a N K) Qc:=by
 obtain ⟨dst,op,ty,pos,aft,gd⟩:=op
 cases op<;>simp only [eok] at hok<;>try (cases hok;done)
 all_goals
  rename_i t m' k' v'
  simp only [Bool.and_eq_true] at hok
  obtain ⟨⟨⟨h0,h1⟩,h2⟩,h3⟩:=hok
  cases hmt:mapT P t with
  | none=>rw [hmt] at h0;cases h0
  | some q=>
   obtain ⟨kt,et⟩:=q
   rw [hmt] at h0
   obtain ⟨w',hr,hk⟩:=run_mapUpdate hs he hn hd hmt (by simpa using h0) h1 h2 h3 h
   unfold Oper.wp
   simp only [execOp,Sem.run_bind,hr,Result.andThen_ok,Sem.run_pure,Oper.upon]
   exact hk
theorem sound_ment (hs:Sim R S w) (he:REnv R w e a.tmps) (hn:a.tmps.size=N) {op:Oper} (hd:q32 op.dst N) {M:Bool×List EK} {z:AV} {m k:SX} (hok:eok P (.ment M z m k) op.op=true) (h:aeff P (.ment M z m k) op.dst K Qp e S) :
  op.wp P a w (KC R S w a N K) Qc:=by
 obtain ⟨dst,op,ty,pos,aft,gd⟩:=op
 cases op<;>simp only [eok] at hok<;>try (cases hok;done)
 rename_i t m' k'
 simp only [Bool.and_eq_true] at hok
 obtain ⟨⟨h0,h1⟩,h2⟩:=hok
 cases hmt:mapT P t with
 | none=>rw [hmt] at h0;cases h0
 | some q=>
  obtain ⟨kt,et⟩:=q
  rw [hmt] at h0
  simp only [Bool.and_eq_true] at h0
  obtain ⟨hK0,hz0⟩:=h0
  have hK:keyT P kt=some M:=by simpa using hK0
  cases hzt:q3x P et with
  | none=>rw [hzt] at hz0;cases hz0
  | some zv=>
   rw [hzt] at hz0
   have hzr:∀ w':World,(zeroValue et).run P w'=.ok zv w':=by
    intro w'
    unfold q3x at hzt
    cases hi:P.info? et with
    | none=>rw [hi] at hzt;cases hzt
    | some i=>rw [hi] at hzt;simp at hzt;simp [zeroValue,typeInfo,hi,hzt]
   have hzz:=cok_rv hz0 R w
   obtain ⟨b,es,clk,e1,e2,e3,h4⟩:=h
   have r1:=q1e h1 he
   have r2:=q1e h2 he
   rw [e1] at r1
   generalize hz:a.eval m'=zm at r1
   cases r1
   have hu:=mapT_inv hmt
   obtain ⟨arr,hx0,hl,hm,hk,hM⟩:=q8u hs e2
   have hck:=q7g hK e3 r2 false w
   have hfk:=q3f hK e3 r2 hM hk w
   unfold Oper.wp
   cases hf:q0q es (ev e k) with
   | none=>
    rw [hf] at h4 hfk
    simp only [found,Option.map_none] at hfk
    have hr:(Instr.mapEntry t (.map (some b)) (a.eval k')).run P w=.ok (.tuple #[zv,.int .i64 clk]) { w with heap:=w.heap.setIfInBounds b (.map (arr.push { key:=a.eval k',val:=zv,born:=clk }) (clk+1)) }:=by
     simp [Instr.mapEntry,run_underlying hu,q2p hx0,hck,hfk,q2o hx0,hzr,goInt]
    simp only [execOp,hz,Sem.run_bind,hr,Result.andThen_ok,Sem.run_pure,Oper.upon]
    exact kc_map hs he hn hd e2 (arr':=arr.push { key:=a.eval k',val:=zv,born:=clk }) (clk':=clk+1) (es':=es++[(ev e k,z,clk)]) (by simpa using hM.snoc (x:=(ev e k,z,clk)) (m:={ key:=a.eval k',val:=zv,born:=clk }) ⟨r2,hzz,rfl⟩) (fun x hx=>by
     rcases List.mem_append.1 hx with hx | hx
     ·exact hk x hx
     ·rw [List.mem_singleton.1 hx];exact e3) (RV.tup_iff.2 ⟨_,rfl,.cons hzz (.cons (.int _ _) .nil)⟩) h4
   | some q=>
    obtain ⟨i,vv,bn⟩:=q
    rw [hf] at h4 hfk
    obtain ⟨kk,hi,hkk⟩:=q45 hf
    have hlt:i<arr.size:=by rw [← hl];exact (List.getElem?_eq_some_iff.1 hi).1
    have hme:=hm i _ _ hi (Array.getElem?_eq_getElem hlt)
    have hsb:=sameBits_of (hk _ (List.mem_of_getElem? hi)) e3 (by rw [keyEq_symm];exact hkk) hme.1 r2
    simp only [found,Option.map_some] at hfk
    have hr:(Instr.mapEntry t (.map (some b)) (a.eval k')).run P w=.ok (.tuple #[arr[i].val,.int .i64 bn]) { w with heap:=w.heap.setIfInBounds b (.map (arr.setIfInBounds i { arr[i] with key:=a.eval k' }) clk) }:=by
     have hb:arr[i].born=bn:=hme.2.2
     simp [Instr.mapEntry,run_underlying hu,q2p hx0,hck,hfk,q2o hx0,Instr.keyThatStays,hlt,hsb,modify_eq hlt,goInt,hb]
    simp only [execOp,hz,Sem.run_bind,hr,Result.andThen_ok,Sem.run_pure,Oper.upon]
    exact kc_map hs he hn hd e2 (arr':=arr.setIfInBounds i { arr[i] with key:=a.eval k' }) (clk':=clk) (es':=es.set i (ev e k,vv,bn)) (by simpa using hM.set i (x:=(ev e k,vv,bn)) (m:={ arr[i] with key:=a.eval k' }) ⟨r2,hme.2.1,hme.2.2⟩) (mem_set hk e3) (RV.tup_iff.2 ⟨_,rfl,.cons hme.2.1 (.cons (.int _ _) .nil)⟩) h4
theorem q88:∀ {es:List (AV×AV×Nat)} {ms:List MapEntry},RMEs R w es ms→∀ (bn:Nat),ms.findIdx? (fun m=>(m.born:Int)==(bn:Int))=es.findIdx? (fun x=>x.2.2==bn)
 | _,_,.nil,bn=>rfl
 | _,_,.cons h1 h2,bn=>by
  rw [List.findIdx?_cons,List.findIdx?_cons,q88 h2 bn]
  rename_i e m es ms
  have:((m.born:Int)==(bn:Int))=(e.2.2==bn):=by
   rw [h1.2.2]
   rw [Bool.eq_iff_iff,beq_iff_eq,beq_iff_eq]
   omega
  rw [this]
theorem sound_mst (hs:Sim R S w) (he:REnv R w e a.tmps) (hn:a.tmps.size=N) {op:Oper} (hd:q32 op.dst N) {m s v:SX} (hok:eok P (.mst m s v) op.op=true) (h:aeff P (.mst m s v) op.dst K Qp e S) :
  op.wp P a w (KC R S w a N K) Qc:=by
 obtain ⟨dst,op,ty,pos,aft,gd⟩:=op
 cases op<;>simp only [eok] at hok<;>try (cases hok;done)
 rename_i t m' s' v'
 simp only [Bool.and_eq_true] at hok
 obtain ⟨⟨h1,h2⟩,h3⟩:=hok
 obtain ⟨b,M,es,clk,i,kk,vv,bn,e1,e2,e3,e4,e5,h4⟩:=h
 have r1:=q1e h1 he
 have r2:=q1e h2 he
 have r3:=q1e h3 he
 rw [e1] at r1
 rw [e3] at r2
 have hs':=r2.int_inv
 generalize hz:a.eval m'=zm at r1
 cases r1
 obtain ⟨arr,hx0,hl,hm,hk,hM⟩:=q8u hs e2
 have hlt:i<arr.size:=by rw [← hl];exact (List.getElem?_eq_some_iff.1 e5).1
 have hme:=hm i _ _ e5 (Array.getElem?_eq_getElem hlt)
 have hfi:arr.findIdx? (fun m=>(m.born:Int)==(bn:Int))=some i:=by
  have:=q88 hM bn
  rw [e4,← List.findIdx?_toArray] at this
  exact this
 have hr:(Instr.entryStore t (.map (some b)) (.int .i64 bn) (a.eval v')).run P w=.ok () { w with heap:=w.heap.setIfInBounds b (.map (arr.setIfInBounds i { arr[i] with val:=a.eval v' }) clk) }:=by
  simp [Instr.entryStore,q2p hx0,asInt,asIntOf,hfi,modify_eq hlt,q2o hx0]
 unfold Oper.wp
 simp only [execOp,hz,hs',Sem.run_bind,hr,Result.andThen_ok,Sem.run_pure,Oper.upon]
 exact kc_map hs he hn hd e2 (arr':=arr.setIfInBounds i { arr[i] with val:=a.eval v' }) (clk':=clk) (es':=es.set i (kk,ev e v,bn)) (by simpa using hM.set i (x:=(kk,ev e v,bn)) (m:={ arr[i] with val:=a.eval v' }) ⟨hme.1,r3,hme.2.2⟩) (mem_set hk (hk _ (List.mem_of_getElem? e5):q0m M kk=true)) (q5f _ _) h4
theorem sound_mdel (hs:Sim R S w) (he:REnv R w e a.tmps) (hn:a.tmps.size=N) {op:Oper} (hd:q32 op.dst N) {M:Bool×List EK} {m k:SX} (hok:eok P (.mdel M m k) op.op=true) (h:aeff P (.mdel M m k) op.dst K Qp e S) :
  op.wp P a w (KC R S w a N K) Qc:=by
 obtain ⟨dst,op,ty,pos,aft,gd⟩:=op
 cases op<;>simp only [eok] at hok<;>try (cases hok;done)
 rename_i c
 obtain ⟨callee,args,argTypes⟩:=c
 simp only [Bool.and_eq_true] at hok
 obtain ⟨h1,h2⟩:=hok
 have hc:callee=.builtin .delete:=by
  cases callee with
  | builtin b=>cases b<;>first | rfl | (simp at h1)
  | _=>simp at h1
 subst hc
 obtain ⟨l⟩:=args
 cases hat:argTypes[0]? with
 | none=>
  rw [hat] at h2
  split at h2<;>simp_all
 | some t=>
  rw [hat] at h2
  match l,h2 with
  | [m',k'],h2=>
   simp only [Bool.and_eq_true] at h2
   obtain ⟨⟨g1,g2⟩,g3⟩:=h2
   cases hmt:mapT P t with
   | none=>rw [hmt] at g3;cases g3
   | some q=>
    obtain ⟨kt,et⟩:=q
    rw [hmt] at g3
    have hK:keyT P kt=some M:=by simpa using g3
    obtain ⟨b,es,clk,e1,e2,e3,h4⟩:=h
    have r1:=q1e g1 he
    have r2:=q1e g2 he
    rw [e1] at r1
    generalize hz:a.eval m'=zm at r1
    cases r1
    have hu:=mapT_inv hmt
    obtain ⟨arr,hx0,hl,hm,hk,hM⟩:=q8u hs e2
    have hck:=q7g hK e3 r2 arr.isEmpty w
    have hfk:=q3f hK e3 r2 hM hk w
    unfold Oper.wp
    cases hf:q0q es (ev e k) with
    | none=>
     rw [hf] at h4 hfk
     simp only [found,Option.map_none] at hfk
     have hr:(Builtin.delete_ argTypes ty #[.map (some b),a.eval k']).run P w=.ok (.tuple #[]) { w with heap:=w.heap.setIfInBounds b (.map arr clk) }:=by
      simp [Builtin.delete_,hat,run_underlying hu,q2p hx0,hck,hfk,q2o hx0]
     simp [execOp,resolve,invoke,builtin,hz,hr,Oper.upon,Result.andThen]
     exact kc_map hs he hn hd e2 (arr':=arr) (clk':=clk) (es':=es) hM hk (q5f _ _) h4
    | some q=>
     obtain ⟨i,vv,bn⟩:=q
     rw [hf] at h4 hfk
     simp only [found,Option.map_some] at hfk
     have hr:(Builtin.delete_ argTypes ty #[.map (some b),a.eval k']).run P w=.ok (.tuple #[]) { w with heap:=w.heap.setIfInBounds b (.map (arr.eraseIdxIfInBounds i) clk) }:=by
      simp [Builtin.delete_,hat,run_underlying hu,q2p hx0,hck,hfk,q2o hx0]
     simp [execOp,resolve,invoke,builtin,hz,hr,Oper.upon,Result.andThen]
     refine kc_map hs he hn hd e2 (arr':=arr.eraseIdxIfInBounds i) (clk':=clk) (es':=es.eraseIdx i) ?_ (fun x hx=>hk x (List.mem_of_mem_eraseIdx hx)) (q5f _ _) h4
     have:(arr.eraseIdxIfInBounds i).toList=arr.toList.eraseIdx i:=by
      unfold Array.eraseIdxIfInBounds
      split
      ·simp
      ·rename_i hge
       rw [List.eraseIdx_of_length_le (by simpa using hge)]
     rw [this]
     exact hM.erase i
  | [],h2=>simp at h2
  | [_],h2=>simp at h2
  | _ :: _ :: _ :: _,h2=>simp at h2
theorem q7s {f:Nat} (h:q6y P f=true) (args:Array Value):(callFunc f args).run P w=.ok (.enter f args) w:=by
 unfold q6y at h
 cases hf:P.funcs[f]? with
 | none=>rw [hf] at h;cases h
 | some fn=>
  rw [hf] at h
  simp only [Bool.and_eq_true,Bool.not_eq_true',Option.isSome_iff_ne_none] at h
  have hn' : ¬ fn.name = "runtime.NumGoroutine" := by simpa using h.1
  simp [callFunc,hf,hn',h.2]
theorem CallsX.calls {f:Nat} {vs:Array Value} {R:Ending→World→Prop} (h:CallsX P f vs w R) (hok:q6y P f=true):Calls P f vs w R:=by
 rcases h with ⟨-,h⟩ | ⟨v,w',h1,-⟩
 ·exact h
 ·rw [q7s hok] at h1;cases h1
theorem sound_call (hs:Sim R S w) (he:REnv R w e a.tmps) (hn:a.tmps.size=N) {op:Oper} (hd:q32 op.dst N) {f:SX} {xs:List SX} (hok:eok P (.call f xs) op.op=true) (h:aeff P (.call f xs) op.dst K Qp e S) (hQ:QC R S w a Qp Qc) :
  op.wp P a w (KC R S w a N K) Qc:=by
 obtain ⟨dst,op,ty,pos,aft,gd⟩:=op
 cases op<;>simp only [eok] at hok<;>try (cases hok;done)
 rename_i c
 obtain ⟨callee,args,argTypes⟩:=c
 simp only [Bool.and_eq_true] at hok
 obtain ⟨h1,h2⟩:=hok
 cases callee with
 | invoke r m=>cases h1
 | builtin b=>cases h1
 | value f'=>
  simp only at h1
  obtain ⟨fid,fi,ca,Q,e1,hc,hq⟩:=h
  have r1:=q1e h1 he
  rw [e1] at r1
  generalize hz:a.eval f'=zf at r1
  cases r1
  rename_i vs us l1 l2 q1 q2
  have hvs:RVs R w fi vs.toList:=⟨by simpa using l1,fun i u hi=>by simpa using l2 i u hi⟩
  have hus:RVs R w ca us.toList:=⟨by simpa using q1,fun i u hi=>by simpa using q2 i u hi⟩
  have hxs:=xsok_rv (fun x y h=>q1e h he) h2
  have hall:RVs R w (fi++xs.map (ev e)++ca) (vs++args.map a.eval++us).toList:=by
   have:=(hvs.append hxs).append hus
   simpa using this
  rcases hc R w _ hs hall with ⟨hok,hcall⟩ | ⟨rv,w',hrun0,R',S',ae,he1,he2,he3,he4⟩
  ·unfold Oper.wp
   have hrun:(execOp a.eval ⟨dst,.call { callee:=.value f',args,argTypes },ty,pos,aft,gd⟩).run P w=.ok (.enter fid (vs++args.map a.eval++us)) w:=by
    simp [execOp,resolve,hz,Deferred.ofValue,invoke,q7s hok]
   rw [hrun]
   simp only [Oper.upon]
   refine hcall.mono fun en w' ⟨R',S',ae,he1,he2,he3,he4⟩=>?_
   have:=hq ae S' he2
   cases ae with
   | ret u=>
    cases en with
    | returned v=>exact ⟨R',S',_,this,Rel.put hs he hn he3 he4 hd he1⟩
    | panicked ch=>cases he1
    | outgrown=>cases he1
   | pan u=>
    cases en with
    | returned v=>cases he1
    | outgrown=>cases he1
    | panicked ch=>
     match ch,he1 with
     | [⟨v,false,false⟩],he1=>exact hQ u v R' S' w' this he1 he3 he4
  ·unfold Oper.wp
   have hrun:(execOp a.eval ⟨dst,.call { callee:=.value f',args,argTypes },ty,pos,aft,gd⟩).run P w=.ok (.value rv) w':=by
    rw [Array.append_assoc] at hrun0
    simp [execOp,resolve,hz,Deferred.ofValue,invoke,hrun0]
   rw [hrun]
   simp only [Oper.upon]
   have:=hq ae S' he2
   cases ae with
   | ret u=>exact ⟨R',S',_,this,Rel.put hs he hn he3 he4 hd he1⟩
   | pan u=>cases he1
theorem sound_panic (hs:Sim R S w) (he:REnv R w e a.tmps) {op:Oper} {x:SX} (hok:eok P (.panic x) op.op=true) (h:aeff P (.panic x) op.dst K Qp e S) (hQ:QC R S w a Qp Qc) {K':Act→World→Prop}:op.wp P a w K' Qc:=by
 obtain ⟨dst,op,ty,pos,aft,gd⟩:=op
 cases op<;>simp only [eok] at hok<;>try (cases hok;done)
 rename_i y
 obtain ⟨t,v,e1,hq⟩:=h
 have r1:=q1e hok he
 have r2:=r1
 rw [e1] at r2
 generalize hz:a.eval y=zy at r1 r2
 cases r2
 unfold Oper.wp
 simp only [execOp,hz,Instr.panic,goPanic,Sem.run_bind,Sem.run,Result.andThen,Oper.upon]
 exact hQ _ _ R S w hq r1 hs (Step.refl _ _ _)
theorem flatten_get {sz:Nat} (h0:0<sz):∀ (xs:List (List AV)),(∀ (i:Nat) (cs:List AV),xs[i]?=some cs→cs.length=sz)→∀ k,xs.flatten[k]?=(xs[k / sz]?).bind fun c=>c[k % sz]?
 | [],_,k=>by simp
 | c :: xs,h,k=>by
  have hc:=h 0 c rfl
  have ih:=flatten_get h0 xs fun i cs hi=>h (i+1) cs (by simpa using hi)
  rw [List.flatten_cons]
  rcases Nat.lt_or_ge k sz with hk | hk
  ·rw [List.getElem?_append_left (by omega),Nat.div_eq_of_lt hk,Nat.mod_eq_of_lt hk]
   simp
  ·rw [List.getElem?_append_right (by omega),hc,ih]
   have e1:k / sz=(k-sz) / sz+1:=by
    rw [Nat.div_eq_sub_div h0 hk]
   have e2:k % sz=(k-sz) % sz:=Nat.mod_eq_sub_mod hk
   rw [e1,e2]
   simp
theorem appX_open (hs:Sim R S w) {x:AV} {v:Value} (hv:RV R w x v) {sz m:Nat} (h0:0<sz) {news:List AV} (h:appX S sz x=some (m,news)) :
  ∃ A c vs,v=.slice A m c∧RVs R w news vs∧vs.length=m * sz∧(m=0∨∃ ad,A=some ad∧∀ (j:Nat) u,vs[j]?=some u→w.cell? (ad.add j)=some u):=by
 unfold appX at h
 split at h
 ·cases h
  cases hv
  exact ⟨none,0,[],rfl,.nil,by simp,.inl rfl⟩
 ·rename_i sz' xs
  split at h
  ·rename_i e
   subst e
   cases h
   cases hv with
   | sl0 _ A c=>exact ⟨A,c,[],rfl,.nil,by simp,.inl rfl⟩
   | sl _ _ a n c f hxn hn hR hl hc hr=>
    subst hxn
    refine ⟨some a,c,(List.range (xs.length * sz')).map (fun k=>f (k / sz') (k % sz')),rfl,⟨?_,fun k u hk=>?_⟩,by simp,.inr ⟨a,rfl,fun k u hk=>?_⟩⟩
    ·have key:∀ (xs:List (List AV)),(∀ (i:Nat) (cs:List AV),xs[i]?=some cs→cs.length=sz')→xs.flatten.length=xs.length * sz':=by
      intro xs
      induction xs with
      | nil=>intro _;simp
      | cons c xs ih=>
       intro h
       have:=h 0 c rfl
       have:=ih fun i cs hi=>h (i+1) cs (by simpa using hi)
       rw [List.flatten_cons,List.length_append,List.length_cons,Nat.add_mul,Nat.one_mul]
       omega
     rw [key xs hl];simp
    ·rw [flatten_get h0 xs hl] at hk
     obtain ⟨c1,hc1,hc2⟩:=Option.bind_eq_some_iff.1 hk
     have h1:=(List.getElem?_eq_some_iff.1 hc1).1
     have hlt:k<xs.length * sz':=(Nat.div_lt_iff_lt_mul h0).1 h1
     simpa [hlt] using hr _ _ _ _ hc1 hc2
    ·have hlt:k<xs.length * sz':=by
      have:=(List.getElem?_eq_some_iff.1 hk).1
      simpa using this
     have hk':f (k / sz') (k % sz')=u:=by simpa [hlt] using hk
     rw [← hk']
     have:=hc (k / sz') (k % sz') ((Nat.div_lt_iff_lt_mul h0).2 hlt) (Nat.mod_lt _ h0)
     rwa [Nat.mul_comm (k / sz') sz',Nat.div_add_mod] at this
  ·cases h
 ·rename_i b off m' cap
  cases hv
  split at h
  ·rename_i t cs tot hb
   split at h
   ·rename_i hl
    cases h
    obtain ⟨a,vs,e,hvs,hc⟩:=cells_at hs (RV.ptr (R:=R) (w:=w) b off) (cs:=cs.drop off) (by simp [cellsOf,hb])
    cases e
    refine ⟨_,_,vs.take (m * sz),rfl,hvs.take _,?_,.inr ⟨_,rfl,fun j u hj=>hc j u ?_⟩⟩
    ·have:=hvs.1
     simp at this
     simp;omega
    ·rw [List.getElem?_take] at hj
     split at hj
     ·exact hj
     ·cases hj
   ·cases h
  ·cases h
 ·cases h
theorem Sim.grow {w':World} (hs:Sim R S w) {b:Nat} {o0:AObj} (hb:sget S b=some o0) (hg:w.grownBy w' (some b)) {g:Nat} {o:AObj} {x:Obj} (hx:w'.heap[g]?=some x) (hgb:g=b∨w.heap.size≤g) (ho:RO R w' o x) :
  Sim R (supd (sdel S b) g o) w'∧Step R S w R (supd (sdel S b) g o) w':=by
 have hold:∀ k,k<w.heap.size→k≠b→w'.heap[k]?=w.heap[k]?:=fun k hk hne=>hg.block k hk (by simpa using hne)
 have hRw:∀ k,R k→w'.heap[k]?=w.heap[k]?:=fun k hk=>hold k (hs.ro k hk).2 (by rintro rfl;rw [(hs.ro _ hk).1] at hb;cases hb)
 refine ⟨⟨fun c o1 hc=>?_,fun c hc=>⟨?_,Nat.lt_of_lt_of_le (hs.ro c hc).2 hg.size⟩⟩,⟨hg.size,hg.os,hg.tape,hg.output,fun k hk hn=>⟨hold k hk (by rintro rfl;rw [hn] at hb;cases hb),?_⟩,fun _ h=>h,fun _ h=>.inl h⟩⟩
 ·by_cases e:g=c
  ·subst e
   rw [q01,if_pos rfl] at hc
   cases hc
   exact ⟨x,hx,ho⟩
  ·rw [q01,if_neg e,q0a] at hc
   split at hc
   ·cases hc
   ·rename_i hne
    obtain ⟨y,hy,hr⟩:=hs.own c o1 hc
    exact ⟨y,(hold c (hs.lt hc) (Ne.symm hne)).trans hy,hr.step (fun _ h=>h) hRw⟩
 ·have h1:=hs.ro c hc
  have:g≠c:=by
   rintro rfl
   rcases hgb with rfl | h2
   ·rw [h1.1] at hb;cases hb
   ·omega
  rw [q01,if_neg this,q0a]
  split
  ·rfl
  ·exact h1.1
 ·have:g≠k:=by
   rintro rfl
   rcases hgb with rfl | h2
   ·rw [hn] at hb;cases hb
   ·omega
  rw [q01,if_neg this,q0a]
  split
  ·rfl
  ·exact hn
theorem Sim.grow0 {w':World} (hs:Sim R S w) (hg:w.grownBy w' none) {g:Nat} {o:AObj} {x:Obj} (hx:w'.heap[g]?=some x) (hgb:w.heap.size≤g) (ho:RO R w' o x) :
  sget S g=none∧Sim R (supd S g o) w'∧Step R S w R (supd S g o) w':=by
 have hold:∀ k,k<w.heap.size→w'.heap[k]?=w.heap[k]?:=fun k hk=>hg.block k hk (by simp)
 have hnone:sget S g=none:=by
  cases e:sget S g with
  | none=>rfl
  | some o=>have:=hs.lt e;omega
 refine ⟨hnone,⟨fun c o1 hc=>?_,fun c hc=>⟨?_,Nat.lt_of_lt_of_le (hs.ro c hc).2 hg.size⟩⟩,⟨hg.size,hg.os,hg.tape,hg.output,fun k hk hn=>⟨hold k hk,?_⟩,fun _ h=>h,fun _ h=>.inl h⟩⟩
 ·by_cases e:g=c
  ·subst e
   rw [q01,if_pos rfl] at hc
   cases hc
   exact ⟨x,hx,ho⟩
  ·rw [q01,if_neg e] at hc
   obtain ⟨y,hy,hr⟩:=hs.own c o1 hc
   exact ⟨y,(hold c (hs.lt hc)).trans hy,hr.step (fun _ h=>h) fun k hk=>hold k (hs.ro k hk).2⟩
 ·have h1:=hs.ro c hc
  have:g≠c:=by rintro rfl;omega
  rw [q01,if_neg this]
  exact h1.1
 ·have:g≠k:=by rintro rfl;omega
  rw [q01,if_neg this]
  exact hn
theorem q4x {t T ty:Nat} (hu:P.underlying T=some (.slice t)) {sz:Nat} (hsz:szT P t=some sz) (A:Option Addr) (n c:Nat) (hn:n≤c) (B:Option Addr) (c':Nat) :
  (Builtin.append_ #[T,T] ty #[.slice A n c,.slice B 0 c']).run P w=.ok (.slice A n c) w:=by
 have hf:∀ w':World,(Builtin.firstCells sz 0 (.slice B 0 c')).run P w'=.ok #[] w':=by
  intro w'
  cases B with
  | none=>simp [Builtin.firstCells]
  | some ad=>simp [Builtin.firstCells,loadCells,loadCellsFrom]
 cases A with
 | none=>simp [Builtin.append_,run_underlying hu,q0x hsz,Builtin.lenOf,hf,hn]
 | some ad=>simp [Builtin.append_,run_underlying hu,q0x hsz,Builtin.lenOf,hf,hn,storeCells]
theorem sound_app (hs:Sim R S w) (he:REnv R w e a.tmps) (hn:a.tmps.size=N) {op:Oper} (hd:q32 op.dst N) {t sz bytes:Nat} {s x:SX} (hok:eok P (.app t sz bytes s x) op.op=true) (h:aeff P (.app t sz bytes s x) op.dst K Qp e S) :
  op.wp P a w (KC R S w a N K) Qc:=by
 obtain ⟨dst,op,ty,pos,aft,gd⟩:=op
 cases op<;>simp only [eok] at hok<;>try (cases hok;done)
 rename_i c
 obtain ⟨callee,args,argTypes⟩:=c
 simp only [Bool.and_eq_true,decide_eq_true_eq,beq_iff_eq] at hok
 obtain ⟨⟨⟨⟨⟨⟨h1,h2⟩,h3⟩,h4⟩,h5⟩,h6⟩,h7⟩:=hok
 have hc:callee=.builtin .append:=by
  cases callee with
  | builtin b=>cases b<;>first | rfl | (simp at h1)
  | _=>simp at h1
 subst hc
 obtain ⟨l⟩:=args
 obtain ⟨lt⟩:=argTypes
 match l,lt,h2 with
 | [s',x'],[T,T'],h2=>
  simp only [Bool.and_eq_true,beq_iff_eq] at h2
  obtain ⟨⟨⟨rfl,g1⟩,g2⟩,g3⟩:=h2
  have hu:=q3i g1
  obtain ⟨i,hi,hib,his,z,hiz,hzs⟩:∃ i,P.info? t=some i∧i.bytes=bytes∧i.size=sz∧∃ z,i.zero=some z∧z.cells.size=sz:=by
   unfold bytesT at h4
   unfold szT at h3
   unfold zOk q66 q3x at h5
   cases hi:P.info? t with
   | none=>rw [hi] at h4;cases h4
   | some i=>
    rw [hi] at h3 h4 h5
    simp at h3 h4
    cases hz:i.zero with
    | none=>rw [Option.bind_some,hz] at h5;cases h5
    | some z=>rw [Option.bind_some,hz] at h5;exact ⟨i,rfl,h4,h3,z,hz,by simpa using h5⟩
  obtain ⟨m,news,e1,e2,h⟩:=h
  have r1:=q1e g2 he
  have r2:=q1e g3 he
  obtain ⟨A,c,vs,hx',hvs,hvl,hcell⟩:=appX_open hs r2 h6 e1
  have hone:=q51 e2 hvs
  have hexec:∀ v1 w1,(Builtin.append_ #[T,T] ty #[a.eval s',.slice A m c]).run P w=.ok v1 w1→∀ K':Act→World→Prop,K' (a.put dst v1) w1→Oper.wp P ⟨dst,.call { callee:=.builtin .append,args:=⟨[s',x']⟩,argTypes:=⟨[T,T]⟩ },ty,pos,aft,gd⟩ a w K' Qc:=by
   intro v1 w1 hr K' hK
   unfold Oper.wp
   have:(execOp a.eval ⟨dst,.call { callee:=.builtin .append,args:=⟨[s',x']⟩,argTypes:=⟨[T,T]⟩ },ty,pos,aft,gd⟩).run P w=.ok (.value v1) w1:=by
    simp [execOp,resolve,invoke,builtin,hx',hr]
   rw [this]
   exact hK
  split at h
  ·rename_i es
   obtain ⟨hby,h⟩:=h
   rw [es] at r1
   generalize hzz:a.eval s'=zs at r1 hexec
   cases r1
   by_cases hm:m=0
   ·subst hm
    simp only [if_true] at h
    refine hexec _ _ (q4x (w:=w) hu h3 none 0 0 (Nat.le_refl _) A c) _ ?_
    exact ⟨R,S,_,h,Rel.put hs he hn hs (Step.refl _ _ _) hd .nils⟩
   ·simp only [if_neg hm] at h
    obtain ⟨ad,rfl,hcl⟩:=hcell.resolve_left hm
    have hmb:m≤m * bytes:=Nat.le_mul_of_pos_right _ h7
    obtain ⟨v',w1,hr,hown,hg,hnil,hat⟩:=run_append_own_at (P:=P) w 0 T ty t i z sz bytes hu hi hiz his hib hzs h6 (.slice none 0 0) 0 [] (World.ownsRow_nil w 0 t sz) ad m c vs hvl hcl hone (by unfold maxLen;omega) (by simpa using hby) (Nat.zero_le _)
    refine hexec _ _ hr _ ?_
    rcases hown.2 with ⟨rfl,h9⟩ | ⟨g,cap,cur,rfl,-,hheap,hcap,hcm,hcs,htake⟩
    ·omega
    ·have hgs:w.heap.size≤g:=by
      rcases hat with h9 | h9
      ·simp [Value.ownBlock] at h9
      ·simp [Value.ownBlock] at h9;omega
     have hg':w.grownBy w1 none:=hg
     have hvs1:RVs R w1 news vs:=hvs.step (fun _ h=>h) fun k hk=>hg'.block k (hs.ro k hk).2 (by simp)
     have hnl:news.length=m * sz:=by rw [hvs.1,hvl]
     have hro:RO R w1 (.cells t news (cap * sz)) (.cells cur t (0,0)):=by
      rw [← hcs]
      refine .cells t news cur vs ?_ hvs1
      rw [hnl]
      simpa using htake
     obtain ⟨q1,q2,q3⟩:=hs.grow0 hg' hheap hgs hro
     simp only [Nat.zero_add] at hcap
     refine ⟨R,_,_,h g cap q1 hcap hcm,?_⟩
     simp only [Nat.zero_add]
     exact Rel.put hs he hn q2 q3 hd (.own _ _ _ _)
  ·rename_i b n cap es
   obtain ⟨cs,hb,k1,k2,k3,hby,h⟩:=h
   rw [es] at r1
   generalize hzz:a.eval s'=zs at r1 hexec
   cases r1
   obtain ⟨o,ho,hr0⟩:=hs.own b _ hb
   generalize htot:cap * sz=tot at hb hr0
   cases hr0
   rename_i arr vs0 hvs0 hrv0
   have hown0:w.ownsRow 0 t sz (.slice (some ⟨b,0,none⟩) n cap) n (vs0.take (n * sz)):=by
    have hl0:vs0.length=cs.length:=hrv0.1.symm
    refine ⟨by simp;omega,.inr ⟨b,cap,arr,rfl,Nat.zero_le _,ho,k1,k2,htot.symm,?_⟩⟩
    rw [← hvs0,List.take_take,Nat.min_eq_left k3]
   have hmb:n+m≤(n+m) * bytes:=Nat.le_mul_of_pos_right _ h7
   have hold:RVs R w (cs.take (n * sz)++news) (vs0.take (n * sz)++vs):=(hrv0.take _).append hvs
   have hfin:∀ (w1:World) (g cap':Nat) (cur:Array Value),w.grownBy w1 (some b)→w1.heap[g]?=some (.cells cur t (0,0))→(g=b∨w.heap.size≤g)→n+m≤cap'→cap'≤maxLen→cur.size=cap' * sz→cur.toList.take ((n+m) * sz)=vs0.take (n * sz)++vs →
     KC R S w a N K (a.put dst (.slice (some ⟨g,0,none⟩) (n+m) cap')) w1:=by
    intro w1 g cap' cur hg hheap hgb hcap hcm hcs htake
    have hRw:∀ k,R k→w1.heap[k]?=w.heap[k]?:=fun k hk=>hg.block k (hs.ro k hk).2 (by
     intro e
     simp only [Option.some.injEq] at e
     subst e
     rw [(hs.ro _ hk).1] at hb;cases hb)
    have hro:RO R w1 (.cells t (cs.take (n * sz)++news) (cap' * sz)) (.cells cur t (0,0)):=by
     rw [← hcs]
     refine .cells t _ cur _ ?_ (hold.step (fun _ h=>h) hRw)
     have:(cs.take (n * sz)++news).length=(n+m) * sz:=by
      rw [List.length_append,List.length_take,Nat.min_eq_left k3,hvs.1,hvl,Nat.add_mul]
     rw [this,htake]
    obtain ⟨q2,q3⟩:=hs.grow hb hg hheap hgb hro
    refine ⟨R,_,_,h g cap' ?_ hcap hcm,Rel.put hs he hn q2 q3 hd (.own _ _ _ _)⟩
    rcases hgb with e | e
    ·exact .inl e
    ·refine .inr ?_
     cases e9:sget S g with
     | none=>rfl
     | some o=>have:=hs.lt e9;omega
   rcases hcell with hm | ⟨ad,rfl,hcl⟩
   ·subst hm
    have hv0:vs=[]:=List.eq_nil_of_length_eq_zero (by simpa using hvl)
    refine hexec _ _ (q4x (w:=w) hu h3 _ n cap k1 A c) _ ?_
    refine hfin w b cap arr (World.grownBy.refl w _) ho (.inl rfl) k1 k2 htot.symm ?_
    rw [hv0,← hvs0,List.append_nil,List.take_take,Nat.min_eq_left k3]
    rfl
   ·obtain ⟨v',w1,hr,hown,hg,hnil,hat⟩:=run_append_own_at (P:=P) w 0 T ty t i z sz bytes hu hi hiz his hib hzs h6 _ n _ hown0 ad m c vs hvl hcl hone (by unfold maxLen;omega) hby (Nat.zero_le _)
    refine hexec _ _ hr _ ?_
    rcases hown.2 with ⟨rfl,h9⟩ | ⟨g,cap',cur,rfl,-,hheap,hcap,hcm,hcs,htake⟩
    ·have:=(hnil.1 rfl).1
     cases this
    ·refine hfin w1 g cap' cur hg hheap ?_ hcap hcm hcs htake
     rcases hat with h9 | h9
     ·simp [Value.ownBlock] at h9;exact .inl h9
     ·simp [Value.ownBlock] at h9;exact .inr (by omega)
  ·exact h.elim
 | [],_,h2=>simp at h2
 | [_],_,h2=>simp at h2
 | _ :: _ :: _ :: _,_,h2=>simp at h2
 | [_,_],[],h2=>simp at h2
 | [_,_],[_],h2=>simp at h2
 | [_,_],_ :: _ :: _ :: _,h2=>simp at h2
def q5q (sz:Nat):Nat→List AV→List (List AV)
 | 0,_=>[]
 | n+1,cs=>cs.take sz :: q5q sz n (cs.drop sz)
theorem q6x {sz:Nat}:∀ {n:Nat} {cs:List AV},(q5q sz n cs).length=n
 | 0,_=>rfl
 | n+1,cs=>by rw [q5q,List.length_cons,q6x]
theorem q7r {sz:Nat}:∀ {n:Nat} {cs:List AV} {i:Nat} {c:List AV},(q5q sz n cs)[i]?=some c→i<n∧c=(cs.drop (i * sz)).take sz
 | 0,_,i,c,h=>by simp [q5q] at h
 | n+1,cs,0,c,h=>by simp [q5q] at h;exact ⟨by omega,by simp [h]⟩
 | n+1,cs,i+1,c,h=>by
  simp only [q5q,List.getElem?_cons_succ] at h
  obtain ⟨h1,h2⟩:=q7r h
  refine ⟨by omega,?_⟩
  rw [h2,List.drop_drop,Nat.add_mul,Nat.one_mul,Nat.add_comm]
theorem q89 {g:SX→AV} {sz:Nat}:∀ {xs:List SX},q7x g sz xs→q5q sz xs.length (q56 g xs)=xs.map fun x=>q08 (g x)
 | [],_=>rfl
 | x :: xs,h=>by
  obtain ⟨h1,-,h3⟩:=h
  rw [List.length_cons,q56,q5q,List.map_cons,← h1,List.take_left,List.drop_left,h1,q89 h3]
def orB (R:Nat→Prop) (b:Nat):Nat→Prop:=fun c=>R c∨c=b
theorem Sim.freeze (h:Sim R S w) {b:Nat} {t tot:Nat} {cs:List AV} (hb:sget S b=some (.cells t cs tot)) :
  Sim (orB R b) (sdel S b) w∧Step R S w (orB R b) (sdel S b) w∧(∀ off,RV (orB R b) w (.rop (cs.drop off)) (.pointer (some ⟨b,off,none⟩))) ∧
  ∀ (sz off n cap:Nat),n≤cap→off+n * sz≤cs.length→RV (orB R b) w (.sl sz (q5q sz n (cs.drop off))) (.slice (some ⟨b,off,none⟩) n cap):=by
 obtain ⟨x,hx,hr⟩:=h.own b _ hb
 cases hr
 rename_i arr vs hvs hrv
 have hmono:∀ k,R k→orB R b k:=fun k hk=>.inl hk
 have hrv':RVs (orB R b) w cs vs:=hrv.step hmono fun _ _=>rfl
 have hcell:∀ i,i<cs.length→w.cell? ⟨b,i,none⟩=some (vs.getD i undef):=fun i hi=>by
  rw [cell_of_row w b i arr t (0,0) hx]
  have hlt:i<vs.length:=by rw [← hrv.1];exact hi
  rw [← hvs] at hlt ⊢
  simp only [List.length_take,Array.length_toList] at hlt
  have h2:i<arr.size:=by omega
  simp [List.getElem?_take,hi,h2]
 refine ⟨⟨fun c o hc=>?_,fun c hc=>?_⟩,⟨Nat.le_refl _,rfl,rfl,rfl,fun k hk hn=>⟨rfl,?_⟩,hmono,fun k hk=>?_⟩,fun off=>?_,fun sz off n cap hn hle=>?_⟩
 ·rw [q0a] at hc
  split at hc
  ·cases hc
  ·obtain ⟨y,hy,hry⟩:=h.own c o hc
   exact ⟨y,hy,hry.step hmono fun _ _=>rfl⟩
 ·rw [q0a]
  rcases hc with hc | rfl
  ·refine ⟨?_,(h.ro c hc).2⟩
   split
   ·rfl
   ·exact (h.ro c hc).1
  ·exact ⟨by rw [if_pos rfl],h.lt hb⟩
 ·rw [q0a]
  split
  ·rfl
  ·exact hn
 ·rcases hk with hk | rfl
  ·exact .inl hk
  ·exact .inr (.inl (by rw [hb];simp))
 ·refine .rop ⟨b,off,none⟩ (cs.drop off) (fun i=>vs.getD (off+i) undef) (fun _=>.inr rfl) (fun i hi=>?_) (fun i u hi=>?_)
  ·rw [q4j]
   rw [List.length_drop] at hi
   exact hcell _ (by omega)
  ·rw [List.getElem?_drop] at hi
   exact hrv'.2 _ _ hi
 ·refine .sl sz _ ⟨b,off,none⟩ n cap (fun i j=>vs.getD (off+(i * sz+j)) undef) q6x hn (.inr rfl) (fun i c hi=>?_) (fun i j hi hj=>?_) (fun i j c u hi hj=>?_)
  ·obtain ⟨h1,h2⟩:=q7r hi
   have h3:(i+1) * sz≤n * sz:=Nat.mul_le_mul_right _ (by omega)
   rw [Nat.add_mul,Nat.one_mul] at h3
   rw [h2,List.length_take,List.length_drop,List.length_drop]
   omega
  ·rw [q4j]
   have h3:(i+1) * sz≤n * sz:=Nat.mul_le_mul_right _ (by omega)
   rw [Nat.add_mul,Nat.one_mul] at h3
   exact hcell _ (by omega)
  ·obtain ⟨h1,h2⟩:=q7r hi
   rw [h2,List.getElem?_take] at hj
   split at hj
   ·rw [List.getElem?_drop,List.getElem?_drop] at hj
    exact hrv'.2 _ _ hj
   ·cases hj
theorem sdel_supd {b:Nat} {o:AObj} (hb:sget S b=none):sdel (supd S b o) b=S:=by
 funext c
 simp only [sdel,supd]
 split
 ·rename_i e;subst e;exact hb.symm
 ·rfl
theorem kc_freeze (hs:Sim R S w) (he:REnv R w e a.tmps) (hd:q32 dst N) {t:Nat} {cs:List AV} {tot:Nat} {u:Nat→AV} {u':AV} (hu:∀ b,sget S b=none→∀ R' w' v,Sim R' (supd S b (.cells t cs tot)) w'→RV R' w' (u b) v→RV (orB R' b) w' u' v)
  (h:K (put e dst u') S) {a':Act} {w':World} (hk:KC R S w a N (fun e' S'=>∃ b,sget S b=none∧S'=supd S b (.cells t cs tot)∧e'=put e dst (u b)) a' w'):KC R S w a N K a' w':=by
 obtain ⟨R',S',e',⟨b,hb,rfl,rfl⟩,hr⟩:=hk
 obtain ⟨f1,f2,-,-⟩:=hr.sim.freeze (b:=b) (by rw [q01,if_pos rfl])
 rw [sdel_supd hb] at f1 f2
 refine ⟨orB R' b,S,_,h,f1,fun k=>?_,hr.step.trans f2,hr.defers,hr.size⟩
 have hold:=(hr.env k).step (R':=orB R' b) (w':=w') (fun _ h=>.inl h) fun _ _=>rfl
 unfold eget at hold ⊢
 cases dst with
 | none=>exact hold
 | some d=>
  by_cases hdk:d=k
  ·subst hdk
   have h1:put e (some d) (u b) d=u b:=by simp [put,q1h]
   have h2:put e (some d) u' d=u':=by simp [put,q1h]
   rw [h2]
   have:=hr.env d
   unfold eget at this
   rw [h1] at this
   exact hu b hb R' w' _ hr.sim this
  ·have h1:∀ x,put e (some d) x k=e k:=fun x=>by simp [put,q1h,hdk]
   rw [h1] at hold ⊢
   exact hold
theorem wp_mono' {op:Oper} {K' K'':Act→World→Prop} (h:∀ a w,K' a w→K'' a w) (hh:op.wp P a w K' Qc):op.wp P a w K'' Qc:=Oper.wp_mono h hh
theorem sound_boxr (hs:Sim R S w) (he:REnv R w e a.tmps) (hn:a.tmps.size=N) {op:Oper} (hd:q32 op.dst N) {t n:Nat} {x:SX} (hok:eok P (.boxr t n x) op.op=true) (h:aeff P (.boxr t n x) op.dst K Qp e S) :
  op.wp P a w (KC R S w a N K) Qc:=by
 obtain ⟨h1,h2,h3⟩:=h
 have hb:=sound_box (P:=P) (K:=fun e' S'=>∃ b,sget S b=none∧S'=supd S b (.cells t (q08 (ev e x)) n)∧e'=put e op.dst (.ptr b 0)) (Qc:=Qc) hs he hn hd (t:=t) (n:=n) (x:=x) (Qp:=Qp)
  (by cases hop:op.op<;>rw [hop] at hok<;>first | (cases hok;done) | exact hok) ⟨h1,h2,fun b hb=>⟨b,hb,rfl,rfl⟩⟩
 refine wp_mono' (fun a' w' hk=>kc_freeze (u:=fun b=>.ptr b 0) hs he hd (fun b hb R' w' v hsim hv=>?_) h3 hk) hb
 cases hv
 have:=(hsim.freeze (b:=b) (by rw [q01,if_pos rfl])).2.2.1 0
 simpa using this
theorem sound_bslicr (hs:Sim R S w) (he:REnv R w e a.tmps) (hn:a.tmps.size=N) {op:Oper} (hd:q32 op.dst N) {t sz:Nat} {xs:List SX} (hok:eok P (.bslicr t sz xs) op.op=true) (h:aeff P (.bslicr t sz xs) op.dst K Qp e S) :
  op.wp P a w (KC R S w a N K) Qc:=by
 obtain ⟨h1,h3⟩:=h
 have hb:=q81 (P:=P) (K:=fun e' S'=>∃ b,sget S b=none∧S'=supd S b (.cells t (q56 (ev e) xs) (xs.length * sz))∧e'=put e op.dst (.own b 0 xs.length xs.length)) (Qc:=Qc) hs he hn hd (t:=t) (sz:=sz) (xs:=xs) (Qp:=Qp)
  (by cases hop:op.op<;>rw [hop] at hok<;>first | (cases hok;done) | exact hok) ⟨h1,fun b hb=>⟨b,hb,rfl,rfl⟩⟩
 refine wp_mono' (fun a' w' hk=>kc_freeze (u:=fun b=>.own b 0 xs.length xs.length) hs he hd (fun b hb R' w' v hsim hv=>?_) h3 hk) hb
 cases hv
 have:=(hsim.freeze (b:=b) (by rw [q01,if_pos rfl])).2.2.2 sz 0 xs.length xs.length (Nat.le_refl _) (by rw [q55 h1];omega)
 rw [List.drop_zero,q89 h1] at this
 exact this
theorem setRow_rv {b off t tot:Nat} {cs us:List AV} {vs':List Value} (hs:Sim R S w) (e2:sget S b=some (.cells t cs tot)) (hcs:RVs R w us vs') (e4:off+us.length≤cs.length) :
  ∃ arr:Array Value,w.heap[b]?=some (.cells arr t (0,0))∧off+vs'.length≤arr.size∧RO R w (.cells t (q1j cs off us) tot) (.cells (arr.toList.take (off+0)++vs'++arr.toList.drop (off+0+vs'.length)).toArray t (0,0)):=by
 obtain ⟨o,ho,hr⟩:=hs.own b _ e2
 cases hr
 rename_i arr vs hvs hrv
 have hl:cs.length≤arr.size:=by
  have h1:=hrv.1
  rw [← hvs] at h1
  simp at h1
  omega
 have hlen:=hcs.1
 refine ⟨arr,ho,by omega,?_⟩
 have hnew:RVs R w (q1j cs off us) ((arr.toList.take (off+0)++vs'++arr.toList.drop (off+0+vs'.length)).take cs.length):=by
  have hf:=fill_rv _ _ hcs cs vs.toArray off (by simpa using hrv) e4
  rw [foldl_cells _ _ _ (by simp;rw [← hlen,← hrv.1];exact e4)] at hf
  have hx:(arr.toList.take (off+0)++vs'++arr.toList.drop (off+0+vs'.length)).take cs.length=vs.toArray.toList.take off++vs'++vs.toArray.toList.drop (off+vs'.length):=by
   rw [← hvs]
   simpa using seg_take arr.toList vs' off cs.length (by rw [← hlen];exact e4) (by simpa using hl)
  rw [hx]
  exact hf
 have hro:=RO.cells (R:=R) (w:=w) t (q1j cs off us) (arr.toList.take (off+0)++vs'++arr.toList.drop (off+0+vs'.length)).toArray _ (by rw [fillA_eq]) hnew
 have hsize:(arr.toList.take (off+0)++vs'++arr.toList.drop (off+0+vs'.length)).toArray.size=arr.size:=by
  simp;omega
 rw [hsize] at hro
 exact hro
theorem sound_copy (hs:Sim R S w) (he:REnv R w e a.tmps) (hn:a.tmps.size=N) {op:Oper} (hd:q32 op.dst N) {sz:Nat} {d x:SX} (hok:eok P (.copy sz d x) op.op=true) (h:aeff P (.copy sz d x) op.dst K Qp e S) :
  op.wp P a w (KC R S w a N K) Qc:=by
 obtain ⟨dst,op,ty,pos,aft,gd⟩:=op
 cases op<;>simp only [eok] at hok<;>try (cases hok;done)
 rename_i c
 obtain ⟨callee,args,argTypes⟩:=c
 simp only [Bool.and_eq_true,decide_eq_true_eq] at hok
 obtain ⟨⟨h1,h2⟩,h3⟩:=hok
 have hc:callee=.builtin .copy:=by
  cases callee with
  | builtin b=>cases b<;>first | rfl | (simp at h1)
  | _=>simp at h1
 subst hc
 obtain ⟨l⟩:=args
 obtain ⟨lt⟩:=argTypes
 match l,lt,h2 with
 | [d',x'],[T,T'],h2=>
  simp only [Bool.and_eq_true] at h2
  obtain ⟨⟨g1,g2⟩,g3⟩:=h2
  split at g1
  ·rename_i t' ht'
   simp only [beq_iff_eq] at g1
   have hu:=q3i ht'
   obtain ⟨b,off,n,cap,t,cs,tot,m,news,e1,e2,e3,e4,e5,hK⟩:=h
   have r1:=q1e g2 he
   have r2:=q1e g3 he
   rw [e1] at r1
   generalize hzz:a.eval d'=zz at r1
   cases r1
   obtain ⟨A,cc,vs,hx',hvs,hvl,hcell⟩:=appX_open hs r2 h3 e3
   have hk:min m n * sz≤m * sz:=Nat.mul_le_mul_right _ (Nat.min_le_left _ _)
   have htl:(vs.take (min m n * sz)).length=min m n * sz:=by rw [List.length_take];omega
   have hone:=q51 e5 (hvs.take (min m n * sz))
   have hl:∀ w',(∀ (j:Nat) u,(vs.take (min m n * sz))[j]?=some u→∀ ad,A=some ad→w'.cell? (ad.add j)=some u)→(Builtin.firstCells sz (min m n) (.slice A m cc)).run P w'=.ok (vs.take (min m n * sz)).toArray w':=fun w' hw'=>by
    cases A with
    | none=>
     have hm:m=0:=by
      rcases hcell with h | ⟨ad,h,-⟩
      ·exact h
      ·cases h
     subst hm
     have:vs=[]:=List.length_eq_zero_iff.1 (by simpa using hvl)
     subst this
     simp [Builtin.firstCells]
    | some ad=>
     have:=run_loadCells_list (P:=P) (w:=w') ad (vs.take (min m n * sz)) fun j u hj=>hw' j u hj ad rfl
     rw [htl] at this
     simp [Builtin.firstCells,this]
   have hlw:=hl w fun j u hj ad hA=>by
    rcases hcell with h | ⟨ad',h,h'⟩
    ·subst h
     simp at hj
    ·rw [hA] at h
     cases h
     rw [List.getElem?_take] at hj
     split at hj
     ·exact h' j u hj
     ·cases hj
   obtain ⟨arr,ho,hfit,hro⟩:=setRow_rv (off:=off) hs e2 (hvs.take (min m n * sz)) (by
    have h1:=(hvs.take (min m n * sz)).1
    rw [h1,htl];exact e4)
   have hst:=run_storeCells_at (P:=P) b off t (vs.take (min m n * sz)) 0 arr w ho (by simpa using hfit) hone
   have hrun:(Builtin.copy_ #[T,T'] ty #[.slice (some ⟨b,off,none⟩) n cap,.slice A m cc]).run P w=.ok (.int .i64 ((min m n:Nat):Int)) (w.setRow b (arr.toList.take (off+0)++vs.take (min m n * sz)++arr.toList.drop (off+0+(vs.take (min m n * sz)).length)).toArray):=by
    have hmin:Nat.min m n=min m n:=rfl
    have hc:(min (m:Int) (n:Int))=((min m n:Nat):Int):=by omega
    simp [Builtin.copy_,run_underlying hu,q0x g1,Builtin.lenOf,hmin,hlw,hst,goInt,hc]
   have hheap:=setRow_heap w b arr (arr.toList.take (off+0)++vs.take (min m n * sz)++arr.toList.drop (off+0+(vs.take (min m n * sz)).length)).toArray t (0,0) ho
   unfold Oper.wp
   have hex:(execOp a.eval ⟨dst,.call { callee:=.builtin .copy,args:=⟨[d',x']⟩,argTypes:=⟨[T,T']⟩ },ty,pos,aft,gd⟩).run P w=.ok (.value (.int .i64 ((min m n:Nat):Int))) (w.setRow b (arr.toList.take (off+0)++vs.take (min m n * sz)++arr.toList.drop (off+0+(vs.take (min m n * sz)).length)).toArray):=by
    simp [execOp,resolve,invoke,builtin,hzz,hx',hrun]
   rw [hex]
   exact kc_set hs he hn hd e2 hheap hro (by simp [World.setRow]) rfl rfl rfl (fun k hk=>by simp [World.setRow,Array.getElem?_setIfInBounds_ne (Ne.symm hk),Array.getElem?_modify,Ne.symm hk]) (u:=.int .i64 ((min m n:Nat):Int)) (.int _ _) hK
  ·cases g1
theorem run_eqns {t el:Nat} (hu:P.underlying t=some (.slice el)) (neg:Bool) (A:Option Addr) (n c:Nat) (w':World) (x':Operand) :
  ((do eqGuard (if neg then .neq else .eql) t x' (.const (.slice none 0 0)) (.slice A n c) (.slice none 0 0);binOp (if neg then .neq else .eql) t (.slice A n c) (.slice none 0 0):Sem Value)).run P w'=.ok (.bool (if neg then !A.isNone else A.isNone)) w':=by
 have hg:eqGuard (if neg then .neq else .eql) t x' (.const (.slice none 0 0)) (.slice A n c) (.slice none 0 0)=pure ():=by
  unfold eqGuard;cases neg<;>rfl
 have he0:∀ d:Nat,(Op.equalIn (d+1) t (.slice A n c) (.slice none 0 0)).run P w'=.ok A.isNone w':=fun d=>by
  cases A<;>simp only [Op.equalIn,Sem.run_bind,run_underlying hu,Result.andThen_ok,Sem.run_pure]<;>rfl
 have he:(Op.equal t (.slice A n c) (.slice none 0 0)).run P w'=.ok A.isNone w':=he0 9999
 have hb:(binOp (if neg then .neq else .eql) t (.slice A n c) (.slice none 0 0)).run P w'=.ok (.bool (if neg then !A.isNone else A.isNone)) w':=by
  cases neg
  ·show ((do pure (.bool (← Op.equal t (.slice A n c) (.slice none 0 0)))):Sem Value).run P w'=_
   rw [Sem.run_bind,he];rfl
  ·show ((do pure (.bool (!(← Op.equal t (.slice A n c) (.slice none 0 0))))):Sem Value).run P w'=_
   rw [Sem.run_bind,he];rfl
 rw [hg]
 simp only [Sem.run_bind,Sem.run_pure,Result.andThen_ok,hb]
theorem q8s {zs:List AV}:∀ {n:Nat},(repA zs n).length=n * zs.length
 | 0=>by simp [repA]
 | n+1=>by rw [repA,List.length_append,q8s,Nat.succ_mul,Nat.add_comm]
theorem repA_one {zs:List AV} (h:ones zs=true):∀ {n:Nat},ones (repA zs n)=true
 | 0=>rfl
 | n+1=>by
  have app:∀ (a b:List AV),ones (a++b)=(ones a&&ones b):=by
   intro a b
   induction a with
   | nil=>rfl
   | cons x a ih=>simp only [List.cons_append,ones,ih,Bool.and_assoc]
  rw [repA,app,h,repA_one h];rfl
def repV (zs:List Value):Nat→List Value
 | 0=>[]
 | n+1=>zs++repV zs n
theorem repA_rv {zs:List AV} {vs:List Value} (h:RVs R w zs vs):∀ {n:Nat},RVs R w (repA zs n) (repV vs n)
 | 0=>.nil
 | n+1=>h.append (repA_rv h)
theorem q65 {z:Array Value}:∀ {n:Nat},(Builtin.zeroCells z n).toList=repV z.toList n
 | 0=>by simp [Builtin.zeroCells,repV]
 | n+1=>by
  have ih:=q65 (z:=z) (n:=n)
  unfold Builtin.zeroCells at ih ⊢
  rw [repV,← ih]
  simp only [Array.toList_map,Array.toList_range]
  have e:(n+1) * z.size=z.size+n * z.size:=by rw [Nat.succ_mul,Nat.add_comm]
  rw [e,List.range_add,List.map_append,List.map_map]
  congr 1
  ·apply List.ext_getElem?
   intro i
   rw [List.getElem?_map]
   by_cases hi:i<z.size
   ·rw [List.getElem?_eq_getElem (by simpa using hi),List.getElem?_eq_getElem (by simpa using hi)]
    simp only [List.getElem_range,Option.map_some,Nat.mod_eq_of_lt hi]
    rw [getElem!_pos z i hi]
    simp
   ·rw [List.getElem?_eq_none_iff.2 (by simpa using hi),List.getElem?_eq_none_iff.2 (by simpa using hi)]
    rfl
  ·refine List.map_congr_left fun i _=>?_
   simp only [Function.comp,Nat.add_mod_left]
theorem sound_ext (hs:Sim R S w) (he:REnv R w e a.tmps) (hn:a.tmps.size=N) {op:Oper} (hd:q32 op.dst N) {o:XOp} {xs:List SX} (hok:eok P (.ext o xs) op.op=true) (h:aeff P (.ext o xs) op.dst K Qp e S) :
  op.wp P a w (KC R S w a N K) Qc:=by
 obtain ⟨dst,op,ty,pos,aft,gd⟩:=op
 cases o with
 | eqns neg=>
  rcases xs with _ | ⟨x,_ | ⟨y,r⟩⟩
  ·cases op<;>simp only [eok] at hok<;>cases hok
  ·cases op<;>simp only [eok] at hok<;>try (cases hok;done)
   rename_i b t x' y' t2
   simp only [Bool.and_eq_true] at hok
   obtain ⟨⟨⟨hb,h1⟩,hi⟩,hc⟩:=hok
   have hb':b=if neg then .neq else .eql:=by revert hb;cases b<;>cases neg<;>first | (intro _;rfl) | (intro h;cases h)
   subst hb'
   have hy:y'=.const (.slice none 0 0):=by
    split at hc
    ·rfl
    ·cases hc
   subst hy
   obtain ⟨el,hu⟩:∃ el,P.underlying t=some (.slice el):=by
    split at hi
    ·rename_i el hu;exact ⟨el,hu⟩
    ·cases hi
   have r1:=q1e h1 he
   have key:∀ (A:Option Addr) (n c:Nat),a.eval x'=.slice A n c→∀ b,A.isNone=b→K (put e dst (.bool (if neg then !b else b))) S→(⟨dst,.binOp (if neg then .neq else .eql) t x' (.const (.slice none 0 0)) t2,ty,pos,aft,gd⟩:Oper).wp P a w (KC R S w a N K) Qc:=by
    rintro A n c hz b rfl hK
    unfold Oper.wp
    have hrun:(execOp a.eval ⟨dst,.binOp (if neg then .neq else .eql) t x' (.const (.slice none 0 0)) t2,ty,pos,aft,gd⟩).run P w=.ok (.value (.bool (if neg then !A.isNone else A.isNone))) w:=by
     have:=run_eqns (w':=w) hu neg A n c x'
     have hcn:a.eval (.const (.slice none 0 0))=.slice none 0 0:=rfl
     simp only [execOp,hz,hcn,Sem.run_bind] at this ⊢
     rw [this]
     rfl
    rw [hrun]
    simp only [Oper.upon]
    exact q6p hs he hn hd (.bool _) hK
   simp only [aeff,List.map_cons,List.map_nil,xeff] at h
   generalize hz:a.eval x'=z at r1
   split at h
   ·rename_i e1;rw [e1] at r1;cases r1
    exact key none 0 0 hz true rfl (by cases neg<;>exact h)
   ·rename_i e1;rw [e1] at r1;cases r1
    exact key _ _ _ hz false rfl (by cases neg<;>exact h)
   ·rename_i e1;rw [e1] at r1;cases r1
    exact key _ _ _ hz false rfl (by cases neg<;>exact h)
   ·rename_i e1;rw [e1] at r1
    have both:∀ b,K (put e dst (.bool (if neg then !b else b))) S:=fun b=>by cases neg<;>cases b<;>first | exact h.1 | exact h.2
    cases r1 with
    | sl0 _ A c=>exact key A 0 c hz _ rfl (both _)
    | sl _ _ A n c=>exact key _ n c hz _ rfl (both _)
   ·exact h.elim
  ·cases op<;>simp only [eok] at hok<;>cases hok
 | clr sz zs=>
  rcases xs with _ | ⟨x,_ | ⟨y,r⟩⟩
  ·cases op<;>simp only [eok] at hok<;>cases hok
  ·cases op<;>simp only [eok] at hok<;>try (cases hok;done)
   rename_i c
   obtain ⟨callee,args,argTypes⟩:=c
   simp only [Bool.and_eq_true,decide_eq_true_eq] at hok
   obtain ⟨⟨h1,h2⟩,h3⟩:=hok
   have hc:callee=.builtin .clear:=by
    cases callee with
    | builtin b=>cases b<;>first | rfl | (simp at h1)
    | _=>simp at h1
   subst hc
   obtain ⟨l⟩:=args
   obtain ⟨lt⟩:=argTypes
   match l,lt,h2 with
   | [x'],[T],h2=>
    simp only [Bool.and_eq_true] at h2
    obtain ⟨g1,g2⟩:=h2
    split at g1
    ·rename_i t' ht'
     simp only [Bool.and_eq_true,beq_iff_eq] at g1
     obtain ⟨g3,g4⟩:=g1
     have hu:=q3i ht'
     have r1:=q1e g2 he
     generalize hzz:a.eval x'=zz at r1
     simp only [aeff,List.map_cons,List.map_nil,xeff] at h
     have exe:∀ {w':World} {v:Value},(Builtin.clear_ #[T] ty #[zz]).run P w=.ok v w'→(execOp a.eval ⟨dst,.call { callee:=.builtin .clear,args:=⟨[x']⟩,argTypes:=⟨[T]⟩ },ty,pos,aft,gd⟩).run P w=.ok (.value v) w':=fun hr=>by
      simp [execOp,resolve,invoke,builtin,hzz,hr]
     split at h
     ·rename_i e1;rw [e1] at r1;cases r1
      unfold Oper.wp
      rw [exe (w':=w) (v:=.tuple #[]) (by simp [Builtin.clear_,run_underlying hu])]
      exact q6p hs he hn hd (.tup [] #[] rfl fun i u h=>by simp at h) h
     ·rename_i b off n cap e1
      rw [e1] at r1;cases r1
      obtain ⟨t,cs,tot,k1,k2,k3,k4,hK⟩:=h
      cases hzc:q66 P t' with
      | none=>rw [hzc] at g4;cases g4
      | some l=>
       rw [hzc] at g4
       obtain ⟨z,hzl,hzr⟩:=q7b hzc
       have hrv:=repA_rv (n:=n) (q7q g4 R w)
       have hone:=q51 (repA_one k4 (n:=n)) hrv
       obtain ⟨arr,ho,hfit,hro⟩:=setRow_rv (off:=off) hs k1 hrv (by rw [q8s,k3];exact k2)
       have hst:=run_storeCells_at (P:=P) b off t (repV l n) 0 arr w ho (by simpa using hfit) hone
       rcases Nat.eq_zero_or_pos n with rfl | hn0
       ·have e2:supd S b (.cells t (q1j cs off (repA zs 0)) tot)=S:=by
         funext k
         unfold supd
         split
         ·rename_i hk;subst hk;exact k1.symm
         ·rfl
        rw [e2] at hK
        unfold Oper.wp
        rw [exe (w':=w) (v:=.tuple #[]) (by simp [Builtin.clear_,run_underlying hu])]
        exact q6p hs he hn hd (.tup [] #[] rfl fun i u h=>by simp at h) hK
       ·have hrun:(Builtin.clear_ #[T] ty #[.slice (some ⟨b,off,none⟩) n cap]).run P w=.ok (.tuple #[]) (w.setRow b (arr.toList.take (off+0)++repV l n++arr.toList.drop (off+0+(repV l n).length)).toArray):=by
         obtain ⟨m,rfl⟩:∃ m,n=m+1:=⟨n-1,by omega⟩
         simp [Builtin.clear_,run_underlying hu,hzr,q65,hzl,hst]
        have hheap:=setRow_heap w b arr (arr.toList.take (off+0)++repV l n++arr.toList.drop (off+0+(repV l n).length)).toArray t (0,0) ho
        unfold Oper.wp
        rw [exe hrun]
        exact kc_set hs he hn hd k1 hheap hro (by simp [World.setRow]) rfl rfl rfl (fun k hk=>by simp [World.setRow,Array.getElem?_setIfInBounds_ne (Ne.symm hk),Array.getElem?_modify,Ne.symm hk]) (u:=q06) (.tup [] #[] rfl fun i u h=>by simp at h) hK
     ·exact h.elim
    ·cases g1
  ·cases op<;>simp only [eok] at hok<;>cases hok
end
end Go.HL
