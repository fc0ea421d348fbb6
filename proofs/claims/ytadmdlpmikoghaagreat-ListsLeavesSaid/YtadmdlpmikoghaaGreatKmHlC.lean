/- A part of a proof. -/
import Derived.Test.YtadmdlpmikoghaaGreatKmHlB
set_option linter.unusedSimpArgs false
set_option linter.unusedVariables false
namespace Go.HL
inductive SX where
 | t (n:Nat)
 | c (v:AV)
 | f (f:Nat)
 deriving Inhabited
def ev (e:Env):SX→AV
 | .t n=>eget e n
 | .c v=>v
 | .f f=>.func (.func f) [] []
inductive XOp where
 | eqns (neg:Bool)
 | clr (sz:Nat) (zs:List AV)
 deriving Inhabited
inductive SOp where
 | mov (x:SX)
 | pick (c a b:SX)
 | load (n:Nat) (ag:Bool) (x:SX)
 | nilck (x:SX)
 | bin (op:BinOp) (x y:SX)
 | eqp (neg:Bool) (K:Bool×List EK) (x y:SX)
 | eqnil (neg:Bool) (x:SX)
 | not (x:SX)
 | conv (k:IntKind) (x:SX)
 | field (off n:Nat) (ag:Bool) (x:SX)
 | faddr (off:Nat) (x:SX)
 | iaddr (sz:Nat) (x i:SX)
 | idxs (x i:SX)
 | idxa (len sz:Nat) (ag:Bool) (x i:SX)
 | slics (x:SX) (lo hi:Option SX)
 | slicl (sz:Nat) (x:SX) (lo hi:Option SX)
 | build (zs:List AV) (ps:List (Nat×Nat×SX))
 | lookup (K:Bool×List EK) (ok:Bool) (z:AV) (x k:SX)
 | extr (x:SX) (i:Nat)
 | len (k:Nat) (x:SX)
 | mkf (f:Fn) (xs ys:List SX)
 | mki (t:Nat) (x:SX)
 | asrt (t:Nat) (ok:Bool) (z:AV) (x:SX)
 | max2 (x y:SX)
 | alloc (t:Nat) (zs:List AV)
 | box (t n:Nat) (x:SX)
 | boxr (t n:Nat) (x:SX)
 | bslice (t sz:Nat) (xs:List SX)
 | bslicr (t sz:Nat) (xs:List SX)
 | mkmap (K:Bool×List EK)
 | mkslice (t bytes:Nat) (z:AV) (l c:SX)
 | store (n:Nat) (x v:SX)
 | mupd (K:Bool×List EK) (m k v:SX)
 | ment (K:Bool×List EK) (z:AV) (m k:SX)
 | mst (m s v:SX)
 | mdel (K:Bool×List EK) (m k:SX)
 | call (f:SX) (xs:List SX)
 | app (t sz bytes:Nat) (s x:SX)
 | copy (sz:Nat) (d s:SX)
 | panic (x:SX)
 | ext (o:XOp) (xs:List SX)
 deriving Inhabited
def cellsOf (S:q00):AV→Option (List AV)
 | .ptr b off=>match sget S b with
  | some (.cells _ cs _)=>some (cs.drop off)
  | _=>none
 | .rop cs=>some cs
 | _=>none
def mkA (ag:Bool) (n:Nat) (cs:List AV):Option AV:=
 if ag then (if n≤cs.length then some (.agg (cs.take n)) else none) else cs.head?
def binI (op:BinOp) (k:IntKind) (a b:Int):Option AV:=
 match op with
 | .add=>some (.int k (k.wrap (a+b)))
 | .sub=>some (.int k (k.wrap (a-b)))
 | .mul=>some (.int k (k.wrap (a * b)))
 | .quo=>if b=0 then none else some (.int k (k.wrap (a.tdiv b)))
 | .rem=>if b=0 then none else some (.int k (a.tmod b))
 | .and | .or | .xor | .andNot=>some (.int k (Go.bits op k a b))
 | .eql=>some (.bool (decide (a=b)))
 | .neq=>some (.bool (!decide (a=b)))
 | .lss=>some (.bool (decide (a<b)))
 | .leq=>some (.bool (decide (a≤b)))
 | .gtr=>some (.bool (decide (b<a)))
 | .geq=>some (.bool (decide (b≤a)))
 | .shl=>if b<0 then none else some (.int k (k.wrap (a * 2 ^ min b.toNat k.bits)))
 | .shr=>if b<0 then none else some (.int k (a.fdiv (2 ^ min b.toNat k.bits)))
def binS (op:BinOp) (a b:ByteArray):Option AV:=
 match op with
 | .add=>if a.size+b.size≤9223372036854775807 then some (.str (a++b)) else none
 | .eql=>some (.bool (decide (a=b)))
 | .neq=>some (.bool (!decide (a=b)))
 | .lss=>some (.bool (Op.bytesLess a.toList b.toList))
 | .gtr=>some (.bool (!(Op.bytesLess a.toList b.toList||decide (a=b))))
 | .leq=>some (.bool (Op.bytesLess a.toList b.toList||decide (a=b)))
 | .geq=>some (.bool (!(Op.bytesLess a.toList b.toList)))
 | _=>none
def binA (op:BinOp):AV→AV→Option AV
 | .int k a,.int k' b=>if k=k' then binI op k a b else match op with
  | .shl | .shr=>binI op k a b
  | _=>none
 | .str a,.str b=>binS op a b
 | _,_=>none
def bnd (g:SX→AV) (d:Nat):Option SX→Option Int
 | none=>some d
 | some x=>match g x with
  | .int _ n=>some n
  | _=>none
def q1j (cells:List AV) (off:Nat):List AV→List AV
 | []=>cells
 | v :: r=>q1j (cells.set off v) (off+1) r
def q08:AV→List AV
 | .agg cs=>cs
 | v=>[v]
def notJ:AV→Bool
 | .junk=>false
 | _=>true
def q49 (g:SX→AV):List (Nat×Nat×SX)→List AV→Option (List AV)
 | [],cells=>some cells
 | (off,n,x) :: r,cells=>if (q08 (g x)).length=n∧off+n≤cells.length∧notJ (g x)=true then q49 g r (q1j cells off (q08 (g x))) else none
def qev (S:q00) (g:SX→AV):SOp→Option AV
 | .mov x=>some (g x)
 | .pick c a b=>match g c with
  | .bool true=>some (g a)
  | .bool false=>some (g b)
  | _=>none
 | .load n ag x=>match cellsOf S (g x) with
  | some cs=>mkA ag n cs
  | none=>none
 | .nilck x=>match g x with
  | .ptr b o=>some (.ptr b o)
  | .rop cs=>some (.rop cs)
  | _=>none
 | .bin op x y=>binA op (g x) (g y)
 | .eqp neg K x y=>if q0m K (g x)&&q0m K (g y) then some (.bool (if neg then !q1d (g x) (g y) else q1d (g x) (g y))) else none
 | .eqnil neg x=>match g x with
  | .nili=>some (.bool (!neg))
  | .iface _ _=>some (.bool neg)
  | _=>none
 | .not x=>match g x with
  | .bool b=>some (.bool (!b))
  | _=>none
 | .conv k x=>match g x with
  | .int _ n=>some (.int k (k.wrap n))
  | _=>none
 | .field off n ag x=>match g x with
  | .agg cs=>if off+n≤cs.length then mkA ag n (cs.drop off) else none
  | _=>none
 | .faddr off x=>match g x with
  | .ptr b o=>some (.ptr b (o+off))
  | .rop cs=>some (.rop (cs.drop off))
  | _=>none
 | .iaddr sz x i=>match g x,g i with
  | .sl sz' xs,.int _ n=>if sz=sz'∧0≤n then (xs[n.toNat]?).map .rop else none
  | .own b off len _,.int _ n=>if 0≤n∧n<len then some (.ptr b (off+n.toNat * sz)) else none
  | _,_=>none
 | .idxs x i=>match g x,g i with
  | .str s,.int _ n=>if 0≤n then (s[n.toNat]?).map fun b=>.int .u8 b.toNat else none
  | _,_=>none
 | .idxa len sz ag x i=>match g x,g i with
  | .agg cs,.int _ n=>if 0≤n∧n<len∧n.toNat * sz+sz≤cs.length then mkA ag sz (cs.drop (n.toNat * sz)) else none
  | _,_=>none
 | .slics x lo hi=>match g x with
  | .str s=>match bnd g 0 lo,bnd g s.size hi with
   | some l,some h=>if 0≤l∧l≤h∧h≤s.size then some (.str (s.extract l.toNat h.toNat)) else none
   | _,_=>none
  | _=>none
 | .slicl sz x lo hi=>match g x with
  | .sl sz' xs=>match bnd g 0 lo,bnd g xs.length hi with
   | some l,some h=>if sz=sz'∧0≤l∧l≤h∧h≤xs.length then some (.sl sz ((xs.take h.toNat).drop l.toNat)) else none
   | _,_=>none
  | .own b off n cap=>match bnd g 0 lo,bnd g n hi with
   | some l,some h=>if 0≤l∧l≤h∧h≤cap then some (.own b (if cap=l.toNat then off else off+l.toNat * sz) (h.toNat-l.toNat) (cap-l.toNat)) else none
   | _,_=>none
  | .nils=>match bnd g 0 lo,bnd g 0 hi with
   | some 0,some 0=>some .nils
   | _,_=>none
  | _=>none
 | .build zs ps=>(q49 g ps zs).map .agg
 | .lookup K ok z x k=>if q0m K (g k) then match g x with
   | .map none=>some (if ok then .tup [z,.bool false] else z)
   | .map (some b)=>match sget S b with
    | some (.map K' es _)=>if K'=K then match q0q es (g k) with
      | some (_,v,_)=>some (if ok then .tup [v,.bool true] else v)
      | none=>some (if ok then .tup [z,.bool false] else z)
     else none
    | _=>none
   | _=>none
  else none
 | .extr x i=>match g x with
  | .tup vs=>vs[i]?
  | _=>none
 | .len 0 x=>match g x with
  | .str s=>some (.int .i64 s.size)
  | _=>none
 | .len 1 x=>match g x with
  | .sl _ xs=>some (.int .i64 xs.length)
  | .nils=>some (.int .i64 0)
  | .own _ _ n _=>some (.int .i64 n)
  | _=>none
 | .len _ x=>match g x with
  | .map (some b)=>match sget S b with
   | some (.map _ es _)=>some (.int .i64 es.length)
   | _=>none
  | _=>none
 | .mkf f xs ys=>some (.func f (xs.map g) (ys.map g))
 | .mki t x=>some (.iface t (g x))
 | .asrt t ok z x=>match g x with
  | .iface t' v=>if t'=t then some (if ok then .tup [v,.bool true] else v) else if ok then some (.tup [z,.bool false]) else none
  | .nili=>if ok then some (.tup [z,.bool false]) else none
  | _=>none
 | .max2 x y=>match g x,g y with
  | .int k a,.int k' b=>some (.int k (if a<b then b else a))
  | _,_=>none
 | _=>none
def isL:SOp→Bool
 | .load .. | .lookup ..=>true
 | .len k _=>!(k==0||k==1)
 | _=>false
def isQ:SOp→Bool
 | .alloc .. | .box .. | .boxr .. | .bslice .. | .bslicr .. | .mkmap _ | .mkslice .. | .store .. | .mupd .. | .ment .. | .mst .. | .mdel .. | .call .. | .app .. | .copy .. | .panic _ | .ext ..=>false
 | _=>true
def cok1:AV→Value→Bool
 | .bool a,.bool b=>a==b
 | .int k a,.int k' b=>k==k'&&a==b
 | .str a,.string b=>decide (a=b)
 | .nilp,.pointer none=>true
 | .nils,.slice none 0 0=>true
 | .nili,.nilIface=>true
 | .nilf,.nilFunc=>true
 | .map none,.map none=>true
 | _,_=>false
def coks:List AV→List Value→Bool
 | [],[]=>true
 | x :: xs,v :: vs=>cok1 x v&&coks xs vs
 | _,_=>false
def cok:AV→Value→Bool
 | .agg xs,.agg vs=>coks xs vs.toList
 | x,v=>cok1 x v
theorem cok1_rv {x:AV} {v:Value} (h:cok1 x v=true) (R:Nat→Prop) (w:World):RV R w x v:=by
 unfold cok1 at h
 split at h<;>simp_all<;>(try subst_vars)<;>constructor
theorem q7q:∀ {xs:List AV} {vs:List Value},coks xs vs=true→∀ (R:Nat→Prop) (w:World),RVs R w xs vs
 | [],[],_,R,w=>.nil
 | x :: xs,v :: vs,h,R,w=>by
  simp only [coks,Bool.and_eq_true] at h
  exact .cons (cok1_rv h.1 R w) (q7q h.2 R w)
 | [],_ :: _,h,_,_=>by cases h
 | _ :: _,[],h,_,_=>by cases h
theorem cok_rv {x:AV} {v:Value} (h:cok x v=true) (R:Nat→Prop) (w:World):RV R w x v:=by
 unfold cok at h
 split at h
 ·exact RV.agg_iff.2 ⟨_,rfl,q7q h R w⟩
 ·exact cok1_rv h R w
def xok:SX→Operand→Bool
 | .t n,.tmp m=>n==m
 | .c v,.const u=>cok v u
 | .f f,.func h=>f==h
 | _,_=>false
def oxok:Option SX→Option Operand→Bool
 | none,none=>true
 | some x,some y=>xok x y
 | _,_=>false
def xsok:List SX→List Operand→Bool
 | [],[]=>true
 | x :: xs,y :: ys=>xok x y&&xsok xs ys
 | _,_=>false
theorem q1e {x:SX} {y:Operand} (h:xok x y=true) {R:Nat→Prop} {w:World} {e:Env} {a:Act} (he:REnv R w e a.tmps):RV R w (ev e x) (a.eval y):=by
 unfold xok at h
 split at h
 ·simp at h;subst h;exact he _
 ·exact cok_rv h R w
 ·simp at h;subst h;exact .func _ [] [] #[] #[] rfl rfl (fun i u h=>by simp at h) (fun i u h=>by simp at h)
 ·cases h
def q3x (P:Program) (t:Nat):Option Value:=(P.info? t).bind (·.zero)
def q6r (P:Program) (t f:Nat):Option Field:=match P.underlying t with
 | some (.struct fs)=>fs[f]?
 | _=>none
def q6w (P:Program) (t:Nat):Option Nat:=match P.underlying t with
 | some (.slice e)=>some e
 | _=>none
def q6g (P:Program) (fs:Array Field):List (Nat×Nat×SX)→List (Nat×Operand)→Bool
 | [],[]=>true
 | (off,n,x) :: r,(i,y) :: s=>(match fs[i]? with
   | some f=>f.offset==off&&szT P f.type==some n
   | none=>false)&&xok x y&&q6g P fs r s
 | _,_=>false
def arrFs (len e sz:Nat):Array Field:=(Array.range len).map fun i=>{ (default:Field) with type:=e,offset:=i * sz }
def qok (P:Program):SOp→Op→Bool
 | .mov x,.move y=>xok x y
 | .mov x,.assign y=>xok x y
 | .pick c a b,.pick c' a' b'=>xok c c'&&xok a a'&&xok b b'
 | .load n ag x,.load t y=>szT P t==some n&&aggT P t==some ag&&xok x y
 | .nilck x,.nilCheck y=>xok x y
 | .bin op x y,.binOp op' _ x' y' _=>op==op'&&xok x x'&&xok y y'
 | .eqp neg K x y,.binOp op t x' y' _=>(op==(if neg then .neq else .eql))&&keyT P t==some K&&!P.eqGuardType P.depth t&&(K.1||match P.underlying t with | some .bool=>true | _=>false)&&xok x x'&&xok y y'
 | .eqnil neg x,.binOp op t x' y' _=>(op==(if neg then .neq else .eql))&&xok x x'&&(match P.underlying t with | some (.interface _)=>true | _=>false)&&(match y' with | .const .nilIface=>true | _=>false)
 | .not x,.unOp op _ y=>op==.not&&xok x y
 | .conv k x,.convert s t y=>(P.underlying s).isSome&&(match P.underlying t with | some (.int k')=>k==k' | _=>false)&&xok x y
 | .field off n ag x,.field t y f=>(match q6r P t f with | some fd=>fd.offset==off&&szT P fd.type==some n&&aggT P fd.type==some ag&&(ag||n==1) | none=>false)&&xok x y
 | .faddr off x,.fieldAddr t y f=>(match q6r P t f with | some fd=>fd.offset==off&&(szT P fd.type).any (· != 0) | none=>false)&&xok x y
 | .iaddr sz x i,.indexAddr t y j=>(match q6w P t with | some e=>szT P e==some sz | none=>false)&&xok x y&&xok i j
 | .idxs x i,.index t y j=>(match P.underlying t with | some .string=>true | _=>false)&&xok x y&&xok i j
 | .idxa len sz ag x i,.index t y j=>(match P.underlying t with | some (.array n e)=>n==len&&szT P e==some sz&&aggT P e==some ag&&(ag||sz==1) | _=>false)&&xok x y&&xok i j
 | .slics x lo hi,.slice t y l h m=>(match P.underlying t with | some .string=>true | _=>false)&&xok x y&&oxok lo l&&oxok hi h&&m.isNone
 | .slicl sz x lo hi,.slice t y l h m=>(match q6w P t with | some e=>szT P e==some sz | none=>false)&&xok x y&&oxok lo l&&oxok hi h&&m.isNone
 | .build zs ps,.build t qs=>(match P.underlying t,q3x P t with | some (.struct fs),some z=>(match z with | .agg vs=>coks zs vs.toList | _=>false)&&fs.all (fun f=>(szT P f.type).isSome)&&q6g P fs ps qs.toList | some (.array len e),some z=>(match z with | .agg vs=>coks zs vs.toList | _=>false)&&(match szT P e with | some sz=>q6g P (arrFs len e sz) ps qs.toList | none=>false) | _,_=>false)
 | .lookup K ok z x k,.lookup t y j ok'=>ok==ok'&&(match P.underlying t with | some (.map kt et)=>keyT P kt==some K&&(match q3x P et with | some v=>cok z v | none=>false) | _=>false)&&xok x y&&xok k j
 | .extr x i,.extract y j=>i==j&&xok x y
 | .len k x,.call c=>(match c.callee with | .builtin .len=>true | _=>false)&&(match c.args.toList,c.argTypes.toList with | [y],[t]=>xok x y&&(match k,P.underlying t with | 0,some .string=>true | 1,some (.slice _)=>true | 2,some (.map _ _)=>true | _,_=>false) | _,_=>false)
 | .mkf f xs ys,.makeFunc f' xs' ys'=>f==f'&&xsok xs xs'.toList&&xsok ys ys'.toList
 | .mki t x,.makeInterface t' y=>t==t'&&xok x y&&(match P.underlying t with | some (.interface _)=>false | some _=>true | none=>false)
 | .asrt t ok z x,.typeAssert y _ t' ok'=>t==t'&&ok==ok'&&xok x y&&(match P.underlying t with | some (.interface _)=>false | some _=>true | none=>false)&&(match q3x P t with | some v=>cok z v | none=>false)
 | .max2 x y,.call c=>(match c.callee with | .builtin .max=>true | _=>false)&&(match c.args.toList with | [x',y']=>xok x x'&&xok y y' | _=>false)
 | _,_=>false
end Go.HL
