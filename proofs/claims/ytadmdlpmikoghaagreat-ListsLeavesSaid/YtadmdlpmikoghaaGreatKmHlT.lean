/- A part of a proof. -/
import Derived.Test.YtadmdlpmikoghaaGreatKmHlP
set_option linter.unusedVariables false
namespace Go.HL
def avG1:Value→AV
 | .bool b=>.bool b
 | .int k n=>.int k n
 | .string s=>.str s
 | .pointer none=>.nilp
 | .slice none 0 0=>.nils
 | .nilIface=>.nili
 | .nilFunc=>.nilf
 | .map none=>.map none
 | _=>.junk
def avG:Value→AV
 | .agg vs=>.agg (vs.toList.map avG1)
 | v=>avG1 v
def sxG:Operand→SX
 | .tmp t=>.t t
 | .const v=>.c (avG v)
 | .func f=>.f f
 | _=>default
section
variable (P:Program)
def szG (t:Nat):Nat:=(szT P t).getD 0
def agG (t:Nat):Bool:=(aggT P t).getD false
def kyG (t:Nat):Bool×List EK:=(keyT P t).getD (false,[])
def zvG (t:Nat):AV:=match q3x P t with
 | some v=>avG v
 | none=>.junk
def zcG (t:Nat):List AV:=match q66 P t with
 | some l=>l.map avG1
 | none=>[]
def byG (t:Nat):Nat:=(bytesT P t).getD 0
def elG (t:Nat):Nat:=(q6w P t).getD 0
def mpG (t:Nat):Nat×Nat:=(mapT P t).getD (0,0)
def callG (c:Call):SOp:=match c.callee with
 | .value f=>.call (sxG f) (c.args.toList.map sxG)
 | .builtin b=>match b,c.args.toList.map sxG,c.argTypes.toList with
  | .len,[x],[t]=>.len (match P.underlying t with
   | some .string=>0
   | some (.slice _)=>1
   | _=>2) x
  | .max,[x,y],_=>.max2 x y
  | .append,[s,x],t :: _=>.app (elG P t) (szG P (elG P t)) (byG P (elG P t)) s x
  | .copy,[d,x],t :: _=>.copy (szG P (elG P t)) d x
  | .clear,[x],[t]=>.ext (.clr (szG P (elG P t)) (zcG P (elG P t))) [x]
  | .delete,[m,k],t :: _=>.mdel (kyG P (mpG P t).1) m k
  | _,_,_=>default
 | _=>default
def opG (soft:Bool):Op→SOp
 | .move x=>.mov (sxG x)
 | .assign x=>.mov (sxG x)
 | .pick c a b=>.pick (sxG c) (sxG a) (sxG b)
 | .load t x=>.load (szG P t) (agG P t) (sxG x)
 | .nilCheck x=>.nilck (sxG x)
 | .binOp o t x y _=>match P.underlying t with
  | some (.int _)=>.bin o (sxG x) (sxG y)
  | some .string=>.bin o (sxG x) (sxG y)
  | some (.slice _)=>.ext (.eqns (o==.neq)) [sxG x]
  | some (.interface _)=>.eqnil (o==.neq) (sxG x)
  | _=>.eqp (o==.neq) (kyG P t) (sxG x) (sxG y)
 | .unOp _ _ x=>.not (sxG x)
 | .convert _ t x=>match P.underlying t with
  | some (.int k)=>.conv k (sxG x)
  | _=>default
 | .field t x f=>match q6r P t f with
  | some fd=>.field fd.offset (szG P fd.type) (agG P fd.type) (sxG x)
  | none=>default
 | .fieldAddr t x f=>match q6r P t f with
  | some fd=>.faddr fd.offset (sxG x)
  | none=>default
 | .indexAddr t x i=>.iaddr (szG P (elG P t)) (sxG x) (sxG i)
 | .index t x i=>match P.underlying t with
  | some (.array n e)=>.idxa n (szG P e) (agG P e) (sxG x) (sxG i)
  | _=>.idxs (sxG x) (sxG i)
 | .slice t x l h _=>match P.underlying t with
  | some .string=>.slics (sxG x) (l.map sxG) (h.map sxG)
  | _=>.slicl (szG P (elG P t)) (sxG x) (l.map sxG) (h.map sxG)
 | .build t ps=>.build (zcG P t) (match P.underlying t with
  | some (.struct fs)=>ps.toList.map fun p=>match fs[p.1]? with
   | some fd=>(fd.offset,szG P fd.type,sxG p.2)
   | none=>default
  | some (.array _ e)=>ps.toList.map fun p=>(p.1 * szG P e,szG P e,sxG p.2)
  | _=>[])
 | .buildSlice t _ ps=>match soft with
  | true=>.bslicr (elG P t) (szG P (elG P t)) (ps.toList.map fun p=>sxG p.2)
  | false=>.bslice (elG P t) (szG P (elG P t)) (ps.toList.map fun p=>sxG p.2)
 | .lookup t x k ok=>.lookup (kyG P (mpG P t).1) ok (zvG P (mpG P t).2) (sxG x) (sxG k)
 | .extract x i=>.extr (sxG x) i
 | .makeFunc f xs ys=>.mkf f (xs.toList.map sxG) (ys.toList.map sxG)
 | .makeInterface t x=>.mki t (sxG x)
 | .typeAssert x _ t ok=>.asrt t ok (zvG P t) (sxG x)
 | .alloc t=>.alloc t (zcG P t)
 | .box t x=>match soft with
  | true=>.boxr t (szG P t) (sxG x)
  | false=>.box t (szG P t) (sxG x)
 | .makeMap t _=>.mkmap (kyG P (mpG P t).1)
 | .makeSlice t l c=>.mkslice (elG P t) (byG P (elG P t)) (zvG P (elG P t)) (sxG l) (sxG c)
 | .store t x v=>.store (szG P t) (sxG x) (sxG v)
 | .mapUpdate t m k v=>.mupd (kyG P (mpG P t).1) (sxG m) (sxG k) (sxG v)
 | .insert t m k v=>.mupd (kyG P (mpG P t).1) (sxG m) (sxG k) (sxG v)
 | .mapEntry t m k=>.ment (kyG P (mpG P t).1) (zvG P (mpG P t).2) (sxG m) (sxG k)
 | .entryStore _ m s v=>.mst (sxG m) (sxG s) (sxG v)
 | .panic x=>.panic (sxG x)
 | .call c=>callG P c
 | _=>default
inductive Dr where
 | l (ix:List Nat) (xs:List (Nat×List Nat))
 | d (p:Plan) (xs:List (Nat×List Nat))
variable (soft rof:List Nat)
def siG (ops:Array Oper) (x:List Nat) (o:Oper):SI:={ d:=o.dst,o:=opG P (o.dst.any soft.contains) o.op,x:=x,g:=match o.guard with
 | some (j,w)=>match ops[j]? with
  | some q=>q.dst.map fun t=>(t,w)
  | none=>none
 | none=>none }
def sjG (ops:Array Oper) (xs:List (Nat×List Nat)) (j:Nat):SI:=match ops[j]? with
 | some o=>siG P soft ops ((xs.lookup j).getD []) o
 | none=>default
def tiG (b2:Bool) (s:SI) (r:List TI):List TI:=match s.g with
 | none=>match b2,s.d,s.o with
  | true,some d,.alloc t zs=>match rof.contains d,r with
   | true,.one ⟨none,.store n (.t d') v,none,[]⟩ :: r'=>bif d'==d then .box2 d t zs n v :: r' else .one s :: r
   | _,_=>.one s :: r
  | _,_,_=>.one s :: r
 | some (t,w)=>match r with
  | .grp t' w' l :: r'=>bif t'==t&&w'==w then .grp t w ({ s with g:=none } :: l) :: r' else .grp t w [{ s with g:=none }] :: r
  | _=>.grp t w [{ s with g:=none }] :: r
def fzG (keep:List Nat) (l:List TI):List Nat:=match rof with
 | []=>[]
 | _=>l.filterMap fun i=>match i with
  | .one ⟨_,.store _ (.t d) _,_,_⟩=>bif rof.contains d&&keep.contains d then some d else none
  | _=>none
def rgG (ops:Array Oper) (dr:Bool) (keep:List Nat) (D:List Dr) (k:q4b→List Dr→q4b):q4b:=match dr,D with
 | false,D=>k (.reg ((ops.toList.map (siG P soft ops [])).foldr (tiG rof true) []) keep (fzG rof keep ((ops.toList.map (siG P soft ops [])).foldr (tiG rof true) []))) D
 | true,.l ix xs :: D=>k (.regl ix ((ix.map (sjG P soft ops xs)).foldr (tiG rof false) []) keep (fzG rof keep ((ix.map (sjG P soft ops xs)).foldr (tiG rof false) []))) D
 | true,.d p xs :: D=>k (.regd ((List.range ops.size).map (sjG P soft ops xs)) p keep (fzG rof keep ((List.range ops.size).map fun j=>.one (sjG P soft ops xs j)))) D
 | true,[]=>.skip
def cdG:Code→List (List Nat)→List Dr→(q4b→List (List Nat)→List Dr→q4b)→q4b
 | .skip,K,D,k=>k .skip K D
 | .ret,K,D,k=>k .ret K D
 | .exit i,K,D,k=>k (.exit i) K D
 | .region _ ops dr,q :: K,D,k=>rgG P soft rof ops dr q D fun t D=>k t K D
 | .seq a b,K,D,k=>cdG a K D fun x K D=>cdG b K D fun y K D=>k (.seq x y) K D
 | .cond c a b,K,D,k=>cdG a K D fun x K D=>cdG b K D fun y K D=>k (.cond (sxG c) x y) K D
 | .block i a,K,D,k=>cdG a K D fun x K D=>k (.block i x) K D
 | .loop a,q :: K,D,k=>cdG a K D fun x K D=>k (.loop q x) K D
 | _,_,_,_=>.skip
def rvG:ResultVar→RVar
 | .tmp t=>.tmp t
 | .cell t ty=>.cell t (szG P ty) (agG P ty)
def gfn (f:Nat) (K:List (List Nat)) (D:List Dr):TFunc:=match P.funcs[f]? with
 | some fn=>{ n:=fn.ntmps,args:=fn.params.size+fn.nfree,res:=fn.results.toList.map (rvG P),code:=match fn.body with
  | some c=>cdG P soft rof c K D fun t _ _=>t
  | none=>.skip }
 | none=>{ n:=0,args:=0,res:=[],code:=.skip }
end
theorem wgf {P:Program} {f:Nat} (soft rof:List Nat) (K:List (List Nat)) (D:List Dr) {args:List AV} {QF:AEnd→q00→Prop} {S:q00} {B:Prop} (h:B) (hok:tfOk P f (gfn P soft rof f K D)=true:=by kernel_rfl) (ha:args.length=(gfn P soft rof f K D).args:=by kernel_rfl) (hB:swpF P (gfn P soft rof f K D) QF args S=B:=by kernel_rfl):ACalls P f args S QF:=acalls_tf hok ha hB h
end Go.HL
