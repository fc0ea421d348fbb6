/- The law GraphMembers returns true for every input and leaves it as it was; no conditions. -/
import Derived.Test.YtadmdlpmikoghaaGreatKeM4
import Derived.ProofKit
import Derived.Carry
import Derived.Handed
import Derived.Test.YtadmdlpmikoghaaGreatRows
set_option linter.unusedSimpArgs false
set_option linter.unusedVariables false
namespace Go.HL
open List renaming length_map→lA,getElem?_map→lC,getElem?_eq_getElem→lE,getElem?_of_mem→lL,mem_cons_of_mem→lM,append_nil→lU,mem_append_left→lY
def Old (w:World):Nat->Prop:=fun b=>b<w.heap.size
theorem yqe {w:World} {a:Addr} {v:Value} (h:w.cell? a=some v):Old w a.block:=by
 unfold Old;unfold World.cell? at h;rcases Nat.lt_or_ge a.block w.heap.size with h1 | h1
 ·exact h1
 ·rw [Array.getElem?_eq_none h1] at h;simp at h
section
variable {H:Type} {enc:TypeId×Value->H} {P:Program} {w:World} {sp:Nat->Bool} {held:Bool} {n:Nat} {t e:TypeId} {cs:List Value} {x:DataW H×List MemPlace}
def Wt {H:Type} (P:Program) (t:TypeId) (d:DataW H):Prop:=∀ k∈d.weights P t,k<=reachBytes
theorem q37 (ht:P.underlying t=some .string) (hw:Wt P t x.1) (h:DataW.trod enc P w 0 sp held n t cs=some x):∃ s:ByteArray,s.size<=1125899906842624/\cs=[.string s]:=by
 cases n with
 | zero=>simp [DataW.trod] at h
 | succ n=>
  unfold DataW.trod at h;rw [ht] at h;split at h<;>simp_all
  obtain ⟨h1,rfl⟩:=h;refine Nat.le_trans (Nat.le_of_eq ?_) (Nat.le_trans (hw _ (by simp only [DataW.weights];exact List.mem_singleton.2 rfl)) (by decide))
  rw [Array.length_toList];rfl
theorem yji {k:IntKind} (ht:P.underlying t=some (.int k)) (h:DataW.trod enc P w 0 sp held n t cs=some x):∃ z:Int,cs=[.int k z]:=by
 cases n with
 | zero=>simp [DataW.trod] at h
 | succ n=>
  unfold DataW.trod at h;rw [ht] at h;split at h<;>simp_all
theorem y8u {w:World} {a:Addr} {m:Nat} {vs:List Value} (h:w.cells? 0 a m=some vs):vs.length=m/\∀ j,j<m->w.cell? (a.add j)=some (vs.getD j undef):=by
 unfold World.cells? at h;rw [if_pos (Nat.zero_le _)] at h;have h1:=mapM_some_length h;refine ⟨by simpa using h1,fun j hj=>?_⟩
 have h2:=mapM_some_get h j j (by simp [hj])
 rw [h2,List.getD_eq_getElem?_getD];simp at h1;rw [lE (by omega)]
 rfl
theorem q71 {α:Type} {enc':α->List AV} {good:α->Prop} {sz:Nat} (ht:P.underlying t=some (.slice e)) (hc:P.cellsOf e=sz) (hsz:0<sz) (hlen:∀ a,(enc' a).length=sz)
  (hb:1<=P.bytesOf e) (hw:Wt P t x.1) (hE:∀ m,m<n->∀ cs x,Wt P e x.1->DataW.trod enc P w 0 sp held m e cs=some x->∃ a,good a/\RVs (Old w) w (enc' a) cs) (h:DataW.trod enc P w 0 sp held n t cs=some x) :
  ∃ (l:List α) (v:Value),(∀ a∈l,good a)/\l.length<=1125899906842624/\cs=[v]/\RV (Old w) w (.sl sz (l.map enc')) v:=by
 rcases DataW.trod_slice ht h with ⟨rfl,-⟩ | ⟨a,len,cap,elems,rest,m,rfl,rfl,rfl,-,hl,hm,hlen2,hel,-,-⟩
 ·exact ⟨[],_,fun a ha=>(by cases ha),Nat.zero_le _,rfl,.sl0 _ _ _⟩
 ·have hx:DataW.weights P t (.slice (elems.map (·.1)) (rest.map (·.1)))=((elems.map (·.1)).length+(rest.map (·.1)).length) * P.bytesOf e :: (DataW.weightsAll P e (elems.map (·.1))++DataW.weightsAll P e (rest.map (·.1))):=by
   simp only [DataW.weights];rw [ht]
  have hw:∀ k∈DataW.weights P t (.slice (elems.map (·.1)) (rest.map (·.1))),k<=reachBytes:=hw;rw [hx] at hw;have key:∀ i,i<len->∃ (y:α) (vs:List Value),good y/\RVs (Old w) w (enc' y) vs/\w.cells? 0 (a.add (i * sz)) sz=some vs:=fun i hi=>by
   have h1:=hel i hi;rw [hc,lE (by omega)] at h1
   obtain ⟨vs,h2,h3⟩:=Option.bind_eq_some_iff.1 h1;have hwi:Wt P e (elems[i]'(by omega)).1:=fun k hk=>by
    refine hw k ?_;refine lM _ (lY _ ?_);have:∀ l:List (DataW H×List MemPlace),∀ y∈l,∀ k∈y.1.weights P e,k∈DataW.weightsAll P e (l.map (·.1)):=by
     intro l
     induction l with
     | nil=>intro y hy;cases hy
     | cons z l ih=>
      intro y hy k hk;simp only [List.map_cons,DataW.weightsAll,List.mem_append];rcases List.mem_cons.1 hy with rfl | hy
      ·exact .inl hk
      ·exact .inr (ih y hy k hk)
    exact this elems _ (List.getElem_mem _) k hk
   obtain ⟨y,k1,k2⟩:=hE m (Nat.lt_succ_self m) vs _ hwi h3;exact ⟨y,vs,k1,k2,h2⟩
  by_cases h0:len=0
  ·subst h0;exact ⟨[],_,fun a ha=>(by cases ha),Nat.zero_le _,rfl,.sl0 _ _ _⟩
  have ex:∃ l:List α,l.length=len/\∀ i y,l[i]?=some y->∃ vs:List Value,good y/\RVs (Old w) w (enc' y) vs/\w.cells? 0 (a.add (i * sz)) sz=some vs:=by
   have:∀ k,k<=len->∃ l:List α,l.length=k/\∀ (i:Nat) (y:α),l[i]?=some y->∃ vs:List Value,good y/\RVs (Old w) w (enc' y) vs/\w.cells? 0 (a.add (i * sz)) sz=some vs:=by
    intro k
    induction k with
    | zero=>exact fun _=>⟨[],rfl,fun i y h=>by simp at h⟩
    | succ k ih=>
     intro hk;obtain ⟨l,k1,k2⟩:=ih (by omega)
     obtain ⟨y,vs,j1⟩:=key k (by omega)
     refine ⟨l++[y],by simp [k1],fun i z hz=>?_⟩
     by_cases hi:i<l.length
     ·rw [List.getElem?_append_left hi] at hz;exact k2 i z hz
     ·rw [List.getElem?_append_right (by omega)] at hz
      obtain ⟨q,hq⟩:∃ q,i-l.length=q:=⟨_,rfl⟩;rw [hq] at hz;cases q with
      | succ q=>simp at hz
      | zero=>
       simp at hz;subst hz;have:i=k:=by omega
       subst this;exact ⟨vs,j1⟩
   exact this len (Nat.le_refl _)
  obtain ⟨l,k1,k2⟩:=ex;have k3:∀ i,i<len->∃ y vs,l[i]?=some y/\good y/\RVs (Old w) w (enc' y) vs/\w.cells? 0 (a.add (i * sz)) sz=some vs:=fun i hi=>by
   have hy:l[i]?=some l[i]:=lE (by omega)
   obtain ⟨vs,h1⟩:=k2 i _ hy;exact ⟨_,vs,hy,h1⟩
  have hadd:∀ i j,(a.add (i * sz)).add j=a.add (i * sz+j):=fun i j=>y2k _ _ _
  have hll:l.length<=1125899906842624:=by
   have h5:=hw _ List.mem_cons_self;simp only [lA] at h5;have h6:elems.length<=(elems.length+rest.length) * P.bytesOf e:=Nat.le_trans (Nat.le_add_right _ _) (Nat.le_mul_of_pos_right _ hb);unfold reachBytes at h5;omega
  refine ⟨l,_,fun y hy=>?_,hll,rfl,.sl sz (l.map enc') a len cap (fun i j=>((w.cells? 0 (a.add (i * sz)) sz).getD []).getD j undef) (by simp [k1]) hl ?_ (fun i r hr=>?_) (fun i j hi hj=>?_) (fun i j r u hr hu=>?_)⟩
  ·obtain ⟨i,hi⟩:=lL hy;obtain ⟨vs,h1,-⟩:=k2 i y hi;exact h1
  ·obtain ⟨y,vs,-,-,-,h4⟩:=k3 0 (by omega)
   have h5:=(y8u h4).2 0 hsz;have:=yqe h5;rw [y2k] at this;simpa [Addr.add] using this
  ·rw [lC] at hr;cases hl2:l[i]? with
   | none=>rw [hl2] at hr;cases hr
   | some y=>rw [hl2] at hr;cases hr;exact hlen y
  ·obtain ⟨y,vs,-,-,-,h4⟩:=k3 i hi;rw [h4,<- hadd];exact (y8u h4).2 j hj
  ·rw [lC] at hr;cases hl2:l[i]? with
   | none=>rw [hl2] at hr;cases hr
   | some y=>
    rw [hl2] at hr;cases hr;obtain ⟨vs,-,h3,h4⟩:=k2 i y hl2;rw [h4];exact h3.2 j u hu
theorem q3z {fs:Array Field} (ht:P.underlying t=some (.struct fs)) (hw:Wt P t x.1) (h:DataW.trod enc P w 0 sp held n t cs=some x):cs.length=P.cellsOf t/\∃ m,n=m+1 /\
  ∀ (i:Nat) (f:Field),fs[i]?=some f->∃ y,Wt P f.type y.1/\DataW.trod enc P w 0 sp held m f.type ((cs.drop f.offset).take (P.cellsOf f.type))=some y:=by
 obtain ⟨xs,m,rfl,rfl,hl,hlen,hf⟩:=DataW.trod_struct ht h;refine ⟨hl,m,rfl,fun i f hi=>?_⟩
 have hil:i<fs.size:=(Array.getElem?_eq_some_iff.1 hi).1;have h1:=hf i f hi;have hxi:xs[i]?=some (xs[i]'(by omega)):=lE _
 rw [hxi] at h1;refine ⟨_,fun k hk=>?_,h1⟩
 have hx:DataW.weights P t (.agg (xs.map (·.1)))=DataW.weightsEach P (fs.toList.map (·.type)) (xs.map (·.1)):=by
  simp only [DataW.weights];rw [ht]
 have hw:∀ k∈DataW.weights P t (.agg (xs.map (·.1))),k<=reachBytes:=hw;rw [hx] at hw;refine hw k ?_;have key:∀ (ts:List TypeId) (ds:List (DataW H)) (j:Nat) (t:TypeId) (d:DataW H),ts[j]?=some t->ds[j]?=some d->∀ k∈d.weights P t,k∈DataW.weightsEach P ts ds:=by
  intro ts
  induction ts with
  | nil=>intro ds j t d h;simp at h
  | cons a ts ih=>
   intro ds j t d h1 h2 k hk;cases ds with
   | nil=>simp at h2
   | cons b ds=>
    simp only [DataW.weightsEach,List.mem_append];cases j with
    | zero=>simp at h1 h2;subst h1;subst h2;exact .inl hk
    | succ j=>simp at h1 h2;exact .inr (ih ds j t d h1 h2 k hk)
 exact key _ _ i _ _ (by rw [lC,Array.getElem?_toList,hi];rfl) (by rw [lC,hxi];rfl) k hk
end
structure ScT (P:Program) (tS tTs tT tRs tR tFs tF tE tEs tI tN:TypeId):Prop where
 int:P.underlying tI=some (.int .i64)
 str:P.underlying tN=some .string
 ex:∃ f0 f1 f2 f3,P.underlying tE=some (.struct #[f0,f1,f2,f3])/\f0.type=tI/\f0.offset=0/\f1.type=tN/\f1.offset=1/\f2.type=tN/\f2.offset=2/\f3.type=tEs/\f3.offset=3
 exs:P.underlying tEs=some (.slice tE)
 rf:∃ f0 f1,P.underlying tF=some (.struct #[f0,f1])/\f0.type=tN/\f0.offset=0/\f1.type=tN/\f1.offset=1
 rfs:P.underlying tFs=some (.slice tF)
 rl:∃ f0 f1 f2,P.underlying tR=some (.struct #[f0,f1,f2])/\f0.type=tN/\f0.offset=0/\f1.type=tFs/\f1.offset=1/\f2.type=tE/\f2.offset=2
 rls:P.underlying tRs=some (.slice tR)
 ty:∃ f0 f1,P.underlying tT=some (.struct #[f0,f1])/\f0.type=tN/\f0.offset=0/\f1.type=tRs/\f1.offset=1
 tys:P.underlying tTs=some (.slice tT)
 sc:∃ f0,P.underlying tS=some (.struct #[f0])/\f0.type=tTs/\f0.offset=0
 cI:P.cellsOf tI=1
 cN:P.cellsOf tN=1
 cE:P.cellsOf tE=4
 cEs:P.cellsOf tEs=1
 cF:P.cellsOf tF=2
 cFs:P.cellsOf tFs=1
 cR:P.cellsOf tR=6
 cRs:P.cellsOf tRs=1
 cT:P.cellsOf tT=2
 cTs:P.cellsOf tTs=1
 cS:P.cellsOf tS=1
 bE:1<=P.bytesOf tE
 bF:1<=P.bytesOf tF
 bR:1<=P.bytesOf tR
 bT:1<=P.bytesOf tT
section
variable {H:Type} {enc:TypeId×Value->H} {P:Program} {w:World} {sp:Nat->Bool} {held:Bool} {tS tTs tT tRs tR tFs tF tE tEs tI tN:TypeId} (K:ScT P tS tTs tT tRs tR tFs tF tE tEs tI tN)
include K
theorem yy6:∀ (n:Nat) (cs:List Value) (x:DataW H×List MemPlace),Wt P tE x.1->DataW.trod enc P w 0 sp held n tE cs=some x->∃ e:Ex,OkE e/\RVs (Old w) w (exC e) cs:=by
 intro n
 induction n using Nat.strongRecOn with
 | _ n ih=>
  intro cs x hw h;obtain ⟨f0,f1,f2,f3,hu,a0,b0,a1,b1,a2,b2,a3,b3⟩:=K.ex;obtain ⟨hl,m,rfl,hf⟩:=q3z hu hw h;rw [K.cE] at hl;obtain ⟨c0,c1,c2,c3,rfl⟩:∃ c0 c1 c2 c3,cs=[c0,c1,c2,c3]:=by
   match cs,hl with
   | [c0,c1,c2,c3],_=>exact ⟨_,_,_,_,rfl⟩
  obtain ⟨y0,w0,h0⟩:=hf 0 f0 rfl;obtain ⟨y1,w1,h1⟩:=hf 1 f1 rfl;obtain ⟨y2,w2,h2⟩:=hf 2 f2 rfl;obtain ⟨y3,w3,h3⟩:=hf 3 f3 rfl;rw [a0,b0,K.cI] at h0;rw [a1,b1,K.cN] at h1;rw [a2,b2,K.cN] at h2;rw [a3,b3,K.cEs] at h3;rw [a1] at w1;rw [a2] at w2;rw [a3] at w3;obtain ⟨z,e0⟩:=yji K.int h0;obtain ⟨s1,g1,e1⟩:=q37 K.str w1 h1;obtain ⟨s2,g2,e2⟩:=q37 K.str w2 h2;obtain ⟨l,v,g3,g4,e3,g5⟩:=q71 (enc':=exC) (good:=OkE) K.exs K.cE (by decide) ylj K.bE w3 (fun k hk cs x hw h=>ih k (by omega) cs x hw h) h3
  simp at e0 e1 e2 e3;subst e0;subst e1;subst e2;subst e3;refine ⟨.mk z s1 s2 l,.mk z s1 s2 l g4 g1 g2 g3,?_⟩;rw [q0e];exact .cons (.int _ _) (.cons (.str _) (.cons (.str _) (.cons g5 .nil)))
theorem yy4 {n:Nat} {cs:List Value} {x:DataW H×List MemPlace} (hw:Wt P tF x.1) (h:DataW.trod enc P w 0 sp held n tF cs=some x):∃ f:Rf,OkF f/\RVs (Old w) w (rfC f) cs:=by
 obtain ⟨f0,f1,hu,a0,b0,a1,b1⟩:=K.rf;obtain ⟨hl,m,rfl,hf⟩:=q3z hu hw h;rw [K.cF] at hl;obtain ⟨c0,c1,rfl⟩:∃ c0 c1,cs=[c0,c1]:=by
  match cs,hl with
  | [c0,c1],_=>exact ⟨_,_,rfl⟩
 obtain ⟨y0,w0,h0⟩:=hf 0 f0 rfl;obtain ⟨y1,w1,h1⟩:=hf 1 f1 rfl;rw [a0,b0,K.cN] at h0;rw [a1,b1,K.cN] at h1;rw [a0] at w0;rw [a1] at w1;obtain ⟨s1,g1,e1⟩:=q37 K.str w0 h0;obtain ⟨s2,g2,e2⟩:=q37 K.str w1 h1;simp at e1 e2;subst e1;subst e2;exact ⟨⟨s1,s2⟩,⟨g1,g2⟩,.cons (.str _) (.cons (.str _) .nil)⟩
theorem yy3 {n:Nat} {cs:List Value} {x:DataW H×List MemPlace} (hw:Wt P tR x.1) (h:DataW.trod enc P w 0 sp held n tR cs=some x):∃ r:Rl,OkR r/\RVs (Old w) w (rlC r) cs:=by
 obtain ⟨f0,f1,f2,hu,a0,b0,a1,b1,a2,b2⟩:=K.rl;obtain ⟨hl,m,rfl,hf⟩:=q3z hu hw h;rw [K.cR] at hl;obtain ⟨c0,c1,c2,c3,c4,c5,rfl⟩:∃ c0 c1 c2 c3 c4 c5,cs=[c0,c1,c2,c3,c4,c5]:=by
  match cs,hl with
  | [c0,c1,c2,c3,c4,c5],_=>exact ⟨_,_,_,_,_,_,rfl⟩
 obtain ⟨y0,w0,h0⟩:=hf 0 f0 rfl;obtain ⟨y1,w1,h1⟩:=hf 1 f1 rfl;obtain ⟨y2,w2,h2⟩:=hf 2 f2 rfl;rw [a0,b0,K.cN] at h0;rw [a1,b1,K.cFs] at h1;rw [a2,b2,K.cE] at h2;rw [a0] at w0;rw [a1] at w1;rw [a2] at w2;obtain ⟨s1,g1,e1⟩:=q37 K.str w0 h0;obtain ⟨l,v,g3,g4,e3,g5⟩:=q71 (enc':=rfC) (good:=OkF) K.rfs K.cF (by decide) (fun _=>rfl) K.bF w1 (fun k _ cs x hw h=>yy4 K hw h) h1
 obtain ⟨e,g6,g7⟩:=yy6 K _ _ _ w2 h2;simp at e1 e3;subst e1;subst e3;exact ⟨⟨s1,l,e⟩,⟨g1,g4,g3,g6⟩,.cons (.str _) (.cons g5 g7)⟩
theorem yy1 {n:Nat} {cs:List Value} {x:DataW H×List MemPlace} (hw:Wt P tT x.1) (h:DataW.trod enc P w 0 sp held n tT cs=some x):∃ t:Ty,OkT t/\RVs (Old w) w (tyC t) cs:=by
 obtain ⟨f0,f1,hu,a0,b0,a1,b1⟩:=K.ty;obtain ⟨hl,m,rfl,hf⟩:=q3z hu hw h;rw [K.cT] at hl;obtain ⟨c0,c1,rfl⟩:∃ c0 c1,cs=[c0,c1]:=by
  match cs,hl with
  | [c0,c1],_=>exact ⟨_,_,rfl⟩
 obtain ⟨y0,w0,h0⟩:=hf 0 f0 rfl;obtain ⟨y1,w1,h1⟩:=hf 1 f1 rfl;rw [a0,b0,K.cN] at h0;rw [a1,b1,K.cRs] at h1;rw [a0] at w0;rw [a1] at w1;obtain ⟨s1,g1,e1⟩:=q37 K.str w0 h0;obtain ⟨l,v,g3,g4,e3,g5⟩:=q71 (enc':=rlC) (good:=OkR) K.rls K.cR (by decide) y5e K.bR w1 (fun k _ cs x hw h=>yy3 K hw h) h1
 simp at e1 e3;subst e1;subst e3;exact ⟨⟨s1,l⟩,⟨g1,g4,g3⟩,.cons (.str _) (.cons g5 .nil)⟩
theorem open_sc {v:Value} {d:DataW H} {ps:List MemPlace} (hw:Wt P tS d) (h:DataW.Trod enc P w 0 sp held tS v d ps) (hv:∃ vs,v=.agg vs):∃ s:List Ty,OkS s/\RV (Old w) w (scA s) v:=by
 obtain ⟨n,h⟩:=h;obtain ⟨vs,rfl⟩:=hv;obtain ⟨f0,hu,a0,b0⟩:=K.sc;obtain ⟨hl,m,rfl,hf⟩:=q3z (x:=(d,ps)) hu hw h;rw [K.cS] at hl;obtain ⟨y0,w0,h0⟩:=hf 0 f0 rfl;rw [a0,b0,K.cTs] at h0;rw [a0] at w0;obtain ⟨l,v,g3,g4,e3,g5⟩:=q71 (enc':=tyC) (good:=OkT) K.tys K.cT (by decide) (fun _=>rfl) K.bT w0 (fun k _ cs x hw h=>yy1 K hw h) h0
 refine ⟨l,⟨g4,g3⟩,?_⟩;have hc:(Value.agg vs).cells.toList=vs.toList:=by simp [Value.cells]
 rw [hc] at hl e3;have hvs:vs.toList=[v]:=by
  match hq:vs.toList,hl with
  | [c],_=>rw [hq] at e3;simpa using e3
 refine .agg _ vs (by rw [<- Array.length_toList,hvs];rfl) fun i u hi=>?_
 match i,hi with
 | 0,hi=>
  simp at hi;subst hi;have:vs.getD 0 undef=v:=by
   have h9:vs=#[v]:=by
    apply Array.toList_inj.1
    rw [hvs]
   rw [h9];rfl
  rw [this];exact g5
end
open Go.ChangeShapes Go.WideShapes Go.RowKit
theorem yr9 {R R':Nat->Prop} {S':q00} {w w':World} (h:Step R emp w R' S' w'):Below w.heap.size w w':=⟨h.os,h.tape,h.output,h.size,fun k hk=>(h.keep k hk rfl).1⟩
theorem yxm (w:World):Sim (Old w) emp w:=⟨fun b o h=>(by cases h),fun b h=>⟨rfl,h⟩⟩
theorem call_true {f:Nat} {args:List AV} {vs:Array Value} {w:World} (hok:y49 PG f=true) (h:AFun PG f args (.bool true)) (hv:RVs (Old w) w args vs.toList):Calls PG f vs w fun en w'=>en=.returned (.bool true)/\Below w.heap.size w w':=by
 refine ((h emp (Old w) w vs (yxm w) hv).calls hok).mono fun en w' ⟨R',S',ae,h1,h2,h3,h4⟩=>?_
 obtain ⟨rfl,rfl⟩:=h2;cases en with
 | returned v=>
  have h1:RV R' w' (.bool true) v:=h1;cases h1;exact ⟨rfl,yr9 h4⟩
 | _=>exact h1.elim
section
variable {H:Type} {enc:TypeId×Value->H} {P:Program}
theorem q4e {W W':World} (hl:laidOutB P=true) (hb:Below W.heap.size W W') {sp':Nat->Bool}:∀ {ts:List TypeId} {vs:List Value} {ds:List (DataW H)} {ps:List MemPlace},(∀ t∈ts,P.readableRec t=true/\t<P.types.size)->DataW.TrodAll enc P W 0 (fun _=>true) true ts vs ds ps ->
  (∀ p∈ps,p.block<W.heap.size)->(∀ p∈ps,sp' p.block=true)->DataW.TrodAll enc P W' 0 sp' true ts vs ds ps
 | [],vs,ds,ps,_,h,_,_=>by
  obtain ⟨rfl,rfl,rfl⟩:=trodAll_nil h;exact trodAll_mk0
 | t :: ts,vs,ds,ps,ht,h,h1,h2=>by
  obtain ⟨v,vs1,d,ds1,a,b,rfl,rfl,rfl,k1,k2⟩:=trodAll_cons h;have ht0:=ht t (by simp)
  exact ⟨a,b,WideElems.Trod_stays hl ht0.1 ht0.2 k1 (fun p hp=>hb.same (h1 p (lY _ hp))) (fun p hp=>h2 p (lY _ hp)),
   q4e hl hb (fun t h=>ht t (lM _ h)) k2 (fun p hp=>h1 p (List.mem_append_right _ hp)) (fun p hp=>h2 p (List.mem_append_right _ hp)),rfl⟩
theorem post_kept {f:Func} {s:ChangeSpec} {apart fresh handsOn again:Bool} {W W':World} {args:Array Value} {ds gs:List (DataW H)} {before:List MemPlace} {tb:TypeId}
  (hl:laidOutB P=true) (hts:∀ t∈f.params.toList,P.readableRec t=true/\t<P.types.size) (hvars:s.vars=[])
  (hW:DataW.Whole enc P f.params.toList s.vars apart W args.toList ds gs before) (hfn:(s.fn H (ds++gs)).results=[.lit (.bool true)]/\(s.fn H (ds++gs)).args=ds/\(s.fn H (ds++gs)).vars=[])
  (hr:f.resultTypes=#[tb]) (hb:P.underlying tb=some .bool) (hB:Below W.heap.size W W'):s.post enc P f apart fresh handsOn again W args (.bool true) W':=by
 have hlt:=hW.lt;have hW0:=hW;obtain ⟨p,q,hA,hV,rfl,hz,hn⟩:=hW;rw [hvars] at hV;obtain ⟨rfl,rfl⟩:=trodVars_none hV;rw [lU] at *;obtain ⟨e1,e2,e3⟩:=hfn;have hold:∀ x∈p,(fun b=>decide (b<W.heap.size)) x.block=true:=fun x hx=>by simpa using hlt x hx
 have hres:∀ (b:Nat) (sp:Nat->Bool) (hd:Bool),DataW.TrodAll enc P W' b sp hd f.resultTypes.toList ((Value.bool true).resultList f.resultTypes.size) [.lit (.bool true)] []:=fun b sp hd=>by
  rw [hr];exact trodAll_mk1 (shut_bool hb true)
 refine ⟨ds,[],p,[],p,[],hW0,by rw [lU,e1];exact hres _ _ _,by rw [lU,e2];exact q4e hl hB hts hA hlt hold,by rw [lU,hvars,e3];exact rfl,hB.frame _,fun _=>?_⟩
 refine ⟨ok_one hr rfl (okWide_bool_mk hb true),_,[],([]++p)++[],⟨[]++p,[],trodAll_append (q4e hl hB hts hA hlt (fun _ _=>rfl)) (hres _ _ _),by rw [hvars];exact rfl,rfl,?_,?_⟩,?_⟩
 ·intro b off hp;have hp:MemPlace.cell b off∈p:=by simpa using hp
  rw [hB.frozen (p:=⟨b,off,none⟩) (hlt _ hp)];exact hz b off hp
 ·intro ha;simpa using hn ha
 ·intro x hx _;simpa using hx
end
structure TuT (P:Program) (tL tU tD tO tN:TypeId):Prop where
 str:P.underlying tN=some .string
 ob:∃ f0 f1,P.underlying tO=some (.struct #[f0,f1])/\f0.type=tN/\f0.offset=0/\f1.type=tN/\f1.offset=1
 nd:∃ f0 f1,P.underlying tD=some (.struct #[f0,f1])/\f0.type=tO/\f0.offset=0/\f1.type=tN/\f1.offset=2
 tu:∃ f0 f1 f2,P.underlying tU=some (.struct #[f0,f1,f2])/\f0.type=tO/\f0.offset=0/\f1.type=tN/\f1.offset=2/\f2.type=tD/\f2.offset=3
 tus:P.underlying tL=some (.slice tU)
 cN:P.cellsOf tN=1
 cO:P.cellsOf tO=2
 cD:P.cellsOf tD=3
 cU:P.cellsOf tU=6
 bU:1<=P.bytesOf tU
section
variable {H:Type} {enc:TypeId×Value->H} {P:Program} {w:World} {sp:Nat->Bool} {held:Bool} {tL tU tD tO tN:TypeId} (K:TuT P tL tU tD tO tN)
include K
theorem yb1 {n:Nat} {cs:List Value} {x:DataW H×List MemPlace} (hw:Wt P tO x.1) (h:DataW.trod enc P w 0 sp held n tO cs=some x):∃ o:Ob,OkO o/\cs=[.string o.ty,.string o.id]:=by
 obtain ⟨f0,f1,hu,a0,b0,a1,b1⟩:=K.ob;obtain ⟨hl,m,rfl,hf⟩:=q3z hu hw h;rw [K.cO] at hl;obtain ⟨c0,c1,rfl⟩:∃ c0 c1,cs=[c0,c1]:=by
  match cs,hl with
  | [c0,c1],_=>exact ⟨_,_,rfl⟩
 obtain ⟨y0,w0,h0⟩:=hf 0 f0 rfl;obtain ⟨y1,w1,h1⟩:=hf 1 f1 rfl;rw [a0,b0,K.cN] at h0;rw [a1,b1,K.cN] at h1;rw [a0] at w0;rw [a1] at w1;obtain ⟨s1,g1,e1⟩:=q37 K.str w0 h0;obtain ⟨s2,g2,e2⟩:=q37 K.str w1 h1;simp at e1 e2;subst e1;subst e2;exact ⟨⟨s1,s2⟩,⟨g1,g2⟩,rfl⟩
theorem yy5 {n:Nat} {cs:List Value} {x:DataW H×List MemPlace} (hw:Wt P tD x.1) (h:DataW.trod enc P w 0 sp held n tD cs=some x):∃ o:Nd,OkD o/\cs=[.string o.o.ty,.string o.o.id,.string o.rl]:=by
 obtain ⟨f0,f1,hu,a0,b0,a1,b1⟩:=K.nd;obtain ⟨hl,m,rfl,hf⟩:=q3z hu hw h;rw [K.cD] at hl;obtain ⟨c0,c1,c2,rfl⟩:∃ c0 c1 c2,cs=[c0,c1,c2]:=by
  match cs,hl with
  | [c0,c1,c2],_=>exact ⟨_,_,_,rfl⟩
 obtain ⟨y0,w0,h0⟩:=hf 0 f0 rfl;obtain ⟨y1,w1,h1⟩:=hf 1 f1 rfl;rw [a0,b0,K.cO] at h0;rw [a1,b1,K.cN] at h1;rw [a0] at w0;rw [a1] at w1;obtain ⟨o,g1,e1⟩:=yb1 K w0 h0;obtain ⟨s2,g2,e2⟩:=q37 K.str w1 h1;simp at e1 e2;obtain ⟨rfl,rfl⟩:=e1;subst e2;exact ⟨⟨o,s2⟩,⟨g1,g2⟩,rfl⟩
theorem yy2 {n:Nat} {cs:List Value} {x:DataW H×List MemPlace} (hw:Wt P tU x.1) (h:DataW.trod enc P w 0 sp held n tU cs=some x):∃ t:Tu,OkU t/\RVs (Old w) w (tuC t) cs:=by
 obtain ⟨f0,f1,f2,hu,a0,b0,a1,b1,a2,b2⟩:=K.tu;obtain ⟨hl,m,rfl,hf⟩:=q3z hu hw h;rw [K.cU] at hl;obtain ⟨c0,c1,c2,c3,c4,c5,rfl⟩:∃ c0 c1 c2 c3 c4 c5,cs=[c0,c1,c2,c3,c4,c5]:=by
  match cs,hl with
  | [c0,c1,c2,c3,c4,c5],_=>exact ⟨_,_,_,_,_,_,rfl⟩
 obtain ⟨y0,w0,h0⟩:=hf 0 f0 rfl;obtain ⟨y1,w1,h1⟩:=hf 1 f1 rfl;obtain ⟨y2,w2,h2⟩:=hf 2 f2 rfl;rw [a0,b0,K.cO] at h0;rw [a1,b1,K.cN] at h1;rw [a2,b2,K.cD] at h2;rw [a0] at w0;rw [a1] at w1;rw [a2] at w2;obtain ⟨o,g1,e1⟩:=yb1 K w0 h0;obtain ⟨r,g2,e2⟩:=q37 K.str w1 h1;obtain ⟨s,g3,e3⟩:=yy5 K w2 h2;simp at e1 e2 e3;obtain ⟨rfl,rfl⟩:=e1;subst e2;obtain ⟨rfl,rfl,rfl⟩:=e3;exact ⟨⟨o,r,s⟩,⟨g1,g2,g3⟩,.cons (.str _) (.cons (.str _) (.cons (.str _) (.cons (.str _) (.cons (.str _) (.cons (.str _) .nil)))))⟩
theorem open_obj {v:Value} {d:DataW H} {ps:List MemPlace} (hw:Wt P tO d) (h:DataW.Trod enc P w 0 sp held tO v d ps) (hv:∃ vs,v=.agg vs):∃ o:Ob,OkO o/\RV (Old w) w (.agg (obC o)) v:=by
 obtain ⟨n,h⟩:=h;obtain ⟨vs,rfl⟩:=hv;obtain ⟨o,g,e⟩:=yb1 K (x:=(d,ps)) hw h;have hc:(Value.agg vs).cells.toList=vs.toList:=by simp [Value.cells]
 rw [hc] at e;have h9:vs=#[.string o.ty,.string o.id]:=Array.toList_inj.1 (by rw [e])
 subst h9;refine ⟨o,g,.agg _ _ rfl fun i u hi=>?_⟩
 match i,hi with
 | 0,hi=>simp [obC] at hi;subst hi;exact .str _
 | 1,hi=>simp [obC] at hi;subst hi;exact .str _
theorem open_tus {v:Value} {d:DataW H} {ps:List MemPlace} (hw:Wt P tL d) (h:DataW.Trod enc P w 0 sp held tL v d ps) (hv:∃ a b c,v=.slice a b c):∃ l:List Tu,(∀ t∈l,OkU t)/\RV (Old w) w (.sl 6 (l.map tuC)) v:=by
 obtain ⟨n,h⟩:=h;obtain ⟨a,b,c,rfl⟩:=hv;obtain ⟨l,v,g1,g2,e,g3⟩:=q71 (enc':=tuC) (good:=OkU) (x:=(d,ps)) K.tus K.cU (by decide) (fun _=>rfl) K.bU hw (fun k _ cs x hw h=>yy2 K hw h) h
 have:v=.slice a b c:=by
  have:=congrArg List.head? e;simpa [Value.cells] using this.symm
 subst this;exact ⟨l,g1,g3⟩
end
end Go.HL
namespace Go.Proofs.YtadmdlpmikoghaaGreat
open Go.ChangeShapes Go.WideShapes Go.ChangeAt Go.RowKit Go.HL
theorem own:ownKnob Tryz.prog.godebug=none:=by kernel_rfl
theorem laidOut:laidOutB Tryz.prog=true:=by kernel_rfl
theorem scT:ScT Tryz.prog 24 22 46 44 53 48 171 51 49 3 9 where
 int:=Tryz.underlying3
 str:=Tryz.underlying9
 ex:=⟨_,_,_,_,Tryz.underlying51,rfl,rfl,rfl,rfl,rfl,rfl,rfl,rfl⟩
 exs:=Tryz.underlying49
 rf:=⟨_,_,Tryz.underlying171,rfl,rfl,rfl,rfl⟩
 rfs:=Tryz.underlying48
 rl:=⟨_,_,_,Tryz.underlying53,rfl,rfl,rfl,rfl,rfl,rfl⟩
 rls:=Tryz.underlying44
 ty:=⟨_,_,Tryz.underlying46,rfl,rfl,rfl,rfl⟩
 tys:=Tryz.underlying22
 sc:=⟨_,Tryz.underlying24,rfl,rfl⟩
 cI:=by kernel_rfl
 cN:=by kernel_rfl
 cE:=by kernel_rfl
 cEs:=by kernel_rfl
 cF:=by kernel_rfl
 cFs:=by kernel_rfl
 cR:=by kernel_rfl
 cRs:=by kernel_rfl
 cT:=by kernel_rfl
 cTs:=by kernel_rfl
 cS:=by kernel_rfl
 bE:=of_decide_eq_true (by kernel_rfl)
 bF:=of_decide_eq_true (by kernel_rfl)
 bR:=of_decide_eq_true (by kernel_rfl)
 bT:=of_decide_eq_true (by kernel_rfl)
theorem tuT:TuT Tryz.prog 25 41 39 27 9 where
 str:=Tryz.underlying9
 ob:=⟨_,_,Tryz.underlying27,rfl,rfl,rfl,rfl⟩
 nd:=⟨_,_,Tryz.underlying39,rfl,rfl,rfl,rfl⟩
 tu:=⟨_,_,_,Tryz.underlying41,rfl,rfl,rfl,rfl,rfl,rfl⟩
 tus:=Tryz.underlying25
 cN:=by kernel_rfl
 cO:=by kernel_rfl
 cD:=by kernel_rfl
 cU:=by kernel_rfl
 bU:=of_decide_eq_true (by kernel_rfl)
theorem weights_one {H:Type} {P:Program} {t:TypeId} {d:DataW H} {ts:List TypeId} {ds:List (DataW H)} (h:(DataW.weightsEach P (t :: ts) (d :: ds)).all (·<=reachBytes)=true):Wt P t d/\(DataW.weightsEach P ts ds).all (·<=reachBytes)=true:=by
 simp only [DataW.weightsEach,List.all_append,Bool.and_eq_true,List.all_eq_true,decide_eq_true_eq] at h;refine ⟨h.1,?_⟩;rw [List.all_eq_true];exact fun x hx=>decide_eq_true (h.2 x hx)
theorem trodAll_four {H:Type} {enc:TypeId×Value->H} {P:Program} {w:World} {base:Nat} {spare:Nat->Bool} {held:Bool} {t0 t1 t2 t3:TypeId} {args:Array Value} {ds:List (DataW H)} {ps:List MemPlace} (h:DataW.TrodAll enc P w base spare held [t0,t1,t2,t3] args.toList ds ps) :
  ∃ v0 v1 v2 v3 d0 d1 d2 d3 p0 p1 p2 p3,args=#[v0,v1,v2,v3]/\ds=[d0,d1,d2,d3]/\ps=p0++(p1++(p2++(p3)))/\DataW.Trod enc P w base spare held t0 v0 d0 p0/\DataW.Trod enc P w base spare held t1 v1 d1 p1/\DataW.Trod enc P w base spare held t2 v2 d2 p2/\DataW.Trod enc P w base spare held t3 v3 d3 p3:=by
 obtain ⟨v0,vs0,d0,ds0,p0,q0,hargs,rfl,rfl,h0,g0⟩:=trodAll_cons h;obtain ⟨v1,vs1,d1,ds1,p1,q1,rfl,rfl,rfl,h1,g1⟩:=trodAll_cons g0;obtain ⟨v2,vs2,d2,ds2,p2,q2,rfl,rfl,rfl,h2,g2⟩:=trodAll_cons g1;obtain ⟨v3,vs3,d3,ds3,p3,q3,rfl,rfl,rfl,h3,g3⟩:=trodAll_cons g2;obtain ⟨rfl,rfl,rfl⟩:=trodAll_nil g3;exact ⟨v0,v1,v2,v3,d0,d1,d2,d3,p0,p1,p2,p3,by cases args;simp_all,rfl,by simp,h0,h1,h2,h3⟩
end Go.Proofs.YtadmdlpmikoghaaGreat
namespace Go.Proofs.YtadmdlpmikoghaaGreat
open Go.ChangeShapes Go.WideShapes Go.ChangeAt Go.RowKit Go.HL
set_option maxRecDepth 100000 in
theorem graphMembers_lifted (os:Os) (started:os.Started) (H:Type) (enc:TypeId×Value->H) :
  ReturnsInHanded {} Tryz.checked os 6 .any (fun w args=>(Rows.graphMembersSpec.pre enc Tryz.prog Tryz.f6 Rows.graphMembersRow.domain false w args/\True)/\sizedMet enc Tryz.prog Tryz.f6 (OpenSpec.ofChange Rows.graphMembersSpec) false w args)
   (Rows.graphMembersSpec.post enc Tryz.prog Tryz.f6 false true false false):=by
 refine returnsInHanded_of_change_and (C:=Tryz.checked) (X:=fun _ _=>True) (fun _ _ _ _ h=>h) own started (by kernel_rfl) Tryz.func6
  (by
   obtain ⟨w,t,i,h1,h2,h3,h4,h5,h6⟩:=ChangeSpec.witness6 (enc:=enc) (C:=Tryz.checked) (os:=os) (f:=6) (fn:=Tryz.f6) (s:=Rows.graphMembersSpec) (conds:=Rows.graphMembersRow.domain) (apart:=false) false ⟨#[],#[.agg #[.slice none 0 0],.slice none 0 0,.agg #[.string ⟨#[]⟩,.string ⟨#[]⟩],.string ⟨#[]⟩],[]⟩ 8 (by kernel_rfl) (by kernel_rfl) (by kernel_rfl) (by kernel_rfl)
   exact ⟨w,t,i,h1,h2,h3,h4,⟨⟨h5.1,trivial⟩,h5.2⟩,h6⟩) ?_
 intro W base args ds gs before hval0 hW hcnd hsz0 _ _;have hval:∀ (j:Nat) t v,Tryz.f6.params[j]?=some t->args[j]?=some v->Value.okWide Tryz.prog W .any base t v:=hval0;have hsz:(DataW.weightsEach Tryz.prog (Tryz.f6.params.toList++[]) (ds++gs)).all (·<=reachBytes)=true:=hsz0;have hW':=hW;obtain ⟨p,q,hA0,hV,rfl,hfz,hnd⟩:=hW;have hA:DataW.TrodAll enc Tryz.prog W 0 (fun _=>true) true Tryz.f6.params.toList args.toList ds p:=hA0
 rw [Tryz.params6] at hA hval hsz;obtain ⟨v0,v1,v2,v3,d0,d1,d2,d3,p0,p1,p2,p3,rfl,rfl,rfl,h0,h1,h2,h3⟩:=trodAll_four hA;obtain ⟨rfl,rfl⟩:=trodVars_none hV;obtain ⟨w0,hsz⟩:=weights_one hsz;obtain ⟨w1,hsz⟩:=weights_one hsz;obtain ⟨w2,hsz⟩:=weights_one hsz;obtain ⟨-,hsz⟩:=weights_one hsz;obtain ⟨vs0,hvs0,-⟩:=okWide_struct Tryz.underlying24 (hval 0 24 v0 rfl rfl);obtain ⟨a0,hs0,hv0⟩:=open_sc scT w0 h0 ⟨vs0,hvs0⟩;obtain ⟨a1,hs1,hv1⟩:=open_tus tuT w1 h1 (okWide_slice Tryz.underlying25 (hval 1 25 v1 rfl rfl));obtain ⟨vs2,hvs2,-⟩:=okWide_struct Tryz.underlying27 (hval 2 27 v2 rfl rfl);obtain ⟨a2,hs2,hv2⟩:=open_obj tuT w2 h2 ⟨vs2,hvs2⟩;obtain ⟨a3,rfl,-,-,-⟩:=Go.ChangeMaps.open_string Tryz.underlying9 (hval 3 9 v3 rfl rfl) h3;clear hA0 hval0 hsz0;refine (call_true (by kernel_rfl) (c_GraphMembers hs0 hs1 a2 a3) (vs:=#[v0,v1,v2,.string a3]) (.cons hv0 (.cons hv1 (.cons hv2 (.cons (.str _) .nil))))).mono fun e W' ⟨he,hB⟩=>?_
 subst he;have hts:(Tryz.f6.params.toList.all fun t=>Tryz.prog.readableRec t&&decide (t<Tryz.prog.types.size))=true:=by kernel_rfl
 exact ⟨_,rfl,post_kept laidOut (fun t ht=>by have h:=List.all_eq_true.1 hts t ht;rw [Bool.and_eq_true] at h;exact ⟨h.1,of_decide_eq_true h.2⟩) rfl hW' ⟨rfl,rfl,rfl⟩ (tb:=4) (by kernel_rfl) Tryz.underlying4 hB⟩
set_option maxRecDepth 100000 in
theorem graphMembers_p0:(Rows.graphMembersRow.inPlace==Tryz.pinned.checked.prog.inPlace 6)=true:=by kernel_rfl
set_option maxRecDepth 100000 in
theorem graphMembers_p1:(Rows.graphMembersRow.unfollowed==Tryz.pinned.checked.prog.unfollowed 6)=true:=by kernel_rfl
set_option maxRecDepth 100000 in
theorem graphMembers_p2:(Rows.graphMembersRow.recurses==Tryz.pinned.checked.prog.recurses 6)=true:=by kernel_rfl
set_option maxRecDepth 100000 in
theorem graphMembers_p3:(Rows.graphMembersRow.named==Tryz.pinned.checked.prog.varsNamed 6)=true:=by kernel_rfl
set_option maxRecDepth 100000 in
theorem graphMembers_p4:laidOutB Tryz.pinned.checked.prog=true:=by kernel_rfl
set_option maxRecDepth 100000 in
theorem graphMembers_p5:mapsRowed Tryz.pinned.checked.prog=true:=by kernel_rfl
set_option maxRecDepth 100000 in
theorem graphMembers_p6:Tryz.pinned.checked.prog.stopsHeard=true:=by kernel_rfl
set_option maxRecDepth 100000 in
theorem graphMembers_p7:Tryz.pinned.checked.prog.mayEnter=true:=by kernel_rfl
set_option maxRecDepth 100000 in
theorem graphMembers_closed:joinedFacts Tryz.pinned.checked.prog 6 Tryz.f6 Rows.graphMembersSpec Rows.graphMembersRow=true:=by
 unfold joinedFacts;rw [graphMembers_p0,graphMembers_p1,graphMembers_p2,graphMembers_p3,graphMembers_p4,graphMembers_p5,graphMembers_p6,graphMembers_p7]
 kernel_rfl
theorem graphMembers_holds:Rows.GraphMembersSaid:=
 OpenClaim.holds_of_wide 6 Tryz.f6 rfl rfl rfl rfl rfl rfl rfl ⟨rfl,rfl,rfl,rfl,rfl⟩ rfl rfl rfl rfl rfl (by kernel_rfl) Tryz.func6 graphMembers_closed
  (of_decide_eq_true (by kernel_rfl)) (by unfold Func.isWrapper;first | (rw [if_pos (by decide +kernel)];kernel_rfl) | (rw [if_neg (by decide +kernel)];exact ⟨rfl,rfl⟩))
  (fun os started H enc _=>by
   have h:=graphMembers_lifted os started H enc;simp only [and_true] at h;exact h)
end Go.Proofs.YtadmdlpmikoghaaGreat
