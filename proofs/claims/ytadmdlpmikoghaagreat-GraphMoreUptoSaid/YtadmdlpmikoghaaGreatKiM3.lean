/- The law GraphMore returns true for every input of bulk at most 1048576 and leaves it as it was; no other conditions. -/
import Derived.Test.YtadmdlpmikoghaaGreatKiM2
import Derived.Test.YtadmdlpmikoghaaGreatKiHlS1
import Derived.Test.YtadmdlpmikoghaaGreatKiM1
import Derived.Test.YtadmdlpmikoghaaGreatKiHlS12
import Derived.Test.YtadmdlpmikoghaaGreatKiHlS13
import Derived.Test.YtadmdlpmikoghaaGreatKiHlS6
import Derived.Test.YtadmdlpmikoghaaGreatKiHlS9
import Derived.Test.YtadmdlpmikoghaaGreatKiHlO
import Derived.Test.YtadmdlpmikoghaaGreatKiHlS5
import Derived.Test.YtadmdlpmikoghaaGreatKiHlS8
import Derived.Test.YtadmdlpmikoghaaGreatKiHlS3
import Derived.Test.YtadmdlpmikoghaaGreatKiHlS0
import Derived.Test.YtadmdlpmikoghaaGreatKiHlS4
import Derived.Test.YtadmdlpmikoghaaGreatKiHlS2
import Derived.Test.YtadmdlpmikoghaaGreatKiHlL
import Derived.ProofKit
import Derived.Carry
import Derived.Handed
import Derived.Test.YtadmdlpmikoghaaGreatRows
import Derived.JoinedCond
set_option maxRecDepth 4000
set_option linter.unusedSimpArgs false
set_option linter.unusedVariables false
namespace Go.HL
open Nat renaming reduceAdd→zA,reduceLeDiff→zB,reduceLT→zC,reduceSub→zD,reduceMul→zE,reduceEqDiff→zF,reduceBEq→zG
open Int renaming reduceAdd→zH,reduceToNat→zI
theorem q8l {s:List Ty} (hs:OkS s) (hN:OkN s) {l:List Tu} (hl:OkL l) (hn:l.length≤500) (n:Nd) (who:Ob) :
  AFun PG nrx22 [scA s,.sl 6 (l.map tuC),.agg (obC n.o),.str n.rl,.agg (obC who)] (.bool (decide (errA (chkF s)=0)&&inB (envE s l who) n)):=by
 intro S
 refine wx22 ?_
 unfold Bx22
 have q1:=q5c hs hN
 unfold lvlF at q1
 simp only [scA] at q1
 (try simp only [rwp,zA,zB,zC,zD,zE,zF,zG,zH,zI,rwb,reduceIte,scA,obC])
 by_cases hk:errA (chkF s)=0
 ·rw [if_pos hk] at q1
  rw [decide_eq_true hk,Bool.true_and]
  refine q06 q1 ?_
  have R:Rnd s (q18 s l) who:=⟨hs,hk,counts_ok hl,q7x s l who⟩
  have hlc:(q18 s l).length≤500:=Nat.le_trans (List.length_filter_le _ _) hn
  have q2:=c_gcounts hs hl S
  have q3:=c_gknown R hlc n.o S
  simp only [scA,obC] at q2 q3
  (try simp only [rwp,zA,zB,zC,zD,zE,zF,zG,zH,zI,rwb,reduceIte])
  refine q10 q2 ?_
  rintro ae S1 ⟨a,rfl,h1,h2⟩
  dsimp only
  (try simp only [rwp,zA,zB,zC,zD,zE,zF,zG,zH,zI,rwb,reduceIte])
  refine q10 (ACalls.frz (FrS.sub h1) (.cons (.same _) (.cons (.same _) (.cons (Fr.lstW h2) (.cons (.same _) (.cons (.same _) .nil))))) q3) ?_
  rintro ae S2 ⟨bk,K,rfl,h3,h4,h5⟩
  dsimp only
  (try simp only [rwp,zA,zB,zC,zD,zE,zF,zG,zH,zI,rwb,reduceIte])
  have q:=fun K' hk=>h4.lki (ok:=false) (z:=.bool false) (K:=K') ke_nd n hk
  simp only [ndA,ndC] at q
  refine q _ ?_
  rw [q4w]
  (try simp only [rwp,zA,zB,zC,zD,zE,zF,zG,zH,zI,rwb,reduceIte])
  refine rtW_sub h3 ⟨?_,rfl⟩
  rw [inB_eq (q7x s l who) hk h5]
 ·rw [if_neg hk] at q1
  rw [decide_eq_false hk,Bool.false_and]
  refine q06 q1 ?_
  (try simp only [rwp,zA,zB,zC,zD,zE,zF,zG,zH,zI,rwb,reduceIte])
  exact q03 ⟨rfl,rfl⟩
set_option maxRecDepth 4000
noncomputable def outF (s:List Ty) (l L:List Tu) (n:Nd):List Ob:=(L.filter fun t=>decide (t.s.rl=⟨#[]⟩)&&inB (envE s l t.s.o) n).map fun t=>t.s.o
noncomputable def memF (s:List Ty) (l:List Tu) (n:Nd):List Ob:=if errA (chkF s)=0 then srtO ltO (outF s l (q18 s l) n) else []
theorem outF_take {s:List Ty} {l L:List Tu} {n:Nd} {i:Nat} {t:Tu} (h:L[i]?=some t):outF s l (L.take (i+1)) n=outF s l (L.take i) n++if (decide (t.s.rl=⟨#[]⟩)&&inB (envE s l t.s.o) n)=true then [t.s.o] else []:=by
 unfold outF
 rw [q3z h,List.map_append]
 congr 1
 cases (decide (t.s.rl=⟨#[]⟩)&&inB (envE s l t.s.o) n)<;>rfl
theorem outF_len {s:List Ty} {l L:List Tu} {n:Nd}:(outF s l L n).length≤L.length:=by
 unfold outF
 rw [List.length_map]
 exact List.length_filter_le _ _
theorem LstN.ln {S0 S S':q00} {t sz:Nat} {v:AV} {rows:List (List AV)} {K:AV→Prop} (h:LstN S0 S t sz v rows):lnW S' 1 v K=K (.int .i64 rows.length):=by
 obtain ⟨hr,⟨rfl,rfl⟩ | ⟨b,cap,rfl,-⟩⟩:=h
 ·rw [q8h];rfl
 ·rw [lnW_own]
theorem dat_nil (S:q00):Dat .nils (fun _=>.nils) (fun _=>S) 0:=⟨fun _ h=>absurd h (by omega),fun h=>absurd h (by omega),fun h=>absurd h (by omega),fun hk=>by rw [q8h];exact hk,by omega,fun _ h=>absurd h (by omega),fun _ h=>absurd h (by omega),fun h=>h⟩
theorem sort_compact {N g:Nat} (hN:SortOk N) (hg:∀ x y,AFun PG g [.agg (obC x),.agg (obC y)] (.int .i64 (cmpO x y))) {S0 S:q00} {v:AV} {M:List Ob} (hs:Sub S0 S) (h:LstN S0 S tyOb 2 v (M.map obC)) (hl:M.length≤N) (hb:M.length≤100000) {QF:AEnd→q00→Prop} (hQ:QF (.ret (.sl 2 ((srtO ltO M).map obC))) S0) :
  caW PG S (.func (.func nrx59) [] []) [v,.func (.func g) [] []] (fun _ S=>caW PG S (.func (.func nrx63) [] []) [v] (fun v58 S=>rtW [.tmp v58] QF S) (pqW QF)) (pqW QF):=by
 have fin:∀ (w:Nat→Ob) (S1:q00),Sub S0 S1→OwnL S0 S1 tyOb 2 obC v M.length w→Rng M.length 0 M.length (at' M) w→Srt (ltC cmpO) 0 M.length w →
   caW PG S1 (.func (.func nrx63) [] []) [v] (fun v58 S=>rtW [.tmp v58] QF S) (pqW QF):=by
  intro w S1 hs1 ho hr hw
  refine q10 (c_Compact hs1 ho hb) ?_
  rintro ae S2 ⟨a',rfl,h1,h2⟩
  dsimp only
  have e:dd w M.length=srtO ltO M:=by
   obtain ⟨k1,k2,-⟩:=srtO_ok stO M _ rfl
   refine Asc.uniq stO (dd_asc stO hw) k1 fun x=>?_
   rw [k2,mem_dd]
   have hm:x∈M↔x∈vl M.length w:=by
    conv=>lhs;rw [← vl_at M]
    exact hr.perm.mem_iff
   rw [hm]
   unfold vl
   rw [List.mem_map]
   constructor
   ·rintro ⟨i,h1,h2⟩;exact ⟨i,by simpa using h1,h2⟩
   ·rintro ⟨i,h1,h2⟩;exact ⟨i,by simpa using h1,h2⟩
  rw [e] at h2
  exact rtW_fr S0 _ h1 (Fr.lstW h2) hQ
 obtain ⟨hr,⟨rfl,e⟩ | ⟨b,cap,rfl,h1,h2,h3,h4,h5⟩⟩:=h
 ·have e:M=[]:=by simpa using e
  subst e
  refine q10 (hN .nils (fun _=>.nils) (fun _=>S) 0 g cmpO (dat_nil S) hg stO.ok (by omega) (at' [])) ?_
  rintro ae S1 ⟨rfl,w,rfl,k1,k2⟩
  dsimp only
  exact fin w _ hs (.inl ⟨rfl,rfl⟩) k1 k2
 ·simp only [List.length_map] at h3 h5 h2 ⊢
  have hsm:supd S b (.cells tyOb (fl obC M.length (at' M)) (cap * 2))=S:=by
   funext c
   unfold supd
   split
   ·rename_i e
    subst e
    have:fl obC M.length (at' M)=(M.map obC).flatten:=by unfold fl;rw [vl_at]
    rw [this]
    exact h2.symm
   ·rfl
  have q:=hN _ _ _ M.length g cmpO (dat_own (S0:=S) (b:=b) h3 hb) hg stO.ok hl (at' M)
  rw [hsm] at q
  refine q10 q ?_
  rintro ae S1 ⟨rfl,w,rfl,k1,k2⟩
  dsimp only
  simp only [List.length_map] at fin
  exact fin w _ (Sub.supd h1 hs) (.inr ⟨b,cap,rfl,h1,by rw [q01,if_pos rfl],h3,h4⟩) k1 k2
theorem c_gMembers {N:Nat} (hNs:SortOk N) {s:List Ty} (hs:OkS s) (hN:OkN s) {l:List Tu} (hl:OkL l) (hn:l.length≤500) (n:Nd) (hlen:errA (chkF s)=0→(outF s l (q18 s l) n).length≤N) :
  AFun PG nrx23 [scA s,.sl 6 (l.map tuC),.agg (obC n.o),.str n.rl] (.sl 2 ((memF s l n).map obC)):=by
 intro S
 refine wx23 ?_
 unfold Bx23
 have q1:=q5c hs hN
 unfold lvlF at q1
 simp only [scA] at q1
 (try simp only [rwp,zA,zB,zC,zD,zE,zF,zG,zH,zI,rwb,reduceIte,scA,obC])
 unfold memF
 by_cases hk:errA (chkF s)=0
 ·rw [if_pos hk] at q1
  rw [if_pos hk]
  refine q06 q1 ?_
  have hlen:=hlen hk
  have hlc:(q18 s l).length≤500:=Nat.le_trans (List.length_filter_le _ _) hn
  have q2:=c_gcounts hs hl S
  simp only [scA] at q2
  (try simp only [rwp,zA,zB,zC,zD,zE,zF,zG,zH,zI,rwb,reduceIte])
  refine q10 q2 ?_
  rintro ae S1 ⟨a,rfl,h1,h2⟩
  dsimp only
  rw [h2.ln,List.length_map]
  refine LoopP.frz (S1:=S) (l':=[(1,.sl 6 ((q18 s l).map tuC)),(3,.str n.rl),(4,.rop [.sl 2 (s.map tyC)]),(6,.rop [.str n.o.ty,.str n.o.id]),(9,.sl 1 (lvC (levF s))),(11,.nils),(24,.sl 6 ((q18 s l).map tuC)),(25,.int .i64 (q18 s l).length),(26,.int .i64 0)]) (FrS.sub h1) (.cons (Fr.lstW h2) (.cons (.same _) (.cons (.same _) (.cons (.same _) (.cons (.same _) (.cons (.same _) (.cons (Fr.lstW h2) (.cons (.same _) (.cons (.same _) .nil))))))))) ?_
  generalize hL:q18 s l=L at hlen hlc ⊢
  refine LoopP.introS (fun x:Nat×AV=>[(1,.sl 6 (L.map tuC)),(3,.str n.rl),(4,.rop [.sl 2 (s.map tyC)]),(6,.rop [.str n.o.ty,.str n.o.id]),(9,.sl 1 (lvC (levF s))),(11,x.2),(24,.sl 6 (L.map tuC)),(25,.int .i64 L.length),(26,.int .i64 x.1)])
   (fun x S'=>x.1≤L.length∧Sub S S'∧LstN S S' tyOb 2 x.2 ((outF s l (L.take x.1) n).map obC)) (fun x=>L.length-x.1) (0,.nils) ⟨by dsimp only;omega,Sub.refl _,LstN.nil⟩ rfl ?_
  rintro ⟨i,ov⟩ S2 ⟨hi,s2,o2⟩ kk hkk
  dsimp only at hi o2 ⊢
  (try simp only [rwp,zA,zB,zC,zD,zE,zF,zG,zH,zI,rwb,reduceIte,C23_1])
  cases a0:decide ((i:Int)<L.length)
  ·have e:i=L.length:=by have:=of_decide_eq_false a0;omega
   subst e
   (try simp only [rwp,zA,zB,zC,zD,zE,zF,zG,zH,zI,rwb,reduceIte])
   rw [List.take_length] at o2
   have:=@outF_len s l L n
   exact sort_compact hNs c_gcmp s2 o2 hlen (by omega) ⟨rfl,rfl⟩
  ·have hlt:=of_decide_eq_true a0
   (try simp only [rwp,zA,zB,zC,zD,zE,zF,zG,zH,zI,rwb,reduceIte])
   obtain ⟨t,ht⟩:=q0t hlt
   have go:∀ {b:Bool} {S3:q00},b=(decide (t.s.rl=⟨#[]⟩)&&inB (envE s l t.s.o) n)→Sub S S3→LstN S S3 tyOb 2 ov ((outF s l (L.take i) n).map obC)→C23_2 (fun ae S'=>ae=AEnd.ret (AV.sl 2 ((srtO ltO (outF s l L n)).map obC))∧S'=S) kk (.sl 6 (L.map tuC)) (.str n.rl) (.rop [.sl 2 (s.map tyC)]) (.rop [.str n.o.ty,.str n.o.id]) (.sl 1 (lvC (levF s))) ov (.rop [.str t.o.ty,.str t.o.id,.str t.rl,.str t.s.o.ty,.str t.s.o.id,.str t.s.rl]) (.sl 6 (L.map tuC)) (.int .i64 L.length) (.int .i64 i) (.bool b) S3:=by
    intro b S3 hb s3 o3
    have hot:=outF_take (s:=s) (l:=l) (n:=n) ht
    rw [← hb] at hot
    cases b
    ·(try simp only [rwp,zA,zB,zC,zD,zE,zF,zG,zH,zI,rwb,reduceIte,C23_2])
     (simp (disch:=omega) only [q08])
     refine q0a rfl (hkk (i+1,ov) _ ⟨by dsimp only;omega,s3,?_⟩ (by dsimp only;omega))
     dsimp only
     rw [hot]
     simpa using o3
    ·(try simp only [rwp,zA,zB,zC,zD,zE,zF,zG,zH,zI,rwb,reduceIte,C23_2])
     have:=@outF_len s l (L.take i) n
     have:=List.length_take_le i L
     refine LstN.app s3 o3 (xs:=[[.str t.s.o.ty,.str t.s.o.id]]) (fun r hr=>by rw [List.mem_singleton.1 hr];rfl) (q3r fun r hr=>by rw [List.mem_singleton.1 hr];rfl) (by simp only [List.length_map,List.length_singleton];omega) fun v' S4 j1 j2 j3=>?_
     (simp (disch:=omega) only [q08])
     refine q0a rfl (hkk (i+1,v') _ ⟨by dsimp only;omega,j1,?_⟩ (by dsimp only;omega))
     dsimp only
     rw [hot,List.map_append]
     exact j2
   (try simp only [rwp,zA,zB,zC,zD,zE,zF,zG,zH,zI,rwb,reduceIte,List.getElem?_map,ht,tuC])
   cases a1:decide (t.s.rl=⟨#[]⟩)
   ·(try simp only [rwp,zA,zB,zC,zD,zE,zF,zG,zH,zI,rwb,reduceIte])
    exact go (by rw [a1];rfl) s2 o2
   ·have R:Rnd s L t.s.o:=by rw [← hL];exact ⟨hs,hk,counts_ok hl,q7x s l t.s.o⟩
    have q3:=c_gknown R hlc n.o S2
    simp only [scA,obC] at q3
    (try simp only [rwp,zA,zB,zC,zD,zE,zF,zG,zH,zI,rwb,reduceIte])
    refine q10 q3 ?_
    rintro ae S3 ⟨bk,K,rfl,h3,h4,h5⟩
    dsimp only
    (try simp only [rwp,zA,zB,zC,zD,zE,zF,zG,zH,zI,rwb,reduceIte])
    have q:=fun K' hk=>h4.lki (ok:=false) (z:=.bool false) (K:=K') ke_nd n hk
    simp only [ndA,ndC] at q
    refine q _ ?_
    rw [q4w]
    (try simp only [rwp,zA,zB,zC,zD,zE,zF,zG,zH,zI,rwb,reduceIte])
    refine go ?_ (s2.trans h3) (o2.sub h3)
    rw [a1,Bool.true_and]
    rw [← hL] at h5
    exact inB_eq (q7x s l t.s.o) hk h5 n
 ·rw [if_neg hk] at q1
  rw [if_neg hk]
  refine q06 q1 ?_
  (try simp only [rwp,zA,zB,zC,zD,zE,zF,zG,zH,zI,rwb,reduceIte])
  exact rtW_fr S _ (Sub.refl _) (.nils 2) ⟨rfl,rfl⟩
set_option maxRecDepth 4000
structure Tk where
 s:ByteArray
 line:Int
 col:Int
instance:Inhabited Tk:=⟨⟨⟨#[]⟩,0,0⟩⟩
def tkC (t:Tk):List AV:=[.str t.s,.int .i64 t.line,.int .i64 t.col]
structure Rd where
 at':Nat
 op:Int
 dl:Int
 dc:Int
 de:Int
def rdC (T:List Tk) (r:Rd):List AV:=[.sl 3 (T.map tkC),.int .i64 r.at',.int .i64 r.op,.int .i64 r.dl,.int .i64 r.dc,.int .i64 r.de]
def rdO (T:List Tk) (r:Rd):AObj:=.cells 145 (rdC T r) 6
def AFunR (f b:Nat) (xs:List AV) (T:List Tk) (r:Rd) (v:AV) (r':Rd):Prop:=∀ S,sget S b=some (rdO T r)→ACalls PG f (.ptr b 0 :: xs) S fun ae S'=>ae=.ret v∧S'=supd S b (rdO T r')
theorem q70 {S:q00} {b:Nat} {T:List Tk} {r:Rd} (h:sget S b=some (rdO T r)):q0f S b=some (145,[.sl 3 (T.map tkC),.int .i64 r.at',.int .i64 r.op,.int .i64 r.dl,.int .i64 r.dc,.int .i64 r.de],6):=objAt_some.2 h
theorem q0n {S:q00} {b:Nat} {o:AObj} (h:sget S b=some o):supd S b o=S:=by
 funext c
 unfold supd
 by_cases hc:b=c
 ·subst hc;rw [if_pos rfl];exact h.symm
 ·rw [if_neg hc]
def nxP (T:List Tk) (r:Rd):Tk:=T.getD r.at' default
def q45 (t:Tk) (e:Int) (r:Rd):Rd:=if r.de=0 then { r with dl:=t.line,dc:=t.col,de:=e } else r
def isP (T:List Tk) (s:ByteArray) (r:Rd):Bool:=decide (r.de=0)&&decide ((nxP T r).s=s)
def isR (T:List Tk) (s:ByteArray) (r:Rd):Rd:=if isP T s r then { r with at':=r.at'+1 } else r
def q1o (T:List Tk) (s:ByteArray) (r:Rd):Rd:=if isP T s r then isR T s r else q45 (nxP T r) 8 r
def q27 (T:List Tk) (r:Rd):ByteArray:=if q0v (nxP T r).s=true∧r.de=0 then (nxP T r).s else ⟨#[]⟩
def q0i (T:List Tk) (r:Rd):Rd:=if q0v (nxP T r).s=true∧r.de=0 then { r with at':=r.at'+1 } else q45 (nxP T r) 8 r
structure OkTk (T:List Tk):Prop where
 len:T.length≤5000
 size:∀ t∈T,t.s.size≤1125899906842624
 last:∀ t,T[T.length-1]?=some t→t.s=⟨#[]⟩∨t.s=⟨#[63]⟩
def InR (T:List Tk) (r:Rd):Prop:=r.at'<T.length
theorem nx_get {T:List Tk} {r:Rd} (h:InR T r):T[r.at']?=some (nxP T r):=by
 unfold nxP InR at *
 rw [List.getD_eq_getElem?_getD,List.getElem?_eq_getElem h]
 rfl
theorem c_fail {T:List Tk} {r:Rd} {b:Nat} (t:Tk) (e:Int):AFunR nrx88 b [.agg (tkC t),.int .i64 e] T r (.tup []) (q45 t e r):=by
 intro S h
 have ho:=q70 h
 refine wx88 ?_
 unfold Bx88
 (try simp only [rwp,hwR,zA,zB,zC,zD,zE,zF,zG,zH,zI,tkC,q07 ho])
 (refine q04 (fun h0=>?_) (fun h0=>?_)<;>(try simp only [hlc] at h0))
 ·(try simp only [rwp,hwR,zA,zB,zC,zD,zE,zF,zG,zH,zI,ho])
  exact q3d ⟨rfl,by rw [q45,if_pos h0];rfl⟩
 ·exact q3d ⟨rfl,by rw [q45,if_neg h0,q0n h]⟩
theorem q4m {T:List Tk} {r:Rd} {b:Nat} (hT:OkTk T) (hr:InR T r):AFunR nrx87 b [] T r (.agg (tkC (nxP T r))) r:=by
 intro S h
 have ho:=q70 h
 have hx:=nx_get hr
 refine wx87 ?_
 unfold Bx87
 intro b2 hb2
 have hne:b2≠b:=q0h hb2 h
 (try simp only [rwp,hwR,zA,zB,zC,zD,zE,zF,zG,zH,zI,q07 ho,if_neg hne,hx,tkC])
 refine q1h S (by rw [q2f hb2];exact Sub.refl S) ?_
 (try simp only [rwp,hwR,zA,zB,zC,zD,zE,zF,zG,zH,zI])
 first | exact ⟨rfl,(q0n h).symm⟩ | exact (q0n h).symm
theorem c_is {T:List Tk} {r:Rd} {b:Nat} (hT:OkTk T) (hr:InR T r) (s:ByteArray):AFunR nrx84 b [.str s] T r (.bool (isP T s r)) (isR T s r):=by
 intro S h
 have ho:=q70 h
 have hx:=nx_get hr
 have hl:=hT.len
 have hr':r.at'<T.length:=hr
 refine wx84 ?_
 unfold Bx84
 (try simp only [rwp,hwR,zA,zB,zC,zD,zE,zF,zG,zH,zI,q07 ho])
 cases a1:decide (r.de=0) with
 | false=>
  (try simp only [rwp,hwR,zA,zB,zC,zD,zE,zF,zG,zH,zI,C84_1])
  have hp:isP T s r=false:=by rw [isP,a1];rfl
  exact q03 ⟨by rw [hp],by rw [isR,hp];exact (q0n h).symm⟩
 | true=>
  (try simp only [rwp,hwR,zA,zB,zC,zD,zE,zF,zG,zH,zI,hx,tkC])
  cases a2:decide ((nxP T r).s=s) with
  | false=>
   (try simp only [rwp,hwR,zA,zB,zC,zD,zE,zF,zG,zH,zI,C84_1])
   have hp:isP T s r=false:=by rw [isP,a1,a2];rfl
   exact q03 ⟨by rw [hp],by rw [isR,hp];exact (q0n h).symm⟩
  | true=>
   (try simp only [rwp,hwR,zA,zB,zC,zD,zE,zF,zG,zH,zI,C84_1,q07 ho,ho])
   have hp:isP T s r=true:=by rw [isP,a1,a2];rfl
   (simp (disch:=omega) only [q08])
   exact q03 ⟨by rw [hp],by rw [isR,hp];rfl⟩
theorem AFunR.ca {f b:Nat} {xs:List AV} {T:List Tk} {r r':Rd} {v:AV} (h:AFunR f b xs T r v r') {S:q00} (hS:sget S b=some (rdO T r)) {K Qp:AV→q00→Prop} (hK:K v (supd S b (rdO T r'))):caW PG S (.func (.func f) [] []) (.ptr b 0 :: xs) K Qp:=
 q10 (h S hS) fun ae S' ⟨h1,h2⟩=>by subst h1;subst h2;exact hK
theorem q13 {S:q00} {b:Nat} {T:List Tk} {r:Rd}:sget (supd S b (rdO T r)) b=some (rdO T r):=by rw [q01,if_pos rfl]
theorem q7v {T:List Tk} {s:ByteArray} {r:Rd} (h:isP T s r=false):isR T s r=r:=by rw [isR,h];rfl
theorem c_must {T:List Tk} {r:Rd} {b:Nat} (hT:OkTk T) (hr:InR T r) (s:ByteArray):AFunR nrx130 b [.str s] T r (.tup []) (q1o T s r):=by
 intro S h
 refine wx130 ?_
 unfold Bx130
 refine (c_is hT hr s).ca h ?_
 cases hp:isP T s r with
 | true=>
  (try simp only [rwp,hwR,zA,zB,zC,zD,zE,zF,zG,zH,zI])
  exact q3d ⟨rfl,by rw [q1o,hp];rfl⟩
 | false=>
  (try simp only [rwp,hwR,zA,zB,zC,zD,zE,zF,zG,zH,zI])
  have hi:=q7v hp
  rw [hi]
  refine (q4m hT hr).ca q13 ?_
  (try simp only [rwp,hwR,zA,zB,zC,zD,zE,zF,zG,zH,zI,tkC])
  refine (c_fail (nxP T r) 8).ca q13 ?_
  (try simp only [rwp,hwR,zA,zB,zC,zD,zE,zF,zG,zH,zI])
  exact q3d ⟨rfl,by rw [q1o,hp];rfl⟩
theorem c_name {T:List Tk} {r:Rd} {b:Nat} (hT:OkTk T) (hr:InR T r):AFunR nrx85 b [] T r (.str (q27 T r)) (q0i T r):=by
 intro S h
 have hx:=nx_get hr
 have hl:=hT.len
 have hr':r.at'<T.length:=hr
 refine wx85 ?_
 unfold Bx85
 refine (q4m hT hr).ca h ?_
 rw [q0n h]
 have ho:=q70 h
 (try simp only [rwp,hwR,zA,zB,zC,zD,zE,zF,zG,zH,zI,tkC])
 refine q06 (q3g (hT.size _ (List.mem_of_getElem? hx))) ?_
 cases hn:q0v (nxP T r).s with
 | false=>
  (try simp only [rwp,hwR,zA,zB,zC,zD,zE,zF,zG,zH,zI,C85_1])
  have hc:¬ (q0v (nxP T r).s=true∧r.de=0):=by rw [hn];simp
  refine (c_fail (nxP T r) 8).ca h ?_
  (try simp only [rwp,hwR,zA,zB,zC,zD,zE,zF,zG,zH,zI])
  exact q03 ⟨by rw [q27,if_neg hc],by rw [q0i,if_neg hc]⟩
 | true=>
  (try simp only [rwp,hwR,zA,zB,zC,zD,zE,zF,zG,zH,zI,q07 ho])
  cases a1:decide (r.de=0) with
  | false=>
   have hc:¬ (q0v (nxP T r).s=true∧r.de=0):=fun h=>by rw [decide_eq_true h.2] at a1;cases a1
   (try simp only [rwp,hwR,zA,zB,zC,zD,zE,zF,zG,zH,zI,C85_1])
   refine (c_fail (nxP T r) 8).ca h ?_
   (try simp only [rwp,hwR,zA,zB,zC,zD,zE,zF,zG,zH,zI])
   exact q03 ⟨by rw [q27,if_neg hc],by rw [q0i,if_neg hc]⟩
  | true=>
   have hc:q0v (nxP T r).s=true∧r.de=0:=⟨hn,of_decide_eq_true a1⟩
   (try simp only [rwp,hwR,zA,zB,zC,zD,zE,zF,zG,zH,zI,C85_1,q07 ho,ho])
   (simp (disch:=omega) only [q08])
   exact q03 ⟨by rw [q27,if_pos hc],by rw [q0i,if_pos hc];rfl⟩
mutual
def hgt:Ex→Nat
 | .mk _ _ _ ks=>hgtL ks+1
def hgtL:List Ex→Nat
 | []=>0
 | e :: r=>max (hgt e) (hgtL r)
end
mutual
theorem hgt_le:∀ e:Ex,hgt e≤esz e
 | .mk _ _ _ ks=>by
  unfold hgt esz
  have:=hgtL_le ks
  omega
theorem hgtL_le:∀ l:List Ex,hgtL l≤eszL l
 | []=>by simp [hgtL]
 | e :: r=>by
  unfold hgtL eszL
  have h1:=hgt_le e
  have h2:=hgtL_le r
  omega
end
theorem c_Height:∀ (e:Ex),OkE e→esz e≤1125899906842624→AFun PG nrx204 [.agg (exC e)] (.int .i64 (hgt e)):=by
 intro e he
 induction he with
 | mk k n o ks hk hn ho hks ih=>
  intro hsz S
  have hle:=hgt_le (.mk k n o ks)
  rw [hgt] at hle
  refine wx204 ?_
  unfold Bx204
  (try simp only [rwp,hwR,zA,zB,zC,zD,zE,zF,zG,zH,zI,q0d,Ex.kind,Ex.name,Ex.over,Ex.kids])
  refine LoopP.introS (fun p:Nat×Nat=>[(1,.rop [.int .i64 k,.str n,.str o,.sl 4 (ks.map exC)]),(3,.int .i64 p.2),(4,.int .i64 p.1)])
   (fun p S'=>S'=S∧p.1≤ks.length∧max p.2 (hgtL (ks.drop p.1))=hgtL ks) (fun p=>ks.length-p.1) (0,0) ⟨rfl,by omega,by simp⟩ rfl ?_
  rintro ⟨i,m⟩ S1 ⟨rfl,hi,hf⟩ q hq
  dsimp only at hi hf
  (try simp only [rwp,hwR,zA,zB,zC,zD,zE,zF,zG,zH,zI,C204_1])
  (refine q04 (fun hlt=>?_) (fun hlt=>?_)<;>(try simp only [hlc] at hlt))
  ·obtain ⟨x,hx⟩:=q0t hlt
   have hkid:=esz_kid (k:=k) (n:=n) (o:=o) (List.mem_of_getElem? hx)
   rw [q0z hx,hgtL] at hf
   (try simp only [rwp,hwR,zA,zB,zC,zD,zE,zF,zG,zH,zI,hx])
   refine q06 (ih x (List.mem_of_getElem? hx) (by omega)) ?_
   (try simp only [rwp,hwR,zA,zB,zC,zD,zE,zF,zG,zH,zI])
   (refine q04 (fun hc=>?_) (fun hc=>?_)<;>(try simp only [hlc] at hc))
   ·(simp (disch:=omega) only [q08])
    exact q0a rfl (hq (i+1,hgt x) _ ⟨rfl,by dsimp only;omega,by dsimp only;omega⟩ (by dsimp only;omega))
   ·(simp (disch:=omega) only [q08])
    exact q0a rfl (hq (i+1,m) _ ⟨rfl,by dsimp only;omega,by dsimp only;omega⟩ (by dsimp only;omega))
  ·rw [q2t hlt,hgtL] at hf
   have:m=hgtL ks:=by omega
   subst this
   (simp (disch:=omega) only [q08])
   exact q03 ⟨by rw [hgt];rfl,rfl⟩
def twoE (k:Int) (a c:Ex):Ex:=.mk k ⟨#[]⟩ ⟨#[]⟩ [a,c]
def twoR (k:Int) (t:Tk) (a c:Ex) (r:Rd):Rd:=if r.de=0∧12<hgt (twoE k a c) then q45 t 9 r else r
theorem twoE_ok {k:Int} {a c:Ex} (ha:OkE a) (hc:OkE c):OkE (twoE k a c):=.mk k _ _ _ (by simp) (by decide) (by decide) fun e he=>by
 simp at he
 rcases he with rfl | rfl<;>assumption
theorem twoE_sz {k:Int} {a c:Ex}:esz (twoE k a c)=esz a+esz c+1:=by simp [twoE,esz,eszL];omega
theorem c_two {T:List Tk} {r:Rd} {b:Nat} (k:Int) (t:Tk) {a c:Ex} (ha:OkE a) (hc:OkE c) (hsz:r.de=0→esz a+esz c+1≤1125899906842624):AFunR nrx172 b [.int .i64 k,.agg (tkC t),.agg (exC a),.agg (exC c)] T r (.agg (exC (twoE k a c))) (twoR k t a c r):=by
 intro S h
 have ho:=q70 h
 refine wx172 ?_
 unfold Bx172
 (try simp only [rwp,hwR,zA,zB,zC,zD,zE,zF,zG,zH,zI,tkC,q0d])
 intro b2 hb2
 have hne:b2≠b:=q0h hb2 h
 (try simp only [rwp,hwR,zA,zB,zC,zD,zE,zF,zG,zH,zI,q07 ho,if_neg hne,q15])
 have h2:∀ r2,sget (supd (supd S b2 (.cells 51 [.int .i64 0,.str ⟨#[]⟩,.str ⟨#[]⟩,.nils] 4)) b (rdO T r2)) b=some (rdO T r2):=fun r2=>q13
 have hS0:sget (supd S b2 (.cells 51 [.int .i64 0,.str ⟨#[]⟩,.str ⟨#[]⟩,.nils] 4)) b=some (rdO T r):=by rw [q01,if_neg hne];exact h
 have fin:∀ S2 r',q0f S2 b2=some (51,[.int .i64 0,.str ⟨#[]⟩,.str ⟨#[]⟩,.nils],4)→(∀ x,b2≠x→sget S2 x=sget (supd S b (rdO T r')) x)→r'=twoR k t a c r →
   C172_2 (fun ae S'=>ae=.ret (.agg (exC (twoE k a c)))∧S'=supd S b (rdO T (twoR k t a c r))) (.ptr b2 0) (.rop [.int .i64 k,.str ⟨#[]⟩,.str ⟨#[]⟩,.sl 4 [exC a,exC c]]) S2:=by
  intro S2 r' hob hS2 hr'
  unfold C172_2
  have hb2':sget (supd S b (rdO T r')) b2=none:=by rw [q01,if_neg (Ne.symm hne)];exact hb2
  have hsub:Sub (supd S b (rdO T r')) (sdel (supd S2 b2 (.cells 51 [.int .i64 k,.str ⟨#[]⟩,.str ⟨#[]⟩,.sl 4 [exC a,exC c]] 4)) b2):=by
   intro x o hx
   have hxb:b2≠x:=by rintro rfl;rw [hb2'] at hx;cases hx
   rw [q0b,if_neg hxb,q01,if_neg hxb]
   rw [hS2 x hxb];exact hx
  simp only [q0d] at hsub
  (try simp only [rwp,hwR,zA,zB,zC,zD,zE,zF,zG,zH,zI,hob,q0d,q15])
  refine q1h _ hsub ?_
  (try simp only [rwp,hwR,zA,zB,zC,zD,zE,zF,zG,zH,zI])
  refine ⟨?_,by rw [hr']⟩
  simp only [twoE,Ex.kind,Ex.name,Ex.over,Ex.kids,List.map_cons,List.map_nil,q0d]
 simp only [q0d] at fin
 cases a1:decide (r.de=0) with
 | false=>
  (try simp only [rwp,hwR,zA,zB,zC,zD,zE,zF,zG,zH,zI,C172_1])
  refine fin _ r q0g (fun x hx=>by rw [q01,if_neg hx,q0n h]) ?_
  rw [twoR,if_neg (fun h=>by rw [decide_eq_true h.1] at a1;cases a1)]
 | true=>
  have hde:=of_decide_eq_true a1
  (try simp only [rwp,hwR,zA,zB,zC,zD,zE,zF,zG,zH,zI])
  have hH:=c_Height (twoE k a c) (twoE_ok ha hc) (by rw [twoE_sz];exact hsz hde)
  simp only [twoE,q0d,Ex.kind,Ex.name,Ex.over,Ex.kids,List.map_cons,List.map_nil] at hH
  refine q06 hH ?_
  (try simp only [rwp,hwR,zA,zB,zC,zD,zE,zF,zG,zH,zI,C172_1])
  (refine q04 (fun hg=>?_) (fun hg=>?_)<;>(try simp only [hlc] at hg))
  ·refine (c_fail t 9).ca hS0 ?_
   refine fin _ (q45 t 9 r) (by rw [q0e (Ne.symm hne)];exact q0g) (fun x hx=>?_) ?_
   ·rw [q01,q01,q01,if_neg hx]
   ·rw [twoR,if_pos ⟨hde,by simp only [twoE];omega⟩]
  ·refine fin _ r q0g (fun x hx=>by rw [q01,if_neg hx,q0n h]) ?_
   rw [twoR,if_neg (fun h=>by have:=h.2;simp only [twoE] at this;omega)]
def q83:Ex:=.mk 0 ⟨#[]⟩ ⟨#[]⟩ []
def sLP:ByteArray:=⟨#[40]⟩
def sRP:ByteArray:=⟨#[41]⟩
def sDot:ByteArray:=⟨#[46]⟩
def q22 (T:List Tk) (ex:Rd→Ex×Rd) (r:Rd):Ex×Rd:=
 if isP T sLP r then
  (if 12<r.op+1 then (q83,q45 (nxP T r) 9 { isR T sLP r with op:=r.op+1 })
  else ((ex { isR T sLP r with op:=r.op+1 }).1,{ q1o T sRP (ex { isR T sLP r with op:=r.op+1 }).2 with op:=(q1o T sRP (ex { isR T sLP r with op:=r.op+1 }).2).op-1 }))
 else if isP T sDot (q0i T r) then (.mk 1 (q27 T r) (q27 T (isR T sDot (q0i T r))) [],q0i T (isR T sDot (q0i T r)))
 else (.mk 0 (q27 T r) ⟨#[]⟩ [],q0i T r)
def opL (T:List Tk) (tk:ByteArray→Option Int) (sub:Rd→Ex×Rd):Nat→Ex×Rd→Ex×Rd
 | 0,p=>p
 | f+1,(e,r)=>if r.de=0 then (match tk (nxP T r).s with
   | some k=>opL T tk sub f (twoE k e (sub { r with at':=r.at'+1 }).1,twoR k (nxP T r) e (sub { r with at':=r.at'+1 }).1 (sub { r with at':=r.at'+1 }).2)
   | none=>(e,r)) else (e,r)
def termK (s:ByteArray):Option Int:=if s=⟨#[38]⟩ then some 3 else none
def q87 (s:ByteArray):Option Int:=if s=⟨#[43]⟩ then some 2 else if s=⟨#[45]⟩ then some 4 else none
def q2d (T:List Tk) (ex:Rd→Ex×Rd) (r:Rd):Ex×Rd:=opL T termK (q22 T ex) T.length (q22 T ex r)
def q40 (T:List Tk) (ex:Rd→Ex×Rd) (r:Rd):Ex×Rd:=opL T q87 (q2d T ex) T.length (q2d T ex r)
def exprP (T:List Tk):Nat→Rd→Ex×Rd
 | 0=>q40 T fun r=>(q83,r)
 | n+1=>q40 T (exprP T n)
structure Pre (T:List Tk) (n:Nat) (r:Rd):Prop where
 inr:InR T r
 op0:0≤r.op
 op13:r.op≤13
 ok:r.de=0→r.op≤12∧12≤r.op+n
structure StepR (T:List Tk) (r r':Rd) (w:Nat):Prop where
 inr:InR T r'
 mono:r.at'≤r'.at'
 fault:r'.de=0→r.de=0
 op1:r.op≤r'.op
 op2:r'.op≤13
 op:r'.de=0→r'.op=r.op
 sz:r'.de=0→w+r.at'≤r'.at'
theorem StepR.pre {T:List Tk} {r r':Rd} {n w:Nat} (h:StepR T r r' w) (hp:Pre T n r):Pre T n r':=
 ⟨h.inr,by have:=hp.op0;have:=h.op1;omega,h.op2,fun h0=>by have h1:=h.op h0;rw [h1];exact hp.ok (h.fault h0)⟩
theorem StepR.trans {T:List Tk} {r r1 r2:Rd} {w1 w2:Nat} (h:StepR T r r1 w1) (k:StepR T r1 r2 w2):StepR T r r2 (w1+w2):=
 ⟨k.inr,Nat.le_trans h.mono k.mono,fun h0=>h.fault (k.fault h0),by have:=h.op1;have:=k.op1;omega,k.op2,fun h0=>(k.op h0).trans (h.op (k.fault h0)),fun h0=>by have:=h.sz (k.fault h0);have:=k.sz h0;omega⟩
theorem StepR.le {T:List Tk} {r r1:Rd} {w w':Nat} (h:StepR T r r1 w) (hw:w'≤w):StepR T r r1 w':=
 ⟨h.inr,h.mono,h.fault,h.op1,h.op2,h.op,fun h0=>by have:=h.sz h0;omega⟩
theorem StepR.refl {T:List Tk} {r:Rd} {n:Nat} (hp:Pre T n r):StepR T r r 0:=⟨hp.inr,Nat.le_refl _,id,Int.le_refl _,hp.op13,fun _=>rfl,fun _=>by omega⟩
theorem more_in {T:List Tk} (hT:OkTk T) {r:Rd} (hr:InR T r) (h1:(nxP T r).s≠⟨#[]⟩) (h2:(nxP T r).s≠⟨#[63]⟩):r.at'+1<T.length:=by
 have hx:=nx_get hr
 unfold InR at hr
 rcases Nat.lt_or_ge (r.at'+1) T.length with h | h
 ·exact h
 ·have e:T.length-1=r.at':=by omega
  have:=hT.last (nxP T r) (by rw [e];exact hx)
  rcases this with h3 | h3
  ·exact absurd h3 h1
  ·exact absurd h3 h2
theorem adv {T:List Tk} (hT:OkTk T) {r:Rd} {n:Nat} (hp:Pre T n r) (h1:(nxP T r).s≠⟨#[]⟩) (h2:(nxP T r).s≠⟨#[63]⟩):StepR T r { r with at':=r.at'+1 } 1:=
 ⟨more_in hT hp.inr h1 h2,Nat.le_succ _,id,Int.le_refl _,hp.op13,fun _=>rfl,fun _=>by dsimp only;omega⟩
theorem fail_any {T:List Tk} {r r1:Rd} (t:Tk) {e:Int} (he:e≠0) (w':Nat) (h1:InR T r1) (h2:r.at'≤r1.at') (h3:r.op≤r1.op) (h4:r1.op≤13):StepR T r (q45 t e r1) w':=by
 have hne:¬ (q45 t e r1).de=0:=by
  unfold q45
  split
  ·exact he
  ·assumption
 have e1:(q45 t e r1).at'=r1.at':=by unfold q45;split<;>rfl
 have e2:(q45 t e r1).op=r1.op:=by unfold q45;split<;>rfl
 exact ⟨by unfold InR;rw [e1];exact h1,by rw [e1];exact h2,fun h0=>absurd h0 hne,by rw [e2];exact h3,by rw [e2];exact h4,fun h0=>absurd h0 hne,fun h0=>absurd h0 hne⟩
theorem q6e {T:List Tk} {r r1:Rd} {w:Nat} (t:Tk) {e:Int} (he:e≠0) (w':Nat) (h:StepR T r r1 w):StepR T r (q45 t e r1) w':=fail_any t he w' h.inr h.mono h.op1 h.op2
theorem is_true {T:List Tk} {s:ByteArray} {r:Rd} (h:isP T s r=true):r.de=0∧(nxP T r).s=s:=by
 unfold isP at h
 simpa using h
theorem q25 {T:List Tk} (hT:OkTk T) {s:ByteArray} {r:Rd} {n:Nat} (hp:Pre T n r) (h:isP T s r=true) (h1:s≠⟨#[]⟩) (h2:s≠⟨#[63]⟩):StepR T r (isR T s r) 1:=by
 obtain ⟨-,h4⟩:=is_true h
 rw [isR,if_pos h]
 exact adv hT hp (by rw [h4];exact h1) (by rw [h4];exact h2)
theorem q3n {T:List Tk} (hT:OkTk T) {s:ByteArray} {r:Rd} {n:Nat} (hp:Pre T n r) (h1:s≠⟨#[]⟩) (h2:s≠⟨#[63]⟩):StepR T r (q1o T s r) 1:=by
 unfold q1o
 cases h:isP T s r with
 | true=>rw [if_pos rfl];exact q25 hT hp h h1 h2
 | false=>rw [if_neg (by simp)];exact q6e _ (by decide) 1 (StepR.refl hp)
theorem name_some {s:ByteArray} (h:q0v s=true):s≠⟨#[]⟩∧s≠⟨#[63]⟩:=by
 constructor
 ·rintro rfl
  revert h
  decide +kernel
 ·rintro rfl
  revert h
  decide +kernel
theorem q1n {T:List Tk} (hT:OkTk T) {r:Rd} {n:Nat} (hp:Pre T n r):StepR T r (q0i T r) 1:=by
 unfold q0i
 split
 ·rename_i h
  obtain ⟨h1,h2⟩:=name_some h.1
  exact adv hT hp h1 h2
 ·exact q6e _ (by decide) 1 (StepR.refl hp)
theorem q28 {T:List Tk} (hT:OkTk T) {r:Rd} (hr:InR T r):(q27 T r).size≤1125899906842624:=by
 unfold q27
 split
 ·exact hT.size _ (List.mem_of_getElem? (nx_get hr))
 ·exact Nat.zero_le _
theorem q3b {T:List Tk} {r r1:Rd} {w:Nat} (k:Int) (t:Tk) (a c:Ex) (h:StepR T r r1 w):StepR T r (twoR k t a c r1) w:=by
 unfold twoR
 split
 ·exact q6e _ (by decide) w h
 ·exact h
structure ExSt (T:List Tk) (r:Rd) (p:Ex×Rd):Prop where
 st:StepR T r p.2 (esz p.1)
 ok:OkE p.1
theorem q63 {k:Int} {n o:ByteArray} (hn:n.size≤1125899906842624) (ho:o.size≤1125899906842624):OkE (.mk k n o []):=.mk k n o [] (by simp) hn ho fun e he=>by (cases he)
theorem esz_leaf {k:Int} {n o:ByteArray}:esz (.mk k n o [])=1:=by simp [esz,eszL]
def Inner (T:List Tk) (n:Nat) (ex:Rd→Ex×Rd):Prop:=∀ m,n=m+1→∀ r,Pre T m r→ExSt T r (ex r)
theorem lp_pre {T:List Tk} (hT:OkTk T) {n:Nat} {r:Rd} (hp:Pre T n r) (h:isP T sLP r=true) (h12:¬ 12<r.op+1):∃ m,n=m+1∧Pre T m { isR T sLP r with op:=r.op+1 }:=by
 obtain ⟨h1,h2⟩:=is_true h
 obtain ⟨k1,k2⟩:=hp.ok h1
 have hs:=q25 hT hp h (by decide +kernel) (by decide +kernel)
 refine ⟨n-1,by omega,hs.inr,?_,?_,fun _=>?_⟩
 ·have:=hp.op0;dsimp only;omega
 ·dsimp only;omega
 ·dsimp only;omega
theorem atom_ok {T:List Tk} (hT:OkTk T) {n:Nat} {ex:Rd→Ex×Rd} (hex:Inner T n ex) {r:Rd} (hp:Pre T n r):ExSt T r (q22 T ex r):=by
 unfold q22
 split
 ·rename_i h
  have hs:=q25 hT hp h (by decide +kernel) (by decide +kernel)
  obtain ⟨h1,h2⟩:=is_true h
  split
  ·rename_i h12
   have h5:r.op=12:=by have:=(hp.ok h1).1;omega
   refine ⟨?_,q63 (Nat.zero_le _) (Nat.zero_le _)⟩
   exact fail_any _ (by decide) _ hs.inr hs.mono (by dsimp only;omega) (by dsimp only;omega)
  ·rename_i h12
   obtain ⟨m,hm,hp2⟩:=lp_pre hT hp h h12
   have he:=hex m hm _ hp2
   generalize ex { isR T sLP r with op:=r.op+1 }=q at he
   obtain ⟨e,r3⟩:=q
   have hp3:=he.st.pre hp2
   have hm2:=q3n hT hp3 (s:=sRP) (by decide +kernel) (by decide +kernel)
   have h6:=he.st.trans hm2
   dsimp only at h6 ⊢
   refine ⟨⟨h6.inr,?_,fun h0=>?_,?_,?_,fun h0=>?_,fun h0=>?_⟩,he.ok⟩
   ·have:=hs.mono;have:=h6.mono;dsimp only at *;omega
   ·exact hs.fault (h6.fault h0)
   ·have:=h6.op1;dsimp only at *;omega
   ·have:=h6.op2;dsimp only at *;omega
   ·have:=h6.op h0;dsimp only at *;omega
   ·have h7:=h6.sz h0
    have h8:=hs.mono
    dsimp only at *;omega
 ·have hn:=q1n hT hp
  have hpn:=hn.pre hp
  split
  ·rename_i h
   have h1:=q25 hT hpn h (by decide +kernel) (by decide +kernel)
   have hp1:=h1.pre hpn
   have h2:=q1n hT hp1
   refine ⟨?_,q63 (q28 hT hp.inr) (q28 hT hp1.inr)⟩
   rw [esz_leaf]
   exact ((hn.trans h1).trans h2).le (by omega)
  ·refine ⟨?_,q63 (q28 hT hp.inr) (Nat.zero_le _)⟩
   rw [esz_leaf]
   exact hn
def Signs (tk:ByteArray→Option Int):Prop:=tk ⟨#[]⟩=none∧tk ⟨#[63]⟩=none
theorem opL_ok {T:List Tk} (hT:OkTk T) {n:Nat} {tk:ByteArray→Option Int} (htk:Signs tk) {sub:Rd→Ex×Rd} (hsub:∀ r,Pre T n r→ExSt T r (sub r)) {r0:Rd} (hp0:Pre T n r0):∀ {f:Nat} {p:Ex×Rd},ExSt T r0 p→ExSt T r0 (opL T tk sub f p)
 | 0,p,h=>h
 | f+1,(e,r),h=>by
  unfold opL
  split
  ·rename_i h0
   split
   ·rename_i k hk
    have hp:=h.st.pre hp0
    have ha:=adv hT hp (fun h1=>by rw [h1,htk.1] at hk;cases hk) (fun h1=>by rw [h1,htk.2] at hk;cases hk)
    have hs:=hsub _ (ha.pre hp)
    refine opL_ok hT htk hsub hp0 ⟨q3b _ _ _ _ ?_,twoE_ok h.ok hs.ok⟩
    have hst:=h.st
    have hss:=hs.st
    dsimp only at hst ha hss ⊢
    rw [twoE_sz]
    exact ((hst.trans ha).trans hss).le (by omega)
   ·exact h
  ·exact h
theorem signs_term:Signs termK:=⟨by decide +kernel,by decide +kernel⟩
theorem signs_expr:Signs q87:=⟨by decide +kernel,by decide +kernel⟩
theorem term_ok {T:List Tk} (hT:OkTk T) {n:Nat} {ex:Rd→Ex×Rd} (hex:Inner T n ex) {r:Rd} (hp:Pre T n r):ExSt T r (q2d T ex r):=opL_ok hT signs_term (fun _ h=>atom_ok hT hex h) hp (atom_ok hT hex hp)
theorem exprOf_ok {T:List Tk} (hT:OkTk T) {n:Nat} {ex:Rd→Ex×Rd} (hex:Inner T n ex) {r:Rd} (hp:Pre T n r):ExSt T r (q40 T ex r):=opL_ok hT signs_expr (fun _ h=>term_ok hT hex h) hp (term_ok hT hex hp)
theorem expr_ok {T:List Tk} (hT:OkTk T):∀ {n:Nat} {r:Rd},Pre T n r→ExSt T r (exprP T n r)
 | 0,r,hp=>exprOf_ok hT (fun m h=>by omega) hp
 | n+1,r,hp=>exprOf_ok hT (fun m h r hr=>by
  have:n=m:=by omega
  subst this
  exact expr_ok hT hr) hp
set_option maxRecDepth 4000
theorem sub_both {S S1:q00} (h:Sub S S1) (b:Nat) (o:AObj):Sub (supd S b o) (supd S1 b o):=by
 intro x y hx
 rw [q01] at hx ⊢
 split
 ·rename_i hb;rw [if_pos hb] at hx;exact hx
 ·rename_i hb;rw [if_neg hb] at hx;exact h x y hx
theorem sub_cell {S:q00} {b b2:Nat} {o x y:AObj} (hb2:sget S b2=none) (hne:b2≠b):Sub (supd S b o) (supd (supd (supd S b2 x) b o) b2 y):=
 Sub.supd (by rw [q01,if_neg (Ne.symm hne)];exact hb2) (sub_both (Sub.fresh x hb2) b o)
theorem rd_lit {T:List Tk} {a:Nat} {o x y z:Int}:(AObj.cells 145 [.sl 3 (T.map tkC),.int .i64 a,.int .i64 o,.int .i64 x,.int .i64 y,.int .i64 z] 6)=rdO T ⟨a,o,x,y,z⟩:=rfl
abbrev c41:AObj:=.cells 51 [.int .i64 0,.str ⟨#[]⟩,.str ⟨#[]⟩,.nils] 4
def InnerW (T:List Tk) (n b:Nat) (ex:Rd→Ex×Rd):Prop:=∀ m,n=m+1→∀ r,Pre T m r→AFunR nrx132 b [] T r (.agg (exC (ex r).1)) (ex r).2
theorem c_atom {T:List Tk} (hT:OkTk T) {n b:Nat} {ex:Rd→Ex×Rd} (hex:Inner T n ex) (hexW:InnerW T n b ex) {r:Rd} (hp:Pre T n r):AFunR nrx203 b [] T r (.agg (exC (q22 T ex r).1)) (q22 T ex r).2:=by
 intro S h
 have hl:=hT.len
 have hr':r.at'<T.length:=hp.inr
 have h0:=hp.op0
 have h13:=hp.op13
 refine wx203 ?_
 unfold Bx203
 intro b2 hb2
 have hne:b2≠b:=q0h hb2 h
 have hS0:sget (supd S b2 c41) b=some (rdO T r):=by rw [q01,if_neg hne];exact h
 refine (q4m hT hp.inr).ca hS0 ?_
 rw [q0n hS0]
 (try simp only [rwp,hwR,zA,zB,zC,zD,zE,zF,zG,zH,zI,tkC])
 refine (c_is hT hp.inr sLP).ca hS0 ?_
 have fin:∀ (k:Int) (s o:ByteArray) (v:AV) (e:Ex) (r':Rd),e=.mk k s o e.kids→q22 T ex r=(e,r')→(v=.nils∧e.kids=[]∨v=.sl 4 (e.kids.map exC)) →
   rtW [.cell (.ptr b2 0) 4 true] (fun ae S'=>ae=.ret (.agg (exC (q22 T ex r).1))∧S'=supd S b (rdO T (q22 T ex r).2)) (supd (supd (supd S b2 c41) b (rdO T r')) b2 (.cells 51 [.int .i64 k,.str s,.str o,v] 4)):=by
  intro k s o v e r' he0 he hv
  rw [he]
  refine rtW_fr (supd S b (rdO T r')) (.agg (exC e)) (sub_cell hb2 hne) ?_ ⟨rfl,rfl⟩
  rw [he0,q0d]
  (try simp only [rwp,hwR,zA,zB,zC,zD,zE,zF,zG,zH,zI])
  refine .ag (.cons (.same _) (.cons (.same _) (.cons (.same _) (.cons ?_ .nil))))
  rcases hv with ⟨rfl,h2⟩ | rfl
  ·rw [Ex.kids,h2];exact .nils 4
  ·exact .same _
 have hob:∀ o,q0f (supd (supd S b2 c41) b o) b2=some (51,[.int .i64 0,.str ⟨#[]⟩,.str ⟨#[]⟩,.nils],4):=fun o=>by rw [q0e (Ne.symm hne)];exact q0g
 cases hi:isP T sLP r with
 | true=>
  have hs:=q25 hT hp hi (by decide +kernel) (by decide +kernel)
  have hir:isR T sLP r={ r with at':=r.at'+1 }:=by rw [isR,if_pos hi]
  (try simp only [rwp,hwR,zA,zB,zC,zD,zE,zF,zG,zH,zI,q07 (q70 q13),q70 q13,hir])
  rw [q08 (by omega) (by omega)]
  simp only [rd_lit]
  (refine q04 (fun h12=>?_) (fun h12=>?_)<;>(try simp only [hlc] at h12))
  ·refine (c_fail (nxP T r) 9).ca q13 ?_
   (try simp only [rwp,hwR,zA,zB,zC,zD,zE,zF,zG,zH,zI,hob])
   refine fin 0 _ _ _ q83 _ rfl ?_ (.inl ⟨rfl,rfl⟩)
   rw [q22,if_pos hi,if_pos h12,hir]
  ·obtain ⟨m,hm,hp2⟩:=lp_pre hT hp hi h12
   have he:=hex m hm _ hp2
   rw [hir] at hp2 he
   refine (hexW m hm _ hp2).ca q13 ?_
   have hat:q22 T ex r=((ex { r with at':=r.at'+1,op:=r.op+1 }).1,{ q1o T sRP (ex { r with at':=r.at'+1,op:=r.op+1 }).2 with op:=(q1o T sRP (ex { r with at':=r.at'+1,op:=r.op+1 }).2).op-1 }):=by
    rw [q22,if_pos hi,if_neg h12,hir]
   generalize ex { r with at':=r.at'+1,op:=r.op+1 }=q at he hat
   obtain ⟨e,r3⟩:=q
   have hp3:=he.st.pre hp2
   have hm2:=q3n hT hp3 (s:=sRP) (by decide +kernel) (by decide +kernel)
   have hp4:=hm2.pre hp3
   have o1:=hp4.op0
   have o2:=hp4.op13
   dsimp only at o1 o2
   (try simp only [rwp,hwR,zA,zB,zC,zD,zE,zF,zG,zH,zI,q0d])
   refine (c_must hT hp3.inr sRP).ca q13 ?_
   (try simp only [rwp,hwR,zA,zB,zC,zD,zE,zF,zG,zH,zI,q07 (q70 q13),q70 q13])
   rw [q08 (by omega) (by omega)]
   simp only [rd_lit]
   (try simp only [rwp,hwR,zA,zB,zC,zD,zE,zF,zG,zH,zI,hob,if_neg (Ne.symm hne)])
   have hf:=fin e.kind e.name e.over _ e _ (by cases e;rfl) hat (.inr rfl)
   simp only [q0d] at hf
   exact hf
 | false=>
  rw [q7v hi]
  have hn:=q1n hT hp
  have hpn:=hn.pre hp
  (try simp only [rwp,hwR,zA,zB,zC,zD,zE,zF,zG,zH,zI])
  refine (c_name hT hp.inr).ca q13 ?_
  (try simp only [rwp,hwR,zA,zB,zC,zD,zE,zF,zG,zH,zI])
  refine (c_is hT hpn.inr sDot).ca q13 ?_
  cases hd:isP T sDot (q0i T r) with
  | true=>
   have h1:=q25 hT hpn hd (by decide +kernel) (by decide +kernel)
   have hp1:=h1.pre hpn
   (try simp only [rwp,hwR,zA,zB,zC,zD,zE,zF,zG,zH,zI])
   refine (c_name hT hp1.inr).ca q13 ?_
   (try simp only [rwp,hwR,zA,zB,zC,zD,zE,zF,zG,zH,zI,hob])
   refine fin _ _ _ _ (.mk 1 (q27 T r) (q27 T (isR T sDot (q0i T r))) []) _ rfl ?_ (.inl ⟨rfl,rfl⟩)
   rw [q22,if_neg (by rw [hi];simp),if_pos hd]
  | false=>
   rw [q7v hd]
   (try simp only [rwp,hwR,zA,zB,zC,zD,zE,zF,zG,zH,zI,hob])
   refine fin _ _ _ _ (.mk 0 (q27 T r) ⟨#[]⟩ []) _ rfl ?_ (.inl ⟨rfl,rfl⟩)
   rw [q22,if_neg (by rw [hi];simp),if_neg (by rw [hd];simp)]
theorem opL_stop {T:List Tk} {tk:ByteArray→Option Int} {sub:Rd→Ex×Rd} {f:Nat} {p:Ex×Rd} (h:¬ (p.2.de=0∧(tk (nxP T p.2).s).isSome=true)):opL T tk sub f p=p:=by
 cases f with
 | zero=>rfl
 | succ f=>
  obtain ⟨e,r⟩:=p
  unfold opL
  split
  ·rename_i h0
   split
   ·rename_i k hk
    exact absurd ⟨h0,by rw [hk];rfl⟩ h
   ·rfl
  ·rfl
theorem opL_more {T:List Tk} (hT:OkTk T) {n:Nat} {tk:ByteArray→Option Int} (htk:Signs tk) {sub:Rd→Ex×Rd} (hsub:∀ r,Pre T n r→ExSt T r (sub r)):∀ {f g:Nat} {p:Ex×Rd},Pre T n p.2→T.length≤f+p.2.at'→T.length≤g+p.2.at'→opL T tk sub f p=opL T tk sub g p
 | 0,g,p,hp,h1,h2=>by have h3:p.2.at'<T.length:=hp.inr;omega
 | f+1,0,p,hp,h1,h2=>by have h3:p.2.at'<T.length:=hp.inr;omega
 | f+1,g+1,(e,r),hp,h1,h2=>by
  dsimp only at h1 h2
  unfold opL
  split
  ·rename_i h0
   split
   ·rename_i k hk
    have ha:=adv hT hp (fun h1=>by rw [h1,htk.1] at hk;cases hk) (fun h1=>by rw [h1,htk.2] at hk;cases hk)
    have hs:=hsub _ (ha.pre hp)
    have h5:=q3b k (nxP T r) e (sub { r with at':=r.at'+1 }).1 hs.st
    have h6:=h5.mono
    dsimp only at h6 hp
    exact opL_more hT htk hsub (h5.pre (ha.pre hp)) (by dsimp only;omega) (by dsimp only;omega)
   ·rfl
  ·rfl
structure TrI (S:q00) (b b2 b3:Nat) (T:List Tk) (p:Ex×Rd) (S':q00):Prop where
 rd:sget S' b=some (rdO T p.2)
 c3:sget S' b3=some (.cells 51 (exC p.1) 4)
 c2:sget S' b2=some c41
 oth:∀ x,b≠x→b3≠x→b2≠x→sget S' x=sget S x
theorem TrI.step {S S':q00} {b b2 b3:Nat} {T:List Tk} {p:Ex×Rd} (h:TrI S b b2 b3 T p S') (n1:b2≠b) (n2:b3≠b) (n3:b3≠b2) (e:Ex) (r':Rd):TrI S b b2 b3 T (e,r') (supd (supd S' b (rdO T r')) b3 (.cells 51 (exC e) 4)):=
 ⟨by rw [q01,if_neg n2,q01,if_pos rfl],by rw [q01,if_pos rfl],by rw [q01,if_neg n3,q01,if_neg (Ne.symm n1)];exact h.c2,fun x h1 h2 h3=>by rw [q01,if_neg h2,q01,if_neg h1];exact h.oth x h1 h2 h3⟩
theorem TrI.sub {S S':q00} {b b2 b3:Nat} {T:List Tk} {p:Ex×Rd} (h:TrI S b b2 b3 T p S') (n1:b2≠b) (n2:b3≠b) (n3:b3≠b2) (k2:sget S b2=none) (k3:sget S b3=none) (o:AObj):Sub (supd S b (rdO T p.2)) (sdel (supd S' b2 o) b2):=by
 intro x y hx
 have h2:b2≠x:=by
  rintro rfl
  rw [q01,if_neg (Ne.symm n1),k2] at hx;cases hx
 have h3:b3≠x:=by
  rintro rfl
  rw [q01,if_neg (Ne.symm n2),k3] at hx;cases hx
 rw [q0b,if_neg h2,q01,if_neg h2]
 rw [q01] at hx
 by_cases hb:b=x
 ·subst hb;rw [if_pos rfl] at hx;rw [h.rd];exact hx
 ·rw [if_neg hb] at hx;rw [h.oth x hb h3 h2];exact hx
theorem c_term {T:List Tk} (hT:OkTk T) {n b:Nat} {ex:Rd→Ex×Rd} (hex:Inner T n ex) (hexW:InnerW T n b ex) {r:Rd} (hp:Pre T n r):AFunR nrx171 b [] T r (.agg (exC (q2d T ex r).1)) (q2d T ex r).2:=by
 intro S h
 have hl:=hT.len
 refine wx171 ?_
 unfold Bx171
 intro b2 hb2
 have n1:b2≠b:=q0h hb2 h
 have hS0:sget (supd S b2 c41) b=some (rdO T r):=by rw [q01,if_neg n1];exact h
 (try simp only [rwp,hwR,zA,zB,zC,zD,zE,zF,zG,zH,zI])
 refine (c_atom hT hex hexW hp).ca hS0 ?_
 intro b3 hb3
 have n2:b3≠b:=q0h hb3 q13
 have n3:b3≠b2:=q0h hb3 (x:=c41) (by rw [q01,if_neg (Ne.symm n1),q01,if_pos rfl])
 have k3:sget S b3=none:=by rw [q01,if_neg (Ne.symm n2),q01,if_neg (Ne.symm n3)] at hb3;exact hb3
 have hI0:TrI S b b2 b3 T (q22 T ex r) (supd (supd (supd S b2 c41) b (rdO T (q22 T ex r).2)) b3 (.cells 51 (exC (q22 T ex r).1) 4)):=
  ⟨by rw [q01,if_neg n2,q01,if_pos rfl],by rw [q01,if_pos rfl],by rw [q01,if_neg n3,q01,if_neg (Ne.symm n1),q01,if_pos rfl],fun x h1 h2 h3=>by rw [q01,if_neg h2,q01,if_neg h1,q01,if_neg h3]⟩
 have hat:=atom_ok hT hex hp
 have hfin:opL T termK (q22 T ex) T.length (q22 T ex r)=q2d T ex r:=rfl
 simp only [q0d] at hI0
 (try simp only [rwp,hwR,zA,zB,zC,zD,zE,zF,zG,zH,zI,q0d,q15])
 rw [← q0d]
 simp only [← q0d] at hI0
 generalize q22 T ex r=p0 at hI0 hat hfin
 refine LoopP.introS (fun _:Ex×Rd=>[(0,.ptr b 0),(2,.ptr b2 0),(3,.ptr b3 0)])
  (fun p S'=>TrI S b b2 b3 T p S'∧ExSt T r p∧opL T termK (q22 T ex) T.length p=q2d T ex r) (fun p=>T.length-p.2.at') p0 ⟨by simpa only [q0d] using hI0,hat,hfin⟩ rfl ?_
 clear hI0 hat hfin
 rintro ⟨e,r1⟩ S1 ⟨hI,hE,hf⟩ q hq
 have hp1:=hE.st.pre hp
 have hin:r1.at'<T.length:=hp1.inr
 have ho:=q70 hI.rd
 (try simp only [rwp,hwR,zA,zB,zC,zD,zE,zF,zG,zH,zI,C171_1,q07 ho])
 have stop:¬ (r1.de=0∧(termK (nxP T r1).s).isSome=true)→C171_2 (fun ae S'=>ae=.ret (.agg (exC (q2d T ex r).1))∧S'=supd S b (rdO T (q2d T ex r).2)) q (.ptr b 0) (.ptr b2 0) (.ptr b3 0) (.bool false) S1:=fun hn=>by
  rw [opL_stop hn] at hf
  rw [← hf]
  unfold C171_2
  have hsub:=hI.sub n1 n2 n3 hb2 k3
  have hc3:=objAt_some.2 hI.c3
  have hc2:=objAt_some.2 hI.c2
  simp only [q0d] at hc3
  (try simp only [rwp,hwR,zA,zB,zC,zD,zE,zF,zG,zH,zI,q07 hc3,hc2,q0d,q15])
  refine q1h _ (hsub _) ?_
  (try simp only [rwp,hwR,zA,zB,zC,zD,zE,zF,zG,zH,zI,q0d])
 cases a1:decide (r1.de=0) with
 | false=>
  (try simp only [rwp,hwR,zA,zB,zC,zD,zE,zF,zG,zH,zI])
  exact stop fun h=>by rw [decide_eq_true h.1] at a1;cases a1
 | true=>
  have hde:r1.de=0:=of_decide_eq_true a1
  (try simp only [rwp,hwR,zA,zB,zC,zD,zE,zF,zG,zH,zI])
  refine (q4m hT hp1.inr).ca hI.rd ?_
  rw [q0n hI.rd]
  (try simp only [rwp,hwR,zA,zB,zC,zD,zE,zF,zG,zH,zI,tkC])
  cases a2:decide ((nxP T r1).s=⟨#[38]⟩) with
  | false=>
   (try simp only [rwp,hwR,zA,zB,zC,zD,zE,zF,zG,zH,zI])
   exact stop fun h=>by
    have:=of_decide_eq_false a2
    rw [termK,if_neg this] at h
    cases h.2
  | true=>
   have hk:termK (nxP T r1).s=some 3:=by rw [termK,if_pos (of_decide_eq_true a2)]
   have ha:=adv hT hp1 (fun h1=>by rw [h1] at hk;revert hk;decide +kernel) (fun h1=>by rw [h1] at hk;revert hk;decide +kernel)
   have hpa:=ha.pre hp1
   have hs:=atom_ok hT hex hpa
   have hps:=hs.st.pre hpa
   have hfu:opL T termK (q22 T ex) T.length (twoE 3 e (q22 T ex { r1 with at':=r1.at'+1 }).1,twoR 3 (nxP T r1) e (q22 T ex { r1 with at':=r1.at'+1 }).1 (q22 T ex { r1 with at':=r1.at'+1 }).2)=q2d T ex r:=by
    rw [← hf]
    obtain ⟨m,hm⟩:∃ m,T.length=m+1:=⟨T.length-1,by omega⟩
    have h5:=q3b 3 (nxP T r1) e (q22 T ex { r1 with at':=r1.at'+1 }).1 hs.st
    have h6:=h5.mono
    dsimp only at h6
    conv=>rhs;rw [hm,opL,if_pos hde]
    simp only [hk]
    exact opL_more hT signs_term (fun _ h=>atom_ok hT hex h) (h5.pre hpa) (by dsimp only;omega) (by dsimp only;omega)
   have hE2:ExSt T r (twoE 3 e (q22 T ex { r1 with at':=r1.at'+1 }).1,twoR 3 (nxP T r1) e (q22 T ex { r1 with at':=r1.at'+1 }).1 (q22 T ex { r1 with at':=r1.at'+1 }).2):=by
    refine ⟨q3b _ _ _ _ ?_,twoE_ok hE.ok hs.ok⟩
    have hst:=hE.st
    have hss:=hs.st
    dsimp only at hst ha hss ⊢
    rw [twoE_sz]
    exact ((hst.trans ha).trans hss).le (by omega)
   have hmu:r1.at'+1≤(twoR 3 (nxP T r1) e (q22 T ex { r1 with at':=r1.at'+1 }).1 (q22 T ex { r1 with at':=r1.at'+1 }).2).at':=(q3b 3 (nxP T r1) e _ hs.st).mono
   (try simp only [rwp,hwR,zA,zB,zC,zD,zE,zF,zG,zH,zI,C171_2])
   refine (q4m hT hp1.inr).ca hI.rd ?_
   rw [q0n hI.rd]
   (try simp only [rwp,hwR,zA,zB,zC,zD,zE,zF,zG,zH,zI,tkC,q07 ho,ho])
   (simp (disch:=omega) only [q08])
   rw [show ((r1.at':Int)+1)=((r1.at'+1:Nat):Int) from rfl]
   simp only [rd_lit]
   refine (c_atom hT hex hexW hpa).ca q13 ?_
   generalize q22 T ex { r1 with at':=r1.at'+1 }=p2 at hs hps hfu hE2 hmu
   obtain ⟨c,r2⟩:=p2
   have hbd:r2.de=0→esz e+esz c+1≤1125899906842624:=fun h0=>by
    have h7:=hs.st.sz h0
    have h8:=hE.st.sz (ha.fault (hs.st.fault h0))
    have h9:r2.at'<T.length:=hps.inr
    dsimp only at h7 h8
    omega
   have htwo:=c_two (T:=T) (r:=r2) (b:=b) 3 (nxP T r1) hE.ok hs.ok hbd
   dsimp only at htwo hfu hE2 hmu
   have c3:∀ r',q0f (supd S1 b (rdO T r')) b3=some (51,exC e,4):=fun r'=>by rw [q0e (Ne.symm n2)];exact objAt_some.2 hI.c3
   have st:=hI.step n1 n2 n3 (twoE 3 e c) (twoR 3 (nxP T r1) e c r2)
   simp only [q0d] at c3 st
   (try simp only [rwp,hwR,zA,zB,zC,zD,zE,zF,zG,zH,zI,q0d,q07 (c3 r2)])
   simp only [← q0d]
   refine htwo.ca q13 ?_
   generalize twoE 3 e c=e3 at hfu hE2 st ⊢
   generalize twoR 3 (nxP T r1) e c r2=r3 at hfu hE2 st c3 hmu ⊢
   (try simp only [rwp,hwR,zA,zB,zC,zD,zE,zF,zG,zH,zI,q0d,c3 r3,q15])
   exact q0a rfl (hq (e3,r3) _ ⟨by simpa only [q0d] using st,hE2,hfu⟩ (by dsimp only;omega))
set_option maxRecDepth 4000
theorem c_exprOf {T:List Tk} (hT:OkTk T) {n b:Nat} {ex:Rd→Ex×Rd} (hex:Inner T n ex) (hexW:InnerW T n b ex) {r:Rd} (hp:Pre T n r):AFunR nrx132 b [] T r (.agg (exC (q40 T ex r).1)) (q40 T ex r).2:=by
 intro S h
 have hl:=hT.len
 refine wx132 ?_
 unfold Bx132
 intro b2 hb2
 have n1:b2≠b:=q0h hb2 h
 have hS0:sget (supd S b2 c41) b=some (rdO T r):=by rw [q01,if_neg n1];exact h
 (try simp only [rwp,hwR,zA,zB,zC,zD,zE,zF,zG,zH,zI])
 refine (c_term hT hex hexW hp).ca hS0 ?_
 intro b3 hb3
 have n2:b3≠b:=q0h hb3 q13
 have n3:b3≠b2:=q0h hb3 (x:=c41) (by rw [q01,if_neg (Ne.symm n1),q01,if_pos rfl])
 have k3:sget S b3=none:=by rw [q01,if_neg (Ne.symm n2),q01,if_neg (Ne.symm n3)] at hb3;exact hb3
 have hI0:TrI S b b2 b3 T (q2d T ex r) (supd (supd (supd S b2 c41) b (rdO T (q2d T ex r).2)) b3 (.cells 51 (exC (q2d T ex r).1) 4)):=
  ⟨by rw [q01,if_neg n2,q01,if_pos rfl],by rw [q01,if_pos rfl],by rw [q01,if_neg n3,q01,if_neg (Ne.symm n1),q01,if_pos rfl],fun x h1 h2 h3=>by rw [q01,if_neg h2,q01,if_neg h1,q01,if_neg h3]⟩
 have hat:=term_ok hT hex hp
 have hfin:opL T q87 (q2d T ex) T.length (q2d T ex r)=q40 T ex r:=rfl
 simp only [q0d] at hI0
 (try simp only [rwp,hwR,zA,zB,zC,zD,zE,zF,zG,zH,zI,q0d,q15])
 rw [← q0d]
 simp only [← q0d] at hI0
 generalize q2d T ex r=p0 at hI0 hat hfin
 refine LoopP.introS (fun _:Ex×Rd=>[(0,.ptr b 0),(2,.ptr b2 0),(3,.ptr b3 0)])
  (fun p S'=>TrI S b b2 b3 T p S'∧ExSt T r p∧opL T q87 (q2d T ex) T.length p=q40 T ex r) (fun p=>T.length-p.2.at') p0 ⟨by simpa only [q0d] using hI0,hat,hfin⟩ rfl ?_
 clear hI0 hat hfin
 rintro ⟨e,r1⟩ S1 ⟨hI,hE,hf⟩ q hq
 have hp1:=hE.st.pre hp
 have hin:r1.at'<T.length:=hp1.inr
 have ho:=q70 hI.rd
 (try simp only [rwp,hwR,zA,zB,zC,zD,zE,zF,zG,zH,zI,C132_1,q07 ho])
 have stop:¬ (r1.de=0∧(q87 (nxP T r1).s).isSome=true)→C132_4 (fun ae S'=>ae=.ret (.agg (exC (q40 T ex r).1))∧S'=supd S b (rdO T (q40 T ex r).2)) q (.ptr b 0) (.ptr b2 0) (.ptr b3 0) (.bool false) S1:=fun hn=>by
  rw [opL_stop hn] at hf
  rw [← hf]
  unfold C132_4
  have hsub:=hI.sub n1 n2 n3 hb2 k3
  have hc3:=objAt_some.2 hI.c3
  have hc2:=objAt_some.2 hI.c2
  simp only [q0d] at hc3
  (try simp only [rwp,hwR,zA,zB,zC,zD,zE,zF,zG,zH,zI,q07 hc3,hc2,q0d,q15])
  refine q1h _ (hsub _) ?_
  (try simp only [rwp,hwR,zA,zB,zC,zD,zE,zF,zG,zH,zI,q0d])
 cases a1:decide (r1.de=0) with
 | false=>
  (try simp only [rwp,hwR,zA,zB,zC,zD,zE,zF,zG,zH,zI,C132_2,C132_3])
  exact stop fun h=>by rw [decide_eq_true h.1] at a1;cases a1
 | true=>
  have hde:r1.de=0:=of_decide_eq_true a1
  (try simp only [rwp,hwR,zA,zB,zC,zD,zE,zF,zG,zH,zI])
  refine (q4m hT hp1.inr).ca hI.rd ?_
  rw [q0n hI.rd]
  (try simp only [rwp,hwR,zA,zB,zC,zD,zE,zF,zG,zH,zI,tkC])
  have low:∀ k:Int,q87 (nxP T r1).s=some k→C132_5 (fun ae S'=>ae=.ret (.agg (exC (q40 T ex r).1))∧S'=supd S b (rdO T (q40 T ex r).2)) q (.ptr b 0) (.ptr b2 0) (.ptr b3 0) (.rop (tkC (nxP T r1))) (.int .i64 k) S1:=by
   intro k hk
   have ha:=adv hT hp1 (fun h1=>by rw [h1,signs_expr.1] at hk;cases hk) (fun h1=>by rw [h1,signs_expr.2] at hk;cases hk)
   have hpa:=ha.pre hp1
   have hs:=term_ok hT hex hpa
   have hps:=hs.st.pre hpa
   have hfu:opL T q87 (q2d T ex) T.length (twoE k e (q2d T ex { r1 with at':=r1.at'+1 }).1,twoR k (nxP T r1) e (q2d T ex { r1 with at':=r1.at'+1 }).1 (q2d T ex { r1 with at':=r1.at'+1 }).2)=q40 T ex r:=by
    rw [← hf]
    obtain ⟨m,hm⟩:∃ m,T.length=m+1:=⟨T.length-1,by omega⟩
    have h5:=q3b k (nxP T r1) e (q2d T ex { r1 with at':=r1.at'+1 }).1 hs.st
    have h6:=h5.mono
    dsimp only at h6
    conv=>rhs;rw [hm,opL,if_pos hde]
    simp only [hk]
    exact opL_more hT signs_expr (fun _ h=>term_ok hT hex h) (h5.pre hpa) (by dsimp only;omega) (by dsimp only;omega)
   have hE2:ExSt T r (twoE k e (q2d T ex { r1 with at':=r1.at'+1 }).1,twoR k (nxP T r1) e (q2d T ex { r1 with at':=r1.at'+1 }).1 (q2d T ex { r1 with at':=r1.at'+1 }).2):=by
    refine ⟨q3b _ _ _ _ ?_,twoE_ok hE.ok hs.ok⟩
    have hst:=hE.st
    have hss:=hs.st
    dsimp only at hst ha hss ⊢
    rw [twoE_sz]
    exact ((hst.trans ha).trans hss).le (by omega)
   have hmu:r1.at'+1≤(twoR k (nxP T r1) e (q2d T ex { r1 with at':=r1.at'+1 }).1 (q2d T ex { r1 with at':=r1.at'+1 }).2).at':=(q3b k (nxP T r1) e _ hs.st).mono
   unfold C132_5
   (try simp only [rwp,hwR,zA,zB,zC,zD,zE,zF,zG,zH,zI,tkC,q07 ho,ho])
   (simp (disch:=omega) only [q08])
   rw [show ((r1.at':Int)+1)=((r1.at'+1:Nat):Int) from rfl]
   simp only [rd_lit]
   refine (c_term hT hex hexW hpa).ca q13 ?_
   generalize q2d T ex { r1 with at':=r1.at'+1 }=p2 at hs hps hfu hE2 hmu
   obtain ⟨c,r2⟩:=p2
   have hbd:r2.de=0→esz e+esz c+1≤1125899906842624:=fun h0=>by
    have h7:=hs.st.sz h0
    have h8:=hE.st.sz (ha.fault (hs.st.fault h0))
    have h9:r2.at'<T.length:=hps.inr
    dsimp only at h7 h8
    omega
   have htwo:=c_two (T:=T) (r:=r2) (b:=b) k (nxP T r1) hE.ok hs.ok hbd
   dsimp only at htwo hfu hE2 hmu
   have c3:∀ r',q0f (supd S1 b (rdO T r')) b3=some (51,exC e,4):=fun r'=>by rw [q0e (Ne.symm n2)];exact objAt_some.2 hI.c3
   have st:=hI.step n1 n2 n3 (twoE k e c) (twoR k (nxP T r1) e c r2)
   simp only [q0d] at c3 st
   (try simp only [rwp,hwR,zA,zB,zC,zD,zE,zF,zG,zH,zI,q0d,q07 (c3 r2)])
   simp only [← q0d]
   refine htwo.ca q13 ?_
   generalize twoE k e c=e3 at hfu hE2 st ⊢
   generalize twoR k (nxP T r1) e c r2=r3 at hfu hE2 st c3 hmu ⊢
   (try simp only [rwp,hwR,zA,zB,zC,zD,zE,zF,zG,zH,zI,q0d,c3 r3,q15])
   exact q0a rfl (hq (e3,r3) _ ⟨by simpa only [q0d] using st,hE2,hfu⟩ (by dsimp only;omega))
  simp only [tkC] at low
  cases a2:decide ((nxP T r1).s=⟨#[43]⟩) with
  | true=>
   have e2:=of_decide_eq_true a2
   have hk:q87 (nxP T r1).s=some 2:=by rw [q87,if_pos e2]
   have e3:decide ((nxP T r1).s=⟨#[45]⟩)=false:=by rw [e2];decide +kernel
   (try simp only [rwp,hwR,zA,zB,zC,zD,zE,zF,zG,zH,zI,C132_2,C132_3,C132_4])
   refine (q4m hT hp1.inr).ca hI.rd ?_
   rw [q0n hI.rd]
   (try simp only [rwp,hwR,zA,zB,zC,zD,zE,zF,zG,zH,zI,tkC,e3])
   exact low 2 hk
  | false=>
   (try simp only [rwp,hwR,zA,zB,zC,zD,zE,zF,zG,zH,zI,C132_2])
   refine (q4m hT hp1.inr).ca hI.rd ?_
   rw [q0n hI.rd]
   (try simp only [rwp,hwR,zA,zB,zC,zD,zE,zF,zG,zH,zI,tkC])
   cases a3:decide ((nxP T r1).s=⟨#[45]⟩) with
   | true=>
    have hk:q87 (nxP T r1).s=some 4:=by rw [q87,if_neg (of_decide_eq_false a2),if_pos (of_decide_eq_true a3)]
    (try simp only [rwp,hwR,zA,zB,zC,zD,zE,zF,zG,zH,zI,C132_3,C132_4])
    refine (q4m hT hp1.inr).ca hI.rd ?_
    rw [q0n hI.rd]
    (try simp only [rwp,hwR,zA,zB,zC,zD,zE,zF,zG,zH,zI,tkC,a3])
    exact low 4 hk
   | false=>
    (try simp only [rwp,hwR,zA,zB,zC,zD,zE,zF,zG,zH,zI,C132_3])
    exact stop fun h=>by
     have h1:=of_decide_eq_false a2
     have h2:=of_decide_eq_false a3
     rw [q87,if_neg h1,if_neg h2] at h
     cases h.2
theorem c_expr {T:List Tk} (hT:OkTk T) {b:Nat}:∀ {n:Nat} {r:Rd},Pre T n r→AFunR nrx132 b [] T r (.agg (exC (exprP T n r).1)) (exprP T n r).2
 | 0,r,hp=>c_exprOf hT (fun m h=>by omega) (fun m h=>by omega) hp
 | n+1,r,hp=>c_exprOf hT (fun m h r hr=>by
   have:n=m:=by omega
   subst this
   exact expr_ok hT hr) (fun m h r hr=>by
   have:n=m:=by omega
   subst this
   exact c_expr hT hr) hp
def sHash:ByteArray:=⟨#[35]⟩
def sBar:ByteArray:=⟨#[124]⟩
def q12:ByteArray:=⟨#[58]⟩
def refP (T:List Tk) (r:Rd):Rf×Rd:=
 if isP T sHash (q0i T r) then (⟨q27 T r,q27 T (isR T sHash (q0i T r))⟩,q0i T (isR T sHash (q0i T r)))
 else (⟨q27 T r,⟨#[]⟩⟩,q0i T r)
def q44 (T:List Tk):Nat→List Rf×Rd→List Rf×Rd
 | 0,p=>p
 | f+1,(l,r)=>if isP T sBar r then q44 T f (l++[(refP T (isR T sBar r)).1],(refP T (isR T sBar r)).2) else (l,r)
def relP (T:List Tk) (r:Rd):(Rl×Bool)×Rd:=
 if isP T q0c r then
  ((⟨q27 T (isR T q0c r),(q44 T T.length ([(refP T (q1o T q12 (q0i T (isR T q0c r)))).1],(refP T (q1o T q12 (q0i T (isR T q0c r)))).2)).1,q83⟩,true),
   (q44 T T.length ([(refP T (q1o T q12 (q0i T (isR T q0c r)))).1],(refP T (q1o T q12 (q0i T (isR T q0c r)))).2)).2)
 else if isP T q17 r then
  ((⟨q27 T (isR T q17 r),[],(exprP T 12 (q1o T q12 (q0i T (isR T q17 r)))).1⟩,true),(exprP T 12 (q1o T q12 (q0i T (isR T q17 r)))).2)
 else ((⟨⟨#[]⟩,[],q83⟩,false),r)
def q39 (T:List Tk):Nat→List Rl×Rd→List Rl×Rd
 | 0,p=>p
 | f+1,(l,r)=>if (relP T r).1.2=true then q39 T f (l++[(relP T r).1.1],(relP T r).2) else (l,(relP T r).2)
def q1z (T:List Tk):Nat→List Ty×Rd→List Ty×Rd
 | 0,p=>p
 | f+1,(l,r)=>if isP T q1w r then
   q1z T f (l++[⟨q27 T (isR T q1w r),(q39 T T.length ([],q0i T (isR T q1w r))).1⟩],(q39 T T.length ([],q0i T (isR T q1w r))).2)
  else (l,r)
def endR (T:List Tk) (r:Rd):Rd:=if r.de=0∧¬ (nxP T r).s=⟨#[]⟩ then q45 (nxP T r) 8 r else r
def rd0:Rd:=⟨0,0,0,0,0⟩
def q60 (T:List Tk):List Ty×AV:=
 if (endR T (q1z T T.length ([],rd0)).2).de=0 then ((q1z T T.length ([],rd0)).1,.agg [.int .i64 0,.int .i64 0,.int .i64 0])
 else ([],.agg [.int .i64 (endR T (q1z T T.length ([],rd0)).2).dl,.int .i64 (endR T (q1z T T.length ([],rd0)).2).dc,.int .i64 (endR T (q1z T T.length ([],rd0)).2).de])
theorem ref_step {T:List Tk} (hT:OkTk T) {r:Rd} {n:Nat} (hp:Pre T n r):StepR T r (refP T r).2 1∧OkF (refP T r).1:=by
 have hn:=q1n hT hp
 have hpn:=hn.pre hp
 unfold refP
 split
 ·rename_i h
  have h1:=q25 hT hpn h (by decide +kernel) (by decide +kernel)
  have hp1:=h1.pre hpn
  have h2:=q1n hT hp1
  exact ⟨((hn.trans h1).trans h2).le (by omega),q28 hT hp.inr,q28 hT hp1.inr⟩
 ·exact ⟨hn,q28 hT hp.inr,Nat.zero_le _⟩
structure RfSt (T:List Tk) (r:Rd) (p:List Rf×Rd):Prop where
 st:StepR T r p.2 p.1.length
 len:p.1.length≤p.2.at'+1
 ok:∀ f∈p.1,OkF f
theorem refs_next {T:List Tk} (hT:OkTk T) {n:Nat} {r0 r:Rd} (hp0:Pre T n r0) {l:List Rf} (h:RfSt T r0 (l,r)) (hi:isP T sBar r=true) :
  RfSt T r0 (l++[(refP T (isR T sBar r)).1],(refP T (isR T sBar r)).2)∧r.at'+1≤(refP T (isR T sBar r)).2.at':=by
 have hp:=h.st.pre hp0
 have h1:=q25 hT hp hi (by decide +kernel) (by decide +kernel)
 obtain ⟨h2,h3⟩:=ref_step hT (h1.pre hp)
 have e1:(isR T sBar r).at'=r.at'+1:=by rw [isR,if_pos hi]
 have h4:=h2.mono
 have h5:=h.len
 dsimp only at h4 h5 e1 h2
 refine ⟨⟨?_,?_,fun f hf=>?_⟩,by omega⟩
 ·have h6:=(h.st.trans h1).trans h2
  exact h6.le (by simp)
 ·simp only [List.length_append,List.length_cons,List.length_nil]
  omega
 ·rcases List.mem_append.1 hf with hf | hf
  ·exact h.ok f hf
  ·rw [List.mem_singleton.1 hf];exact h3
theorem refsL_ok {T:List Tk} (hT:OkTk T) {n:Nat} {r0:Rd} (hp0:Pre T n r0):∀ {f:Nat} {p:List Rf×Rd},RfSt T r0 p→RfSt T r0 (q44 T f p)
 | 0,p,h=>h
 | f+1,(l,r),h=>by
  unfold q44
  split
  ·rename_i hi
   exact refsL_ok hT hp0 (refs_next hT hp0 h hi).1
  ·exact h
theorem refsL_more {T:List Tk} (hT:OkTk T) {n:Nat} {r0:Rd} (hp0:Pre T n r0):∀ {f g:Nat} {p:List Rf×Rd},RfSt T r0 p→T.length≤f+p.2.at'→T.length≤g+p.2.at'→q44 T f p=q44 T g p
 | 0,g,p,h,h1,h2=>by have h3:p.2.at'<T.length:=h.st.inr;omega
 | f+1,0,p,h,h1,h2=>by have h3:p.2.at'<T.length:=h.st.inr;omega
 | f+1,g+1,(l,r),h,h1,h2=>by
  dsimp only at h1 h2
  unfold q44
  split
  ·rename_i hi
   obtain ⟨k1,k2⟩:=refs_next hT hp0 h hi
   exact refsL_more hT hp0 k1 (by dsimp only;omega) (by dsimp only;omega)
  ·rfl
theorem rel_ok {T:List Tk} (hT:OkTk T) {r:Rd} (hp:Pre T 12 r):StepR T r (relP T r).2 (if (relP T r).1.2 then rsz (relP T r).1.1 else 0)∧OkR (relP T r).1.1∧((relP T r).1.2=true→r.at'+1≤(relP T r).2.at'):=by
 unfold relP
 split
 ·rename_i hi
  have h1:=q25 hT hp hi (by decide +kernel) (by decide +kernel)
  have hp1:=h1.pre hp
  have h2:=q1n hT hp1
  have hp2:=h2.pre hp1
  have h3:=q3n hT hp2 (s:=q12) (by decide +kernel) (by decide +kernel)
  have hp3:=h3.pre hp2
  obtain ⟨h4,h5⟩:=ref_step hT hp3
  have hR0:RfSt T (q1o T q12 (q0i T (isR T q0c r))) ([(refP T (q1o T q12 (q0i T (isR T q0c r)))).1],(refP T (q1o T q12 (q0i T (isR T q0c r)))).2):=
   ⟨h4,by simp,fun f hf=>by rw [List.mem_singleton.1 hf];exact h5⟩
  have hR:=refsL_ok hT hp3 (f:=T.length) hR0
  generalize q44 T T.length ([(refP T (q1o T q12 (q0i T (isR T q0c r)))).1],(refP T (q1o T q12 (q0i T (isR T q0c r)))).2)=p at hR
  obtain ⟨l,r'⟩:=p
  have hl:=hR.len
  have hin:r'.at'<T.length:=hR.st.inr
  have hTl:=hT.len
  have e1:(isR T q0c r).at'=r.at'+1:=by rw [isR,if_pos hi]
  refine ⟨?_,⟨q28 hT hp1.inr,?_,hR.ok,q63 (Nat.zero_le _) (Nat.zero_le _)⟩,fun _=>?_⟩
  ·have h6:=((h1.trans h2).trans h3).trans hR.st
   refine h6.le ?_
   simp only [if_true,rsz,q83,esz_leaf]
   omega
  ·dsimp only at hl ⊢;omega
  ·have:=h2.mono;have:=h3.mono;have:=hR.st.mono;dsimp only at *;omega
 ·split
  ·rename_i hi
   have h1:=q25 hT hp hi (by decide +kernel) (by decide +kernel)
   have hp1:=h1.pre hp
   have h2:=q1n hT hp1
   have hp2:=h2.pre hp1
   have h3:=q3n hT hp2 (s:=q12) (by decide +kernel) (by decide +kernel)
   have hp3:=h3.pre hp2
   have h4:=expr_ok hT hp3
   have e1:(isR T q17 r).at'=r.at'+1:=by rw [isR,if_pos hi]
   refine ⟨?_,⟨q28 hT hp1.inr,by simp,fun f hf=>(by cases hf),h4.ok⟩,fun _=>?_⟩
   ·have h6:=((h1.trans h2).trans h3).trans h4.st
    refine h6.le ?_
    simp only [if_true,rsz,List.length_nil]
    omega
   ·have:=h2.mono;have:=h3.mono;have:=h4.st.mono;dsimp only at *;omega
  ·exact ⟨StepR.refl hp,⟨Nat.zero_le _,by simp,fun f hf=>(by cases hf),q63 (Nat.zero_le _) (Nat.zero_le _)⟩,fun h=>by cases h⟩
set_option maxRecDepth 4000
abbrev c53:AObj:=.cells 171 [.str ⟨#[]⟩,.str ⟨#[]⟩] 2
abbrev c43:AObj:=.cells 53 [.str ⟨#[]⟩,.nils,.int .i64 0,.str ⟨#[]⟩,.str ⟨#[]⟩,.nils] 6
theorem c_ref {T:List Tk} (hT:OkTk T) {n b:Nat} {r:Rd} (hp:Pre T n r):AFunR nrx131 b [] T r (.agg (rfC (refP T r).1)) (refP T r).2:=by
 intro S h
 refine wx131 ?_
 unfold Bx131
 intro b2 hb2
 have n1:b2≠b:=q0h hb2 h
 have hS0:sget (supd S b2 c53) b=some (rdO T r):=by rw [q01,if_neg n1];exact h
 have hn:=q1n hT hp
 have hpn:=hn.pre hp
 (try simp only [rwp,hwR,zA,zB,zC,zD,zE,zF,zG,zH,zI])
 refine (c_name hT hp.inr).ca hS0 ?_
 (try simp only [rwp,hwR,zA,zB,zC,zD,zE,zF,zG,zH,zI])
 intro b3 hb3
 have n2:b3≠b:=q0h hb3 q13
 have n3:b3≠b2:=q0h hb3 (x:=c53) (by rw [q01,if_neg (Ne.symm n1),q01,if_pos rfl])
 have k3:sget S b3=none:=by rw [q01,if_neg (Ne.symm n2),q01,if_neg (Ne.symm n3)] at hb3;exact hb3
 (try simp only [rwp,hwR,zA,zB,zC,zD,zE,zF,zG,zH,zI])
 have hrd:∀ o,sget (supd (supd (supd S b2 c53) b (rdO T (q0i T r))) b3 o) b=some (rdO T (q0i T r)):=fun o=>by rw [q01,if_neg n2,q01,if_pos rfl]
 refine (c_is hT hpn.inr sHash).ca (hrd _) ?_
 have fin:∀ (f:Rf) (r':Rd) (S2:q00),refP T r=(f,r')→q0f S2 b3=some (171,rfC f,2)→q0f S2 b2=some (171,[.str ⟨#[]⟩,.str ⟨#[]⟩],2)→(∀ x,b2≠x→b3≠x→sget S2 x=sget (supd S b (rdO T r')) x) →
   C131_1 (fun ae S'=>ae=.ret (.agg (rfC (refP T r).1))∧S'=supd S b (rdO T (refP T r).2)) (.ptr b2 0) (.ptr b3 0) S2:=by
  intro f r' S2 he h3 h2 hS2
  rw [he]
  unfold C131_1
  have hsub:∀ o,Sub (supd S b (rdO T r')) (sdel (supd S2 b2 o) b2):=fun o x y hx=>by
   have e2:b2≠x:=by rintro rfl;rw [q01,if_neg (Ne.symm n1),hb2] at hx;cases hx
   have e3:b3≠x:=by rintro rfl;rw [q01,if_neg (Ne.symm n2),k3] at hx;cases hx
   rw [q0b,if_neg e2,q01,if_neg e2,hS2 x e2 e3]
   exact hx
  simp only [rfC] at h3
  (try simp only [rwp,hwR,zA,zB,zC,zD,zE,zF,zG,zH,zI,q07 h3,h2])
  refine q1h _ (hsub _) ?_
  (try simp only [rwp,hwR,zA,zB,zC,zD,zE,zF,zG,zH,zI,rfC])
 cases hi:isP T sHash (q0i T r) with
 | true=>
  have h1:=q25 hT hpn hi (by decide +kernel) (by decide +kernel)
  have hp1:=h1.pre hpn
  (try simp only [rwp,hwR,zA,zB,zC,zD,zE,zF,zG,zH,zI])
  refine (c_name hT hp1.inr).ca q13 ?_
  have ob3:∀ X cs o,q0f (supd (supd X b3 (.cells 171 cs 2)) b o) b3=some (171,cs,2):=fun X cs o=>by rw [q0e (Ne.symm n2)];exact q0g
  (try simp only [rwp,hwR,zA,zB,zC,zD,zE,zF,zG,zH,zI,ob3])
  refine fin ⟨q27 T r,q27 T (isR T sHash (q0i T r))⟩ (q0i T (isR T sHash (q0i T r))) _ ?_ q0g ?_ fun x e2 e3=>?_
  ·rw [refP,if_pos hi]
  ·rw [q0e n3,q0e (Ne.symm n1),q0e n3,q0e (Ne.symm n1)];exact q0g
  ·simp only [q01,if_neg e2,if_neg e3]
   by_cases hb:b=x
   ·subst hb;simp
   ·simp [hb]
 | false=>
  rw [q7v hi]
  (try simp only [rwp,hwR,zA,zB,zC,zD,zE,zF,zG,zH,zI])
  refine fin ⟨q27 T r,⟨#[]⟩⟩ (q0i T r) _ ?_ ?_ ?_ fun x e2 e3=>?_
  ·rw [refP,if_neg (by rw [hi];simp)]
  ·rw [q0e (Ne.symm n2)];exact q0g
  ·rw [q0e (Ne.symm n1),q0e n3,q0e (Ne.symm n1)];exact q0g
  ·simp only [q01,if_neg e2,if_neg e3]
   by_cases hb:b=x
   ·subst hb;simp
   ·simp [hb]
structure RlI (S:q00) (b b2 b4:Nat) (T:List Tk) (name:ByteArray) (p:List Rf×Rd) (S':q00):Prop where
 rd:sget S' b=some (rdO T p.2)
 c2:sget S' b2=some c43
 c4:∃ v,sget S' b4=some (.cells 53 [.str name,v,.int .i64 0,.str ⟨#[]⟩,.str ⟨#[]⟩,.nils] 6)∧LstN (sdel S b) S' 171 2 v (p.1.map rfC)∧q0l v b∧q0l v b2∧q0l v b4
 sub:Sub (sdel S b) S'
theorem LstN.base2 {S S':q00} {b t sz:Nat} {v:AV} {rows:List (List AV)} {o:AObj} (h:LstN (sdel S b) S' t sz v rows) (ha:q0l v b):LstN (supd S b o) S' t sz v rows:=by
 obtain ⟨hr,h⟩:=h
 refine ⟨hr,?_⟩
 rcases h with h | ⟨c,cap,rfl,h1,h2⟩
 ·exact .inl h
 ·refine .inr ⟨c,cap,rfl,?_,h2⟩
  have:=ha c 0 _ _ rfl
  rw [q0b,if_neg this] at h1
  rw [q01,if_neg this]
  exact h1
theorem q2y {c:Nat}:q0l .nils c:=fun b off n cap h=>by cases h
theorem kpW_one {S S':q00} {Y:Prop} {b off:Nat} (h:sget S' b=sget S b) (hY:Y):kpW [.ptr b off] S S' Y:=by
 refine ⟨fun v hv c hc=>?_,hY⟩
 rw [List.mem_singleton] at hv
 subst hv
 simp [blk] at hc
 subst hc
 exact h
theorem RlI.more {S S1:q00} {b b2 b4:Nat} {T:List Tk} {name:ByteArray} {l:List Rf} {r r2:Rd} (h:RlI S b b2 b4 T name (l,r) S1) (n1:b2≠b) (n2:b4≠b) (n3:b4≠b2) (k2:sget S b2=none) (k4:sget S b4=none) (hlen:l.length≤100000) (f:Rf) {v:AV} (hv:sget S1 b4=some (.cells 53 [.str name,v,.int .i64 0,.str ⟨#[]⟩,.str ⟨#[]⟩,.nils] 6)) {K:q00→Prop} (hK:∀ S3,RlI S b b2 b4 T name (l++[f],r2) S3→K S3) :
  apW (supd S1 b (rdO T r2)) 171 2 32 v (.sl 2 [[.str f.ty,.str f.rl]]) fun v' S2=>soW (q0f S2 b4) S2 1 b4 1 v' K:=by
 obtain ⟨hrd,hc2,⟨v0,hv0,hl,a1,a2,a4⟩,hsub⟩:=h
 rw [hv] at hv0
 cases hv0
 dsimp only at hl hrd
 have hb0:sget (sdel S b) b=none:=by rw [q0b,if_pos rfl]
 have hb4:sget (sdel S b) b4=none:=by rw [q0b,if_neg (Ne.symm n2)];exact k4
 refine (hl.upd a1 (rdO T r2)).app (hsub.supd hb0) (xs:=[[.str f.ty,.str f.rl]]) (fun r hr=>by rw [List.mem_singleton] at hr;subst hr;rfl) rfl (by simp;omega) ?_
 intro v' S2 h1 h2 h3
 obtain ⟨q1,q2⟩:=h3 b (rdO T r2) (by rw [q01,if_pos rfl]) a1
 obtain ⟨q3,q4⟩:=h3 b4 _ (by rw [q01,if_neg (Ne.symm n2)];exact hv) a4
 obtain ⟨q5,q6⟩:=h3 b2 _ (by rw [q01,if_neg (Ne.symm n1)];exact hc2) a2
 rw [objAt_some.2 q3,q2s]
 have hone:=h2.one
 have hac:q09 v'=[v']:=by cases v'<;>first | rfl | cases hone
 rw [hac]
 refine ⟨rfl,by simp,by simp [ones,hone],hK _ ⟨?_,?_,⟨v',?_,?_,q2,q6,q4⟩,?_⟩⟩
 ·rw [q01,if_neg n2];exact q1
 ·rw [q01,if_neg n3];exact q5
 ·rw [q01,if_pos rfl];rfl
 ·simpa [rfC] using h2.upd q4 _
 ·exact h1.supd hb4
theorem sub_del {S:q00} {b:Nat} {T:List Tk} {S2:q00} {r':Rd} {b2:Nat} {o:AObj} (h:Sub (sdel S b) S2) (hb:sget S2 b=some (rdO T r')) (k2:sget S b2=none) (n1:b2≠b):Sub (supd S b (rdO T r')) (supd S2 b2 o):=by
 intro x y hx
 have e2:b2≠x:=by rintro rfl;rw [q01,if_neg (Ne.symm n1),k2] at hx;cases hx
 rw [q01,if_neg e2]
 rw [q01] at hx
 by_cases hbx:b=x
 ·subst hbx;rw [if_pos rfl] at hx;rw [hb];exact hx
 ·rw [if_neg hbx] at hx
  exact h x y (by rw [q0b,if_neg hbx];exact hx)
theorem c_rel {T:List Tk} (hT:OkTk T) {b:Nat} {r:Rd} (hp:Pre T 12 r):AFunR nrx86 b [] T r (.tup [.agg (rlC (relP T r).1.1),.bool (relP T r).1.2]) (relP T r).2:=by
 intro S h
 have hTl:=hT.len
 refine wx86 ?_
 unfold Bx86
 intro b2 hb2
 have n1:b2≠b:=q0h hb2 h
 (try simp only [rwp,hwR,zA,zB,zC,zD,zE,zF,zG,zH,zI])
 intro b4 hb4
 have n2:b4≠b:=q0h hb4 (x:=rdO T r) (by rw [q01,if_neg n1];exact h)
 have n3:b4≠b2:=q0h hb4 (x:=c43) (by rw [q01,if_pos rfl])
 have k4:sget S b4=none:=by rw [q01,if_neg (Ne.symm n3)] at hb4;exact hb4
 have m1:=Ne.symm n1
 have m2:=Ne.symm n2
 have m3:=Ne.symm n3
 (try simp only [rwp,hwR,zA,zB,zC,zD,zE,zF,zG,zH,zI])
 have fin:∀ (x:Rl) (ok:Bool) (r':Rd) (S2:q00) (n:ByteArray) (v:AV) (k:Int) (a o:ByteArray) (w:AV),relP T r=((x,ok),r')→sget S2 b=some (rdO T r')→Sub (sdel S b) S2 →
   Frs (supd S b (rdO T r')) (supd S2 b2 (.cells 53 [.str n,v,.int .i64 k,.str a,.str o,w] 6)) [.str n,v,.int .i64 k,.str a,.str o,w] (rlC x) →
   rtW [.cell (.ptr b2 0) 6 true,.tmp (.bool ok)] (fun ae S'=>ae=.ret (.tup [.agg (rlC (relP T r).1.1),.bool (relP T r).1.2])∧S'=supd S b (rdO T (relP T r).2)) (supd S2 b2 (.cells 53 [.str n,v,.int .i64 k,.str a,.str o,w] 6)):=by
  intro x ok r' S2 n v k a o w he hb hsub hfr
  rw [he]
  refine rtW_fr (supd S b (rdO T r')) (.tup [.agg (rlC x),.bool ok]) (sub_del hsub hb hb2 n1) ?_ ⟨rfl,rfl⟩
  (try simp only [rwp,hwR,zA,zB,zC,zD,zE,zF,zG,zH,zI])
  exact .tu (.cons (.ag hfr) (.cons (.same _) .nil))
 have hS0:sget (supd (supd S b2 c43) b4 c43) b=some (rdO T r):=by rw [q01,if_neg n2,q01,if_neg n1];exact h
 have hsub0:Sub (sdel S b) (supd (supd S b2 c43) b4 c43):=by
  intro x y hx
  have hbx:b≠x:=by rintro rfl;rw [q0b,if_pos rfl] at hx;cases hx
  rw [q0b,if_neg hbx] at hx
  rw [q01,if_neg (q0h k4 hx),q01,if_neg (q0h hb2 hx)]
  exact hx
 refine (c_is hT hp.inr q0c).ca hS0 ?_
 cases hi:isP T q0c r with
 | true=>
  have h1:=q25 hT hp hi (by decide +kernel) (by decide +kernel)
  have hp1:=h1.pre hp
  have h2:=q1n hT hp1
  have hp2:=h2.pre hp1
  have h3:=q3n hT hp2 (s:=q12) (by decide +kernel) (by decide +kernel)
  have hp3:=h3.pre hp2
  obtain ⟨h4,h5⟩:=ref_step hT hp3
  (try simp only [rwp,hwR,zA,zB,zC,zD,zE,zF,zG,zH,zI])
  refine (c_name hT hp1.inr).ca q13 ?_
  have ob4:∀ X cs o,q0f (supd (supd X b4 (.cells 53 cs 6)) b o) b4=some (53,cs,6):=fun X cs o=>by rw [q0e m2];exact q0g
  (try simp only [rwp,hwR,zA,zB,zC,zD,zE,zF,zG,zH,zI,ob4])
  have hrd:∀ X cs r',sget (supd (supd X b (rdO T r')) b4 (.cells 53 cs 6)) b=some (rdO T r'):=fun X cs r'=>by rw [q01,if_neg n2];exact q13
  refine (c_must hT hp2.inr q12).ca (hrd _ _ _) ?_
  (try simp only [rwp,hwR,zA,zB,zC,zD,zE,zF,zG,zH,zI,q07 (ob4 _ _ _)])
  refine (c_ref hT hp3).ca q13 ?_
  refine kpW_one (by rw [q01,if_neg m2]) ?_
  refine ⟨⟨rfl,rfl⟩,?_⟩
  have hI0:RlI S b b2 b4 T (q27 T (isR T q0c r)) ([],q1o T q12 (q0i T (isR T q0c r)))
    (supd (supd (supd (supd (supd S b2 c43) b4 c43) b (rdO T (q0i T (isR T q0c r)))) b4 (.cells 53 [.str (q27 T (isR T q0c r)),.nils,.int .i64 0,.str ⟨#[]⟩,.str ⟨#[]⟩,.nils] 6)) b (rdO T (q1o T q12 (q0i T (isR T q0c r))))):=by
   refine ⟨q13,?_,⟨.nils,?_,.nil,q2y,q2y,q2y⟩,?_⟩
   ·simp [q01,m1,m2,m3,n1,n2,n3]
   ·simp [q01,m1,m2,m3,n1,n2,n3]
   ·have hb0:sget (sdel S b) b=none:=by rw [q0b,if_pos rfl]
    have hb4':sget (sdel S b) b4=none:=by rw [q0b,if_neg m2];exact k4
    exact ((hsub0.supd hb0).supd hb4').supd hb0
  have hrel:relP T r=((⟨q27 T (isR T q0c r),(q44 T T.length ([(refP T (q1o T q12 (q0i T (isR T q0c r)))).1],(refP T (q1o T q12 (q0i T (isR T q0c r)))).2)).1,q83⟩,true),(q44 T T.length ([(refP T (q1o T q12 (q0i T (isR T q0c r)))).1],(refP T (q1o T q12 (q0i T (isR T q0c r)))).2)).2):=by
   rw [relP,if_pos hi]
  refine hI0.more n1 n2 n3 hb2 k4 (by simp) (refP T (q1o T q12 (q0i T (isR T q0c r)))).1 (r2:=(refP T (q1o T q12 (q0i T (isR T q0c r)))).2) (v:=.nils) ?_ ?_
  ·rw [q01,if_neg m2,q01,if_pos rfl]
  clear hI0
  intro S3 hI
  generalize q27 T (isR T q0c r)=nm at hI hrel
  have hR0:RfSt T (q1o T q12 (q0i T (isR T q0c r))) ([(refP T (q1o T q12 (q0i T (isR T q0c r)))).1],(refP T (q1o T q12 (q0i T (isR T q0c r)))).2):=
   ⟨h4,by simp,fun f hf=>by rw [List.mem_singleton.1 hf];exact h5⟩
  generalize q1o T q12 (q0i T (isR T q0c r))=r3 at hI hrel hp3 hR0
  rw [List.nil_append] at hI
  generalize ([(refP T r3).1],(refP T r3).2)=p0 at hI hrel hR0
  refine LoopP.introS (fun _:List Rf×Rd=>[(0,.ptr b 0),(2,.ptr b2 0),(4,.ptr b4 0)])
   (fun p S'=>RlI S b b2 b4 T nm p S'∧RfSt T r3 p∧q44 T T.length p=q44 T T.length p0) (fun p=>T.length-p.2.at') p0 ⟨hI,hR0,rfl⟩ rfl ?_
  clear hI hR0
  rintro ⟨l,r4⟩ S4 ⟨hI,hR,hf⟩ q hq
  have hp4:=hR.st.pre hp3
  have hin:r4.at'<T.length:=hp4.inr
  have hll:=hR.len
  dsimp only at hll
  have hI':=hI
  obtain ⟨krd,kc2,⟨v,kv,klst,a1,a2,a4⟩,ksub⟩:=hI'
  dsimp only at krd klst
  (try simp only [rwp,hwR,zA,zB,zC,zD,zE,zF,zG,zH,zI,C86_1])
  refine (c_is hT hp4.inr sBar).ca krd ?_
  cases hb:isP T sBar r4 with
  | true=>
   obtain ⟨hR2,hmu⟩:=refs_next hT hp3 hR hb
   have h6:=q25 hT hp4 hb (by decide +kernel) (by decide +kernel)
   have hp6:=h6.pre hp4
   have hob:q0f (supd S4 b (rdO T (isR T sBar r4))) b4=some (53,[.str nm,v,.int .i64 0,.str ⟨#[]⟩,.str ⟨#[]⟩,.nils],6):=by rw [q0e m2];exact objAt_some.2 kv
   have hf2:q44 T T.length (l++[(refP T (isR T sBar r4)).1],(refP T (isR T sBar r4)).2)=q44 T T.length p0:=by
    rw [← hf]
    obtain ⟨m,hm⟩:∃ m,T.length=m+1:=⟨T.length-1,by omega⟩
    conv=>rhs;rw [hm,q44,if_pos hb]
    exact refsL_more hT hp3 hR2 (by dsimp only;omega) (by dsimp only;omega)
   have hI2:RlI S b b2 b4 T nm (l,isR T sBar r4) (supd S4 b (rdO T (isR T sBar r4))):=by
    refine ⟨q13,by rw [q01,if_neg m1];exact kc2,⟨v,by rw [q01,if_neg m2];exact kv,klst.upd a1 _,a1,a2,a4⟩,ksub.supd (by rw [q0b,if_pos rfl])⟩
   (try simp only [rwp,hwR,zA,zB,zC,zD,zE,zF,zG,zH,zI,q07 hob])
   refine (c_ref hT hp6).ca q13 ?_
   refine kpW_one (by rw [q01,if_neg m2]) ?_
   refine ⟨⟨rfl,rfl⟩,?_⟩
   refine hI2.more n1 n2 n3 hb2 k4 (by omega) (refP T (isR T sBar r4)).1 (r2:=(refP T (isR T sBar r4)).2) (v:=v) ?_ ?_
   ·rw [q01,if_neg m2];exact kv
   intro S5 hI5
   exact q0a rfl (hq (l++[(refP T (isR T sBar r4)).1],(refP T (isR T sBar r4)).2) S5 ⟨hI5,hR2,hf2⟩ (by dsimp only;omega))
  | false=>
   rw [q7v hb,q0n krd]
   have hstop:q44 T T.length (l,r4)=(l,r4):=by
    cases T.length with
    | zero=>rfl
    | succ m=>rw [q44,if_neg (by rw [hb];simp)]
   rw [hstop] at hf
   rw [← hf] at hrel
   have ob2:=objAt_some.2 kc2
   have ob4':=objAt_some.2 kv
   have hone:=klst.one
   have hac:q09 v=[v]:=by cases v<;>first | rfl | cases hone
   (try simp only [rwp,hwR,zA,zB,zC,zD,zE,zF,zG,zH,zI,q07 ob4',ob2,q15])
   refine ⟨hone,fin ⟨nm,l,q83⟩ true r4 S4 nm v 0 _ _ _ hrel krd ksub ?_⟩
   rw [q0u]
   exact .cons (.same _) (.cons (Fr.lst ((klst.upd a2 _).base2 a1)) (.cons (.same _) (.cons (.same _) (.cons (.same _) (.cons (.nils 4) .nil)))))
 | false=>
  rw [q7v hi,q0n hS0]
  (try simp only [rwp,hwR,zA,zB,zC,zD,zE,zF,zG,zH,zI])
  refine (c_is hT hp.inr q17).ca hS0 ?_
  cases hd:isP T q17 r with
  | true=>
   have h1:=q25 hT hp hd (by decide +kernel) (by decide +kernel)
   have hp1:=h1.pre hp
   have h2:=q1n hT hp1
   have hp2:=h2.pre hp1
   have h3:=q3n hT hp2 (s:=q12) (by decide +kernel) (by decide +kernel)
   have hp3:=h3.pre hp2
   (try simp only [rwp,hwR,zA,zB,zC,zD,zE,zF,zG,zH,zI])
   refine (c_name hT hp1.inr).ca q13 ?_
   have ob4:∀ X cs o,q0f (supd (supd X b4 (.cells 53 cs 6)) b o) b4=some (53,cs,6):=fun X cs o=>by rw [q0e m2];exact q0g
   (try simp only [rwp,hwR,zA,zB,zC,zD,zE,zF,zG,zH,zI,ob4])
   have hrd:∀ X cs r',sget (supd (supd X b (rdO T r')) b4 (.cells 53 cs 6)) b=some (rdO T r'):=fun X cs r'=>by rw [q01,if_neg n2];exact q13
   refine (c_must hT hp2.inr q12).ca (hrd _ _ _) ?_
   (try simp only [rwp,hwR,zA,zB,zC,zD,zE,zF,zG,zH,zI])
   refine (c_expr hT hp3).ca q13 ?_
   have hrel:relP T r=((⟨q27 T (isR T q17 r),[],(exprP T 12 (q1o T q12 (q0i T (isR T q17 r)))).1⟩,true),(exprP T 12 (q1o T q12 (q0i T (isR T q17 r)))).2):=by
    rw [relP,if_neg (by rw [hi];simp),if_pos hd]
   generalize q27 T (isR T q17 r)=nm at hrel ⊢
   generalize exprP T 12 (q1o T q12 (q0i T (isR T q17 r)))=pe at hrel ⊢
   obtain ⟨e,r5⟩:=pe
   dsimp only at hrel ⊢
   rw [q0q]
   have hb0:sget (sdel S b) b=none:=by rw [q0b,if_pos rfl]
   have hb4':sget (sdel S b) b4=none:=by rw [q0b,if_neg m2];exact k4
   have q1:∀ X cs,sget (supd (supd X b4 (.cells 53 cs 6)) b (rdO T r5)) b=some (rdO T r5):=fun X cs=>q13
   have q2:q0f (supd (supd (supd (supd (supd S b2 c43) b4 c43) b (rdO T (q0i T (isR T q17 r)))) b4 (.cells 53 [.str nm,.nils,.int .i64 0,.str ⟨#[]⟩,.str ⟨#[]⟩,.nils] 6)) b (rdO T r5)) b4=some (53,[.str nm,.nils,.int .i64 0,.str ⟨#[]⟩,.str ⟨#[]⟩,.nils],6):=ob4 _ _ _
   have q3:q0f (supd (supd (supd (supd (supd S b2 c43) b4 c43) b (rdO T (q0i T (isR T q17 r)))) b4 (.cells 53 [.str nm,.nils,.int .i64 0,.str ⟨#[]⟩,.str ⟨#[]⟩,.nils] 6)) b (rdO T r5)) b2=some (53,[.str ⟨#[]⟩,.nils,.int .i64 0,.str ⟨#[]⟩,.str ⟨#[]⟩,.nils],6):=by
    refine objAt_some.2 ?_
    simp [q01,m1,m2,m3,n1,n2,n3]
   have q4:Sub (sdel S b) (supd (supd (supd (supd (supd S b2 c43) b4 c43) b (rdO T (q0i T (isR T q17 r)))) b4 (.cells 53 [.str nm,.nils,.int .i64 0,.str ⟨#[]⟩,.str ⟨#[]⟩,.nils] 6)) b (rdO T r5)):=((hsub0.supd hb0).supd hb4').supd hb0
   have q1:=q1 (supd (supd (supd S b2 c43) b4 c43) b (rdO T (q0i T (isR T q17 r)))) [.str nm,.nils,.int .i64 0,.str ⟨#[]⟩,.str ⟨#[]⟩,.nils]
   generalize supd (supd (supd (supd (supd S b2 c43) b4 c43) b (rdO T (q0i T (isR T q17 r)))) b4 (.cells 53 [.str nm,.nils,.int .i64 0,.str ⟨#[]⟩,.str ⟨#[]⟩,.nils] 6)) b (rdO T r5)=S5 at q1 q2 q3 q4 ⊢
   (try simp only [rwp,hwR,zA,zB,zC,zD,zE,zF,zG,zH,zI,q2,q3,q0d,q15,if_neg n3])
   refine fin ⟨nm,[],e⟩ true r5 _ nm .nils e.kind _ _ _ hrel (by rw [q01,if_neg n2];exact q1) (q4.supd hb4') ?_
   rw [q0u]
   exact .cons (.same _) (.cons (.nils 2) (.cons (.same _) (.cons (.same _) (.cons (.same _) (.cons (.same _) .nil)))))
  | false=>
   rw [q7v hd,q0n hS0]
   have hrel:relP T r=((⟨⟨#[]⟩,[],q83⟩,false),r):=by
    rw [relP,if_neg (by rw [hi];simp),if_neg (by rw [hd];simp)]
   (try simp only [rwp,hwR,zA,zB,zC,zD,zE,zF,zG,zH,zI,if_neg n3,if_neg m3])
   refine fin ⟨⟨#[]⟩,[],q83⟩ false r _ _ .nils 0 _ _ _ hrel hS0 hsub0 ?_
   rw [q0u]
   exact .cons (.same _) (.cons (.nils 2) (.cons (.same _) (.cons (.same _) (.cons (.same _) (.cons (.nils 4) .nil)))))
set_option maxRecDepth 4000
def bl (s:ByteArray):List UInt8:=s.data.toList
def mkB (l:List UInt8):ByteArray:=⟨l.toArray⟩
theorem mkB_bl (s:ByteArray):mkB (bl s)=s:=by cases s;rfl
theorem q4o (s:ByteArray):(bl s).length=s.size:=by cases s;simp [bl,ByteArray.size]
theorem bl_extract (s:ByteArray) (i j:Nat):bl (s.extract i j)=((bl s).take j).drop i:=by
 unfold bl
 rw [ByteArray.data_extract,Array.toList_extract,List.extract_eq_take_drop,List.drop_take]
theorem q4z (s:ByteArray) (i j:Nat):s.extract i j=mkB (((bl s).take j).drop i):=by rw [← bl_extract,mkB_bl]
theorem bl_get (s:ByteArray) (i:Nat):s[i]?=(bl s)[i]?:=q6n s i
def q2o:Nat→List UInt8→Nat
 | _,[]=>0
 | i,c :: r=>if atN i c.toNat then q2o (i+1) r+1 else 0
theorem wordL_le:∀ {l:List UInt8} {i:Nat},q2o i l≤l.length
 | [],i=>by simp [q2o]
 | c :: r,i=>by
  unfold q2o
  have:=wordL_le (l:=r) (i:=i+1)
  split
  ·simp;omega
  ·simp
theorem c_word {s:ByteArray} (hs:s.size≤1125899906842624):AFun PG nrx128 [.str s] (.int .i64 (q2o 0 (bl s))):=by
 intro S
 refine wx128 ?_
 unfold Bx128
 refine LoopP.introS (fun i:Nat=>[(0,.str s),(3,.int .i64 i)]) (fun i S'=>S'=S∧i≤s.size∧q2o 0 (bl s)=i+q2o i ((bl s).drop i)) (fun i=>s.size-i) 0 ⟨rfl,by omega,by simp⟩ rfl ?_
 rintro i S' ⟨rfl,hi,hf⟩ r hr
 cases h0:decide ((i:Int)<s.size) with
 | false=>
  have hd:(bl s).drop i=[]:=List.drop_of_length_le (by rw [q4o];have:=of_decide_eq_false h0;omega)
  rw [hd,q2o] at hf
  (try simp only [rwp,hwR,zA,zB,zC,zD,zE,zF,zG,zH,zI,C128_1,h0,C128_2,C128_3,C128_4,C128_5,C128_6,C128_7,C128_8,C128_9,C128_10,C128_11])
  exact q03 ⟨by rw [hf];rfl,rfl⟩
 | true=>
  have hlt:=of_decide_eq_true h0
  obtain ⟨b,hb⟩:=q3x hlt
  have hd:=q0z (l:=bl s) (by rw [← bl_get];exact hb)
  rw [hd,q2o] at hf
  have ea:atN i b.toNat=((decide (97≤(b.toNat:Int))&&decide ((b.toNat:Int)≤122))||(decide (0<(i:Int))&&(decide ((b.toNat:Int)=95)||(decide (48≤(b.toNat:Int))&&decide ((b.toNat:Int)≤57))))):=by
   have:(!decide ((i:Int)=0))=decide (0<(i:Int)):=by rw [← decide_not];congr 1;exact propext (by omega)
   simp only [atN,q57,digitN,this]
  have good:atN i b.toNat=true→r [(0,.str s),(3,.int .i64 ((i:Int)+1))] S':=fun h=>by
   rw [if_pos h] at hf
   exact hr (i+1) _ ⟨rfl,by omega,by omega⟩ (by omega)
  have bad:atN i b.toNat=false→q2o 0 (bl s)=i:=fun h=>by
   rw [if_neg (by rw [h];simp)] at hf
   exact hf
  cases h1:decide (97≤(b.toNat:Int))<;>cases h2:decide ((b.toNat:Int)≤122)<;>cases h3:decide (0<(i:Int))<;>cases h4:decide ((b.toNat:Int)=95)<;>cases h5:decide (48≤(b.toNat:Int))<;>cases h6:decide ((b.toNat:Int)≤57) <;>
   simp only [h1,h2,h3,h4,h5,h6,Bool.true_and,Bool.false_and,Bool.and_true,Bool.and_false,Bool.or_true,Bool.true_or,Bool.or_false,Bool.false_or,Bool.not_true,Bool.not_false] at ea <;>
   (try simp only [rwp,hwR,zA,zB,zC,zD,zE,zF,zG,zH,zI,C128_1,h0,hb,C128_2,C128_3,C128_4,C128_5,C128_6,C128_7,C128_8,C128_9,C128_10,C128_11,h1,h2,h3,h4,h5,h6]) <;>
   first
    | exact q03 ⟨by rw [bad ea],rfl⟩
    | ((simp (disch:=omega) only [q08]);exact q0a rfl (good ea))
set_option maxRecDepth 4000
def signs:ByteArray:=⟨#[58,124,35,43,45,38,46,40,41]⟩
def signF (c:UInt8):ByteArray:=if c∈[58,124,35,43,45,38,46,40,(41:UInt8)] then mkB [c] else ⟨#[63]⟩
theorem signs_get {i:Nat} {c:UInt8} (h:signs[i]?=some c):c∈[58,124,35,43,45,38,46,40,(41:UInt8)]∧signs.extract i (i+1)=mkB [c]:=by
 rw [bl_get] at h
 have hm:=List.mem_of_getElem? h
 refine ⟨hm,?_⟩
 rw [q4z,List.drop_take,show i+1-i=1 by omega,q0z h]
 rfl
theorem c_sign (c:UInt8):AFun PG nrx129 [.int .u8 c.toNat] (.str (signF c)):=by
 intro S
 refine wx129 ?_
 unfold Bx129
 refine LoopP.introS (fun i:Nat=>[(0,.int .u8 c.toNat),(3,.str signs),(4,.int .i64 i)]) (fun i S'=>S'=S∧i≤9∧∀ j b,j<i→signs[j]?=some b→b≠c) (fun i=>9-i) 0 ⟨rfl,by omega,by omega⟩ rfl ?_
 rintro i S' ⟨rfl,hi,hn⟩ r hr
 have hsz:signs.size=9:=rfl
 (try simp only [rwp,hwR,zA,zB,zC,zD,zE,zF,zG,zH,zI,C129_1,hsz])
 (refine q04 (fun hlt=>?_) (fun hlt=>?_)<;>(try simp only [hlc] at hlt))
 ·obtain ⟨b,hb⟩:=q3x (s:=signs) (i:=i) (by rw [hsz];omega)
  obtain ⟨h1,h2⟩:=signs_get hb
  (try simp only [rwp,hwR,zA,zB,zC,zD,zE,zF,zG,zH,zI,hb])
  (refine q04 (fun he=>?_) (fun he=>?_)<;>(try simp only [hlc] at he))
  ·have hbc:b=c:=UInt8.toNat_inj.1 (by omega)
   subst hbc
   (simp (disch:=omega) only [q08])
   (try simp only [rwp,hwR,zA,zB,zC,zD,zE,zF,zG,zH,zI,hsz])
   refine ⟨by omega,by omega,?_⟩
   rw [show ((i:Int)+1).toNat=i+1 by omega,h2]
   exact q03 ⟨by rw [signF,if_pos h1],rfl⟩
  ·(simp (disch:=omega) only [q08])
   refine q0a rfl (hr (i+1) _ ⟨rfl,by omega,fun j x hj hx=>?_⟩ (by omega))
   rcases Nat.lt_succ_iff_lt_or_eq.1 hj with h | rfl
   ·exact hn j x h hx
   ·rw [hb] at hx;cases hx
    rintro rfl
    exact he rfl
 ·refine q03 ⟨?_,rfl⟩
  rw [signF,if_neg]
  intro hm
  obtain ⟨j,hj⟩:=List.getElem?_of_mem hm
  have h9:signs[j]?=some c:=by rw [bl_get];exact hj
  exact hn j c (by have:=q6m h9;omega) h9 rfl
def tokL:Nat→List UInt8→Nat→Nat→List Tk
 | 0,_,_,_=>[]
 | _+1,[],line,col=>[⟨⟨#[]⟩,line,col⟩]
 | f+1,c :: r,line,col=>
  if c.toNat=32∨c.toNat=9∨c.toNat=10 then tokL f r (if c.toNat=10 then line+1 else line) (if c.toNat=10 then 1 else col+1)
  else if q2o 0 (c :: r)=0 then (if signF c=⟨#[63]⟩ then [⟨⟨#[63]⟩,line,col⟩] else ⟨signF c,line,col⟩ :: tokL f r line (col+1))
  else ⟨mkB ((c :: r).take (q2o 0 (c :: r))),line,col⟩ :: tokL f ((c :: r).drop (q2o 0 (c :: r))) line (col+q2o 0 (c :: r))
def tokT (s:ByteArray):List Tk:=tokL (s.size+1) (bl s) 1 1
theorem c_Tokens {s:ByteArray} (hs:s.size≤4096):AFun PG nrx83 [.str s] (.sl 3 ((tokT s).map tkC)):=by
 intro S
 refine wx83 ?_
 unfold Bx83
 refine LoopP.introS (fun p:AV×Nat×Nat×Nat=>[(0,.str s),(3,p.1),(4,.int .i64 p.2.1),(5,.int .i64 p.2.2.1),(6,.int .i64 p.2.2.2)])
  (fun p S'=>p.2.2.2≤s.size∧p.2.1≤p.2.2.2+1∧p.2.2.1≤p.2.2.2+1∧Sub S S'∧∃ (d:List Tk) (f:Nat),s.size-p.2.2.2<f∧d.length≤p.2.2.2∧LstN S S' 149 3 p.1 (d.map tkC)∧d++tokL f ((bl s).drop p.2.2.2) p.2.1 p.2.2.1=tokT s) (fun p=>s.size-p.2.2.2) (.nils,1,1,0)
  ⟨Nat.zero_le _,Nat.le_refl _,Nat.le_refl _,Sub.refl S,[],s.size+1,by dsimp only;omega,by simp,.nil,rfl⟩ rfl ?_
 rintro ⟨v,line,col,i⟩ S1 ⟨hi,hln,hcl,hs1,d,f,hf,hd,hl,ht⟩ q hq
 dsimp only at hi hln hcl hf hd hl ht
 obtain ⟨f,rfl⟩:∃ m,f=m+1:=⟨f-1,by omega⟩
 (try simp only [rwp,hwR,zA,zB,zC,zD,zE,zF,zG,zH,zI,C83_1])
 (refine q04 (fun hlt=>?_) (fun hlt=>?_)<;>(try simp only [hlc] at hlt))
 ·obtain ⟨c,hc⟩:=q3x hlt
  have hdc:=q0z (l:=bl s) (by rw [← bl_get];exact hc)
  rw [hdc,tokL] at ht
  (try simp only [rwp,hwR,zA,zB,zC,zD,zE,zF,zG,zH,zI,hc])
  have ws:∀ w:Bool,w=(decide (c.toNat=32∨c.toNat=9∨c.toNat=10))→C83_3 (fun ae S'=>ae=.ret (.sl 3 ((tokT s).map tkC))∧S'=S) q (.str s) v (.int .i64 line) (.int .i64 col) (.int .i64 i) (.int .u8 c.toNat) (.bool w) S1:=by
   intro w hw
   unfold C83_3
   cases w with
   | true=>
    have hw:=of_decide_eq_true hw.symm
    rw [if_pos hw] at ht
    cases a3:decide ((c.toNat:Int)=10) with
    | true=>
     have h10:c.toNat=10:=by have:=of_decide_eq_true a3;omega
     rw [if_pos h10,if_pos h10] at ht
     (try simp only [rwp,hwR,zA,zB,zC,zD,zE,zF,zG,zH,zI,a3])
     (simp (disch:=omega) only [q08])
     refine q0a rfl (hq (v,line+1,1,i+1) S1 ⟨by dsimp only;omega,by dsimp only;omega,by dsimp only;omega,hs1,d,f,by dsimp only;omega,by dsimp only;omega,hl,ht⟩ (by dsimp only;omega))
    | false=>
     have h10:¬ c.toNat=10:=by have:=of_decide_eq_false a3;omega
     rw [if_neg h10,if_neg h10] at ht
     (try simp only [rwp,hwR,zA,zB,zC,zD,zE,zF,zG,zH,zI,a3])
     (simp (disch:=omega) only [q08])
     refine q0a rfl (hq (v,line,col+1,i+1) S1 ⟨by dsimp only;omega,by dsimp only;omega,by dsimp only;omega,hs1,d,f,by dsimp only;omega,by dsimp only;omega,hl,ht⟩ (by dsimp only;omega))
   | false=>
    have hw:=of_decide_eq_false hw.symm
    rw [if_neg hw] at ht
    have low:∀ (x:ByteArray) (w:Nat),1≤w→i+w≤s.size→tokT s=d++(if x=⟨#[63]⟩ then [⟨⟨#[63]⟩,line,col⟩] else ⟨x,line,col⟩ :: tokL f ((bl s).drop (i+w)) line (col+w))→C83_4 (fun ae S'=>ae=.ret (.sl 3 ((tokT s).map tkC))∧S'=S) q (.str s) v (.int .i64 line) (.int .i64 col) (.int .i64 i) (.int .i64 w) (.str x) S1:=by
     intro x w hw1 hw2 hx
     unfold C83_4
     (try simp only [rwp,hwR,zA,zB,zC,zD,zE,zF,zG,zH,zI])
     refine hl.app hs1 (xs:=[tkC ⟨x,line,col⟩]) (fun r hr=>by rw [List.mem_singleton] at hr;subst hr;rfl) rfl (by simp;omega) ?_
     intro v' S2 h1 h2 _
     (try simp only [rwp,hwR,zA,zB,zC,zD,zE,zF,zG,zH,zI])
     (refine q04 (fun hq3=>?_) (fun hq3=>?_)<;>(try simp only [hlc] at hq3))
     ·rw [if_pos hq3] at hx
      have e1:(d.map tkC)++[tkC ⟨x,line,col⟩]=(tokT s).map tkC:=by rw [hx,hq3];simp
      rw [e1] at h2
      exact q6y h1 h2 ⟨rfl,rfl⟩
     ·rw [if_neg (by simpa using hq3)] at hx
      (simp (disch:=omega) only [q08])
      rw [show (i:Int)+(w:Int)=((i+w:Nat):Int) from rfl,show (col:Int)+(w:Int)=((col+w:Nat):Int) from rfl]
      refine q0a rfl (hq (v',line,col+w,i+w) S2 ⟨by dsimp only;omega,by dsimp only;omega,by dsimp only;omega,h1,d++[⟨x,line,col⟩],f,by dsimp only;omega,by simp;omega,by simpa using h2,?_⟩ (by dsimp only;omega))
      dsimp only
      rw [hx]
      simp
    have hbe:bl (s.extract i s.size)=c :: (bl s).drop (i+1):=by
     rw [bl_extract,List.take_of_length_le (by rw [q4o];exact Nat.le_refl _),hdc]
    have hwl:=wordL_le (l:=c :: (bl s).drop (i+1)) (i:=0)
    have hcl2:(c :: (bl s).drop (i+1)).length=s.size-i:=by rw [← hdc,List.length_drop,q4o]
    rw [hcl2] at hwl
    have hcw:=c_word (s:=s.extract i s.size) (by rw [ByteArray.size_extract];omega)
    rw [hbe] at hcw
    (try simp only [rwp,hwR,zA,zB,zC,zD,zE,zF,zG,zH,zI])
    refine ⟨by omega,by omega,?_⟩
    refine q06 hcw ?_
    have hw0:∀ r,q2o 0 (c :: r)≠0→c≠63:=fun r h=>by
     rintro rfl
     apply h
     unfold q2o
     rw [if_neg (by decide)]
    have hw0:=hw0 ((bl s).drop (i+1))
    have htk:(c :: (bl s).drop (i+1)).drop (q2o 0 (c :: (bl s).drop (i+1)))=(bl s).drop (i+q2o 0 (c :: (bl s).drop (i+1))):=by
     rw [← hdc,List.drop_drop]
    have hex:s.extract i (i+q2o 0 (c :: (bl s).drop (i+1)))=mkB ((c :: (bl s).drop (i+1)).take (q2o 0 (c :: (bl s).drop (i+1)))):=by
     rw [q4z,List.drop_take,Nat.add_sub_cancel_left,hdc]
    rw [htk] at ht
    generalize hn:q2o 0 (c :: (bl s).drop (i+1))=n at *
    (try simp only [rwp,hwR,zA,zB,zC,zD,zE,zF,zG,zH,zI])
    (simp (disch:=omega) only [q08])
    (try simp only [rwp,hwR,zA,zB,zC,zD,zE,zF,zG,zH,zI])
    refine ⟨by omega,by omega,?_⟩
    rw [show ((i:Int)+(n:Int)).toNat=i+n by omega,hex]
    (refine q04 (fun hn0=>?_) (fun hn0=>?_)<;>(try simp only [hlc] at hn0))
    ·have hn0:n=0:=by omega
     refine q06 (c_sign c) ?_
     rw [if_pos hn0] at ht
     refine low _ 1 (by omega) (by omega) ?_
     rw [← ht]
    ·have hn0:¬ n=0:=by omega
     rw [if_neg hn0] at ht
     refine low _ n (by omega) (by omega) ?_
     rw [← ht,if_neg]
     intro h63
     have h1:=congrArg bl h63
     obtain ⟨m,hm⟩:∃ m,n=m+1:=⟨n-1,by omega⟩
     rw [hm,List.take_succ_cons] at h1
     have h2:c :: ((bl s).drop (i+1)).take m=[63]:=by
      have:bl (mkB (c :: ((bl s).drop (i+1)).take m))=c :: ((bl s).drop (i+1)).take m:=by simp [bl,mkB]
      rw [← this,h1];rfl
     exact hw0 hn0 (List.cons.inj h2).1
  cases a1:decide ((c.toNat:Int)=32)<;>cases a2:decide ((c.toNat:Int)=9)<;>cases a3:decide ((c.toNat:Int)=10) <;>
   (try simp only [rwp,hwR,zA,zB,zC,zD,zE,zF,zG,zH,zI,C83_2,a1,a2,a3])<;>refine ws _ ?_<;>simp only [decide_eq_true_eq,decide_eq_false_iff_not] at a1 a2 a3<;>(symm;first | exact decide_eq_true (by omega) | exact decide_eq_false (by omega))
 ·rw [List.drop_of_length_le (by rw [q4o];omega),tokL] at ht
  (try simp only [rwp,hwR,zA,zB,zC,zD,zE,zF,zG,zH,zI])
  refine hl.app hs1 (xs:=[tkC ⟨⟨#[]⟩,line,col⟩]) (fun r hr=>by rw [List.mem_singleton] at hr;subst hr;rfl) rfl (by simp;omega) ?_
  intro v' S2 h1 h2 _
  have e1:(d.map tkC)++[tkC ⟨⟨#[]⟩,line,col⟩]=(tokT s).map tkC:=by rw [← ht];simp
  rw [e1] at h2
  exact q6y h1 h2 ⟨rfl,rfl⟩
theorem q5s:∀ {f:Nat} {l:List UInt8} {a b:Nat},(tokL f l a b).length≤l.length+1
 | 0,l,a,b=>by simp [tokL]
 | f+1,[],a,b=>by simp [tokL]
 | f+1,c :: r,a,b=>by
  unfold tokL
  split
  ·have:=q5s (f:=f) (l:=r) (a:=if c.toNat=10 then a+1 else a) (b:=if c.toNat=10 then 1 else b+1)
   simp only [List.length_cons];omega
  ·split
   ·split
    ·simp
    ·have:=q5s (f:=f) (l:=r) (a:=a) (b:=b+1)
     simp only [List.length_cons];omega
   ·rename_i h0
    have:=q5s (f:=f) (l:=(c :: r).drop (q2o 0 (c :: r))) (a:=a) (b:=b+q2o 0 (c :: r))
    have h2:((c :: r).drop (q2o 0 (c :: r))).length≤r.length:=by
     rw [List.length_drop,List.length_cons];omega
    simp only [List.length_cons];omega
theorem mkB_size {l:List UInt8}:(mkB l).size=l.length:=by simp [mkB,ByteArray.size]
theorem signF_size {c:UInt8}:(signF c).size≤1:=by
 unfold signF
 split
 ·rw [mkB_size];exact Nat.le_refl _
 ·decide
theorem q5r:∀ {f:Nat} {l:List UInt8} {a b:Nat},∀ t∈tokL f l a b,t.s.size≤l.length+1
 | 0,l,a,b,t,ht=>by cases ht
 | f+1,[],a,b,t,ht=>by
  rw [tokL,List.mem_singleton] at ht
  subst ht
  exact Nat.zero_le _
 | f+1,c :: r,a,b,t,ht=>by
  unfold tokL at ht
  split at ht
  ·have:=q5r t ht
   simp only [List.length_cons];omega
  ·split at ht
   ·split at ht
    ·rw [List.mem_singleton] at ht
     subst ht
     exact Nat.le_add_left _ _
    ·rcases List.mem_cons.1 ht with rfl | ht
     ·have:=signF_size (c:=c);dsimp only;omega
     ·have:=q5r t ht
      simp only [List.length_cons];omega
   ·rcases List.mem_cons.1 ht with rfl | ht
    ·dsimp only
     rw [mkB_size,List.length_take]
     omega
    ·have:=q5r t ht
     rw [List.length_drop] at this
     omega
theorem q5t:∀ {f:Nat} {l:List UInt8} {a b:Nat} {t:Tk},(tokL f l a b).getLast?=some t→l.length<f→t.s=⟨#[]⟩∨t.s=⟨#[63]⟩
 | 0,l,a,b,t,ht,hf=>by omega
 | f+1,[],a,b,t,ht,hf=>by
  rw [tokL] at ht
  simp at ht
  subst ht
  exact .inl rfl
 | f+1,c :: r,a,b,t,ht,hf=>by
  have hne:∀ {f:Nat} {l:List UInt8} {a b:Nat},l.length<f→tokL f l a b≠[]:=by
   intro f
   induction f with
   | zero=>intro l a b h;omega
   | succ f ih=>
    intro l a b h
    cases l with
    | nil=>simp [tokL]
    | cons c r=>
     unfold tokL
     simp only [List.length_cons] at h
     split
     ·exact ih (by omega)
     ·split
      ·split<;>simp
      ·simp
  simp only [List.length_cons] at hf
  unfold tokL at ht
  split at ht
  ·exact q5t ht (by omega)
  ·split at ht
   ·split at ht
    ·simp at ht
     subst ht
     exact .inr rfl
    ·rw [List.getLast?_cons_of_ne_nil (hne (by omega))] at ht
     exact q5t ht (by omega)
   ·rename_i h0
    have hl:((c :: r).drop (q2o 0 (c :: r))).length<f:=by
     rw [List.length_drop,List.length_cons];omega
    rw [List.getLast?_cons_of_ne_nil (hne hl)] at ht
    exact q5t ht hl
theorem tokT_ok {s:ByteArray} (hs:s.size≤4096):OkTk (tokT s):=by
 have h1:=q5s (f:=s.size+1) (l:=bl s) (a:=1) (b:=1)
 rw [q4o] at h1
 refine ⟨?_,fun t ht=>?_,fun t ht=>?_⟩
 ·unfold tokT;omega
 ·have:=q5r t ht
  rw [q4o] at this
  omega
 ·rw [← List.getLast?_eq_getElem?] at ht
  exact q5t ht (by rw [q4o];omega)
structure RsSt (T:List Tk) (r:Rd) (p:List Rl×Rd):Prop where
 st:StepR T r p.2 0
 len:p.1.length≤p.2.at'
 ok:∀ x∈p.1,OkR x
 sz:p.2.de=0→∀ x∈p.1,rsz x≤p.2.at'
theorem rels_next {T:List Tk} (hT:OkTk T) {r0 r:Rd} (hp0:Pre T 12 r0) {l:List Rl} (h:RsSt T r0 (l,r)) :
  ((relP T r).1.2=true→RsSt T r0 (l++[(relP T r).1.1],(relP T r).2)∧r.at'+1≤(relP T r).2.at')∧RsSt T r0 (l,(relP T r).2):=by
 have hp:=h.st.pre hp0
 obtain ⟨h1,h2,h3⟩:=rel_ok hT hp
 have h5:=h.len
 have h6:=h1.mono
 dsimp only at h1 h5 h6 hp
 refine ⟨fun hf=>⟨⟨(h.st.trans h1).le (by omega),?_,fun x hx=>?_,fun h0 x hx=>?_⟩,h3 hf⟩,⟨(h.st.trans h1).le (by omega),by dsimp only;omega,h.ok,fun h0 x hx=>?_⟩⟩
 ·have:=h3 hf
  dsimp only at this
  simp only [List.length_append,List.length_cons,List.length_nil]
  omega
 ·rcases List.mem_append.1 hx with hx | hx
  ·exact h.ok x hx
  ·rw [List.mem_singleton.1 hx];exact h2
 ·dsimp only at h0 ⊢
  rcases List.mem_append.1 hx with hx | hx
  ·have:=h.sz (h1.fault h0) x hx
   dsimp only at this
   omega
  ·rw [List.mem_singleton.1 hx]
   have:=h1.sz h0
   rw [if_pos hf] at this
   omega
 ·dsimp only at h0 ⊢
  have:=h.sz (h1.fault h0) x hx
  dsimp only at this
  omega
theorem relsL_ok {T:List Tk} (hT:OkTk T) {r0:Rd} (hp0:Pre T 12 r0):∀ {f:Nat} {p:List Rl×Rd},RsSt T r0 p→RsSt T r0 (q39 T f p)
 | 0,p,h=>h
 | f+1,(l,r),h=>by
  obtain ⟨k1,k2⟩:=rels_next hT hp0 h
  unfold q39
  split
  ·rename_i hi
   exact relsL_ok hT hp0 (k1 hi).1
  ·exact k2
theorem relsL_more {T:List Tk} (hT:OkTk T) {r0:Rd} (hp0:Pre T 12 r0):∀ {f g:Nat} {p:List Rl×Rd},RsSt T r0 p→T.length≤f+p.2.at'→T.length≤g+p.2.at'→q39 T f p=q39 T g p
 | 0,g,p,h,h1,h2=>by have h3:p.2.at'<T.length:=h.st.inr;omega
 | f+1,0,p,h,h1,h2=>by have h3:p.2.at'<T.length:=h.st.inr;omega
 | f+1,g+1,(l,r),h,h1,h2=>by
  dsimp only at h1 h2
  obtain ⟨k1,k2⟩:=rels_next hT hp0 h
  unfold q39
  split
  ·rename_i hi
   obtain ⟨k3,k4⟩:=k1 hi
   exact relsL_more hT hp0 k3 (by dsimp only;omega) (by dsimp only;omega)
  ·rfl
structure TsSt (T:List Tk) (p:List Ty×Rd):Prop where
 pre:Pre T 12 p.2
 len:p.1.length≤p.2.at'
 ok:∀ t∈p.1,OkT t
 sz:p.2.de=0→∀ t∈p.1,∀ x∈t.rels,rsz x≤p.2.at'
theorem q6u {T:List Tk} (hT:OkTk T) {l:List Ty} {r:Rd} (h:TsSt T (l,r)) (hi:isP T q1w r=true) :
  Pre T 12 (isR T q1w r)∧Pre T 12 (q0i T (isR T q1w r))∧RsSt T (q0i T (isR T q1w r)) (q39 T T.length ([],q0i T (isR T q1w r))) ∧
  TsSt T (l++[⟨q27 T (isR T q1w r),(q39 T T.length ([],q0i T (isR T q1w r))).1⟩],(q39 T T.length ([],q0i T (isR T q1w r))).2)∧r.at'+1≤(q39 T T.length ([],q0i T (isR T q1w r))).2.at':=by
 have hp:Pre T 12 r:=h.pre
 have h1:=q25 hT hp hi (by decide +kernel) (by decide +kernel)
 have hp1:=h1.pre hp
 have h2:=q1n hT hp1
 have hp2:=h2.pre hp1
 have e1:(isR T q1w r).at'=r.at'+1:=by rw [isR,if_pos hi]
 have hR:=relsL_ok hT hp2 (f:=T.length) (p:=([],q0i T (isR T q1w r))) ⟨StepR.refl hp2,Nat.zero_le _,fun x hx=>(by cases hx),fun _ x hx=>(by cases hx)⟩
 have hn:=q28 hT hp1.inr
 generalize q39 T T.length ([],q0i T (isR T q1w r))=p at hR
 obtain ⟨rs,r3⟩:=p
 have m1:=h2.mono
 have m2:=hR.st.mono
 have m3:=hR.len
 have m4:=h.len
 have hin:r3.at'<T.length:=hR.st.inr
 have hTl:=hT.len
 dsimp only at m2 m3 m4 ⊢
 refine ⟨hp1,hp2,hR,⟨hR.st.pre hp2,?_,fun t ht=>?_,fun h0 t ht x hx=>?_⟩,by omega⟩
 ·simp only [List.length_append,List.length_cons,List.length_nil];omega
 ·rcases List.mem_append.1 ht with ht | ht
  ·exact h.ok t ht
  ·rw [List.mem_singleton.1 ht]
   exact ⟨hn,by dsimp only;omega,hR.ok⟩
 ·dsimp only at h0 ⊢
  rcases List.mem_append.1 ht with ht | ht
  ·have:=h.sz (h1.fault (h2.fault (hR.st.fault h0))) t ht x hx
   dsimp only at this
   omega
  ·rw [List.mem_singleton.1 ht] at hx
   exact hR.sz h0 x hx
theorem typesL_ok {T:List Tk} (hT:OkTk T):∀ {f:Nat} {p:List Ty×Rd},TsSt T p→TsSt T (q1z T f p)
 | 0,p,h=>h
 | f+1,(l,r),h=>by
  unfold q1z
  split
  ·rename_i hi
   exact typesL_ok hT (q6u hT h hi).2.2.2.1
  ·exact h
theorem typesL_more {T:List Tk} (hT:OkTk T):∀ {f g:Nat} {p:List Ty×Rd},TsSt T p→T.length≤f+p.2.at'→T.length≤g+p.2.at'→q1z T f p=q1z T g p
 | 0,g,p,h,h1,h2=>by have h3:p.2.at'<T.length:=h.pre.inr;omega
 | f+1,0,p,h,h1,h2=>by have h3:p.2.at'<T.length:=h.pre.inr;omega
 | f+1,g+1,(l,r),h,h1,h2=>by
  dsimp only at h1 h2
  unfold q1z
  split
  ·rename_i hi
   obtain ⟨-,-,-,k3,k4⟩:=q6u hT h hi
   exact typesL_more hT k3 (by dsimp only;omega) (by dsimp only;omega)
  ·rfl
theorem pre0 {T:List Tk} (h:0<T.length):Pre T 12 rd0:=⟨h,by decide,by decide,fun _=>by decide⟩
theorem ts0 {T:List Tk} (h:0<T.length):TsSt T ([],rd0):=⟨pre0 h,Nat.zero_le _,fun t ht=>(by cases ht),fun _ t ht=>(by cases ht)⟩
theorem end_step {T:List Tk} {r:Rd} (hp:Pre T 12 r):StepR T r (endR T r) 0:=by
 unfold endR
 split
 ·exact q6e _ (by decide) 0 (StepR.refl hp)
 ·exact StepR.refl hp
theorem parseT_ok {T:List Tk} (hT:OkTk T) (h:0<T.length):OkS (q60 T).1∧∀ t∈(q60 T).1,∀ x∈t.rels,rsz x≤T.length:=by
 have hR:=typesL_ok hT (f:=T.length) (ts0 h)
 have hin:(q1z T T.length ([],rd0)).2.at'<T.length:=hR.pre.inr
 have hl:=hR.len
 have hTl:=hT.len
 unfold q60
 split
 ·rename_i h0
  refine ⟨⟨by dsimp only;omega,hR.ok⟩,fun t ht x hx=>?_⟩
  have:=hR.sz ((end_step hR.pre).fault h0) t ht x hx
  omega
 ·exact ⟨⟨Nat.zero_le _,fun t ht=>(by cases ht)⟩,fun t ht=>(by cases ht)⟩
set_option maxRecDepth 4000
def Apart (u v:AV):Prop:=∀ b off n cap,v=.own b off n cap→q0l u b
theorem LstN.keep {S0 S S':q00} {t sz:Nat} {u u' v:AV} {rows:List (List AV)} (h:LstN S0 S t sz v rows) (ha:Apart u v) (hk:∀ c o,sget S c=some o→q0l u c→sget S' c=some o∧q0l u' c):LstN S0 S' t sz v rows∧Apart u' v:=by
 obtain ⟨hr,⟨rfl,rfl⟩ | ⟨b,cap,rfl,h1,h2,h3⟩⟩:=h
 ·exact ⟨.nil,fun b off n cap h=>by cases h⟩
 ·obtain ⟨k1,k2⟩:=hk b _ h2 (ha b 0 _ _ rfl)
  exact ⟨⟨hr,.inr ⟨b,cap,rfl,h1,k1,h3⟩⟩,fun b' off n cap h=>by cases h;exact k2⟩
theorem Apart.symm {u v:AV} (h:Apart u v):Apart v u:=fun b off n cap hu b' off' n' cap' hv=>Ne.symm (h b' off' n' cap' hv b off n cap hu)
theorem apart_nils {v:AV}:Apart .nils v:=fun b off n cap _=>q2y
structure PrI (S:q00) (bR b2 b3 b5:Nat) (T:List Tk) (v:AV) (p:List Ty×Rd) (S':q00):Prop where
 rd:sget S' bR=some (rdO T p.2)
 c2:sget S' b2=some (.cells 24 [.nils] 1)
 c3:sget S' b3=some (.cells 82 [.int .i64 0,.int .i64 0,.int .i64 0] 3)
 c5:sget S' b5=some (.cells 24 [v] 1)
 lst:LstN S S' 46 2 v (p.1.map tyC)
 asd:∀ c∈[bR,b2,b3,b5],q0l v c
 sub:Sub S S'
theorem PrI.mv {S S':q00} {bR b2 b3 b5:Nat} {T:List Tk} {v:AV} {l:List Ty} {r:Rd} (h:PrI S bR b2 b3 b5 T v (l,r) S') (hd:[bR,b2,b3,b5].Nodup) (hR:sget S bR=none) (r':Rd):PrI S bR b2 b3 b5 T v (l,r') (supd S' bR (rdO T r')):=by
 simp only [List.nodup_cons,List.mem_cons,not_or,List.not_mem_nil,or_false,not_false_eq_true,List.nodup_nil,and_true] at hd
 obtain ⟨⟨n2,n3,n5⟩,⟨m3,m5⟩,l5⟩:=hd
 exact ⟨by rw [q01,if_pos rfl],by rw [q01,if_neg n2];exact h.c2,by rw [q01,if_neg n3];exact h.c3,by rw [q01,if_neg n5];exact h.c5,h.lst.upd (h.asd bR (by simp)) _,h.asd,h.sub.supd hR⟩
structure PrJ (S:q00) (bR b2 b3 b5 b6:Nat) (T:List Tk) (v u:AV) (nm:ByteArray) (l:List Ty) (p:List Rl×Rd) (S':q00):Prop where
 out:PrI S bR b2 b3 b5 T v (l,p.2) S'
 c6:sget S' b6=some (.cells 46 [.str nm,u] 2)
 ins:LstN S S' 53 6 u (p.1.map rlC)
 asd:∀ c∈[bR,b2,b3,b5,b6],q0l u c
 asd6:q0l v b6
 apt:Apart u v
theorem PrJ.mv {S S':q00} {bR b2 b3 b5 b6:Nat} {T:List Tk} {v u:AV} {nm:ByteArray} {l:List Ty} {rs:List Rl} {r:Rd} (h:PrJ S bR b2 b3 b5 b6 T v u nm l (rs,r) S') (hd:[bR,b2,b3,b5].Nodup) (h6:bR≠b6) (hR:sget S bR=none) (r':Rd):PrJ S bR b2 b3 b5 b6 T v u nm l (rs,r') (supd S' bR (rdO T r')):=
 ⟨h.out.mv hd hR r',by rw [q01,if_neg h6];exact h.c6,h.ins.upd (h.asd bR (by simp)) _,h.asd,h.asd6,h.apt⟩
theorem PrJ.more {S S1:q00} {bR b2 b3 b5 b6:Nat} {T:List Tk} {v u:AV} {nm:ByteArray} {l:List Ty} {rs:List Rl} {r:Rd} (h:PrJ S bR b2 b3 b5 b6 T v u nm l (rs,r) S1) (hd6:∀ c∈[bR,b2,b3,b5],b6≠c) (k6:sget S b6=none) (x:Rl) (hlen:rs.length≤100000) {K:q00→Prop} (hK:∀ u' S3,PrJ S bR b2 b3 b5 b6 T v u' nm l (rs++[x],r) S3→K S3) :
  apW S1 53 6 104 u (.sl 6 [rlC x]) fun u' S2=>soW (q0f S2 b6) S2 1 b6 1 u' K:=by
 obtain ⟨⟨hrd,h2,h3,h5,hl,ha,hs⟩,hc6,hin,hau,ha6,hap⟩:=h
 dsimp only at hrd hl hin
 refine hin.app hs (xs:=[rlC x]) (fun r hr=>by rw [List.mem_singleton] at hr;subst hr;exact rlC_len x) (by rw [q0u];rfl) (by simp;omega) ?_
 intro u' S2 k1 k2 k3
 obtain ⟨q6,q6a⟩:=k3 b6 _ hc6 (hau b6 (by simp))
 have hone:=k2.one
 have hac:q09 u'=[u']:=by cases u'<;>first | rfl | cases hone
 obtain ⟨j1,j2⟩:=hl.keep hap k3
 rw [objAt_some.2 q6,q2s,hac]
 refine ⟨rfl,by simp,by simp [ones,hone],hK u' _ ⟨⟨?_,?_,?_,?_,j1.upd ha6 _,ha,k1.supd k6⟩,by rw [q01,if_pos rfl];rfl,?_,fun c hc=>?_,ha6,j2⟩⟩
 ·rw [q01,if_neg (hd6 bR (by simp))];exact (k3 bR _ hrd (hau bR (by simp))).1
 ·rw [q01,if_neg (hd6 b2 (by simp))];exact (k3 b2 _ h2 (hau b2 (by simp))).1
 ·rw [q01,if_neg (hd6 b3 (by simp))];exact (k3 b3 _ h3 (hau b3 (by simp))).1
 ·rw [q01,if_neg (hd6 b5 (by simp))];exact (k3 b5 _ h5 (hau b5 (by simp))).1
 ·simpa using k2.upd q6a _
 ·simp only [List.mem_cons,List.not_mem_nil,or_false] at hc
  rcases hc with rfl | rfl | rfl | rfl | rfl
  ·exact (k3 _ _ hrd (hau _ (by simp))).2
  ·exact (k3 _ _ h2 (hau _ (by simp))).2
  ·exact (k3 _ _ h3 (hau _ (by simp))).2
  ·exact (k3 _ _ h5 (hau _ (by simp))).2
  ·exact q6a
theorem Frs.app {S0 S:q00}:∀ {a a' b b':List AV},Frs S0 S a a'→Frs S0 S b b'→Frs S0 S (a++b) (a'++b')
 | [],[],b,b',_,h=>h
 | [],x :: r,b,b',h,_=>by cases h.1
 | x :: r,[],b,b',h,_=>by cases h.1
 | x :: r,y :: r',b,b',h,k=>.cons (h.2 0 x y rfl rfl) (Frs.app ⟨by simpa using h.1,fun i u u' h1 h2=>h.2 (i+1) u u' (by simpa using h1) (by simpa using h2)⟩ k)
theorem PrJ.typ {S S1:q00} {bR b2 b3 b5 b6:Nat} {T:List Tk} {v u:AV} {nm:ByteArray} {l:List Ty} {rs:List Rl} {r:Rd} (h:PrJ S bR b2 b3 b5 b6 T v u nm l (rs,r) S1) (hd:[bR,b2,b3,b5].Nodup) (hd6:∀ c∈[bR,b2,b3,b5],b6≠c) (hn:∀ c∈[bR,b2,b3,b5],sget S c=none) (hlen:l.length≤100000) {q:LE→q00→Prop} {le:LE} (hK:∀ v' S3,PrI S bR b2 b3 b5 T v' (l++[⟨nm,rs⟩],r) S3→q le S3) :
  apW S1 46 2 40 v (.sl 2 [[.str nm,u]]) fun v' S2=>soW (q0f S2 b5) S2 1 b5 0 v' fun S3=>rcW q le S3:=by
 obtain ⟨⟨hrd,h2,h3,h5,hl,ha,hs⟩,hc6,hin,hau,ha6,hap⟩:=h
 dsimp only at hrd hl hin
 have honeu:=hin.one
 refine hl.app hs (xs:=[[.str nm,u]]) (fun r hr=>by rw [List.mem_singleton] at hr;subst hr;rfl) (by simp [ones,honeu];rfl) (by simp;omega) ?_
 intro v' S2 k1 k2 k3
 obtain ⟨q5,q5a⟩:=k3 b5 _ h5 (ha b5 (by simp))
 obtain ⟨qR,qRa⟩:=k3 bR _ hrd (ha bR (by simp))
 obtain ⟨q2,q2a⟩:=k3 b2 _ h2 (ha b2 (by simp))
 obtain ⟨q3,q3a⟩:=k3 b3 _ h3 (ha b3 (by simp))
 obtain ⟨j1,j2⟩:=hin.keep hap.symm k3
 have hone:=k2.one
 have hac:q09 v'=[v']:=by cases v'<;>first | rfl | cases hone
 rw [objAt_some.2 q5,q2s,hac]
 refine ⟨rfl,by simp,by simp [ones,hone],?_⟩
 simp only [List.nodup_cons,List.mem_cons,not_or,List.not_mem_nil,or_false,not_false_eq_true,List.nodup_nil,and_true] at hd
 obtain ⟨⟨n2,n3,n5⟩,⟨m3,m5⟩,l5⟩:=hd
 obtain ⟨hr,⟨rfl,h0⟩ | ⟨bv,cap,rfl,e1,e2,e3,e4,e5⟩⟩:=k2
 ·simp at h0
 have dR:=qRa bv 0 _ _ rfl
 have d2:=q2a bv 0 _ _ rfl
 have d3:=q3a bv 0 _ _ rfl
 have d5:=q5a bv 0 _ _ rfl
 let S0:q00:=supd (supd (supd (supd S bR (rdO T r)) b2 (.cells 24 [.nils] 1)) b3 (.cells 82 [.int .i64 0,.int .i64 0,.int .i64 0] 3)) b5 (.cells 24 [.own bv 0 ((l.map tyC)++[[.str nm,u]]).length cap] 1)
 have hS0:Sub S0 (supd S2 b5 (.cells 24 [.own bv 0 ((l.map tyC)++[[.str nm,u]]).length cap] 1)):=by
  intro x y hx
  rw [q01] at hx ⊢
  by_cases g5:b5=x
  ·rw [if_pos g5] at hx ⊢;exact hx
  rw [if_neg g5] at hx ⊢
  rw [q01] at hx
  by_cases g3:b3=x
  ·rw [if_pos g3] at hx;rw [← g3,q3];exact hx
  rw [if_neg g3,q01] at hx
  by_cases g2:b2=x
  ·rw [if_pos g2] at hx;rw [← g2,q2];exact hx
  rw [if_neg g2,q01] at hx
  by_cases gR:bR=x
  ·rw [if_pos gR] at hx;rw [← gR,qR];exact hx
  rw [if_neg gR] at hx
  exact k1 x y hx
 have hv0:sget S0 bv=none:=by
  show sget (supd _ _ _) bv=none
  rw [q01,if_neg d5,q01,if_neg d3,q01,if_neg d2,q01,if_neg dR]
  exact e1
 have hvc:sget (supd S2 b5 (.cells 24 [.own bv 0 ((l.map tyC)++[[.str nm,u]]).length cap] 1)) bv=some (.cells 46 ((l.map tyC)++[[.str nm,u]]).flatten (cap * 2)):=by
  rw [q01,if_neg d5];exact e2
 have hcs:((l.map tyC)++[[.str nm,u]]).flatten=(l.map tyC).flatten++[.str nm,u]:=by simp
 have hcs':((l++[(⟨nm,rs⟩:Ty)]).map tyC).flatten=(l.map tyC).flatten++[.str nm,.sl 6 (rs.map rlC)]:=by simp [tyC]
 have hlen':((l++[(⟨nm,rs⟩:Ty)]).map tyC).length=((l.map tyC)++[[.str nm,u]]).length:=by simp
 refine rcW_cells (cs':=((l++[(⟨nm,rs⟩:Ty)]).map tyC).flatten) hS0 hv0 hvc ?_ (hK (.own bv 0 ((l.map tyC)++[[.str nm,u]]).length cap) _ ⟨?_,?_,?_,?_,⟨fun r hr=>?_,.inr ⟨bv,cap,by rw [hlen'],e1,by rw [q01,if_pos rfl],by rw [hlen'];exact e3,e4,by rw [hlen'];exact e5⟩⟩,fun c hc=>?_,?_⟩)
 ·rw [hcs,hcs']
  refine Frs.app (Frs.same _) (.cons (.same _) (.cons (Fr.lst (t:=53) ?_) .nil))
  obtain ⟨g1,⟨rfl,g2⟩ | ⟨bu,capu,rfl,f1,f2,f3⟩⟩:=j1
  ·exact ⟨g1,.inl ⟨rfl,g2⟩⟩
  ·refine ⟨g1,.inr ⟨bu,capu,rfl,?_,?_,f3⟩⟩
   ·have w5:=hau b5 (by simp) bu 0 _ _ rfl
    have w3:=hau b3 (by simp) bu 0 _ _ rfl
    have w2:=hau b2 (by simp) bu 0 _ _ rfl
    have wR:=hau bR (by simp) bu 0 _ _ rfl
    have wv:=j2 bu 0 _ _ rfl bv 0 _ _ rfl
    rw [q01,if_neg (Ne.symm wv)]
    show sget (supd _ _ _) bu=none
    rw [q01,if_neg w5,q01,if_neg w3,q01,if_neg w2,q01,if_neg wR]
    exact f1
   ·have w5:=hau b5 (by simp) bu 0 _ _ rfl
    rw [q01,if_neg w5];exact f2
 ·rw [q01,if_neg (Ne.symm dR)]
  show sget (supd _ _ _) bR=_
  rw [q01,if_neg (Ne.symm n5),q01,if_neg (Ne.symm n3),q01,if_neg (Ne.symm n2),q01,if_pos rfl]
 ·rw [q01,if_neg (Ne.symm d2)]
  show sget (supd _ _ _) b2=_
  rw [q01,if_neg (Ne.symm m5),q01,if_neg (Ne.symm m3),q01,if_pos rfl]
 ·rw [q01,if_neg (Ne.symm d3)]
  show sget (supd _ _ _) b3=_
  rw [q01,if_neg (Ne.symm l5),q01,if_pos rfl]
 ·rw [q01,if_neg (Ne.symm d5)]
  show sget (supd _ _ _) b5=_
  rw [q01,if_pos rfl]
 ·obtain ⟨t,-,rfl⟩:=List.mem_map.1 hr
  rfl
 ·simp only [List.mem_cons,List.not_mem_nil,or_false] at hc
  rcases hc with rfl | rfl | rfl | rfl
  ·exact qRa
  ·exact q2a
  ·exact q3a
  ·exact q5a
 ·have s1:=(Sub.refl S).supd (o:=rdO T r) (hn bR (by simp))
  exact (((((Sub.refl S).supd (hn bR (by simp))).supd (hn b2 (by simp))).supd (hn b3 (by simp))).supd (hn b5 (by simp))).supd e1
theorem tokL_ne:∀ {f:Nat} {l:List UInt8} {a b:Nat},l.length<f→tokL f l a b≠[]
 | 0,l,a,b,h=>by omega
 | f+1,[],a,b,h=>by simp [tokL]
 | f+1,c :: r,a,b,h=>by
  unfold tokL
  simp only [List.length_cons] at h
  split
  ·exact tokL_ne (by omega)
  ·split
   ·split<;>simp
   ·simp
theorem tokT_pos (s:ByteArray):0<(tokT s).length:=List.length_pos_iff.2 (tokL_ne (by rw [q4o];omega))
def q3y (s:ByteArray):List Ty×AV:=if 4096<s.size then ([],.agg [.int .i64 1,.int .i64 1,.int .i64 2]) else q60 (tokT s)
theorem c_Parse (s:ByteArray):AFun PG nrx44 [.str s] (.tup [scA (q3y s).1,(q3y s).2]):=by
 intro S
 refine wx44 ?_
 unfold Bx44
 intro b2 hb2
 (try simp only [rwp,hwR,zA,zB,zC,zD,zE,zF,zG,zH,zI])
 intro b3 hb3
 have n23:b3≠b2:=q0h hb3 (x:=.cells 24 [.nils] 1) (by rw [q01,if_pos rfl])
 have k3:sget S b3=none:=by rw [q01,if_neg (Ne.symm n23)] at hb3;exact hb3
 (try simp only [rwp,hwR,zA,zB,zC,zD,zE,zF,zG,zH,zI,if_neg n23,if_neg (Ne.symm n23)])
 (refine q04 (fun hl=>?_) (fun hl=>?_)<;>(try simp only [hlc] at hl))
 ·have hpf:q3y s=([],.agg [.int .i64 1,.int .i64 1,.int .i64 2]):=by rw [q3y,if_pos (by omega)]
  rw [hpf]
  refine rtW_fr S (.tup [scA [],.agg [.int .i64 1,.int .i64 1,.int .i64 2]]) (((((Sub.refl S).supd hb2).supd k3).supd hb2).supd k3) ?_ ⟨rfl,rfl⟩
  (try simp only [rwp,hwR,zA,zB,zC,zD,zE,zF,zG,zH,zI,if_neg n23,if_neg (Ne.symm n23)])
  exact .tu (.cons (.ag (.cons (.nils 2) .nil)) (.cons (.same _) .nil))
 have hs:s.size≤4096:=by omega
 have hT:=tokT_ok hs
 have hTl:=hT.len
 have hpf:q3y s=q60 (tokT s):=by rw [q3y,if_neg (by omega)]
 refine q06 (c_Tokens hs) ?_
 have hpos:=tokT_pos s
 rw [hpf]
 generalize tokT s=T at hT hpos hTl ⊢
 clear hpf hl hs
 (try simp only [rwp,hwR,zA,zB,zC,zD,zE,zF,zG,zH,zI])
 refine ⟨rfl,rfl,fun bR hbR=>?_⟩
 have nR2:bR≠b2:=q0h hbR (x:=.cells 24 [.nils] 1) (by rw [q01,if_neg n23,q01,if_pos rfl])
 have nR3:bR≠b3:=q0h hbR (x:=.cells 82 [.int .i64 0,.int .i64 0,.int .i64 0] 3) (by rw [q01,if_pos rfl])
 have kR:sget S bR=none:=by rw [q01,if_neg (Ne.symm nR3),q01,if_neg (Ne.symm nR2)] at hbR;exact hbR
 intro b5 hb5
 have n52:b5≠b2:=q0h hb5 (x:=.cells 24 [.nils] 1) (by rw [q01,if_neg nR2,q01,if_neg n23,q01,if_pos rfl])
 have n53:b5≠b3:=q0h hb5 (x:=.cells 82 [.int .i64 0,.int .i64 0,.int .i64 0] 3) (by rw [q01,if_neg nR3,q01,if_pos rfl])
 have n5R:b5≠bR:=by
  rintro rfl
  rw [q01,if_pos rfl] at hb5;cases hb5
 have k5:sget S b5=none:=by rw [q01,if_neg (Ne.symm n5R),q01,if_neg (Ne.symm n53),q01,if_neg (Ne.symm n52)] at hb5;exact hb5
 have hd:[bR,b2,b3,b5].Nodup:=by
  simp only [List.nodup_cons,List.mem_cons,not_or,List.not_mem_nil,or_false,not_false_eq_true,List.nodup_nil,and_true]
  exact ⟨⟨nR2,nR3,Ne.symm n5R⟩,⟨Ne.symm n23,Ne.symm n52⟩,Ne.symm n53⟩
 have hn:∀ c∈[bR,b2,b3,b5],sget S c=none:=by
  intro c hc
  simp only [List.mem_cons,List.not_mem_nil,or_false] at hc
  rcases hc with rfl | rfl | rfl | rfl<;>assumption
 (try simp only [rwp,hwR,zA,zB,zC,zD,zE,zF,zG,zH,zI])
 have hI0:PrI S bR b2 b3 b5 T .nils ([],rd0) (supd (supd (supd (supd S b2 (.cells 24 [.nils] 1)) b3 (.cells 82 [.int .i64 0,.int .i64 0,.int .i64 0] 3)) bR (rdO T rd0)) b5 (.cells 24 [.nils] 1)):=by
  refine ⟨?_,?_,?_,?_,.nil,fun c _=>q2y,((((Sub.refl S).supd hb2).supd k3).supd kR).supd k5⟩<;>simp [q01,n23,nR2,nR3,n52,n53,n5R,Ne.symm n23,Ne.symm nR2,Ne.symm nR3,Ne.symm n52,Ne.symm n53,Ne.symm n5R]
 have hfin:q1z T T.length ([],rd0)=q1z T T.length ([],rd0):=rfl
 have hts:=ts0 (T:=T) hpos
 refine LoopP.introS (fun _:List Ty×Rd=>[(2,.ptr b2 0),(3,.ptr b3 0),(4,.ptr bR 0),(5,.ptr b5 0)])
  (fun p S'=>(∃ v,PrI S bR b2 b3 b5 T v p S')∧TsSt T p∧q1z T T.length p=q1z T T.length ([],rd0)) (fun p=>T.length-p.2.at') ([],rd0) ⟨⟨.nils,hI0⟩,hts,rfl⟩ rfl ?_
 clear hI0 hts hfin
 rintro ⟨l,r⟩ S1 ⟨⟨v,hI⟩,hTs,hf⟩ q hq
 have hp:Pre T 12 r:=hTs.pre
 have hin:r.at'<T.length:=hp.inr
 have hrd:=hI.rd
 have hll:=hTs.len
 dsimp only at hrd hll
 (try simp only [rwp,hwR,zA,zB,zC,zD,zE,zF,zG,zH,zI,C44_1])
 refine (c_is hT hp.inr q1w).ca hrd ?_
 cases hi:isP T q1w r with
 | true=>
  obtain ⟨hp1,hp2,hR,hTs2,hmu⟩:=q6u hT hTs hi
  have hf2:q1z T T.length (l++[⟨q27 T (isR T q1w r),(q39 T T.length ([],q0i T (isR T q1w r))).1⟩],(q39 T T.length ([],q0i T (isR T q1w r))).2)=q1z T T.length ([],rd0):=by
   rw [← hf]
   obtain ⟨m,hm⟩:∃ m,T.length=m+1:=⟨T.length-1,by omega⟩
   conv=>rhs;rw [hm,q1z,if_pos hi]
   exact typesL_more hT hTs2 (by dsimp only;omega) (by dsimp only;omega)
  (try simp only [rwp,hwR,zA,zB,zC,zD,zE,zF,zG,zH,zI])
  refine (c_name hT hp1.inr).ca q13 ?_
  (try simp only [rwp,hwR,zA,zB,zC,zD,zE,zF,zG,zH,zI])
  have hI2:=(hI.mv hd kR (isR T q1w r)).mv hd kR (q0i T (isR T q1w r))
  rw [q0q] at hI2
  generalize q27 T (isR T q1w r)=nm at hf2 hTs2 ⊢
  have hI2':PrI S bR b2 b3 b5 T v (l,q0i T (isR T q1w r)) (supd S1 bR (rdO T (q0i T (isR T q1w r)))):=hI2
  clear hI2
  generalize supd S1 bR (rdO T (q0i T (isR T q1w r)))=S2 at hI2' ⊢
  generalize q0i T (isR T q1w r)=r2 at hI2' hp2 hR hf2 hTs2 hmu
  intro b6 hb6
  (try simp only [rwp,hwR,zA,zB,zC,zD,zE,zF,zG,zH,zI])
  have hd6:∀ c∈[bR,b2,b3,b5],b6≠c:=by
   intro c hc
   simp only [List.mem_cons,List.not_mem_nil,or_false] at hc
   rcases hc with rfl | rfl | rfl | rfl
   ·exact q0h hb6 hI2'.rd
   ·exact q0h hb6 hI2'.c2
   ·exact q0h hb6 hI2'.c3
   ·exact q0h hb6 hI2'.c5
  have k6:=Sub.none hI2'.sub hb6
  have hJ0:PrJ S bR b2 b3 b5 b6 T v .nils nm l ([],r2) (supd S2 b6 (.cells 46 [.str nm,.nils] 2)):=by
   have a6:=hI2'.lst.fresh hb6
   refine ⟨⟨?_,?_,?_,?_,hI2'.lst.upd a6 _,hI2'.asd,hI2'.sub.supd k6⟩,by rw [q01,if_pos rfl],.nil,fun c _=>q2y,a6,apart_nils⟩
   ·rw [q01,if_neg (hd6 bR (by simp))];exact hI2'.rd
   ·rw [q01,if_neg (hd6 b2 (by simp))];exact hI2'.c2
   ·rw [q01,if_neg (hd6 b3 (by simp))];exact hI2'.c3
   ·rw [q01,if_neg (hd6 b5 (by simp))];exact hI2'.c5
  have hRs0:RsSt T r2 ([],r2):=⟨StepR.refl hp2,Nat.zero_le _,fun x hx=>(by cases hx),fun _ x hx=>(by cases hx)⟩
  refine LoopP.introS (fun _:List Rl×Rd=>[(2,.ptr b2 0),(3,.ptr b3 0),(4,.ptr bR 0),(5,.ptr b5 0),(6,.ptr b6 0)])
   (fun p S'=>(∃ u,PrJ S bR b2 b3 b5 b6 T v u nm l p S')∧RsSt T r2 p∧q39 T T.length p=q39 T T.length ([],r2)) (fun p=>T.length-p.2.at') ([],r2) ⟨⟨.nils,hJ0⟩,hRs0,rfl⟩ rfl ?_
  clear hJ0 hRs0 hI2'
  rintro ⟨rs,r3⟩ S3 ⟨⟨u,hJ⟩,hRs,hfr⟩ q2 hq2
  have hp3:=hRs.st.pre hp2
  have hin3:r3.at'<T.length:=hp3.inr
  have hlr:=hRs.len
  dsimp only at hlr
  obtain ⟨k1,k2⟩:=rels_next hT hp2 hRs
  (try simp only [rwp,hwR,zA,zB,zC,zD,zE,zF,zG,zH,zI,C44_4])
  refine (c_rel hT hp3).ca hJ.out.rd ?_
  have hJ2:=hJ.mv hd (Ne.symm (hd6 bR (by simp))) kR (relP T r3).2
  have o6:=objAt_some.2 hJ2.c6
  have o5:=objAt_some.2 hJ2.out.c5
  cases hok:(relP T r3).1.2 with
  | true=>
   obtain ⟨k3',k4⟩:=k1 hok
   have hfr2:q39 T T.length (rs++[(relP T r3).1.1],(relP T r3).2)=q39 T T.length ([],r2):=by
    rw [← hfr]
    obtain ⟨m,hm⟩:∃ m,T.length=m+1:=⟨T.length-1,by omega⟩
    conv=>rhs;rw [hm,q39,if_pos hok]
    exact relsL_more hT hp2 k3' (by dsimp only;omega) (by dsimp only;omega)
   have hmr:=hJ2.more hd6 k6 (relP T r3).1.1 (by omega) (K:=fun S4=>rcW q2 [(2,.ptr b2 0),(3,.ptr b3 0),(4,.ptr bR 0),(5,.ptr b5 0),(6,.ptr b6 0)] S4) fun u' S4 hJ4=>q0a rfl (hq2 (rs++[(relP T r3).1.1],(relP T r3).2) S4 ⟨⟨u',hJ4⟩,k3',hfr2⟩ (by dsimp only;omega))
   simp only [q0u] at hmr
   (try simp only [rwp,hwR,zA,zB,zC,zD,zE,zF,zG,zH,zI,q0u,q07 o6,q15])
   exact hmr
  | false=>
   have hstop:q39 T T.length (rs,r3)=(rs,(relP T r3).2):=by
    obtain ⟨m,hm⟩:∃ m,T.length=m+1:=⟨T.length-1,by omega⟩
    rw [hm,q39,if_neg (by rw [hok];simp)]
   rw [hstop] at hfr
   rw [← hfr] at hf2 hTs2 hmu
   have hone:=hJ2.ins.one
   have htp:=hJ2.typ hd hd6 hn (by omega) (q:=q) (le:=[(2,.ptr b2 0),(3,.ptr b3 0),(4,.ptr bR 0),(5,.ptr b5 0)]) fun v' S4 hI4=>hq (l++[⟨nm,rs⟩],(relP T r3).2) S4 ⟨⟨v',hI4⟩,hTs2,hf2⟩ (by dsimp only at hmu ⊢;omega)
   dsimp only
   (try simp only [rwp,hwR,zA,zB,zC,zD,zE,zF,zG,zH,zI,q0u,q07 o6,q07 o5,q15])
   exact htp
 | false=>
  rw [q7v hi,q0n hrd]
  have hstop:q1z T T.length (l,r)=(l,r):=by
   cases T.length with
   | zero=>rfl
   | succ m=>rw [q1z,if_neg (by rw [hi];simp)]
  rw [hstop] at hf
  have ho:=q70 hrd
  (try simp only [rwp,hwR,zA,zB,zC,zD,zE,zF,zG,zH,zI,q07 ho])
  have fin:∀ S2,PrI S bR b2 b3 b5 T v (l,endR T r) S2→C44_3 (fun ae S'=>ae=.ret (.tup [scA (q60 T).1,(q60 T).2])∧S'=S) (.ptr b2 0) (.ptr b3 0) (.ptr bR 0) (.ptr b5 0) S2:=by
   intro S2 hI2
   have hr2:=q70 hI2.rd
   have o2:=objAt_some.2 hI2.c2
   have o3:=objAt_some.2 hI2.c3
   have o5:=objAt_some.2 hI2.c5
   have hone:=hI2.lst.one
   have hac:q09 v=[v]:=by cases v<;>first | rfl | cases hone
   unfold C44_3
   (try simp only [rwp,hwR,zA,zB,zC,zD,zE,zF,zG,zH,zI,q07 hr2])
   have hpt:q60 T=if (endR T r).de=0 then (l,.agg [.int .i64 0,.int .i64 0,.int .i64 0]) else ([],.agg [.int .i64 (endR T r).dl,.int .i64 (endR T r).dc,.int .i64 (endR T r).de]):=by
    rw [q60,← hf]
   have nR2':b2≠bR:=Ne.symm nR2
   have n32:=Ne.symm n23
   (refine q04 (fun hde=>?_) (fun hde=>?_)<;>(try simp only [hlc] at hde))
   ·rw [if_neg hde] at hpt
    rw [hpt]
    (try simp only [rwp,hwR,zA,zB,zC,zD,zE,zF,zG,zH,zI,o2])
    refine kpW_one (by rw [q01,if_neg nR2']) ?_
    have o3':q0f (supd S2 b2 (.cells 24 [.nils] 1)) b3=some (82,[.int .i64 0,.int .i64 0,.int .i64 0],3):=by rw [q0e n32];exact o3
    (try simp only [rwp,hwR,zA,zB,zC,zD,zE,zF,zG,zH,zI,o3',if_neg n32,o3])
    refine rtW_fr S (.tup [scA [],.agg [.int .i64 (endR T r).dl,.int .i64 (endR T r).dc,.int .i64 (endR T r).de]]) ((hI2.sub.supd hb2).supd k3) ?_ ⟨rfl,rfl⟩
    (try simp only [rwp,hwR,zA,zB,zC,zD,zE,zF,zG,zH,zI,if_neg n23,if_neg n32])
    exact .tu (.cons (.ag (.cons (.nils 2) .nil)) (.cons (.same _) .nil))
   ·rw [if_pos hde] at hpt
    rw [hpt]
    have o3':∀ x,q0f (supd S2 b2 (.cells 24 [x] 1)) b3=some (82,[.int .i64 0,.int .i64 0,.int .i64 0],3):=fun x=>by rw [q0e n32];exact o3
    (try simp only [rwp,hwR,zA,zB,zC,zD,zE,zF,zG,zH,zI,q07 o5,o2,hac,o3',ones,hone,Bool.and_true,if_neg n32,o3])
    refine rtW_fr S (.tup [scA l,.agg [.int .i64 0,.int .i64 0,.int .i64 0]]) ((hI2.sub.supd hb2).supd k3) ?_ ⟨rfl,rfl⟩
    (try simp only [rwp,hwR,zA,zB,zC,zD,zE,zF,zG,zH,zI,if_neg n23,if_neg n32])
    have a2:=hI2.asd b2 (by simp)
    have a3:=hI2.asd b3 (by simp)
    exact .tu (.cons (.ag (.cons (Fr.lst ((hI2.lst.upd a2 _).upd a3 _)) .nil)) (.cons (.same _) .nil))
  cases a1:decide (r.de=0) with
  | false=>
   (try simp only [rwp,hwR,zA,zB,zC,zD,zE,zF,zG,zH,zI,C44_2])
   refine fin S1 ?_
   have:endR T r=r:=by rw [endR,if_neg (fun h=>by rw [decide_eq_true h.1] at a1;cases a1)]
   rw [this]
   exact hI
  | true=>
   have hde:=of_decide_eq_true a1
   (try simp only [rwp,hwR,zA,zB,zC,zD,zE,zF,zG,zH,zI])
   refine (q4m hT hp.inr).ca hrd ?_
   rw [q0n hrd]
   (try simp only [rwp,hwR,zA,zB,zC,zD,zE,zF,zG,zH,zI,tkC])
   cases a2:decide ((nxP T r).s=⟨#[]⟩) with
   | true=>
    (try simp only [rwp,hwR,zA,zB,zC,zD,zE,zF,zG,zH,zI,C44_2])
    refine fin S1 ?_
    have:endR T r=r:=by rw [endR,if_neg (fun h=>h.2 (of_decide_eq_true a2))]
    rw [this]
    exact hI
   | false=>
    (try simp only [rwp,hwR,zA,zB,zC,zD,zE,zF,zG,zH,zI,C44_2])
    refine (q4m hT hp.inr).ca hrd ?_
    rw [q0n hrd]
    (try simp only [rwp,hwR,zA,zB,zC,zD,zE,zF,zG,zH,zI,tkC])
    refine (c_fail (nxP T r) 8).ca hrd ?_
    have:endR T r=q45 (nxP T r) 8 r:=by rw [endR,if_pos ⟨hde,of_decide_eq_false a2⟩]
    rw [← this]
    exact fin _ (hI.mv hd kR _)
theorem parseF_ok {s:ByteArray}:OkS (q3y s).1∧(s.size≤900→OkN (q3y s).1):=by
 unfold q3y
 split
 ·exact ⟨⟨Nat.zero_le _,fun t ht=>(by cases ht)⟩,fun _ t ht=>(by cases ht)⟩
 ·rename_i h
  have hT:=tokT_ok (s:=s) (by omega)
  have hl:=q5s (f:=s.size+1) (l:=bl s) (a:=1) (b:=1)
  rw [q4o] at hl
  obtain ⟨h1,h2⟩:=parseT_ok hT (tokT_pos s)
  refine ⟨h1,fun h t ht r hr=>?_⟩
  have:=h2 t ht r hr
  unfold tokT at this
  omega
set_option maxRecDepth 4000
def cutL (c:Int):List UInt8→Option (List UInt8×List UInt8)
 | []=>none
 | b :: r=>if (b.toNat:Int)=c then some ([],r) else (cutL c r).map fun p=>(b :: p.1,p.2)
theorem cutL_cons {c:Int} {b:UInt8} {r:List UInt8}:cutL c (b :: r)=if (b.toNat:Int)=c then some ([],r) else (cutL c r).map fun p=>(b :: p.1,p.2):=rfl
def cutF (s:ByteArray) (c:Int):ByteArray×ByteArray×Bool:=match cutL c (bl s) with
 | none=>(s,⟨#[]⟩,false)
 | some (a,b)=>(mkB a,mkB b,true)
theorem cutL_len {c:Int}:∀ {l a b:List UInt8},cutL c l=some (a,b)→a.length≤l.length∧b.length≤l.length
 | [],_,_,h=>by cases h
 | x :: r,a,b,h=>by
  unfold cutL at h
  split at h
  ·cases h;exact ⟨Nat.zero_le _,by simp⟩
  ·cases hq:cutL c r with
   | none=>rw [hq] at h;cases h
   | some p=>
    rw [hq] at h
    cases h
    obtain ⟨h1,h2⟩:=cutL_len (a:=p.1) (b:=p.2) hq
    simp only [List.length_cons]
    omega
theorem mkB_len (l:List UInt8):(mkB l).size=l.length:=by simp [mkB,ByteArray.size]
theorem q3f {s:ByteArray} {c:Int}:(cutF s c).1.size≤s.size∧(cutF s c).2.1.size≤s.size:=by
 unfold cutF
 cases h:cutL c (bl s) with
 | none=>exact ⟨Nat.le_refl _,Nat.zero_le _⟩
 | some p=>
  have:=cutL_len (a:=p.1) (b:=p.2) h
  rw [q4o] at this
  exact ⟨by rw [mkB_len];exact this.1,by rw [mkB_len];exact this.2⟩
theorem c_cut {s:ByteArray} (hs:s.size≤1125899906842624) (c:Int):AFun PG nrx133 [.str s,.int .u8 c] (.tup [.str (cutF s c).1,.str (cutF s c).2.1,.bool (cutF s c).2.2]):=by
 intro S
 refine wx133 ?_
 unfold Bx133
 have hln:=q4o s
 refine LoopP.introS (fun i:Nat=>[(0,.str s),(1,.int .u8 c),(7,.int .i64 i)]) (fun i S'=>S'=S∧i≤s.size∧cutL c (bl s)=(cutL c ((bl s).drop i)).map fun p=>((bl s).take i++p.1,p.2)) (fun i=>s.size-i) 0 ⟨rfl,by omega,by cases h:cutL c (bl s)<;>simp [h]⟩ rfl ?_
 rintro i S' ⟨rfl,hi,hc⟩ r hr
 (try simp only [rwp,zA,zB,zC,zD,zE,zF,zG,zH,zI,rwb,reduceIte,C133_1])
 (refine q04 (fun hlt=>?_) (fun hlt=>?_)<;>(try simp only [hlc] at hlt))
 ·obtain ⟨b,hb⟩:=q3x hlt
  have hb':=hb
  rw [bl_get] at hb'
  rw [q0z hb'] at hc
  rw [cutL_cons] at hc
  (try simp only [rwp,zA,zB,zC,zD,zE,zF,zG,zH,zI,rwb,reduceIte,hb])
  (refine q04 (fun hq=>?_) (fun hq=>?_)<;>(try simp only [hlc] at hq))
  ·rw [if_pos hq] at hc
   (simp (disch:=omega) only [q08])
   (try simp only [rwp,zA,zB,zC,zD,zE,zF,zG,zH,zI,rwb,reduceIte,loI,hiI,cutI])
   refine ⟨by omega,by omega,by omega,by omega,by omega,rtW_three ⟨?_,rfl⟩⟩
   unfold cutF
   rw [hc,q4z,q4z]
   simp only [Option.map_some,List.append_nil,List.drop_zero]
   rw [show ((i:Int)+1).toNat=i+1 by omega,List.take_of_length_le (by omega:(bl s).length≤s.size)]
  ·rw [if_neg hq] at hc
   (simp (disch:=omega) only [q08])
   refine q0a rfl (hr (i+1) _ ⟨rfl,by omega,?_⟩ (by omega))
   rw [hc,q14 hb']
   cases cutL c ((bl s).drop (i+1))<;>simp
 ·have e:(bl s).drop i=[]:=List.drop_eq_nil_of_le (by omega)
  rw [e] at hc
  refine rtW_three ⟨?_,rfl⟩
  unfold cutF
  rw [hc]
  rfl
abbrev nob:ByteArray:=⟨#[]⟩
def objF (s:ByteArray):Ob×Bool:=if (cutF s 58).2.2&&(q0v (cutF s 58).1&&idB (cutF s 58).2.1) then (⟨(cutF s 58).1,(cutF s 58).2.1⟩,true) else (⟨nob,nob⟩,false)
def subF (s:ByteArray):Nd×Bool:=if (objF (cutF s 35).1).2&&(!(cutF s 35).2.2||q0v (cutF s 35).2.1) then (⟨(objF (cutF s 35).1).1,(cutF s 35).2.1⟩,true) else (⟨⟨nob,nob⟩,nob⟩,false)
def tupF (s:ByteArray):Tu×Bool:=
 let x:=cutF s 64
 let y:=cutF x.1 35
 let o:=objF y.1
 let w:=subF x.2.1
 if x.2.2&&(y.2.2&&(o.2&&(w.2&&q0v y.2.1))) then (⟨o.1,y.2.1,w.1⟩,true) else (⟨⟨nob,nob⟩,nob,⟨⟨nob,nob⟩,nob⟩⟩,false)
theorem objF_ok {s:ByteArray} (hs:s.size≤1125899906842624):OkO (objF s).1:=by
 have h:=@q3f s 58
 unfold objF
 split
 ·exact ⟨by dsimp only;omega,by dsimp only;omega⟩
 ·exact ⟨Nat.zero_le _,Nat.zero_le _⟩
theorem subF_ok {s:ByteArray} (hs:s.size≤1125899906842624):OkD (subF s).1:=by
 have h:=@q3f s 35
 unfold subF
 split
 ·exact ⟨objF_ok (by omega),by dsimp only;omega⟩
 ·exact ⟨⟨Nat.zero_le _,Nat.zero_le _⟩,Nat.zero_le _⟩
theorem tupF_ok {s:ByteArray} (hs:s.size≤1125899906842624):OkU (tupF s).1:=by
 have h:=@q3f s 64
 have h2:=@q3f (cutF s 64).1 35
 unfold tupF
 dsimp only
 split
 ·exact ⟨objF_ok (by omega),by dsimp only;omega,subF_ok (by omega)⟩
 ·exact ⟨⟨Nat.zero_le _,Nat.zero_le _⟩,Nat.zero_le _,⟨⟨Nat.zero_le _,Nat.zero_le _⟩,Nat.zero_le _⟩⟩
theorem c_Object {s:ByteArray} (hs:s.size≤1125899906842624):AFun PG nrx134 [.str s] (.tup [.agg (obC (objF s).1),.bool (objF s).2]):=by
 intro S
 refine wx134 ?_
 unfold Bx134
 intro b hb
 have hl:=@q3f s 58
 refine q06 (c_cut hs 58) ?_
 (try simp only [rwp,zA,zB,zC,zD,zE,zF,zG,zH,zI,rwb,reduceIte])
 refine q06 (q3g (by omega)) ?_
 refine q06 (c_ref10_ID (by omega)) ?_
 unfold objF
 cases h1:(cutF s 58).2.2<;>cases h2:q0v (cutF s 58).1<;>cases h3:idB (cutF s 58).2.1<;>(try simp only [rwp,zA,zB,zC,zD,zE,zF,zG,zH,zI,rwb,reduceIte,C134_1,C134_2])<;>refine q1h S (Sub.supd hb (Sub.refl _)) ?_<;>(try simp only [rwp,zA,zB,zC,zD,zE,zF,zG,zH,zI,rwb,reduceIte,obC])<;>simp
theorem c_Subject {s:ByteArray} (hs:s.size≤1125899906842624):AFun PG nrx135 [.str s] (.tup [.agg (ndC (subF s).1),.bool (subF s).2]):=by
 intro S
 refine wx135 ?_
 unfold Bx135
 intro b hb
 have hl:=@q3f s 35
 refine q06 (c_cut hs 35) ?_
 (try simp only [rwp,zA,zB,zC,zD,zE,zF,zG,zH,zI,rwb,reduceIte])
 have q:=c_Object (s:=(cutF s 35).1) (by omega)
 simp only [obC] at q
 refine q06 q ?_
 (try simp only [rwp,zA,zB,zC,zD,zE,zF,zG,zH,zI,rwb,reduceIte])
 refine q06 (q3g (by omega)) ?_
 unfold subF
 cases h1:(objF (cutF s 35).1).2<;>cases h2:(cutF s 35).2.2<;>cases h3:q0v (cutF s 35).2.1<;>(try simp only [rwp,zA,zB,zC,zD,zE,zF,zG,zH,zI,rwb,reduceIte,C135_1,C135_2,C135_3])<;>refine q1h S (Sub.supd hb (Sub.refl _)) ?_<;>(try simp only [rwp,zA,zB,zC,zD,zE,zF,zG,zH,zI,rwb,reduceIte,ndC])<;>simp
theorem c_Tuple {s:ByteArray} (hs:s.size≤1125899906842624):AFun PG nrx89 [.str s] (.tup [.agg (tuC (tupF s).1),.bool (tupF s).2]):=by
 intro S
 refine wx89 ?_
 unfold Bx89
 intro b hb
 have hl:=@q3f s 64
 have hl2:=@q3f (cutF s 64).1 35
 refine q06 (c_cut hs 64) ?_
 (try simp only [rwp,zA,zB,zC,zD,zE,zF,zG,zH,zI,rwb,reduceIte])
 refine q06 (c_cut (by omega) 35) ?_
 (try simp only [rwp,zA,zB,zC,zD,zE,zF,zG,zH,zI,rwb,reduceIte])
 have q:=c_Object (s:=(cutF (cutF s 64).1 35).1) (by omega)
 simp only [obC] at q
 refine q06 q ?_
 (try simp only [rwp,zA,zB,zC,zD,zE,zF,zG,zH,zI,rwb,reduceIte])
 have q2:=c_Subject (s:=(cutF s 64).2.1) (by omega)
 simp only [ndC] at q2
 refine q06 q2 ?_
 (try simp only [rwp,zA,zB,zC,zD,zE,zF,zG,zH,zI,rwb,reduceIte])
 refine q06 (q3g (by omega)) ?_
 unfold tupF
 dsimp only
 cases h1:(cutF s 64).2.2<;>cases h2:(cutF (cutF s 64).1 35).2.2<;>cases h3:(objF (cutF (cutF s 64).1 35).1).2<;>cases h4:(subF (cutF s 64).2.1).2<;>cases h5:q0v (cutF (cutF s 64).1 35).2.1<;>(try simp only [rwp,zA,zB,zC,zD,zE,zF,zG,zH,zI,rwb,reduceIte,C89_1,C89_2,C89_3,C89_4])<;>refine q1h S (Sub.supd hb (Sub.refl _)) ?_<;>(try simp only [rwp,zA,zB,zC,zD,zE,zF,zG,zH,zI,rwb,reduceIte,tuC])<;>simp
theorem c_Tuples {l:List ByteArray} (hl:l.length≤1000000) (hs:∀ s∈l,s.size≤1125899906842624):AFun PG nrx45 [.sl 1 (l.map fun s=>[.str s])] (.sl 6 ((l.map fun s=>(tupF s).1).map tuC)):=by
 intro S
 refine wx45 ?_
 unfold Bx45
 refine LoopP.intro (fun x:Nat×AV×q00=>[(0,.sl 1 (l.map fun s=>[.str s])),(3,x.2.1),(4,.int .i64 x.1)]) (fun x=>x.2.2) (fun x=>x.1≤l.length∧Sub S x.2.2∧LstN S x.2.2 tyTu 6 x.2.1 (((l.take x.1).map fun s=>(tupF s).1).map tuC)) (fun x=>l.length-x.1) (0,.nils,S) ⟨by omega,Sub.refl _,LstN.nil⟩ rfl (Sub.refl S) ?_
 rintro ⟨i,v,S'⟩ ⟨hi,hsu,hL⟩ r hr
 dsimp only at hi hsu hL ⊢
 (try simp only [rwp,zA,zB,zC,zD,zE,zF,zG,zH,zI,rwb,reduceIte,C45_1,List.length_map])
 (refine q04 (fun hlt=>?_) (fun hlt=>?_)<;>(try simp only [hlc] at hlt))
 ·obtain ⟨s,hg⟩:=q0t hlt
  (try simp only [rwp,zA,zB,zC,zD,zE,zF,zG,zH,zI,rwb,reduceIte,List.getElem?_map,hg])
  have q:=c_Tuple (hs s (List.mem_of_getElem? hg))
  simp only [tuC] at q
  refine q06 q ?_
  (try simp only [rwp,zA,zB,zC,zD,zE,zF,zG,zH,zI,rwb,reduceIte])
  have e:((l.take i).map fun s=>(tupF s).1).length≤1000000:=by rw [List.length_map,List.length_take];omega
  refine hL.tu (t:=(tupF s).1) hsu e fun v' S2 h1 h2=>?_
  (simp (disch:=omega) only [q08])
  refine q0a rfl (hr (i+1,v',S2) ⟨by dsimp only;omega,h1,?_⟩ (by dsimp only;omega))
  dsimp only
  rw [q14 hg,List.map_append]
  exact h2
 ·have e:l.take i=l:=List.take_of_length_le (by omega)
  rw [e] at hL
  exact q6y hsu hL ⟨rfl,rfl⟩
set_option maxRecDepth 20000
def bUser:ByteArray:=⟨#[117,115,101,114]⟩
def b1':ByteArray:=⟨#[49]⟩
def bA:ByteArray:=⟨#[97]⟩
def oA:Ob:=⟨bUser,bA⟩
set_option maxRecDepth 20000
def tx14:ByteArray:=⟨#[116,121,112,101,32,117,115,101,114,32,116,121,112,101,32,100,111,99,32,114,101,108,97,116,105,111,110,32,111,119,110,101,114,58,32,117,115,101,114,32,114,101,108,97,116,105,111,110,32,110,111,58,32,117,115,101,114,32,100,101,102,105,110,101,32,99,97,110,58,32,111,119,110,101,114,32,45,32,110,111]⟩
def bDoc:ByteArray:=⟨#[100,111,99]⟩
def q4p:ByteArray:=⟨#[111,119,110,101,114]⟩
def bNo:ByteArray:=⟨#[110,111]⟩
def bCan:ByteArray:=⟨#[99,97,110]⟩
def bB:ByteArray:=⟨#[98]⟩
def bNothing:ByteArray:=⟨#[110,111,116,104,105,110,103]⟩
def sc14:List Ty:=(q3y tx14).1
def tu1:ByteArray:=⟨#[100,111,99,58,49,35,111,119,110,101,114,64,117,115,101,114,58,97]⟩
def tu2:ByteArray:=⟨#[100,111,99,58,49,35,111,119,110,101,114,64,117,115,101,114,58,98]⟩
def tu3:ByteArray:=⟨#[100,111,99,58,49,35,110,111,64,117,115,101,114,58,98]⟩
def oDoc:Ob:=⟨bDoc,b1'⟩
def oB:Ob:=⟨bUser,bB⟩
def nCan:Nd:=⟨oDoc,bCan⟩
def l14:List Tu:=[⟨oDoc,q4p,⟨oA,⟨#[]⟩⟩⟩,⟨oDoc,q4p,⟨oB,⟨#[]⟩⟩⟩,⟨oDoc,bNo,⟨oB,⟨#[]⟩⟩⟩]
theorem ps14:(q3y tx14).2=.agg [.int .i64 0,.int .i64 0,.int .i64 0]:=by kernel_rfl
theorem t14:([tu1,tu2,tu3].map fun s=>(tupF s).1)=l14:=by kernel_rfl
theorem ok14:OkS sc14∧OkN sc14:=by
 have h:=parseF_ok (s:=tx14)
 exact ⟨h.1,h.2 (by decide)⟩
theorem okl14:OkL l14:=by
 rw [← t14]
 refine ⟨by decide,fun t ht=>?_⟩
 obtain ⟨s,hs,rfl⟩:=List.mem_map.1 ht
 refine tupF_ok ?_
 simp only [List.mem_cons,List.not_mem_nil,or_false] at hs
 rcases hs with rfl | rfl | rfl<;>decide
theorem e14:errA (chkF sc14)=0:=by kernel_rfl
theorem c14:q18 sc14 l14=l14:=by kernel_rfl
theorem fn14:q0o sc14 bDoc bNothing=none:=by kernel_rfl
theorem inB_body {s:List Ty} {l:List Tu} {who:Ob} (hc:errA (chkF s)=0) {n:Nd} {i k:Nat} {r:Rl} (hf:q0o s n.o.ty n.rl=some (i,k,r)):inB (envE s l who) n=q1v (envE s l who) (inB (envE s l who)) n r:=by
 have hE:=q7x s l who
 obtain ⟨K,hK⟩:=mod_ex hE hc (T:=(q18 s l).map fun t=>t.o) fun n x hx=>by
  obtain ⟨t,ht,rfl⟩:=List.mem_map.1 hx
  unfold ofF at ht
  simp only [List.mem_filter,Bool.and_eq_true,decide_eq_true_eq] at ht
  exact List.mem_map.2 ⟨t,ht.1,ht.2.1⟩
 have e:(fun c=>decide (c∈K))=inB (envE s l who):=by
  funext c
  exact inB_eq hE hc hK c
 have:=in_body hE hc hK (n:=n) hf
 rw [e] at this
 rw [← inB_eq hE hc hK,this]
theorem inB_none {s:List Ty} {l:List Tu} {who:Ob} (hc:errA (chkF s)=0) {n:Nd} (h:q0o s n.o.ty n.rl=none):inB (envE s l who) n=false:=by
 unfold inB
 refine (@decide_eq_false_iff_not _ (Classical.propDecidable _)).2 ?_
 rintro ⟨K,hK,hn⟩
 exact hK.none h hn
def rfU:Rf:=⟨bUser,⟨#[]⟩⟩
def zr:ByteArray:=⟨#[]⟩
theorem fo14:q0o sc14 bDoc q4p=some (1,0,⟨q4p,[rfU],q83⟩):=by kernel_rfl
theorem fi14:q0o sc14 bDoc bNo=some (1,1,⟨bNo,[rfU],q83⟩):=by kernel_rfl
theorem fc14:q0o sc14 bDoc bCan=some (1,2,⟨bCan,[],.mk 4 zr zr [.mk 0 q4p zr [],.mk 0 bNo zr []]⟩):=by kernel_rfl
theorem own14 (who:Ob):inB (envE sc14 l14 who) ⟨oDoc,q4p⟩=(decide (oA=who)||(decide (oB=who)||false)):=(inB_body e14 fo14).trans (by kernel_rfl)
theorem no14 (who:Ob):inB (envE sc14 l14 who) ⟨oDoc,bNo⟩=(decide (oB=who)||false):=(inB_body e14 fi14).trans (by kernel_rfl)
theorem can14 (who:Ob):inB (envE sc14 l14 who) nCan=(inB (envE sc14 l14 who) ⟨oDoc,q4p⟩&&!inB (envE sc14 l14 who) ⟨oDoc,bNo⟩):=(inB_body e14 fc14).trans (by kernel_rfl)
theorem ia14:inB (envE sc14 l14 oA) nCan=true:=by rw [can14,own14,no14];kernel_rfl
theorem ib14:inB (envE sc14 l14 oB) nCan=false:=by rw [can14,own14,no14];kernel_rfl
theorem o14:outF sc14 l14 (q18 sc14 l14) nCan=[oA]:=by
 rw [c14]
 unfold outF
 rw [show l14=[⟨oDoc,q4p,⟨oA,⟨#[]⟩⟩⟩,⟨oDoc,q4p,⟨oB,⟨#[]⟩⟩⟩,⟨oDoc,bNo,⟨oB,⟨#[]⟩⟩⟩] from rfl]
 have ia:=ia14
 have ib:=ib14
 rw [show l14=[⟨oDoc,q4p,⟨oA,⟨#[]⟩⟩⟩,⟨oDoc,q4p,⟨oB,⟨#[]⟩⟩⟩,⟨oDoc,bNo,⟨oB,⟨#[]⟩⟩⟩] from rfl] at ia ib
 simp [ia,ib]
theorem m14:memF sc14 l14 nCan=[oA]:=by
 unfold memF
 rw [if_pos e14,o14]
 rfl
theorem c_awake14:AFun PG nrx21 [] (.bool true):=by
 intro S
 refine wx21 ?_
 unfold Bx21
 have r1:=c_Parse tx14
 rw [ps14,show (q3y tx14).1=sc14 from rfl] at r1
 have r2:=c_Tuples (l:=[tu1,tu2,tu3]) (by decide) (fun s hs=>by
  simp only [List.mem_cons,List.not_mem_nil,or_false] at hs
  rcases hs with rfl | rfl | rfl<;>decide)
 rw [t14] at r2
 have q1:=c_gMembers sort12 ok14.1 ok14.2 okl14 (by decide) nCan (fun _=>by rw [o14];decide)
 rw [m14] at q1
 have q2:=q8l ok14.1 ok14.2 okl14 (by decide) nCan oA
 rw [ia14,decide_eq_true e14] at q2
 have q3:=q8l ok14.1 ok14.2 okl14 (by decide) ⟨oDoc,bNothing⟩ oA
 rw [inB_none e14 fn14] at q3
 simp only [scA] at r1 q1 q2 q3
 refine q06 r1 ?_
 (try simp only [rwp,zA,zB,zC,zD,zE,zF,zG,zH,zI,rwb,reduceIte])
 intro b3 hb3 b4 hb4
 obtain ⟨d43,hb4'⟩:=frsh hb4
 (try simp only [rwp,zA,zB,zC,zD,zE,zF,zG,zH,zI,rwb,reduceIte,d43,Ne.symm d43])
 refine q06 r2 ?_
 (try simp only [rwp,zA,zB,zC,zD,zE,zF,zG,zH,zI,rwb,reduceIte])
 refine q06 q1 ?_
 generalize hS4:sdel _ b3=S4
 have s4:Sub S S4:=by
  rw [← hS4]
  intro a o ha
  have e3:=q0h hb3 ha
  have e4:=q0h hb4' ha
  simp only [q0b,q01,if_neg e3,if_neg e4]
  exact ha
 rw [show AV.sl 2 (List.map obC [oA])=.sl 2 [[.str ⟨#[117,115,101,114]⟩,.str ⟨#[97]⟩]] from rfl]
 (try simp only [rwp,zA,zB,zC,zD,zE,zF,zG,zH,zI,rwb,reduceIte,List.length_cons,List.length_nil,List.getElem?_cons_zero,q19,q23,eqs,q0m,ekOk,q11,decide_eq_true_eq])
 rw [decide_eq_true (show ((1:Nat):Int)=1 from rfl)]
 (try simp only [rwp,zA,zB,zC,zD,zE,zF,zG,zH,zI,rwb,reduceIte,C21_1,List.getElem?_cons_zero])
 refine q06 q2 ?_
 rw [show (true&&true)=true from rfl]
 (try simp only [rwp,zA,zB,zC,zD,zE,zF,zG,zH,zI,rwb,reduceIte,C21_2,List.getElem?_cons_zero])
 refine q06 q3 ?_
 rw [Bool.and_false]
 (try simp only [rwp,zA,zB,zC,zD,zE,zF,zG,zH,zI,rwb,reduceIte])
 exact rtW_sub s4 ⟨rfl,rfl⟩
set_option maxRecDepth 4000
theorem small_ok4 {s:List Ty} {l:List Tu} (h:smallF s l=true) (hl:∀ t∈l,OkU t):OkN s∧OkL l∧l.length≤30:=by
 unfold smallF at h
 rw [Bool.and_eq_true,decide_eq_true_eq] at h
 exact ⟨few_N h.1 (by decide),⟨by omega,hl⟩,by omega⟩
set_option maxRecDepth 4000
set_option maxRecDepth 4000
theorem mod_env {s:List Ty} (hc:errA (chkF s)=0) (l:List Tu) (who:Ob):∃ K,Mod (envE s l who) K:=
 mod_ex (q7x s l who) hc (T:=(q18 s l).map fun t=>t.o) fun n x hx=>by
  obtain ⟨t,ht,rfl⟩:=List.mem_map.1 hx
  unfold ofF at ht
  simp only [List.mem_filter,Bool.and_eq_true,decide_eq_true_eq] at ht
  exact List.mem_map.2 ⟨t,ht.1,ht.2.1⟩
theorem len_tu {L:List Tu}:∀ r∈L.map tuC,r.length=6:=fun r hr=>by
 obtain ⟨o,-,rfl⟩:=List.mem_map.1 hr
 rfl
theorem ones_tu {L:List Tu}:ones (L.map tuC).flatten=true:=q3r fun r hr=>by
 obtain ⟨o,-,rfl⟩:=List.mem_map.1 hr
 rfl
set_option maxRecDepth 4000
theorem outsL_any:∀ (l:List Ex),outsL l=l.any q61
 | []=>rfl
 | e :: r=>by
  unfold outsL
  rw [List.any_cons,outsL_any r]
theorem c_outs:∀ (e:Ex),OkE e→AFun PG nrx26 [.agg (exC e)] (.bool (q61 e)):=by
 intro e he
 induction he with
 | mk k n o ks hk hn ho hks ih=>
  intro S
  refine wx26 ?_
  unfold Bx26 q61
  (try simp only [rwp,zA,zB,zC,zD,zE,zF,zG,zH,zI,rwb,reduceIte,q0d,Ex.kind,Ex.name,Ex.over,Ex.kids])
  cases a1:decide (k=4)
  ·rw [Bool.false_or,outsL_any]
   (try simp only [rwp,zA,zB,zC,zD,zE,zF,zG,zH,zI,rwb,reduceIte])
   refine LoopP.introS (fun i:Nat=>[(1,.rop [.int .i64 k,.str n,.str o,.sl 4 (ks.map exC)]),(3,.int .i64 i)]) (fun i S'=>S'=S∧i≤ks.length∧(ks.take i).any q61=false) (fun i=>ks.length-i) 0 ⟨rfl,by omega,by simp⟩ rfl ?_
   rintro i S' ⟨rfl,hi,hno⟩ kk hkk
   (try simp only [rwp,zA,zB,zC,zD,zE,zF,zG,zH,zI,rwb,reduceIte,C26_1,List.length_map])
   cases a2:decide ((i:Int)<ks.length)
   ·have e:ks.take i=ks:=List.take_of_length_le (by have:=of_decide_eq_false a2;omega)
    rw [e] at hno
    (try simp only [rwp,zA,zB,zC,zD,zE,zF,zG,zH,zI,rwb,reduceIte])
    exact q03 ⟨by rw [hno],rfl⟩
   ·have hlt:=of_decide_eq_true a2
    obtain ⟨x,hx⟩:=q0t hlt
    have hxm:=List.mem_of_getElem? hx
    have q:=ih x hxm
    obtain ⟨k1,n1,o1,ks1⟩:=x
    simp only [q0d,Ex.kind,Ex.name,Ex.over,Ex.kids] at q
    (try simp only [rwp,zA,zB,zC,zD,zE,zF,zG,zH,zI,rwb,reduceIte,List.getElem?_map,hx,q0d,Ex.kind,Ex.name,Ex.over,Ex.kids])
    refine q06 q ?_
    cases a3:q61 (.mk k1 n1 o1 ks1)
    ·(try simp only [rwp,zA,zB,zC,zD,zE,zF,zG,zH,zI,rwb,reduceIte])
     (try (simp (disch:=omega) only [q08]))
     rw [show (i:Int)+1=((i+1:Nat):Int) by omega]
     exact q0a rfl (hkk (i+1) _ ⟨rfl,by omega,by rw [any_take hx hno,a3]⟩ (by omega))
    ·(try simp only [rwp,zA,zB,zC,zD,zE,zF,zG,zH,zI,rwb,reduceIte])
     exact q03 ⟨by rw [any_yes hx a3],rfl⟩
  ·rw [Bool.true_or]
   (try simp only [rwp,zA,zB,zC,zD,zE,zF,zG,zH,zI,rwb,reduceIte])
   exact q03 ⟨rfl,rfl⟩
theorem c_GraphMore {s:List Ty} (hs:OkS s) {l more:List Tu} (hl:∀ t∈l,OkU t) (hm:∀ t∈more,OkU t) (b1:l.length≤2000000) (b2:more.length≤2000000) (o:Ob) (rl:ByteArray) (who:Ob) :
  AFun PG nrx8 [scA s,.sl 6 (l.map tuC),.sl 6 (more.map tuC),.agg (obC o),.str rl,.agg (obC who)] (.bool true):=by
 intro S
 have app:∀ {K:AV→q00→Prop},(∀ v S2,Sub S S2→LstW S S2 tyTu 6 v ((l++more).map tuC)→K v S2)→apW S tyTu 6 96 .nils (.sl 6 (l.map tuC)) fun v21 S1=>apW S1 tyTu 6 96 v21 (.sl 6 (more.map tuC)) K:=by
  intro K hK
  refine LstW.appL (Sub.refl S) (LstW.nil (S0:=S)) (xs:=l.map tuC) appX_sl len_tu ones_tu (by simp only [List.length_map,List.length_nil];omega) fun v1 S1 s1 o1 _=>?_
  rw [List.nil_append] at o1
  refine LstW.appL s1 o1 (xs:=more.map tuC) appX_sl len_tu ones_tu (by simp only [List.length_map];omega) fun v2 S2 s2 o2 _=>?_
  rw [← List.map_append] at o2
  exact hK v2 S2 s2 o2
 have hall:∀ t∈l++more,OkU t:=fun t ht=>(List.mem_append.1 ht).elim (hl t) (hm t)
 refine wx8 ?_
 unfold Bx8
 (try simp only [rwp,zA,zB,zC,zD,zE,zF,zG,zH,zI,rwb,reduceIte,scA,obC])
 refine q06 c_awake14 ?_
 (try simp only [rwp,zA,zB,zC,zD,zE,zF,zG,zH,zI,rwb,reduceIte])
 refine app fun v23 S2 s2 o2=>?_
 have q:=c_law14_Small hs (l++more) S
 simp only [scA] at q
 (try simp only [rwp,zA,zB,zC,zD,zE,zF,zG,zH,zI,rwb,reduceIte])
 refine q10 (ACalls.frz (FrS.sub s2) (.cons (.same _) (.cons (Fr.lst14 o2) .nil)) q) ?_
 rintro ae S3 ⟨rfl,rfl⟩
 dsimp only
 cases hsm:smallF s (l++more)
 ·(try simp only [rwp,zA,zB,zC,zD,zE,zF,zG,zH,zI,rwb,reduceIte,C8_1])
  exact q03 ⟨rfl,rfl⟩
 ·obtain ⟨hN,hLm,hn⟩:=small_ok4 hsm hall
  rw [List.length_append] at hn
  have hL:OkL l:=⟨by omega,hl⟩
  have hst:=hs.types
  (try simp only [rwp,zA,zB,zC,zD,zE,zF,zG,zH,zI,rwb,reduceIte,C8_1])
  refine LoopP.introS (fun i:Nat=>[(1,.sl 6 (l.map tuC)),(2,.sl 6 (more.map tuC)),(4,.str rl),(6,.rop [.sl 2 (s.map tyC)]),(9,.rop [.str o.ty,.str o.id]),(11,.rop [.str who.ty,.str who.id]),(15,.int .i64 i)])
   (fun i S'=>S'=S3∧i≤s.length∧∀ (i' k':Nat) (t:Ty) (r:Rl),i'<i→s[i']?=some t→t.rels[k']?=some r→q61 r.ex=false) (fun i=>s.length-i) 0 ⟨rfl,by omega,fun i' k' t r h=>by omega⟩ rfl ?_
  rintro i S4 ⟨e4,hi,hno⟩ kk hkk
  subst e4
  (try simp only [rwp,zA,zB,zC,zD,zE,zF,zG,zH,zI,rwb,reduceIte,C8_2,List.length_map])
  cases a1:decide ((i:Int)<s.length)
  ·have e:i=s.length:=by have:=of_decide_eq_false a1;omega
   subst e
   have q1:=q8l hs hN hL (by omega:l.length≤500) ⟨o,rl⟩ who
   have q2:=q8l hs hN hLm (by rw [List.length_append];omega) ⟨o,rl⟩ who
   simp only [scA,obC] at q1 q2
   (try simp only [rwp,zA,zB,zC,zD,zE,zF,zG,zH,zI,rwb,reduceIte])
   refine q06 q1 ?_
   cases a2:(decide (errA (chkF s)=0)&&inB (envE s l who) ⟨o,rl⟩)
   ·(try simp only [rwp,zA,zB,zC,zD,zE,zF,zG,zH,zI,rwb,reduceIte])
    exact q03 ⟨rfl,rfl⟩
   ·rw [Bool.and_eq_true,decide_eq_true_eq] at a2
    obtain ⟨hk,hin⟩:=a2
    obtain ⟨K,hK⟩:=mod_env hk l who
    obtain ⟨K',hK'⟩:=mod_env hk (l++more) who
    have h2:inB (envE s (l++more) who) ⟨o,rl⟩=true:=by
     rw [← inB_eq (q7x _ _ _) hk hK,decide_eq_true_eq] at hin
     rw [← inB_eq (q7x _ _ _) hk hK',decide_eq_true_eq]
     exact inB_grow (fun t ht r hr=>by
      obtain ⟨i',hi'⟩:=List.getElem?_of_mem ht
      obtain ⟨k',hk'⟩:=List.getElem?_of_mem hr
      exact hno i' k' t r (List.getElem?_eq_some_iff.1 hi').1 hi' hk') hk hK hK' hin
    rw [h2,decide_eq_true hk] at q2
    (try simp only [rwp,zA,zB,zC,zD,zE,zF,zG,zH,zI,rwb,reduceIte])
    refine app fun v74 S5 s5 o5=>?_
    (try simp only [rwp,zA,zB,zC,zD,zE,zF,zG,zH,zI,rwb,reduceIte])
    refine q10 (ACalls.frz (FrS.sub s5) (.cons (.same _) (.cons (Fr.lst14 o5) (.cons (.same _) (.cons (.same _) (.cons (.same _) .nil))))) (q2 S4)) ?_
    rintro ae S6 ⟨rfl,rfl⟩
    dsimp only
    rw [show (true&&true)=true from rfl]
    (try simp only [rwp,zA,zB,zC,zD,zE,zF,zG,zH,zI,rwb,reduceIte])
    exact q03 ⟨rfl,rfl⟩
  ·have hlt:=of_decide_eq_true a1
   obtain ⟨t,ht⟩:=q0t hlt
   have hrl:=(hs.at ht).rels
   (try simp only [rwp,zA,zB,zC,zD,zE,zF,zG,zH,zI,rwb,reduceIte])
   refine LoopP.introS (fun k:Nat=>[(1,.sl 6 (l.map tuC)),(2,.sl 6 (more.map tuC)),(4,.str rl),(6,.rop [.sl 2 (s.map tyC)]),(9,.rop [.str o.ty,.str o.id]),(11,.rop [.str who.ty,.str who.id]),(15,.int .i64 i),(16,.int .i64 k)])
    (fun k S'=>S'=S4∧k≤t.rels.length∧∀ (k':Nat) (r:Rl),k'<k→t.rels[k']?=some r→q61 r.ex=false) (fun k=>t.rels.length-k) 0 ⟨rfl,by omega,fun k' r h=>by omega⟩ rfl ?_
   rintro k S5 ⟨e5,hkl,hno2⟩ kk2 hkk2
   subst e5
   (try simp only [rwp,zA,zB,zC,zD,zE,zF,zG,zH,zI,rwb,reduceIte,C8_3,List.getElem?_map,ht,tyC,List.length_map])
   cases a2:decide ((k:Int)<t.rels.length)
   ·have e:k=t.rels.length:=by have:=of_decide_eq_false a2;omega
    subst e
    (try simp only [rwp,zA,zB,zC,zD,zE,zF,zG,zH,zI,rwb,reduceIte])
    (try (simp (disch:=omega) only [q08]))
    rw [show (i:Int)+1=((i+1:Nat):Int) by omega]
    refine q0a rfl (hkk (i+1) _ ⟨rfl,by omega,fun i' k' t' r h1 h2 h3=>?_⟩ (by omega))
    by_cases e:i'=i
    ·subst e
     rw [ht] at h2
     cases h2
     exact hno2 k' r (List.getElem?_eq_some_iff.1 h3).1 h3
    ·exact hno i' k' t' r (by omega) h2 h3
   ·have hltk:=of_decide_eq_true a2
    obtain ⟨r,hr⟩:=q0t hltk
    have q:=c_outs r.ex ((hs.at ht).at hr).ex
    generalize hre:r.ex=e at q
    obtain ⟨ka,na,oa,ksa⟩:=e
    simp only [q0d,Ex.kind,Ex.name,Ex.over,Ex.kids] at q
    (try simp only [rwp,zA,zB,zC,zD,zE,zF,zG,zH,zI,rwb,reduceIte,List.getElem?_map,ht,tyC,hr,q0u,hre,Ex.kind,Ex.name,Ex.over,Ex.kids])
    refine q06 q ?_
    cases a3:q61 (.mk ka na oa ksa)
    ·(try simp only [rwp,zA,zB,zC,zD,zE,zF,zG,zH,zI,rwb,reduceIte])
     (try (simp (disch:=omega) only [q08]))
     rw [show (k:Int)+1=((k+1:Nat):Int) by omega]
     refine q0a rfl (hkk2 (k+1) _ ⟨rfl,by omega,fun k' r' h1 h2=>?_⟩ (by omega))
     by_cases e:k'=k
     ·subst e
      rw [hr] at h2
      cases h2
      rw [hre];exact a3
     ·exact hno2 k' r' (by omega) h2
    ·(try simp only [rwp,zA,zB,zC,zD,zE,zF,zG,zH,zI,rwb,reduceIte])
     exact q03 ⟨rfl,rfl⟩
def Old (w:World):Nat→Prop:=fun b=>b<w.heap.size
theorem cell_old {w:World} {a:Addr} {v:Value} (h:w.cell? a=some v):Old w a.block:=by
 unfold Old
 unfold World.cell? at h
 rcases Nat.lt_or_ge a.block w.heap.size with h1 | h1
 ·exact h1
 ·rw [Array.getElem?_eq_none h1] at h;simp at h
section
variable {H:Type} {enc:TypeId×Value→H} {P:Program} {w:World} {sp:Nat→Bool} {held:Bool} {n:Nat} {t e:TypeId} {cs:List Value} {x:DataW H×List MemPlace}
def Wt {H:Type} (P:Program) (t:TypeId) (d:DataW H):Prop:=∀ k∈d.weights P t,k≤reachBytes
theorem q2k (ht:P.underlying t=some .string) (hw:Wt P t x.1) (h:DataW.trod enc P w 0 sp held n t cs=some x):∃ s:ByteArray,s.size≤1125899906842624∧cs=[.string s]:=by
 cases n with
 | zero=>simp [DataW.trod] at h
 | succ n=>
  unfold DataW.trod at h
  rw [ht] at h
  split at h<;>simp_all
  obtain ⟨h1,rfl⟩:=h
  refine Nat.le_trans (Nat.le_of_eq ?_) (Nat.le_trans (hw _ (by simp only [DataW.weights];exact List.mem_singleton.2 rfl)) (by decide))
  rw [Array.length_toList]
  rfl
theorem open_int' {k:IntKind} (ht:P.underlying t=some (.int k)) (h:DataW.trod enc P w 0 sp held n t cs=some x):∃ z:Int,cs=[.int k z]:=by
 cases n with
 | zero=>simp [DataW.trod] at h
 | succ n=>
  unfold DataW.trod at h
  rw [ht] at h
  split at h<;>simp_all
theorem cells_get {w:World} {a:Addr} {m:Nat} {vs:List Value} (h:w.cells? 0 a m=some vs):vs.length=m∧∀ j,j<m→w.cell? (a.add j)=some (vs.getD j undef):=by
 unfold World.cells? at h
 rw [if_pos (Nat.zero_le _)] at h
 have h1:=mapM_some_length h
 refine ⟨by simpa using h1,fun j hj=>?_⟩
 have h2:=mapM_some_get h j j (by simp [hj])
 rw [h2,List.getD_eq_getElem?_getD]
 simp at h1
 rw [List.getElem?_eq_getElem (by omega)]
 rfl
theorem q62 {α:Type} {enc':α→List AV} {good:α→Prop} {sz:Nat} (ht:P.underlying t=some (.slice e)) (hc:P.cellsOf e=sz) (hsz:0<sz) (hlen:∀ a,(enc' a).length=sz)
  (hb:1≤P.bytesOf e) (hw:Wt P t x.1) (hE:∀ m,m<n→∀ cs x,Wt P e x.1→DataW.trod enc P w 0 sp held m e cs=some x→∃ a,good a∧RVs (Old w) w (enc' a) cs) (h:DataW.trod enc P w 0 sp held n t cs=some x) :
  ∃ (l:List α) (v:Value),(∀ a∈l,good a)∧l.length≤1125899906842624∧cs=[v]∧RV (Old w) w (.sl sz (l.map enc')) v:=by
 rcases DataW.trod_slice ht h with ⟨rfl,-⟩ | ⟨a,len,cap,elems,rest,m,rfl,rfl,rfl,-,hl,hm,hlen2,hel,-,-⟩
 ·exact ⟨[],_,fun a ha=>(by cases ha),Nat.zero_le _,rfl,.sl0 _ _ _⟩
 ·have hx:DataW.weights P t (.slice (elems.map (·.1)) (rest.map (·.1)))=((elems.map (·.1)).length+(rest.map (·.1)).length) * P.bytesOf e :: (DataW.weightsAll P e (elems.map (·.1))++DataW.weightsAll P e (rest.map (·.1))):=by
   simp only [DataW.weights]
   rw [ht]
  have hw:∀ k∈DataW.weights P t (.slice (elems.map (·.1)) (rest.map (·.1))),k≤reachBytes:=hw
  rw [hx] at hw
  have key:∀ i,i<len→∃ (y:α) (vs:List Value),good y∧RVs (Old w) w (enc' y) vs∧w.cells? 0 (a.add (i * sz)) sz=some vs:=fun i hi=>by
   have h1:=hel i hi
   rw [hc,List.getElem?_eq_getElem (by omega)] at h1
   obtain ⟨vs,h2,h3⟩:=Option.bind_eq_some_iff.1 h1
   have hwi:Wt P e (elems[i]'(by omega)).1:=fun k hk=>by
    refine hw k ?_
    refine List.mem_cons_of_mem _ (List.mem_append_left _ ?_)
    have:∀ l:List (DataW H×List MemPlace),∀ y∈l,∀ k∈y.1.weights P e,k∈DataW.weightsAll P e (l.map (·.1)):=by
     intro l
     induction l with
     | nil=>intro y hy;cases hy
     | cons z l ih=>
      intro y hy k hk
      simp only [List.map_cons,DataW.weightsAll,List.mem_append]
      rcases List.mem_cons.1 hy with rfl | hy
      ·exact .inl hk
      ·exact .inr (ih y hy k hk)
    exact this elems _ (List.getElem_mem _) k hk
   obtain ⟨y,k1,k2⟩:=hE m (Nat.lt_succ_self m) vs _ hwi h3
   exact ⟨y,vs,k1,k2,h2⟩
  by_cases h0:len=0
  ·subst h0
   exact ⟨[],_,fun a ha=>(by cases ha),Nat.zero_le _,rfl,.sl0 _ _ _⟩
  have ex:∃ l:List α,l.length=len∧∀ i y,l[i]?=some y→∃ vs:List Value,good y∧RVs (Old w) w (enc' y) vs∧w.cells? 0 (a.add (i * sz)) sz=some vs:=by
   have:∀ k,k≤len→∃ l:List α,l.length=k∧∀ (i:Nat) (y:α),l[i]?=some y→∃ vs:List Value,good y∧RVs (Old w) w (enc' y) vs∧w.cells? 0 (a.add (i * sz)) sz=some vs:=by
    intro k
    induction k with
    | zero=>exact fun _=>⟨[],rfl,fun i y h=>by simp at h⟩
    | succ k ih=>
     intro hk
     obtain ⟨l,k1,k2⟩:=ih (by omega)
     obtain ⟨y,vs,j1⟩:=key k (by omega)
     refine ⟨l++[y],by simp [k1],fun i z hz=>?_⟩
     by_cases hi:i<l.length
     ·rw [List.getElem?_append_left hi] at hz
      exact k2 i z hz
     ·rw [List.getElem?_append_right (by omega)] at hz
      obtain ⟨q,hq⟩:∃ q,i-l.length=q:=⟨_,rfl⟩
      rw [hq] at hz
      cases q with
      | succ q=>simp at hz
      | zero=>
       simp at hz
       subst hz
       have:i=k:=by omega
       subst this
       exact ⟨vs,j1⟩
   exact this len (Nat.le_refl _)
  obtain ⟨l,k1,k2⟩:=ex
  have k3:∀ i,i<len→∃ y vs,l[i]?=some y∧good y∧RVs (Old w) w (enc' y) vs∧w.cells? 0 (a.add (i * sz)) sz=some vs:=fun i hi=>by
   have hy:l[i]?=some l[i]:=List.getElem?_eq_getElem (by omega)
   obtain ⟨vs,h1⟩:=k2 i _ hy
   exact ⟨_,vs,hy,h1⟩
  have hadd:∀ i j,(a.add (i * sz)).add j=a.add (i * sz+j):=fun i j=>add_add _ _ _
  have hll:l.length≤1125899906842624:=by
   have h5:=hw _ List.mem_cons_self
   simp only [List.length_map] at h5
   have h6:elems.length≤(elems.length+rest.length) * P.bytesOf e:=Nat.le_trans (Nat.le_add_right _ _) (Nat.le_mul_of_pos_right _ hb)
   unfold reachBytes at h5
   omega
  refine ⟨l,_,fun y hy=>?_,hll,rfl,.sl sz (l.map enc') a len cap (fun i j=>((w.cells? 0 (a.add (i * sz)) sz).getD []).getD j undef) (by simp [k1]) hl ?_ (fun i r hr=>?_) (fun i j hi hj=>?_) (fun i j r u hr hu=>?_)⟩
  ·obtain ⟨i,hi⟩:=List.getElem?_of_mem hy
   obtain ⟨vs,h1,-⟩:=k2 i y hi
   exact h1
  ·obtain ⟨y,vs,-,-,-,h4⟩:=k3 0 (by omega)
   have h5:=(cells_get h4).2 0 hsz
   have:=cell_old h5
   rw [add_add] at this
   simpa [Addr.add] using this
  ·rw [List.getElem?_map] at hr
   cases hl2:l[i]? with
   | none=>rw [hl2] at hr;cases hr
   | some y=>rw [hl2] at hr;cases hr;exact hlen y
  ·obtain ⟨y,vs,-,-,-,h4⟩:=k3 i hi
   rw [h4,← hadd]
   exact (cells_get h4).2 j hj
  ·rw [List.getElem?_map] at hr
   cases hl2:l[i]? with
   | none=>rw [hl2] at hr;cases hr
   | some y=>
    rw [hl2] at hr
    cases hr
    obtain ⟨vs,-,h3,h4⟩:=k2 i y hl2
    rw [h4]
    exact h3.2 j u hu
theorem q3e {fs:Array Field} (ht:P.underlying t=some (.struct fs)) (hw:Wt P t x.1) (h:DataW.trod enc P w 0 sp held n t cs=some x):cs.length=P.cellsOf t∧∃ m,n=m+1 ∧
  ∀ (i:Nat) (f:Field),fs[i]?=some f→∃ y,Wt P f.type y.1∧DataW.trod enc P w 0 sp held m f.type ((cs.drop f.offset).take (P.cellsOf f.type))=some y:=by
 obtain ⟨xs,m,rfl,rfl,hl,hlen,hf⟩:=DataW.trod_struct ht h
 refine ⟨hl,m,rfl,fun i f hi=>?_⟩
 have hil:i<fs.size:=(Array.getElem?_eq_some_iff.1 hi).1
 have h1:=hf i f hi
 have hxi:xs[i]?=some (xs[i]'(by omega)):=List.getElem?_eq_getElem _
 rw [hxi] at h1
 refine ⟨_,fun k hk=>?_,h1⟩
 have hx:DataW.weights P t (.agg (xs.map (·.1)))=DataW.weightsEach P (fs.toList.map (·.type)) (xs.map (·.1)):=by
  simp only [DataW.weights]
  rw [ht]
 have hw:∀ k∈DataW.weights P t (.agg (xs.map (·.1))),k≤reachBytes:=hw
 rw [hx] at hw
 refine hw k ?_
 have key:∀ (ts:List TypeId) (ds:List (DataW H)) (j:Nat) (t:TypeId) (d:DataW H),ts[j]?=some t→ds[j]?=some d→∀ k∈d.weights P t,k∈DataW.weightsEach P ts ds:=by
  intro ts
  induction ts with
  | nil=>intro ds j t d h;simp at h
  | cons a ts ih=>
   intro ds j t d h1 h2 k hk
   cases ds with
   | nil=>simp at h2
   | cons b ds=>
    simp only [DataW.weightsEach,List.mem_append]
    cases j with
    | zero=>simp at h1 h2;subst h1;subst h2;exact .inl hk
    | succ j=>simp at h1 h2;exact .inr (ih ds j t d h1 h2 k hk)
 exact key _ _ i _ _ (by rw [List.getElem?_map,Array.getElem?_toList,hi];rfl) (by rw [List.getElem?_map,hxi];rfl) k hk
end
structure ScT (P:Program) (tS tTs tT tRs tR tFs tF tE tEs tI tN:TypeId):Prop where
 int:P.underlying tI=some (.int .i64)
 str:P.underlying tN=some .string
 ex:∃ f0 f1 f2 f3,P.underlying tE=some (.struct #[f0,f1,f2,f3])∧f0.type=tI∧f0.offset=0∧f1.type=tN∧f1.offset=1∧f2.type=tN∧f2.offset=2∧f3.type=tEs∧f3.offset=3
 exs:P.underlying tEs=some (.slice tE)
 rf:∃ f0 f1,P.underlying tF=some (.struct #[f0,f1])∧f0.type=tN∧f0.offset=0∧f1.type=tN∧f1.offset=1
 rfs:P.underlying tFs=some (.slice tF)
 rl:∃ f0 f1 f2,P.underlying tR=some (.struct #[f0,f1,f2])∧f0.type=tN∧f0.offset=0∧f1.type=tFs∧f1.offset=1∧f2.type=tE∧f2.offset=2
 rls:P.underlying tRs=some (.slice tR)
 ty:∃ f0 f1,P.underlying tT=some (.struct #[f0,f1])∧f0.type=tN∧f0.offset=0∧f1.type=tRs∧f1.offset=1
 tys:P.underlying tTs=some (.slice tT)
 sc:∃ f0,P.underlying tS=some (.struct #[f0])∧f0.type=tTs∧f0.offset=0
 cI:P.cellsOf tI=1
 cN:P.cellsOf tN=1
 cE:P.cellsOf tE=4
 cEs:P.cellsOf tEs=1
 cF:P.cellsOf tF=2
 cFs:P.cellsOf tFs=1
 cR:P.cellsOf tR=6
 cRs:P.cellsOf tRs=1
 cT:P.cellsOf tT=2
 cTs:P.cellsOf tTs=1
 cS:P.cellsOf tS=1
 bE:1≤P.bytesOf tE
 bF:1≤P.bytesOf tF
 bR:1≤P.bytesOf tR
 bT:1≤P.bytesOf tT
section
variable {H:Type} {enc:TypeId×Value→H} {P:Program} {w:World} {sp:Nat→Bool} {held:Bool} {tS tTs tT tRs tR tFs tF tE tEs tI tN:TypeId} (K:ScT P tS tTs tT tRs tR tFs tF tE tEs tI tN)
include K
theorem open_ex:∀ (n:Nat) (cs:List Value) (x:DataW H×List MemPlace),Wt P tE x.1→DataW.trod enc P w 0 sp held n tE cs=some x→∃ e:Ex,OkE e∧RVs (Old w) w (exC e) cs:=by
 intro n
 induction n using Nat.strongRecOn with
 | _ n ih=>
  intro cs x hw h
  obtain ⟨f0,f1,f2,f3,hu,a0,b0,a1,b1,a2,b2,a3,b3⟩:=K.ex
  obtain ⟨hl,m,rfl,hf⟩:=q3e hu hw h
  rw [K.cE] at hl
  obtain ⟨c0,c1,c2,c3,rfl⟩:∃ c0 c1 c2 c3,cs=[c0,c1,c2,c3]:=by
   match cs,hl with
   | [c0,c1,c2,c3],_=>exact ⟨_,_,_,_,rfl⟩
  obtain ⟨y0,w0,h0⟩:=hf 0 f0 rfl
  obtain ⟨y1,w1,h1⟩:=hf 1 f1 rfl
  obtain ⟨y2,w2,h2⟩:=hf 2 f2 rfl
  obtain ⟨y3,w3,h3⟩:=hf 3 f3 rfl
  rw [a0,b0,K.cI] at h0
  rw [a1,b1,K.cN] at h1
  rw [a2,b2,K.cN] at h2
  rw [a3,b3,K.cEs] at h3
  rw [a1] at w1
  rw [a2] at w2
  rw [a3] at w3
  obtain ⟨z,e0⟩:=open_int' K.int h0
  obtain ⟨s1,g1,e1⟩:=q2k K.str w1 h1
  obtain ⟨s2,g2,e2⟩:=q2k K.str w2 h2
  obtain ⟨l,v,g3,g4,e3,g5⟩:=q62 (enc':=exC) (good:=OkE) K.exs K.cE (by decide) exC_len K.bE w3 (fun k hk cs x hw h=>ih k (by omega) cs x hw h) h3
  simp at e0 e1 e2 e3
  subst e0;subst e1;subst e2;subst e3
  refine ⟨.mk z s1 s2 l,.mk z s1 s2 l g4 g1 g2 g3,?_⟩
  rw [q0d]
  exact .cons (.int _ _) (.cons (.str _) (.cons (.str _) (.cons g5 .nil)))
theorem open_rf {n:Nat} {cs:List Value} {x:DataW H×List MemPlace} (hw:Wt P tF x.1) (h:DataW.trod enc P w 0 sp held n tF cs=some x):∃ f:Rf,OkF f∧RVs (Old w) w (rfC f) cs:=by
 obtain ⟨f0,f1,hu,a0,b0,a1,b1⟩:=K.rf
 obtain ⟨hl,m,rfl,hf⟩:=q3e hu hw h
 rw [K.cF] at hl
 obtain ⟨c0,c1,rfl⟩:∃ c0 c1,cs=[c0,c1]:=by
  match cs,hl with
  | [c0,c1],_=>exact ⟨_,_,rfl⟩
 obtain ⟨y0,w0,h0⟩:=hf 0 f0 rfl
 obtain ⟨y1,w1,h1⟩:=hf 1 f1 rfl
 rw [a0,b0,K.cN] at h0
 rw [a1,b1,K.cN] at h1
 rw [a0] at w0
 rw [a1] at w1
 obtain ⟨s1,g1,e1⟩:=q2k K.str w0 h0
 obtain ⟨s2,g2,e2⟩:=q2k K.str w1 h1
 simp at e1 e2
 subst e1;subst e2
 exact ⟨⟨s1,s2⟩,⟨g1,g2⟩,.cons (.str _) (.cons (.str _) .nil)⟩
theorem open_rl {n:Nat} {cs:List Value} {x:DataW H×List MemPlace} (hw:Wt P tR x.1) (h:DataW.trod enc P w 0 sp held n tR cs=some x):∃ r:Rl,OkR r∧RVs (Old w) w (rlC r) cs:=by
 obtain ⟨f0,f1,f2,hu,a0,b0,a1,b1,a2,b2⟩:=K.rl
 obtain ⟨hl,m,rfl,hf⟩:=q3e hu hw h
 rw [K.cR] at hl
 obtain ⟨c0,c1,c2,c3,c4,c5,rfl⟩:∃ c0 c1 c2 c3 c4 c5,cs=[c0,c1,c2,c3,c4,c5]:=by
  match cs,hl with
  | [c0,c1,c2,c3,c4,c5],_=>exact ⟨_,_,_,_,_,_,rfl⟩
 obtain ⟨y0,w0,h0⟩:=hf 0 f0 rfl
 obtain ⟨y1,w1,h1⟩:=hf 1 f1 rfl
 obtain ⟨y2,w2,h2⟩:=hf 2 f2 rfl
 rw [a0,b0,K.cN] at h0
 rw [a1,b1,K.cFs] at h1
 rw [a2,b2,K.cE] at h2
 rw [a0] at w0
 rw [a1] at w1
 rw [a2] at w2
 obtain ⟨s1,g1,e1⟩:=q2k K.str w0 h0
 obtain ⟨l,v,g3,g4,e3,g5⟩:=q62 (enc':=rfC) (good:=OkF) K.rfs K.cF (by decide) (fun _=>rfl) K.bF w1 (fun k _ cs x hw h=>open_rf K hw h) h1
 obtain ⟨e,g6,g7⟩:=open_ex K _ _ _ w2 h2
 simp at e1 e3
 subst e1;subst e3
 exact ⟨⟨s1,l,e⟩,⟨g1,g4,g3,g6⟩,.cons (.str _) (.cons g5 g7)⟩
theorem open_ty {n:Nat} {cs:List Value} {x:DataW H×List MemPlace} (hw:Wt P tT x.1) (h:DataW.trod enc P w 0 sp held n tT cs=some x):∃ t:Ty,OkT t∧RVs (Old w) w (tyC t) cs:=by
 obtain ⟨f0,f1,hu,a0,b0,a1,b1⟩:=K.ty
 obtain ⟨hl,m,rfl,hf⟩:=q3e hu hw h
 rw [K.cT] at hl
 obtain ⟨c0,c1,rfl⟩:∃ c0 c1,cs=[c0,c1]:=by
  match cs,hl with
  | [c0,c1],_=>exact ⟨_,_,rfl⟩
 obtain ⟨y0,w0,h0⟩:=hf 0 f0 rfl
 obtain ⟨y1,w1,h1⟩:=hf 1 f1 rfl
 rw [a0,b0,K.cN] at h0
 rw [a1,b1,K.cRs] at h1
 rw [a0] at w0
 rw [a1] at w1
 obtain ⟨s1,g1,e1⟩:=q2k K.str w0 h0
 obtain ⟨l,v,g3,g4,e3,g5⟩:=q62 (enc':=rlC) (good:=OkR) K.rls K.cR (by decide) rlC_len K.bR w1 (fun k _ cs x hw h=>open_rl K hw h) h1
 simp at e1 e3
 subst e1;subst e3
 exact ⟨⟨s1,l⟩,⟨g1,g4,g3⟩,.cons (.str _) (.cons g5 .nil)⟩
theorem open_sc {v:Value} {d:DataW H} {ps:List MemPlace} (hw:Wt P tS d) (h:DataW.Trod enc P w 0 sp held tS v d ps) (hv:∃ vs,v=.agg vs):∃ s:List Ty,OkS s∧RV (Old w) w (scA s) v:=by
 obtain ⟨n,h⟩:=h
 obtain ⟨vs,rfl⟩:=hv
 obtain ⟨f0,hu,a0,b0⟩:=K.sc
 obtain ⟨hl,m,rfl,hf⟩:=q3e (x:=(d,ps)) hu hw h
 rw [K.cS] at hl
 obtain ⟨y0,w0,h0⟩:=hf 0 f0 rfl
 rw [a0,b0,K.cTs] at h0
 rw [a0] at w0
 obtain ⟨l,v,g3,g4,e3,g5⟩:=q62 (enc':=tyC) (good:=OkT) K.tys K.cT (by decide) (fun _=>rfl) K.bT w0 (fun k _ cs x hw h=>open_ty K hw h) h0
 refine ⟨l,⟨g4,g3⟩,?_⟩
 have hc:(Value.agg vs).cells.toList=vs.toList:=by simp [Value.cells]
 rw [hc] at hl e3
 have hvs:vs.toList=[v]:=by
  match hq:vs.toList,hl with
  | [c],_=>rw [hq] at e3;simpa using e3
 refine .agg _ vs (by rw [← Array.length_toList,hvs];rfl) fun i u hi=>?_
 match i,hi with
 | 0,hi=>
  simp at hi
  subst hi
  have:vs.getD 0 undef=v:=by
   have h9:vs=#[v]:=by
    apply Array.toList_inj.1
    rw [hvs]
   rw [h9];rfl
  rw [this]
  exact g5
end
open Go.ChangeShapes Go.WideShapes Go.RowKit
theorem below_of {R R':Nat→Prop} {S':q00} {w w':World} (h:Step R emp w R' S' w'):Below w.heap.size w w':=⟨h.os,h.tape,h.output,h.size,fun k hk=>(h.keep k hk rfl).1⟩
theorem sim_old (w:World):Sim (Old w) emp w:=⟨fun b o h=>(by cases h),fun b h=>⟨rfl,h⟩⟩
theorem call_true {f:Nat} {args:List AV} {vs:Array Value} {w:World} (hok:callOk PG f=true) (h:AFun PG f args (.bool true)) (hv:RVs (Old w) w args vs.toList):Calls PG f vs w fun en w'=>en=.returned (.bool true)∧Below w.heap.size w w':=by
 refine ((h emp (Old w) w vs (sim_old w) hv).calls hok).mono fun en w' ⟨R',S',ae,h1,h2,h3,h4⟩=>?_
 obtain ⟨rfl,rfl⟩:=h2
 cases en with
 | returned v=>
  have h1:RV R' w' (.bool true) v:=h1
  cases h1
  exact ⟨rfl,below_of h4⟩
 | _=>exact h1.elim
section
variable {H:Type} {enc:TypeId×Value→H} {P:Program}
theorem q3q {W W':World} (hl:laidOutB P=true) (hb:Below W.heap.size W W') {sp':Nat→Bool}:∀ {ts:List TypeId} {vs:List Value} {ds:List (DataW H)} {ps:List MemPlace},(∀ t∈ts,P.readableRec t=true∧t<P.types.size)→DataW.TrodAll enc P W 0 (fun _=>true) true ts vs ds ps →
  (∀ p∈ps,p.block<W.heap.size)→(∀ p∈ps,sp' p.block=true)→DataW.TrodAll enc P W' 0 sp' true ts vs ds ps
 | [],vs,ds,ps,_,h,_,_=>by
  obtain ⟨rfl,rfl,rfl⟩:=trodAll_nil h
  exact trodAll_mk0
 | t :: ts,vs,ds,ps,ht,h,h1,h2=>by
  obtain ⟨v,vs1,d,ds1,a,b,rfl,rfl,rfl,k1,k2⟩:=trodAll_cons h
  have ht0:=ht t (by simp)
  exact ⟨a,b,WideElems.Trod_stays hl ht0.1 ht0.2 k1 (fun p hp=>hb.same (h1 p (List.mem_append_left _ hp))) (fun p hp=>h2 p (List.mem_append_left _ hp)),
   q3q hl hb (fun t h=>ht t (List.mem_cons_of_mem _ h)) k2 (fun p hp=>h1 p (List.mem_append_right _ hp)) (fun p hp=>h2 p (List.mem_append_right _ hp)),rfl⟩
theorem post_kept {f:Func} {s:ChangeSpec} {apart fresh handsOn again:Bool} {W W':World} {args:Array Value} {ds gs:List (DataW H)} {before:List MemPlace} {tb:TypeId}
  (hl:laidOutB P=true) (hts:∀ t∈f.params.toList,P.readableRec t=true∧t<P.types.size) (hvars:s.vars=[])
  (hW:DataW.Whole enc P f.params.toList s.vars apart W args.toList ds gs before) (hfn:(s.fn H (ds++gs)).results=[.lit (.bool true)]∧(s.fn H (ds++gs)).args=ds∧(s.fn H (ds++gs)).vars=[])
  (hr:f.resultTypes=#[tb]) (hb:P.underlying tb=some .bool) (hB:Below W.heap.size W W'):s.post enc P f apart fresh handsOn again W args (.bool true) W':=by
 have hlt:=hW.lt
 have hW0:=hW
 obtain ⟨p,q,hA,hV,rfl,hz,hn⟩:=hW
 rw [hvars] at hV
 obtain ⟨rfl,rfl⟩:=trodVars_none hV
 rw [List.append_nil] at *
 obtain ⟨e1,e2,e3⟩:=hfn
 have hold:∀ x∈p,(fun b=>decide (b<W.heap.size)) x.block=true:=fun x hx=>by simpa using hlt x hx
 have hres:∀ (b:Nat) (sp:Nat→Bool) (hd:Bool),DataW.TrodAll enc P W' b sp hd f.resultTypes.toList ((Value.bool true).resultList f.resultTypes.size) [.lit (.bool true)] []:=fun b sp hd=>by
  rw [hr]
  exact trodAll_mk1 (shut_bool hb true)
 refine ⟨ds,[],p,[],p,[],hW0,by rw [List.append_nil,e1];exact hres _ _ _,by rw [List.append_nil,e2];exact q3q hl hB hts hA hlt hold,by rw [List.append_nil,hvars,e3];exact rfl,hB.frame _,fun _=>?_⟩
 refine ⟨ok_one hr rfl (okWide_bool_mk hb true),_,[],([]++p)++[],⟨[]++p,[],trodAll_append (q3q hl hB hts hA hlt (fun _ _=>rfl)) (hres _ _ _),by rw [hvars];exact rfl,rfl,?_,?_⟩,?_⟩
 ·intro b off hp
  have hp:MemPlace.cell b off∈p:=by simpa using hp
  rw [hB.frozen (p:=⟨b,off,none⟩) (hlt _ hp)]
  exact hz b off hp
 ·intro ha
  simpa using hn ha
 ·intro x hx _
  simpa using hx
end
structure TuT (P:Program) (tL tU tD tO tN:TypeId):Prop where
 str:P.underlying tN=some .string
 ob:∃ f0 f1,P.underlying tO=some (.struct #[f0,f1])∧f0.type=tN∧f0.offset=0∧f1.type=tN∧f1.offset=1
 nd:∃ f0 f1,P.underlying tD=some (.struct #[f0,f1])∧f0.type=tO∧f0.offset=0∧f1.type=tN∧f1.offset=2
 tu:∃ f0 f1 f2,P.underlying tU=some (.struct #[f0,f1,f2])∧f0.type=tO∧f0.offset=0∧f1.type=tN∧f1.offset=2∧f2.type=tD∧f2.offset=3
 tus:P.underlying tL=some (.slice tU)
 cN:P.cellsOf tN=1
 cO:P.cellsOf tO=2
 cD:P.cellsOf tD=3
 cU:P.cellsOf tU=6
 bU:1≤P.bytesOf tU
section
variable {H:Type} {enc:TypeId×Value→H} {P:Program} {w:World} {sp:Nat→Bool} {held:Bool} {tL tU tD tO tN:TypeId} (K:TuT P tL tU tD tO tN)
include K
theorem open_ob {n:Nat} {cs:List Value} {x:DataW H×List MemPlace} (hw:Wt P tO x.1) (h:DataW.trod enc P w 0 sp held n tO cs=some x):∃ o:Ob,OkO o∧cs=[.string o.ty,.string o.id]:=by
 obtain ⟨f0,f1,hu,a0,b0,a1,b1⟩:=K.ob
 obtain ⟨hl,m,rfl,hf⟩:=q3e hu hw h
 rw [K.cO] at hl
 obtain ⟨c0,c1,rfl⟩:∃ c0 c1,cs=[c0,c1]:=by
  match cs,hl with
  | [c0,c1],_=>exact ⟨_,_,rfl⟩
 obtain ⟨y0,w0,h0⟩:=hf 0 f0 rfl
 obtain ⟨y1,w1,h1⟩:=hf 1 f1 rfl
 rw [a0,b0,K.cN] at h0
 rw [a1,b1,K.cN] at h1
 rw [a0] at w0
 rw [a1] at w1
 obtain ⟨s1,g1,e1⟩:=q2k K.str w0 h0
 obtain ⟨s2,g2,e2⟩:=q2k K.str w1 h1
 simp at e1 e2
 subst e1;subst e2
 exact ⟨⟨s1,s2⟩,⟨g1,g2⟩,rfl⟩
theorem open_nd {n:Nat} {cs:List Value} {x:DataW H×List MemPlace} (hw:Wt P tD x.1) (h:DataW.trod enc P w 0 sp held n tD cs=some x):∃ o:Nd,OkD o∧cs=[.string o.o.ty,.string o.o.id,.string o.rl]:=by
 obtain ⟨f0,f1,hu,a0,b0,a1,b1⟩:=K.nd
 obtain ⟨hl,m,rfl,hf⟩:=q3e hu hw h
 rw [K.cD] at hl
 obtain ⟨c0,c1,c2,rfl⟩:∃ c0 c1 c2,cs=[c0,c1,c2]:=by
  match cs,hl with
  | [c0,c1,c2],_=>exact ⟨_,_,_,rfl⟩
 obtain ⟨y0,w0,h0⟩:=hf 0 f0 rfl
 obtain ⟨y1,w1,h1⟩:=hf 1 f1 rfl
 rw [a0,b0,K.cO] at h0
 rw [a1,b1,K.cN] at h1
 rw [a0] at w0
 rw [a1] at w1
 obtain ⟨o,g1,e1⟩:=open_ob K w0 h0
 obtain ⟨s2,g2,e2⟩:=q2k K.str w1 h1
 simp at e1 e2
 obtain ⟨rfl,rfl⟩:=e1
 subst e2
 exact ⟨⟨o,s2⟩,⟨g1,g2⟩,rfl⟩
theorem open_tu {n:Nat} {cs:List Value} {x:DataW H×List MemPlace} (hw:Wt P tU x.1) (h:DataW.trod enc P w 0 sp held n tU cs=some x):∃ t:Tu,OkU t∧RVs (Old w) w (tuC t) cs:=by
 obtain ⟨f0,f1,f2,hu,a0,b0,a1,b1,a2,b2⟩:=K.tu
 obtain ⟨hl,m,rfl,hf⟩:=q3e hu hw h
 rw [K.cU] at hl
 obtain ⟨c0,c1,c2,c3,c4,c5,rfl⟩:∃ c0 c1 c2 c3 c4 c5,cs=[c0,c1,c2,c3,c4,c5]:=by
  match cs,hl with
  | [c0,c1,c2,c3,c4,c5],_=>exact ⟨_,_,_,_,_,_,rfl⟩
 obtain ⟨y0,w0,h0⟩:=hf 0 f0 rfl
 obtain ⟨y1,w1,h1⟩:=hf 1 f1 rfl
 obtain ⟨y2,w2,h2⟩:=hf 2 f2 rfl
 rw [a0,b0,K.cO] at h0
 rw [a1,b1,K.cN] at h1
 rw [a2,b2,K.cD] at h2
 rw [a0] at w0
 rw [a1] at w1
 rw [a2] at w2
 obtain ⟨o,g1,e1⟩:=open_ob K w0 h0
 obtain ⟨r,g2,e2⟩:=q2k K.str w1 h1
 obtain ⟨s,g3,e3⟩:=open_nd K w2 h2
 simp at e1 e2 e3
 obtain ⟨rfl,rfl⟩:=e1
 subst e2
 obtain ⟨rfl,rfl,rfl⟩:=e3
 exact ⟨⟨o,r,s⟩,⟨g1,g2,g3⟩,.cons (.str _) (.cons (.str _) (.cons (.str _) (.cons (.str _) (.cons (.str _) (.cons (.str _) .nil)))))⟩
theorem open_obj {v:Value} {d:DataW H} {ps:List MemPlace} (hw:Wt P tO d) (h:DataW.Trod enc P w 0 sp held tO v d ps) (hv:∃ vs,v=.agg vs):∃ o:Ob,OkO o∧RV (Old w) w (.agg (obC o)) v:=by
 obtain ⟨n,h⟩:=h
 obtain ⟨vs,rfl⟩:=hv
 obtain ⟨o,g,e⟩:=open_ob K (x:=(d,ps)) hw h
 have hc:(Value.agg vs).cells.toList=vs.toList:=by simp [Value.cells]
 rw [hc] at e
 have h9:vs=#[.string o.ty,.string o.id]:=Array.toList_inj.1 (by rw [e])
 subst h9
 refine ⟨o,g,.agg _ _ rfl fun i u hi=>?_⟩
 match i,hi with
 | 0,hi=>simp [obC] at hi;subst hi;exact .str _
 | 1,hi=>simp [obC] at hi;subst hi;exact .str _
theorem open_tus {v:Value} {d:DataW H} {ps:List MemPlace} (hw:Wt P tL d) (h:DataW.Trod enc P w 0 sp held tL v d ps) (hv:∃ a b c,v=.slice a b c):∃ l:List Tu,(∀ t∈l,OkU t)∧RV (Old w) w (.sl 6 (l.map tuC)) v:=by
 obtain ⟨n,h⟩:=h
 obtain ⟨a,b,c,rfl⟩:=hv
 obtain ⟨l,v,g1,g2,e,g3⟩:=q62 (enc':=tuC) (good:=OkU) (x:=(d,ps)) K.tus K.cU (by decide) (fun _=>rfl) K.bU hw (fun k _ cs x hw h=>open_tu K hw h) h
 have:v=.slice a b c:=by
  have:=congrArg List.head? e
  simpa [Value.cells] using this.symm
 subst this
 exact ⟨l,g1,g3⟩
end
end Go.HL
namespace Go.Proofs.YtadmdlpmikoghaaGreat
open Go.ChangeShapes Go.WideShapes Go.ChangeAt Go.RowKit Go.HL
theorem own:ownKnob Tryz.prog.godebug=none:=by kernel_rfl
theorem laidOut:laidOutB Tryz.prog=true:=by kernel_rfl
theorem scT:ScT Tryz.prog 24 22 46 44 53 48 171 51 49 3 9 where
 int:=Tryz.underlying3
 str:=Tryz.underlying9
 ex:=⟨_,_,_,_,Tryz.underlying51,rfl,rfl,rfl,rfl,rfl,rfl,rfl,rfl⟩
 exs:=Tryz.underlying49
 rf:=⟨_,_,Tryz.underlying171,rfl,rfl,rfl,rfl⟩
 rfs:=Tryz.underlying48
 rl:=⟨_,_,_,Tryz.underlying53,rfl,rfl,rfl,rfl,rfl,rfl⟩
 rls:=Tryz.underlying44
 ty:=⟨_,_,Tryz.underlying46,rfl,rfl,rfl,rfl⟩
 tys:=Tryz.underlying22
 sc:=⟨_,Tryz.underlying24,rfl,rfl⟩
 cI:=by kernel_rfl
 cN:=by kernel_rfl
 cE:=by kernel_rfl
 cEs:=by kernel_rfl
 cF:=by kernel_rfl
 cFs:=by kernel_rfl
 cR:=by kernel_rfl
 cRs:=by kernel_rfl
 cT:=by kernel_rfl
 cTs:=by kernel_rfl
 cS:=by kernel_rfl
 bE:=of_decide_eq_true (by kernel_rfl)
 bF:=of_decide_eq_true (by kernel_rfl)
 bR:=of_decide_eq_true (by kernel_rfl)
 bT:=of_decide_eq_true (by kernel_rfl)
theorem tuT:TuT Tryz.prog 25 41 39 27 9 where
 str:=Tryz.underlying9
 ob:=⟨_,_,Tryz.underlying27,rfl,rfl,rfl,rfl⟩
 nd:=⟨_,_,Tryz.underlying39,rfl,rfl,rfl,rfl⟩
 tu:=⟨_,_,_,Tryz.underlying41,rfl,rfl,rfl,rfl,rfl,rfl⟩
 tus:=Tryz.underlying25
 cN:=by kernel_rfl
 cO:=by kernel_rfl
 cD:=by kernel_rfl
 cU:=by kernel_rfl
 bU:=of_decide_eq_true (by kernel_rfl)
theorem weights_one {H:Type} {P:Program} {t:TypeId} {d:DataW H} {ts:List TypeId} {ds:List (DataW H)} (h:(DataW.weightsEach P (t :: ts) (d :: ds)).all (·≤reachBytes)=true):Wt P t d∧(DataW.weightsEach P ts ds).all (·≤reachBytes)=true:=by
 simp only [DataW.weightsEach,List.all_append,Bool.and_eq_true,List.all_eq_true,decide_eq_true_eq] at h
 refine ⟨h.1,?_⟩
 rw [List.all_eq_true]
 exact fun x hx=>decide_eq_true (h.2 x hx)
theorem trodAll_six {H:Type} {enc:TypeId×Value→H} {P:Program} {w:World} {base:Nat} {spare:Nat→Bool} {held:Bool} {t0 t1 t2 t3 t4 t5:TypeId} {args:Array Value} {ds:List (DataW H)} {ps:List MemPlace} (h:DataW.TrodAll enc P w base spare held [t0,t1,t2,t3,t4,t5] args.toList ds ps) :
  ∃ v0 v1 v2 v3 v4 v5 d0 d1 d2 d3 d4 d5 p0 p1 p2 p3 p4 p5,args=#[v0,v1,v2,v3,v4,v5]∧ds=[d0,d1,d2,d3,d4,d5]∧ps=p0++(p1++(p2++(p3++(p4++(p5)))))∧DataW.Trod enc P w base spare held t0 v0 d0 p0∧DataW.Trod enc P w base spare held t1 v1 d1 p1∧DataW.Trod enc P w base spare held t2 v2 d2 p2∧DataW.Trod enc P w base spare held t3 v3 d3 p3∧DataW.Trod enc P w base spare held t4 v4 d4 p4∧DataW.Trod enc P w base spare held t5 v5 d5 p5:=by
 obtain ⟨v0,vs0,d0,ds0,p0,q0,hargs,rfl,rfl,h0,g0⟩:=trodAll_cons h
 obtain ⟨v1,vs1,d1,ds1,p1,q1,rfl,rfl,rfl,h1,g1⟩:=trodAll_cons g0
 obtain ⟨v2,vs2,d2,ds2,p2,q2,rfl,rfl,rfl,h2,g2⟩:=trodAll_cons g1
 obtain ⟨v3,vs3,d3,ds3,p3,q3,rfl,rfl,rfl,h3,g3⟩:=trodAll_cons g2
 obtain ⟨v4,vs4,d4,ds4,p4,q4,rfl,rfl,rfl,h4,g4⟩:=trodAll_cons g3
 obtain ⟨v5,vs5,d5,ds5,p5,q5,rfl,rfl,rfl,h5,g5⟩:=trodAll_cons g4
 obtain ⟨rfl,rfl,rfl⟩:=trodAll_nil g5
 exact ⟨v0,v1,v2,v3,v4,v5,d0,d1,d2,d3,d4,d5,p0,p1,p2,p3,p4,p5,by cases args;simp_all,rfl,by simp,h0,h1,h2,h3,h4,h5⟩
end Go.Proofs.YtadmdlpmikoghaaGreat
namespace Go.Proofs.YtadmdlpmikoghaaGreat
open Go.ChangeShapes Go.WideShapes Go.ChangeAt Go.RowKit Go.HL
theorem bulk_pos {H:Type} (d:DataW H):1≤Rows.uptoBulk d:=by
 cases d with
 | lit x=>cases x<;>simp [Rows.uptoBulk]
 | nil=>simp [Rows.uptoBulk]
 | ptr d=>simp [Rows.uptoBulk]
 | slice a b=>simp [Rows.uptoBulk]
 | agg a=>simp [Rows.uptoBulk]
 | iface a b=>simp [Rows.uptoBulk]
 | map a=>simp [Rows.uptoBulk]
 | held a=>simp [Rows.uptoBulk]
theorem bulk_len {H:Type}:∀ (l:List (DataW H)),l.length≤Rows.uptoBulkAll l
 | []=>Nat.zero_le _
 | d :: r=>by
  have h1:=bulk_len r
  have h2:=bulk_pos d
  simp only [Rows.uptoBulkAll,List.length_cons]
  omega
theorem tus_len {H:Type} {enc:TypeId×Value→H} {P:Program} {w:World} {sp:Nat→Bool} {held:Bool} {tL tU tD tO tN:TypeId} (K:TuT P tL tU tD tO tN) {v:Value} {d:DataW H} {ps:List MemPlace} (h:DataW.Trod enc P w 0 sp held tL v d ps) {R:Nat→Prop} {l:List Tu} (hv:∃ a b c,v=.slice a b c) (hr:RV R w (.sl 6 (l.map tuC)) v):l.length≤Rows.uptoBulk d:=by
 obtain ⟨n,h⟩:=h
 obtain ⟨a,b,c,rfl⟩:=hv
 have hcell:(Value.slice a b c).cells.toList=[.slice a b c]:=by simp [Value.cells]
 rw [hcell] at h
 have hl:l.length=(l.map tuC).length:=by rw [List.length_map]
 rw [hl]
 generalize l.map tuC=rows at hr
 rcases DataW.trod_slice K.tus h with ⟨e,hx⟩ | ⟨a',len,cap,elems,rest,m,rfl,e,hx,-,-,-,hlen,-⟩
 ·simp only [List.cons.injEq,Value.slice.injEq,and_true] at e
  obtain ⟨rfl,rfl,rfl⟩:=e
  cases hr with
  | sl0=>exact Nat.zero_le _
 ·simp only [List.cons.injEq,Value.slice.injEq,and_true] at e
  obtain ⟨rfl,rfl,rfl⟩:=e
  cases hx
  have hb:elems.length≤Rows.uptoBulk (.slice (elems.map (·.1)) (rest.map (·.1)):DataW H):=by
   have:=bulk_len (elems.map (·.1))
   rw [List.length_map] at this
   simp only [Rows.uptoBulk]
   omega
  cases hr with
  | sl0=>exact Nat.zero_le _
  | sl _ _ _ _ _ _ k1=>omega
theorem handed_cond {H:Type} {enc:TypeId×Value→H} {a:Assume} {C:Checked} {os:Os} {f:FuncId} {fn:Func} {s:OpenSpec} {k:(H:Type)→List (DataW H)→Bool} (hk:s.cond=some k) {F:Stop.Interp} {conds:List PathCond} {apart fresh handsOn again:Bool}
  (own:ownKnob C.prog.godebug=none) (started:os.Started) (noInit:C.prog.inits.idxOf? f=none) (hfn:C.prog.funcs[f]?=some fn)
  (witness:∃ (w:World) (tape:Tape) (i:Input),w.os=os∧(w.forCall tape i).Shaped C.prog∧i.vars=[]∧Input.okWide C.prog (w.forCall tape i) .any w.heap.size f i ∧
   s.pre6 enc C.prog fn conds apart (w.forCall tape i).memory i.args∧a.holds C.prog (lone (Frame.enter C.prog f i.args .normal) [] (w.forCall tape i)))
  (contract:∀ (W:World) (base:Nat) (args:Array Value) (ds gs:List (DataW H)) (before:List MemPlace),
   (∀ (j:Nat) t v,fn.params[j]?=some t→args[j]?=some v→Value.okWide C.prog W .any base t v) →
   DataW.Whole enc C.prog fn.params.toList s.vars apart W args.toList ds gs before→k H (ds++gs)=true →
   (DataW.weightsEach C.prog (fn.params.toList++s.bare.plain.varTypes C.prog) (ds++gs)).all (·≤reachBytes)=true →
   Calls C.prog f args W fun e W'=>∃ v,e=.returned v∧(s.at F).post enc C.prog fn apart fresh handsOn again W args v W') :
  ReturnsInHanded a C os f .any (s.pre6 enc C.prog fn conds apart) ((s.at F).post enc C.prog fn apart fresh handsOn again):=by
 refine returnsInHanded_of_calls own started noInit witness ?_
 intro w tape i _ _ _ hok hpre _
 obtain ⟨_,_,_,fn',hfn',_,_,_,_,hval⟩:=hok
 have e:fn'=fn:=Option.some.inj (hfn'.symm.trans hfn)
 subst e
 obtain ⟨ds,gs,before,hw,-,hkk⟩:=(OpenSpec.pre_some hk conds apart _ _).1 hpre.1
 have hw':=DataW.Whole.of_heap (w':=w.forCall tape i) (by rfl) hw
 refine (contract (w.forCall tape i) w.heap.size i.args ds gs before hval hw' hkk (hpre.2.weights hw)).mono fun e W' ⟨v,he,hp⟩=>?_
 subst he
 exact ChangeSpec.post_blind hp
set_option maxRecDepth 100000 in
theorem graphMoreUpto_lifted (os:Os) (started:os.Started) (H:Type) (enc:TypeId×Value→H) (F0:Stop.Interp) :
  ReturnsInHanded {} Tryz.checked os 8 .any ((Rows.OpenSpec.upto Rows.graphMoreSpec).pre6 enc Tryz.prog Tryz.f8 Rows.graphMoreUptoRow.domain false) (((Rows.OpenSpec.upto Rows.graphMoreSpec).at F0).post enc Tryz.prog Tryz.f8 false true false false):=by
 refine handed_cond (C:=Tryz.checked) (s:=Rows.OpenSpec.upto Rows.graphMoreSpec) (k:=Rows.uptoSmall) rfl own started (by kernel_rfl) Tryz.func8
  (OpenSpec.witness (enc:=enc) (C:=Tryz.checked) (s:=Rows.OpenSpec.upto Rows.graphMoreSpec) (k:=Rows.uptoSmall) rfl false ⟨#[],#[.agg #[.slice none 0 0],.slice none 0 0,.slice none 0 0,.agg #[.string ⟨#[]⟩,.string ⟨#[]⟩],.string ⟨#[]⟩,.agg #[.string ⟨#[]⟩,.string ⟨#[]⟩]],[]⟩ 8 (by kernel_rfl) (by kernel_rfl) (by kernel_rfl)
   (x:=([.agg [.nil],.nil,.nil,.agg [.lit (.string []),.lit (.string [])],.lit (.string []),.agg [.lit (.string []),.lit (.string [])]],[],[])) (by kernel_rfl) (by kernel_rfl) (by kernel_rfl)) ?_
 intro W base args ds gs before hval0 hW hbulk hsz0
 have hval:∀ (j:Nat) t v,Tryz.f8.params[j]?=some t→args[j]?=some v→Value.okWide Tryz.prog W .any base t v:=hval0
 have hsz:(DataW.weightsEach Tryz.prog (Tryz.f8.params.toList++[]) (ds++gs)).all (·≤reachBytes)=true:=hsz0
 have hW':=hW
 obtain ⟨p,q,hA0,hV,rfl,hfz,hnd⟩:=hW
 have hA:DataW.TrodAll enc Tryz.prog W 0 (fun _=>true) true Tryz.f8.params.toList args.toList ds p:=hA0
 rw [Tryz.params8] at hA hval hsz
 obtain ⟨v0,v1,v2,v3,v4,v5,d0,d1,d2,d3,d4,d5,p0,p1,p2,p3,p4,p5,rfl,rfl,rfl,h0,h1,h2,h3,h4,h5⟩:=trodAll_six hA
 obtain ⟨rfl,rfl⟩:=trodVars_none hV
 obtain ⟨w0,hsz⟩:=weights_one hsz
 obtain ⟨w1,hsz⟩:=weights_one hsz
 obtain ⟨w2,hsz⟩:=weights_one hsz
 obtain ⟨w3,hsz⟩:=weights_one hsz
 obtain ⟨-,hsz⟩:=weights_one hsz
 obtain ⟨w5,hsz⟩:=weights_one hsz
 obtain ⟨vs0,hvs0,-⟩:=okWide_struct Tryz.underlying24 (hval 0 24 v0 rfl rfl)
 obtain ⟨a0,hs0,hv0⟩:=open_sc scT w0 h0 ⟨vs0,hvs0⟩
 obtain ⟨a1,hs1,hv1⟩:=open_tus tuT w1 h1 (okWide_slice Tryz.underlying25 (hval 1 25 v1 rfl rfl))
 obtain ⟨a2,hs2,hv2⟩:=open_tus tuT w2 h2 (okWide_slice Tryz.underlying25 (hval 2 25 v2 rfl rfl))
 obtain ⟨vs3,hvs3,-⟩:=okWide_struct Tryz.underlying27 (hval 3 27 v3 rfl rfl)
 obtain ⟨a3,hs3,hv3⟩:=open_obj tuT w3 h3 ⟨vs3,hvs3⟩
 obtain ⟨a4,rfl,-,-,-⟩:=Go.ChangeMaps.open_string Tryz.underlying9 (hval 4 9 v4 rfl rfl) h4
 obtain ⟨vs5,hvs5,-⟩:=okWide_struct Tryz.underlying27 (hval 5 27 v5 rfl rfl)
 obtain ⟨a5,hs5,hv5⟩:=open_obj tuT w5 h5 ⟨vs5,hvs5⟩
 simp only [Rows.uptoSmall,Rows.uptoBulkAll,List.cons_append,List.nil_append,decide_eq_true_eq] at hbulk
 have bl1:=tus_len tuT h1 (okWide_slice Tryz.underlying25 (hval 1 25 v1 rfl rfl)) hv1
 have bl2:=tus_len tuT h2 (okWide_slice Tryz.underlying25 (hval 2 25 v2 rfl rfl)) hv2
 clear hA0 hval0 hsz0
 refine (call_true (by kernel_rfl) (c_GraphMore hs0 hs1 hs2 (by omega) (by omega) a3 a4 a5) (vs:=#[v0,v1,v2,v3,.string a4,v5]) (.cons hv0 (.cons hv1 (.cons hv2 (.cons hv3 (.cons (.str _) (.cons hv5 .nil))))))).mono fun e W' ⟨he,hB⟩=>?_
 subst he
 have hts:(Tryz.f8.params.toList.all fun t=>Tryz.prog.readableRec t&&decide (t<Tryz.prog.types.size))=true:=by kernel_rfl
 exact ⟨_,rfl,post_kept laidOut (fun t ht=>by have h:=List.all_eq_true.1 hts t ht;rw [Bool.and_eq_true] at h;exact ⟨h.1,of_decide_eq_true h.2⟩) rfl hW' ⟨rfl,rfl,rfl⟩ (tb:=4) (by kernel_rfl) Tryz.underlying4 hB⟩
set_option maxRecDepth 100000 in
theorem graphMoreUpto_p0:(Rows.graphMoreUptoRow.inPlace==Tryz.pinned.checked.prog.inPlace 8)=true:=by kernel_rfl
set_option maxRecDepth 100000 in
theorem graphMoreUpto_p1:(Rows.graphMoreUptoRow.unfollowed==Tryz.pinned.checked.prog.unfollowed 8)=true:=by kernel_rfl
set_option maxRecDepth 100000 in
theorem graphMoreUpto_p2:(Rows.graphMoreUptoRow.recurses==Tryz.pinned.checked.prog.recurses 8)=true:=by kernel_rfl
set_option maxRecDepth 100000 in
theorem graphMoreUpto_p3:(Rows.graphMoreUptoRow.named==Tryz.pinned.checked.prog.varsNamed 8)=true:=by kernel_rfl
set_option maxRecDepth 100000 in
theorem graphMoreUpto_p4:laidOutB Tryz.pinned.checked.prog=true:=by kernel_rfl
set_option maxRecDepth 100000 in
theorem graphMoreUpto_p5:mapsRowed Tryz.pinned.checked.prog=true:=by kernel_rfl
set_option maxRecDepth 100000 in
theorem graphMoreUpto_p6:Tryz.pinned.checked.prog.stopsHeard=true:=by kernel_rfl
set_option maxRecDepth 100000 in
theorem graphMoreUpto_p7:Tryz.pinned.checked.prog.mayEnter=true:=by kernel_rfl
set_option maxRecDepth 100000 in
theorem graphMoreUpto_closed:joinedFacts Tryz.pinned.checked.prog 8 Tryz.f8 (Rows.OpenSpec.upto Rows.graphMoreSpec).bare Rows.graphMoreUptoRow=true:=by
 unfold joinedFacts
 rw [graphMoreUpto_p0,graphMoreUpto_p1,graphMoreUpto_p2,graphMoreUpto_p3,graphMoreUpto_p4,graphMoreUpto_p5,graphMoreUpto_p6,graphMoreUpto_p7]
 kernel_rfl
theorem graphMoreUpto_holds:Rows.GraphMoreUptoSaid:=
 OpenClaim.holds_of_cond 8 Tryz.f8 rfl rfl rfl rfl rfl rfl rfl ⟨rfl,rfl,rfl,rfl,rfl⟩ rfl rfl rfl rfl rfl (by kernel_rfl) Tryz.func8 graphMoreUpto_closed
  (of_decide_eq_true (by kernel_rfl)) (by unfold Func.isWrapper;first | (rw [if_pos (by decide +kernel)];kernel_rfl) | (rw [if_neg (by decide +kernel)];exact ⟨rfl,rfl⟩))
  (fun os started H enc _ F0=>graphMoreUpto_lifted os started H enc F0)
end Go.Proofs.YtadmdlpmikoghaaGreat
