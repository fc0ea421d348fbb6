/- The law ListsObjects returns true for every input and leaves it as it was; no conditions. -/
import Derived.Test.YtadmdlpmikoghaaGreatKkM4
import Derived.ProofKit
import Derived.Carry
import Derived.Handed
import Derived.Test.YtadmdlpmikoghaaGreatRows
set_option maxRecDepth 4000
set_option linter.unusedSimpArgs false
set_option linter.unusedVariables false
namespace Go.HL
open Nat renaming reduceAdd→zA,reduceLeDiff→zB,reduceLT→zC,reduceSub→zD,reduceMul→zE,reduceEqDiff→zF,reduceBEq→zG
open Int renaming reduceAdd→zH,reduceToNat→zI
def ck (E:q23) (B:Int) (n:Nd):Bool×Int×Int:=
 if B<0∨100000<B∨errA (chkF E.s)≠0 then (false,0,1)
 else if q0l E.s n.o.ty n.rl=none then (false,0,6)
 else match askQ E B 50 [] n 0 with
  | none=>(false,0,12)
  | some (b,w)=>(b,w,0)
theorem chk15_ck {E:q23} {B:Int} {n:Nd}:chk15 E B n=.tup [.bool (ck E B n).1,.int .i64 (ck E B n).2.1,.int .i64 (ck E B n).2.2]:=by
 unfold chk15 ck
 split
 ·rfl
 ·split
  ·rfl
  ·cases askQ E B 50 [] n 0 with
   | none=>rfl
   | some p=>rfl
theorem ck_work {E:q23} {B:Int} {n:Nd} (h:(ck E B n).2.2=0):1≤(ck E B n).2.1∧(ck E B n).2.1≤B:=by
 unfold ck at h ⊢
 split at h
 ·cases h
 ·rename_i h1
  rw [if_neg h1]
  split at h
  ·cases h
  ·rename_i h2
   rw [if_neg h2]
   cases ha:askQ E B 50 [] n 0 with
   | none=>rw [ha] at h;cases h
   | some p=>
    obtain ⟨b,w⟩:=p
    have:=ask_work (by cases hq:q0l E.s n.o.ty n.rl with
     | none=>exact absurd hq h2
     | some _=>rfl) ha
    dsimp only
    omega
theorem counts_idem {s:List Ty} {l:List Tu}:q0g s (q0g s l)=q0g s l:=by
 unfold q0g
 rw [List.filter_filter]
 congr 1
 funext t
 simp
theorem env_counts16 {s:List Ty} {l:List Tu} {who:Ob}:envE s (q0g s l) who=envE s l who:=by
 unfold envE
 rw [counts_idem]
abbrev CkF:=Ob→Int→Bool×Int×Int
def evF (c:CkF) (B:Int):List Ob→List Ob→Int→List Ob×Int×Int
 | [],out,w=>(out,w,0)
 | o :: r,out,w=>if (c o (B-w)).2.2=0 then evF c B r (if (c o (B-w)).1=true then out++[o] else out) (w+(c o (B-w)).2.1) else ([],0,(c o (B-w)).2.2)
theorem evF_cons {c:CkF} {B:Int} {o:Ob} {r out:List Ob} {w:Int}:evF c B (o :: r) out w=if (c o (B-w)).2.2=0 then evF c B r (if (c o (B-w)).1=true then out++[o] else out) (w+(c o (B-w)).2.1) else ([],0,(c o (B-w)).2.2):=rfl
def eaA (x:List Ob×Int×Int):AV:=.tup [.sl 2 (x.1.map obC),.int .i64 x.2.1,.int .i64 x.2.2]
def CkOk (c:CkF):Prop:=∀ o b,(c o b).2.2=0→1≤(c o b).2.1∧(c o b).2.1≤b
theorem rt3 {S S1:q00} {v:AV} {M:List Ob} {w e:Int} {QF:AEnd→q00→Prop} (hs:Sub S S1) (h:LstN S S1 tyOb 2 v (M.map obC)) (hQ:QF (.ret (eaA (M,w,e))) S):rtW [.tmp v,.tmp (.int .i64 w),.tmp (.int .i64 e)] QF S1:=
 q5e S (eaA (M,w,e)) hs (Fr.tu (.cons (Fr.lst h) (.cons (.same _) (.cons (.same _) .nil)))) hQ
theorem c_each {M:List Ob} {g:Nat} {ca:List AV} {c:CkF} {B:Int} {S:q00} (hM:M.length≤100000) (hB:0≤B∧B≤100000) (hc:CkOk c)
  (hp:∀ S',Sub S S'→∀ o∈M,∀ b,AFunS PG g ([]++[.agg (obC o),.int .i64 b]++ca) S' (.tup [.bool (c o b).1,.int .i64 (c o b).2.1,.int .i64 (c o b).2.2])) :
  AFunS PG nrx71 [.sl 2 (M.map obC),.int .i64 B,.func (.func g) [] ca] S (eaA (evF c B M [] 0)):=by
 refine wx71 ?_
 unfold Bx71
 (try simp only [rwp,zA,zB,zC,zD,zE,zF,zG,zH,zI,rwb,reduceIte,List.length_map])
 refine LoopP.introS (fun x:Nat×AV×Int×List Ob=>[(1,.int .i64 B),(2,.func (.func g) [] ca),(9,x.2.1),(10,.int .i64 x.2.2.1),(16,.sl 2 (M.map obC)),(17,.int .i64 M.length),(18,.int .i64 x.1)])
  (fun x S'=>x.1≤M.length∧Sub S S'∧LstN S S' tyOb 2 x.2.1 (x.2.2.2.map obC)∧x.2.2.2.length≤x.1∧0≤x.2.2.1∧x.2.2.1≤B∧evF c B (M.drop x.1) x.2.2.2 x.2.2.1=evF c B M [] 0) (fun x=>M.length-x.1) (0,.nils,0,[])
  ⟨Nat.zero_le _,Sub.refl _,LstN.nil,Nat.le_refl _,Int.le_refl _,hB.1,rfl⟩ rfl ?_
 rintro ⟨i,v,w,out⟩ S1 ⟨hi,s1,o1,hl,hw0,hw1,he⟩ kk hkk
 dsimp only at hi o1 hl hw0 hw1 he ⊢
 (try simp only [rwp,zA,zB,zC,zD,zE,zF,zG,zH,zI,rwb,reduceIte,C71_1])
 cases a1:decide ((i:Int)<M.length)
 ·have e:i=M.length:=by have:=of_decide_eq_false a1;omega
  subst e
  rw [List.drop_length] at he
  (try simp only [rwp,zA,zB,zC,zD,zE,zF,zG,zH,zI,rwb,reduceIte])
  refine rt3 s1 o1 ⟨?_,rfl⟩
  rw [← he]
  rfl
 ·have hlt:=of_decide_eq_true a1
  obtain ⟨x,hx⟩:=q0h hlt
  rw [q0e hx,evF_cons] at he
  (try simp only [rwp,zA,zB,zC,zD,zE,zF,zG,zH,zI,rwb,reduceIte,List.getElem?_map,hx,obC])
  have q:=hp S1 s1 x (List.mem_of_getElem? hx) (B-w)
  simp only [obC] at q
  rw [show IntKind.i64.wrap (B-w)=B-w from by (try (simp (disch:=omega) only [q04]))]
  refine caW_atv q ?_
  (try simp only [rwp,zA,zB,zC,zD,zE,zF,zG,zH,zI,rwb,reduceIte])
  cases a2:decide ((c x (B-w)).2.2=0)
  ·rw [if_neg (of_decide_eq_false a2)] at he
   (try simp only [rwp,zA,zB,zC,zD,zE,zF,zG,zH,zI,rwb,reduceIte])
   refine rt3 (M:=[]) s1 LstN.nil ⟨?_,rfl⟩
   rw [← he]
  ·have h0:=of_decide_eq_true a2
   rw [if_pos h0] at he
   have hw:=hc x (B-w) h0
   cases a3:(c x (B-w)).1
   ·rw [a3,if_neg (by simp)] at he
    (try simp only [rwp,zA,zB,zC,zD,zE,zF,zG,zH,zI,rwb,reduceIte])
    (simp (disch:=omega) only [q04])
    exact q08 rfl (hkk (i+1,v,w+(c x (B-w)).2.1,out) S1 ⟨by dsimp only;omega,s1,o1,by dsimp only;omega,by dsimp only;omega,by dsimp only;omega,he⟩ (by dsimp only;omega))
   ·rw [a3,if_pos rfl] at he
    (try simp only [rwp,zA,zB,zC,zD,zE,zF,zG,zH,zI,rwb,reduceIte])
    refine LstN.app s1 o1 (xs:=[obC x]) (fun r hr=>by rw [List.mem_singleton.1 hr];rfl) (q1t fun r hr=>by rw [List.mem_singleton.1 hr];rfl) (by simp only [List.length_map,List.length_singleton];omega) fun v' S4 j1 j2 j3=>?_
    (simp (disch:=omega) only [q04])
    refine q08 rfl (hkk (i+1,v',w+(c x (B-w)).2.1,out++[x]) S4 ⟨by dsimp only;omega,j1,?_,by simp only [List.length_append,List.length_singleton];omega,by dsimp only;omega,by dsimp only;omega,he⟩ (by dsimp only;omega))
    dsimp only
    rw [List.map_append]
    exact j2
theorem c_rMay {s:List Ty} (hs:OkS s) (hN:OkN s) (B:Int):AFun PG nrx73 [scA s,.int .i64 B] (.bool (mayX s B)):=by
 intro S
 refine wx73 ?_
 unfold Bx73 mayX
 have q1:=q7v hs hN
 obtain ⟨x,y,z,hc⟩:=chkF_fl s
 have hz:errA (chkF s)=z:=by rw [hc,q28]
 rw [hc] at q1
 rw [hz]
 simp only [scA,flA] at q1
 (try simp only [rwp,zA,zB,zC,zD,zE,zF,zG,zH,zI,rwb,reduceIte,scA])
 refine q05 q1 ?_
 (try simp only [rwp,zA,zB,zC,zD,zE,zF,zG,zH,zI,rwb,reduceIte])
 cases a0:decide (z=0)<;>cases a1:decide (0≤B)
 ·(try simp only [rwp,zA,zB,zC,zD,zE,zF,zG,zH,zI,rwb,reduceIte,C73_1])
  exact q02 ⟨rfl,rfl⟩
 ·(try simp only [rwp,zA,zB,zC,zD,zE,zF,zG,zH,zI,rwb,reduceIte,C73_1])
  exact q02 ⟨by simp,rfl⟩
 ·(try simp only [rwp,zA,zB,zC,zD,zE,zF,zG,zH,zI,rwb,reduceIte,C73_1])
  exact q02 ⟨by simp,rfl⟩
 ·cases a2:decide (B≤100000)
  ·have:=of_decide_eq_false a2
   (try simp only [rwp,zA,zB,zC,zD,zE,zF,zG,zH,zI,rwb,reduceIte,C73_1])
   exact q02 ⟨by simp;omega,rfl⟩
  ·have:=of_decide_eq_true a2
   (try simp only [rwp,zA,zB,zC,zD,zE,zF,zG,zH,zI,rwb,reduceIte,C73_1])
   exact q02 ⟨by simp;omega,rfl⟩
def lobF (s:List Ty) (l:List Tu) (typ rel:ByteArray) (who:Ob) (B:Int):List Ob×Int×Int:=
 if mayX s B=true then (match q0l s typ rel with
  | none=>([],0,6)
  | some _=>evF (fun o b=>ck (envE s l who) b ⟨o,rel⟩) B (thiF (q0g s l) typ) [] 0)
 else ([],0,1)
theorem thi_len {L:List Tu} {typ:ByteArray}:(thiF L typ).length≤2 * L.length:=by
 unfold thiF
 obtain ⟨-,-,h⟩:=q6c stO (obsL L typ) _ rfl
 exact Nat.le_trans h q9v
theorem cnt_cell {s:List Ty} (hs:OkS s) {l:List Tu} (hl:OkL l) {S:q00} {b7 t:Nat} {x:AV} (hb:sget S b7=none) {K:q00→Prop} {Qp:AV→q00→Prop}
  (hK:∀ a S9,q0j S9 b7=some (t,[a],1)→one a=true→FrS (supd S b7 (.cells t [.sl 6 ((q0g s l).map tuC)] 1)) S9→Fr (supd S b7 (.cells t [.sl 6 ((q0g s l).map tuC)] 1)) S9 a (.sl 6 ((q0g s l).map tuC))→(∀ (S2:q00) (K2:AV→Prop),lnW S2 1 a K2=K2 (.int .i64 (q0g s l).length))→K S9) :
  caW PG (supd S b7 (.cells t [x] 1)) (.func (.func nrx70) [] []) [scA s,.sl 6 (l.map tuC)] (fun v S=>stW S 1 (.ptr b7 0) v K) Qp:=by
 refine q0b (c_lcounts hs hl _) ?_
 rintro ae S8 ⟨a,rfl,h1,h2⟩
 dsimp only
 have g8:sget S8 b7=some (.cells t [x] 1):=h1 _ _ (by rw [q01,if_pos rfl])
 have hone:one a=true:=by
  obtain ⟨-,⟨rfl,-⟩ | ⟨b,cap,cs,rfl,-⟩⟩:=h2<;>rfl
 obtain ⟨ha,-⟩:=one_aC hone
 have hfa:Fr (supd S b7 (.cells t [.sl 6 ((q0g s l).map tuC)] 1)) (supd S8 b7 (.cells t [a] 1)) a (.sl 6 ((q0g s l).map tuC)):=by
  obtain ⟨hr,⟨rfl,e⟩ | ⟨b,cap,cs,rfl,k1,k2,k3,k4,k5,k6⟩⟩:=h2
  ·rw [e];exact .nils 6
  ·have hne:b7≠b:=by
    rintro rfl
    rw [q01,if_pos rfl] at k1
    cases k1
   rw [q01,if_neg hne] at k1
   exact .ownW tyTu 6 b _ cap _ cs hr (by rw [q01,if_neg hne];exact k1) (by rw [q01,if_neg hne];exact k2) k3 rfl k5
 unfold stW q53
 dsimp only
 rw [objAt_some.2 g8]
 dsimp only
 rw [ha]
 refine ⟨rfl,by simp,by simp [ones,hone],?_⟩
 have e:q1n [x] 0 [a]=[a]:=rfl
 rw [e]
 refine hK a _ (by rw [objAt_supd,if_pos rfl]) hone (fun b o' hb'=>?_) hfa (fun S2 K2=>by rw [h2.ln,List.length_map])
 rw [q01] at hb' ⊢
 split at hb'
 ·rename_i e
  rw [if_pos e]
  cases hb'
  exact ⟨_,rfl,.cells _ _ _ _ (.cons hfa .nil)⟩
 ·rename_i e
  rw [if_neg e]
  exact ⟨o',h1 _ _ (by rw [q01,if_neg e];exact hb'),.same _⟩
theorem c_lObjects_1 {s:List Ty} (hs:OkS s) (hN:OkN s) {l:List Tu} (hl:OkL l) {S:q00} {b t:Nat} (hb:sget S b=some (.cells t [.sl 6 ((q0g s l).map tuC)] 1)) (rel:ByteArray) (who o:Ob) (B:Int) :
  AFunS PG nrx72 ([]++[.agg (obC o),.int .i64 B]++[.rop [.sl 2 (s.map tyC)],.ptr b 0,.rop [.str rel],.rop (obC who)]) S (.tup [.bool (ck (envE s l who) B ⟨o,rel⟩).1,.int .i64 (ck (envE s l who) B ⟨o,rel⟩).2.1,.int .i64 (ck (envE s l who) B ⟨o,rel⟩).2.2]):=by
 refine wx72 ?_
 unfold Bx72
 have hc:=q07 (objAt_some.2 hb)
 have q:=c_engine_Check hs hN (q4n hl (s:=s)) ⟨o,rel⟩ who B
 rw [env_counts16,chk15_ck] at q
 simp only [scA,obC] at q
 (try simp only [rwp,zA,zB,zC,zD,zE,zF,zG,zH,zI,rwb,reduceIte,obC,hc])
 refine q05 q ?_
 (try simp only [rwp,zA,zB,zC,zD,zE,zF,zG,zH,zI,rwb,reduceIte])
 exact q17 S (Sub.refl _) ⟨rfl,rfl⟩
theorem c_lObjects {s:List Ty} (hs:OkS s) (hN:OkN s) {l:List Tu} (hl:OkL l) (hlen:l.length≤127) (typ rel:ByteArray) (who:Ob) (B:Int) :
  AFun PG nrx32 [scA s,.sl 6 (l.map tuC),.str typ,.str rel,.agg (obC who),.int .i64 B] (eaA (lobF s l typ rel who B)):=by
 intro S
 refine wx32 ?_
 unfold Bx32
 have q1:=c_lmay hs hN B
 have q2:=q1q hs typ rel
 simp only [scA] at q1 q2
 (try simp only [rwp,zA,zB,zC,zD,zE,zF,zG,zH,zI,rwb,reduceIte,scA,obC])
 refine ⟨rfl,rfl,fun b7 hb7=>?_⟩
 refine q05 q1 ?_
 unfold lobF
 have hs7:∀ o,Sub S (supd S b7 o):=fun o=>Sub.fresh _ hb7
 cases hm:mayX s B
 ·rw [if_neg (by simp)]
  (try simp only [rwp,zA,zB,zC,zD,zE,zF,zG,zH,zI,rwb,reduceIte])
  exact rt3 (M:=[]) (hs7 _) LstN.nil ⟨rfl,rfl⟩
 ·rw [if_pos rfl]
  have hm':=hm
  unfold mayX at hm'
  simp only [Bool.and_eq_true,decide_eq_true_eq] at hm'
  (try simp only [rwp,zA,zB,zC,zD,zE,zF,zG,zH,zI,rwb,reduceIte])
  refine q0b (q2 _) ?_
  rintro ae S' ⟨rfl,rfl⟩
  cases hq:q0l s typ rel with
  | none=>
   dsimp only
   (try simp only [rwp,zA,zB,zC,zD,zE,zF,zG,zH,zI,rwb,reduceIte,q6w])
   exact rt3 (M:=[]) (hs7 _) LstN.nil ⟨rfl,rfl⟩
  | some p=>
   obtain ⟨fi,fk,r⟩:=p
   dsimp only
   (try simp only [rwp,zA,zB,zC,zD,zE,zF,zG,zH,zI,rwb,reduceIte,q0i])
   have q:=@cnt_cell s hs l hl S b7 25 (.sl 6 (l.map tuC)) hb7
   simp only [scA,q3u] at q
   refine q fun a S9 u1 u2 u3 u4 _=>?_
   have u5:=q07 u1
   (try simp only [rwp,zA,zB,zC,zD,zE,zF,zG,zH,zI,rwb,reduceIte,u5,u2])
   have hlc:(q0g s l).length≤l.length:=List.length_filter_le _ _
   have hln:=hl.n
   have q3:=c_lThings (L:=q0g s l) (by omega) typ (supd S b7 (.cells 25 [.sl 6 ((q0g s l).map tuC)] 1))
   refine q0b (ACalls.frz u3 (.cons u4 (.cons (.same _) .nil)) q3) ?_
   rintro ae S10 ⟨rfl,rfl⟩
   dsimp only
   have hthi:=@thi_len (q0g s l) typ
   have q4:=c_each (g:=nrx72) (ca:=[.rop [.sl 2 (s.map tyC)],.ptr b7 0,.rop [.str rel],.rop (obC who)]) (c:=fun o b=>ck (envE s l who) b ⟨o,rel⟩) (B:=B) (M:=thiF (q0g s l) typ)
    (S:=supd S b7 (.cells 25 [.sl 6 ((q0g s l).map tuC)] 1)) (by omega) ⟨hm'.1,hm'.2.1⟩ (fun o b=>ck_work) fun S' hS' o _ b=>c_lObjects_1 hs hN hl (hS' _ _ (by rw [q01,if_pos rfl])) rel who o b
   simp only [obC] at q4
   refine q1u q4 ?_
   unfold eaA
   (try simp only [rwp,zA,zB,zC,zD,zE,zF,zG,zH,zI,rwb,reduceIte])
   exact q17 S (hs7 _) ⟨rfl,rfl⟩
theorem c_rObjects {s:List Ty} (hs:OkS s) (hN:OkN s) {l:List Tu} (hl:OkL l) (hlen:l.length≤127) (typ rel:ByteArray) (who:Ob) (B:Int) :
  AFun PG nrx33 [scA s,.sl 6 (l.map tuC),.str typ,.str rel,.agg (obC who),.int .i64 B] (eaA (lobF s l typ rel who B)):=by
 intro S
 refine wx33 ?_
 unfold Bx33
 have q1:=c_rMay hs hN B
 have q2:=q3h hs typ rel
 have q3:=q69 hs hl
 simp only [scA] at q1 q2 q3
 (try simp only [rwp,zA,zB,zC,zD,zE,zF,zG,zH,zI,rwb,reduceIte,scA,obC])
 refine q05 q1 ?_
 unfold lobF
 cases hm:mayX s B
 ·rw [if_neg (by simp)]
  (try simp only [rwp,zA,zB,zC,zD,zE,zF,zG,zH,zI,rwb,reduceIte])
  exact rt3 (M:=[]) (Sub.refl _) LstN.nil ⟨rfl,rfl⟩
 ·rw [if_pos rfl]
  have hm':=hm
  unfold mayX at hm'
  simp only [Bool.and_eq_true,decide_eq_true_eq] at hm'
  (try simp only [rwp,zA,zB,zC,zD,zE,zF,zG,zH,zI,rwb,reduceIte])
  refine q0b (q2 _) ?_
  rintro ae S' ⟨rfl,rfl⟩
  cases hq:q0l s typ rel with
  | none=>
   dsimp only
   (try simp only [rwp,zA,zB,zC,zD,zE,zF,zG,zH,zI,rwb,reduceIte,q6w])
   exact rt3 (M:=[]) (Sub.refl _) LstN.nil ⟨rfl,rfl⟩
  | some p=>
   obtain ⟨fi,fk,r⟩:=p
   dsimp only
   (try simp only [rwp,zA,zB,zC,zD,zE,zF,zG,zH,zI,rwb,reduceIte,q0i])
   refine q05 q3 ?_
   have hlc:(q0g s l).length≤l.length:=List.length_filter_le _ _
   have hln:=hl.n
   refine q05 (c_rThings (L:=q0g s l) (by omega) typ) ?_
   have hthi:=@thi_len (q0g s l) typ
   generalize thiF (q0g s l) typ=M at hthi ⊢
   generalize hce:(fun o b=>ck (envE s l who) b ⟨o,rel⟩:CkF)=c
   have hc:CkOk c:=by rw [← hce];exact fun o b=>ck_work
   refine LoopP.introS (fun x:Nat×AV×Int×List Ob=>[(1,.sl 6 (l.map tuC)),(3,.str rel),(5,.int .i64 B),(6,.rop [.sl 2 (s.map tyC)]),(10,.rop [.str who.ty,.str who.id]),(18,x.2.1),(19,.int .i64 x.2.2.1),(20,.sl 2 (M.map obC)),(21,.int .i64 x.1)])
    (fun x S1=>x.1≤M.length∧Sub S' S1∧LstN S' S1 tyOb 2 x.2.1 (x.2.2.2.map obC)∧x.2.2.2.length≤x.1∧0≤x.2.2.1∧x.2.2.1≤B∧evF c B (M.drop x.1) x.2.2.2 x.2.2.1=evF c B M [] 0) (fun x=>M.length-x.1) (0,.nils,0,[])
    ⟨Nat.zero_le _,Sub.refl _,LstN.nil,Nat.le_refl _,Int.le_refl _,hm'.1,rfl⟩ rfl ?_
   rintro ⟨i,v,w,out⟩ S1 ⟨hi,s1,o1,hol,hw0,hw1,he⟩ kk hkk
   dsimp only at hi o1 hol hw0 hw1 he ⊢
   (try simp only [rwp,zA,zB,zC,zD,zE,zF,zG,zH,zI,rwb,reduceIte,C33_1,List.length_map])
   cases a1:decide ((i:Int)<M.length)
   ·have e:i=M.length:=by have:=of_decide_eq_false a1;omega
    subst e
    rw [List.drop_length] at he
    (try simp only [rwp,zA,zB,zC,zD,zE,zF,zG,zH,zI,rwb,reduceIte])
    refine rt3 s1 o1 ⟨?_,rfl⟩
    rw [← he]
    rfl
   ·have hlt:=of_decide_eq_true a1
    obtain ⟨x,hx⟩:=q0h hlt
    rw [q0e hx,evF_cons] at he
    have q:=c_ref15_Check hs hN hl ⟨x,rel⟩ who (B-w)
    rw [chk15_ck] at q
    have hcx:c x (B-w)=ck (envE s l who) (B-w) ⟨x,rel⟩:=by rw [← hce]
    rw [← hcx] at q
    simp only [scA,obC] at q
    (try simp only [rwp,zA,zB,zC,zD,zE,zF,zG,zH,zI,rwb,reduceIte,List.getElem?_map,hx,obC])
    rw [show IntKind.i64.wrap (B-w)=B-w from by (try (simp (disch:=omega) only [q04]))]
    refine q05 q ?_
    (try simp only [rwp,zA,zB,zC,zD,zE,zF,zG,zH,zI,rwb,reduceIte])
    cases a2:decide ((c x (B-w)).2.2=0)
    ·rw [if_neg (of_decide_eq_false a2)] at he
     (try simp only [rwp,zA,zB,zC,zD,zE,zF,zG,zH,zI,rwb,reduceIte])
     refine rt3 (M:=[]) s1 LstN.nil ⟨?_,rfl⟩
     rw [← he]
    ·have h0:=of_decide_eq_true a2
     rw [if_pos h0] at he
     have hw:=hc x (B-w) h0
     cases a3:(c x (B-w)).1
     ·rw [a3,if_neg (by simp)] at he
      (try simp only [rwp,zA,zB,zC,zD,zE,zF,zG,zH,zI,rwb,reduceIte])
      (simp (disch:=omega) only [q04])
      exact q08 rfl (hkk (i+1,v,w+(c x (B-w)).2.1,out) S1 ⟨by dsimp only;omega,s1,o1,by dsimp only;omega,by dsimp only;omega,by dsimp only;omega,he⟩ (by dsimp only;omega))
     ·rw [a3,if_pos rfl] at he
      (try simp only [rwp,zA,zB,zC,zD,zE,zF,zG,zH,zI,rwb,reduceIte,List.getElem?_map,hx,obC])
      refine LstN.app s1 o1 (xs:=[obC x]) (fun r hr=>by rw [List.mem_singleton.1 hr];rfl) (q1t fun r hr=>by rw [List.mem_singleton.1 hr];rfl) (by simp only [List.length_map,List.length_singleton];omega) fun v' S4 j1 j2 j3=>?_
      (simp (disch:=omega) only [q04])
      refine q08 rfl (hkk (i+1,v',w+(c x (B-w)).2.1,out++[x]) S4 ⟨by dsimp only;omega,j1,?_,by simp only [List.length_append,List.length_singleton];omega,by dsimp only;omega,by dsimp only;omega,he⟩ (by dsimp only;omega))
      dsimp only
      rw [List.map_append]
      exact j2
set_option maxRecDepth 20000
def tx16:ByteArray:=⟨#[116,121,112,101,32,117,115,101,114,32,116,121,112,101,32,100,111,99,32,114,101,108,97,116,105,111,110,32,111,119,110,101,114,58,32,117,115,101,114,32,100,101,102,105,110,101,32,99,97,110,58,32,111,119,110,101,114]⟩
def sc16:List Ty:=(q54 tx16).1
def l16:List Tu:=[⟨oDoc,bOwner,⟨oA,⟨#[]⟩⟩⟩]
def lb1:ByteArray:=⟨#[100,111,99,58,49,35,99,97,110]⟩
def lb2:ByteArray:=⟨#[100,111,99,58,49,35,111,119,110,101,114]⟩
def lb3:ByteArray:=⟨#[117,115,101,114,58,97]⟩
theorem ps16:(q54 tx16).2=.agg [.int .i64 0,.int .i64 0,.int .i64 0]:=by kernel_rfl
theorem t16:([tu1].map fun s=>(tupF s).1)=l16:=by kernel_rfl
theorem ok16:OkS sc16∧OkN sc16:=by
 have h:=parseF_ok (s:=tx16)
 exact ⟨h.1,h.2 (by decide)⟩
theorem okl16:OkL l16:=by
 rw [← t16]
 refine ⟨by decide,fun t ht=>?_⟩
 obtain ⟨s,hs,rfl⟩:=List.mem_map.1 ht
 refine tupF_ok ?_
 simp only [List.mem_cons,List.not_mem_nil,or_false] at hs
 rcases hs with rfl
 decide
theorem x16:chkX sc16 l16 9 nCan=.tup [.agg [.str lb1,.sl 1 [],.sl 3 [[.str lb2,.sl 1 [[.str lb3]],.sl 3 []]]],.int .i64 2,.int .i64 0]:=by kernel_rfl
theorem o16:eaA (lobF sc16 l16 bDoc bCan oA 9)=.tup [.sl 2 [obC oDoc],.int .i64 2,.int .i64 0]:=by kernel_rfl
theorem okDoc:OkO oDoc:=⟨by decide,by decide⟩
theorem c_awake16:AFun PG nrx31 [] (.bool true):=by
 intro S
 refine wx31 ?_
 unfold Bx31
 have r1:=c_Parse tx16
 rw [ps16] at r1
 have r2:=c_Tuples (l:=[tu1]) (by decide) (fun s hs=>by
  simp only [List.mem_cons,List.not_mem_nil,or_false] at hs
  rcases hs with rfl
  decide)
 rw [t16] at r2
 have q1:=c_Expand ok16.1 ok16.2 okl16 (n:=nCan) okDoc 9
 have q2:=c_lObjects ok16.1 ok16.2 okl16 (by decide) bDoc bCan oA 9
 rw [x16] at q1
 rw [o16] at q2
 unfold sc16 at q1 q2
 generalize (q54 tx16).1=sc at r1 q1 q2
 simp only [scA] at r1 q1 q2
 refine q05 r1 ?_
 (try simp only [rwp,zA,zB,zC,zD,zE,zF,zG,zH,zI,rwb,reduceIte])
 intro b1 hb1 b2 hb2
 obtain ⟨d21,hb2'⟩:=frsh hb2
 (try simp only [rwp,zA,zB,zC,zD,zE,zF,zG,zH,zI,rwb,reduceIte,d21,Ne.symm d21])
 refine q05 r2 ?_
 (try simp only [rwp,zA,zB,zC,zD,zE,zF,zG,zH,zI,rwb,reduceIte])
 refine q05 q1 ?_
 generalize hS4:sdel _ b1=S4
 have s4:Sub S S4:=by
  rw [← hS4]
  intro a o ha
  have e3:=q0f hb1 ha
  have e4:=q0f hb2' ha
  simp only [q0a,q01,if_neg e3,if_neg e4]
  exact ha
 (try simp only [rwp,zA,zB,zC,zD,zE,zF,zG,zH,zI,rwb,reduceIte])
 rw [show obC oDoc=[.str ⟨#[100,111,99]⟩,.str ⟨#[49]⟩] from rfl] at q2
 refine q05 q2 ?_
 rw [decide_eq_true (show ((1:Nat):Int)=1 from rfl)]
 (try simp only [rwp,zA,zB,zC,zD,zE,zF,zG,zH,zI,rwb,reduceIte,List.length_cons,List.length_nil])
 rw [decide_eq_true (show ((1:Nat):Int)=1 from rfl)]
 (try simp only [rwp,zA,zB,zC,zD,zE,zF,zG,zH,zI,rwb,reduceIte,C31_1,C31_2,C31_3,C31_4,C31_5,C31_6,List.getElem?_cons_zero])
 exact rtW_sub s4 ⟨rfl,rfl⟩
set_option maxRecDepth 4000
theorem evF_len {c:CkF} {B:Int}:∀ {M out:List Ob} {w:Int},(evF c B M out w).1.length≤out.length+M.length
 | [],out,w=>by unfold evF;simp
 | o :: r,out,w=>by
  rw [evF_cons]
  split
  ·have h:=@evF_len c B r (if (c o (B-w)).1=true then out++[o] else out) (w+(c o (B-w)).2.1)
   refine Nat.le_trans h ?_
   split
   ·simp only [List.length_append,List.length_cons,List.length_nil];omega
   ·simp only [List.length_cons];omega
  ·simp
theorem lobF_len {s:List Ty} {l:List Tu} {typ rel:ByteArray} {who:Ob} {B:Int}:(lobF s l typ rel who B).1.length≤2 * l.length:=by
 unfold lobF
 have hlc:(q0g s l).length≤l.length:=List.length_filter_le _ _
 have hthi:=@thi_len (q0g s l) typ
 split
 ·cases q0l s typ rel with
  | none=>simp
  | some _=>
   have:=@evF_len (fun o b=>ck (envE s l who) b ⟨o,rel⟩) B (thiF (q0g s l) typ) [] 0
   simp only [List.length_nil] at this
   dsimp only
   omega
 ·simp
theorem c_ListsObjects {s:List Ty} (hs:OkS s) {l:List Tu} (hl:∀ t∈l,OkU t) (typ rel:ByteArray) (who:Ob) (B:Int) :
  AFun PG nrx10 [scA s,.sl 6 (l.map tuC),.str typ,.str rel,.agg (obC who),.int .i64 B] (.bool true):=by
 intro S
 refine wx10 ?_
 unfold Bx10
 (try simp only [rwp,zA,zB,zC,zD,zE,zF,zG,zH,zI,rwb,reduceIte,scA,obC])
 refine q05 c_awake16 ?_
 (try simp only [rwp,zA,zB,zC,zD,zE,zF,zG,zH,zI,rwb,reduceIte])
 have q:=c_law14_Small hs l
 simp only [scA] at q
 refine q05 q ?_
 cases hsm:smallF s l
 ·(try simp only [rwp,zA,zB,zC,zD,zE,zF,zG,zH,zI,rwb,reduceIte,C10_1,C10_2,C10_3,C10_4])
  exact q02 ⟨rfl,rfl⟩
 ·obtain ⟨hN,hL,hn⟩:=small_ok4 hsm hl
  have q1:=c_lObjects hs hN hL (by omega) typ rel who B
  have q2:=c_rObjects hs hN hL (by omega) typ rel who B
  have hln:=@lobF_len s l typ rel who B
  generalize lobF s l typ rel who B=x at q1 q2 hln
  unfold eaA at q1 q2
  simp only [scA,obC] at q1 q2
  have main:C10_4 (fun ae S'=>ae=AEnd.ret (.bool true)∧S'=S) (.sl 6 (l.map tuC)) (.str typ) (.str rel) (.int .i64 B) (.rop [.sl 2 (s.map tyC)]) (.rop [.str who.ty,.str who.id]) (.bool true) (.bool false) S:=by
   (try simp only [rwp,zA,zB,zC,zD,zE,zF,zG,zH,zI,rwb,reduceIte,C10_4])
   refine q05 q1 ?_
   (try simp only [rwp,zA,zB,zC,zD,zE,zF,zG,zH,zI,rwb,reduceIte])
   refine q05 q2 ?_
   (try simp only [rwp,zA,zB,zC,zD,zE,zF,zG,zH,zI,rwb,reduceIte])
   refine q05 (c_ObjectsSame (by omega)) ?_
   (try simp only [rwp,zA,zB,zC,zD,zE,zF,zG,zH,zI,rwb,reduceIte,decide_true,C10_5])
   exact q02 ⟨rfl,rfl⟩
  (try simp only [rwp,zA,zB,zC,zD,zE,zF,zG,zH,zI,rwb,reduceIte,C10_1])
  cases a1:decide ((2000:Int)<B)
  ·(try simp only [rwp,zA,zB,zC,zD,zE,zF,zG,zH,zI,rwb,reduceIte,C10_2,C10_3])
   exact main
  ·cases a2:decide (B≤100000)
   ·(try simp only [rwp,zA,zB,zC,zD,zE,zF,zG,zH,zI,rwb,reduceIte,C10_2,C10_3,a2])
    exact main
   ·(try simp only [rwp,zA,zB,zC,zD,zE,zF,zG,zH,zI,rwb,reduceIte,C10_2,C10_3,a2,C10_4])
    exact q02 ⟨rfl,rfl⟩
def Old (w:World):Nat→Prop:=fun b=>b<w.heap.size
theorem cell_old {w:World} {a:Addr} {v:Value} (h:w.cell? a=some v):Old w a.block:=by
 unfold Old
 unfold World.cell? at h
 rcases Nat.lt_or_ge a.block w.heap.size with h1 | h1
 ·exact h1
 ·rw [Array.getElem?_eq_none h1] at h;simp at h
section
variable {H:Type} {enc:TypeId×Value→H} {P:Program} {w:World} {sp:Nat→Bool} {held:Bool} {n:Nat} {t e:TypeId} {cs:List Value} {x:DataW H×List MemPlace}
def Wt {H:Type} (P:Program) (t:TypeId) (d:DataW H):Prop:=∀ k∈d.weights P t,k≤reachBytes
theorem q3c (ht:P.underlying t=some .string) (hw:Wt P t x.1) (h:DataW.trod enc P w 0 sp held n t cs=some x):∃ s:ByteArray,s.size≤1125899906842624∧cs=[.string s]:=by
 cases n with
 | zero=>simp [DataW.trod] at h
 | succ n=>
  unfold DataW.trod at h
  rw [ht] at h
  split at h<;>simp_all
  obtain ⟨h1,rfl⟩:=h
  refine Nat.le_trans (Nat.le_of_eq ?_) (Nat.le_trans (hw _ (by simp only [DataW.weights];exact List.mem_singleton.2 rfl)) (by decide))
  rw [Array.length_toList]
  rfl
theorem open_int' {k:IntKind} (ht:P.underlying t=some (.int k)) (h:DataW.trod enc P w 0 sp held n t cs=some x):∃ z:Int,cs=[.int k z]:=by
 cases n with
 | zero=>simp [DataW.trod] at h
 | succ n=>
  unfold DataW.trod at h
  rw [ht] at h
  split at h<;>simp_all
theorem cells_get {w:World} {a:Addr} {m:Nat} {vs:List Value} (h:w.cells? 0 a m=some vs):vs.length=m∧∀ j,j<m→w.cell? (a.add j)=some (vs.getD j undef):=by
 unfold World.cells? at h
 rw [if_pos (Nat.zero_le _)] at h
 have h1:=mapM_some_length h
 refine ⟨by simpa using h1,fun j hj=>?_⟩
 have h2:=mapM_some_get h j j (by simp [hj])
 rw [h2,List.getD_eq_getElem?_getD]
 simp at h1
 rw [List.getElem?_eq_getElem (by omega)]
 rfl
theorem q79 {α:Type} {enc':α→List AV} {good:α→Prop} {sz:Nat} (ht:P.underlying t=some (.slice e)) (hc:P.cellsOf e=sz) (hsz:0<sz) (hlen:∀ a,(enc' a).length=sz)
  (hb:1≤P.bytesOf e) (hw:Wt P t x.1) (hE:∀ m,m<n→∀ cs x,Wt P e x.1→DataW.trod enc P w 0 sp held m e cs=some x→∃ a,good a∧RVs (Old w) w (enc' a) cs) (h:DataW.trod enc P w 0 sp held n t cs=some x) :
  ∃ (l:List α) (v:Value),(∀ a∈l,good a)∧l.length≤1125899906842624∧cs=[v]∧RV (Old w) w (.sl sz (l.map enc')) v:=by
 rcases DataW.trod_slice ht h with ⟨rfl,-⟩ | ⟨a,len,cap,elems,rest,m,rfl,rfl,rfl,-,hl,hm,hlen2,hel,-,-⟩
 ·exact ⟨[],_,fun a ha=>(by cases ha),Nat.zero_le _,rfl,.sl0 _ _ _⟩
 ·have hx:DataW.weights P t (.slice (elems.map (·.1)) (rest.map (·.1)))=((elems.map (·.1)).length+(rest.map (·.1)).length) * P.bytesOf e :: (DataW.weightsAll P e (elems.map (·.1))++DataW.weightsAll P e (rest.map (·.1))):=by
   simp only [DataW.weights]
   rw [ht]
  have hw:∀ k∈DataW.weights P t (.slice (elems.map (·.1)) (rest.map (·.1))),k≤reachBytes:=hw
  rw [hx] at hw
  have key:∀ i,i<len→∃ (y:α) (vs:List Value),good y∧RVs (Old w) w (enc' y) vs∧w.cells? 0 (a.add (i * sz)) sz=some vs:=fun i hi=>by
   have h1:=hel i hi
   rw [hc,List.getElem?_eq_getElem (by omega)] at h1
   obtain ⟨vs,h2,h3⟩:=Option.bind_eq_some_iff.1 h1
   have hwi:Wt P e (elems[i]'(by omega)).1:=fun k hk=>by
    refine hw k ?_
    refine List.mem_cons_of_mem _ (List.mem_append_left _ ?_)
    have:∀ l:List (DataW H×List MemPlace),∀ y∈l,∀ k∈y.1.weights P e,k∈DataW.weightsAll P e (l.map (·.1)):=by
     intro l
     induction l with
     | nil=>intro y hy;cases hy
     | cons z l ih=>
      intro y hy k hk
      simp only [List.map_cons,DataW.weightsAll,List.mem_append]
      rcases List.mem_cons.1 hy with rfl | hy
      ·exact .inl hk
      ·exact .inr (ih y hy k hk)
    exact this elems _ (List.getElem_mem _) k hk
   obtain ⟨y,k1,k2⟩:=hE m (Nat.lt_succ_self m) vs _ hwi h3
   exact ⟨y,vs,k1,k2,h2⟩
  by_cases h0:len=0
  ·subst h0
   exact ⟨[],_,fun a ha=>(by cases ha),Nat.zero_le _,rfl,.sl0 _ _ _⟩
  have ex:∃ l:List α,l.length=len∧∀ i y,l[i]?=some y→∃ vs:List Value,good y∧RVs (Old w) w (enc' y) vs∧w.cells? 0 (a.add (i * sz)) sz=some vs:=by
   have:∀ k,k≤len→∃ l:List α,l.length=k∧∀ (i:Nat) (y:α),l[i]?=some y→∃ vs:List Value,good y∧RVs (Old w) w (enc' y) vs∧w.cells? 0 (a.add (i * sz)) sz=some vs:=by
    intro k
    induction k with
    | zero=>exact fun _=>⟨[],rfl,fun i y h=>by simp at h⟩
    | succ k ih=>
     intro hk
     obtain ⟨l,k1,k2⟩:=ih (by omega)
     obtain ⟨y,vs,j1⟩:=key k (by omega)
     refine ⟨l++[y],by simp [k1],fun i z hz=>?_⟩
     by_cases hi:i<l.length
     ·rw [List.getElem?_append_left hi] at hz
      exact k2 i z hz
     ·rw [List.getElem?_append_right (by omega)] at hz
      obtain ⟨q,hq⟩:∃ q,i-l.length=q:=⟨_,rfl⟩
      rw [hq] at hz
      cases q with
      | succ q=>simp at hz
      | zero=>
       simp at hz
       subst hz
       have:i=k:=by omega
       subst this
       exact ⟨vs,j1⟩
   exact this len (Nat.le_refl _)
  obtain ⟨l,k1,k2⟩:=ex
  have k3:∀ i,i<len→∃ y vs,l[i]?=some y∧good y∧RVs (Old w) w (enc' y) vs∧w.cells? 0 (a.add (i * sz)) sz=some vs:=fun i hi=>by
   have hy:l[i]?=some l[i]:=List.getElem?_eq_getElem (by omega)
   obtain ⟨vs,h1⟩:=k2 i _ hy
   exact ⟨_,vs,hy,h1⟩
  have hadd:∀ i j,(a.add (i * sz)).add j=a.add (i * sz+j):=fun i j=>add_add _ _ _
  have hll:l.length≤1125899906842624:=by
   have h5:=hw _ List.mem_cons_self
   simp only [List.length_map] at h5
   have h6:elems.length≤(elems.length+rest.length) * P.bytesOf e:=Nat.le_trans (Nat.le_add_right _ _) (Nat.le_mul_of_pos_right _ hb)
   unfold reachBytes at h5
   omega
  refine ⟨l,_,fun y hy=>?_,hll,rfl,.sl sz (l.map enc') a len cap (fun i j=>((w.cells? 0 (a.add (i * sz)) sz).getD []).getD j undef) (by simp [k1]) hl ?_ (fun i r hr=>?_) (fun i j hi hj=>?_) (fun i j r u hr hu=>?_)⟩
  ·obtain ⟨i,hi⟩:=List.getElem?_of_mem hy
   obtain ⟨vs,h1,-⟩:=k2 i y hi
   exact h1
  ·obtain ⟨y,vs,-,-,-,h4⟩:=k3 0 (by omega)
   have h5:=(cells_get h4).2 0 hsz
   have:=cell_old h5
   rw [add_add] at this
   simpa [Addr.add] using this
  ·rw [List.getElem?_map] at hr
   cases hl2:l[i]? with
   | none=>rw [hl2] at hr;cases hr
   | some y=>rw [hl2] at hr;cases hr;exact hlen y
  ·obtain ⟨y,vs,-,-,-,h4⟩:=k3 i hi
   rw [h4,← hadd]
   exact (cells_get h4).2 j hj
  ·rw [List.getElem?_map] at hr
   cases hl2:l[i]? with
   | none=>rw [hl2] at hr;cases hr
   | some y=>
    rw [hl2] at hr
    cases hr
    obtain ⟨vs,-,h3,h4⟩:=k2 i y hl2
    rw [h4]
    exact h3.2 j u hu
theorem q49 {fs:Array Field} (ht:P.underlying t=some (.struct fs)) (hw:Wt P t x.1) (h:DataW.trod enc P w 0 sp held n t cs=some x):cs.length=P.cellsOf t∧∃ m,n=m+1 ∧
  ∀ (i:Nat) (f:Field),fs[i]?=some f→∃ y,Wt P f.type y.1∧DataW.trod enc P w 0 sp held m f.type ((cs.drop f.offset).take (P.cellsOf f.type))=some y:=by
 obtain ⟨xs,m,rfl,rfl,hl,hlen,hf⟩:=DataW.trod_struct ht h
 refine ⟨hl,m,rfl,fun i f hi=>?_⟩
 have hil:i<fs.size:=(Array.getElem?_eq_some_iff.1 hi).1
 have h1:=hf i f hi
 have hxi:xs[i]?=some (xs[i]'(by omega)):=List.getElem?_eq_getElem _
 rw [hxi] at h1
 refine ⟨_,fun k hk=>?_,h1⟩
 have hx:DataW.weights P t (.agg (xs.map (·.1)))=DataW.weightsEach P (fs.toList.map (·.type)) (xs.map (·.1)):=by
  simp only [DataW.weights]
  rw [ht]
 have hw:∀ k∈DataW.weights P t (.agg (xs.map (·.1))),k≤reachBytes:=hw
 rw [hx] at hw
 refine hw k ?_
 have key:∀ (ts:List TypeId) (ds:List (DataW H)) (j:Nat) (t:TypeId) (d:DataW H),ts[j]?=some t→ds[j]?=some d→∀ k∈d.weights P t,k∈DataW.weightsEach P ts ds:=by
  intro ts
  induction ts with
  | nil=>intro ds j t d h;simp at h
  | cons a ts ih=>
   intro ds j t d h1 h2 k hk
   cases ds with
   | nil=>simp at h2
   | cons b ds=>
    simp only [DataW.weightsEach,List.mem_append]
    cases j with
    | zero=>simp at h1 h2;subst h1;subst h2;exact .inl hk
    | succ j=>simp at h1 h2;exact .inr (ih ds j t d h1 h2 k hk)
 exact key _ _ i _ _ (by rw [List.getElem?_map,Array.getElem?_toList,hi];rfl) (by rw [List.getElem?_map,hxi];rfl) k hk
end
structure ScT (P:Program) (tS tTs tT tRs tR tFs tF tE tEs tI tN:TypeId):Prop where
 int:P.underlying tI=some (.int .i64)
 str:P.underlying tN=some .string
 ex:∃ f0 f1 f2 f3,P.underlying tE=some (.struct #[f0,f1,f2,f3])∧f0.type=tI∧f0.offset=0∧f1.type=tN∧f1.offset=1∧f2.type=tN∧f2.offset=2∧f3.type=tEs∧f3.offset=3
 exs:P.underlying tEs=some (.slice tE)
 rf:∃ f0 f1,P.underlying tF=some (.struct #[f0,f1])∧f0.type=tN∧f0.offset=0∧f1.type=tN∧f1.offset=1
 rfs:P.underlying tFs=some (.slice tF)
 rl:∃ f0 f1 f2,P.underlying tR=some (.struct #[f0,f1,f2])∧f0.type=tN∧f0.offset=0∧f1.type=tFs∧f1.offset=1∧f2.type=tE∧f2.offset=2
 rls:P.underlying tRs=some (.slice tR)
 ty:∃ f0 f1,P.underlying tT=some (.struct #[f0,f1])∧f0.type=tN∧f0.offset=0∧f1.type=tRs∧f1.offset=1
 tys:P.underlying tTs=some (.slice tT)
 sc:∃ f0,P.underlying tS=some (.struct #[f0])∧f0.type=tTs∧f0.offset=0
 cI:P.cellsOf tI=1
 cN:P.cellsOf tN=1
 cE:P.cellsOf tE=4
 cEs:P.cellsOf tEs=1
 cF:P.cellsOf tF=2
 cFs:P.cellsOf tFs=1
 cR:P.cellsOf tR=6
 cRs:P.cellsOf tRs=1
 cT:P.cellsOf tT=2
 cTs:P.cellsOf tTs=1
 cS:P.cellsOf tS=1
 bE:1≤P.bytesOf tE
 bF:1≤P.bytesOf tF
 bR:1≤P.bytesOf tR
 bT:1≤P.bytesOf tT
section
variable {H:Type} {enc:TypeId×Value→H} {P:Program} {w:World} {sp:Nat→Bool} {held:Bool} {tS tTs tT tRs tR tFs tF tE tEs tI tN:TypeId} (K:ScT P tS tTs tT tRs tR tFs tF tE tEs tI tN)
include K
theorem open_ex:∀ (n:Nat) (cs:List Value) (x:DataW H×List MemPlace),Wt P tE x.1→DataW.trod enc P w 0 sp held n tE cs=some x→∃ e:Ex,OkE e∧RVs (Old w) w (exC e) cs:=by
 intro n
 induction n using Nat.strongRecOn with
 | _ n ih=>
  intro cs x hw h
  obtain ⟨f0,f1,f2,f3,hu,a0,b0,a1,b1,a2,b2,a3,b3⟩:=K.ex
  obtain ⟨hl,m,rfl,hf⟩:=q49 hu hw h
  rw [K.cE] at hl
  obtain ⟨c0,c1,c2,c3,rfl⟩:∃ c0 c1 c2 c3,cs=[c0,c1,c2,c3]:=by
   match cs,hl with
   | [c0,c1,c2,c3],_=>exact ⟨_,_,_,_,rfl⟩
  obtain ⟨y0,w0,h0⟩:=hf 0 f0 rfl
  obtain ⟨y1,w1,h1⟩:=hf 1 f1 rfl
  obtain ⟨y2,w2,h2⟩:=hf 2 f2 rfl
  obtain ⟨y3,w3,h3⟩:=hf 3 f3 rfl
  rw [a0,b0,K.cI] at h0
  rw [a1,b1,K.cN] at h1
  rw [a2,b2,K.cN] at h2
  rw [a3,b3,K.cEs] at h3
  rw [a1] at w1
  rw [a2] at w2
  rw [a3] at w3
  obtain ⟨z,e0⟩:=open_int' K.int h0
  obtain ⟨s1,g1,e1⟩:=q3c K.str w1 h1
  obtain ⟨s2,g2,e2⟩:=q3c K.str w2 h2
  obtain ⟨l,v,g3,g4,e3,g5⟩:=q79 (enc':=exC) (good:=OkE) K.exs K.cE (by decide) exC_len K.bE w3 (fun k hk cs x hw h=>ih k (by omega) cs x hw h) h3
  simp at e0 e1 e2 e3
  subst e0;subst e1;subst e2;subst e3
  refine ⟨.mk z s1 s2 l,.mk z s1 s2 l g4 g1 g2 g3,?_⟩
  rw [q0d]
  exact .cons (.int _ _) (.cons (.str _) (.cons (.str _) (.cons g5 .nil)))
theorem open_rf {n:Nat} {cs:List Value} {x:DataW H×List MemPlace} (hw:Wt P tF x.1) (h:DataW.trod enc P w 0 sp held n tF cs=some x):∃ f:Rf,OkF f∧RVs (Old w) w (rfC f) cs:=by
 obtain ⟨f0,f1,hu,a0,b0,a1,b1⟩:=K.rf
 obtain ⟨hl,m,rfl,hf⟩:=q49 hu hw h
 rw [K.cF] at hl
 obtain ⟨c0,c1,rfl⟩:∃ c0 c1,cs=[c0,c1]:=by
  match cs,hl with
  | [c0,c1],_=>exact ⟨_,_,rfl⟩
 obtain ⟨y0,w0,h0⟩:=hf 0 f0 rfl
 obtain ⟨y1,w1,h1⟩:=hf 1 f1 rfl
 rw [a0,b0,K.cN] at h0
 rw [a1,b1,K.cN] at h1
 rw [a0] at w0
 rw [a1] at w1
 obtain ⟨s1,g1,e1⟩:=q3c K.str w0 h0
 obtain ⟨s2,g2,e2⟩:=q3c K.str w1 h1
 simp at e1 e2
 subst e1;subst e2
 exact ⟨⟨s1,s2⟩,⟨g1,g2⟩,.cons (.str _) (.cons (.str _) .nil)⟩
theorem open_rl {n:Nat} {cs:List Value} {x:DataW H×List MemPlace} (hw:Wt P tR x.1) (h:DataW.trod enc P w 0 sp held n tR cs=some x):∃ r:Rl,OkR r∧RVs (Old w) w (rlC r) cs:=by
 obtain ⟨f0,f1,f2,hu,a0,b0,a1,b1,a2,b2⟩:=K.rl
 obtain ⟨hl,m,rfl,hf⟩:=q49 hu hw h
 rw [K.cR] at hl
 obtain ⟨c0,c1,c2,c3,c4,c5,rfl⟩:∃ c0 c1 c2 c3 c4 c5,cs=[c0,c1,c2,c3,c4,c5]:=by
  match cs,hl with
  | [c0,c1,c2,c3,c4,c5],_=>exact ⟨_,_,_,_,_,_,rfl⟩
 obtain ⟨y0,w0,h0⟩:=hf 0 f0 rfl
 obtain ⟨y1,w1,h1⟩:=hf 1 f1 rfl
 obtain ⟨y2,w2,h2⟩:=hf 2 f2 rfl
 rw [a0,b0,K.cN] at h0
 rw [a1,b1,K.cFs] at h1
 rw [a2,b2,K.cE] at h2
 rw [a0] at w0
 rw [a1] at w1
 rw [a2] at w2
 obtain ⟨s1,g1,e1⟩:=q3c K.str w0 h0
 obtain ⟨l,v,g3,g4,e3,g5⟩:=q79 (enc':=rfC) (good:=OkF) K.rfs K.cF (by decide) (fun _=>rfl) K.bF w1 (fun k _ cs x hw h=>open_rf K hw h) h1
 obtain ⟨e,g6,g7⟩:=open_ex K _ _ _ w2 h2
 simp at e1 e3
 subst e1;subst e3
 exact ⟨⟨s1,l,e⟩,⟨g1,g4,g3,g6⟩,.cons (.str _) (.cons g5 g7)⟩
theorem open_ty {n:Nat} {cs:List Value} {x:DataW H×List MemPlace} (hw:Wt P tT x.1) (h:DataW.trod enc P w 0 sp held n tT cs=some x):∃ t:Ty,OkT t∧RVs (Old w) w (tyC t) cs:=by
 obtain ⟨f0,f1,hu,a0,b0,a1,b1⟩:=K.ty
 obtain ⟨hl,m,rfl,hf⟩:=q49 hu hw h
 rw [K.cT] at hl
 obtain ⟨c0,c1,rfl⟩:∃ c0 c1,cs=[c0,c1]:=by
  match cs,hl with
  | [c0,c1],_=>exact ⟨_,_,rfl⟩
 obtain ⟨y0,w0,h0⟩:=hf 0 f0 rfl
 obtain ⟨y1,w1,h1⟩:=hf 1 f1 rfl
 rw [a0,b0,K.cN] at h0
 rw [a1,b1,K.cRs] at h1
 rw [a0] at w0
 rw [a1] at w1
 obtain ⟨s1,g1,e1⟩:=q3c K.str w0 h0
 obtain ⟨l,v,g3,g4,e3,g5⟩:=q79 (enc':=rlC) (good:=OkR) K.rls K.cR (by decide) rlC_len K.bR w1 (fun k _ cs x hw h=>open_rl K hw h) h1
 simp at e1 e3
 subst e1;subst e3
 exact ⟨⟨s1,l⟩,⟨g1,g4,g3⟩,.cons (.str _) (.cons g5 .nil)⟩
theorem open_sc {v:Value} {d:DataW H} {ps:List MemPlace} (hw:Wt P tS d) (h:DataW.Trod enc P w 0 sp held tS v d ps) (hv:∃ vs,v=.agg vs):∃ s:List Ty,OkS s∧RV (Old w) w (scA s) v:=by
 obtain ⟨n,h⟩:=h
 obtain ⟨vs,rfl⟩:=hv
 obtain ⟨f0,hu,a0,b0⟩:=K.sc
 obtain ⟨hl,m,rfl,hf⟩:=q49 (x:=(d,ps)) hu hw h
 rw [K.cS] at hl
 obtain ⟨y0,w0,h0⟩:=hf 0 f0 rfl
 rw [a0,b0,K.cTs] at h0
 rw [a0] at w0
 obtain ⟨l,v,g3,g4,e3,g5⟩:=q79 (enc':=tyC) (good:=OkT) K.tys K.cT (by decide) (fun _=>rfl) K.bT w0 (fun k _ cs x hw h=>open_ty K hw h) h0
 refine ⟨l,⟨g4,g3⟩,?_⟩
 have hc:(Value.agg vs).cells.toList=vs.toList:=by simp [Value.cells]
 rw [hc] at hl e3
 have hvs:vs.toList=[v]:=by
  match hq:vs.toList,hl with
  | [c],_=>rw [hq] at e3;simpa using e3
 refine .agg _ vs (by rw [← Array.length_toList,hvs];rfl) fun i u hi=>?_
 match i,hi with
 | 0,hi=>
  simp at hi
  subst hi
  have:vs.getD 0 undef=v:=by
   have h9:vs=#[v]:=by
    apply Array.toList_inj.1
    rw [hvs]
   rw [h9];rfl
  rw [this]
  exact g5
end
open Go.ChangeShapes Go.WideShapes Go.RowKit
theorem below_of {R R':Nat→Prop} {S':q00} {w w':World} (h:Step R emp w R' S' w'):Below w.heap.size w w':=⟨h.os,h.tape,h.output,h.size,fun k hk=>(h.keep k hk rfl).1⟩
theorem sim_old (w:World):Sim (Old w) emp w:=⟨fun b o h=>(by cases h),fun b h=>⟨rfl,h⟩⟩
theorem call_true {f:Nat} {args:List AV} {vs:Array Value} {w:World} (hok:q7s PG f=true) (h:AFun PG f args (.bool true)) (hv:RVs (Old w) w args vs.toList):Calls PG f vs w fun en w'=>en=.returned (.bool true)∧Below w.heap.size w w':=by
 refine ((h emp (Old w) w vs (sim_old w) hv).calls hok).mono fun en w' ⟨R',S',ae,h1,h2,h3,h4⟩=>?_
 obtain ⟨rfl,rfl⟩:=h2
 cases en with
 | returned v=>
  have h1:RV R' w' (.bool true) v:=h1
  cases h1
  exact ⟨rfl,below_of h4⟩
 | _=>exact h1.elim
section
variable {H:Type} {enc:TypeId×Value→H} {P:Program}
theorem q4u {W W':World} (hl:laidOutB P=true) (hb:Below W.heap.size W W') {sp':Nat→Bool}:∀ {ts:List TypeId} {vs:List Value} {ds:List (DataW H)} {ps:List MemPlace},(∀ t∈ts,P.readableRec t=true∧t<P.types.size)→DataW.TrodAll enc P W 0 (fun _=>true) true ts vs ds ps →
  (∀ p∈ps,p.block<W.heap.size)→(∀ p∈ps,sp' p.block=true)→DataW.TrodAll enc P W' 0 sp' true ts vs ds ps
 | [],vs,ds,ps,_,h,_,_=>by
  obtain ⟨rfl,rfl,rfl⟩:=trodAll_nil h
  exact trodAll_mk0
 | t :: ts,vs,ds,ps,ht,h,h1,h2=>by
  obtain ⟨v,vs1,d,ds1,a,b,rfl,rfl,rfl,k1,k2⟩:=trodAll_cons h
  have ht0:=ht t (by simp)
  exact ⟨a,b,WideElems.Trod_stays hl ht0.1 ht0.2 k1 (fun p hp=>hb.same (h1 p (List.mem_append_left _ hp))) (fun p hp=>h2 p (List.mem_append_left _ hp)),
   q4u hl hb (fun t h=>ht t (List.mem_cons_of_mem _ h)) k2 (fun p hp=>h1 p (List.mem_append_right _ hp)) (fun p hp=>h2 p (List.mem_append_right _ hp)),rfl⟩
theorem post_kept {f:Func} {s:ChangeSpec} {apart fresh handsOn again:Bool} {W W':World} {args:Array Value} {ds gs:List (DataW H)} {before:List MemPlace} {tb:TypeId}
  (hl:laidOutB P=true) (hts:∀ t∈f.params.toList,P.readableRec t=true∧t<P.types.size) (hvars:s.vars=[])
  (hW:DataW.Whole enc P f.params.toList s.vars apart W args.toList ds gs before) (hfn:(s.fn H (ds++gs)).results=[.lit (.bool true)]∧(s.fn H (ds++gs)).args=ds∧(s.fn H (ds++gs)).vars=[])
  (hr:f.resultTypes=#[tb]) (hb:P.underlying tb=some .bool) (hB:Below W.heap.size W W'):s.post enc P f apart fresh handsOn again W args (.bool true) W':=by
 have hlt:=hW.lt
 have hW0:=hW
 obtain ⟨p,q,hA,hV,rfl,hz,hn⟩:=hW
 rw [hvars] at hV
 obtain ⟨rfl,rfl⟩:=trodVars_none hV
 rw [List.append_nil] at *
 obtain ⟨e1,e2,e3⟩:=hfn
 have hold:∀ x∈p,(fun b=>decide (b<W.heap.size)) x.block=true:=fun x hx=>by simpa using hlt x hx
 have hres:∀ (b:Nat) (sp:Nat→Bool) (hd:Bool),DataW.TrodAll enc P W' b sp hd f.resultTypes.toList ((Value.bool true).resultList f.resultTypes.size) [.lit (.bool true)] []:=fun b sp hd=>by
  rw [hr]
  exact trodAll_mk1 (shut_bool hb true)
 refine ⟨ds,[],p,[],p,[],hW0,by rw [List.append_nil,e1];exact hres _ _ _,by rw [List.append_nil,e2];exact q4u hl hB hts hA hlt hold,by rw [List.append_nil,hvars,e3];exact rfl,hB.frame _,fun _=>?_⟩
 refine ⟨ok_one hr rfl (okWide_bool_mk hb true),_,[],([]++p)++[],⟨[]++p,[],trodAll_append (q4u hl hB hts hA hlt (fun _ _=>rfl)) (hres _ _ _),by rw [hvars];exact rfl,rfl,?_,?_⟩,?_⟩
 ·intro b off hp
  have hp:MemPlace.cell b off∈p:=by simpa using hp
  rw [hB.frozen (p:=⟨b,off,none⟩) (hlt _ hp)]
  exact hz b off hp
 ·intro ha
  simpa using hn ha
 ·intro x hx _
  simpa using hx
end
structure TuT (P:Program) (tL tU tD tO tN:TypeId):Prop where
 str:P.underlying tN=some .string
 ob:∃ f0 f1,P.underlying tO=some (.struct #[f0,f1])∧f0.type=tN∧f0.offset=0∧f1.type=tN∧f1.offset=1
 nd:∃ f0 f1,P.underlying tD=some (.struct #[f0,f1])∧f0.type=tO∧f0.offset=0∧f1.type=tN∧f1.offset=2
 tu:∃ f0 f1 f2,P.underlying tU=some (.struct #[f0,f1,f2])∧f0.type=tO∧f0.offset=0∧f1.type=tN∧f1.offset=2∧f2.type=tD∧f2.offset=3
 tus:P.underlying tL=some (.slice tU)
 cN:P.cellsOf tN=1
 cO:P.cellsOf tO=2
 cD:P.cellsOf tD=3
 cU:P.cellsOf tU=6
 bU:1≤P.bytesOf tU
section
variable {H:Type} {enc:TypeId×Value→H} {P:Program} {w:World} {sp:Nat→Bool} {held:Bool} {tL tU tD tO tN:TypeId} (K:TuT P tL tU tD tO tN)
include K
theorem open_ob {n:Nat} {cs:List Value} {x:DataW H×List MemPlace} (hw:Wt P tO x.1) (h:DataW.trod enc P w 0 sp held n tO cs=some x):∃ o:Ob,OkO o∧cs=[.string o.ty,.string o.id]:=by
 obtain ⟨f0,f1,hu,a0,b0,a1,b1⟩:=K.ob
 obtain ⟨hl,m,rfl,hf⟩:=q49 hu hw h
 rw [K.cO] at hl
 obtain ⟨c0,c1,rfl⟩:∃ c0 c1,cs=[c0,c1]:=by
  match cs,hl with
  | [c0,c1],_=>exact ⟨_,_,rfl⟩
 obtain ⟨y0,w0,h0⟩:=hf 0 f0 rfl
 obtain ⟨y1,w1,h1⟩:=hf 1 f1 rfl
 rw [a0,b0,K.cN] at h0
 rw [a1,b1,K.cN] at h1
 rw [a0] at w0
 rw [a1] at w1
 obtain ⟨s1,g1,e1⟩:=q3c K.str w0 h0
 obtain ⟨s2,g2,e2⟩:=q3c K.str w1 h1
 simp at e1 e2
 subst e1;subst e2
 exact ⟨⟨s1,s2⟩,⟨g1,g2⟩,rfl⟩
theorem open_nd {n:Nat} {cs:List Value} {x:DataW H×List MemPlace} (hw:Wt P tD x.1) (h:DataW.trod enc P w 0 sp held n tD cs=some x):∃ o:Nd,OkD o∧cs=[.string o.o.ty,.string o.o.id,.string o.rl]:=by
 obtain ⟨f0,f1,hu,a0,b0,a1,b1⟩:=K.nd
 obtain ⟨hl,m,rfl,hf⟩:=q49 hu hw h
 rw [K.cD] at hl
 obtain ⟨c0,c1,c2,rfl⟩:∃ c0 c1 c2,cs=[c0,c1,c2]:=by
  match cs,hl with
  | [c0,c1,c2],_=>exact ⟨_,_,_,rfl⟩
 obtain ⟨y0,w0,h0⟩:=hf 0 f0 rfl
 obtain ⟨y1,w1,h1⟩:=hf 1 f1 rfl
 rw [a0,b0,K.cO] at h0
 rw [a1,b1,K.cN] at h1
 rw [a0] at w0
 rw [a1] at w1
 obtain ⟨o,g1,e1⟩:=open_ob K w0 h0
 obtain ⟨s2,g2,e2⟩:=q3c K.str w1 h1
 simp at e1 e2
 obtain ⟨rfl,rfl⟩:=e1
 subst e2
 exact ⟨⟨o,s2⟩,⟨g1,g2⟩,rfl⟩
theorem open_tu {n:Nat} {cs:List Value} {x:DataW H×List MemPlace} (hw:Wt P tU x.1) (h:DataW.trod enc P w 0 sp held n tU cs=some x):∃ t:Tu,OkU t∧RVs (Old w) w (tuC t) cs:=by
 obtain ⟨f0,f1,f2,hu,a0,b0,a1,b1,a2,b2⟩:=K.tu
 obtain ⟨hl,m,rfl,hf⟩:=q49 hu hw h
 rw [K.cU] at hl
 obtain ⟨c0,c1,c2,c3,c4,c5,rfl⟩:∃ c0 c1 c2 c3 c4 c5,cs=[c0,c1,c2,c3,c4,c5]:=by
  match cs,hl with
  | [c0,c1,c2,c3,c4,c5],_=>exact ⟨_,_,_,_,_,_,rfl⟩
 obtain ⟨y0,w0,h0⟩:=hf 0 f0 rfl
 obtain ⟨y1,w1,h1⟩:=hf 1 f1 rfl
 obtain ⟨y2,w2,h2⟩:=hf 2 f2 rfl
 rw [a0,b0,K.cO] at h0
 rw [a1,b1,K.cN] at h1
 rw [a2,b2,K.cD] at h2
 rw [a0] at w0
 rw [a1] at w1
 rw [a2] at w2
 obtain ⟨o,g1,e1⟩:=open_ob K w0 h0
 obtain ⟨r,g2,e2⟩:=q3c K.str w1 h1
 obtain ⟨s,g3,e3⟩:=open_nd K w2 h2
 simp at e1 e2 e3
 obtain ⟨rfl,rfl⟩:=e1
 subst e2
 obtain ⟨rfl,rfl,rfl⟩:=e3
 exact ⟨⟨o,r,s⟩,⟨g1,g2,g3⟩,.cons (.str _) (.cons (.str _) (.cons (.str _) (.cons (.str _) (.cons (.str _) (.cons (.str _) .nil)))))⟩
theorem open_obj {v:Value} {d:DataW H} {ps:List MemPlace} (hw:Wt P tO d) (h:DataW.Trod enc P w 0 sp held tO v d ps) (hv:∃ vs,v=.agg vs):∃ o:Ob,OkO o∧RV (Old w) w (.agg (obC o)) v:=by
 obtain ⟨n,h⟩:=h
 obtain ⟨vs,rfl⟩:=hv
 obtain ⟨o,g,e⟩:=open_ob K (x:=(d,ps)) hw h
 have hc:(Value.agg vs).cells.toList=vs.toList:=by simp [Value.cells]
 rw [hc] at e
 have h9:vs=#[.string o.ty,.string o.id]:=Array.toList_inj.1 (by rw [e])
 subst h9
 refine ⟨o,g,.agg _ _ rfl fun i u hi=>?_⟩
 match i,hi with
 | 0,hi=>simp [obC] at hi;subst hi;exact .str _
 | 1,hi=>simp [obC] at hi;subst hi;exact .str _
theorem open_tus {v:Value} {d:DataW H} {ps:List MemPlace} (hw:Wt P tL d) (h:DataW.Trod enc P w 0 sp held tL v d ps) (hv:∃ a b c,v=.slice a b c):∃ l:List Tu,(∀ t∈l,OkU t)∧RV (Old w) w (.sl 6 (l.map tuC)) v:=by
 obtain ⟨n,h⟩:=h
 obtain ⟨a,b,c,rfl⟩:=hv
 obtain ⟨l,v,g1,g2,e,g3⟩:=q79 (enc':=tuC) (good:=OkU) (x:=(d,ps)) K.tus K.cU (by decide) (fun _=>rfl) K.bU hw (fun k _ cs x hw h=>open_tu K hw h) h
 have:v=.slice a b c:=by
  have:=congrArg List.head? e
  simpa [Value.cells] using this.symm
 subst this
 exact ⟨l,g1,g3⟩
end
end Go.HL
namespace Go.Proofs.YtadmdlpmikoghaaGreat
open Go.ChangeShapes Go.WideShapes Go.ChangeAt Go.RowKit Go.HL
theorem own:ownKnob Tryz.prog.godebug=none:=by kernel_rfl
theorem laidOut:laidOutB Tryz.prog=true:=by kernel_rfl
theorem scT:ScT Tryz.prog 24 22 46 44 53 48 171 51 49 3 9 where
 int:=Tryz.underlying3
 str:=Tryz.underlying9
 ex:=⟨_,_,_,_,Tryz.underlying51,rfl,rfl,rfl,rfl,rfl,rfl,rfl,rfl⟩
 exs:=Tryz.underlying49
 rf:=⟨_,_,Tryz.underlying171,rfl,rfl,rfl,rfl⟩
 rfs:=Tryz.underlying48
 rl:=⟨_,_,_,Tryz.underlying53,rfl,rfl,rfl,rfl,rfl,rfl⟩
 rls:=Tryz.underlying44
 ty:=⟨_,_,Tryz.underlying46,rfl,rfl,rfl,rfl⟩
 tys:=Tryz.underlying22
 sc:=⟨_,Tryz.underlying24,rfl,rfl⟩
 cI:=by kernel_rfl
 cN:=by kernel_rfl
 cE:=by kernel_rfl
 cEs:=by kernel_rfl
 cF:=by kernel_rfl
 cFs:=by kernel_rfl
 cR:=by kernel_rfl
 cRs:=by kernel_rfl
 cT:=by kernel_rfl
 cTs:=by kernel_rfl
 cS:=by kernel_rfl
 bE:=of_decide_eq_true (by kernel_rfl)
 bF:=of_decide_eq_true (by kernel_rfl)
 bR:=of_decide_eq_true (by kernel_rfl)
 bT:=of_decide_eq_true (by kernel_rfl)
theorem tuT:TuT Tryz.prog 25 41 39 27 9 where
 str:=Tryz.underlying9
 ob:=⟨_,_,Tryz.underlying27,rfl,rfl,rfl,rfl⟩
 nd:=⟨_,_,Tryz.underlying39,rfl,rfl,rfl,rfl⟩
 tu:=⟨_,_,_,Tryz.underlying41,rfl,rfl,rfl,rfl,rfl,rfl⟩
 tus:=Tryz.underlying25
 cN:=by kernel_rfl
 cO:=by kernel_rfl
 cD:=by kernel_rfl
 cU:=by kernel_rfl
 bU:=of_decide_eq_true (by kernel_rfl)
theorem weights_one {H:Type} {P:Program} {t:TypeId} {d:DataW H} {ts:List TypeId} {ds:List (DataW H)} (h:(DataW.weightsEach P (t :: ts) (d :: ds)).all (·≤reachBytes)=true):Wt P t d∧(DataW.weightsEach P ts ds).all (·≤reachBytes)=true:=by
 simp only [DataW.weightsEach,List.all_append,Bool.and_eq_true,List.all_eq_true,decide_eq_true_eq] at h
 refine ⟨h.1,?_⟩
 rw [List.all_eq_true]
 exact fun x hx=>decide_eq_true (h.2 x hx)
theorem trodAll_six {H:Type} {enc:TypeId×Value→H} {P:Program} {w:World} {base:Nat} {spare:Nat→Bool} {held:Bool} {t0 t1 t2 t3 t4 t5:TypeId} {args:Array Value} {ds:List (DataW H)} {ps:List MemPlace} (h:DataW.TrodAll enc P w base spare held [t0,t1,t2,t3,t4,t5] args.toList ds ps) :
  ∃ v0 v1 v2 v3 v4 v5 d0 d1 d2 d3 d4 d5 p0 p1 p2 p3 p4 p5,args=#[v0,v1,v2,v3,v4,v5]∧ds=[d0,d1,d2,d3,d4,d5]∧ps=p0++(p1++(p2++(p3++(p4++(p5)))))∧DataW.Trod enc P w base spare held t0 v0 d0 p0∧DataW.Trod enc P w base spare held t1 v1 d1 p1∧DataW.Trod enc P w base spare held t2 v2 d2 p2∧DataW.Trod enc P w base spare held t3 v3 d3 p3∧DataW.Trod enc P w base spare held t4 v4 d4 p4∧DataW.Trod enc P w base spare held t5 v5 d5 p5:=by
 obtain ⟨v0,vs0,d0,ds0,p0,q0,hargs,rfl,rfl,h0,g0⟩:=trodAll_cons h
 obtain ⟨v1,vs1,d1,ds1,p1,q1,rfl,rfl,rfl,h1,g1⟩:=trodAll_cons g0
 obtain ⟨v2,vs2,d2,ds2,p2,q2,rfl,rfl,rfl,h2,g2⟩:=trodAll_cons g1
 obtain ⟨v3,vs3,d3,ds3,p3,q3,rfl,rfl,rfl,h3,g3⟩:=trodAll_cons g2
 obtain ⟨v4,vs4,d4,ds4,p4,q4,rfl,rfl,rfl,h4,g4⟩:=trodAll_cons g3
 obtain ⟨v5,vs5,d5,ds5,p5,q5,rfl,rfl,rfl,h5,g5⟩:=trodAll_cons g4
 obtain ⟨rfl,rfl,rfl⟩:=trodAll_nil g5
 exact ⟨v0,v1,v2,v3,v4,v5,d0,d1,d2,d3,d4,d5,p0,p1,p2,p3,p4,p5,by cases args;simp_all,rfl,by simp,h0,h1,h2,h3,h4,h5⟩
end Go.Proofs.YtadmdlpmikoghaaGreat
namespace Go.Proofs.YtadmdlpmikoghaaGreat
open Go.ChangeShapes Go.WideShapes Go.ChangeAt Go.RowKit Go.HL
set_option maxRecDepth 100000 in
theorem listsObjects_lifted (os:Os) (started:os.Started) (H:Type) (enc:TypeId×Value→H) :
  ReturnsInHanded {} Tryz.checked os 10 .any (fun w args=>(Rows.listsObjectsSpec.pre enc Tryz.prog Tryz.f10 Rows.listsObjectsRow.domain false w args∧True)∧sizedMet enc Tryz.prog Tryz.f10 (OpenSpec.ofChange Rows.listsObjectsSpec) false w args)
   (Rows.listsObjectsSpec.post enc Tryz.prog Tryz.f10 false true false false):=by
 refine returnsInHanded_of_change_and (C:=Tryz.checked) (X:=fun _ _=>True) (fun _ _ _ _ h=>h) own started (by kernel_rfl) Tryz.func10
  (by
   obtain ⟨w,t,i,h1,h2,h3,h4,h5,h6⟩:=ChangeSpec.witness6 (enc:=enc) (C:=Tryz.checked) (os:=os) (f:=10) (fn:=Tryz.f10) (s:=Rows.listsObjectsSpec) (conds:=Rows.listsObjectsRow.domain) (apart:=false) false ⟨#[],#[.agg #[.slice none 0 0],.slice none 0 0,.string ⟨#[]⟩,.string ⟨#[]⟩,.agg #[.string ⟨#[]⟩,.string ⟨#[]⟩],.int .i64 0],[]⟩ 8 (by kernel_rfl) (by kernel_rfl) (by kernel_rfl) (by kernel_rfl)
   exact ⟨w,t,i,h1,h2,h3,h4,⟨⟨h5.1,trivial⟩,h5.2⟩,h6⟩) ?_
 intro W base args ds gs before hval0 hW hcnd hsz0 _ _
 have hval:∀ (j:Nat) t v,Tryz.f10.params[j]?=some t→args[j]?=some v→Value.okWide Tryz.prog W .any base t v:=hval0
 have hsz:(DataW.weightsEach Tryz.prog (Tryz.f10.params.toList++[]) (ds++gs)).all (·≤reachBytes)=true:=hsz0
 have hW':=hW
 obtain ⟨p,q,hA0,hV,rfl,hfz,hnd⟩:=hW
 have hA:DataW.TrodAll enc Tryz.prog W 0 (fun _=>true) true Tryz.f10.params.toList args.toList ds p:=hA0
 rw [Tryz.params10] at hA hval hsz
 obtain ⟨v0,v1,v2,v3,v4,v5,d0,d1,d2,d3,d4,d5,p0,p1,p2,p3,p4,p5,rfl,rfl,rfl,h0,h1,h2,h3,h4,h5⟩:=trodAll_six hA
 obtain ⟨rfl,rfl⟩:=trodVars_none hV
 obtain ⟨w0,hsz⟩:=weights_one hsz
 obtain ⟨w1,hsz⟩:=weights_one hsz
 obtain ⟨-,hsz⟩:=weights_one hsz
 obtain ⟨-,hsz⟩:=weights_one hsz
 obtain ⟨w4,hsz⟩:=weights_one hsz
 obtain ⟨-,hsz⟩:=weights_one hsz
 obtain ⟨vs0,hvs0,-⟩:=okWide_struct Tryz.underlying24 (hval 0 24 v0 rfl rfl)
 obtain ⟨a0,hs0,hv0⟩:=open_sc scT w0 h0 ⟨vs0,hvs0⟩
 obtain ⟨a1,hs1,hv1⟩:=open_tus tuT w1 h1 (okWide_slice Tryz.underlying25 (hval 1 25 v1 rfl rfl))
 obtain ⟨a2,rfl,-,-,-⟩:=Go.ChangeMaps.open_string Tryz.underlying9 (hval 2 9 v2 rfl rfl) h2
 obtain ⟨a3,rfl,-,-,-⟩:=Go.ChangeMaps.open_string Tryz.underlying9 (hval 3 9 v3 rfl rfl) h3
 obtain ⟨vs4,hvs4,-⟩:=okWide_struct Tryz.underlying27 (hval 4 27 v4 rfl rfl)
 obtain ⟨a4,hs4,hv4⟩:=open_obj tuT w4 h4 ⟨vs4,hvs4⟩
 obtain ⟨a5,rfl,rfl,rfl,-⟩:=Go.ChangeShapes.open_int Tryz.underlying3 (hval 5 3 v5 rfl rfl) h5
 clear hA0 hval0 hsz0
 refine (call_true (by kernel_rfl) (c_ListsObjects hs0 hs1 a2 a3 a4 a5) (vs:=#[v0,v1,.string a2,.string a3,v4,.int .i64 a5]) (.cons hv0 (.cons hv1 (.cons (.str _) (.cons (.str _) (.cons hv4 (.cons (.int _ _) .nil))))))).mono fun e W' ⟨he,hB⟩=>?_
 subst he
 have hts:(Tryz.f10.params.toList.all fun t=>Tryz.prog.readableRec t&&decide (t<Tryz.prog.types.size))=true:=by kernel_rfl
 exact ⟨_,rfl,post_kept laidOut (fun t ht=>by have h:=List.all_eq_true.1 hts t ht;rw [Bool.and_eq_true] at h;exact ⟨h.1,of_decide_eq_true h.2⟩) rfl hW' ⟨rfl,rfl,rfl⟩ (tb:=4) (by kernel_rfl) Tryz.underlying4 hB⟩
set_option maxRecDepth 100000 in
theorem listsObjects_p0:(Rows.listsObjectsRow.inPlace==Tryz.pinned.checked.prog.inPlace 10)=true:=by kernel_rfl
set_option maxRecDepth 100000 in
theorem listsObjects_p1:(Rows.listsObjectsRow.unfollowed==Tryz.pinned.checked.prog.unfollowed 10)=true:=by kernel_rfl
set_option maxRecDepth 100000 in
theorem listsObjects_p2:(Rows.listsObjectsRow.recurses==Tryz.pinned.checked.prog.recurses 10)=true:=by kernel_rfl
set_option maxRecDepth 100000 in
theorem listsObjects_p3:(Rows.listsObjectsRow.named==Tryz.pinned.checked.prog.varsNamed 10)=true:=by kernel_rfl
set_option maxRecDepth 100000 in
theorem listsObjects_p4:laidOutB Tryz.pinned.checked.prog=true:=by kernel_rfl
set_option maxRecDepth 100000 in
theorem listsObjects_p5:mapsRowed Tryz.pinned.checked.prog=true:=by kernel_rfl
set_option maxRecDepth 100000 in
theorem listsObjects_p6:Tryz.pinned.checked.prog.stopsHeard=true:=by kernel_rfl
set_option maxRecDepth 100000 in
theorem listsObjects_p7:Tryz.pinned.checked.prog.mayEnter=true:=by kernel_rfl
set_option maxRecDepth 100000 in
theorem listsObjects_closed:joinedFacts Tryz.pinned.checked.prog 10 Tryz.f10 Rows.listsObjectsSpec Rows.listsObjectsRow=true:=by
 unfold joinedFacts
 rw [listsObjects_p0,listsObjects_p1,listsObjects_p2,listsObjects_p3,listsObjects_p4,listsObjects_p5,listsObjects_p6,listsObjects_p7]
 kernel_rfl
theorem listsObjects_holds:Rows.ListsObjectsSaid:=
 OpenClaim.holds_of_wide 10 Tryz.f10 rfl rfl rfl rfl rfl rfl rfl ⟨rfl,rfl,rfl,rfl,rfl⟩ rfl rfl rfl rfl rfl (by kernel_rfl) Tryz.func10 listsObjects_closed
  (of_decide_eq_true (by kernel_rfl)) (by unfold Func.isWrapper;first | (rw [if_pos (by decide +kernel)];kernel_rfl) | (rw [if_neg (by decide +kernel)];exact ⟨rfl,rfl⟩))
  (fun os started H enc _=>by
   have h:=listsObjects_lifted os started H enc
   simp only [and_true] at h
   exact h)
end Go.Proofs.YtadmdlpmikoghaaGreat
