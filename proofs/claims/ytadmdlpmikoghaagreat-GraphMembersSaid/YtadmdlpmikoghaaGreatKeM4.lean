/- A part of a proof. -/
import Derived.Test.YtadmdlpmikoghaaGreatKeM3
import Derived.Test.YtadmdlpmikoghaaGreatKeHlS0
set_option maxRecDepth 4000
set_option linter.unusedSimpArgs false
set_option linter.unusedVariables false
namespace Go.HL
open List renaming length_map→lA,mem_of_getElem?→lB,getElem?_map→lC,length_cons→lD,getElem?_eq_getElem→lE,take_of_length_le→lF,length_append→lH,length_nil→lJ,map_append→lK,getElem?_of_mem→lL,mem_cons→lN,mem_singleton→lO,length_singleton→lP,nil_append→lQ,length_take→lR,length_filter_le→lS,append_nil→lU,getElem?_cons_zero→lZ
open Nat renaming reduceAdd→zA,reduceLeDiff→zB,reduceLT→zC,reduceSub→zD,reduceMul→zE,reduceEqDiff→zF,reduceBEq→zG
open Int renaming reduceAdd→zH,reduceToNat→zI
theorem Upto.next {s:List Ty} {L:List Tu} {who:Ob} {T:List Ob} {v:Nat} {K:List Nd} (h:Upto (y07 s L who) (q1y s T) v K) (hT:∀ n x,x∈(y07 s L who).of n->n.o∈T)
  (hcl:∀ n j k r,q0h s n.o.ty n.rl=some (j,k,r)->lvN s n=v->n.o∈T->q1n (y07 s L who) (fun c=>decide (c∈K)) n r=true->n∈K):Upto (y07 s L who) (q1y s T) (v+1) K:=by
 have hT':∀ n∈K,n.o∈T:=by
  intro n hn;have:=h.sub n hn;obtain ⟨o,ho,hq⟩:=List.mem_flatMap.1 this;obtain ⟨t,-,hq⟩:=List.mem_flatMap.1 hq;obtain ⟨r,-,rfl⟩:=List.mem_map.1 hq;exact ho
 refine ⟨h.nd,h.sub,h.step,h.srt,fun n hn=>Nat.le_succ_of_le (h.top n hn),fun n j k r hf hlt hb=>?_⟩
 rcases Nat.lt_succ_iff_lt_or_eq.1 hlt with h1 | h1
 ·exact h.closed n j k r hf h1 hb
 ·exact hcl n j k r hf h1 (y4e hT (fun c hc=>hT' c (of_decide_eq_true hc)) hb) hb
theorem yk7 {s:List Ty} {T:List Ob}:(q1y s T).length=T.length * q0n s:=by
 unfold q1y q0n
 induction T with
 | nil=>simp
 | cons o T ih=>
  rw [List.flatMap_cons,lH,ih,lD,Nat.succ_mul,Nat.add_comm]
  congr 1
  rw [List.length_flatMap]
  congr 1
  apply List.map_congr_left
  intro t _;simp
theorem xii {s:List Ty} {L:List Tu} {who:Ob} {bw:Nat} {S0 S:q00} {T:List Ob} {QF:AEnd->q00->Prop} (R:Rnd s L who) (hT:∀ n x,x∈(y07 s L who).of n->n.o∈T) (hlT:T.length<=2000) (hw:W14 s L who bw S0 T [] S)
  (hQ:∀ K S',W14 s L who bw S0 T K S'->Mod (y07 s L who) K->QF (.ret (.tup [.ptr bw 0,.bool true])) S') :
  LoopP (fun r0 l S=>x1t QF r0 (y00 l 10) (y00 l 12) (y00 l 14) S) [(10,.sl 1 (lvC (y05 s))),(12,.ptr bw 0),(14,.int .i64 0)] S:=by
 have hm:=(q28 R.c).many;have hC:(q1y s T).length<1000000:=by
  rw [yk7]
  calc T.length * q0n s<=2000 * 256:=Nat.mul_le_mul hlT hm
   _<1000000:=by decide
 refine LoopP.introS (fun v:Nat=>[(10,.sl 1 (lvC (y05 s))),(12,.ptr bw 0),(14,.int .i64 v)]) (fun v S'=>v<=300/\∃ K,W14 s L who bw S0 T K S'/\Upto (y07 s L who) (q1y s T) v K) (fun v=>300-v) 0
  ⟨by omega,[],hw,⟨by simp,fun n hn=>(by cases hn),fun i n hi=>by simp at hi,fun i j n m hi=>by simp at hi,fun n hn=>(by cases hn),fun n j k r _ hlt=>by omega⟩⟩ rfl ?_
 rintro v S1 ⟨hv,K1,w1,u1⟩ kk hkk;(try simp only [rwp,zA,zB,zC,zD,zE,zF,zG,zH,zI,rwb,reduceIte,x1t]);cases a1:decide ((v:Int)<300)
 ·(try simp only [rwp,zA,zB,zC,zD,zE,zF,zG,zH,zI,rwb,reduceIte]);have e:v=300:=by have:=of_decide_eq_false a1;omega
  subst e;exact q3n (hQ K1 S1 w1 (u1.mod fun n j k r hf=>Nat.lt_of_le_of_lt (yuk R.c hf) (by show q0n s<300;omega)))
 ·have hlt:=of_decide_eq_true a1;(try simp only [rwp,zA,zB,zC,zD,zE,zF,zG,zH,zI,rwb,reduceIte]);refine LoopP.introS (fun n:Nat=>[(10,.sl 1 (lvC (y05 s))),(12,.ptr bw 0),(14,.int .i64 v),(15,.int .i64 n)]) (fun n S'=>n<=1000000/\∃ K,W14 s L who bw S0 T K S'/\Upto (y07 s L who) (q1y s T) v K/\n<=K.length) (fun n=>1000000-n) 0
   ⟨by omega,K1,w1,u1,by omega⟩ rfl ?_
  rintro n S2 ⟨hn,K2,w2,u2,hnk⟩ kk2 hkk2;have hle:=y84 u2.nd u2.sub;(try simp only [rwp,zA,zB,zC,zD,zE,zF,zG,zH,zI,rwb,reduceIte,xag]);rw [decide_eq_true (show (n:Int)<1000000 by omega)]
  (try simp only [rwp,zA,zB,zC,zD,zE,zF,zG,zH,zI,rwb,reduceIte]);refine q0k (ylw R w2 u2 hC (by omega)) ?_
  rintro ae S3 ⟨b,K3,rfl,w3,u3,y3,n3⟩;dsimp only;cases b
  ·(try simp only [rwp,zA,zB,zC,zD,zE,zF,zG,zH,zI,rwb,reduceIte])
   (simp (disch:=omega) only [q05])
   obtain ⟨e,hcl⟩:=n3 rfl;subst e;exact q09 rfl (hkk (v+1) _ ⟨by omega,K3,w3,u3.next hT hcl⟩ (by omega))
  ·(try simp only [rwp,zA,zB,zC,zD,zE,zF,zG,zH,zI,rwb,reduceIte])
   (simp (disch:=omega) only [q05])
   have:=y3 rfl;exact q09 rfl (hkk2 (n+1) _ ⟨by omega,K3,w3,u3,by omega⟩ (by omega))
structure P14 (s:List Ty) (L:List Tu) (who:Ob) (bw:Nat) (S0:q00) (T:List Ob) (S:q00):Prop where
 ex:∃ tv,q0m S bw=some (q7u,wC s L tv who .nils,6)/\LstW S0 S y0c 2 tv (T.map obC)/\q0u tv bw
 sub:Sub S0 S
 nb:y01 S0 bw=none
theorem P14.w {s:List Ty} {L:List Tu} {who:Ob} {bw:Nat} {S0 S:q00} {T:List Ob} (h:P14 s L who bw S0 T S) (hl:T.length<=1000000):W14 s L who bw S0 T [] S:=by
 obtain ⟨tv,h1,h2,h3⟩:=h.ex;exact ⟨⟨tv,.nils,h1,h2,LstW.nil,h3,fun b off n cap e=>(by cases e),fun _ _ _ _ _ b off n cap e=>(by cases e)⟩,h.sub,h.nb,by simp,hl⟩
theorem P14.add {s:List Ty} {L:List Tu} {who:Ob} {bw:Nat} {S0 S:q00} {T:List Ob} {tv:AV} (hnb:y01 S0 bw=none) (hs:Sub S0 S) (h1:q0m S bw=some (q7u,wC s L tv who .nils,6)) (h2:LstW S0 S y0c 2 tv (T.map obC)) (h3:q0u tv bw) (hl:T.length<=1000000) (o:Ob) {K:AV->q00->Prop} {Qp:AV->q00->Prop}
  (hK:∀ tv' S',q0m S' bw=some (q7u,wC s L tv who .nils,6)->one tv'=true->P14 s L who bw S0 (yf6 T o) (supd S' bw (.cells q7u (wC s L tv' who .nils) 6))->K tv' S'):caW PG S (.func (.func yjy) [] []) [tv,.agg (obC o)] K Qp:=by
 refine q0k (yzx hs h2 hl o) ?_;rintro ae S' ⟨tv',rfl,k1,k2,k3⟩;obtain ⟨i1,i2⟩:=k3 bw _ (objAt_some.1 h1) h3;exact hK tv' S' (objAt_some.2 i1) k1.one ⟨⟨tv',q0f,k1.upd i2 _,i2⟩,Sub.supd hnb k2,hnb⟩
theorem y6s {T:List Ob} {o:Ob}:(yf6 T o).length<=T.length+1:=by
 unfold yf6;split<;>simp
theorem addT_mem {T:List Ob} {o x:Ob}:x∈yf6 T o↔x∈T\/x=o:=by
 unfold yf6;split
 ·rename_i h
  exact ⟨.inl,fun hq=>hq.elim id fun e=>by rw [e];exact h⟩
 ·rw [List.mem_append,lO]
theorem xij {s:List Ty} {L:List Tu} {who:Ob} {bw:Nat} {S0 S:q00} {o:Ob} {QF:AEnd->q00->Prop} (R:Rnd s L who) (hlL:L.length<=500) (h0:P14 s L who bw S0 [o] S)
  (hQ:∀ T K S',W14 s L who bw S0 T K S'->Mod (y07 s L who) K->QF (.ret (.tup [.ptr bw 0,.bool true])) S'):yn2 QF (.sl 1 (lvC (y05 s))) (.ptr bw 0) S:=by
 unfold yn2;refine LoopP.introS (fun i:Nat=>[(10,.sl 1 (lvC (y05 s))),(12,.ptr bw 0),(13,.int .i64 i)]) (fun i S'=>i<=L.length/\∃ T,P14 s L who bw S0 T S'/\T.length<=1+2 * i/\∀ (j:Nat) (t:Tu),j<i->L[j]?=some t->t.o∈T) (fun i=>L.length-i) 0
  ⟨by omega,[o],h0,by simp,fun j t hj=>by omega⟩ rfl ?_
 rintro i S1 ⟨hi,T,p1,hlT,hmem⟩ kk hkk;obtain ⟨tv,ho,ht,hta⟩:=p1.ex;have hc:=q08 ho;(try simp only [rwp,zA,zB,zC,zD,zE,zF,zG,zH,zI,rwb,reduceIte,xah,hc,wC,lA])
 (refine q02 (fun hlt=>?_) (fun hlt=>?_)<;>(try simp only [hlc] at hlt))
 ·obtain ⟨t,hg⟩:=q0c hlt;(try simp only [rwp,zA,zB,zC,zD,zE,zF,zG,zH,zI,rwb,reduceIte,hc,wC,lC,hg,tuC]);refine P14.add p1.nb p1.sub ho ht hta (by omega) t.o fun tv2 S2 o2 n2 p2=>?_
  (try simp only [rwp,zA,zB,zC,zD,zE,zF,zG,zH,zI,rwb,reduceIte]);rw [o2,ys2 n2];obtain ⟨tv3,ho3,ht3,hta3⟩:=p2.ex;have hc3:=q08 ho3;have hl2:=@y6s T t.o;have e3:tv2=tv3:=by
   have h:=ho3;rw [q0f] at h;simpa [wC] using h
  subst e3;generalize supd S2 bw (.cells q7u (wC s L tv2 who .nils) 6)=S3 at p2 ho3 ht3 hc3 ⊢;(try simp only [rwp,zA,zB,zC,zD,zE,zF,zG,zH,zI,rwb,reduceIte,hc3,wC,lC,hg,tuC]);refine P14.add p2.nb p2.sub ho3 ht3 hta3 (by omega) t.s.o fun tv4 S4 o4 n4 p4=>?_
  have hl4:=@y6s (yf6 T t.o) t.s.o;(try simp only [rwp,zA,zB,zC,zD,zE,zF,zG,zH,zI,rwb,reduceIte]);rw [o4,ys2 n4]
  (simp (disch:=omega) only [q05])
  refine q09 rfl (hkk (i+1) _ ⟨by omega,_,p4,by omega,fun j u hj hu=>?_⟩ (by omega))
  rw [addT_mem,addT_mem];rcases Nat.lt_succ_iff_lt_or_eq.1 hj with h1 | rfl
  ·exact .inl (.inl (hmem j u h1 hu))
  ·rw [hg] at hu;cases hu;exact .inl (.inr rfl)
 ·(try simp only [rwp,zA,zB,zC,zD,zE,zF,zG,zH,zI,rwb,reduceIte]);have e:i=L.length:=by omega
  subst e;refine xii R (fun n x hx=>?_) (by omega) (p1.w (by omega)) (hQ T)
  obtain ⟨t,ht,rfl⟩:=List.mem_map.1 hx;unfold ofF at ht;simp only [List.mem_filter,Bool.and_eq_true,decide_eq_true_eq] at ht;obtain ⟨j,hj⟩:=lL ht.1;have:=hmem j t (List.getElem?_eq_some_iff.1 hj).1 hj;rw [ht.2.1] at this;exact this
theorem x04 {s:List Ty} (hs:OkS s) (hN:OkN s) {l:List Tu} (hl:OkL l) (hn:l.length<=500) (o who:Ob) (S:q00) :
  ACalls PG x6z [scA s,.sl 6 (l.map tuC),.agg (obC o),.agg (obC who)] S fun ae S'=>(y0a (y08 s)≠0/\ae=.ret (.tup [.nilp,.bool false])/\S'=S) \/
   (y0a (y08 s)=0/\∃ bw T K,ae=.ret (.tup [.ptr bw 0,.bool true])/\W14 s (q0l s l) who bw S T K S'/\Mod (y0l s l who) K):=by
 refine xla ?_;unfold xjs;have q1:=y2w hs hN;have q3:=q66 hs hl;unfold ypr at q1;(try simp only [rwp,zA,zB,zC,zD,zE,zF,zG,zH,zI,rwb,reduceIte,scA,obC]);simp only [scA] at q1 q3;by_cases hk:y0a (y08 s)=0
 ·rw [if_pos hk] at q1;refine q06 q1 ?_;(try simp only [rwp,zA,zB,zC,zD,zE,zF,zG,zH,zI,rwb,reduceIte]);have R:Rnd s (q0l s l) who:=⟨hs,hk,y1y hl,y1w s l who⟩;have hlc:(q0l s l).length<=500:=Nat.le_trans (lS _ _) hn;have fin:∀ (bt bw:Nat) (S2:q00),y01 S bt=none->y01 (supd S bt (.cells y0c [.str o.ty,.str o.id] 2)) bw=none->S2=supd (supd S bt (.cells y0c [.str o.ty,.str o.id] 2)) bw (.cells q7u (wC s (q0l s l) (.own bt 0 1 1) who .nils) 6) ->
    yn2 (fun ae S'=>(y0a (y08 s)≠0/\ae=.ret (.tup [.nilp,.bool false])/\S'=S)\/(y0a (y08 s)=0/\∃ bw T K,ae=.ret (.tup [.ptr bw 0,.bool true])/\W14 s (q0l s l) who bw S T K S'/\Mod (y0l s l who) K)) (.sl 1 (lvC (y05 s))) (.ptr bw 0) S2:=by
   rintro bt bw S2 hbt hbw rfl;obtain ⟨hne,hbw'⟩:=yij hbw;refine xij R hlc (o:=o) (S0:=S) ⟨⟨.own bt 0 1 1,q0f,⟨fun r hr=>by rw [List.mem_singleton.1 hr];rfl,.inr ⟨bt,1,[.str o.ty,.str o.id],rfl,hbt,?_,rfl,by simp,by simp,by decide⟩⟩,fun b off n cap e=>by cases e;exact hne⟩,Sub.supd hbw' (Sub.supd hbt (Sub.refl _)),hbw'⟩ fun T K S' h1 h2=>.inr ⟨hk,bw,T,K,rfl,h1,h2⟩
   rw [q01,if_neg hne,q01,if_pos rfl]
  refine ⟨?_,?_⟩
  ·refine q06 q3 ?_;(try simp only [rwp,zA,zB,zC,zD,zE,zF,zG,zH,zI,rwb,reduceIte]);refine ⟨by simp [yil,q0a,y0b],fun bt hbt=>?_⟩
   (try simp only [rwp,zA,zB,zC,zD,zE,zF,zG,zH,zI,rwb,reduceIte]);refine ⟨rfl,rfl,fun bw hbw=>?_⟩
   exact fin bt bw _ hbt hbw rfl
  ·refine ⟨by simp [yil,q0a,y0b],fun bt hbt=>?_⟩
   refine q06 q3 ?_;(try simp only [rwp,zA,zB,zC,zD,zE,zF,zG,zH,zI,rwb,reduceIte]);refine ⟨rfl,rfl,fun bw hbw=>?_⟩
   exact fin bt bw _ hbt hbw rfl
 ·rw [if_neg hk] at q1;refine q06 q1 ?_;(try simp only [rwp,zA,zB,zC,zD,zE,zF,zG,zH,zI,rwb,reduceIte]);exact q3n (.inl ⟨hk,rfl,rfl⟩)
theorem ym4 {s:List Ty} (hs:OkS s) (hN:OkN s) {l:List Tu} (hl:OkL l) (hn:l.length<=500) (n:Nd) (who:Ob) (S:q00) :
  ACalls PG yyi [scA s,.sl 6 (l.map tuC),.agg (obC n.o),.str n.rl,.agg (obC who)] S fun ae S'=>∃ b:Bool,ae=.ret (.bool b)/\S'=S/\(y0a (y08 s)≠0->b=false)/\(y0a (y08 s)=0->∃ K,Mod (y0l s l who) K/\b=decide (n∈K)):=by
 refine xlt ?_;unfold xka;have q:=x04 hs hN hl hn n.o who S;simp only [scA,obC] at q;(try simp only [rwp,zA,zB,zC,zD,zE,zF,zG,zH,zI,rwb,reduceIte,scA,obC]);refine q0k q ?_;rintro ae S1 (⟨h0,rfl,rfl⟩ | ⟨h0,bw,T,K,rfl,hw,hM⟩)
 ·(try simp only [rwp,zA,zB,zC,zD,zE,zF,zG,zH,zI,rwb,reduceIte]);exact q04 ⟨false,rfl,rfl,fun _=>rfl,fun h=>absurd h h0⟩
 ·(try simp only [rwp,zA,zB,zC,zD,zE,zF,zG,zH,zI,rwb,reduceIte]);have q2:=q5c hw n;simp only [obC] at q2;refine q13 q2 ?_;(try simp only [rwp,zA,zB,zC,zD,zE,zF,zG,zH,zI,rwb,reduceIte]);exact q7z hw.sub ⟨_,rfl,rfl,fun h=>absurd h0 h,fun _=>⟨K,hM,rfl⟩⟩
set_option maxRecDepth 4000
theorem Fr.lstW {S0 S:q00} {t sz:Nat} {v:AV} {rows:List (List AV)} (h:LstW S0 S t sz v rows):Fr S0 S v (.sl sz rows):=by
 obtain ⟨hr,⟨rfl,rfl⟩ | ⟨b,cap,cs,rfl,h1,h2,h3,h4,h5,h6⟩⟩:=h
 ·exact .nils sz
 ·exact .ownW t sz b _ cap rows cs hr h1 h2 h3 rfl h5
theorem LstN.keepAt {S0 S S':q00} {t sz:Nat} {v:AV} {rows:List (List AV)} (h:LstN S0 S t sz v rows) (hk:∀ b off n cap,v=.own b off n cap->y01 S' b=y01 S b):LstN S0 S' t sz v rows:=by
 obtain ⟨hr,h⟩:=h;refine ⟨hr,?_⟩;rcases h with h | ⟨b,cap,rfl,h1,h2,h3⟩
 ·exact .inl h
 ·exact .inr ⟨b,cap,rfl,h1,by rw [hk b _ _ _ rfl];exact h2,h3⟩
def ofL (L:List Tu) (n:Nd):List (List AV):=((ofF L n).map Tu.s).map ndC
theorem ypg {L:List Tu} {i:Nat} {t:Tu} (h:L[i]?=some t) (n:Nd):ofL (L.take (i+1)) n=ofL (L.take i) n++if n=ndT t then [ndC t.s] else []:=by
 unfold ofL ofF;rw [q1v h,lK,lK]
 congr 1
 by_cases h2:n=ndT t
 ·rw [if_pos h2];subst h2;simp [ndT]
 ·rw [if_neg h2];have:(decide (t.o=n.o)&&decide (t.rl=n.rl))=false:=by
   rw [Bool.eq_false_iff];intro hq;simp only [Bool.and_eq_true,decide_eq_true_eq] at hq;refine h2 ?_;cases n;simp only [ndT,Nd.mk.injEq];exact ⟨hq.1.symm,hq.2.symm⟩
  simp [this]
theorem yye {L:List Tu} {i:Nat} {n:Nd}:(ofL (L.take i) n).length<=i:=by
 unfold ofL ofF;rw [lA,lA];exact Nat.le_trans (lS _ _) (List.length_take_le _ _)
abbrev KsG (bw br bk bh:Nat) (tv:AV) (c:Nat):Prop:=c=bw\/c=br\/c=bk\/c=bh\/∃ off n cap,tv=.own c off n cap
structure KnI (s:List Ty) (who:Ob) (S:q00) (bw bo br bk bh:Nat) (f:Nd->List (List AV)) (tv:AV) (T:List Ob) (S':q00):Prop where
 sub:Sub S S'
 w:q0m S' bw=some (yol,gwC bo br bk who,5)
 rl:KMap MS AV.str S' br (y7q s)
 kn:y01 S' bk=some (.map MD [] 0)
 of:∃ es clk,OfM S S' 39 bo (KsG bw br bk bh tv) f es clk
 tl:LstN S S' y0c 2 tv (T.map obC)
 ta:∀ c,(c=bw\/c=br\/c=bk\/c=bh\/c=bo)->q0u tv c
 hd:KMap MO obA S' bh (fun x=>if x∈T then some (.bool true) else none)
 nh:y01 S bh=none
 dh:bh≠bw/\bh≠br/\bh≠bk
theorem KMap.at {κ:Type} {M:Bool×List EK} {enc:κ->AV} {S S':q00} {b:Nat} {f:κ->Option AV} (h:KMap M enc S b f) (e:y01 S' b=y01 S b):KMap M enc S' b f:=by
 obtain ⟨es,clk,h1,h2,h3⟩:=h;exact ⟨es,clk,mapObj_some.2 (e.trans (mapObj_some.1 h1)),h2,h3⟩
section
variable {s:List Ty} {who:Ob} {S S':q00} {bw bo br bk bh:Nat} {f:Nd->List (List AV)} {tv:AV} {T:List Ob}
theorem KnI.add (h:KnI s who S bw bo br bk bh f tv T S') (hT:T.length<=100000) (x:Ob) {K:AV->q00->Prop} (hK:∀ tv' S2,KnI s who S bw bo br bk bh f tv' (yf6 T x) S2->K tv' S2) :
  lkW S' MO false (.bool false) (.map (some bh)) (.agg (obC x)) fun v84=>ntW v84 fun v85=>cnW v85 (muW S' MO (.map (some bh)) (.agg (obC x)) (.bool true) fun S2=>apW S2 y0c 2 32 tv (.sl 2 [obC x]) K) (K tv S'):=by
 refine h.hd.lki yz1 x ?_;by_cases hx:x∈T
 ·rw [if_pos hx];refine q3t (hK tv S' ?_);rw [yf6,if_pos hx];exact h
 ·rw [if_neg hx]
  show cnW (.bool true) _ _;refine ⟨fun _=>?_,fun e=>by cases e⟩
  refine h.hd.mu yz1 x fun es clk hd2=>?_
  obtain ⟨es1,clk1,hof⟩:=h.of;have hof2:=hof.supd (c:=bh) (.inr (.inr (.inr (.inl rfl)))) (.map MO es clk);have hsub2:Sub S (supd S' bh (.map MO es clk)):=Sub.supd h.nh h.sub;have tl2:=h.tl.upd (c:=bh) (h.ta bh (by simp)) (.map MO es clk)
  have hbo:bh≠bo:=(hof.ks bh (.inr (.inr (.inr (.inl rfl))))).1;have w2:y01 (supd S' bh (.map MO es clk)) bw=some (.cells yol (gwC bo br bk who) 5):=by rw [q01,if_neg h.dh.1];exact objAt_some.1 h.w
  have k2:y01 (supd S' bh (.map MO es clk)) bk=some (.map MD [] 0):=by rw [q01,if_neg h.dh.2.2];exact h.kn
  have r2:=h.rl.upd h.dh.2.1 (.map MO es clk);generalize supd S' bh (.map MO es clk)=S2 at hd2 hof2 hsub2 tl2 w2 k2 r2 ⊢;refine LstN.app hsub2 tl2 (fun r hr=>by rw [List.mem_singleton.1 hr];rfl) (q2q fun r hr=>by rw [List.mem_singleton.1 hr];rfl) (by simp only [lA,lP];omega) fun tv' S3 j1 j2 j3=>hK tv' S3 ?_
  have keep:∀ c,(c=bw\/c=br\/c=bk\/c=bh\/c=bo)->∀ o,y01 S2 c=some o->y01 S3 c=some o/\q0u tv' c:=fun c hc o ho=>j3 c o ho (h.ta c hc)
  have keepM:∀ {κ:Type} {M:Bool×List EK} {enc:κ->AV} {b:Nat} {g:κ->Option AV},(b=bw\/b=br\/b=bk\/b=bh\/b=bo)->KMap M enc S2 b g->KMap M enc S3 b g:=by
   intro κ M enc b g hb hm;obtain ⟨es,clk,m1,-⟩:=id hm;exact hm.at ((keep b hb _ (mapObj_some.1 m1)).1.trans (mapObj_some.1 m1).symm)
  obtain ⟨rk,rclk,rm,-⟩:=id r2;obtain ⟨dk,dclk,dm,-⟩:=id hd2;refine ⟨j1,objAt_some.2 (keep bw (by simp) _ w2).1,keepM (by simp) r2,(keep bk (by simp) _ k2).1,⟨es1,clk1,hof2.other (v:=tv) (v':=tv') (fun b off n cap e=>.inr (.inr (.inr (.inr ⟨off,n,cap,e⟩)))) j3 (fun c hc=>?_) fun c hc=>?_⟩,?_,fun c hc=>?_,?_,h.nh,h.dh⟩
  ·rcases hc with hc | hc | hc | hc | hc
   ·exact .inl (.inl hc)
   ·exact .inl (.inr (.inl hc))
   ·exact .inl (.inr (.inr (.inl hc)))
   ·exact .inl (.inr (.inr (.inr (.inl hc))))
   ·exact .inr hc
  ·have old:∀ {o:AObj},(c=bw\/c=br\/c=bk\/c=bh\/c=bo)->y01 S2 c=some o->y01 S3 c≠none:=fun hc ho=>by rw [(keep c hc _ ho).1];simp
   rcases hc with rfl | rfl | rfl | rfl | ⟨off,n,cap,rfl⟩
   ·exact ⟨(hof.ks _ (.inl rfl)).1,old (by simp) w2⟩
   ·exact ⟨(hof.ks _ (.inr (.inl rfl))).1,old (by simp) (mapObj_some.1 rm)⟩
   ·exact ⟨(hof.ks _ (.inr (.inr (.inl rfl)))).1,old (by simp) k2⟩
   ·exact ⟨hbo,old (by simp) (mapObj_some.1 dm)⟩
   ·refine ⟨Ne.symm ((keep bo (by simp) _ hof2.map).2 c _ _ _ rfl),?_⟩
    obtain ⟨hr,⟨e,-⟩ | ⟨b1,cap1,e,q1,q2,-⟩⟩:=j2
    ·cases e
    ·cases e
     rw [q2];simp
  ·rw [yf6,if_neg hx,lK];exact j2
  ·rcases hc with rfl | rfl | rfl | rfl | rfl
   ·exact (keep _ (by simp) _ w2).2
   ·exact (keep _ (by simp) _ (mapObj_some.1 rm)).2
   ·exact (keep _ (by simp) _ k2).2
   ·exact (keep _ (by simp) _ (mapObj_some.1 dm)).2
   ·exact (keep _ (by simp) _ hof2.map).2
  ·refine (keepM (by simp) hd2).cong fun y=>?_
   rw [yf6,if_neg hx];by_cases e:y=x
   ·subst e;simp
   ·simp [List.mem_append,e]
theorem KnI.push (h:KnI s who S bw bo br bk bh f tv T S') (n:Nd) {row:List AV} {K:q00->Prop} (hr:row.length=3) (ho:y06 row=true) (hb:((f n).length+1) * 48<=140737488355328)
  (hK:∀ S2,KnI s who S bw bo br bk bh (fun m=>if m=n then f n++[row] else f m) tv T S2->K S2) :
  meW S' MD .nils (.map (some bo)) (ndA n) fun v S=>exW 0 v fun v70=>exW 1 v fun v76=>apW S 39 3 48 v70 (.sl 3 [row]) fun v75 S=>mtW S (.map (some bo)) v76 v75 K:=by
 obtain ⟨es,clk,hof⟩:=h.of;refine hof.push h.sub n hr ho hb fun S2 es' clk' u1 u2 u3=>hK S2 ?_
 exact ⟨u1,objAt_some.2 ((u3 bw (.inl rfl)).trans (objAt_some.1 h.w)),h.rl.at (u3 br (.inr (.inl rfl))),(u3 bk (.inr (.inr (.inl rfl)))).trans h.kn,⟨es',clk',u2⟩,h.tl.keepAt fun b off n cap e=>u3 b (.inr (.inr (.inr (.inr ⟨off,n,cap,e⟩)))),h.ta,h.hd.at (u3 bh (.inr (.inr (.inr (.inl rfl))))),h.nh,h.dh⟩
end
set_option maxRecDepth 4000
theorem yz3 {a b c d:AV} {j:Nat} {K:AV->Prop} (h:j=0) (hk:K (.agg [a,b])):ixW 2 2 true (.agg [a,b,c,d]) (.int .i64 (j:Int)) K:=by
 subst h;exact hk
theorem yz2 {a b c d:AV} {j:Nat} {K:AV->Prop} (h:j=1) (hk:K (.agg [c,d])):ixW 2 2 true (.agg [a,b,c,d]) (.int .i64 (j:Int)) K:=by
 subst h;exact hk
section
variable {s:List Ty} {L:List Tu} {who:Ob} {S:q00} {bw bo br bk bl:Nat}
def x0z (s:List Ty) (L:List Tu) (who:Ob) (S:q00) (ae:AEnd) (S':q00):Prop:=∃ (bk:Nat) (K:List Nd),ae=.ret (.map (some bk))/\Sub S S'/\KMap MD ndA S' bk (fun n=>if n∈K then some (.bool true) else none)/\Mod (y07 s L who) K
theorem yz0 (R:Rnd s L who) {S1:q00} {bc m:Nat} {T:List Ob} (hm:m<=q0n s) (hup:∀ (j k x:Nat) (l:List Nat),(y05 s)[j]?=some l->l[k]?=some x->x<=m) (g:GS (y07 s L who) S bw bo br bk bl [] S1) (hb:y01 S1 bc=some (.cells 3 [.int .i64 0] 1)) (hne:bk≠bc) (hlT:T.length<=2000) (hT:∀ n x,x∈(y07 s L who).of n->n.o∈T) :
  LoopP (fun r0 l S'=>x1s (x0z s L who S) r0 (y00 l 11) (y00 l 15) (y00 l 21) (y00 l 22) S') [(11,.ptr bw 0),(15,.sl 2 (T.map obC)),(21,.rop [.map (some bl),.int .i64 m]),(22,.ptr bc 0)] S1:=by
 have hmany:=(q28 R.c).many;refine LoopP.introS (fun x:Nat×Nat=>[(11,.ptr bw 0),(15,.sl 2 (T.map obC)),(21,.rop [.map (some bl),.int .i64 m]),(22,.ptr x.2 0)])
  (fun x S'=>x.1<=m+1/\∃ K,GS (y07 s L who) S bw bo br bk bl K S'/\y01 S' x.2=some (.cells 3 [.int .i64 x.1] 1)/\bk≠x.2/\Upto (y07 s L who) (q1y s T) x.1 K) (fun x=>m+1-x.1) (0,bc)
  ⟨by dsimp only;omega,[],g,hb,hne,⟨by simp,fun n hn=>(by cases hn),fun i n hi=>by simp at hi,fun i j n m hi=>by simp at hi,fun n hn=>(by cases hn),fun n j k r _ hlt=>by omega⟩⟩ rfl ?_
 rintro ⟨v,bc⟩ S2 ⟨hv,K,g2,b2,hne2,u2⟩ kk hkk;dsimp only at hv b2 hne2 u2 ⊢;have hc2:=q08 (objAt_some.2 b2);(try simp only [rwp,zA,zB,zC,zD,zE,zF,zG,zH,zI,rwb,reduceIte,x1s,hc2]);cases a1:decide ((v:Int)<=m)
 ·have hcw:=q08 g2.w;(try simp only [rwp,zA,zB,zC,zD,zE,zF,zG,zH,zI,rwb,reduceIte,hcw,gwC]);obtain ⟨es,clk,hkn⟩:=g2.kn;have ev:v=m+1:=by have:=of_decide_eq_false a1;omega
  subst ev;refine q04 ⟨bk,K,rfl,g2.sub,hkn.kmap,u2.mod fun n j k r hf=>?_⟩
  obtain ⟨-,ty,hty,-,hkr⟩:=q11 hf;obtain ⟨lv,hl1,hl2⟩:=q7x (q45 s) hty;have hkl:=(List.getElem?_eq_some_iff.1 hkr).1;obtain ⟨x,hx⟩:∃ x,lv[k]?=some x:=⟨_,lE (by omega)⟩
  have:=hup j k x lv hl1 hx;unfold lvN;rw [hf]
  show y02 (y05 s) (j,k)<m+1;unfold y02;simp [hl1,hx];omega
 ·have hle:=of_decide_eq_true a1;(try simp only [rwp,zA,zB,zC,zD,zE,zF,zG,zH,zI,rwb,reduceIte]);refine q0k (ym1 R (mst:=m) g2 b2 hne2 u2 (by omega)) ?_
  rintro ae S3 ⟨rfl,K3,g3,b3,u3,cl3⟩;dsimp only;have hc3:=q08 (objAt_some.2 (b3.trans b2));(try simp only [rwp,zA,zB,zC,zD,zE,zF,zG,zH,zI,rwb,reduceIte,hc3]);intro bd hbd;(try simp only [rwp,zA,zB,zC,zD,zE,zF,zG,zH,zI,rwb,reduceIte])
  (simp (disch:=omega) only [q05])
  have e:supd (supd (supd S3 bd (.cells 3 [.int .i64 0] 1)) bd (.cells 3 [.int .i64 v] 1)) bd (.cells 3 [.int .i64 (v+1)] 1)=supd S3 bd (.cells 3 [.int .i64 ((v+1:Nat):Int)] 1):=by rw [q0q,q0q];rfl
  refine q09 rfl (hkk (v+1,bd) _ ⟨by dsimp only;omega,K3,g3.fresh hbd _,by rw [q01,if_pos rfl];rfl,?_,u3.next hT cl3⟩ (by dsimp only;omega))
  rintro rfl;exact g3.kb hbd
theorem yep (R:Rnd s L who) (hL:L.length<=500) (o:Ob) (S:q00):ACalls PG x6w [scA s,.sl 1 (lvC (y05 s)),.sl 6 (L.map tuC),.agg (obC o),.agg (obC who)] S (x0z s L who S):=by
 have hst:=R.os.types;refine xl7 ?_;unfold xjp;(try simp only [rwp,zA,zB,zC,zD,zE,zF,zG,zH,zI,rwb,reduceIte,scA,obC]);intro bo hbo br hbr;obtain ⟨dro,hbr'⟩:=yij hbr;intro bk hbk;obtain ⟨dkr,hbk'⟩:=yij hbk;obtain ⟨dko,hbk'⟩:=yij hbk';(try simp only [rwp,zA,zB,zC,zD,zE,zF,zG,zH,zI,rwb,reduceIte]);refine ⟨rfl,rfl,fun bw hbw=>?_⟩
 obtain ⟨dwk,hbw'⟩:=yij hbw;obtain ⟨dwr,hbw'⟩:=yij hbw';obtain ⟨dwo,hbw'⟩:=yij hbw';(try simp only [rwp,zA,zB,zC,zD,zE,zF,zG,zH,zI,rwb,reduceIte,lA]);generalize hS4:supd _ bw _=S4;have g4:∀ c,y01 S4 c=if bw=c then some (.cells yol (gwC bo br bk who) 5) else if bk=c then some (.map MD [] 0) else if br=c then some (.map MS [] 0) else if bo=c then some (.map MD [] 0) else y01 S c:=by
  intro c;rw [<- hS4,q01,q01,q01,q01];rfl
 have sub4:Sub S S4:=by rw [<- hS4];exact Sub.supd hbw' (Sub.supd hbk' (Sub.supd hbr' (Sub.supd hbo (Sub.refl _))))
 have w4:y01 S4 bw=some (.cells yol (gwC bo br bk who) 5):=by rw [g4,if_pos rfl]
 have k4:y01 S4 bk=some (.map MD [] 0):=by rw [g4,if_neg dwk,if_pos rfl]
 have o4:y01 S4 bo=some (.map MD [] 0):=by rw [g4,if_neg dwo,if_neg dko,if_neg dro,if_pos rfl]
 have r4:KMap MS AV.str S4 br (y5f s 0):=by
  refine ⟨[],0,mapObj_some.2 (by rw [g4,if_neg dwr,if_neg dkr,if_pos rfl]),fun x hx=>(by cases hx),fun k=>?_⟩
  rw [q5l];unfold y5f;cases y04 s k with
  | none=>rfl
  | some j=>simp
 clear hS4 g4;have hg:=q28 R.c;refine LoopP.introS (fun i:Nat=>[(1,.sl 1 (lvC (y05 s))),(2,.sl 6 (L.map tuC)),(5,.rop [.sl 2 (s.map tyC)]),(8,.rop [.str o.ty,.str o.id]),(11,.ptr bw 0),(30,.sl 2 (s.map tyC)),(31,.int .i64 s.length),(32,.int .i64 i)])
  (fun i S'=>i<=s.length/\Sub S S'/\y01 S' bw=some (.cells yol (gwC bo br bk who) 5)/\y01 S' bk=some (.map MD [] 0)/\y01 S' bo=some (.map MD [] 0)/\KMap MS AV.str S' br (y5f s i)) (fun i=>s.length-i) 0 ⟨by omega,sub4,w4,k4,o4,r4⟩ rfl ?_
 rintro i S5 ⟨hi,sub5,w5,k5,o5,r5⟩ kk hkk;have hc5:=q08 (objAt_some.2 w5);(try simp only [rwp,zA,zB,zC,zD,zE,zF,zG,zH,zI,rwb,reduceIte,xac])
 (refine q02 (fun hlt=>?_) (fun hlt=>?_)<;>(try simp only [hlc] at hlt))
 ·obtain ⟨t,ht⟩:=q0c hlt;(try simp only [rwp,zA,zB,zC,zD,zE,zF,zG,zH,zI,rwb,reduceIte,lC,ht,tyC,hc5,gwC]);refine r5.mu q2z t.name fun es clk hk=>?_
  (simp (disch:=omega) only [q05])
  exact q09 rfl (hkk (i+1) _ ⟨by omega,Sub.supd hbr' sub5,by rw [q01,if_neg (Ne.symm dwr)];exact w5,by rw [q01,if_neg (Ne.symm dkr)];exact k5,by rw [q01,if_neg dro];exact o5,hk.cong (ygr hg ht)⟩ (by omega))
 ·have e:i=s.length:=by omega
  subst e;have r5:=r5.cong (yj9 s);clear hkk;(try simp only [rwp,zA,zB,zC,zD,zE,zF,zG,zH,zI,rwb,reduceIte]);intro bh hbh;have hd0:KMap MO obA (supd S5 bh (.map MO [] 0)) bh (fun _=>none):=⟨[],0,mapObj_some.2 (by rw [q01,if_pos rfl]),fun x hx=>(by cases hx),fun k=>q5l⟩
  refine hd0.mu yz1 o fun es clk hd=>?_
  rw [q0q] at hd ⊢;refine ⟨by simp [yil,q0a,y0b],fun tb htb=>?_⟩
  obtain ⟨dth,htb'⟩:=yij htb;have nS:∀ {c:Nat},y01 S5 c=none->y01 S c=none:=fun h=>Sub.none sub5 h
  have neW:∀ {c:Nat},y01 S5 c=none->c≠bw/\c≠br/\c≠bk/\c≠bo:=by
   intro c hc;refine ⟨?_,?_,?_,?_⟩
   ·rintro rfl;rw [w5] at hc;cases hc
   ·rintro rfl;exact r5.is hc
   ·rintro rfl;rw [k5] at hc;cases hc
   ·rintro rfl;rw [o5] at hc;cases hc
  obtain ⟨h1,h2,h3,h4⟩:=neW hbh;obtain ⟨t1,t2,t3,t4⟩:=neW htb';generalize hS7:supd _ tb _=S7;have g7:∀ c,y01 S7 c=if tb=c then some (.cells y0c [.str o.ty,.str o.id] 2) else if bh=c then some (.map MO es clk) else y01 S5 c:=by
   intro c;rw [<- hS7,q01,q01];rfl
  have sub7:Sub S S7:=by rw [<- hS7];exact Sub.supd (nS htb') (Sub.supd (nS hbh) sub5)
  have e7:∀ c,c≠tb->c≠bh->y01 S7 c=y01 S5 c:=fun c c1 c2=>by rw [g7,if_neg (Ne.symm c1),if_neg (Ne.symm c2)]
  have kn7:KnI s who S bw bo br bk bh (ofL (L.take 0)) (.own tb 0 1 1) [o] S7:=by
   have ef:ofL (L.take 0)=fun _=>[]:=rfl
   refine ⟨sub7,objAt_some.2 ((e7 bw (Ne.symm t1) (Ne.symm h1)).trans w5),r5.at (e7 br (Ne.symm t2) (Ne.symm h2)),(e7 bk (Ne.symm t3) (Ne.symm h3)).trans k5,⟨[],0,?_⟩,⟨fun r hr=>by rw [List.mem_singleton.1 hr];rfl,.inr ⟨tb,1,rfl,nS htb',?_,by simp,by decide,by simp⟩⟩,fun c hc=>?_,?_,nS hbh,h1,h2,h3⟩
   ·rw [ef];refine OfM.nil hbo ((e7 bo (Ne.symm t4) (Ne.symm h4)).trans o5) fun c hc=>?_
    rcases hc with rfl | rfl | rfl | rfl | ⟨off,n,cap,e⟩
    ·exact ⟨dwo,by rw [e7 _ (Ne.symm t1) (Ne.symm h1),w5];simp⟩
    ·exact ⟨dro,by rw [e7 _ (Ne.symm t2) (Ne.symm h2)];exact r5.is⟩
    ·exact ⟨dko,by rw [e7 _ (Ne.symm t3) (Ne.symm h3),k5];simp⟩
    ·exact ⟨h4,by rw [g7,if_neg dth,if_pos rfl];simp⟩
    ·cases e;exact ⟨t4,by rw [g7,if_pos rfl];simp⟩
   ·rw [g7,if_pos rfl];rfl
   ·rcases hc with rfl | rfl | rfl | rfl | rfl<;>intro b off n cap e<;>cases e
    ·exact Ne.symm t1
    ·exact Ne.symm t2
    ·exact Ne.symm t3
    ·exact Ne.symm dth
    ·exact Ne.symm t4
   ·refine (hd.at (S':=S7) ?_).cong fun x=>?_
    ·rw [g7,if_neg dth,if_pos rfl,q01,if_pos rfl]
    ·by_cases e:x=o
     ·subst e;simp
     ·simp [e]
  clear hS7 g7 e7 sub7 hd hd0 htb;refine LoopP.introS (fun x:Nat×AV=>[(1,.sl 1 (lvC (y05 s))),(5,.rop [.sl 2 (s.map tyC)]),(11,.ptr bw 0),(14,.map (some bh)),(15,x.2),(50,.sl 6 (L.map tuC)),(51,.int .i64 L.length),(52,.int .i64 x.1)])
   (fun x S'=>x.1<=L.length/\∃ T,KnI s who S bw bo br bk bh (ofL (L.take x.1)) x.2 T S'/\T.length<=1+2 * x.1/\∀ (j:Nat) (t:Tu),j<x.1->L[j]?=some t->t.o∈T) (fun x=>L.length-x.1) (0,.own tb 0 1 1) ⟨by dsimp only;omega,[o],kn7,by simp,fun j t hj=>by dsimp only at hj;omega⟩ rfl ?_
  rintro ⟨i,tv⟩ S8 ⟨hi,T,n8,hlT,hmem⟩ kk hkk;dsimp only at hi n8 hlT hmem ⊢;(try simp only [rwp,zA,zB,zC,zD,zE,zF,zG,zH,zI,rwb,reduceIte,xab])
  (refine q02 (fun hlt=>?_) (fun hlt=>?_)<;>(try simp only [hlc] at hlt))
  ·obtain ⟨t,ht⟩:=q0c hlt;have hc8:=q08 n8.w;(try simp only [rwp,zA,zB,zC,zD,zE,zF,zG,zH,zI,rwb,reduceIte,lC,ht,tuC,hc8,gwC]);refine n8.push (ndT t) rfl rfl (by have:=yye (L:=L) (i:=i) (n:=ndT t);omega) fun S9 n9=>?_
   have ef:(fun m=>if m=ndT t then ofL (L.take i) (ndT t)++[ndC t.s] else ofL (L.take i) m)=ofL (L.take (i+1)):=by
    funext m
    rw [ypg ht];by_cases hm:m=ndT t
    ·rw [if_pos hm,if_pos hm,hm]
    ·rw [if_neg hm,if_neg hm,lU]
   have n9:KnI s who S bw bo br bk bh (ofL (L.take (i+1))) tv T S9:=by rw [<- ef];exact n9
   (try simp only [rwp,zA,zB,zC,zD,zE,zF,zG,zH,zI,rwb,reduceIte]);refine LoopP.introS (fun x:Nat×AV=>[(1,.sl 1 (lvC (y05 s))),(5,.rop [.sl 2 (s.map tyC)]),(11,.ptr bw 0),(14,.map (some bh)),(15,x.2),(50,.sl 6 (L.map tuC)),(51,.int .i64 L.length),(52,.int .i64 i),(78,.agg [.str t.o.ty,.str t.o.id,.str t.s.o.ty,.str t.s.o.id]),(79,.int .i64 x.1)])
    (fun x S'=>x.1<=2/\∃ T',KnI s who S bw bo br bk bh (ofL (L.take (i+1))) x.2 T' S'/\T'.length<=1+2 * i+x.1/\(∀ y∈T,y∈T')/\(0<x.1->t.o∈T')) (fun x=>2-x.1) (0,tv) ⟨by dsimp only;omega,T,n9,by dsimp only;omega,fun y hy=>hy,fun h=>by dsimp only at h;omega⟩ rfl ?_
   rintro ⟨j,tv2⟩ S10 ⟨hj,T2,n10,hl2,hs2,hm2⟩ kk2 hkk2;dsimp only at hj n10 hl2 hs2 hm2 ⊢;have fin:∀ (x:Ob) (tv3:AV) (S11:q00),j<2->(j=0->x=t.o)->KnI s who S bw bo br bk bh (ofL (L.take (i+1))) tv3 (yf6 T2 x) S11->yrs (x0z s L who S) kk kk2 (.sl 1 (lvC (y05 s))) (.rop [.sl 2 (s.map tyC)]) (.ptr bw 0) (.map (some bh)) tv3 (.sl 6 (L.map tuC)) (.int .i64 L.length) (.int .i64 i) (.agg [.str t.o.ty,.str t.o.id,.str t.s.o.ty,.str t.s.o.id]) (.int .i64 j) S11:=by
    intro x tv3 S11 hj2 hx n11;(try simp only [rwp,zA,zB,zC,zD,zE,zF,zG,zH,zI,rwb,reduceIte,yrs])
    (simp (disch:=omega) only [q05])
    have:=@y6s T2 x;refine q09 rfl (hkk2 (j+1,tv3) _ ⟨by dsimp only;omega,_,n11,by dsimp only;omega,fun y hy=>addT_mem.2 (.inl (hs2 y hy)),fun _=>?_⟩ (by dsimp only;omega))
    by_cases e:j=0
    ·rw [hx e];exact addT_mem.2 (.inr rfl)
    ·exact addT_mem.2 (.inl (hm2 (by omega)))
   have j3:j=0\/j=1\/j=2:=by omega
   rcases j3 with e | e | e
   ·(try simp only [rwp,zA,zB,zC,zD,zE,zF,zG,zH,zI,rwb,reduceIte,yrt,decide_eq_true (show (j:Int)<2 by omega)])
    refine yz3 e ?_;(try simp only [rwp,zA,zB,zC,zD,zE,zF,zG,zH,zI,rwb,reduceIte]);exact n10.add (by omega) t.o fun tv3 S11 n11=>fin t.o tv3 S11 (by omega) (fun _=>rfl) n11
   ·(try simp only [rwp,zA,zB,zC,zD,zE,zF,zG,zH,zI,rwb,reduceIte,yrt,decide_eq_true (show (j:Int)<2 by omega)])
    refine yz2 e ?_;(try simp only [rwp,zA,zB,zC,zD,zE,zF,zG,zH,zI,rwb,reduceIte]);exact n10.add (by omega) t.s.o fun tv3 S11 n11=>fin t.s.o tv3 S11 (by omega) (fun h=>by omega) n11
   ·(try simp only [rwp,zA,zB,zC,zD,zE,zF,zG,zH,zI,rwb,reduceIte,yrt,decide_eq_false (show ¬ (j:Int)<2 by omega)])
    (simp (disch:=omega) only [q05])
    refine q09 rfl (hkk (i+1,tv2) _ ⟨by dsimp only;omega,T2,n10,by dsimp only;omega,fun j' u hj' hu=>?_⟩ (by dsimp only;omega))
    dsimp only at hj';rcases Nat.lt_succ_iff_lt_or_eq.1 hj' with h1 | rfl
    ·exact hs2 _ (hmem j' u h1 hu)
    ·rw [ht] at hu;cases hu;exact hm2 (by omega)
  ·have e:i=L.length:=by omega
   subst e;clear hkk;rw [List.take_length] at n8;have q:=yzv R.os R.c S8;simp only [scA] at q;(try simp only [rwp,zA,zB,zC,zD,zE,zF,zG,zH,zI,rwb,reduceIte]);refine q0k q ?_;rintro ae S9 ⟨bl,m,rfl,s9,hbl,lv9,hm,hup⟩;dsimp only;(try simp only [rwp,zA,zB,zC,zD,zE,zF,zG,zH,zI,rwb,reduceIte]);intro bc hbc;(try simp only [rwp,zA,zB,zC,zD,zE,zF,zG,zH,zI,rwb,reduceIte]);obtain ⟨es9,clk9,hof⟩:=n8.of;have hT:∀ n x,x∈(y07 s L who).of n->n.o∈T:=by
    intro n x hx;obtain ⟨t,ht,rfl⟩:=List.mem_map.1 hx;unfold ofF at ht;simp only [List.mem_filter,Bool.and_eq_true,decide_eq_true_eq] at ht;obtain ⟨j,hj⟩:=lL ht.1;have:=hmem j t (List.getElem?_eq_some_iff.1 hj).1 hj;rw [ht.2.1] at this;exact this
   have neW8:∀ {c:Nat},y01 S8 c=none->c≠bw/\c≠br/\c≠bk/\c≠bo:=by
    intro c hc;refine ⟨?_,?_,?_,?_⟩
    ·rintro rfl;exact q73 n8.w hc
    ·rintro rfl;exact n8.rl.is hc
    ·rintro rfl;rw [n8.kn] at hc;cases hc
    ·rintro rfl;rw [hof.map] at hc;cases hc
   obtain ⟨l1,l2,l3,l4⟩:=neW8 hbl;have hbc8:y01 S8 bc=none:=Sub.none s9 hbc;obtain ⟨c1,c2,c3,c4⟩:=neW8 hbc8;have hcl:bc≠bl:=by rintro rfl;exact lv9.is hbc
   obtain ⟨xr,xrc,hxr,hxr2,hxr3⟩:=id n8.rl;obtain ⟨xl,xlc,hxl,hxl2,hxl3⟩:=id lv9;have nbl:y01 S bl=none:=Sub.none n8.sub hbl;have nbc:y01 S bc=none:=Sub.none n8.sub hbc8
   let S1:q00:=supd (supd (supd (supd (supd (supd S bw (.cells yol (gwC bo br bk who) 5)) br (.map MS xr xrc)) bk (.map MD [] 0)) bl (.map MS xl xlc)) bc (.cells 3 [.int .i64 0] 1)) bo (.map MD (yoe (ofL L) es9) clk9)
   have g1:∀ c,y01 S1 c=if bo=c then some (.map MD (yoe (ofL L) es9) clk9) else if bc=c then some (.cells 3 [.int .i64 0] 1) else if bl=c then some (.map MS xl xlc) else if bk=c then some (.map MD [] 0) else if br=c then some (.map MS xr xrc) else if bw=c then some (.cells yol (gwC bo br bk who) 5) else y01 S c:=fun c=>rfl
   have sub1:Sub S S1:=Sub.supd hbo (Sub.supd nbc (Sub.supd nbl (Sub.supd hbk' (Sub.supd hbr' (Sub.supd hbw' (Sub.refl _))))));have hcur:∀ c,y01 (supd S9 bc (.cells 3 [.int .i64 0] 1)) c=if bc=c then some (.cells 3 [.int .i64 0] 1) else y01 S9 c:=fun c=>rfl
   have hin:∀ b,y01 S1 b≠none->b=bo\/(b=bc\/b=bl\/KsG bw br bk bh tv b)\/y01 S b≠none:=by
    intro b hb;rw [g1] at hb;split at hb
    ·rename_i e;exact .inl e.symm
    ·split at hb
     ·rename_i e;exact .inr (.inl (.inl e.symm))
     ·split at hb
      ·rename_i e;exact .inr (.inl (.inr (.inl e.symm)))
      ·split at hb
       ·rename_i e;exact .inr (.inl (.inr (.inr (.inr (.inr (.inl e.symm))))))
       ·split at hb
        ·rename_i e;exact .inr (.inl (.inr (.inr (.inr (.inl e.symm)))))
        ·split at hb
         ·rename_i e;exact .inr (.inl (.inr (.inr (.inl e.symm))))
         ·exact .inr (.inr hb)
   have hof9:OfM S (supd S9 bc (.cells 3 [.int .i64 0] 1)) 39 bo (fun b=>b=bc\/b=bl\/KsG bw br bk bh tv b) (ofL L) es9 clk9:=by
    refine hof.more (s9.trans fun c o hc=>?_) (fun c hc=>?_) fun c hc=>?_
    ·rw [hcur,if_neg (q0p hbc hc)];exact hc
    ·rcases hc with rfl | rfl | hc
     ·exact .inr hbc8
     ·exact .inr hbl
     ·exact .inl hc
    ·rw [hcur];rcases hc with rfl | rfl | hc
     ·exact ⟨c4,by rw [if_pos rfl];simp⟩
     ·exact ⟨l4,by rw [if_neg hcl];exact lv9.is⟩
     ·refine ⟨(hof.ks c hc).1,?_⟩;split
      ·simp
      ·cases ho:y01 S8 c with
       | none=>exact absurd ho (hof.ks c hc).2
       | some o=>rw [s9 c o ho];simp
   have hlst:LstN S1 (supd S9 bc (.cells 3 [.int .i64 0] 1)) y0c 2 tv (T.map obC):=by
    obtain ⟨hr,⟨rfl,e⟩ | ⟨b,cap,rfl,q1,q2,q3⟩⟩:=n8.tl
    ·exact ⟨hr,.inl ⟨rfl,e⟩⟩
    ·refine ⟨hr,.inr ⟨b,cap,rfl,?_,?_,q3⟩⟩
     ·rw [g1,if_neg (n8.ta bo (by simp) b _ _ _ rfl),if_neg (by rintro rfl;rw [q2] at hbc8;cases hbc8),if_neg (by rintro rfl;rw [q2] at hbl;cases hbl),if_neg (n8.ta bk (by simp) b _ _ _ rfl),if_neg (n8.ta br (by simp) b _ _ _ rfl),if_neg (n8.ta bw (by simp) b _ _ _ rfl)]
      exact q1
     ·rw [hcur,if_neg (by rintro rfl;rw [q2] at hbc8;cases hbc8)]
      exact s9 _ _ q2
   refine LoopP.frz (S1:=S1) (l':=[(11,.ptr bw 0),(15,.sl 2 (T.map obC)),(21,.rop [.map (some bl),.int .i64 m]),(22,.ptr bc 0)]) ?_ (.cons (.same _) (.cons (Fr.lst hlst) (.cons (.same _) (.cons (.same _) .nil)))) (yz0 (bo:=bo) (br:=br) (bk:=bk) R hm hup ?_ ?_ ?_ (by omega) hT)
   ·intro b o' hb;rw [g1] at hb;split at hb
    ·rename_i e;subst e;cases hb;exact ⟨_,hof9.map,hof9.fr hin⟩
    ·split at hb
     ·rename_i e;subst e;cases hb;exact ⟨_,by rw [hcur,if_pos rfl],.same _⟩
     ·rename_i hbn
      have hn:∀ {o:AObj},y01 S8 b=some o->y01 (supd S9 bc (.cells 3 [.int .i64 0] 1)) b=some o:=fun h=>by rw [hcur,if_neg hbn];exact s9 b _ h
      split at hb
      ·rename_i e;subst e;cases hb;exact ⟨_,by rw [hcur,if_neg hbn];exact mapObj_some.1 hxl,.same _⟩
      ·split at hb
       ·rename_i e;subst e;cases hb;exact ⟨_,hn n8.kn,.same _⟩
       ·split at hb
        ·rename_i e;subst e;cases hb;exact ⟨_,hn (mapObj_some.1 hxr),.same _⟩
        ·split at hb
         ·rename_i e;subst e;cases hb;exact ⟨_,hn (objAt_some.1 n8.w),.same _⟩
         ·exact ⟨_,hn (n8.sub b o' hb),.same _⟩
   ·have hfk:∀ x∈yoe (ofL L) es9,∃ n,x.1=ndA n:=by
     intro x hx;unfold yoe at hx;obtain ⟨y,hy,rfl⟩:=List.mem_map.1 hx;exact hof.key y hy
    have hofA:∀ m,ofA ((y07 s L who).of m)=(y09 es9 (ndA m)).map fun _=>AV.sl 3 (ofL L m):=by
     intro m;unfold ofA;cases hm:y09 es9 (ndA m) with
     | none=>
      have:=hof.no m hm;unfold ofL at this;rw [List.map_eq_nil_iff] at this;rw [show (y07 s L who).of m=(ofF L m).map Tu.s from rfl,this]
      rfl
     | some v=>
      have:=(hof.yes m v hm).1;unfold ofL at this;rw [if_neg fun h=>this (by rw [show (ofF L m).map Tu.s=(y07 s L who).of m from rfl,h];rfl)]
      rfl
    refine ⟨objAt_some.2 ?_,⟨yoe (ofL L) es9,clk9,mapObj_some.2 (by rw [g1,if_pos rfl]),fun x hx=>?_,fun m=>?_⟩,⟨xr,xrc,mapObj_some.2 ?_,hxr2,hxr3⟩,⟨xl,xlc,mapObj_some.2 ?_,hxl2,hxl3⟩,⟨[],0,⟨?_,fun x hx=>(by cases hx),by simp,fun x hx=>(by cases hx),fun n=>by simp [q5l]⟩⟩,Ne.symm dwk,dko,dkr,Ne.symm l3,fun n=>?_,sub1,hbk'⟩
    ·rw [g1,if_neg (Ne.symm dwo),if_neg c1,if_neg l1,if_neg (Ne.symm dwk),if_neg (Ne.symm dwr),if_pos rfl];rfl
    ·obtain ⟨m,hm⟩:=hfk x hx;rw [hm];exact ke_nd.ok m
    ·rw [ydp hof.key];exact (hofA m).symm
    ·rw [g1,if_neg (Ne.symm dro),if_neg c2,if_neg l2,if_neg dkr,if_pos rfl]
    ·rw [g1,if_neg (Ne.symm l4),if_neg hcl,if_pos rfl]
    ·rw [g1,if_neg (Ne.symm dko),if_neg c3,if_neg l3,if_pos rfl]
    ·show ((ofF L n).map Tu.s).length<=1125899906842624;rw [lA];exact Nat.le_trans (lS _ _) (Nat.le_trans hL (by decide))
   ·rw [g1,if_neg (Ne.symm c4),if_pos rfl]
   ·exact Ne.symm c3
end
set_option maxRecDepth 4000
theorem y6p {s:List Ty} (hs:OkS s) (hN:OkN s) {l:List Tu} (hl:OkL l) (hn:l.length<=500) (n:Nd) (who:Ob) :
  AFun PG x7f [scA s,.sl 6 (l.map tuC),.agg (obC n.o),.str n.rl,.agg (obC who)] (.bool (decide (y0a (y08 s)=0)&&inB (y0l s l who) n)):=by
 intro S;refine xlr ?_;unfold xk8;have q1:=q65 hs hN;unfold ypr at q1;simp only [scA] at q1;(try simp only [rwp,zA,zB,zC,zD,zE,zF,zG,zH,zI,rwb,reduceIte,scA,obC]);by_cases hk:y0a (y08 s)=0
 ·rw [if_pos hk] at q1;rw [decide_eq_true hk,Bool.true_and];refine q06 q1 ?_;have R:Rnd s (q0l s l) who:=⟨hs,hk,y1y hl,y1w s l who⟩;have hlc:(q0l s l).length<=500:=Nat.le_trans (lS _ _) hn;have q2:=y97 hs hl S;have q3:=yep R hlc n.o S;simp only [scA,obC] at q2 q3;(try simp only [rwp,zA,zB,zC,zD,zE,zF,zG,zH,zI,rwb,reduceIte]);refine q0k q2 ?_;rintro ae S1 ⟨a,rfl,h1,h2⟩;dsimp only;(try simp only [rwp,zA,zB,zC,zD,zE,zF,zG,zH,zI,rwb,reduceIte]);refine q0k (ACalls.frz (FrS.sub h1) (.cons (.same _) (.cons (.same _) (.cons (Fr.lstW h2) (.cons (.same _) (.cons (.same _) .nil))))) q3) ?_;rintro ae S2 ⟨bk,K,rfl,h3,h4,h5⟩;dsimp only;(try simp only [rwp,zA,zB,zC,zD,zE,zF,zG,zH,zI,rwb,reduceIte]);have q:=fun K' hk=>h4.lki (ok:=false) (z:=.bool false) (K:=K') ke_nd n hk
  simp only [ndA,ndC] at q;refine q _ ?_;rw [q5r];(try simp only [rwp,zA,zB,zC,zD,zE,zF,zG,zH,zI,rwb,reduceIte]);refine q7z h3 ⟨?_,rfl⟩;rw [y8f (y1w s l who) hk h5]
 ·rw [if_neg hk] at q1;rw [decide_eq_false hk,Bool.false_and];refine q06 q1 ?_;(try simp only [rwp,zA,zB,zC,zD,zE,zF,zG,zH,zI,rwb,reduceIte]);exact q04 ⟨rfl,rfl⟩
set_option maxRecDepth 4000
noncomputable def y81 (s:List Ty) (l L:List Tu) (n:Nd):List Ob:=(L.filter fun t=>decide (t.s.rl=⟨#[]⟩)&&inB (y0l s l t.s.o) n).map fun t=>t.s.o
noncomputable def ygx (s:List Ty) (l:List Tu) (n:Nd):List Ob:=if y0a (y08 s)=0 then y2m ltO (y81 s l (q0l s l) n) else []
theorem yjh {s:List Ty} {l L:List Tu} {n:Nd} {i:Nat} {t:Tu} (h:L[i]?=some t):y81 s l (L.take (i+1)) n=y81 s l (L.take i) n++if (decide (t.s.rl=⟨#[]⟩)&&inB (y0l s l t.s.o) n)=true then [t.s.o] else []:=by
 unfold y81;rw [q1v h,lK]
 congr 1
 cases (decide (t.s.rl=⟨#[]⟩)&&inB (y0l s l t.s.o) n)<;>rfl
theorem q9j {s:List Ty} {l L:List Tu} {n:Nd}:(y81 s l L n).length<=L.length:=by
 unfold y81;rw [lA];exact lS _ _
theorem LstN.ln {S0 S S':q00} {t sz:Nat} {v:AV} {rows:List (List AV)} {K:AV->Prop} (h:LstN S0 S t sz v rows):lnW S' 1 v K=K (.int .i64 rows.length):=by
 obtain ⟨hr,⟨rfl,rfl⟩ | ⟨b,cap,rfl,-⟩⟩:=h
 ·rw [q9m];rfl
 ·rw [y5q]
theorem yzn (S:q00):Dat .nils (fun _=>.nils) (fun _=>S) 0:=⟨fun _ h=>absurd h (by omega),fun h=>absurd h (by omega),fun h=>absurd h (by omega),fun hk=>by rw [q9m];exact hk,by omega,fun _ h=>absurd h (by omega),fun _ h=>absurd h (by omega),fun h=>h⟩
theorem y78 {N g:Nat} (hN:yf7 N) (hg:∀ x y,AFun PG g [.agg (obC x),.agg (obC y)] (.int .i64 (yal x y))) {S0 S:q00} {v:AV} {M:List Ob} (hs:Sub S0 S) (h:LstN S0 S y0c 2 v (M.map obC)) (hl:M.length<=N) (hb:M.length<=100000) {QF:AEnd->q00->Prop} (hQ:QF (.ret (.sl 2 ((y2m ltO M).map obC))) S0) :
  caW PG S (.func (.func yyh) [] []) [v,.func (.func g) [] []] (fun _ S=>caW PG S (.func (.func ypi) [] []) [v] (fun v58 S=>rtW [.tmp v58] QF S) (pqW QF)) (pqW QF):=by
 have fin:∀ (w:Nat->Ob) (S1:q00),Sub S0 S1->OwnL S0 S1 y0c 2 obC v M.length w->Rng M.length 0 M.length (at' M) w->Srt (ltC yal) 0 M.length w ->
   caW PG S1 (.func (.func ypi) [] []) [v] (fun v58 S=>rtW [.tmp v58] QF S) (pqW QF):=by
  intro w S1 hs1 ho hr hw;refine q0k (ym6 hs1 ho hb) ?_;rintro ae S2 ⟨a',rfl,h1,h2⟩;dsimp only;have e:dd w M.length=y2m ltO M:=by
   obtain ⟨k1,k2,-⟩:=q7v stO M _ rfl;refine Asc.uniq stO (yuq stO hw) k1 fun x=>?_
   rw [k2,mem_dd];have hm:x∈M↔x∈vl M.length w:=by
    conv=>lhs;rw [<- yoj M]
    exact hr.perm.mem_iff
   rw [hm];unfold vl;rw [List.mem_map];constructor
   ·rintro ⟨i,h1,h2⟩;exact ⟨i,by simpa using h1,h2⟩
   ·rintro ⟨i,h1,h2⟩;exact ⟨i,by simpa using h1,h2⟩
  rw [e] at h2;exact q6y S0 _ h1 (Fr.lstW h2) hQ
 obtain ⟨hr,⟨rfl,e⟩ | ⟨b,cap,rfl,h1,h2,h3,h4,h5⟩⟩:=h
 ·have e:M=[]:=by simpa using e
  subst e;refine q0k (hN .nils (fun _=>.nils) (fun _=>S) 0 g yal (yzn S) hg stO.ok (by omega) (at' [])) ?_
  rintro ae S1 ⟨rfl,w,rfl,k1,k2⟩;dsimp only;exact fin w _ hs (.inl ⟨rfl,rfl⟩) k1 k2
 ·simp only [lA] at h3 h5 h2 ⊢;have hsm:supd S b (.cells y0c (fl obC M.length (at' M)) (cap * 2))=S:=by
   funext c
   unfold supd;split
   ·rename_i e
    subst e;have:fl obC M.length (at' M)=(M.map obC).flatten:=by unfold fl;rw [yoj]
    rw [this];exact h2.symm
   ·rfl
  have q:=hN _ _ _ M.length g yal (yzm (S0:=S) (b:=b) h3 hb) hg stO.ok hl (at' M);rw [hsm] at q;refine q0k q ?_;rintro ae S1 ⟨rfl,w,rfl,k1,k2⟩;dsimp only;simp only [lA] at fin;exact fin w _ (Sub.supd h1 hs) (.inr ⟨b,cap,rfl,h1,by rw [q01,if_pos rfl],h3,h4⟩) k1 k2
theorem y4b {N:Nat} (hNs:yf7 N) {s:List Ty} (hs:OkS s) (hN:OkN s) {l:List Tu} (hl:OkL l) (hn:l.length<=500) (n:Nd) (hlen:y0a (y08 s)=0->(y81 s l (q0l s l) n).length<=N) :
  AFun PG x7e [scA s,.sl 6 (l.map tuC),.agg (obC n.o),.str n.rl] (.sl 2 ((ygx s l n).map obC)):=by
 intro S;refine xlq ?_;unfold xk7;have q1:=q65 hs hN;unfold ypr at q1;simp only [scA] at q1;(try simp only [rwp,zA,zB,zC,zD,zE,zF,zG,zH,zI,rwb,reduceIte,scA,obC]);unfold ygx;by_cases hk:y0a (y08 s)=0
 ·rw [if_pos hk] at q1;rw [if_pos hk];refine q06 q1 ?_;have hlen:=hlen hk;have hlc:(q0l s l).length<=500:=Nat.le_trans (lS _ _) hn;have q2:=y97 hs hl S;simp only [scA] at q2;(try simp only [rwp,zA,zB,zC,zD,zE,zF,zG,zH,zI,rwb,reduceIte]);refine q0k q2 ?_;rintro ae S1 ⟨a,rfl,h1,h2⟩;dsimp only;rw [h2.ln,lA];refine LoopP.frz (S1:=S) (l':=[(1,.sl 6 ((q0l s l).map tuC)),(3,.str n.rl),(4,.rop [.sl 2 (s.map tyC)]),(6,.rop [.str n.o.ty,.str n.o.id]),(9,.sl 1 (lvC (y05 s))),(11,.nils),(24,.sl 6 ((q0l s l).map tuC)),(25,.int .i64 (q0l s l).length),(26,.int .i64 0)]) (FrS.sub h1) (.cons (Fr.lstW h2) (.cons (.same _) (.cons (.same _) (.cons (.same _) (.cons (.same _) (.cons (.same _) (.cons (Fr.lstW h2) (.cons (.same _) (.cons (.same _) .nil))))))))) ?_;generalize hL:q0l s l=L at hlen hlc ⊢;refine LoopP.introS (fun x:Nat×AV=>[(1,.sl 6 (L.map tuC)),(3,.str n.rl),(4,.rop [.sl 2 (s.map tyC)]),(6,.rop [.str n.o.ty,.str n.o.id]),(9,.sl 1 (lvC (y05 s))),(11,x.2),(24,.sl 6 (L.map tuC)),(25,.int .i64 L.length),(26,.int .i64 x.1)])
   (fun x S'=>x.1<=L.length/\Sub S S'/\LstN S S' y0c 2 x.2 ((y81 s l (L.take x.1) n).map obC)) (fun x=>L.length-x.1) (0,.nils) ⟨by dsimp only;omega,Sub.refl _,LstN.nil⟩ rfl ?_
  rintro ⟨i,ov⟩ S2 ⟨hi,s2,o2⟩ kk hkk;dsimp only at hi o2 ⊢;(try simp only [rwp,zA,zB,zC,zD,zE,zF,zG,zH,zI,rwb,reduceIte,xas]);cases a0:decide ((i:Int)<L.length)
  ·have e:i=L.length:=by have:=of_decide_eq_false a0;omega
   subst e;(try simp only [rwp,zA,zB,zC,zD,zE,zF,zG,zH,zI,rwb,reduceIte]);rw [List.take_length] at o2;have:=@q9j s l L n;exact y78 hNs x96 s2 o2 hlen (by omega) ⟨rfl,rfl⟩
  ·have hlt:=of_decide_eq_true a0;(try simp only [rwp,zA,zB,zC,zD,zE,zF,zG,zH,zI,rwb,reduceIte]);obtain ⟨t,ht⟩:=q0c hlt;have go:∀ {b:Bool} {S3:q00},b=(decide (t.s.rl=⟨#[]⟩)&&inB (y0l s l t.s.o) n)->Sub S S3->LstN S S3 y0c 2 ov ((y81 s l (L.take i) n).map obC)->yn6 (fun ae S'=>ae=AEnd.ret (AV.sl 2 ((y2m ltO (y81 s l L n)).map obC))/\S'=S) kk (.sl 6 (L.map tuC)) (.str n.rl) (.rop [.sl 2 (s.map tyC)]) (.rop [.str n.o.ty,.str n.o.id]) (.sl 1 (lvC (y05 s))) ov (.rop [.str t.o.ty,.str t.o.id,.str t.rl,.str t.s.o.ty,.str t.s.o.id,.str t.s.rl]) (.sl 6 (L.map tuC)) (.int .i64 L.length) (.int .i64 i) (.bool b) S3:=by
    intro b S3 hb s3 o3;have hot:=yjh (s:=s) (l:=l) (n:=n) ht;rw [<- hb] at hot;cases b
    ·(try simp only [rwp,zA,zB,zC,zD,zE,zF,zG,zH,zI,rwb,reduceIte,yn6])
     (simp (disch:=omega) only [q05])
     refine q09 rfl (hkk (i+1,ov) _ ⟨by dsimp only;omega,s3,?_⟩ (by dsimp only;omega))
     dsimp only;rw [hot];simpa using o3
    ·(try simp only [rwp,zA,zB,zC,zD,zE,zF,zG,zH,zI,rwb,reduceIte,yn6]);have:=@q9j s l (L.take i) n;have:=List.length_take_le i L;refine LstN.app s3 o3 (xs:=[[.str t.s.o.ty,.str t.s.o.id]]) (fun r hr=>by rw [List.mem_singleton.1 hr];rfl) (q2q fun r hr=>by rw [List.mem_singleton.1 hr];rfl) (by simp only [lA,lP];omega) fun v' S4 j1 j2 j3=>?_
     (simp (disch:=omega) only [q05])
     refine q09 rfl (hkk (i+1,v') _ ⟨by dsimp only;omega,j1,?_⟩ (by dsimp only;omega))
     dsimp only;rw [hot,lK];exact j2
   (try simp only [rwp,zA,zB,zC,zD,zE,zF,zG,zH,zI,rwb,reduceIte,lC,ht,tuC]);cases a1:decide (t.s.rl=⟨#[]⟩)
   ·(try simp only [rwp,zA,zB,zC,zD,zE,zF,zG,zH,zI,rwb,reduceIte]);exact go (by rw [a1];rfl) s2 o2
   ·have R:Rnd s L t.s.o:=by rw [<- hL];exact ⟨hs,hk,y1y hl,y1w s l t.s.o⟩
    have q3:=yep R hlc n.o S2;simp only [scA,obC] at q3;(try simp only [rwp,zA,zB,zC,zD,zE,zF,zG,zH,zI,rwb,reduceIte]);refine q0k q3 ?_;rintro ae S3 ⟨bk,K,rfl,h3,h4,h5⟩;dsimp only;(try simp only [rwp,zA,zB,zC,zD,zE,zF,zG,zH,zI,rwb,reduceIte]);have q:=fun K' hk=>h4.lki (ok:=false) (z:=.bool false) (K:=K') ke_nd n hk
    simp only [ndA,ndC] at q;refine q _ ?_;rw [q5r];(try simp only [rwp,zA,zB,zC,zD,zE,zF,zG,zH,zI,rwb,reduceIte]);refine go ?_ (s2.trans h3) (o2.sub h3);rw [a1,Bool.true_and];rw [<- hL] at h5;exact y8f (y1w s l t.s.o) hk h5 n
 ·rw [if_neg hk] at q1;rw [if_neg hk];refine q06 q1 ?_;(try simp only [rwp,zA,zB,zC,zD,zE,zF,zG,zH,zI,rwb,reduceIte]);exact q6y S _ (Sub.refl _) (.nils 2) ⟨rfl,rfl⟩
set_option maxRecDepth 4000
structure Tk where
 s:ByteArray
 line:Int
 col:Int
instance:Inhabited Tk:=⟨⟨⟨#[]⟩,0,0⟩⟩
def tkC (t:Tk):List AV:=[.str t.s,.int .i64 t.line,.int .i64 t.col]
structure Rd where
 at':Nat
 op:Int
 dl:Int
 dc:Int
 de:Int
def rdC (T:List Tk) (r:Rd):List AV:=[.sl 3 (T.map tkC),.int .i64 r.at',.int .i64 r.op,.int .i64 r.dl,.int .i64 r.dc,.int .i64 r.de]
def rdO (T:List Tk) (r:Rd):AObj:=.cells 145 (rdC T r) 6
def AFunR (f b:Nat) (xs:List AV) (T:List Tk) (r:Rd) (v:AV) (r':Rd):Prop:=∀ S,y01 S b=some (rdO T r)->ACalls PG f (.ptr b 0 :: xs) S fun ae S'=>ae=.ret v/\S'=supd S b (rdO T r')
theorem q80 {S:q00} {b:Nat} {T:List Tk} {r:Rd} (h:y01 S b=some (rdO T r)):q0m S b=some (145,[.sl 3 (T.map tkC),.int .i64 r.at',.int .i64 r.op,.int .i64 r.dl,.int .i64 r.dc,.int .i64 r.de],6):=objAt_some.2 h
theorem q0y {S:q00} {b:Nat} {o:AObj} (h:y01 S b=some o):supd S b o=S:=by
 funext c
 unfold supd;by_cases hc:b=c
 ·subst hc;rw [if_pos rfl];exact h.symm
 ·rw [if_neg hc]
def nxP (T:List Tk) (r:Rd):Tk:=T.getD r.at' default
def q4r (t:Tk) (e:Int) (r:Rd):Rd:=if r.de=0 then { r with dl:=t.line,dc:=t.col,de:=e } else r
def isP (T:List Tk) (s:ByteArray) (r:Rd):Bool:=decide (r.de=0)&&decide ((nxP T r).s=s)
def isR (T:List Tk) (s:ByteArray) (r:Rd):Rd:=if isP T s r then { r with at':=r.at'+1 } else r
def q21 (T:List Tk) (s:ByteArray) (r:Rd):Rd:=if isP T s r then isR T s r else q4r (nxP T r) 8 r
def q2p (T:List Tk) (r:Rd):ByteArray:=if q0v (nxP T r).s=true/\r.de=0 then (nxP T r).s else ⟨#[]⟩
def q0r (T:List Tk) (r:Rd):Rd:=if q0v (nxP T r).s=true/\r.de=0 then { r with at':=r.at'+1 } else q4r (nxP T r) 8 r
structure y0h (T:List Tk):Prop where
 len:T.length<=5000
 size:∀ t∈T,t.s.size<=1125899906842624
 last:∀ t,T[T.length-1]?=some t->t.s=⟨#[]⟩\/t.s=⟨#[63]⟩
def InR (T:List Tk) (r:Rd):Prop:=r.at'<T.length
theorem y82 {T:List Tk} {r:Rd} (h:InR T r):T[r.at']?=some (nxP T r):=by
 unfold nxP InR at *;rw [List.getD_eq_getElem?_getD,lE h];rfl
theorem y4c {T:List Tk} {r:Rd} {b:Nat} (t:Tk) (e:Int):AFunR x6e b [.agg (tkC t),.int .i64 e] T r (.tup []) (q4r t e r):=by
 intro S h;have ho:=q80 h;refine xkn ?_;unfold xj5;(try simp only [rwp,hwR,zA,zB,zC,zD,zE,zF,zG,zH,zI,tkC,q08 ho])
 (refine q02 (fun h0=>?_) (fun h0=>?_)<;>(try simp only [hlc] at h0))
 ·(try simp only [rwp,hwR,zA,zB,zC,zD,zE,zF,zG,zH,zI,ho]);exact q1x ⟨rfl,by rw [q4r,if_pos h0];rfl⟩
 ·exact q1x ⟨rfl,by rw [q4r,if_neg h0,q0y h]⟩
theorem q5b {T:List Tk} {r:Rd} {b:Nat} (hT:y0h T) (hr:InR T r):AFunR x6f b [] T r (.agg (tkC (nxP T r))) r:=by
 intro S h;have ho:=q80 h;have hx:=y82 hr;refine xko ?_;unfold xj6;intro b2 hb2;have hne:b2≠b:=q0p hb2 h;(try simp only [rwp,hwR,zA,zB,zC,zD,zE,zF,zG,zH,zI,q08 ho,if_neg hne,hx,tkC]);refine q1d S (by rw [q30 hb2];exact Sub.refl S) ?_
 (try simp only [rwp,hwR,zA,zB,zC,zD,zE,zF,zG,zH,zI])
 first | exact ⟨rfl,(q0y h).symm⟩ | exact (q0y h).symm
theorem yuu {T:List Tk} {r:Rd} {b:Nat} (hT:y0h T) (hr:InR T r) (s:ByteArray):AFunR x6i b [.str s] T r (.bool (isP T s r)) (isR T s r):=by
 intro S h;have ho:=q80 h;have hx:=y82 hr;have hl:=hT.len;have hr':r.at'<T.length:=hr;refine xkr ?_;unfold xj9;(try simp only [rwp,hwR,zA,zB,zC,zD,zE,zF,zG,zH,zI,q08 ho]);cases a1:decide (r.de=0) with
 | false=>
  (try simp only [rwp,hwR,zA,zB,zC,zD,zE,zF,zG,zH,zI,ymv]);have hp:isP T s r=false:=by rw [isP,a1];rfl
  exact q04 ⟨by rw [hp],by rw [isR,hp];exact (q0y h).symm⟩
 | true=>
  (try simp only [rwp,hwR,zA,zB,zC,zD,zE,zF,zG,zH,zI,hx,tkC]);cases a2:decide ((nxP T r).s=s) with
  | false=>
   (try simp only [rwp,hwR,zA,zB,zC,zD,zE,zF,zG,zH,zI,ymv]);have hp:isP T s r=false:=by rw [isP,a1,a2];rfl
   exact q04 ⟨by rw [hp],by rw [isR,hp];exact (q0y h).symm⟩
  | true=>
   (try simp only [rwp,hwR,zA,zB,zC,zD,zE,zF,zG,zH,zI,ymv,q08 ho,ho]);have hp:isP T s r=true:=by rw [isP,a1,a2];rfl
   (simp (disch:=omega) only [q05])
   exact q04 ⟨by rw [hp],by rw [isR,hp];rfl⟩
theorem AFunR.ca {f b:Nat} {xs:List AV} {T:List Tk} {r r':Rd} {v:AV} (h:AFunR f b xs T r v r') {S:q00} (hS:y01 S b=some (rdO T r)) {K Qp:AV->q00->Prop} (hK:K v (supd S b (rdO T r'))):caW PG S (.func (.func f) [] []) (.ptr b 0 :: xs) K Qp:=
 q0k (h S hS) fun ae S' ⟨h1,h2⟩=>by subst h1;subst h2;exact hK
theorem q1b {S:q00} {b:Nat} {T:List Tk} {r:Rd}:y01 (supd S b (rdO T r)) b=some (rdO T r):=by rw [q01,if_pos rfl]
theorem q8y {T:List Tk} {s:ByteArray} {r:Rd} (h:isP T s r=false):isR T s r=r:=by rw [isR,h];rfl
theorem ylz {T:List Tk} {r:Rd} {b:Nat} (hT:y0h T) (hr:InR T r) (s:ByteArray):AFunR ytz b [.str s] T r (.tup []) (q21 T s r):=by
 intro S h;refine xfq ?_;unfold xct;refine (yuu hT hr s).ca h ?_;cases hp:isP T s r with
 | true=>
  (try simp only [rwp,hwR,zA,zB,zC,zD,zE,zF,zG,zH,zI]);exact q1x ⟨rfl,by rw [q21,hp];rfl⟩
 | false=>
  (try simp only [rwp,hwR,zA,zB,zC,zD,zE,zF,zG,zH,zI]);have hi:=q8y hp;rw [hi];refine (q5b hT hr).ca q1b ?_;(try simp only [rwp,hwR,zA,zB,zC,zD,zE,zF,zG,zH,zI,tkC]);refine (y4c (nxP T r) 8).ca q1b ?_;(try simp only [rwp,hwR,zA,zB,zC,zD,zE,zF,zG,zH,zI]);exact q1x ⟨rfl,by rw [q21,hp];rfl⟩
theorem y29 {T:List Tk} {r:Rd} {b:Nat} (hT:y0h T) (hr:InR T r):AFunR x6h b [] T r (.str (q2p T r)) (q0r T r):=by
 intro S h;have hx:=y82 hr;have hl:=hT.len;have hr':r.at'<T.length:=hr;refine xkq ?_;unfold xj8;refine (q5b hT hr).ca h ?_;rw [q0y h];have ho:=q80 h;(try simp only [rwp,hwR,zA,zB,zC,zD,zE,zF,zG,zH,zI,tkC]);refine q06 (q0z (hT.size _ (lB hx))) ?_;cases hn:q0v (nxP T r).s with
 | false=>
  (try simp only [rwp,hwR,zA,zB,zC,zD,zE,zF,zG,zH,zI,ymu]);have hc:¬ (q0v (nxP T r).s=true/\r.de=0):=by rw [hn];simp
  refine (y4c (nxP T r) 8).ca h ?_;(try simp only [rwp,hwR,zA,zB,zC,zD,zE,zF,zG,zH,zI]);exact q04 ⟨by rw [q2p,if_neg hc],by rw [q0r,if_neg hc]⟩
 | true=>
  (try simp only [rwp,hwR,zA,zB,zC,zD,zE,zF,zG,zH,zI,q08 ho]);cases a1:decide (r.de=0) with
  | false=>
   have hc:¬ (q0v (nxP T r).s=true/\r.de=0):=fun h=>by rw [decide_eq_true h.2] at a1;cases a1
   (try simp only [rwp,hwR,zA,zB,zC,zD,zE,zF,zG,zH,zI,ymu]);refine (y4c (nxP T r) 8).ca h ?_;(try simp only [rwp,hwR,zA,zB,zC,zD,zE,zF,zG,zH,zI]);exact q04 ⟨by rw [q2p,if_neg hc],by rw [q0r,if_neg hc]⟩
  | true=>
   have hc:q0v (nxP T r).s=true/\r.de=0:=⟨hn,of_decide_eq_true a1⟩;(try simp only [rwp,hwR,zA,zB,zC,zD,zE,zF,zG,zH,zI,ymu,q08 ho,ho])
   (simp (disch:=omega) only [q05])
   exact q04 ⟨by rw [q2p,if_pos hc],by rw [q0r,if_pos hc];rfl⟩
mutual
def hgt:Ex->Nat
 | .mk _ _ _ ks=>yod ks+1
def yod:List Ex->Nat
 | []=>0
 | e :: r=>max (hgt e) (yod r)
end
mutual
theorem yun:∀ e:Ex,hgt e<=esz e
 | .mk _ _ _ ks=>by
  unfold hgt esz;have:=yl2 ks;omega
theorem yl2:∀ l:List Ex,yod l<=yei l
 | []=>by simp [yod]
 | e :: r=>by
  unfold yod yei;have h1:=yun e;have h2:=yl2 r;omega
end
theorem yqk:∀ (e:Ex),OkE e->esz e<=1125899906842624->AFun PG ysg [.agg (exC e)] (.int .i64 (hgt e)):=by
 intro e he
 induction he with
 | mk k n o ks hk hn ho hks ih=>
  intro hsz S;have hle:=yun (.mk k n o ks);rw [hgt] at hle;refine xdz ?_;unfold xb2;(try simp only [rwp,hwR,zA,zB,zC,zD,zE,zF,zG,zH,zI,q0e,Ex.kind,Ex.name,Ex.over,Ex.kids]);refine LoopP.introS (fun p:Nat×Nat=>[(1,.rop [.int .i64 k,.str n,.str o,.sl 4 (ks.map exC)]),(3,.int .i64 p.2),(4,.int .i64 p.1)])
   (fun p S'=>S'=S/\p.1<=ks.length/\max p.2 (yod (ks.drop p.1))=yod ks) (fun p=>ks.length-p.1) (0,0) ⟨rfl,by omega,by simp⟩ rfl ?_
  rintro ⟨i,m⟩ S1 ⟨rfl,hi,hf⟩ q hq;dsimp only at hi hf;(try simp only [rwp,hwR,zA,zB,zC,zD,zE,zF,zG,zH,zI,yv3])
  (refine q02 (fun hlt=>?_) (fun hlt=>?_)<;>(try simp only [hlc] at hlt))
  ·obtain ⟨x,hx⟩:=q0c hlt;have hkid:=ylm (k:=k) (n:=n) (o:=o) (lB hx);rw [q0i hx,yod] at hf;(try simp only [rwp,hwR,zA,zB,zC,zD,zE,zF,zG,zH,zI,hx]);refine q06 (ih x (lB hx) (by omega)) ?_
   (try simp only [rwp,hwR,zA,zB,zC,zD,zE,zF,zG,zH,zI])
   (refine q02 (fun hc=>?_) (fun hc=>?_)<;>(try simp only [hlc] at hc))
   ·(simp (disch:=omega) only [q05])
    exact q09 rfl (hq (i+1,hgt x) _ ⟨rfl,by dsimp only;omega,by dsimp only;omega⟩ (by dsimp only;omega))
   ·(simp (disch:=omega) only [q05])
    exact q09 rfl (hq (i+1,m) _ ⟨rfl,by dsimp only;omega,by dsimp only;omega⟩ (by dsimp only;omega))
  ·rw [q12 hlt,yod] at hf;have:m=yod ks:=by omega
   subst this
   (simp (disch:=omega) only [q05])
   exact q04 ⟨by rw [hgt];rfl,rfl⟩
def y33 (k:Int) (a c:Ex):Ex:=.mk k ⟨#[]⟩ ⟨#[]⟩ [a,c]
def y51 (k:Int) (t:Tk) (a c:Ex) (r:Rd):Rd:=if r.de=0/\12<hgt (y33 k a c) then q4r t 9 r else r
theorem y53 {k:Int} {a c:Ex} (ha:OkE a) (hc:OkE c):OkE (y33 k a c):=.mk k _ _ _ (by simp) (by decide) (by decide) fun e he=>by
 simp at he;rcases he with rfl | rfl<;>assumption
theorem y52 {k:Int} {a c:Ex}:esz (y33 k a c)=esz a+esz c+1:=by simp [y33,esz,yei];omega
theorem x8z {T:List Tk} {r:Rd} {b:Nat} (k:Int) (t:Tk) {a c:Ex} (ha:OkE a) (hc:OkE c) (hsz:r.de=0->esz a+esz c+1<=1125899906842624):AFunR yt6 b [.int .i64 k,.agg (tkC t),.agg (exC a),.agg (exC c)] T r (.agg (exC (y33 k a c))) (y51 k t a c r):=by
 intro S h;have ho:=q80 h;refine xes ?_;unfold xbv;(try simp only [rwp,hwR,zA,zB,zC,zD,zE,zF,zG,zH,zI,tkC,q0e]);intro b2 hb2;have hne:b2≠b:=q0p hb2 h;(try simp only [rwp,hwR,zA,zB,zC,zD,zE,zF,zG,zH,zI,q08 ho,if_neg hne,q1e]);have h2:∀ r2,y01 (supd (supd S b2 (.cells 51 [.int .i64 0,.str ⟨#[]⟩,.str ⟨#[]⟩,.nils] 4)) b (rdO T r2)) b=some (rdO T r2):=fun r2=>q1b
 have hS0:y01 (supd S b2 (.cells 51 [.int .i64 0,.str ⟨#[]⟩,.str ⟨#[]⟩,.nils] 4)) b=some (rdO T r):=by rw [q01,if_neg hne];exact h
 have fin:∀ S2 r',q0m S2 b2=some (51,[.int .i64 0,.str ⟨#[]⟩,.str ⟨#[]⟩,.nils],4)->(∀ x,b2≠x->y01 S2 x=y01 (supd S b (rdO T r')) x)->r'=y51 k t a c r ->
   yfk (fun ae S'=>ae=.ret (.agg (exC (y33 k a c)))/\S'=supd S b (rdO T (y51 k t a c r))) (.ptr b2 0) (.rop [.int .i64 k,.str ⟨#[]⟩,.str ⟨#[]⟩,.sl 4 [exC a,exC c]]) S2:=by
  intro S2 r' hob hS2 hr';unfold yfk;have hb2':y01 (supd S b (rdO T r')) b2=none:=by rw [q01,if_neg (Ne.symm hne)];exact hb2
  have hsub:Sub (supd S b (rdO T r')) (y0d (supd S2 b2 (.cells 51 [.int .i64 k,.str ⟨#[]⟩,.str ⟨#[]⟩,.sl 4 [exC a,exC c]] 4)) b2):=by
   intro x o hx;have hxb:b2≠x:=by rintro rfl;rw [hb2'] at hx;cases hx
   rw [q0b,if_neg hxb,q01,if_neg hxb];rw [hS2 x hxb];exact hx
  simp only [q0e] at hsub;(try simp only [rwp,hwR,zA,zB,zC,zD,zE,zF,zG,zH,zI,hob,q0e,q1e]);refine q1d _ hsub ?_;(try simp only [rwp,hwR,zA,zB,zC,zD,zE,zF,zG,zH,zI]);refine ⟨?_,by rw [hr']⟩
  simp only [y33,Ex.kind,Ex.name,Ex.over,Ex.kids,List.map_cons,List.map_nil,q0e]
 simp only [q0e] at fin;cases a1:decide (r.de=0) with
 | false=>
  (try simp only [rwp,hwR,zA,zB,zC,zD,zE,zF,zG,zH,zI,yfl]);refine fin _ r q0f (fun x hx=>by rw [q01,if_neg hx,q0y h]) ?_
  rw [y51,if_neg (fun h=>by rw [decide_eq_true h.1] at a1;cases a1)]
 | true=>
  have hde:=of_decide_eq_true a1;(try simp only [rwp,hwR,zA,zB,zC,zD,zE,zF,zG,zH,zI]);have hH:=yqk (y33 k a c) (y53 ha hc) (by rw [y52];exact hsz hde)
  simp only [y33,q0e,Ex.kind,Ex.name,Ex.over,Ex.kids,List.map_cons,List.map_nil] at hH;refine q06 hH ?_;(try simp only [rwp,hwR,zA,zB,zC,zD,zE,zF,zG,zH,zI,yfl])
  (refine q02 (fun hg=>?_) (fun hg=>?_)<;>(try simp only [hlc] at hg))
  ·refine (y4c t 9).ca hS0 ?_;refine fin _ (q4r t 9 r) (by rw [q0j (Ne.symm hne)];exact q0f) (fun x hx=>?_) ?_
   ·rw [q01,q01,q01,if_neg hx]
   ·rw [y51,if_pos ⟨hde,by simp only [y33];omega⟩]
  ·refine fin _ r q0f (fun x hx=>by rw [q01,if_neg hx,q0y h]) ?_
   rw [y51,if_neg (fun h=>by have:=h.2;simp only [y33] at this;omega)]
def q95:Ex:=.mk 0 ⟨#[]⟩ ⟨#[]⟩ []
def sLP:ByteArray:=⟨#[40]⟩
def sRP:ByteArray:=⟨#[41]⟩
def x29:ByteArray:=⟨#[46]⟩
def q2h (T:List Tk) (ex:Rd->Ex×Rd) (r:Rd):Ex×Rd:=
 if isP T sLP r then
  (if 12<r.op+1 then (q95,q4r (nxP T r) 9 { isR T sLP r with op:=r.op+1 })
  else ((ex { isR T sLP r with op:=r.op+1 }).1,{ q21 T sRP (ex { isR T sLP r with op:=r.op+1 }).2 with op:=(q21 T sRP (ex { isR T sLP r with op:=r.op+1 }).2).op-1 }))
 else if isP T x29 (q0r T r) then (.mk 1 (q2p T r) (q2p T (isR T x29 (q0r T r))) [],q0r T (isR T x29 (q0r T r)))
 else (.mk 0 (q2p T r) ⟨#[]⟩ [],q0r T r)
def opL (T:List Tk) (tk:ByteArray->Option Int) (sub:Rd->Ex×Rd):Nat->Ex×Rd->Ex×Rd
 | 0,p=>p
 | f+1,(e,r)=>if r.de=0 then (match tk (nxP T r).s with
   | some k=>opL T tk sub f (y33 k e (sub { r with at':=r.at'+1 }).1,y51 k (nxP T r) e (sub { r with at':=r.at'+1 }).1 (sub { r with at':=r.at'+1 }).2)
   | none=>(e,r)) else (e,r)
def y54 (s:ByteArray):Option Int:=if s=⟨#[38]⟩ then some 3 else none
def q9b (s:ByteArray):Option Int:=if s=⟨#[43]⟩ then some 2 else if s=⟨#[45]⟩ then some 4 else none
def q2u (T:List Tk) (ex:Rd->Ex×Rd) (r:Rd):Ex×Rd:=opL T y54 (q2h T ex) T.length (q2h T ex r)
def q4n (T:List Tk) (ex:Rd->Ex×Rd) (r:Rd):Ex×Rd:=opL T q9b (q2u T ex) T.length (q2u T ex r)
def y61 (T:List Tk):Nat->Rd->Ex×Rd
 | 0=>q4n T fun r=>(q95,r)
 | n+1=>q4n T (y61 T n)
structure Pre (T:List Tk) (n:Nat) (r:Rd):Prop where
 inr:InR T r
 op0:0<=r.op
 op13:r.op<=13
 ok:r.de=0->r.op<=12/\12<=r.op+n
structure StepR (T:List Tk) (r r':Rd) (w:Nat):Prop where
 inr:InR T r'
 mono:r.at'<=r'.at'
 fault:r'.de=0->r.de=0
 op1:r.op<=r'.op
 op2:r'.op<=13
 op:r'.de=0->r'.op=r.op
 sz:r'.de=0->w+r.at'<=r'.at'
theorem StepR.pre {T:List Tk} {r r':Rd} {n w:Nat} (h:StepR T r r' w) (hp:Pre T n r):Pre T n r':=
 ⟨h.inr,by have:=hp.op0;have:=h.op1;omega,h.op2,fun h0=>by have h1:=h.op h0;rw [h1];exact hp.ok (h.fault h0)⟩
theorem StepR.trans {T:List Tk} {r r1 r2:Rd} {w1 w2:Nat} (h:StepR T r r1 w1) (k:StepR T r1 r2 w2):StepR T r r2 (w1+w2):=
 ⟨k.inr,Nat.le_trans h.mono k.mono,fun h0=>h.fault (k.fault h0),by have:=h.op1;have:=k.op1;omega,k.op2,fun h0=>(k.op h0).trans (h.op (k.fault h0)),fun h0=>by have:=h.sz (k.fault h0);have:=k.sz h0;omega⟩
theorem StepR.le {T:List Tk} {r r1:Rd} {w w':Nat} (h:StepR T r r1 w) (hw:w'<=w):StepR T r r1 w':=
 ⟨h.inr,h.mono,h.fault,h.op1,h.op2,h.op,fun h0=>by have:=h.sz h0;omega⟩
theorem StepR.refl {T:List Tk} {r:Rd} {n:Nat} (hp:Pre T n r):StepR T r r 0:=⟨hp.inr,Nat.le_refl _,id,Int.le_refl _,hp.op13,fun _=>rfl,fun _=>by omega⟩
theorem yyp {T:List Tk} (hT:y0h T) {r:Rd} (hr:InR T r) (h1:(nxP T r).s≠⟨#[]⟩) (h2:(nxP T r).s≠⟨#[63]⟩):r.at'+1<T.length:=by
 have hx:=y82 hr;unfold InR at hr;rcases Nat.lt_or_ge (r.at'+1) T.length with h | h
 ·exact h
 ·have e:T.length-1=r.at':=by omega
  have:=hT.last (nxP T r) (by rw [e];exact hx)
  rcases this with h3 | h3
  ·exact absurd h3 h1
  ·exact absurd h3 h2
theorem adv {T:List Tk} (hT:y0h T) {r:Rd} {n:Nat} (hp:Pre T n r) (h1:(nxP T r).s≠⟨#[]⟩) (h2:(nxP T r).s≠⟨#[63]⟩):StepR T r { r with at':=r.at'+1 } 1:=
 ⟨yyp hT hp.inr h1 h2,Nat.le_succ _,id,Int.le_refl _,hp.op13,fun _=>rfl,fun _=>by dsimp only;omega⟩
theorem yed {T:List Tk} {r r1:Rd} (t:Tk) {e:Int} (he:e≠0) (w':Nat) (h1:InR T r1) (h2:r.at'<=r1.at') (h3:r.op<=r1.op) (h4:r1.op<=13):StepR T r (q4r t e r1) w':=by
 have hne:¬ (q4r t e r1).de=0:=by
  unfold q4r;split
  ·exact he
  ·assumption
 have e1:(q4r t e r1).at'=r1.at':=by unfold q4r;split<;>rfl
 have e2:(q4r t e r1).op=r1.op:=by unfold q4r;split<;>rfl
 exact ⟨by unfold InR;rw [e1];exact h1,by rw [e1];exact h2,fun h0=>absurd h0 hne,by rw [e2];exact h3,by rw [e2];exact h4,fun h0=>absurd h0 hne,fun h0=>absurd h0 hne⟩
theorem q7b {T:List Tk} {r r1:Rd} {w:Nat} (t:Tk) {e:Int} (he:e≠0) (w':Nat) (h:StepR T r r1 w):StepR T r (q4r t e r1) w':=yed t he w' h.inr h.mono h.op1 h.op2
theorem yba {T:List Tk} {s:ByteArray} {r:Rd} (h:isP T s r=true):r.de=0/\(nxP T r).s=s:=by
 unfold isP at h;simpa using h
theorem q2m {T:List Tk} (hT:y0h T) {s:ByteArray} {r:Rd} {n:Nat} (hp:Pre T n r) (h:isP T s r=true) (h1:s≠⟨#[]⟩) (h2:s≠⟨#[63]⟩):StepR T r (isR T s r) 1:=by
 obtain ⟨-,h4⟩:=yba h;rw [isR,if_pos h];exact adv hT hp (by rw [h4];exact h1) (by rw [h4];exact h2)
theorem q4a {T:List Tk} (hT:y0h T) {s:ByteArray} {r:Rd} {n:Nat} (hp:Pre T n r) (h1:s≠⟨#[]⟩) (h2:s≠⟨#[63]⟩):StepR T r (q21 T s r) 1:=by
 unfold q21;cases h:isP T s r with
 | true=>rw [if_pos rfl];exact q2m hT hp h h1 h2
 | false=>rw [if_neg (by simp)];exact q7b _ (by decide) 1 (StepR.refl hp)
theorem yk9 {s:ByteArray} (h:q0v s=true):s≠⟨#[]⟩/\s≠⟨#[63]⟩:=by
 constructor
 ·rintro rfl
  revert h
  decide +kernel
 ·rintro rfl
  revert h
  decide +kernel
theorem q20 {T:List Tk} (hT:y0h T) {r:Rd} {n:Nat} (hp:Pre T n r):StepR T r (q0r T r) 1:=by
 unfold q0r;split
 ·rename_i h
  obtain ⟨h1,h2⟩:=yk9 h.1;exact adv hT hp h1 h2
 ·exact q7b _ (by decide) 1 (StepR.refl hp)
theorem q2r {T:List Tk} (hT:y0h T) {r:Rd} (hr:InR T r):(q2p T r).size<=1125899906842624:=by
 unfold q2p;split
 ·exact hT.size _ (lB (y82 hr))
 ·exact Nat.zero_le _
theorem q3x {T:List Tk} {r r1:Rd} {w:Nat} (k:Int) (t:Tk) (a c:Ex) (h:StepR T r r1 w):StepR T r (y51 k t a c r1) w:=by
 unfold y51;split
 ·exact q7b _ (by decide) w h
 ·exact h
structure yie (T:List Tk) (r:Rd) (p:Ex×Rd):Prop where
 st:StepR T r p.2 (esz p.1)
 ok:OkE p.1
theorem q72 {k:Int} {n o:ByteArray} (hn:n.size<=1125899906842624) (ho:o.size<=1125899906842624):OkE (.mk k n o []):=.mk k n o [] (by simp) hn ho fun e he=>by (cases he)
theorem y62 {k:Int} {n o:ByteArray}:esz (.mk k n o [])=1:=by simp [esz,yei]
def yid (T:List Tk) (n:Nat) (ex:Rd->Ex×Rd):Prop:=∀ m,n=m+1->∀ r,Pre T m r->yie T r (ex r)
theorem yul {T:List Tk} (hT:y0h T) {n:Nat} {r:Rd} (hp:Pre T n r) (h:isP T sLP r=true) (h12:¬ 12<r.op+1):∃ m,n=m+1/\Pre T m { isR T sLP r with op:=r.op+1 }:=by
 obtain ⟨h1,h2⟩:=yba h;obtain ⟨k1,k2⟩:=hp.ok h1;have hs:=q2m hT hp h (by decide +kernel) (by decide +kernel)
 refine ⟨n-1,by omega,hs.inr,?_,?_,fun _=>?_⟩
 ·have:=hp.op0;dsimp only;omega
 ·dsimp only;omega
 ·dsimp only;omega
theorem y2f {T:List Tk} (hT:y0h T) {n:Nat} {ex:Rd->Ex×Rd} (hex:yid T n ex) {r:Rd} (hp:Pre T n r):yie T r (q2h T ex r):=by
 unfold q2h;split
 ·rename_i h
  have hs:=q2m hT hp h (by decide +kernel) (by decide +kernel)
  obtain ⟨h1,h2⟩:=yba h;split
  ·rename_i h12
   have h5:r.op=12:=by have:=(hp.ok h1).1;omega
   refine ⟨?_,q72 (Nat.zero_le _) (Nat.zero_le _)⟩;exact yed _ (by decide) _ hs.inr hs.mono (by dsimp only;omega) (by dsimp only;omega)
  ·rename_i h12
   obtain ⟨m,hm,hp2⟩:=yul hT hp h h12;have he:=hex m hm _ hp2;generalize ex { isR T sLP r with op:=r.op+1 }=q at he
   obtain ⟨e,r3⟩:=q;have hp3:=he.st.pre hp2;have hm2:=q4a hT hp3 (s:=sRP) (by decide +kernel) (by decide +kernel)
   have h6:=he.st.trans hm2;dsimp only at h6 ⊢;refine ⟨⟨h6.inr,?_,fun h0=>?_,?_,?_,fun h0=>?_,fun h0=>?_⟩,he.ok⟩
   ·have:=hs.mono;have:=h6.mono;dsimp only at *;omega
   ·exact hs.fault (h6.fault h0)
   ·have:=h6.op1;dsimp only at *;omega
   ·have:=h6.op2;dsimp only at *;omega
   ·have:=h6.op h0;dsimp only at *;omega
   ·have h7:=h6.sz h0;have h8:=hs.mono;dsimp only at *;omega
 ·have hn:=q20 hT hp;have hpn:=hn.pre hp;split
  ·rename_i h
   have h1:=q2m hT hpn h (by decide +kernel) (by decide +kernel)
   have hp1:=h1.pre hpn;have h2:=q20 hT hp1;refine ⟨?_,q72 (q2r hT hp.inr) (q2r hT hp1.inr)⟩;rw [y62];exact ((hn.trans h1).trans h2).le (by omega)
  ·refine ⟨?_,q72 (q2r hT hp.inr) (Nat.zero_le _)⟩;rw [y62];exact hn
def yrn (tk:ByteArray->Option Int):Prop:=tk ⟨#[]⟩=none/\tk ⟨#[63]⟩=none
theorem yjj {T:List Tk} (hT:y0h T) {n:Nat} {tk:ByteArray->Option Int} (htk:yrn tk) {sub:Rd->Ex×Rd} (hsub:∀ r,Pre T n r->yie T r (sub r)) {r0:Rd} (hp0:Pre T n r0):∀ {f:Nat} {p:Ex×Rd},yie T r0 p->yie T r0 (opL T tk sub f p)
 | 0,p,h=>h
 | f+1,(e,r),h=>by
  unfold opL;split
  ·rename_i h0
   split
   ·rename_i k hk
    have hp:=h.st.pre hp0;have ha:=adv hT hp (fun h1=>by rw [h1,htk.1] at hk;cases hk) (fun h1=>by rw [h1,htk.2] at hk;cases hk)
    have hs:=hsub _ (ha.pre hp);refine yjj hT htk hsub hp0 ⟨q3x _ _ _ _ ?_,y53 h.ok hs.ok⟩;have hst:=h.st;have hss:=hs.st;dsimp only at hst ha hss ⊢;rw [y52];exact ((hst.trans ha).trans hss).le (by omega)
   ·exact h
  ·exact h
theorem y38:yrn y54:=⟨by decide +kernel,by decide +kernel⟩
theorem signs_expr:yrn q9b:=⟨by decide +kernel,by decide +kernel⟩
theorem y0w {T:List Tk} (hT:y0h T) {n:Nat} {ex:Rd->Ex×Rd} (hex:yid T n ex) {r:Rd} (hp:Pre T n r):yie T r (q2u T ex r):=yjj hT y38 (fun _ h=>y2f hT hex h) hp (y2f hT hex hp)
theorem y8m {T:List Tk} (hT:y0h T) {n:Nat} {ex:Rd->Ex×Rd} (hex:yid T n ex) {r:Rd} (hp:Pre T n r):yie T r (q4n T ex r):=yjj hT signs_expr (fun _ h=>y0w hT hex h) hp (y0w hT hex hp)
theorem ybk {T:List Tk} (hT:y0h T):∀ {n:Nat} {r:Rd},Pre T n r->yie T r (y61 T n r)
 | 0,r,hp=>y8m hT (fun m h=>by omega) hp
 | n+1,r,hp=>y8m hT (fun m h r hr=>by
  have:n=m:=by omega
  subst this;exact ybk hT hr) hp
set_option maxRecDepth 4000
theorem yos {S S1:q00} (h:Sub S S1) (b:Nat) (o:AObj):Sub (supd S b o) (supd S1 b o):=by
 intro x y hx;rw [q01] at hx ⊢;split
 ·rename_i hb;rw [if_pos hb] at hx;exact hx
 ·rename_i hb;rw [if_neg hb] at hx;exact h x y hx
theorem yor {S:q00} {b b2:Nat} {o x y:AObj} (hb2:y01 S b2=none) (hne:b2≠b):Sub (supd S b o) (supd (supd (supd S b2 x) b o) b2 y):=
 Sub.supd (by rw [q01,if_neg (Ne.symm hne)];exact hb2) (yos (Sub.fresh x hb2) b o)
theorem yd1 {T:List Tk} {a:Nat} {o x y z:Int}:(AObj.cells 145 [.sl 3 (T.map tkC),.int .i64 a,.int .i64 o,.int .i64 x,.int .i64 y,.int .i64 z] 6)=rdO T ⟨a,o,x,y,z⟩:=rfl
abbrev c41:AObj:=.cells 51 [.int .i64 0,.str ⟨#[]⟩,.str ⟨#[]⟩,.nils] 4
def ymr (T:List Tk) (n b:Nat) (ex:Rd->Ex×Rd):Prop:=∀ m,n=m+1->∀ r,Pre T m r->AFunR ydh b [] T r (.agg (exC (ex r).1)) (ex r).2
theorem yuw {T:List Tk} (hT:y0h T) {n b:Nat} {ex:Rd->Ex×Rd} (hex:yid T n ex) (hexW:ymr T n b ex) {r:Rd} (hp:Pre T n r):AFunR ysh b [] T r (.agg (exC (q2h T ex r).1)) (q2h T ex r).2:=by
 intro S h;have hl:=hT.len;have hr':r.at'<T.length:=hp.inr;have h0:=hp.op0;have h13:=hp.op13;refine xe0 ?_;unfold xb3;intro b2 hb2;have hne:b2≠b:=q0p hb2 h;have hS0:y01 (supd S b2 c41) b=some (rdO T r):=by rw [q01,if_neg hne];exact h
 refine (q5b hT hp.inr).ca hS0 ?_;rw [q0y hS0];(try simp only [rwp,hwR,zA,zB,zC,zD,zE,zF,zG,zH,zI,tkC]);refine (yuu hT hp.inr sLP).ca hS0 ?_;have fin:∀ (k:Int) (s o:ByteArray) (v:AV) (e:Ex) (r':Rd),e=.mk k s o e.kids->q2h T ex r=(e,r')->(v=.nils/\e.kids=[]\/v=.sl 4 (e.kids.map exC)) ->
   rtW [.cell (.ptr b2 0) 4 true] (fun ae S'=>ae=.ret (.agg (exC (q2h T ex r).1))/\S'=supd S b (rdO T (q2h T ex r).2)) (supd (supd (supd S b2 c41) b (rdO T r')) b2 (.cells 51 [.int .i64 k,.str s,.str o,v] 4)):=by
  intro k s o v e r' he0 he hv;rw [he];refine q6y (supd S b (rdO T r')) (.agg (exC e)) (yor hb2 hne) ?_ ⟨rfl,rfl⟩;rw [he0,q0e];(try simp only [rwp,hwR,zA,zB,zC,zD,zE,zF,zG,zH,zI]);refine .ag (.cons (.same _) (.cons (.same _) (.cons (.same _) (.cons ?_ .nil))));rcases hv with ⟨rfl,h2⟩ | rfl
  ·rw [Ex.kids,h2];exact .nils 4
  ·exact .same _
 have hob:∀ o,q0m (supd (supd S b2 c41) b o) b2=some (51,[.int .i64 0,.str ⟨#[]⟩,.str ⟨#[]⟩,.nils],4):=fun o=>by rw [q0j (Ne.symm hne)];exact q0f
 cases hi:isP T sLP r with
 | true=>
  have hs:=q2m hT hp hi (by decide +kernel) (by decide +kernel)
  have hir:isR T sLP r={ r with at':=r.at'+1 }:=by rw [isR,if_pos hi]
  (try simp only [rwp,hwR,zA,zB,zC,zD,zE,zF,zG,zH,zI,q08 (q80 q1b),q80 q1b,hir]);rw [q05 (by omega) (by omega)]
  simp only [yd1]
  (refine q02 (fun h12=>?_) (fun h12=>?_)<;>(try simp only [hlc] at h12))
  ·refine (y4c (nxP T r) 9).ca q1b ?_;(try simp only [rwp,hwR,zA,zB,zC,zD,zE,zF,zG,zH,zI,hob]);refine fin 0 _ _ _ q95 _ rfl ?_ (.inl ⟨rfl,rfl⟩);rw [q2h,if_pos hi,if_pos h12,hir]
  ·obtain ⟨m,hm,hp2⟩:=yul hT hp hi h12;have he:=hex m hm _ hp2;rw [hir] at hp2 he;refine (hexW m hm _ hp2).ca q1b ?_;have hat:q2h T ex r=((ex { r with at':=r.at'+1,op:=r.op+1 }).1,{ q21 T sRP (ex { r with at':=r.at'+1,op:=r.op+1 }).2 with op:=(q21 T sRP (ex { r with at':=r.at'+1,op:=r.op+1 }).2).op-1 }):=by
    rw [q2h,if_pos hi,if_neg h12,hir]
   generalize ex { r with at':=r.at'+1,op:=r.op+1 }=q at he hat
   obtain ⟨e,r3⟩:=q;have hp3:=he.st.pre hp2;have hm2:=q4a hT hp3 (s:=sRP) (by decide +kernel) (by decide +kernel)
   have hp4:=hm2.pre hp3;have o1:=hp4.op0;have o2:=hp4.op13;dsimp only at o1 o2;(try simp only [rwp,hwR,zA,zB,zC,zD,zE,zF,zG,zH,zI,q0e]);refine (ylz hT hp3.inr sRP).ca q1b ?_;(try simp only [rwp,hwR,zA,zB,zC,zD,zE,zF,zG,zH,zI,q08 (q80 q1b),q80 q1b]);rw [q05 (by omega) (by omega)]
   simp only [yd1];(try simp only [rwp,hwR,zA,zB,zC,zD,zE,zF,zG,zH,zI,hob,if_neg (Ne.symm hne)]);have hf:=fin e.kind e.name e.over _ e _ (by cases e;rfl) hat (.inr rfl)
   simp only [q0e] at hf;exact hf
 | false=>
  rw [q8y hi];have hn:=q20 hT hp;have hpn:=hn.pre hp;(try simp only [rwp,hwR,zA,zB,zC,zD,zE,zF,zG,zH,zI]);refine (y29 hT hp.inr).ca q1b ?_;(try simp only [rwp,hwR,zA,zB,zC,zD,zE,zF,zG,zH,zI]);refine (yuu hT hpn.inr x29).ca q1b ?_;cases hd:isP T x29 (q0r T r) with
  | true=>
   have h1:=q2m hT hpn hd (by decide +kernel) (by decide +kernel)
   have hp1:=h1.pre hpn;(try simp only [rwp,hwR,zA,zB,zC,zD,zE,zF,zG,zH,zI]);refine (y29 hT hp1.inr).ca q1b ?_;(try simp only [rwp,hwR,zA,zB,zC,zD,zE,zF,zG,zH,zI,hob]);refine fin _ _ _ _ (.mk 1 (q2p T r) (q2p T (isR T x29 (q0r T r))) []) _ rfl ?_ (.inl ⟨rfl,rfl⟩);rw [q2h,if_neg (by rw [hi];simp),if_pos hd]
  | false=>
   rw [q8y hd];(try simp only [rwp,hwR,zA,zB,zC,zD,zE,zF,zG,zH,zI,hob]);refine fin _ _ _ _ (.mk 0 (q2p T r) ⟨#[]⟩ []) _ rfl ?_ (.inl ⟨rfl,rfl⟩);rw [q2h,if_neg (by rw [hi];simp),if_neg (by rw [hd];simp)]
theorem ydg {T:List Tk} {tk:ByteArray->Option Int} {sub:Rd->Ex×Rd} {f:Nat} {p:Ex×Rd} (h:¬ (p.2.de=0/\(tk (nxP T p.2).s).isSome=true)):opL T tk sub f p=p:=by
 cases f with
 | zero=>rfl
 | succ f=>
  obtain ⟨e,r⟩:=p;unfold opL;split
  ·rename_i h0
   split
   ·rename_i k hk
    exact absurd ⟨h0,by rw [hk];rfl⟩ h
   ·rfl
  ·rfl
theorem y5k {T:List Tk} (hT:y0h T) {n:Nat} {tk:ByteArray->Option Int} (htk:yrn tk) {sub:Rd->Ex×Rd} (hsub:∀ r,Pre T n r->yie T r (sub r)):∀ {f g:Nat} {p:Ex×Rd},Pre T n p.2->T.length<=f+p.2.at'->T.length<=g+p.2.at'->opL T tk sub f p=opL T tk sub g p
 | 0,g,p,hp,h1,h2=>by have h3:p.2.at'<T.length:=hp.inr;omega
 | f+1,0,p,hp,h1,h2=>by have h3:p.2.at'<T.length:=hp.inr;omega
 | f+1,g+1,(e,r),hp,h1,h2=>by
  dsimp only at h1 h2;unfold opL;split
  ·rename_i h0
   split
   ·rename_i k hk
    have ha:=adv hT hp (fun h1=>by rw [h1,htk.1] at hk;cases hk) (fun h1=>by rw [h1,htk.2] at hk;cases hk)
    have hs:=hsub _ (ha.pre hp);have h5:=q3x k (nxP T r) e (sub { r with at':=r.at'+1 }).1 hs.st
    have h6:=h5.mono;dsimp only at h6 hp;exact y5k hT htk hsub (h5.pre (ha.pre hp)) (by dsimp only;omega) (by dsimp only;omega)
   ·rfl
  ·rfl
structure TrI (S:q00) (b b2 b3:Nat) (T:List Tk) (p:Ex×Rd) (S':q00):Prop where
 rd:y01 S' b=some (rdO T p.2)
 c3:y01 S' b3=some (.cells 51 (exC p.1) 4)
 c2:y01 S' b2=some c41
 oth:∀ x,b≠x->b3≠x->b2≠x->y01 S' x=y01 S x
theorem TrI.step {S S':q00} {b b2 b3:Nat} {T:List Tk} {p:Ex×Rd} (h:TrI S b b2 b3 T p S') (n1:b2≠b) (n2:b3≠b) (n3:b3≠b2) (e:Ex) (r':Rd):TrI S b b2 b3 T (e,r') (supd (supd S' b (rdO T r')) b3 (.cells 51 (exC e) 4)):=
 ⟨by rw [q01,if_neg n2,q01,if_pos rfl],by rw [q01,if_pos rfl],by rw [q01,if_neg n3,q01,if_neg (Ne.symm n1)];exact h.c2,fun x h1 h2 h3=>by rw [q01,if_neg h2,q01,if_neg h1];exact h.oth x h1 h2 h3⟩
theorem TrI.sub {S S':q00} {b b2 b3:Nat} {T:List Tk} {p:Ex×Rd} (h:TrI S b b2 b3 T p S') (n1:b2≠b) (n2:b3≠b) (n3:b3≠b2) (k2:y01 S b2=none) (k3:y01 S b3=none) (o:AObj):Sub (supd S b (rdO T p.2)) (y0d (supd S' b2 o) b2):=by
 intro x y hx;have h2:b2≠x:=by
  rintro rfl;rw [q01,if_neg (Ne.symm n1),k2] at hx;cases hx
 have h3:b3≠x:=by
  rintro rfl;rw [q01,if_neg (Ne.symm n2),k3] at hx;cases hx
 rw [q0b,if_neg h2,q01,if_neg h2];rw [q01] at hx;by_cases hb:b=x
 ·subst hb;rw [if_pos rfl] at hx;rw [h.rd];exact hx
 ·rw [if_neg hb] at hx;rw [h.oth x hb h3 h2];exact hx
theorem yus {T:List Tk} (hT:y0h T) {n b:Nat} {ex:Rd->Ex×Rd} (hex:yid T n ex) (hexW:ymr T n b ex) {r:Rd} (hp:Pre T n r):AFunR yt7 b [] T r (.agg (exC (q2u T ex r).1)) (q2u T ex r).2:=by
 intro S h;have hl:=hT.len;refine xet ?_;unfold xbw;intro b2 hb2;have n1:b2≠b:=q0p hb2 h;have hS0:y01 (supd S b2 c41) b=some (rdO T r):=by rw [q01,if_neg n1];exact h
 (try simp only [rwp,hwR,zA,zB,zC,zD,zE,zF,zG,zH,zI]);refine (yuw hT hex hexW hp).ca hS0 ?_;intro b3 hb3;have n2:b3≠b:=q0p hb3 q1b;have n3:b3≠b2:=q0p hb3 (x:=c41) (by rw [q01,if_neg (Ne.symm n1),q01,if_pos rfl])
 have k3:y01 S b3=none:=by rw [q01,if_neg (Ne.symm n2),q01,if_neg (Ne.symm n3)] at hb3;exact hb3
 have hI0:TrI S b b2 b3 T (q2h T ex r) (supd (supd (supd S b2 c41) b (rdO T (q2h T ex r).2)) b3 (.cells 51 (exC (q2h T ex r).1) 4)):=
  ⟨by rw [q01,if_neg n2,q01,if_pos rfl],by rw [q01,if_pos rfl],by rw [q01,if_neg n3,q01,if_neg (Ne.symm n1),q01,if_pos rfl],fun x h1 h2 h3=>by rw [q01,if_neg h2,q01,if_neg h1,q01,if_neg h3]⟩
 have hat:=y2f hT hex hp;have hfin:opL T y54 (q2h T ex) T.length (q2h T ex r)=q2u T ex r:=rfl;simp only [q0e] at hI0;(try simp only [rwp,hwR,zA,zB,zC,zD,zE,zF,zG,zH,zI,q0e,q1e]);rw [<- q0e];simp only [<- q0e] at hI0;generalize q2h T ex r=p0 at hI0 hat hfin;refine LoopP.introS (fun _:Ex×Rd=>[(0,.ptr b 0),(2,.ptr b2 0),(3,.ptr b3 0)])
  (fun p S'=>TrI S b b2 b3 T p S'/\yie T r p/\opL T y54 (q2h T ex) T.length p=q2u T ex r) (fun p=>T.length-p.2.at') p0 ⟨by simpa only [q0e] using hI0,hat,hfin⟩ rfl ?_
 clear hI0 hat hfin;rintro ⟨e,r1⟩ S1 ⟨hI,hE,hf⟩ q hq;have hp1:=hE.st.pre hp;have hin:r1.at'<T.length:=hp1.inr;have ho:=q80 hI.rd;(try simp only [rwp,hwR,zA,zB,zC,zD,zE,zF,zG,zH,zI,yve,q08 ho]);have stop:¬ (r1.de=0/\(y54 (nxP T r1).s).isSome=true)->y9z (fun ae S'=>ae=.ret (.agg (exC (q2u T ex r).1))/\S'=supd S b (rdO T (q2u T ex r).2)) q (.ptr b 0) (.ptr b2 0) (.ptr b3 0) (.bool false) S1:=fun hn=>by
  rw [ydg hn] at hf;rw [<- hf];unfold y9z;have hsub:=hI.sub n1 n2 n3 hb2 k3;have hc3:=objAt_some.2 hI.c3;have hc2:=objAt_some.2 hI.c2;simp only [q0e] at hc3;(try simp only [rwp,hwR,zA,zB,zC,zD,zE,zF,zG,zH,zI,q08 hc3,hc2,q0e,q1e]);refine q1d _ (hsub _) ?_;(try simp only [rwp,hwR,zA,zB,zC,zD,zE,zF,zG,zH,zI,q0e])
 cases a1:decide (r1.de=0) with
 | false=>
  (try simp only [rwp,hwR,zA,zB,zC,zD,zE,zF,zG,zH,zI]);exact stop fun h=>by rw [decide_eq_true h.1] at a1;cases a1
 | true=>
  have hde:r1.de=0:=of_decide_eq_true a1;(try simp only [rwp,hwR,zA,zB,zC,zD,zE,zF,zG,zH,zI]);refine (q5b hT hp1.inr).ca hI.rd ?_;rw [q0y hI.rd];(try simp only [rwp,hwR,zA,zB,zC,zD,zE,zF,zG,zH,zI,tkC]);cases a2:decide ((nxP T r1).s=⟨#[38]⟩) with
  | false=>
   (try simp only [rwp,hwR,zA,zB,zC,zD,zE,zF,zG,zH,zI]);exact stop fun h=>by
    have:=of_decide_eq_false a2;rw [y54,if_neg this] at h;cases h.2
  | true=>
   have hk:y54 (nxP T r1).s=some 3:=by rw [y54,if_pos (of_decide_eq_true a2)]
   have ha:=adv hT hp1 (fun h1=>by rw [h1] at hk;revert hk;decide +kernel) (fun h1=>by rw [h1] at hk;revert hk;decide +kernel)
   have hpa:=ha.pre hp1;have hs:=y2f hT hex hpa;have hps:=hs.st.pre hpa;have hfu:opL T y54 (q2h T ex) T.length (y33 3 e (q2h T ex { r1 with at':=r1.at'+1 }).1,y51 3 (nxP T r1) e (q2h T ex { r1 with at':=r1.at'+1 }).1 (q2h T ex { r1 with at':=r1.at'+1 }).2)=q2u T ex r:=by
    rw [<- hf];obtain ⟨m,hm⟩:∃ m,T.length=m+1:=⟨T.length-1,by omega⟩
    have h5:=q3x 3 (nxP T r1) e (q2h T ex { r1 with at':=r1.at'+1 }).1 hs.st
    have h6:=h5.mono;dsimp only at h6
    conv=>rhs;rw [hm,opL,if_pos hde]
    simp only [hk];exact y5k hT y38 (fun _ h=>y2f hT hex h) (h5.pre hpa) (by dsimp only;omega) (by dsimp only;omega)
   have hE2:yie T r (y33 3 e (q2h T ex { r1 with at':=r1.at'+1 }).1,y51 3 (nxP T r1) e (q2h T ex { r1 with at':=r1.at'+1 }).1 (q2h T ex { r1 with at':=r1.at'+1 }).2):=by
    refine ⟨q3x _ _ _ _ ?_,y53 hE.ok hs.ok⟩;have hst:=hE.st;have hss:=hs.st;dsimp only at hst ha hss ⊢;rw [y52];exact ((hst.trans ha).trans hss).le (by omega)
   have hmu:r1.at'+1<=(y51 3 (nxP T r1) e (q2h T ex { r1 with at':=r1.at'+1 }).1 (q2h T ex { r1 with at':=r1.at'+1 }).2).at':=(q3x 3 (nxP T r1) e _ hs.st).mono
   (try simp only [rwp,hwR,zA,zB,zC,zD,zE,zF,zG,zH,zI,y9z]);refine (q5b hT hp1.inr).ca hI.rd ?_;rw [q0y hI.rd];(try simp only [rwp,hwR,zA,zB,zC,zD,zE,zF,zG,zH,zI,tkC,q08 ho,ho])
   (simp (disch:=omega) only [q05])
   rw [show ((r1.at':Int)+1)=((r1.at'+1:Nat):Int) from rfl]
   simp only [yd1];refine (yuw hT hex hexW hpa).ca q1b ?_;generalize q2h T ex { r1 with at':=r1.at'+1 }=p2 at hs hps hfu hE2 hmu
   obtain ⟨c,r2⟩:=p2;have hbd:r2.de=0->esz e+esz c+1<=1125899906842624:=fun h0=>by
    have h7:=hs.st.sz h0;have h8:=hE.st.sz (ha.fault (hs.st.fault h0));have h9:r2.at'<T.length:=hps.inr;dsimp only at h7 h8;omega
   have htwo:=x8z (T:=T) (r:=r2) (b:=b) 3 (nxP T r1) hE.ok hs.ok hbd;dsimp only at htwo hfu hE2 hmu;have c3:∀ r',q0m (supd S1 b (rdO T r')) b3=some (51,exC e,4):=fun r'=>by rw [q0j (Ne.symm n2)];exact objAt_some.2 hI.c3
   have st:=hI.step n1 n2 n3 (y33 3 e c) (y51 3 (nxP T r1) e c r2);simp only [q0e] at c3 st;(try simp only [rwp,hwR,zA,zB,zC,zD,zE,zF,zG,zH,zI,q0e,q08 (c3 r2)]);simp only [<- q0e];refine htwo.ca q1b ?_;generalize y33 3 e c=e3 at hfu hE2 st ⊢;generalize y51 3 (nxP T r1) e c r2=r3 at hfu hE2 st c3 hmu ⊢;(try simp only [rwp,hwR,zA,zB,zC,zD,zE,zF,zG,zH,zI,q0e,c3 r3,q1e]);exact q09 rfl (hq (e3,r3) _ ⟨by simpa only [q0e] using st,hE2,hfu⟩ (by dsimp only;omega))
set_option maxRecDepth 4000
theorem yer {T:List Tk} (hT:y0h T) {n b:Nat} {ex:Rd->Ex×Rd} (hex:yid T n ex) (hexW:ymr T n b ex) {r:Rd} (hp:Pre T n r):AFunR ydh b [] T r (.agg (exC (q4n T ex r).1)) (q4n T ex r).2:=by
 intro S h;have hl:=hT.len;refine xfo ?_;unfold xcr;intro b2 hb2;have n1:b2≠b:=q0p hb2 h;have hS0:y01 (supd S b2 c41) b=some (rdO T r):=by rw [q01,if_neg n1];exact h
 (try simp only [rwp,hwR,zA,zB,zC,zD,zE,zF,zG,zH,zI]);refine (yus hT hex hexW hp).ca hS0 ?_;intro b3 hb3;have n2:b3≠b:=q0p hb3 q1b;have n3:b3≠b2:=q0p hb3 (x:=c41) (by rw [q01,if_neg (Ne.symm n1),q01,if_pos rfl])
 have k3:y01 S b3=none:=by rw [q01,if_neg (Ne.symm n2),q01,if_neg (Ne.symm n3)] at hb3;exact hb3
 have hI0:TrI S b b2 b3 T (q2u T ex r) (supd (supd (supd S b2 c41) b (rdO T (q2u T ex r).2)) b3 (.cells 51 (exC (q2u T ex r).1) 4)):=
  ⟨by rw [q01,if_neg n2,q01,if_pos rfl],by rw [q01,if_pos rfl],by rw [q01,if_neg n3,q01,if_neg (Ne.symm n1),q01,if_pos rfl],fun x h1 h2 h3=>by rw [q01,if_neg h2,q01,if_neg h1,q01,if_neg h3]⟩
 have hat:=y0w hT hex hp;have hfin:opL T q9b (q2u T ex) T.length (q2u T ex r)=q4n T ex r:=rfl;simp only [q0e] at hI0;(try simp only [rwp,hwR,zA,zB,zC,zD,zE,zF,zG,zH,zI,q0e,q1e]);rw [<- q0e];simp only [<- q0e] at hI0;generalize q2u T ex r=p0 at hI0 hat hfin;refine LoopP.introS (fun _:Ex×Rd=>[(0,.ptr b 0),(2,.ptr b2 0),(3,.ptr b3 0)])
  (fun p S'=>TrI S b b2 b3 T p S'/\yie T r p/\opL T q9b (q2u T ex) T.length p=q4n T ex r) (fun p=>T.length-p.2.at') p0 ⟨by simpa only [q0e] using hI0,hat,hfin⟩ rfl ?_
 clear hI0 hat hfin;rintro ⟨e,r1⟩ S1 ⟨hI,hE,hf⟩ q hq;have hp1:=hE.st.pre hp;have hin:r1.at'<T.length:=hp1.inr;have ho:=q80 hI.rd;(try simp only [rwp,hwR,zA,zB,zC,zD,zE,zF,zG,zH,zI,yw8,q08 ho]);have stop:¬ (r1.de=0/\(q9b (nxP T r1).s).isSome=true)->y4u (fun ae S'=>ae=.ret (.agg (exC (q4n T ex r).1))/\S'=supd S b (rdO T (q4n T ex r).2)) q (.ptr b 0) (.ptr b2 0) (.ptr b3 0) (.bool false) S1:=fun hn=>by
  rw [ydg hn] at hf;rw [<- hf];unfold y4u;have hsub:=hI.sub n1 n2 n3 hb2 k3;have hc3:=objAt_some.2 hI.c3;have hc2:=objAt_some.2 hI.c2;simp only [q0e] at hc3;(try simp only [rwp,hwR,zA,zB,zC,zD,zE,zF,zG,zH,zI,q08 hc3,hc2,q0e,q1e]);refine q1d _ (hsub _) ?_;(try simp only [rwp,hwR,zA,zB,zC,zD,zE,zF,zG,zH,zI,q0e])
 cases a1:decide (r1.de=0) with
 | false=>
  (try simp only [rwp,hwR,zA,zB,zC,zD,zE,zF,zG,zH,zI,yaa,y4v]);exact stop fun h=>by rw [decide_eq_true h.1] at a1;cases a1
 | true=>
  have hde:r1.de=0:=of_decide_eq_true a1;(try simp only [rwp,hwR,zA,zB,zC,zD,zE,zF,zG,zH,zI]);refine (q5b hT hp1.inr).ca hI.rd ?_;rw [q0y hI.rd];(try simp only [rwp,hwR,zA,zB,zC,zD,zE,zF,zG,zH,zI,tkC]);have low:∀ k:Int,q9b (nxP T r1).s=some k->yfs (fun ae S'=>ae=.ret (.agg (exC (q4n T ex r).1))/\S'=supd S b (rdO T (q4n T ex r).2)) q (.ptr b 0) (.ptr b2 0) (.ptr b3 0) (.rop (tkC (nxP T r1))) (.int .i64 k) S1:=by
   intro k hk;have ha:=adv hT hp1 (fun h1=>by rw [h1,signs_expr.1] at hk;cases hk) (fun h1=>by rw [h1,signs_expr.2] at hk;cases hk)
   have hpa:=ha.pre hp1;have hs:=y0w hT hex hpa;have hps:=hs.st.pre hpa;have hfu:opL T q9b (q2u T ex) T.length (y33 k e (q2u T ex { r1 with at':=r1.at'+1 }).1,y51 k (nxP T r1) e (q2u T ex { r1 with at':=r1.at'+1 }).1 (q2u T ex { r1 with at':=r1.at'+1 }).2)=q4n T ex r:=by
    rw [<- hf];obtain ⟨m,hm⟩:∃ m,T.length=m+1:=⟨T.length-1,by omega⟩
    have h5:=q3x k (nxP T r1) e (q2u T ex { r1 with at':=r1.at'+1 }).1 hs.st
    have h6:=h5.mono;dsimp only at h6
    conv=>rhs;rw [hm,opL,if_pos hde]
    simp only [hk];exact y5k hT signs_expr (fun _ h=>y0w hT hex h) (h5.pre hpa) (by dsimp only;omega) (by dsimp only;omega)
   have hE2:yie T r (y33 k e (q2u T ex { r1 with at':=r1.at'+1 }).1,y51 k (nxP T r1) e (q2u T ex { r1 with at':=r1.at'+1 }).1 (q2u T ex { r1 with at':=r1.at'+1 }).2):=by
    refine ⟨q3x _ _ _ _ ?_,y53 hE.ok hs.ok⟩;have hst:=hE.st;have hss:=hs.st;dsimp only at hst ha hss ⊢;rw [y52];exact ((hst.trans ha).trans hss).le (by omega)
   have hmu:r1.at'+1<=(y51 k (nxP T r1) e (q2u T ex { r1 with at':=r1.at'+1 }).1 (q2u T ex { r1 with at':=r1.at'+1 }).2).at':=(q3x k (nxP T r1) e _ hs.st).mono
   unfold yfs;(try simp only [rwp,hwR,zA,zB,zC,zD,zE,zF,zG,zH,zI,tkC,q08 ho,ho])
   (simp (disch:=omega) only [q05])
   rw [show ((r1.at':Int)+1)=((r1.at'+1:Nat):Int) from rfl]
   simp only [yd1];refine (yus hT hex hexW hpa).ca q1b ?_;generalize q2u T ex { r1 with at':=r1.at'+1 }=p2 at hs hps hfu hE2 hmu
   obtain ⟨c,r2⟩:=p2;have hbd:r2.de=0->esz e+esz c+1<=1125899906842624:=fun h0=>by
    have h7:=hs.st.sz h0;have h8:=hE.st.sz (ha.fault (hs.st.fault h0));have h9:r2.at'<T.length:=hps.inr;dsimp only at h7 h8;omega
   have htwo:=x8z (T:=T) (r:=r2) (b:=b) k (nxP T r1) hE.ok hs.ok hbd;dsimp only at htwo hfu hE2 hmu;have c3:∀ r',q0m (supd S1 b (rdO T r')) b3=some (51,exC e,4):=fun r'=>by rw [q0j (Ne.symm n2)];exact objAt_some.2 hI.c3
   have st:=hI.step n1 n2 n3 (y33 k e c) (y51 k (nxP T r1) e c r2);simp only [q0e] at c3 st;(try simp only [rwp,hwR,zA,zB,zC,zD,zE,zF,zG,zH,zI,q0e,q08 (c3 r2)]);simp only [<- q0e];refine htwo.ca q1b ?_;generalize y33 k e c=e3 at hfu hE2 st ⊢;generalize y51 k (nxP T r1) e c r2=r3 at hfu hE2 st c3 hmu ⊢;(try simp only [rwp,hwR,zA,zB,zC,zD,zE,zF,zG,zH,zI,q0e,c3 r3,q1e]);exact q09 rfl (hq (e3,r3) _ ⟨by simpa only [q0e] using st,hE2,hfu⟩ (by dsimp only;omega))
  simp only [tkC] at low;cases a2:decide ((nxP T r1).s=⟨#[43]⟩) with
  | true=>
   have e2:=of_decide_eq_true a2;have hk:q9b (nxP T r1).s=some 2:=by rw [q9b,if_pos e2]
   have e3:decide ((nxP T r1).s=⟨#[45]⟩)=false:=by rw [e2];decide +kernel
   (try simp only [rwp,hwR,zA,zB,zC,zD,zE,zF,zG,zH,zI,yaa,y4v,y4u]);refine (q5b hT hp1.inr).ca hI.rd ?_;rw [q0y hI.rd];(try simp only [rwp,hwR,zA,zB,zC,zD,zE,zF,zG,zH,zI,tkC,e3]);exact low 2 hk
  | false=>
   (try simp only [rwp,hwR,zA,zB,zC,zD,zE,zF,zG,zH,zI,yaa]);refine (q5b hT hp1.inr).ca hI.rd ?_;rw [q0y hI.rd];(try simp only [rwp,hwR,zA,zB,zC,zD,zE,zF,zG,zH,zI,tkC]);cases a3:decide ((nxP T r1).s=⟨#[45]⟩) with
   | true=>
    have hk:q9b (nxP T r1).s=some 4:=by rw [q9b,if_neg (of_decide_eq_false a2),if_pos (of_decide_eq_true a3)]
    (try simp only [rwp,hwR,zA,zB,zC,zD,zE,zF,zG,zH,zI,y4v,y4u]);refine (q5b hT hp1.inr).ca hI.rd ?_;rw [q0y hI.rd];(try simp only [rwp,hwR,zA,zB,zC,zD,zE,zF,zG,zH,zI,tkC,a3]);exact low 4 hk
   | false=>
    (try simp only [rwp,hwR,zA,zB,zC,zD,zE,zF,zG,zH,zI,y4v]);exact stop fun h=>by
     have h1:=of_decide_eq_false a2;have h2:=of_decide_eq_false a3;rw [q9b,if_neg h1,if_neg h2] at h;cases h.2
theorem yuv {T:List Tk} (hT:y0h T) {b:Nat}:∀ {n:Nat} {r:Rd},Pre T n r->AFunR ydh b [] T r (.agg (exC (y61 T n r).1)) (y61 T n r).2
 | 0,r,hp=>yer hT (fun m h=>by omega) (fun m h=>by omega) hp
 | n+1,r,hp=>yer hT (fun m h r hr=>by
   have:n=m:=by omega
   subst this;exact ybk hT hr) (fun m h r hr=>by
   have:n=m:=by omega
   subst this;exact yuv hT hr) hp
def yay:ByteArray:=⟨#[35]⟩
def y5a:ByteArray:=⟨#[124]⟩
def q1a:ByteArray:=⟨#[58]⟩
def y0f (T:List Tk) (r:Rd):Rf×Rd:=
 if isP T yay (q0r T r) then (⟨q2p T r,q2p T (isR T yay (q0r T r))⟩,q0r T (isR T yay (q0r T r)))
 else (⟨q2p T r,⟨#[]⟩⟩,q0r T r)
def q4q (T:List Tk):Nat->List Rf×Rd->List Rf×Rd
 | 0,p=>p
 | f+1,(l,r)=>if isP T y5a r then q4q T f (l++[(y0f T (isR T y5a r)).1],(y0f T (isR T y5a r)).2) else (l,r)
def y0g (T:List Tk) (r:Rd):(Rl×Bool)×Rd:=
 if isP T q0d r then
  ((⟨q2p T (isR T q0d r),(q4q T T.length ([(y0f T (q21 T q1a (q0r T (isR T q0d r)))).1],(y0f T (q21 T q1a (q0r T (isR T q0d r)))).2)).1,q95⟩,true),
   (q4q T T.length ([(y0f T (q21 T q1a (q0r T (isR T q0d r)))).1],(y0f T (q21 T q1a (q0r T (isR T q0d r)))).2)).2)
 else if isP T q1g r then
  ((⟨q2p T (isR T q1g r),[],(y61 T 12 (q21 T q1a (q0r T (isR T q1g r)))).1⟩,true),(y61 T 12 (q21 T q1a (q0r T (isR T q1g r)))).2)
 else ((⟨⟨#[]⟩,[],q95⟩,false),r)
def q3v (T:List Tk):Nat->List Rl×Rd->List Rl×Rd
 | 0,p=>p
 | f+1,(l,r)=>if (y0g T r).1.2=true then q3v T f (l++[(y0g T r).1.1],(y0g T r).2) else (l,(y0g T r).2)
def q2f (T:List Tk):Nat->List Ty×Rd->List Ty×Rd
 | 0,p=>p
 | f+1,(l,r)=>if isP T q2b r then
   q2f T f (l++[⟨q2p T (isR T q2b r),(q3v T T.length ([],q0r T (isR T q2b r))).1⟩],(q3v T T.length ([],q0r T (isR T q2b r))).2)
  else (l,r)
def y40 (T:List Tk) (r:Rd):Rd:=if r.de=0/\¬ (nxP T r).s=⟨#[]⟩ then q4r (nxP T r) 8 r else r
def rd0:Rd:=⟨0,0,0,0,0⟩
def q70 (T:List Tk):List Ty×AV:=
 if (y40 T (q2f T T.length ([],rd0)).2).de=0 then ((q2f T T.length ([],rd0)).1,.agg [.int .i64 0,.int .i64 0,.int .i64 0])
 else ([],.agg [.int .i64 (y40 T (q2f T T.length ([],rd0)).2).dl,.int .i64 (y40 T (q2f T T.length ([],rd0)).2).dc,.int .i64 (y40 T (q2f T T.length ([],rd0)).2).de])
theorem y5i {T:List Tk} (hT:y0h T) {r:Rd} {n:Nat} (hp:Pre T n r):StepR T r (y0f T r).2 1/\OkF (y0f T r).1:=by
 have hn:=q20 hT hp;have hpn:=hn.pre hp;unfold y0f;split
 ·rename_i h
  have h1:=q2m hT hpn h (by decide +kernel) (by decide +kernel)
  have hp1:=h1.pre hpn;have h2:=q20 hT hp1;exact ⟨((hn.trans h1).trans h2).le (by omega),q2r hT hp.inr,q2r hT hp1.inr⟩
 ·exact ⟨hn,q2r hT hp.inr,Nat.zero_le _⟩
structure yv0 (T:List Tk) (r:Rd) (p:List Rf×Rd):Prop where
 st:StepR T r p.2 p.1.length
 len:p.1.length<=p.2.at'+1
 ok:∀ f∈p.1,OkF f
theorem y14 {T:List Tk} (hT:y0h T) {n:Nat} {r0 r:Rd} (hp0:Pre T n r0) {l:List Rf} (h:yv0 T r0 (l,r)) (hi:isP T y5a r=true) :
  yv0 T r0 (l++[(y0f T (isR T y5a r)).1],(y0f T (isR T y5a r)).2)/\r.at'+1<=(y0f T (isR T y5a r)).2.at':=by
 have hp:=h.st.pre hp0;have h1:=q2m hT hp hi (by decide +kernel) (by decide +kernel)
 obtain ⟨h2,h3⟩:=y5i hT (h1.pre hp);have e1:(isR T y5a r).at'=r.at'+1:=by rw [isR,if_pos hi]
 have h4:=h2.mono;have h5:=h.len;dsimp only at h4 h5 e1 h2;refine ⟨⟨?_,?_,fun f hf=>?_⟩,by omega⟩
 ·have h6:=(h.st.trans h1).trans h2;exact h6.le (by simp)
 ·simp only [lH,lD,lJ];omega
 ·rcases List.mem_append.1 hf with hf | hf
  ·exact h.ok f hf
  ·rw [List.mem_singleton.1 hf];exact h3
theorem yd0 {T:List Tk} (hT:y0h T) {n:Nat} {r0:Rd} (hp0:Pre T n r0):∀ {f:Nat} {p:List Rf×Rd},yv0 T r0 p->yv0 T r0 (q4q T f p)
 | 0,p,h=>h
 | f+1,(l,r),h=>by
  unfold q4q;split
  ·rename_i hi
   exact yd0 hT hp0 (y14 hT hp0 h hi).1
  ·exact h
theorem y3d {T:List Tk} (hT:y0h T) {n:Nat} {r0:Rd} (hp0:Pre T n r0):∀ {f g:Nat} {p:List Rf×Rd},yv0 T r0 p->T.length<=f+p.2.at'->T.length<=g+p.2.at'->q4q T f p=q4q T g p
 | 0,g,p,h,h1,h2=>by have h3:p.2.at'<T.length:=h.st.inr;omega
 | f+1,0,p,h,h1,h2=>by have h3:p.2.at'<T.length:=h.st.inr;omega
 | f+1,g+1,(l,r),h,h1,h2=>by
  dsimp only at h1 h2;unfold q4q;split
  ·rename_i hi
   obtain ⟨k1,k2⟩:=y14 hT hp0 h hi;exact y3d hT hp0 k1 (by dsimp only;omega) (by dsimp only;omega)
  ·rfl
theorem x5v {T:List Tk} (hT:y0h T) {r:Rd} (hp:Pre T 12 r):StepR T r (y0g T r).2 (if (y0g T r).1.2 then rsz (y0g T r).1.1 else 0)/\OkR (y0g T r).1.1/\((y0g T r).1.2=true->r.at'+1<=(y0g T r).2.at'):=by
 unfold y0g;split
 ·rename_i hi
  have h1:=q2m hT hp hi (by decide +kernel) (by decide +kernel)
  have hp1:=h1.pre hp;have h2:=q20 hT hp1;have hp2:=h2.pre hp1;have h3:=q4a hT hp2 (s:=q1a) (by decide +kernel) (by decide +kernel)
  have hp3:=h3.pre hp2;obtain ⟨h4,h5⟩:=y5i hT hp3;have hR0:yv0 T (q21 T q1a (q0r T (isR T q0d r))) ([(y0f T (q21 T q1a (q0r T (isR T q0d r)))).1],(y0f T (q21 T q1a (q0r T (isR T q0d r)))).2):=
   ⟨h4,by simp,fun f hf=>by rw [List.mem_singleton.1 hf];exact h5⟩
  have hR:=yd0 hT hp3 (f:=T.length) hR0;generalize q4q T T.length ([(y0f T (q21 T q1a (q0r T (isR T q0d r)))).1],(y0f T (q21 T q1a (q0r T (isR T q0d r)))).2)=p at hR;obtain ⟨l,r'⟩:=p;have hl:=hR.len;have hin:r'.at'<T.length:=hR.st.inr;have hTl:=hT.len;have e1:(isR T q0d r).at'=r.at'+1:=by rw [isR,if_pos hi]
  refine ⟨?_,⟨q2r hT hp1.inr,?_,hR.ok,q72 (Nat.zero_le _) (Nat.zero_le _)⟩,fun _=>?_⟩
  ·have h6:=((h1.trans h2).trans h3).trans hR.st;refine h6.le ?_;simp only [if_true,rsz,q95,y62];omega
  ·dsimp only at hl ⊢;omega
  ·have:=h2.mono;have:=h3.mono;have:=hR.st.mono;dsimp only at *;omega
 ·split
  ·rename_i hi
   have h1:=q2m hT hp hi (by decide +kernel) (by decide +kernel)
   have hp1:=h1.pre hp;have h2:=q20 hT hp1;have hp2:=h2.pre hp1;have h3:=q4a hT hp2 (s:=q1a) (by decide +kernel) (by decide +kernel)
   have hp3:=h3.pre hp2;have h4:=ybk hT hp3;have e1:(isR T q1g r).at'=r.at'+1:=by rw [isR,if_pos hi]
   refine ⟨?_,⟨q2r hT hp1.inr,by simp,fun f hf=>(by cases hf),h4.ok⟩,fun _=>?_⟩
   ·have h6:=((h1.trans h2).trans h3).trans h4.st;refine h6.le ?_;simp only [if_true,rsz,lJ];omega
   ·have:=h2.mono;have:=h3.mono;have:=h4.st.mono;dsimp only at *;omega
  ·exact ⟨StepR.refl hp,⟨Nat.zero_le _,by simp,fun f hf=>(by cases hf),q72 (Nat.zero_le _) (Nat.zero_le _)⟩,fun h=>by cases h⟩
set_option maxRecDepth 4000
abbrev c53:AObj:=.cells 171 [.str ⟨#[]⟩,.str ⟨#[]⟩] 2
abbrev c43:AObj:=.cells 53 [.str ⟨#[]⟩,.nils,.int .i64 0,.str ⟨#[]⟩,.str ⟨#[]⟩,.nils] 6
theorem x91 {T:List Tk} (hT:y0h T) {n b:Nat} {r:Rd} (hp:Pre T n r):AFunR yty b [] T r (.agg (rfC (y0f T r).1)) (y0f T r).2:=by
 intro S h;refine xfp ?_;unfold xcs;intro b2 hb2;have n1:b2≠b:=q0p hb2 h;have hS0:y01 (supd S b2 c53) b=some (rdO T r):=by rw [q01,if_neg n1];exact h
 have hn:=q20 hT hp;have hpn:=hn.pre hp;(try simp only [rwp,hwR,zA,zB,zC,zD,zE,zF,zG,zH,zI]);refine (y29 hT hp.inr).ca hS0 ?_;(try simp only [rwp,hwR,zA,zB,zC,zD,zE,zF,zG,zH,zI]);intro b3 hb3;have n2:b3≠b:=q0p hb3 q1b;have n3:b3≠b2:=q0p hb3 (x:=c53) (by rw [q01,if_neg (Ne.symm n1),q01,if_pos rfl])
 have k3:y01 S b3=none:=by rw [q01,if_neg (Ne.symm n2),q01,if_neg (Ne.symm n3)] at hb3;exact hb3
 (try simp only [rwp,hwR,zA,zB,zC,zD,zE,zF,zG,zH,zI]);have hrd:∀ o,y01 (supd (supd (supd S b2 c53) b (rdO T (q0r T r))) b3 o) b=some (rdO T (q0r T r)):=fun o=>by rw [q01,if_neg n2,q01,if_pos rfl]
 refine (yuu hT hpn.inr yay).ca (hrd _) ?_;have fin:∀ (f:Rf) (r':Rd) (S2:q00),y0f T r=(f,r')->q0m S2 b3=some (171,rfC f,2)->q0m S2 b2=some (171,[.str ⟨#[]⟩,.str ⟨#[]⟩],2)->(∀ x,b2≠x->b3≠x->y01 S2 x=y01 (supd S b (rdO T r')) x) ->
   yft (fun ae S'=>ae=.ret (.agg (rfC (y0f T r).1))/\S'=supd S b (rdO T (y0f T r).2)) (.ptr b2 0) (.ptr b3 0) S2:=by
  intro f r' S2 he h3 h2 hS2;rw [he];unfold yft;have hsub:∀ o,Sub (supd S b (rdO T r')) (y0d (supd S2 b2 o) b2):=fun o x y hx=>by
   have e2:b2≠x:=by rintro rfl;rw [q01,if_neg (Ne.symm n1),hb2] at hx;cases hx
   have e3:b3≠x:=by rintro rfl;rw [q01,if_neg (Ne.symm n2),k3] at hx;cases hx
   rw [q0b,if_neg e2,q01,if_neg e2,hS2 x e2 e3];exact hx
  simp only [rfC] at h3;(try simp only [rwp,hwR,zA,zB,zC,zD,zE,zF,zG,zH,zI,q08 h3,h2]);refine q1d _ (hsub _) ?_;(try simp only [rwp,hwR,zA,zB,zC,zD,zE,zF,zG,zH,zI,rfC])
 cases hi:isP T yay (q0r T r) with
 | true=>
  have h1:=q2m hT hpn hi (by decide +kernel) (by decide +kernel)
  have hp1:=h1.pre hpn;(try simp only [rwp,hwR,zA,zB,zC,zD,zE,zF,zG,zH,zI]);refine (y29 hT hp1.inr).ca q1b ?_;have ob3:∀ X cs o,q0m (supd (supd X b3 (.cells 171 cs 2)) b o) b3=some (171,cs,2):=fun X cs o=>by rw [q0j (Ne.symm n2)];exact q0f
  (try simp only [rwp,hwR,zA,zB,zC,zD,zE,zF,zG,zH,zI,ob3]);refine fin ⟨q2p T r,q2p T (isR T yay (q0r T r))⟩ (q0r T (isR T yay (q0r T r))) _ ?_ q0f ?_ fun x e2 e3=>?_
  ·rw [y0f,if_pos hi]
  ·rw [q0j n3,q0j (Ne.symm n1),q0j n3,q0j (Ne.symm n1)];exact q0f
  ·simp only [q01,if_neg e2,if_neg e3];by_cases hb:b=x
   ·subst hb;simp
   ·simp [hb]
 | false=>
  rw [q8y hi];(try simp only [rwp,hwR,zA,zB,zC,zD,zE,zF,zG,zH,zI]);refine fin ⟨q2p T r,⟨#[]⟩⟩ (q0r T r) _ ?_ ?_ ?_ fun x e2 e3=>?_
  ·rw [y0f,if_neg (by rw [hi];simp)]
  ·rw [q0j (Ne.symm n2)];exact q0f
  ·rw [q0j (Ne.symm n1),q0j n3,q0j (Ne.symm n1)];exact q0f
  ·simp only [q01,if_neg e2,if_neg e3];by_cases hb:b=x
   ·subst hb;simp
   ·simp [hb]
structure RlI (S:q00) (b b2 b4:Nat) (T:List Tk) (name:ByteArray) (p:List Rf×Rd) (S':q00):Prop where
 rd:y01 S' b=some (rdO T p.2)
 c2:y01 S' b2=some c43
 c4:∃ v,y01 S' b4=some (.cells 53 [.str name,v,.int .i64 0,.str ⟨#[]⟩,.str ⟨#[]⟩,.nils] 6)/\LstN (y0d S b) S' 171 2 v (p.1.map rfC)/\q0u v b/\q0u v b2/\q0u v b4
 sub:Sub (y0d S b) S'
theorem LstN.base2 {S S':q00} {b t sz:Nat} {v:AV} {rows:List (List AV)} {o:AObj} (h:LstN (y0d S b) S' t sz v rows) (ha:q0u v b):LstN (supd S b o) S' t sz v rows:=by
 obtain ⟨hr,h⟩:=h;refine ⟨hr,?_⟩;rcases h with h | ⟨c,cap,rfl,h1,h2⟩
 ·exact .inl h
 ·refine .inr ⟨c,cap,rfl,?_,h2⟩;have:=ha c 0 _ _ rfl;rw [q0b,if_neg this] at h1;rw [q01,if_neg this];exact h1
theorem q3l {c:Nat}:q0u .nils c:=fun b off n cap h=>by cases h
theorem yb8 {S S':q00} {Y:Prop} {b off:Nat} (h:y01 S' b=y01 S b) (hY:Y):kpW [.ptr b off] S S' Y:=by
 refine ⟨fun v hv c hc=>?_,hY⟩
 rw [lO] at hv;subst hv;simp [blk] at hc;subst hc;exact h
theorem RlI.more {S S1:q00} {b b2 b4:Nat} {T:List Tk} {name:ByteArray} {l:List Rf} {r r2:Rd} (h:RlI S b b2 b4 T name (l,r) S1) (n1:b2≠b) (n2:b4≠b) (n3:b4≠b2) (k2:y01 S b2=none) (k4:y01 S b4=none) (hlen:l.length<=100000) (f:Rf) {v:AV} (hv:y01 S1 b4=some (.cells 53 [.str name,v,.int .i64 0,.str ⟨#[]⟩,.str ⟨#[]⟩,.nils] 6)) {K:q00->Prop} (hK:∀ S3,RlI S b b2 b4 T name (l++[f],r2) S3->K S3) :
  apW (supd S1 b (rdO T r2)) 171 2 32 v (.sl 2 [[.str f.ty,.str f.rl]]) fun v' S2=>soW (q0m S2 b4) S2 1 b4 1 v' K:=by
 obtain ⟨hrd,hc2,⟨v0,hv0,hl,a1,a2,a4⟩,hsub⟩:=h;rw [hv] at hv0;cases hv0;dsimp only at hl hrd;have hb0:y01 (y0d S b) b=none:=by rw [q0b,if_pos rfl]
 have hb4:y01 (y0d S b) b4=none:=by rw [q0b,if_neg (Ne.symm n2)];exact k4
 refine (hl.upd a1 (rdO T r2)).app (hsub.supd hb0) (xs:=[[.str f.ty,.str f.rl]]) (fun r hr=>by rw [lO] at hr;subst hr;rfl) rfl (by simp;omega) ?_
 intro v' S2 h1 h2 h3;obtain ⟨q1,q2⟩:=h3 b (rdO T r2) (by rw [q01,if_pos rfl]) a1
 obtain ⟨q3,q4⟩:=h3 b4 _ (by rw [q01,if_neg (Ne.symm n2)];exact hv) a4
 obtain ⟨q5,q6⟩:=h3 b2 _ (by rw [q01,if_neg (Ne.symm n1)];exact hc2) a2
 rw [objAt_some.2 q3,q35];have hone:=h2.one;have hac:q0a v'=[v']:=by cases v'<;>first | rfl | cases hone
 rw [hac];refine ⟨rfl,by simp,by simp [y06,hone],hK _ ⟨?_,?_,⟨v',?_,?_,q2,q6,q4⟩,?_⟩⟩
 ·rw [q01,if_neg n2];exact q1
 ·rw [q01,if_neg n3];exact q5
 ·rw [q01,if_pos rfl];rfl
 ·simpa [rfC] using h2.upd q4 _
 ·exact h1.supd hb4
theorem yx7 {S:q00} {b:Nat} {T:List Tk} {S2:q00} {r':Rd} {b2:Nat} {o:AObj} (h:Sub (y0d S b) S2) (hb:y01 S2 b=some (rdO T r')) (k2:y01 S b2=none) (n1:b2≠b):Sub (supd S b (rdO T r')) (supd S2 b2 o):=by
 intro x y hx;have e2:b2≠x:=by rintro rfl;rw [q01,if_neg (Ne.symm n1),k2] at hx;cases hx
 rw [q01,if_neg e2];rw [q01] at hx;by_cases hbx:b=x
 ·subst hbx;rw [if_pos rfl] at hx;rw [hb];exact hx
 ·rw [if_neg hbx] at hx;exact h x y (by rw [q0b,if_neg hbx];exact hx)
theorem xi9 {T:List Tk} (hT:y0h T) {b:Nat} {r:Rd} (hp:Pre T 12 r):AFunR x6g b [] T r (.tup [.agg (rlC (y0g T r).1.1),.bool (y0g T r).1.2]) (y0g T r).2:=by
 intro S h;have hTl:=hT.len;refine xkp ?_;unfold xj7;intro b2 hb2;have n1:b2≠b:=q0p hb2 h;(try simp only [rwp,hwR,zA,zB,zC,zD,zE,zF,zG,zH,zI]);intro b4 hb4;have n2:b4≠b:=q0p hb4 (x:=rdO T r) (by rw [q01,if_neg n1];exact h)
 have n3:b4≠b2:=q0p hb4 (x:=c43) (by rw [q01,if_pos rfl])
 have k4:y01 S b4=none:=by rw [q01,if_neg (Ne.symm n3)] at hb4;exact hb4
 have m1:=Ne.symm n1;have m2:=Ne.symm n2;have m3:=Ne.symm n3;(try simp only [rwp,hwR,zA,zB,zC,zD,zE,zF,zG,zH,zI]);have fin:∀ (x:Rl) (ok:Bool) (r':Rd) (S2:q00) (n:ByteArray) (v:AV) (k:Int) (a o:ByteArray) (w:AV),y0g T r=((x,ok),r')->y01 S2 b=some (rdO T r')->Sub (y0d S b) S2 ->
   Frs (supd S b (rdO T r')) (supd S2 b2 (.cells 53 [.str n,v,.int .i64 k,.str a,.str o,w] 6)) [.str n,v,.int .i64 k,.str a,.str o,w] (rlC x) ->
   rtW [.cell (.ptr b2 0) 6 true,.tmp (.bool ok)] (fun ae S'=>ae=.ret (.tup [.agg (rlC (y0g T r).1.1),.bool (y0g T r).1.2])/\S'=supd S b (rdO T (y0g T r).2)) (supd S2 b2 (.cells 53 [.str n,v,.int .i64 k,.str a,.str o,w] 6)):=by
  intro x ok r' S2 n v k a o w he hb hsub hfr;rw [he];refine q6y (supd S b (rdO T r')) (.tup [.agg (rlC x),.bool ok]) (yx7 hsub hb hb2 n1) ?_ ⟨rfl,rfl⟩;(try simp only [rwp,hwR,zA,zB,zC,zD,zE,zF,zG,zH,zI]);exact .tu (.cons (.ag hfr) (.cons (.same _) .nil))
 have hS0:y01 (supd (supd S b2 c43) b4 c43) b=some (rdO T r):=by rw [q01,if_neg n2,q01,if_neg n1];exact h
 have hsub0:Sub (y0d S b) (supd (supd S b2 c43) b4 c43):=by
  intro x y hx;have hbx:b≠x:=by rintro rfl;rw [q0b,if_pos rfl] at hx;cases hx
  rw [q0b,if_neg hbx] at hx;rw [q01,if_neg (q0p k4 hx),q01,if_neg (q0p hb2 hx)];exact hx
 refine (yuu hT hp.inr q0d).ca hS0 ?_;cases hi:isP T q0d r with
 | true=>
  have h1:=q2m hT hp hi (by decide +kernel) (by decide +kernel)
  have hp1:=h1.pre hp;have h2:=q20 hT hp1;have hp2:=h2.pre hp1;have h3:=q4a hT hp2 (s:=q1a) (by decide +kernel) (by decide +kernel)
  have hp3:=h3.pre hp2;obtain ⟨h4,h5⟩:=y5i hT hp3;(try simp only [rwp,hwR,zA,zB,zC,zD,zE,zF,zG,zH,zI]);refine (y29 hT hp1.inr).ca q1b ?_;have ob4:∀ X cs o,q0m (supd (supd X b4 (.cells 53 cs 6)) b o) b4=some (53,cs,6):=fun X cs o=>by rw [q0j m2];exact q0f
  (try simp only [rwp,hwR,zA,zB,zC,zD,zE,zF,zG,zH,zI,ob4]);have hrd:∀ X cs r',y01 (supd (supd X b (rdO T r')) b4 (.cells 53 cs 6)) b=some (rdO T r'):=fun X cs r'=>by rw [q01,if_neg n2];exact q1b
  refine (ylz hT hp2.inr q1a).ca (hrd _ _ _) ?_;(try simp only [rwp,hwR,zA,zB,zC,zD,zE,zF,zG,zH,zI,q08 (ob4 _ _ _)]);refine (x91 hT hp3).ca q1b ?_;refine yb8 (by rw [q01,if_neg m2]) ?_
  refine ⟨⟨rfl,rfl⟩,?_⟩;have hI0:RlI S b b2 b4 T (q2p T (isR T q0d r)) ([],q21 T q1a (q0r T (isR T q0d r)))
    (supd (supd (supd (supd (supd S b2 c43) b4 c43) b (rdO T (q0r T (isR T q0d r)))) b4 (.cells 53 [.str (q2p T (isR T q0d r)),.nils,.int .i64 0,.str ⟨#[]⟩,.str ⟨#[]⟩,.nils] 6)) b (rdO T (q21 T q1a (q0r T (isR T q0d r))))):=by
   refine ⟨q1b,?_,⟨.nils,?_,.nil,q3l,q3l,q3l⟩,?_⟩
   ·simp [q01,m1,m2,m3,n1,n2,n3]
   ·simp [q01,m1,m2,m3,n1,n2,n3]
   ·have hb0:y01 (y0d S b) b=none:=by rw [q0b,if_pos rfl]
    have hb4':y01 (y0d S b) b4=none:=by rw [q0b,if_neg m2];exact k4
    exact ((hsub0.supd hb0).supd hb4').supd hb0
  have hrel:y0g T r=((⟨q2p T (isR T q0d r),(q4q T T.length ([(y0f T (q21 T q1a (q0r T (isR T q0d r)))).1],(y0f T (q21 T q1a (q0r T (isR T q0d r)))).2)).1,q95⟩,true),(q4q T T.length ([(y0f T (q21 T q1a (q0r T (isR T q0d r)))).1],(y0f T (q21 T q1a (q0r T (isR T q0d r)))).2)).2):=by
   rw [y0g,if_pos hi]
  refine hI0.more n1 n2 n3 hb2 k4 (by simp) (y0f T (q21 T q1a (q0r T (isR T q0d r)))).1 (r2:=(y0f T (q21 T q1a (q0r T (isR T q0d r)))).2) (v:=.nils) ?_ ?_
  ·rw [q01,if_neg m2,q01,if_pos rfl]
  clear hI0;intro S3 hI;generalize q2p T (isR T q0d r)=nm at hI hrel;have hR0:yv0 T (q21 T q1a (q0r T (isR T q0d r))) ([(y0f T (q21 T q1a (q0r T (isR T q0d r)))).1],(y0f T (q21 T q1a (q0r T (isR T q0d r)))).2):=
   ⟨h4,by simp,fun f hf=>by rw [List.mem_singleton.1 hf];exact h5⟩
  generalize q21 T q1a (q0r T (isR T q0d r))=r3 at hI hrel hp3 hR0;rw [lQ] at hI;generalize ([(y0f T r3).1],(y0f T r3).2)=p0 at hI hrel hR0;refine LoopP.introS (fun _:List Rf×Rd=>[(0,.ptr b 0),(2,.ptr b2 0),(4,.ptr b4 0)])
   (fun p S'=>RlI S b b2 b4 T nm p S'/\yv0 T r3 p/\q4q T T.length p=q4q T T.length p0) (fun p=>T.length-p.2.at') p0 ⟨hI,hR0,rfl⟩ rfl ?_
  clear hI hR0;rintro ⟨l,r4⟩ S4 ⟨hI,hR,hf⟩ q hq;have hp4:=hR.st.pre hp3;have hin:r4.at'<T.length:=hp4.inr;have hll:=hR.len;dsimp only at hll;have hI':=hI;obtain ⟨krd,kc2,⟨v,kv,klst,a1,a2,a4⟩,ksub⟩:=hI';dsimp only at krd klst;(try simp only [rwp,hwR,zA,zB,zC,zD,zE,zF,zG,zH,zI,x9u]);refine (yuu hT hp4.inr y5a).ca krd ?_;cases hb:isP T y5a r4 with
  | true=>
   obtain ⟨hR2,hmu⟩:=y14 hT hp3 hR hb;have h6:=q2m hT hp4 hb (by decide +kernel) (by decide +kernel)
   have hp6:=h6.pre hp4;have hob:q0m (supd S4 b (rdO T (isR T y5a r4))) b4=some (53,[.str nm,v,.int .i64 0,.str ⟨#[]⟩,.str ⟨#[]⟩,.nils],6):=by rw [q0j m2];exact objAt_some.2 kv
   have hf2:q4q T T.length (l++[(y0f T (isR T y5a r4)).1],(y0f T (isR T y5a r4)).2)=q4q T T.length p0:=by
    rw [<- hf];obtain ⟨m,hm⟩:∃ m,T.length=m+1:=⟨T.length-1,by omega⟩
    conv=>rhs;rw [hm,q4q,if_pos hb]
    exact y3d hT hp3 hR2 (by dsimp only;omega) (by dsimp only;omega)
   have hI2:RlI S b b2 b4 T nm (l,isR T y5a r4) (supd S4 b (rdO T (isR T y5a r4))):=by
    refine ⟨q1b,by rw [q01,if_neg m1];exact kc2,⟨v,by rw [q01,if_neg m2];exact kv,klst.upd a1 _,a1,a2,a4⟩,ksub.supd (by rw [q0b,if_pos rfl])⟩
   (try simp only [rwp,hwR,zA,zB,zC,zD,zE,zF,zG,zH,zI,q08 hob]);refine (x91 hT hp6).ca q1b ?_;refine yb8 (by rw [q01,if_neg m2]) ?_
   refine ⟨⟨rfl,rfl⟩,?_⟩;refine hI2.more n1 n2 n3 hb2 k4 (by omega) (y0f T (isR T y5a r4)).1 (r2:=(y0f T (isR T y5a r4)).2) (v:=v) ?_ ?_
   ·rw [q01,if_neg m2];exact kv
   intro S5 hI5;exact q09 rfl (hq (l++[(y0f T (isR T y5a r4)).1],(y0f T (isR T y5a r4)).2) S5 ⟨hI5,hR2,hf2⟩ (by dsimp only;omega))
  | false=>
   rw [q8y hb,q0y krd];have hstop:q4q T T.length (l,r4)=(l,r4):=by
    cases T.length with
    | zero=>rfl
    | succ m=>rw [q4q,if_neg (by rw [hb];simp)]
   rw [hstop] at hf;rw [<- hf] at hrel;have ob2:=objAt_some.2 kc2;have ob4':=objAt_some.2 kv;have hone:=klst.one;have hac:q0a v=[v]:=by cases v<;>first | rfl | cases hone
   (try simp only [rwp,hwR,zA,zB,zC,zD,zE,zF,zG,zH,zI,q08 ob4',ob2,q1e]);refine ⟨hone,fin ⟨nm,l,q95⟩ true r4 S4 nm v 0 _ _ _ hrel krd ksub ?_⟩;rw [q0o];exact .cons (.same _) (.cons (Fr.lst ((klst.upd a2 _).base2 a1)) (.cons (.same _) (.cons (.same _) (.cons (.same _) (.cons (.nils 4) .nil)))))
 | false=>
  rw [q8y hi,q0y hS0];(try simp only [rwp,hwR,zA,zB,zC,zD,zE,zF,zG,zH,zI]);refine (yuu hT hp.inr q1g).ca hS0 ?_;cases hd:isP T q1g r with
  | true=>
   have h1:=q2m hT hp hd (by decide +kernel) (by decide +kernel)
   have hp1:=h1.pre hp;have h2:=q20 hT hp1;have hp2:=h2.pre hp1;have h3:=q4a hT hp2 (s:=q1a) (by decide +kernel) (by decide +kernel)
   have hp3:=h3.pre hp2;(try simp only [rwp,hwR,zA,zB,zC,zD,zE,zF,zG,zH,zI]);refine (y29 hT hp1.inr).ca q1b ?_;have ob4:∀ X cs o,q0m (supd (supd X b4 (.cells 53 cs 6)) b o) b4=some (53,cs,6):=fun X cs o=>by rw [q0j m2];exact q0f
   (try simp only [rwp,hwR,zA,zB,zC,zD,zE,zF,zG,zH,zI,ob4]);have hrd:∀ X cs r',y01 (supd (supd X b (rdO T r')) b4 (.cells 53 cs 6)) b=some (rdO T r'):=fun X cs r'=>by rw [q01,if_neg n2];exact q1b
   refine (ylz hT hp2.inr q1a).ca (hrd _ _ _) ?_;(try simp only [rwp,hwR,zA,zB,zC,zD,zE,zF,zG,zH,zI]);refine (yuv hT hp3).ca q1b ?_;have hrel:y0g T r=((⟨q2p T (isR T q1g r),[],(y61 T 12 (q21 T q1a (q0r T (isR T q1g r)))).1⟩,true),(y61 T 12 (q21 T q1a (q0r T (isR T q1g r)))).2):=by
    rw [y0g,if_neg (by rw [hi];simp),if_pos hd]
   generalize q2p T (isR T q1g r)=nm at hrel ⊢;generalize y61 T 12 (q21 T q1a (q0r T (isR T q1g r)))=pe at hrel ⊢;obtain ⟨e,r5⟩:=pe;dsimp only at hrel ⊢;rw [q0q];have hb0:y01 (y0d S b) b=none:=by rw [q0b,if_pos rfl]
   have hb4':y01 (y0d S b) b4=none:=by rw [q0b,if_neg m2];exact k4
   have q1:∀ X cs,y01 (supd (supd X b4 (.cells 53 cs 6)) b (rdO T r5)) b=some (rdO T r5):=fun X cs=>q1b
   have q2:q0m (supd (supd (supd (supd (supd S b2 c43) b4 c43) b (rdO T (q0r T (isR T q1g r)))) b4 (.cells 53 [.str nm,.nils,.int .i64 0,.str ⟨#[]⟩,.str ⟨#[]⟩,.nils] 6)) b (rdO T r5)) b4=some (53,[.str nm,.nils,.int .i64 0,.str ⟨#[]⟩,.str ⟨#[]⟩,.nils],6):=ob4 _ _ _;have q3:q0m (supd (supd (supd (supd (supd S b2 c43) b4 c43) b (rdO T (q0r T (isR T q1g r)))) b4 (.cells 53 [.str nm,.nils,.int .i64 0,.str ⟨#[]⟩,.str ⟨#[]⟩,.nils] 6)) b (rdO T r5)) b2=some (53,[.str ⟨#[]⟩,.nils,.int .i64 0,.str ⟨#[]⟩,.str ⟨#[]⟩,.nils],6):=by
    refine objAt_some.2 ?_;simp [q01,m1,m2,m3,n1,n2,n3]
   have q4:Sub (y0d S b) (supd (supd (supd (supd (supd S b2 c43) b4 c43) b (rdO T (q0r T (isR T q1g r)))) b4 (.cells 53 [.str nm,.nils,.int .i64 0,.str ⟨#[]⟩,.str ⟨#[]⟩,.nils] 6)) b (rdO T r5)):=((hsub0.supd hb0).supd hb4').supd hb0;have q1:=q1 (supd (supd (supd S b2 c43) b4 c43) b (rdO T (q0r T (isR T q1g r)))) [.str nm,.nils,.int .i64 0,.str ⟨#[]⟩,.str ⟨#[]⟩,.nils];generalize supd (supd (supd (supd (supd S b2 c43) b4 c43) b (rdO T (q0r T (isR T q1g r)))) b4 (.cells 53 [.str nm,.nils,.int .i64 0,.str ⟨#[]⟩,.str ⟨#[]⟩,.nils] 6)) b (rdO T r5)=S5 at q1 q2 q3 q4 ⊢;(try simp only [rwp,hwR,zA,zB,zC,zD,zE,zF,zG,zH,zI,q2,q3,q0e,q1e,if_neg n3]);refine fin ⟨nm,[],e⟩ true r5 _ nm .nils e.kind _ _ _ hrel (by rw [q01,if_neg n2];exact q1) (q4.supd hb4') ?_
   rw [q0o];exact .cons (.same _) (.cons (.nils 2) (.cons (.same _) (.cons (.same _) (.cons (.same _) (.cons (.same _) .nil)))))
  | false=>
   rw [q8y hd,q0y hS0];have hrel:y0g T r=((⟨⟨#[]⟩,[],q95⟩,false),r):=by
    rw [y0g,if_neg (by rw [hi];simp),if_neg (by rw [hd];simp)]
   (try simp only [rwp,hwR,zA,zB,zC,zD,zE,zF,zG,zH,zI,if_neg n3,if_neg m3]);refine fin ⟨⟨#[]⟩,[],q95⟩ false r _ _ .nils 0 _ _ _ hrel hS0 hsub0 ?_;rw [q0o];exact .cons (.same _) (.cons (.nils 2) (.cons (.same _) (.cons (.same _) (.cons (.same _) (.cons (.nils 4) .nil)))))
set_option maxRecDepth 4000
def bl (s:ByteArray):List UInt8:=s.data.toList
def mkB (l:List UInt8):ByteArray:=⟨l.toArray⟩
theorem x7u (s:ByteArray):mkB (bl s)=s:=by cases s;rfl
theorem q5e (s:ByteArray):(bl s).length=s.size:=by cases s;simp [bl,ByteArray.size]
theorem y4f (s:ByteArray) (i j:Nat):bl (s.extract i j)=((bl s).take j).drop i:=by
 unfold bl;rw [ByteArray.data_extract,Array.toList_extract,List.extract_eq_take_drop,List.drop_take]
theorem q5u (s:ByteArray) (i j:Nat):s.extract i j=mkB (((bl s).take j).drop i):=by rw [<- y4f,x7u]
theorem y9d (s:ByteArray) (i:Nat):s[i]?=(bl s)[i]?:=q7k s i
def q3e:Nat->List UInt8->Nat
 | _,[]=>0
 | i,c :: r=>if atN i c.toNat then q3e (i+1) r+1 else 0
theorem yci:∀ {l:List UInt8} {i:Nat},q3e i l<=l.length
 | [],i=>by simp [q3e]
 | c :: r,i=>by
  unfold q3e;have:=yci (l:=r) (i:=i+1);split
  ·simp;omega
  ·simp
theorem x8y {s:ByteArray} (hs:s.size<=1125899906842624):AFun PG yu1 [.str s] (.int .i64 (q3e 0 (bl s))):=by
 intro S;refine xfs ?_;unfold xcv;refine LoopP.introS (fun i:Nat=>[(0,.str s),(3,.int .i64 i)]) (fun i S'=>S'=S/\i<=s.size/\q3e 0 (bl s)=i+q3e i ((bl s).drop i)) (fun i=>s.size-i) 0 ⟨rfl,by omega,by simp⟩ rfl ?_
 rintro i S' ⟨rfl,hi,hf⟩ r hr;cases h0:decide ((i:Int)<s.size) with
 | false=>
  have hd:(bl s).drop i=[]:=List.drop_of_length_le (by rw [q5e];have:=of_decide_eq_false h0;omega)
  rw [hd,q3e] at hf;(try simp only [rwp,hwR,zA,zB,zC,zD,zE,zF,zG,zH,zI,yo0,h0,yg1,yg0,yfz,yfy,yfx,yfw,yfv,yfu,y6w,y6v]);exact q04 ⟨by rw [hf];rfl,rfl⟩
 | true=>
  have hlt:=of_decide_eq_true h0;obtain ⟨b,hb⟩:=q4j hlt;have hd:=q0i (l:=bl s) (by rw [<- y9d];exact hb)
  rw [hd,q3e] at hf;have ea:atN i b.toNat=((decide (97<=(b.toNat:Int))&&decide ((b.toNat:Int)<=122))||(decide (0<(i:Int))&&(decide ((b.toNat:Int)=95)||(decide (48<=(b.toNat:Int))&&decide ((b.toNat:Int)<=57))))):=by
   have:(!decide ((i:Int)=0))=decide (0<(i:Int)):=by rw [<- decide_not];congr 1;exact propext (by omega)
   simp only [atN,q61,y1x,this]
  have good:atN i b.toNat=true->r [(0,.str s),(3,.int .i64 ((i:Int)+1))] S':=fun h=>by
   rw [if_pos h] at hf;exact hr (i+1) _ ⟨rfl,by omega,by omega⟩ (by omega)
  have bad:atN i b.toNat=false->q3e 0 (bl s)=i:=fun h=>by
   rw [if_neg (by rw [h];simp)] at hf
   exact hf
  cases h1:decide (97<=(b.toNat:Int))<;>cases h2:decide ((b.toNat:Int)<=122)<;>cases h3:decide (0<(i:Int))<;>cases h4:decide ((b.toNat:Int)=95)<;>cases h5:decide (48<=(b.toNat:Int))<;>cases h6:decide ((b.toNat:Int)<=57) <;>
   simp only [h1,h2,h3,h4,h5,h6,Bool.true_and,Bool.false_and,Bool.and_true,Bool.and_false,Bool.or_true,Bool.true_or,Bool.or_false,Bool.false_or,Bool.not_true,Bool.not_false] at ea <;>
   (try simp only [rwp,hwR,zA,zB,zC,zD,zE,zF,zG,zH,zI,yo0,h0,hb,yg1,yg0,yfz,yfy,yfx,yfw,yfv,yfu,y6w,y6v,h1,h2,h3,h4,h5,h6]) <;>
   first
    | exact q04 ⟨by rw [bad ea],rfl⟩
    | ((simp (disch:=omega) only [q05]);exact q09 rfl (good ea))
set_option maxRecDepth 4000
def signs:ByteArray:=⟨#[58,124,35,43,45,38,46,40,41]⟩
def yaw (c:UInt8):ByteArray:=if c∈[58,124,35,43,45,38,46,40,(41:UInt8)] then mkB [c] else ⟨#[63]⟩
theorem yj1 {i:Nat} {c:UInt8} (h:signs[i]?=some c):c∈[58,124,35,43,45,38,46,40,(41:UInt8)]/\signs.extract i (i+1)=mkB [c]:=by
 rw [y9d] at h;have hm:=lB h;refine ⟨hm,?_⟩;rw [q5u,List.drop_take,show i+1-i=1 by omega,q0i h]
 rfl
theorem x90 (c:UInt8):AFun PG yu0 [.int .u8 c.toNat] (.str (yaw c)):=by
 intro S;refine xfr ?_;unfold xcu;refine LoopP.introS (fun i:Nat=>[(0,.int .u8 c.toNat),(3,.str signs),(4,.int .i64 i)]) (fun i S'=>S'=S/\i<=9/\∀ j b,j<i->signs[j]?=some b->b≠c) (fun i=>9-i) 0 ⟨rfl,by omega,by omega⟩ rfl ?_
 rintro i S' ⟨rfl,hi,hn⟩ r hr;have hsz:signs.size=9:=rfl;(try simp only [rwp,hwR,zA,zB,zC,zD,zE,zF,zG,zH,zI,yw9,hsz])
 (refine q02 (fun hlt=>?_) (fun hlt=>?_)<;>(try simp only [hlc] at hlt))
 ·obtain ⟨b,hb⟩:=q4j (s:=signs) (i:=i) (by rw [hsz];omega)
  obtain ⟨h1,h2⟩:=yj1 hb;(try simp only [rwp,hwR,zA,zB,zC,zD,zE,zF,zG,zH,zI,hb])
  (refine q02 (fun he=>?_) (fun he=>?_)<;>(try simp only [hlc] at he))
  ·have hbc:b=c:=UInt8.toNat_inj.1 (by omega)
   subst hbc
   (simp (disch:=omega) only [q05])
   (try simp only [rwp,hwR,zA,zB,zC,zD,zE,zF,zG,zH,zI,hsz]);refine ⟨by omega,by omega,?_⟩
   rw [show ((i:Int)+1).toNat=i+1 by omega,h2]
   exact q04 ⟨by rw [yaw,if_pos h1],rfl⟩
  ·(simp (disch:=omega) only [q05])
   refine q09 rfl (hr (i+1) _ ⟨rfl,by omega,fun j x hj hx=>?_⟩ (by omega))
   rcases Nat.lt_succ_iff_lt_or_eq.1 hj with h | rfl
   ·exact hn j x h hx
   ·rw [hb] at hx;cases hx;rintro rfl;exact he rfl
 ·refine q04 ⟨?_,rfl⟩;rw [yaw,if_neg];intro hm;obtain ⟨j,hj⟩:=lL hm;have h9:signs[j]?=some c:=by rw [y9d];exact hj
  exact hn j c (by have:=q7j h9;omega) h9 rfl
def y0n:Nat->List UInt8->Nat->Nat->List Tk
 | 0,_,_,_=>[]
 | _+1,[],line,col=>[⟨⟨#[]⟩,line,col⟩]
 | f+1,c :: r,line,col=>
  if c.toNat=32\/c.toNat=9\/c.toNat=10 then y0n f r (if c.toNat=10 then line+1 else line) (if c.toNat=10 then 1 else col+1)
  else if q3e 0 (c :: r)=0 then (if yaw c=⟨#[63]⟩ then [⟨⟨#[63]⟩,line,col⟩] else ⟨yaw c,line,col⟩ :: y0n f r line (col+1))
  else ⟨mkB ((c :: r).take (q3e 0 (c :: r))),line,col⟩ :: y0n f ((c :: r).drop (q3e 0 (c :: r))) line (col+q3e 0 (c :: r))
def ycl (s:ByteArray):List Tk:=y0n (s.size+1) (bl s) 1 1
theorem yqh {s:ByteArray} (hs:s.size<=4096):AFun PG x6j [.str s] (.sl 3 ((ycl s).map tkC)):=by
 intro S;refine xks ?_;unfold xja;refine LoopP.introS (fun p:AV×Nat×Nat×Nat=>[(0,.str s),(3,p.1),(4,.int .i64 p.2.1),(5,.int .i64 p.2.2.1),(6,.int .i64 p.2.2.2)])
  (fun p S'=>p.2.2.2<=s.size/\p.2.1<=p.2.2.2+1/\p.2.2.1<=p.2.2.2+1/\Sub S S'/\∃ (d:List Tk) (f:Nat),s.size-p.2.2.2<f/\d.length<=p.2.2.2/\LstN S S' 149 3 p.1 (d.map tkC)/\d++y0n f ((bl s).drop p.2.2.2) p.2.1 p.2.2.1=ycl s) (fun p=>s.size-p.2.2.2) (.nils,1,1,0)
  ⟨Nat.zero_le _,Nat.le_refl _,Nat.le_refl _,Sub.refl S,[],s.size+1,by dsimp only;omega,by simp,.nil,rfl⟩ rfl ?_
 rintro ⟨v,line,col,i⟩ S1 ⟨hi,hln,hcl,hs1,d,f,hf,hd,hl,ht⟩ q hq;dsimp only at hi hln hcl hf hd hl ht;obtain ⟨f,rfl⟩:∃ m,f=m+1:=⟨f-1,by omega⟩
 (try simp only [rwp,hwR,zA,zB,zC,zD,zE,zF,zG,zH,zI,x9v])
 (refine q02 (fun hlt=>?_) (fun hlt=>?_)<;>(try simp only [hlc] at hlt))
 ·obtain ⟨c,hc⟩:=q4j hlt;have hdc:=q0i (l:=bl s) (by rw [<- y9d];exact hc)
  rw [hdc,y0n] at ht;(try simp only [rwp,hwR,zA,zB,zC,zD,zE,zF,zG,zH,zI,hc]);have ws:∀ w:Bool,w=(decide (c.toNat=32\/c.toNat=9\/c.toNat=10))->yrr (fun ae S'=>ae=.ret (.sl 3 ((ycl s).map tkC))/\S'=S) q (.str s) v (.int .i64 line) (.int .i64 col) (.int .i64 i) (.int .u8 c.toNat) (.bool w) S1:=by
   intro w hw;unfold yrr;cases w with
   | true=>
    have hw:=of_decide_eq_true hw.symm;rw [if_pos hw] at ht;cases a3:decide ((c.toNat:Int)=10) with
    | true=>
     have h10:c.toNat=10:=by have:=of_decide_eq_true a3;omega
     rw [if_pos h10,if_pos h10] at ht;(try simp only [rwp,hwR,zA,zB,zC,zD,zE,zF,zG,zH,zI,a3])
     (simp (disch:=omega) only [q05])
     refine q09 rfl (hq (v,line+1,1,i+1) S1 ⟨by dsimp only;omega,by dsimp only;omega,by dsimp only;omega,hs1,d,f,by dsimp only;omega,by dsimp only;omega,hl,ht⟩ (by dsimp only;omega))
    | false=>
     have h10:¬ c.toNat=10:=by have:=of_decide_eq_false a3;omega
     rw [if_neg h10,if_neg h10] at ht;(try simp only [rwp,hwR,zA,zB,zC,zD,zE,zF,zG,zH,zI,a3])
     (simp (disch:=omega) only [q05])
     refine q09 rfl (hq (v,line,col+1,i+1) S1 ⟨by dsimp only;omega,by dsimp only;omega,by dsimp only;omega,hs1,d,f,by dsimp only;omega,by dsimp only;omega,hl,ht⟩ (by dsimp only;omega))
   | false=>
    have hw:=of_decide_eq_false hw.symm;rw [if_neg hw] at ht;have low:∀ (x:ByteArray) (w:Nat),1<=w->i+w<=s.size->ycl s=d++(if x=⟨#[63]⟩ then [⟨⟨#[63]⟩,line,col⟩] else ⟨x,line,col⟩ :: y0n f ((bl s).drop (i+w)) line (col+w))->yrq (fun ae S'=>ae=.ret (.sl 3 ((ycl s).map tkC))/\S'=S) q (.str s) v (.int .i64 line) (.int .i64 col) (.int .i64 i) (.int .i64 w) (.str x) S1:=by
     intro x w hw1 hw2 hx;unfold yrq;(try simp only [rwp,hwR,zA,zB,zC,zD,zE,zF,zG,zH,zI]);refine hl.app hs1 (xs:=[tkC ⟨x,line,col⟩]) (fun r hr=>by rw [lO] at hr;subst hr;rfl) rfl (by simp;omega) ?_
     intro v' S2 h1 h2 _;(try simp only [rwp,hwR,zA,zB,zC,zD,zE,zF,zG,zH,zI])
     (refine q02 (fun hq3=>?_) (fun hq3=>?_)<;>(try simp only [hlc] at hq3))
     ·rw [if_pos hq3] at hx;have e1:(d.map tkC)++[tkC ⟨x,line,col⟩]=(ycl s).map tkC:=by rw [hx,hq3];simp
      rw [e1] at h2;exact q3o h1 h2 ⟨rfl,rfl⟩
     ·rw [if_neg (by simpa using hq3)] at hx
      (simp (disch:=omega) only [q05])
      rw [show (i:Int)+(w:Int)=((i+w:Nat):Int) from rfl,show (col:Int)+(w:Int)=((col+w:Nat):Int) from rfl]
      refine q09 rfl (hq (v',line,col+w,i+w) S2 ⟨by dsimp only;omega,by dsimp only;omega,by dsimp only;omega,h1,d++[⟨x,line,col⟩],f,by dsimp only;omega,by simp;omega,by simpa using h2,?_⟩ (by dsimp only;omega))
      dsimp only;rw [hx];simp
    have hbe:bl (s.extract i s.size)=c :: (bl s).drop (i+1):=by
     rw [y4f,lF (by rw [q5e];exact Nat.le_refl _),hdc]
    have hwl:=yci (l:=c :: (bl s).drop (i+1)) (i:=0);have hcl2:(c :: (bl s).drop (i+1)).length=s.size-i:=by rw [<- hdc,List.length_drop,q5e]
    rw [hcl2] at hwl;have hcw:=x8y (s:=s.extract i s.size) (by rw [ByteArray.size_extract];omega)
    rw [hbe] at hcw;(try simp only [rwp,hwR,zA,zB,zC,zD,zE,zF,zG,zH,zI]);refine ⟨by omega,by omega,?_⟩
    refine q06 hcw ?_;have hw0:∀ r,q3e 0 (c :: r)≠0->c≠63:=fun r h=>by
     rintro rfl
     apply h
     unfold q3e;rw [if_neg (by decide)]
    have hw0:=hw0 ((bl s).drop (i+1));have htk:(c :: (bl s).drop (i+1)).drop (q3e 0 (c :: (bl s).drop (i+1)))=(bl s).drop (i+q3e 0 (c :: (bl s).drop (i+1))):=by
     rw [<- hdc,List.drop_drop]
    have hex:s.extract i (i+q3e 0 (c :: (bl s).drop (i+1)))=mkB ((c :: (bl s).drop (i+1)).take (q3e 0 (c :: (bl s).drop (i+1)))):=by
     rw [q5u,List.drop_take,Nat.add_sub_cancel_left,hdc]
    rw [htk] at ht;generalize hn:q3e 0 (c :: (bl s).drop (i+1))=n at *;(try simp only [rwp,hwR,zA,zB,zC,zD,zE,zF,zG,zH,zI])
    (simp (disch:=omega) only [q05])
    (try simp only [rwp,hwR,zA,zB,zC,zD,zE,zF,zG,zH,zI]);refine ⟨by omega,by omega,?_⟩
    rw [show ((i:Int)+(n:Int)).toNat=i+n by omega,hex]
    (refine q02 (fun hn0=>?_) (fun hn0=>?_)<;>(try simp only [hlc] at hn0))
    ·have hn0:n=0:=by omega
     refine q06 (x90 c) ?_;rw [if_pos hn0] at ht;refine low _ 1 (by omega) (by omega) ?_
     rw [<- ht]
    ·have hn0:¬ n=0:=by omega
     rw [if_neg hn0] at ht;refine low _ n (by omega) (by omega) ?_
     rw [<- ht,if_neg];intro h63;have h1:=congrArg bl h63;obtain ⟨m,hm⟩:∃ m,n=m+1:=⟨n-1,by omega⟩
     rw [hm,List.take_succ_cons] at h1;have h2:c :: ((bl s).drop (i+1)).take m=[63]:=by
      have:bl (mkB (c :: ((bl s).drop (i+1)).take m))=c :: ((bl s).drop (i+1)).take m:=by simp [bl,mkB]
      rw [<- this,h1];rfl
     exact hw0 hn0 (List.cons.inj h2).1
  cases a1:decide ((c.toNat:Int)=32)<;>cases a2:decide ((c.toNat:Int)=9)<;>cases a3:decide ((c.toNat:Int)=10) <;>
   (try simp only [rwp,hwR,zA,zB,zC,zD,zE,zF,zG,zH,zI,x1a,a1,a2,a3])<;>refine ws _ ?_<;>simp only [decide_eq_true_eq,decide_eq_false_iff_not] at a1 a2 a3<;>(symm;first | exact decide_eq_true (by omega) | exact decide_eq_false (by omega))
 ·rw [List.drop_of_length_le (by rw [q5e];omega),y0n] at ht
  (try simp only [rwp,hwR,zA,zB,zC,zD,zE,zF,zG,zH,zI]);refine hl.app hs1 (xs:=[tkC ⟨⟨#[]⟩,line,col⟩]) (fun r hr=>by rw [lO] at hr;subst hr;rfl) rfl (by simp;omega) ?_
  intro v' S2 h1 h2 _;have e1:(d.map tkC)++[tkC ⟨⟨#[]⟩,line,col⟩]=(ycl s).map tkC:=by rw [<- ht];simp
  rw [e1] at h2;exact q3o h1 h2 ⟨rfl,rfl⟩
theorem q6s:∀ {f:Nat} {l:List UInt8} {a b:Nat},(y0n f l a b).length<=l.length+1
 | 0,l,a,b=>by simp [y0n]
 | f+1,[],a,b=>by simp [y0n]
 | f+1,c :: r,a,b=>by
  unfold y0n;split
  ·have:=q6s (f:=f) (l:=r) (a:=if c.toNat=10 then a+1 else a) (b:=if c.toNat=10 then 1 else b+1)
   simp only [lD];omega
  ·split
   ·split
    ·simp
    ·have:=q6s (f:=f) (l:=r) (a:=a) (b:=b+1);simp only [lD];omega
   ·rename_i h0
    have:=q6s (f:=f) (l:=(c :: r).drop (q3e 0 (c :: r))) (a:=a) (b:=b+q3e 0 (c :: r));have h2:((c :: r).drop (q3e 0 (c :: r))).length<=r.length:=by
     rw [List.length_drop,lD];omega
    simp only [lD];omega
theorem ydo {l:List UInt8}:(mkB l).size=l.length:=by simp [mkB,ByteArray.size]
theorem ygl {c:UInt8}:(yaw c).size<=1:=by
 unfold yaw;split
 ·rw [ydo];exact Nat.le_refl _
 ·decide
theorem q6r:∀ {f:Nat} {l:List UInt8} {a b:Nat},∀ t∈y0n f l a b,t.s.size<=l.length+1
 | 0,l,a,b,t,ht=>by cases ht
 | f+1,[],a,b,t,ht=>by
  rw [y0n,lO] at ht;subst ht;exact Nat.zero_le _
 | f+1,c :: r,a,b,t,ht=>by
  unfold y0n at ht;split at ht
  ·have:=q6r t ht;simp only [lD];omega
  ·split at ht
   ·split at ht
    ·rw [lO] at ht;subst ht;exact Nat.le_add_left _ _
    ·rcases List.mem_cons.1 ht with rfl | ht
     ·have:=ygl (c:=c);dsimp only;omega
     ·have:=q6r t ht;simp only [lD];omega
   ·rcases List.mem_cons.1 ht with rfl | ht
    ·dsimp only;rw [ydo,lR];omega
    ·have:=q6r t ht;rw [List.length_drop] at this;omega
theorem q6t:∀ {f:Nat} {l:List UInt8} {a b:Nat} {t:Tk},(y0n f l a b).getLast?=some t->l.length<f->t.s=⟨#[]⟩\/t.s=⟨#[63]⟩
 | 0,l,a,b,t,ht,hf=>by omega
 | f+1,[],a,b,t,ht,hf=>by
  rw [y0n] at ht;simp at ht;subst ht;exact .inl rfl
 | f+1,c :: r,a,b,t,ht,hf=>by
  have hne:∀ {f:Nat} {l:List UInt8} {a b:Nat},l.length<f->y0n f l a b≠[]:=by
   intro f
   induction f with
   | zero=>intro l a b h;omega
   | succ f ih=>
    intro l a b h;cases l with
    | nil=>simp [y0n]
    | cons c r=>
     unfold y0n;simp only [lD] at h;split
     ·exact ih (by omega)
     ·split
      ·split<;>simp
      ·simp
  simp only [lD] at hf;unfold y0n at ht;split at ht
  ·exact q6t ht (by omega)
  ·split at ht
   ·split at ht
    ·simp at ht;subst ht;exact .inr rfl
    ·rw [List.getLast?_cons_of_ne_nil (hne (by omega))] at ht
     exact q6t ht (by omega)
   ·rename_i h0
    have hl:((c :: r).drop (q3e 0 (c :: r))).length<f:=by
     rw [List.length_drop,lD];omega
    rw [List.getLast?_cons_of_ne_nil (hne hl)] at ht;exact q6t ht hl
theorem yis {s:ByteArray} (hs:s.size<=4096):y0h (ycl s):=by
 have h1:=q6s (f:=s.size+1) (l:=bl s) (a:=1) (b:=1);rw [q5e] at h1;refine ⟨?_,fun t ht=>?_,fun t ht=>?_⟩
 ·unfold ycl;omega
 ·have:=q6r t ht;rw [q5e] at this;omega
 ·rw [<- List.getLast?_eq_getElem?] at ht;exact q6t ht (by rw [q5e];omega)
structure yro (T:List Tk) (r:Rd) (p:List Rl×Rd):Prop where
 st:StepR T r p.2 0
 len:p.1.length<=p.2.at'
 ok:∀ x∈p.1,OkR x
 sz:p.2.de=0->∀ x∈p.1,rsz x<=p.2.at'
theorem y13 {T:List Tk} (hT:y0h T) {r0 r:Rd} (hp0:Pre T 12 r0) {l:List Rl} (h:yro T r0 (l,r)) :
  ((y0g T r).1.2=true->yro T r0 (l++[(y0g T r).1.1],(y0g T r).2)/\r.at'+1<=(y0g T r).2.at')/\yro T r0 (l,(y0g T r).2):=by
 have hp:=h.st.pre hp0;obtain ⟨h1,h2,h3⟩:=x5v hT hp;have h5:=h.len;have h6:=h1.mono;dsimp only at h1 h5 h6 hp;refine ⟨fun hf=>⟨⟨(h.st.trans h1).le (by omega),?_,fun x hx=>?_,fun h0 x hx=>?_⟩,h3 hf⟩,⟨(h.st.trans h1).le (by omega),by dsimp only;omega,h.ok,fun h0 x hx=>?_⟩⟩
 ·have:=h3 hf;dsimp only at this;simp only [lH,lD,lJ];omega
 ·rcases List.mem_append.1 hx with hx | hx
  ·exact h.ok x hx
  ·rw [List.mem_singleton.1 hx];exact h2
 ·dsimp only at h0 ⊢;rcases List.mem_append.1 hx with hx | hx
  ·have:=h.sz (h1.fault h0) x hx;dsimp only at this;omega
  ·rw [List.mem_singleton.1 hx];have:=h1.sz h0;rw [if_pos hf] at this;omega
 ·dsimp only at h0 ⊢;have:=h.sz (h1.fault h0) x hx;dsimp only at this;omega
theorem ycz {T:List Tk} (hT:y0h T) {r0:Rd} (hp0:Pre T 12 r0):∀ {f:Nat} {p:List Rl×Rd},yro T r0 p->yro T r0 (q3v T f p)
 | 0,p,h=>h
 | f+1,(l,r),h=>by
  obtain ⟨k1,k2⟩:=y13 hT hp0 h;unfold q3v;split
  ·rename_i hi
   exact ycz hT hp0 (k1 hi).1
  ·exact k2
theorem y3b {T:List Tk} (hT:y0h T) {r0:Rd} (hp0:Pre T 12 r0):∀ {f g:Nat} {p:List Rl×Rd},yro T r0 p->T.length<=f+p.2.at'->T.length<=g+p.2.at'->q3v T f p=q3v T g p
 | 0,g,p,h,h1,h2=>by have h3:p.2.at'<T.length:=h.st.inr;omega
 | f+1,0,p,h,h1,h2=>by have h3:p.2.at'<T.length:=h.st.inr;omega
 | f+1,g+1,(l,r),h,h1,h2=>by
  dsimp only at h1 h2;obtain ⟨k1,k2⟩:=y13 hT hp0 h;unfold q3v;split
  ·rename_i hi
   obtain ⟨k3,k4⟩:=k1 hi;exact y3b hT hp0 k3 (by dsimp only;omega) (by dsimp only;omega)
  ·rfl
structure x0x (T:List Tk) (p:List Ty×Rd):Prop where
 pre:Pre T 12 p.2
 len:p.1.length<=p.2.at'
 ok:∀ t∈p.1,OkT t
 sz:p.2.de=0->∀ t∈p.1,∀ x∈t.rels,rsz x<=p.2.at'
theorem q7t {T:List Tk} (hT:y0h T) {l:List Ty} {r:Rd} (h:x0x T (l,r)) (hi:isP T q2b r=true) :
  Pre T 12 (isR T q2b r)/\Pre T 12 (q0r T (isR T q2b r))/\yro T (q0r T (isR T q2b r)) (q3v T T.length ([],q0r T (isR T q2b r))) /\
  x0x T (l++[⟨q2p T (isR T q2b r),(q3v T T.length ([],q0r T (isR T q2b r))).1⟩],(q3v T T.length ([],q0r T (isR T q2b r))).2)/\r.at'+1<=(q3v T T.length ([],q0r T (isR T q2b r))).2.at':=by
 have hp:Pre T 12 r:=h.pre;have h1:=q2m hT hp hi (by decide +kernel) (by decide +kernel)
 have hp1:=h1.pre hp;have h2:=q20 hT hp1;have hp2:=h2.pre hp1;have e1:(isR T q2b r).at'=r.at'+1:=by rw [isR,if_pos hi]
 have hR:=ycz hT hp2 (f:=T.length) (p:=([],q0r T (isR T q2b r))) ⟨StepR.refl hp2,Nat.zero_le _,fun x hx=>(by cases hx),fun _ x hx=>(by cases hx)⟩
 have hn:=q2r hT hp1.inr;generalize q3v T T.length ([],q0r T (isR T q2b r))=p at hR;obtain ⟨rs,r3⟩:=p;have m1:=h2.mono;have m2:=hR.st.mono;have m3:=hR.len;have m4:=h.len;have hin:r3.at'<T.length:=hR.st.inr;have hTl:=hT.len;dsimp only at m2 m3 m4 ⊢;refine ⟨hp1,hp2,hR,⟨hR.st.pre hp2,?_,fun t ht=>?_,fun h0 t ht x hx=>?_⟩,by omega⟩
 ·simp only [lH,lD,lJ];omega
 ·rcases List.mem_append.1 ht with ht | ht
  ·exact h.ok t ht
  ·rw [List.mem_singleton.1 ht];exact ⟨hn,by dsimp only;omega,hR.ok⟩
 ·dsimp only at h0 ⊢;rcases List.mem_append.1 ht with ht | ht
  ·have:=h.sz (h1.fault (h2.fault (hR.st.fault h0))) t ht x hx;dsimp only at this;omega
  ·rw [List.mem_singleton.1 ht] at hx;exact hR.sz h0 x hx
theorem y72 {T:List Tk} (hT:y0h T):∀ {f:Nat} {p:List Ty×Rd},x0x T p->x0x T (q2f T f p)
 | 0,p,h=>h
 | f+1,(l,r),h=>by
  unfold q2f;split
  ·rename_i hi
   exact y72 hT (q7t hT h hi).2.2.2.1
  ·exact h
theorem y0t {T:List Tk} (hT:y0h T):∀ {f g:Nat} {p:List Ty×Rd},x0x T p->T.length<=f+p.2.at'->T.length<=g+p.2.at'->q2f T f p=q2f T g p
 | 0,g,p,h,h1,h2=>by have h3:p.2.at'<T.length:=h.pre.inr;omega
 | f+1,0,p,h,h1,h2=>by have h3:p.2.at'<T.length:=h.pre.inr;omega
 | f+1,g+1,(l,r),h,h1,h2=>by
  dsimp only at h1 h2;unfold q2f;split
  ·rename_i hi
   obtain ⟨-,-,-,k3,k4⟩:=q7t hT h hi;exact y0t hT k3 (by dsimp only;omega) (by dsimp only;omega)
  ·rfl
theorem xm0 {T:List Tk} (h:0<T.length):Pre T 12 rd0:=⟨h,by decide,by decide,fun _=>by decide⟩
theorem ts0 {T:List Tk} (h:0<T.length):x0x T ([],rd0):=⟨xm0 h,Nat.zero_le _,fun t ht=>(by cases ht),fun _ t ht=>(by cases ht)⟩
theorem yqb {T:List Tk} {r:Rd} (hp:Pre T 12 r):StepR T r (y40 T r) 0:=by
 unfold y40;split
 ·exact q7b _ (by decide) 0 (StepR.refl hp)
 ·exact StepR.refl hp
theorem yjc {T:List Tk} (hT:y0h T) (h:0<T.length):OkS (q70 T).1/\∀ t∈(q70 T).1,∀ x∈t.rels,rsz x<=T.length:=by
 have hR:=y72 hT (f:=T.length) (ts0 h);have hin:(q2f T T.length ([],rd0)).2.at'<T.length:=hR.pre.inr;have hl:=hR.len;have hTl:=hT.len;unfold q70;split
 ·rename_i h0
  refine ⟨⟨by dsimp only;omega,hR.ok⟩,fun t ht x hx=>?_⟩
  have:=hR.sz ((yqb hR.pre).fault h0) t ht x hx;omega
 ·exact ⟨⟨Nat.zero_le _,fun t ht=>(by cases ht)⟩,fun t ht=>(by cases ht)⟩
set_option maxRecDepth 4000
def Apart (u v:AV):Prop:=∀ b off n cap,v=.own b off n cap->q0u u b
theorem LstN.keep {S0 S S':q00} {t sz:Nat} {u u' v:AV} {rows:List (List AV)} (h:LstN S0 S t sz v rows) (ha:Apart u v) (hk:∀ c o,y01 S c=some o->q0u u c->y01 S' c=some o/\q0u u' c):LstN S0 S' t sz v rows/\Apart u' v:=by
 obtain ⟨hr,⟨rfl,rfl⟩ | ⟨b,cap,rfl,h1,h2,h3⟩⟩:=h
 ·exact ⟨.nil,fun b off n cap h=>by cases h⟩
 ·obtain ⟨k1,k2⟩:=hk b _ h2 (ha b 0 _ _ rfl);exact ⟨⟨hr,.inr ⟨b,cap,rfl,h1,k1,h3⟩⟩,fun b' off n cap h=>by cases h;exact k2⟩
theorem Apart.symm {u v:AV} (h:Apart u v):Apart v u:=fun b off n cap hu b' off' n' cap' hv=>Ne.symm (h b' off' n' cap' hv b off n cap hu)
theorem yhy {v:AV}:Apart .nils v:=fun b off n cap _=>q3l
structure PrI (S:q00) (bR b2 b3 b5:Nat) (T:List Tk) (v:AV) (p:List Ty×Rd) (S':q00):Prop where
 rd:y01 S' bR=some (rdO T p.2)
 c2:y01 S' b2=some (.cells 24 [.nils] 1)
 c3:y01 S' b3=some (.cells 82 [.int .i64 0,.int .i64 0,.int .i64 0] 3)
 c5:y01 S' b5=some (.cells 24 [v] 1)
 lst:LstN S S' 46 2 v (p.1.map tyC)
 asd:∀ c∈[bR,b2,b3,b5],q0u v c
 sub:Sub S S'
theorem PrI.mv {S S':q00} {bR b2 b3 b5:Nat} {T:List Tk} {v:AV} {l:List Ty} {r:Rd} (h:PrI S bR b2 b3 b5 T v (l,r) S') (hd:[bR,b2,b3,b5].Nodup) (hR:y01 S bR=none) (r':Rd):PrI S bR b2 b3 b5 T v (l,r') (supd S' bR (rdO T r')):=by
 simp only [List.nodup_cons,lN,not_or,List.not_mem_nil,or_false,not_false_eq_true,List.nodup_nil,and_true] at hd;obtain ⟨⟨n2,n3,n5⟩,⟨m3,m5⟩,l5⟩:=hd;exact ⟨by rw [q01,if_pos rfl],by rw [q01,if_neg n2];exact h.c2,by rw [q01,if_neg n3];exact h.c3,by rw [q01,if_neg n5];exact h.c5,h.lst.upd (h.asd bR (by simp)) _,h.asd,h.sub.supd hR⟩
structure PrJ (S:q00) (bR b2 b3 b5 b6:Nat) (T:List Tk) (v u:AV) (nm:ByteArray) (l:List Ty) (p:List Rl×Rd) (S':q00):Prop where
 out:PrI S bR b2 b3 b5 T v (l,p.2) S'
 c6:y01 S' b6=some (.cells 46 [.str nm,u] 2)
 ins:LstN S S' 53 6 u (p.1.map rlC)
 asd:∀ c∈[bR,b2,b3,b5,b6],q0u u c
 asd6:q0u v b6
 apt:Apart u v
theorem PrJ.mv {S S':q00} {bR b2 b3 b5 b6:Nat} {T:List Tk} {v u:AV} {nm:ByteArray} {l:List Ty} {rs:List Rl} {r:Rd} (h:PrJ S bR b2 b3 b5 b6 T v u nm l (rs,r) S') (hd:[bR,b2,b3,b5].Nodup) (h6:bR≠b6) (hR:y01 S bR=none) (r':Rd):PrJ S bR b2 b3 b5 b6 T v u nm l (rs,r') (supd S' bR (rdO T r')):=
 ⟨h.out.mv hd hR r',by rw [q01,if_neg h6];exact h.c6,h.ins.upd (h.asd bR (by simp)) _,h.asd,h.asd6,h.apt⟩
theorem PrJ.more {S S1:q00} {bR b2 b3 b5 b6:Nat} {T:List Tk} {v u:AV} {nm:ByteArray} {l:List Ty} {rs:List Rl} {r:Rd} (h:PrJ S bR b2 b3 b5 b6 T v u nm l (rs,r) S1) (hd6:∀ c∈[bR,b2,b3,b5],b6≠c) (k6:y01 S b6=none) (x:Rl) (hlen:rs.length<=100000) {K:q00->Prop} (hK:∀ u' S3,PrJ S bR b2 b3 b5 b6 T v u' nm l (rs++[x],r) S3->K S3) :
  apW S1 53 6 104 u (.sl 6 [rlC x]) fun u' S2=>soW (q0m S2 b6) S2 1 b6 1 u' K:=by
 obtain ⟨⟨hrd,h2,h3,h5,hl,ha,hs⟩,hc6,hin,hau,ha6,hap⟩:=h;dsimp only at hrd hl hin;refine hin.app hs (xs:=[rlC x]) (fun r hr=>by rw [lO] at hr;subst hr;exact y5e x) (by rw [q0o];rfl) (by simp;omega) ?_
 intro u' S2 k1 k2 k3;obtain ⟨q6,q6a⟩:=k3 b6 _ hc6 (hau b6 (by simp))
 have hone:=k2.one;have hac:q0a u'=[u']:=by cases u'<;>first | rfl | cases hone
 obtain ⟨j1,j2⟩:=hl.keep hap k3;rw [objAt_some.2 q6,q35,hac];refine ⟨rfl,by simp,by simp [y06,hone],hK u' _ ⟨⟨?_,?_,?_,?_,j1.upd ha6 _,ha,k1.supd k6⟩,by rw [q01,if_pos rfl];rfl,?_,fun c hc=>?_,ha6,j2⟩⟩
 ·rw [q01,if_neg (hd6 bR (by simp))];exact (k3 bR _ hrd (hau bR (by simp))).1
 ·rw [q01,if_neg (hd6 b2 (by simp))];exact (k3 b2 _ h2 (hau b2 (by simp))).1
 ·rw [q01,if_neg (hd6 b3 (by simp))];exact (k3 b3 _ h3 (hau b3 (by simp))).1
 ·rw [q01,if_neg (hd6 b5 (by simp))];exact (k3 b5 _ h5 (hau b5 (by simp))).1
 ·simpa using k2.upd q6a _
 ·simp only [lN,List.not_mem_nil,or_false] at hc;rcases hc with rfl | rfl | rfl | rfl | rfl
  ·exact (k3 _ _ hrd (hau _ (by simp))).2
  ·exact (k3 _ _ h2 (hau _ (by simp))).2
  ·exact (k3 _ _ h3 (hau _ (by simp))).2
  ·exact (k3 _ _ h5 (hau _ (by simp))).2
  ·exact q6a
theorem Frs.app {S0 S:q00}:∀ {a a' b b':List AV},Frs S0 S a a'->Frs S0 S b b'->Frs S0 S (a++b) (a'++b')
 | [],[],b,b',_,h=>h
 | [],x :: r,b,b',h,_=>by cases h.1
 | x :: r,[],b,b',h,_=>by cases h.1
 | x :: r,y :: r',b,b',h,k=>.cons (h.2 0 x y rfl rfl) (Frs.app ⟨by simpa using h.1,fun i u u' h1 h2=>h.2 (i+1) u u' (by simpa using h1) (by simpa using h2)⟩ k)
theorem PrJ.typ {S S1:q00} {bR b2 b3 b5 b6:Nat} {T:List Tk} {v u:AV} {nm:ByteArray} {l:List Ty} {rs:List Rl} {r:Rd} (h:PrJ S bR b2 b3 b5 b6 T v u nm l (rs,r) S1) (hd:[bR,b2,b3,b5].Nodup) (hd6:∀ c∈[bR,b2,b3,b5],b6≠c) (hn:∀ c∈[bR,b2,b3,b5],y01 S c=none) (hlen:l.length<=100000) {q:LE->q00->Prop} {le:LE} (hK:∀ v' S3,PrI S bR b2 b3 b5 T v' (l++[⟨nm,rs⟩],r) S3->q le S3) :
  apW S1 46 2 40 v (.sl 2 [[.str nm,u]]) fun v' S2=>soW (q0m S2 b5) S2 1 b5 0 v' fun S3=>rcW q le S3:=by
 obtain ⟨⟨hrd,h2,h3,h5,hl,ha,hs⟩,hc6,hin,hau,ha6,hap⟩:=h;dsimp only at hrd hl hin;have honeu:=hin.one;refine hl.app hs (xs:=[[.str nm,u]]) (fun r hr=>by rw [lO] at hr;subst hr;rfl) (by simp [y06,honeu];rfl) (by simp;omega) ?_
 intro v' S2 k1 k2 k3;obtain ⟨q5,q5a⟩:=k3 b5 _ h5 (ha b5 (by simp))
 obtain ⟨qR,qRa⟩:=k3 bR _ hrd (ha bR (by simp))
 obtain ⟨q2,q2a⟩:=k3 b2 _ h2 (ha b2 (by simp))
 obtain ⟨q3,q3a⟩:=k3 b3 _ h3 (ha b3 (by simp))
 obtain ⟨j1,j2⟩:=hin.keep hap.symm k3;have hone:=k2.one;have hac:q0a v'=[v']:=by cases v'<;>first | rfl | cases hone
 rw [objAt_some.2 q5,q35,hac];refine ⟨rfl,by simp,by simp [y06,hone],?_⟩
 simp only [List.nodup_cons,lN,not_or,List.not_mem_nil,or_false,not_false_eq_true,List.nodup_nil,and_true] at hd;obtain ⟨⟨n2,n3,n5⟩,⟨m3,m5⟩,l5⟩:=hd;obtain ⟨hr,⟨rfl,h0⟩ | ⟨bv,cap,rfl,e1,e2,e3,e4,e5⟩⟩:=k2
 ·simp at h0
 have dR:=qRa bv 0 _ _ rfl;have d2:=q2a bv 0 _ _ rfl;have d3:=q3a bv 0 _ _ rfl;have d5:=q5a bv 0 _ _ rfl
 let S0:q00:=supd (supd (supd (supd S bR (rdO T r)) b2 (.cells 24 [.nils] 1)) b3 (.cells 82 [.int .i64 0,.int .i64 0,.int .i64 0] 3)) b5 (.cells 24 [.own bv 0 ((l.map tyC)++[[.str nm,u]]).length cap] 1)
 have hS0:Sub S0 (supd S2 b5 (.cells 24 [.own bv 0 ((l.map tyC)++[[.str nm,u]]).length cap] 1)):=by
  intro x y hx;rw [q01] at hx ⊢;by_cases g5:b5=x
  ·rw [if_pos g5] at hx ⊢;exact hx
  rw [if_neg g5] at hx ⊢;rw [q01] at hx;by_cases g3:b3=x
  ·rw [if_pos g3] at hx;rw [<- g3,q3];exact hx
  rw [if_neg g3,q01] at hx;by_cases g2:b2=x
  ·rw [if_pos g2] at hx;rw [<- g2,q2];exact hx
  rw [if_neg g2,q01] at hx;by_cases gR:bR=x
  ·rw [if_pos gR] at hx;rw [<- gR,qR];exact hx
  rw [if_neg gR] at hx;exact k1 x y hx
 have hv0:y01 S0 bv=none:=by
  show y01 (supd _ _ _) bv=none;rw [q01,if_neg d5,q01,if_neg d3,q01,if_neg d2,q01,if_neg dR];exact e1
 have hvc:y01 (supd S2 b5 (.cells 24 [.own bv 0 ((l.map tyC)++[[.str nm,u]]).length cap] 1)) bv=some (.cells 46 ((l.map tyC)++[[.str nm,u]]).flatten (cap * 2)):=by
  rw [q01,if_neg d5];exact e2
 have hcs:((l.map tyC)++[[.str nm,u]]).flatten=(l.map tyC).flatten++[.str nm,u]:=by simp
 have hcs':((l++[(⟨nm,rs⟩:Ty)]).map tyC).flatten=(l.map tyC).flatten++[.str nm,.sl 6 (rs.map rlC)]:=by simp [tyC]
 have hlen':((l++[(⟨nm,rs⟩:Ty)]).map tyC).length=((l.map tyC)++[[.str nm,u]]).length:=by simp
 refine yja (cs':=((l++[(⟨nm,rs⟩:Ty)]).map tyC).flatten) hS0 hv0 hvc ?_ (hK (.own bv 0 ((l.map tyC)++[[.str nm,u]]).length cap) _ ⟨?_,?_,?_,?_,⟨fun r hr=>?_,.inr ⟨bv,cap,by rw [hlen'],e1,by rw [q01,if_pos rfl],by rw [hlen'];exact e3,e4,by rw [hlen'];exact e5⟩⟩,fun c hc=>?_,?_⟩)
 ·rw [hcs,hcs'];refine Frs.app (Frs.same _) (.cons (.same _) (.cons (Fr.lst (t:=53) ?_) .nil));obtain ⟨g1,⟨rfl,g2⟩ | ⟨bu,capu,rfl,f1,f2,f3⟩⟩:=j1
  ·exact ⟨g1,.inl ⟨rfl,g2⟩⟩
  ·refine ⟨g1,.inr ⟨bu,capu,rfl,?_,?_,f3⟩⟩
   ·have w5:=hau b5 (by simp) bu 0 _ _ rfl
    have w3:=hau b3 (by simp) bu 0 _ _ rfl
    have w2:=hau b2 (by simp) bu 0 _ _ rfl
    have wR:=hau bR (by simp) bu 0 _ _ rfl
    have wv:=j2 bu 0 _ _ rfl bv 0 _ _ rfl;rw [q01,if_neg (Ne.symm wv)]
    show y01 (supd _ _ _) bu=none;rw [q01,if_neg w5,q01,if_neg w3,q01,if_neg w2,q01,if_neg wR];exact f1
   ·have w5:=hau b5 (by simp) bu 0 _ _ rfl
    rw [q01,if_neg w5];exact f2
 ·rw [q01,if_neg (Ne.symm dR)]
  show y01 (supd _ _ _) bR=_;rw [q01,if_neg (Ne.symm n5),q01,if_neg (Ne.symm n3),q01,if_neg (Ne.symm n2),q01,if_pos rfl]
 ·rw [q01,if_neg (Ne.symm d2)]
  show y01 (supd _ _ _) b2=_;rw [q01,if_neg (Ne.symm m5),q01,if_neg (Ne.symm m3),q01,if_pos rfl]
 ·rw [q01,if_neg (Ne.symm d3)]
  show y01 (supd _ _ _) b3=_;rw [q01,if_neg (Ne.symm l5),q01,if_pos rfl]
 ·rw [q01,if_neg (Ne.symm d5)]
  show y01 (supd _ _ _) b5=_;rw [q01,if_pos rfl]
 ·obtain ⟨t,-,rfl⟩:=List.mem_map.1 hr;rfl
 ·simp only [lN,List.not_mem_nil,or_false] at hc;rcases hc with rfl | rfl | rfl | rfl
  ·exact qRa
  ·exact q2a
  ·exact q3a
  ·exact q5a
 ·have s1:=(Sub.refl S).supd (o:=rdO T r) (hn bR (by simp))
  exact (((((Sub.refl S).supd (hn bR (by simp))).supd (hn b2 (by simp))).supd (hn b3 (by simp))).supd (hn b5 (by simp))).supd e1
theorem yit:∀ {f:Nat} {l:List UInt8} {a b:Nat},l.length<f->y0n f l a b≠[]
 | 0,l,a,b,h=>by omega
 | f+1,[],a,b,h=>by simp [y0n]
 | f+1,c :: r,a,b,h=>by
  unfold y0n;simp only [lD] at h;split
  ·exact yit (by omega)
  ·split
   ·split<;>simp
   ·simp
theorem yck (s:ByteArray):0<(ycl s).length:=List.length_pos_iff.2 (yit (by rw [q5e];omega))
def q4m (s:ByteArray):List Ty×AV:=if 4096<s.size then ([],.agg [.int .i64 1,.int .i64 1,.int .i64 2]) else q70 (ycl s)
theorem x00 (s:ByteArray):AFun PG x76 [.str s] (.tup [scA (q4m s).1,(q4m s).2]):=by
 intro S;refine xli ?_;unfold xjz;intro b2 hb2;(try simp only [rwp,hwR,zA,zB,zC,zD,zE,zF,zG,zH,zI]);intro b3 hb3;have n23:b3≠b2:=q0p hb3 (x:=.cells 24 [.nils] 1) (by rw [q01,if_pos rfl])
 have k3:y01 S b3=none:=by rw [q01,if_neg (Ne.symm n23)] at hb3;exact hb3
 (try simp only [rwp,hwR,zA,zB,zC,zD,zE,zF,zG,zH,zI,if_neg n23,if_neg (Ne.symm n23)])
 (refine q02 (fun hl=>?_) (fun hl=>?_)<;>(try simp only [hlc] at hl))
 ·have hpf:q4m s=([],.agg [.int .i64 1,.int .i64 1,.int .i64 2]):=by rw [q4m,if_pos (by omega)]
  rw [hpf];refine q6y S (.tup [scA [],.agg [.int .i64 1,.int .i64 1,.int .i64 2]]) (((((Sub.refl S).supd hb2).supd k3).supd hb2).supd k3) ?_ ⟨rfl,rfl⟩;(try simp only [rwp,hwR,zA,zB,zC,zD,zE,zF,zG,zH,zI,if_neg n23,if_neg (Ne.symm n23)]);exact .tu (.cons (.ag (.cons (.nils 2) .nil)) (.cons (.same _) .nil))
 have hs:s.size<=4096:=by omega
 have hT:=yis hs;have hTl:=hT.len;have hpf:q4m s=q70 (ycl s):=by rw [q4m,if_neg (by omega)]
 refine q06 (yqh hs) ?_;have hpos:=yck s;rw [hpf];generalize ycl s=T at hT hpos hTl ⊢;clear hpf hl hs;(try simp only [rwp,hwR,zA,zB,zC,zD,zE,zF,zG,zH,zI]);refine ⟨rfl,rfl,fun bR hbR=>?_⟩
 have nR2:bR≠b2:=q0p hbR (x:=.cells 24 [.nils] 1) (by rw [q01,if_neg n23,q01,if_pos rfl])
 have nR3:bR≠b3:=q0p hbR (x:=.cells 82 [.int .i64 0,.int .i64 0,.int .i64 0] 3) (by rw [q01,if_pos rfl])
 have kR:y01 S bR=none:=by rw [q01,if_neg (Ne.symm nR3),q01,if_neg (Ne.symm nR2)] at hbR;exact hbR
 intro b5 hb5;have n52:b5≠b2:=q0p hb5 (x:=.cells 24 [.nils] 1) (by rw [q01,if_neg nR2,q01,if_neg n23,q01,if_pos rfl])
 have n53:b5≠b3:=q0p hb5 (x:=.cells 82 [.int .i64 0,.int .i64 0,.int .i64 0] 3) (by rw [q01,if_neg nR3,q01,if_pos rfl])
 have n5R:b5≠bR:=by
  rintro rfl;rw [q01,if_pos rfl] at hb5;cases hb5
 have k5:y01 S b5=none:=by rw [q01,if_neg (Ne.symm n5R),q01,if_neg (Ne.symm n53),q01,if_neg (Ne.symm n52)] at hb5;exact hb5
 have hd:[bR,b2,b3,b5].Nodup:=by
  simp only [List.nodup_cons,lN,not_or,List.not_mem_nil,or_false,not_false_eq_true,List.nodup_nil,and_true];exact ⟨⟨nR2,nR3,Ne.symm n5R⟩,⟨Ne.symm n23,Ne.symm n52⟩,Ne.symm n53⟩
 have hn:∀ c∈[bR,b2,b3,b5],y01 S c=none:=by
  intro c hc;simp only [lN,List.not_mem_nil,or_false] at hc;rcases hc with rfl | rfl | rfl | rfl<;>assumption
 (try simp only [rwp,hwR,zA,zB,zC,zD,zE,zF,zG,zH,zI]);have hI0:PrI S bR b2 b3 b5 T .nils ([],rd0) (supd (supd (supd (supd S b2 (.cells 24 [.nils] 1)) b3 (.cells 82 [.int .i64 0,.int .i64 0,.int .i64 0] 3)) bR (rdO T rd0)) b5 (.cells 24 [.nils] 1)):=by
  refine ⟨?_,?_,?_,?_,.nil,fun c _=>q3l,((((Sub.refl S).supd hb2).supd k3).supd kR).supd k5⟩<;>simp [q01,n23,nR2,nR3,n52,n53,n5R,Ne.symm n23,Ne.symm nR2,Ne.symm nR3,Ne.symm n52,Ne.symm n53,Ne.symm n5R]
 have hfin:q2f T T.length ([],rd0)=q2f T T.length ([],rd0):=rfl;have hts:=ts0 (T:=T) hpos;refine LoopP.introS (fun _:List Ty×Rd=>[(2,.ptr b2 0),(3,.ptr b3 0),(4,.ptr bR 0),(5,.ptr b5 0)])
  (fun p S'=>(∃ v,PrI S bR b2 b3 b5 T v p S')/\x0x T p/\q2f T T.length p=q2f T T.length ([],rd0)) (fun p=>T.length-p.2.at') ([],rd0) ⟨⟨.nils,hI0⟩,hts,rfl⟩ rfl ?_
 clear hI0 hts hfin;rintro ⟨l,r⟩ S1 ⟨⟨v,hI⟩,hTs,hf⟩ q hq;have hp:Pre T 12 r:=hTs.pre;have hin:r.at'<T.length:=hp.inr;have hrd:=hI.rd;have hll:=hTs.len;dsimp only at hrd hll;(try simp only [rwp,hwR,zA,zB,zC,zD,zE,zF,zG,zH,zI,xao]);refine (yuu hT hp.inr q2b).ca hrd ?_;cases hi:isP T q2b r with
 | true=>
  obtain ⟨hp1,hp2,hR,hTs2,hmu⟩:=q7t hT hTs hi;have hf2:q2f T T.length (l++[⟨q2p T (isR T q2b r),(q3v T T.length ([],q0r T (isR T q2b r))).1⟩],(q3v T T.length ([],q0r T (isR T q2b r))).2)=q2f T T.length ([],rd0):=by
   rw [<- hf];obtain ⟨m,hm⟩:∃ m,T.length=m+1:=⟨T.length-1,by omega⟩
   conv=>rhs;rw [hm,q2f,if_pos hi]
   exact y0t hT hTs2 (by dsimp only;omega) (by dsimp only;omega)
  (try simp only [rwp,hwR,zA,zB,zC,zD,zE,zF,zG,zH,zI]);refine (y29 hT hp1.inr).ca q1b ?_;(try simp only [rwp,hwR,zA,zB,zC,zD,zE,zF,zG,zH,zI]);have hI2:=(hI.mv hd kR (isR T q2b r)).mv hd kR (q0r T (isR T q2b r));rw [q0q] at hI2;generalize q2p T (isR T q2b r)=nm at hf2 hTs2 ⊢;have hI2':PrI S bR b2 b3 b5 T v (l,q0r T (isR T q2b r)) (supd S1 bR (rdO T (q0r T (isR T q2b r)))):=hI2;clear hI2;generalize supd S1 bR (rdO T (q0r T (isR T q2b r)))=S2 at hI2' ⊢;generalize q0r T (isR T q2b r)=r2 at hI2' hp2 hR hf2 hTs2 hmu;intro b6 hb6;(try simp only [rwp,hwR,zA,zB,zC,zD,zE,zF,zG,zH,zI]);have hd6:∀ c∈[bR,b2,b3,b5],b6≠c:=by
   intro c hc;simp only [lN,List.not_mem_nil,or_false] at hc;rcases hc with rfl | rfl | rfl | rfl
   ·exact q0p hb6 hI2'.rd
   ·exact q0p hb6 hI2'.c2
   ·exact q0p hb6 hI2'.c3
   ·exact q0p hb6 hI2'.c5
  have k6:=Sub.none hI2'.sub hb6;have hJ0:PrJ S bR b2 b3 b5 b6 T v .nils nm l ([],r2) (supd S2 b6 (.cells 46 [.str nm,.nils] 2)):=by
   have a6:=hI2'.lst.fresh hb6;refine ⟨⟨?_,?_,?_,?_,hI2'.lst.upd a6 _,hI2'.asd,hI2'.sub.supd k6⟩,by rw [q01,if_pos rfl],.nil,fun c _=>q3l,a6,yhy⟩
   ·rw [q01,if_neg (hd6 bR (by simp))];exact hI2'.rd
   ·rw [q01,if_neg (hd6 b2 (by simp))];exact hI2'.c2
   ·rw [q01,if_neg (hd6 b3 (by simp))];exact hI2'.c3
   ·rw [q01,if_neg (hd6 b5 (by simp))];exact hI2'.c5
  have hRs0:yro T r2 ([],r2):=⟨StepR.refl hp2,Nat.zero_le _,fun x hx=>(by cases hx),fun _ x hx=>(by cases hx)⟩
  refine LoopP.introS (fun _:List Rl×Rd=>[(2,.ptr b2 0),(3,.ptr b3 0),(4,.ptr bR 0),(5,.ptr b5 0),(6,.ptr b6 0)])
   (fun p S'=>(∃ u,PrJ S bR b2 b3 b5 b6 T v u nm l p S')/\yro T r2 p/\q3v T T.length p=q3v T T.length ([],r2)) (fun p=>T.length-p.2.at') ([],r2) ⟨⟨.nils,hJ0⟩,hRs0,rfl⟩ rfl ?_
  clear hJ0 hRs0 hI2';rintro ⟨rs,r3⟩ S3 ⟨⟨u,hJ⟩,hRs,hfr⟩ q2 hq2;have hp3:=hRs.st.pre hp2;have hin3:r3.at'<T.length:=hp3.inr;have hlr:=hRs.len;dsimp only at hlr;obtain ⟨k1,k2⟩:=y13 hT hp2 hRs;(try simp only [rwp,hwR,zA,zB,zC,zD,zE,zF,zG,zH,zI,xan]);refine (xi9 hT hp3).ca hJ.out.rd ?_;have hJ2:=hJ.mv hd (Ne.symm (hd6 bR (by simp))) kR (y0g T r3).2
  have o6:=objAt_some.2 hJ2.c6;have o5:=objAt_some.2 hJ2.out.c5;cases hok:(y0g T r3).1.2 with
  | true=>
   obtain ⟨k3',k4⟩:=k1 hok;have hfr2:q3v T T.length (rs++[(y0g T r3).1.1],(y0g T r3).2)=q3v T T.length ([],r2):=by
    rw [<- hfr];obtain ⟨m,hm⟩:∃ m,T.length=m+1:=⟨T.length-1,by omega⟩
    conv=>rhs;rw [hm,q3v,if_pos hok]
    exact y3b hT hp2 k3' (by dsimp only;omega) (by dsimp only;omega)
   have hmr:=hJ2.more hd6 k6 (y0g T r3).1.1 (by omega) (K:=fun S4=>rcW q2 [(2,.ptr b2 0),(3,.ptr b3 0),(4,.ptr bR 0),(5,.ptr b5 0),(6,.ptr b6 0)] S4) fun u' S4 hJ4=>q09 rfl (hq2 (rs++[(y0g T r3).1.1],(y0g T r3).2) S4 ⟨⟨u',hJ4⟩,k3',hfr2⟩ (by dsimp only;omega))
   simp only [q0o] at hmr;(try simp only [rwp,hwR,zA,zB,zC,zD,zE,zF,zG,zH,zI,q0o,q08 o6,q1e]);exact hmr
  | false=>
   have hstop:q3v T T.length (rs,r3)=(rs,(y0g T r3).2):=by
    obtain ⟨m,hm⟩:∃ m,T.length=m+1:=⟨T.length-1,by omega⟩
    rw [hm,q3v,if_neg (by rw [hok];simp)]
   rw [hstop] at hfr;rw [<- hfr] at hf2 hTs2 hmu;have hone:=hJ2.ins.one;have htp:=hJ2.typ hd hd6 hn (by omega) (q:=q) (le:=[(2,.ptr b2 0),(3,.ptr b3 0),(4,.ptr bR 0),(5,.ptr b5 0)]) fun v' S4 hI4=>hq (l++[⟨nm,rs⟩],(y0g T r3).2) S4 ⟨⟨v',hI4⟩,hTs2,hf2⟩ (by dsimp only at hmu ⊢;omega)
   dsimp only;(try simp only [rwp,hwR,zA,zB,zC,zD,zE,zF,zG,zH,zI,q0o,q08 o6,q08 o5,q1e]);exact htp
 | false=>
  rw [q8y hi,q0y hrd];have hstop:q2f T T.length (l,r)=(l,r):=by
   cases T.length with
   | zero=>rfl
   | succ m=>rw [q2f,if_neg (by rw [hi];simp)]
  rw [hstop] at hf;have ho:=q80 hrd;(try simp only [rwp,hwR,zA,zB,zC,zD,zE,zF,zG,zH,zI,q08 ho]);have fin:∀ S2,PrI S bR b2 b3 b5 T v (l,y40 T r) S2->yru (fun ae S'=>ae=.ret (.tup [scA (q70 T).1,(q70 T).2])/\S'=S) (.ptr b2 0) (.ptr b3 0) (.ptr bR 0) (.ptr b5 0) S2:=by
   intro S2 hI2;have hr2:=q80 hI2.rd;have o2:=objAt_some.2 hI2.c2;have o3:=objAt_some.2 hI2.c3;have o5:=objAt_some.2 hI2.c5;have hone:=hI2.lst.one;have hac:q0a v=[v]:=by cases v<;>first | rfl | cases hone
   unfold yru;(try simp only [rwp,hwR,zA,zB,zC,zD,zE,zF,zG,zH,zI,q08 hr2]);have hpt:q70 T=if (y40 T r).de=0 then (l,.agg [.int .i64 0,.int .i64 0,.int .i64 0]) else ([],.agg [.int .i64 (y40 T r).dl,.int .i64 (y40 T r).dc,.int .i64 (y40 T r).de]):=by
    rw [q70,<- hf]
   have nR2':b2≠bR:=Ne.symm nR2;have n32:=Ne.symm n23
   (refine q02 (fun hde=>?_) (fun hde=>?_)<;>(try simp only [hlc] at hde))
   ·rw [if_neg hde] at hpt;rw [hpt];(try simp only [rwp,hwR,zA,zB,zC,zD,zE,zF,zG,zH,zI,o2]);refine yb8 (by rw [q01,if_neg nR2']) ?_
    have o3':q0m (supd S2 b2 (.cells 24 [.nils] 1)) b3=some (82,[.int .i64 0,.int .i64 0,.int .i64 0],3):=by rw [q0j n32];exact o3
    (try simp only [rwp,hwR,zA,zB,zC,zD,zE,zF,zG,zH,zI,o3',if_neg n32,o3]);refine q6y S (.tup [scA [],.agg [.int .i64 (y40 T r).dl,.int .i64 (y40 T r).dc,.int .i64 (y40 T r).de]]) ((hI2.sub.supd hb2).supd k3) ?_ ⟨rfl,rfl⟩;(try simp only [rwp,hwR,zA,zB,zC,zD,zE,zF,zG,zH,zI,if_neg n23,if_neg n32]);exact .tu (.cons (.ag (.cons (.nils 2) .nil)) (.cons (.same _) .nil))
   ·rw [if_pos hde] at hpt;rw [hpt];have o3':∀ x,q0m (supd S2 b2 (.cells 24 [x] 1)) b3=some (82,[.int .i64 0,.int .i64 0,.int .i64 0],3):=fun x=>by rw [q0j n32];exact o3
    (try simp only [rwp,hwR,zA,zB,zC,zD,zE,zF,zG,zH,zI,q08 o5,o2,hac,o3',y06,hone,Bool.and_true,if_neg n32,o3]);refine q6y S (.tup [scA l,.agg [.int .i64 0,.int .i64 0,.int .i64 0]]) ((hI2.sub.supd hb2).supd k3) ?_ ⟨rfl,rfl⟩;(try simp only [rwp,hwR,zA,zB,zC,zD,zE,zF,zG,zH,zI,if_neg n23,if_neg n32]);have a2:=hI2.asd b2 (by simp)
    have a3:=hI2.asd b3 (by simp)
    exact .tu (.cons (.ag (.cons (Fr.lst ((hI2.lst.upd a2 _).upd a3 _)) .nil)) (.cons (.same _) .nil))
  cases a1:decide (r.de=0) with
  | false=>
   (try simp only [rwp,hwR,zA,zB,zC,zD,zE,zF,zG,zH,zI,yn4]);refine fin S1 ?_;have:y40 T r=r:=by rw [y40,if_neg (fun h=>by rw [decide_eq_true h.1] at a1;cases a1)]
   rw [this];exact hI
  | true=>
   have hde:=of_decide_eq_true a1;(try simp only [rwp,hwR,zA,zB,zC,zD,zE,zF,zG,zH,zI]);refine (q5b hT hp.inr).ca hrd ?_;rw [q0y hrd];(try simp only [rwp,hwR,zA,zB,zC,zD,zE,zF,zG,zH,zI,tkC]);cases a2:decide ((nxP T r).s=⟨#[]⟩) with
   | true=>
    (try simp only [rwp,hwR,zA,zB,zC,zD,zE,zF,zG,zH,zI,yn4]);refine fin S1 ?_;have:y40 T r=r:=by rw [y40,if_neg (fun h=>h.2 (of_decide_eq_true a2))]
    rw [this];exact hI
   | false=>
    (try simp only [rwp,hwR,zA,zB,zC,zD,zE,zF,zG,zH,zI,yn4]);refine (q5b hT hp.inr).ca hrd ?_;rw [q0y hrd];(try simp only [rwp,hwR,zA,zB,zC,zD,zE,zF,zG,zH,zI,tkC]);refine (y4c (nxP T r) 8).ca hrd ?_;have:y40 T r=q4r (nxP T r) 8 r:=by rw [y40,if_pos ⟨hde,of_decide_eq_false a2⟩]
    rw [<- this];exact fin _ (hI.mv hd kR _)
theorem yjd {s:ByteArray}:OkS (q4m s).1/\(s.size<=900->OkN (q4m s).1):=by
 unfold q4m;split
 ·exact ⟨⟨Nat.zero_le _,fun t ht=>(by cases ht)⟩,fun _ t ht=>(by cases ht)⟩
 ·rename_i h
  have hT:=yis (s:=s) (by omega)
  have hl:=q6s (f:=s.size+1) (l:=bl s) (a:=1) (b:=1);rw [q5e] at hl;obtain ⟨h1,h2⟩:=yjc hT (yck s);refine ⟨h1,fun h t ht r hr=>?_⟩
  have:=h2 t ht r hr;unfold ycl at this;omega
set_option maxRecDepth 4000
def yik (c:Int):List UInt8->Option (List UInt8×List UInt8)
 | []=>none
 | b :: r=>if (b.toNat:Int)=c then some ([],r) else (yik c r).map fun p=>(b :: p.1,p.2)
theorem ylt {c:Int} {b:UInt8} {r:List UInt8}:yik c (b :: r)=if (b.toNat:Int)=c then some ([],r) else (yik c r).map fun p=>(b :: p.1,p.2):=rfl
def y0e (s:ByteArray) (c:Int):ByteArray×ByteArray×Bool:=match yik c (bl s) with
 | none=>(s,⟨#[]⟩,false)
 | some (a,b)=>(mkB a,mkB b,true)
theorem yem {c:Int}:∀ {l a b:List UInt8},yik c l=some (a,b)->a.length<=l.length/\b.length<=l.length
 | [],_,_,h=>by cases h
 | x :: r,a,b,h=>by
  unfold yik at h;split at h
  ·cases h;exact ⟨Nat.zero_le _,by simp⟩
  ·cases hq:yik c r with
   | none=>rw [hq] at h;cases h
   | some p=>
    rw [hq] at h;cases h;obtain ⟨h1,h2⟩:=yem (a:=p.1) (b:=p.2) hq;simp only [lD];omega
theorem ykc (l:List UInt8):(mkB l).size=l.length:=by simp [mkB,ByteArray.size]
theorem q40 {s:ByteArray} {c:Int}:(y0e s c).1.size<=s.size/\(y0e s c).2.1.size<=s.size:=by
 unfold y0e;cases h:yik c (bl s) with
 | none=>exact ⟨Nat.le_refl _,Nat.zero_le _⟩
 | some p=>
  have:=yem (a:=p.1) (b:=p.2) h;rw [q5e] at this;exact ⟨by rw [ykc];exact this.1,by rw [ykc];exact this.2⟩
theorem yqf {s:ByteArray} (hs:s.size<=1125899906842624) (c:Int):AFun PG ytx [.str s,.int .u8 c] (.tup [.str (y0e s c).1,.str (y0e s c).2.1,.bool (y0e s c).2.2]):=by
 intro S;refine xfn ?_;unfold xcq;have hln:=q5e s;refine LoopP.introS (fun i:Nat=>[(0,.str s),(1,.int .u8 c),(7,.int .i64 i)]) (fun i S'=>S'=S/\i<=s.size/\yik c (bl s)=(yik c ((bl s).drop i)).map fun p=>((bl s).take i++p.1,p.2)) (fun i=>s.size-i) 0 ⟨rfl,by omega,by cases h:yik c (bl s)<;>simp [h]⟩ rfl ?_
 rintro i S' ⟨rfl,hi,hc⟩ r hr;(try simp only [rwp,zA,zB,zC,zD,zE,zF,zG,zH,zI,rwb,reduceIte,yw7])
 (refine q02 (fun hlt=>?_) (fun hlt=>?_)<;>(try simp only [hlc] at hlt))
 ·obtain ⟨b,hb⟩:=q4j hlt;have hb':=hb;rw [y9d] at hb';rw [q0i hb'] at hc;rw [ylt] at hc;(try simp only [rwp,zA,zB,zC,zD,zE,zF,zG,zH,zI,rwb,reduceIte,hb])
  (refine q02 (fun hq=>?_) (fun hq=>?_)<;>(try simp only [hlc] at hq))
  ·rw [if_pos hq] at hc
   (simp (disch:=omega) only [q05])
   (try simp only [rwp,zA,zB,zC,zD,zE,zF,zG,zH,zI,rwb,reduceIte,loI,hiI,yen]);refine ⟨by omega,by omega,by omega,by omega,by omega,y7l ⟨?_,rfl⟩⟩
   unfold y0e;rw [hc,q5u,q5u];simp only [Option.map_some,lU,List.drop_zero];rw [show ((i:Int)+1).toNat=i+1 by omega,lF (by omega:(bl s).length<=s.size)]
  ·rw [if_neg hq] at hc
   (simp (disch:=omega) only [q05])
   refine q09 rfl (hr (i+1) _ ⟨rfl,by omega,?_⟩ (by omega))
   rw [hc,q0t hb'];cases yik c ((bl s).drop (i+1))<;>simp
 ·have e:(bl s).drop i=[]:=List.drop_eq_nil_of_le (by omega)
  rw [e] at hc;refine y7l ⟨?_,rfl⟩;unfold y0e;rw [hc];rfl
abbrev nob:ByteArray:=⟨#[]⟩
def yoc (s:ByteArray):Ob×Bool:=if (y0e s 58).2.2&&(q0v (y0e s 58).1&&idB (y0e s 58).2.1) then (⟨(y0e s 58).1,(y0e s 58).2.1⟩,true) else (⟨nob,nob⟩,false)
def yx9 (s:ByteArray):Nd×Bool:=if (yoc (y0e s 35).1).2&&(!(y0e s 35).2.2||q0v (y0e s 35).2.1) then (⟨(yoc (y0e s 35).1).1,(y0e s 35).2.1⟩,true) else (⟨⟨nob,nob⟩,nob⟩,false)
def yo5 (s:ByteArray):Tu×Bool:=
 let x:=y0e s 64
 let y:=y0e x.1 35
 let o:=yoc y.1
 let w:=yx9 x.2.1
 if x.2.2&&(y.2.2&&(o.2&&(w.2&&q0v y.2.1))) then (⟨o.1,y.2.1,w.1⟩,true) else (⟨⟨nob,nob⟩,nob,⟨⟨nob,nob⟩,nob⟩⟩,false)
theorem yjo {s:ByteArray} (hs:s.size<=1125899906842624):OkO (yoc s).1:=by
 have h:=@q40 s 58;unfold yoc;split
 ·exact ⟨by dsimp only;omega,by dsimp only;omega⟩
 ·exact ⟨Nat.zero_le _,Nat.zero_le _⟩
theorem yx8 {s:ByteArray} (hs:s.size<=1125899906842624):OkD (yx9 s).1:=by
 have h:=@q40 s 35;unfold yx9;split
 ·exact ⟨yjo (by omega),by dsimp only;omega⟩
 ·exact ⟨⟨Nat.zero_le _,Nat.zero_le _⟩,Nat.zero_le _⟩
theorem yx1 {s:ByteArray} (hs:s.size<=1125899906842624):OkU (yo5 s).1:=by
 have h:=@q40 s 64;have h2:=@q40 (y0e s 64).1 35;unfold yo5;dsimp only;split
 ·exact ⟨yjo (by omega),by dsimp only;omega,yx8 (by omega)⟩
 ·exact ⟨⟨Nat.zero_le _,Nat.zero_le _⟩,Nat.zero_le _,⟨⟨Nat.zero_le _,Nat.zero_le _⟩,Nat.zero_le _⟩⟩
theorem yeu {s:ByteArray} (hs:s.size<=1125899906842624):AFun PG ytw [.str s] (.tup [.agg (obC (yoc s).1),.bool (yoc s).2]):=by
 intro S;refine xfm ?_;unfold xcp;intro b hb;have hl:=@q40 s 58;refine q06 (yqf hs 58) ?_;(try simp only [rwp,zA,zB,zC,zD,zE,zF,zG,zH,zI,rwb,reduceIte]);refine q06 (q0z (by omega)) ?_
 refine q06 (y4a (by omega)) ?_
 unfold yoc;cases h1:(y0e s 58).2.2<;>cases h2:q0v (y0e s 58).1<;>cases h3:idB (y0e s 58).2.1<;>(try simp only [rwp,zA,zB,zC,zD,zE,zF,zG,zH,zI,rwb,reduceIte,ynz,yny])<;>refine q1d S (Sub.supd hb (Sub.refl _)) ?_<;>(try simp only [rwp,zA,zB,zC,zD,zE,zF,zG,zH,zI,rwb,reduceIte,obC])<;>simp
theorem ym3 {s:ByteArray} (hs:s.size<=1125899906842624):AFun PG ytv [.str s] (.tup [.agg (ndC (yx9 s).1),.bool (yx9 s).2]):=by
 intro S;refine xfl ?_;unfold xco;intro b hb;have hl:=@q40 s 35;refine q06 (yqf hs 35) ?_;(try simp only [rwp,zA,zB,zC,zD,zE,zF,zG,zH,zI,rwb,reduceIte]);have q:=yeu (s:=(y0e s 35).1) (by omega)
 simp only [obC] at q;refine q06 q ?_;(try simp only [rwp,zA,zB,zC,zD,zE,zF,zG,zH,zI,rwb,reduceIte]);refine q06 (q0z (by omega)) ?_
 unfold yx9;cases h1:(yoc (y0e s 35).1).2<;>cases h2:(y0e s 35).2.2<;>cases h3:q0v (y0e s 35).2.1<;>(try simp only [rwp,zA,zB,zC,zD,zE,zF,zG,zH,zI,rwb,reduceIte,ynx,ynw,ynv])<;>refine q1d S (Sub.supd hb (Sub.refl _)) ?_<;>(try simp only [rwp,zA,zB,zC,zD,zE,zF,zG,zH,zI,rwb,reduceIte,ndC])<;>simp
theorem yzy {s:ByteArray} (hs:s.size<=1125899906842624):AFun PG x6d [.str s] (.tup [.agg (tuC (yo5 s).1),.bool (yo5 s).2]):=by
 intro S;refine xkm ?_;unfold xj4;intro b hb;have hl:=@q40 s 64;have hl2:=@q40 (y0e s 64).1 35;refine q06 (yqf hs 64) ?_;(try simp only [rwp,zA,zB,zC,zD,zE,zF,zG,zH,zI,rwb,reduceIte]);refine q06 (yqf (by omega) 35) ?_
 (try simp only [rwp,zA,zB,zC,zD,zE,zF,zG,zH,zI,rwb,reduceIte]);have q:=yeu (s:=(y0e (y0e s 64).1 35).1) (by omega)
 simp only [obC] at q;refine q06 q ?_;(try simp only [rwp,zA,zB,zC,zD,zE,zF,zG,zH,zI,rwb,reduceIte]);have q2:=ym3 (s:=(y0e s 64).2.1) (by omega)
 simp only [ndC] at q2;refine q06 q2 ?_;(try simp only [rwp,zA,zB,zC,zD,zE,zF,zG,zH,zI,rwb,reduceIte]);refine q06 (q0z (by omega)) ?_
 unfold yo5;dsimp only;cases h1:(y0e s 64).2.2<;>cases h2:(y0e (y0e s 64).1 35).2.2<;>cases h3:(yoc (y0e (y0e s 64).1 35).1).2<;>cases h4:(yx9 (y0e s 64).2.1).2<;>cases h5:q0v (y0e (y0e s 64).1 35).2.1<;>(try simp only [rwp,zA,zB,zC,zD,zE,zF,zG,zH,zI,rwb,reduceIte,x19,x18,x17,x16])<;>refine q1d S (Sub.supd hb (Sub.refl _)) ?_<;>(try simp only [rwp,zA,zB,zC,zD,zE,zF,zG,zH,zI,rwb,reduceIte,tuC])<;>simp
theorem yqg {l:List ByteArray} (hl:l.length<=1000000) (hs:∀ s∈l,s.size<=1125899906842624):AFun PG x75 [.sl 1 (l.map fun s=>[.str s])] (.sl 6 ((l.map fun s=>(yo5 s).1).map tuC)):=by
 intro S;refine xlh ?_;unfold xjy;refine LoopP.intro (fun x:Nat×AV×q00=>[(0,.sl 1 (l.map fun s=>[.str s])),(3,x.2.1),(4,.int .i64 x.1)]) (fun x=>x.2.2) (fun x=>x.1<=l.length/\Sub S x.2.2/\LstN S x.2.2 y73 6 x.2.1 (((l.take x.1).map fun s=>(yo5 s).1).map tuC)) (fun x=>l.length-x.1) (0,.nils,S) ⟨by omega,Sub.refl _,LstN.nil⟩ rfl (Sub.refl S) ?_
 rintro ⟨i,v,S'⟩ ⟨hi,hsu,hL⟩ r hr;dsimp only at hi hsu hL ⊢;(try simp only [rwp,zA,zB,zC,zD,zE,zF,zG,zH,zI,rwb,reduceIte,xam,lA])
 (refine q02 (fun hlt=>?_) (fun hlt=>?_)<;>(try simp only [hlc] at hlt))
 ·obtain ⟨s,hg⟩:=q0c hlt;(try simp only [rwp,zA,zB,zC,zD,zE,zF,zG,zH,zI,rwb,reduceIte,lC,hg]);have q:=yzy (hs s (lB hg));simp only [tuC] at q;refine q06 q ?_;(try simp only [rwp,zA,zB,zC,zD,zE,zF,zG,zH,zI,rwb,reduceIte]);have e:((l.take i).map fun s=>(yo5 s).1).length<=1000000:=by rw [lA,lR];omega
  refine hL.tu (t:=(yo5 s).1) hsu e fun v' S2 h1 h2=>?_
  (simp (disch:=omega) only [q05])
  refine q09 rfl (hr (i+1,v',S2) ⟨by dsimp only;omega,h1,?_⟩ (by dsimp only;omega))
  dsimp only;rw [q0t hg,lK];exact h2
 ·have e:l.take i=l:=lF (by omega)
  rw [e] at hL;exact q3o hsu hL ⟨rfl,rfl⟩
set_option maxRecDepth 20000
def x0t:ByteArray:=⟨#[117,115,101,114]⟩
def b1':ByteArray:=⟨#[49]⟩
def bA:ByteArray:=⟨#[97]⟩
def oA:Ob:=⟨x0t,bA⟩
set_option maxRecDepth 20000
def x2o:ByteArray:=⟨#[116,121,112,101,32,117,115,101,114,32,116,121,112,101,32,100,111,99,32,114,101,108,97,116,105,111,110,32,111,119,110,101,114,58,32,117,115,101,114,32,114,101,108,97,116,105,111,110,32,110,111,58,32,117,115,101,114,32,100,101,102,105,110,101,32,99,97,110,58,32,111,119,110,101,114,32,45,32,110,111]⟩
def x9h:ByteArray:=⟨#[100,111,99]⟩
def q5f:ByteArray:=⟨#[111,119,110,101,114]⟩
def bNo:ByteArray:=⟨#[110,111]⟩
def xic:ByteArray:=⟨#[99,97,110]⟩
def bB:ByteArray:=⟨#[98]⟩
def yf0:ByteArray:=⟨#[110,111,116,104,105,110,103]⟩
def y59:List Ty:=(q4m x2o).1
def tu1:ByteArray:=⟨#[100,111,99,58,49,35,111,119,110,101,114,64,117,115,101,114,58,97]⟩
def tu2:ByteArray:=⟨#[100,111,99,58,49,35,111,119,110,101,114,64,117,115,101,114,58,98]⟩
def tu3:ByteArray:=⟨#[100,111,99,58,49,35,110,111,64,117,115,101,114,58,98]⟩
def yb2:Ob:=⟨x9h,b1'⟩
def oB:Ob:=⟨x0t,bB⟩
def yym:Nd:=⟨yb2,xic⟩
def l14:List Tu:=[⟨yb2,q5f,⟨oA,⟨#[]⟩⟩⟩,⟨yb2,q5f,⟨oB,⟨#[]⟩⟩⟩,⟨yb2,bNo,⟨oB,⟨#[]⟩⟩⟩]
theorem xlz:(q4m x2o).2=.agg [.int .i64 0,.int .i64 0,.int .i64 0]:=by kernel_rfl
theorem t14:([tu1,tu2,tu3].map fun s=>(yo5 s).1)=l14:=by kernel_rfl
theorem ok14:OkS y59/\OkN y59:=by
 have h:=yjd (s:=x2o);exact ⟨h.1,h.2 (by decide)⟩
theorem yyd:OkL l14:=by
 rw [<- t14];refine ⟨by decide,fun t ht=>?_⟩
 obtain ⟨s,hs,rfl⟩:=List.mem_map.1 ht;refine yx1 ?_;simp only [lN,List.not_mem_nil,or_false] at hs;rcases hs with rfl | rfl | rfl<;>decide
theorem e14:y0a (y08 y59)=0:=by kernel_rfl
theorem c14:q0l y59 l14=l14:=by kernel_rfl
theorem xm4:q0h y59 x9h yf0=none:=by kernel_rfl
theorem y5t {s:List Ty} {l:List Tu} {who:Ob} (hc:y0a (y08 s)=0) {n:Nd} {i k:Nat} {r:Rl} (hf:q0h s n.o.ty n.rl=some (i,k,r)):inB (y0l s l who) n=q1n (y0l s l who) (inB (y0l s l who)) n r:=by
 have hE:=y1w s l who;obtain ⟨K,hK⟩:=x7q hE hc (T:=(q0l s l).map fun t=>t.o) fun n x hx=>by
  obtain ⟨t,ht,rfl⟩:=List.mem_map.1 hx;unfold ofF at ht;simp only [List.mem_filter,Bool.and_eq_true,decide_eq_true_eq] at ht;exact List.mem_map.2 ⟨t,ht.1,ht.2.1⟩
 have e:(fun c=>decide (c∈K))=inB (y0l s l who):=by
  funext c
  exact y8f hE hc hK c
 have:=yz5 hE hc hK (n:=n) hf;rw [e] at this;rw [<- y8f hE hc hK,this]
theorem yq1 {s:List Ty} {l:List Tu} {who:Ob} (hc:y0a (y08 s)=0) {n:Nd} (h:q0h s n.o.ty n.rl=none):inB (y0l s l who) n=false:=by
 unfold inB;refine (@decide_eq_false_iff_not _ (Classical.propDecidable _)).2 ?_;rintro ⟨K,hK,hn⟩;exact hK.none h hn
def rfU:Rf:=⟨x0t,⟨#[]⟩⟩
def zr:ByteArray:=⟨#[]⟩
theorem xm3:q0h y59 x9h q5f=some (1,0,⟨q5f,[rfU],q95⟩):=by kernel_rfl
theorem xm5:q0h y59 x9h bNo=some (1,1,⟨bNo,[rfU],q95⟩):=by kernel_rfl
theorem xm6:q0h y59 x9h xic=some (1,2,⟨xic,[],.mk 4 zr zr [.mk 0 q5f zr [],.mk 0 bNo zr []]⟩):=by kernel_rfl
theorem x61 (who:Ob):inB (y0l y59 l14 who) ⟨yb2,q5f⟩=(decide (oA=who)||(decide (oB=who)||false)):=(y5t e14 xm3).trans (by kernel_rfl)
theorem xio (who:Ob):inB (y0l y59 l14 who) ⟨yb2,bNo⟩=(decide (oB=who)||false):=(y5t e14 xm5).trans (by kernel_rfl)
theorem x8w (who:Ob):inB (y0l y59 l14 who) yym=(inB (y0l y59 l14 who) ⟨yb2,q5f⟩&&!inB (y0l y59 l14 who) ⟨yb2,bNo⟩):=(y5t e14 xm6).trans (by kernel_rfl)
theorem xip:inB (y0l y59 l14 oA) yym=true:=by rw [x8w,x61,xio];kernel_rfl
theorem xm1:inB (y0l y59 l14 oB) yym=false:=by rw [x8w,x61,xio];kernel_rfl
theorem o14:y81 y59 l14 (q0l y59 l14) yym=[oA]:=by
 rw [c14];unfold y81;rw [show l14=[⟨yb2,q5f,⟨oA,⟨#[]⟩⟩⟩,⟨yb2,q5f,⟨oB,⟨#[]⟩⟩⟩,⟨yb2,bNo,⟨oB,⟨#[]⟩⟩⟩] from rfl]
 have ia:=xip;have ib:=xm1;rw [show l14=[⟨yb2,q5f,⟨oA,⟨#[]⟩⟩⟩,⟨yb2,q5f,⟨oB,⟨#[]⟩⟩⟩,⟨yb2,bNo,⟨oB,⟨#[]⟩⟩⟩] from rfl] at ia ib
 simp [ia,ib]
theorem m14:ygx y59 l14 yym=[oA]:=by
 unfold ygx;rw [if_pos e14,o14];rfl
theorem ym2:AFun PG x7g [] (.bool true):=by
 intro S;refine xls ?_;unfold xk9;have r1:=x00 x2o;rw [xlz,show (q4m x2o).1=y59 from rfl] at r1
 have r2:=yqg (l:=[tu1,tu2,tu3]) (by decide) (fun s hs=>by
  simp only [lN,List.not_mem_nil,or_false] at hs;rcases hs with rfl | rfl | rfl<;>decide)
 rw [t14] at r2;have q1:=y4b x5o ok14.1 ok14.2 yyd (by decide) yym (fun _=>by rw [o14];decide)
 rw [m14] at q1;have q2:=y6p ok14.1 ok14.2 yyd (by decide) yym oA
 rw [xip,decide_eq_true e14] at q2;have q3:=y6p ok14.1 ok14.2 yyd (by decide) ⟨yb2,yf0⟩ oA
 rw [yq1 e14 xm4] at q3;simp only [scA] at r1 q1 q2 q3;refine q06 r1 ?_;(try simp only [rwp,zA,zB,zC,zD,zE,zF,zG,zH,zI,rwb,reduceIte]);intro b3 hb3 b4 hb4;obtain ⟨d43,hb4'⟩:=yij hb4;(try simp only [rwp,zA,zB,zC,zD,zE,zF,zG,zH,zI,rwb,reduceIte,d43,Ne.symm d43]);refine q06 r2 ?_;(try simp only [rwp,zA,zB,zC,zD,zE,zF,zG,zH,zI,rwb,reduceIte]);refine q06 q1 ?_;generalize hS4:y0d _ b3=S4;have s4:Sub S S4:=by
  rw [<- hS4];intro a o ha;have e3:=q0p hb3 ha;have e4:=q0p hb4' ha;simp only [q0b,q01,if_neg e3,if_neg e4];exact ha
 rw [show AV.sl 2 (List.map obC [oA])=.sl 2 [[.str ⟨#[117,115,101,114]⟩,.str ⟨#[97]⟩]] from rfl]
 (try simp only [rwp,zA,zB,zC,zD,zE,zF,zG,zH,zI,rwb,reduceIte,lD,lJ,lZ,q1h,q2j,eqs,q0x,y63,q19,decide_eq_true_eq]);rw [decide_eq_true (show ((1:Nat):Int)=1 from rfl)]
 (try simp only [rwp,zA,zB,zC,zD,zE,zF,zG,zH,zI,rwb,reduceIte,x1z,lZ]);refine q06 q2 ?_;rw [show (true&&true)=true from rfl]
 (try simp only [rwp,zA,zB,zC,zD,zE,zF,zG,zH,zI,rwb,reduceIte,x1y,lZ]);refine q06 q3 ?_;rw [Bool.and_false];(try simp only [rwp,zA,zB,zC,zD,zE,zF,zG,zH,zI,rwb,reduceIte]);exact q7z s4 ⟨rfl,rfl⟩
set_option maxRecDepth 4000
theorem yj0 {s:List Ty} {l:List Tu} (h:y79 s l=true) (hl:∀ t∈l,OkU t):OkN s/\OkL l/\l.length<=30:=by
 unfold y79 at h;rw [Bool.and_eq_true,decide_eq_true_eq] at h;exact ⟨xi5 h.1 (by decide),⟨by omega,hl⟩,by omega⟩
set_option maxRecDepth 4000
def q49 (L:List Tu):List Ob:=(L.filter fun t=>decide (t.s.rl=⟨#[]⟩)).map fun t=>t.s.o
theorem yb0 {L:List Tu} {i:Nat} {t:Tu} (h:L[i]?=some t):q49 (L.take (i+1))=q49 (L.take i)++if decide (t.s.rl=⟨#[]⟩)=true then [t.s.o] else []:=by
 unfold q49;rw [q1v h,lK]
 congr 1
 cases decide (t.s.rl=⟨#[]⟩)<;>rfl
theorem q82 {L:List Tu}:(q49 L).length<=L.length:=by
 unfold q49;rw [lA];exact lS _ _
theorem yzz {L:List Tu} (hL:L.length<=1000):AFun PG x6r [.sl 6 (L.map tuC)] (.sl 2 ((y2m ltO (q49 L)).map obC)):=by
 intro S;refine xl1 ?_;unfold xjj;refine LoopP.introS (fun x:Nat×AV=>[(0,.sl 6 (L.map tuC)),(3,x.2),(4,.int .i64 x.1)]) (fun x S'=>x.1<=L.length/\Sub S S'/\LstW S S' y0c 2 x.2 ((q49 (L.take x.1)).map obC)) (fun x=>L.length-x.1) (0,.nils)
  ⟨by dsimp only;omega,Sub.refl _,LstW.nil⟩ rfl ?_
 rintro ⟨i,ov⟩ S1 ⟨hi,s1,o1⟩ kk hkk;dsimp only at hi o1 ⊢;(try simp only [rwp,zA,zB,zC,zD,zE,zF,zG,zH,zI,rwb,reduceIte,xa7,lA]);cases a1:decide ((i:Int)<L.length)
 ·have e:i=L.length:=by have:=of_decide_eq_false a1;omega
  subst e;rw [List.take_length] at o1;(try simp only [rwp,zA,zB,zC,zD,zE,zF,zG,zH,zI,rwb,reduceIte]);have q:=yqi (M:=q49 L) (Nat.le_trans q82 hL) S;refine q0k (ACalls.frz (FrS.sub s1) (.cons (Fr.lst14 o1) .nil) q) ?_;rintro ae S2 ⟨rfl,rfl⟩;dsimp only;exact q04 ⟨rfl,rfl⟩
 ·have hlt:=of_decide_eq_true a1;obtain ⟨t,ht⟩:=q0c hlt;have hot:=yb0 ht;have:=@q82 (L.take i);have:=List.length_take_le i L;(try simp only [rwp,zA,zB,zC,zD,zE,zF,zG,zH,zI,rwb,reduceIte,lC,ht,tuC]);cases a2:decide (t.s.rl=⟨#[]⟩)
  ·rw [a2] at hot;(try simp only [rwp,zA,zB,zC,zD,zE,zF,zG,zH,zI,rwb,reduceIte]);(try (simp (disch:=omega) only [q05]));rw [show (i:Int)+1=((i+1:Nat):Int) by omega]
   exact q09 rfl (hkk (i+1,ov) _ ⟨by dsimp only;omega,s1,by dsimp only;rw [hot];simpa using o1⟩ (by dsimp only;omega))
  ·rw [a2] at hot;(try simp only [rwp,zA,zB,zC,zD,zE,zF,zG,zH,zI,rwb,reduceIte,lC,ht,tuC]);refine LstW.appL s1 o1 (xs:=[obC t.s.o]) yc8 (fun r hr=>by rw [List.mem_singleton.1 hr];rfl) (q2q fun r hr=>by rw [List.mem_singleton.1 hr];rfl) (by simp only [lA,lP];omega) fun v' S4 s4 o4 j4=>?_
   (try (simp (disch:=omega) only [q05]));rw [show (i:Int)+1=((i+1:Nat):Int) by omega]
   exact q09 rfl (hkk (i+1,v') _ ⟨by dsimp only;omega,s4,by dsimp only;rw [hot];simpa using o4⟩ (by dsimp only;omega))
theorem yhv {s:List Ty} (hs:OkS s) (hN:OkN s) {l:List Tu} (hl:OkL l) (hn:l.length<=500) (n:Nd) (who:Ob) :
  AFun PG yyi [scA s,.sl 6 (l.map tuC),.agg (obC n.o),.str n.rl,.agg (obC who)] (.bool (decide (y0a (y08 s)=0)&&inB (y0l s l who) n)):=by
 intro S;refine (ym4 hs hN hl hn n who S).mono ?_;rintro ae S' ⟨b,rfl,rfl,h0,hM⟩;refine ⟨?_,rfl⟩;by_cases hk:y0a (y08 s)=0
 ·obtain ⟨K,hK,hb⟩:=hM hk;rw [decide_eq_true hk,Bool.true_and,hb,y8f (y1w s l who) hk hK]
 ·rw [decide_eq_false hk,Bool.false_and,h0 hk]
theorem ybi {α:Type} {p:α->Bool} {l:List α} {i:Nat} {x:α} (h:l[i]?=some x):(l.take (i+1)).filter p=(l.take i).filter p++if p x=true then [x] else []:=q1v h
theorem yc3 {s:List Ty} (hs:OkS s) (hN:OkN s) {l:List Tu} (hl:OkL l) (hn:l.length<=500) (n:Nd) :
  AFun PG x7c [scA s,.sl 6 (l.map tuC),.agg (obC n.o),.str n.rl] (.sl 2 ((ygx s l n).map obC)):=by
 intro S;refine xlo ?_;unfold xk5;have q1:=q66 hs hl;have cn:(q0l s l).length<=500:=Nat.le_trans (lS _ _) hn;have q2:=yzz (L:=q0l s l) (by omega)
 obtain ⟨p1,p2,p3⟩:=q7v stO (q49 (q0l s l)) _ rfl;have hPl:(y2m ltO (q49 (q0l s l))).length<=500:=Nat.le_trans p3 (Nat.le_trans q82 cn);have hm:ygx s l n=(y2m ltO (q49 (q0l s l))).filter fun x=>decide (y0a (y08 s)=0)&&inB (y0l s l x) n:=by
  unfold ygx;by_cases hk:y0a (y08 s)=0
  ·rw [if_pos hk,decide_eq_true hk];obtain ⟨k1,k2,-⟩:=q7v stO (y81 s l (q0l s l) n) _ rfl;refine Asc.uniq stO k1 (List.Pairwise.filter _ p1) fun x=>?_
   rw [k2,List.mem_filter,p2];unfold y81 q49;simp only [List.mem_map,List.mem_filter,Bool.and_eq_true,Bool.true_and];constructor
   ·rintro ⟨t,⟨h1,h2,h3⟩,rfl⟩;exact ⟨⟨t,⟨h1,h2⟩,rfl⟩,h3⟩
   ·rintro ⟨⟨t,⟨h1,h2⟩,rfl⟩,h3⟩;exact ⟨t,⟨h1,h2,h3⟩,rfl⟩
  ·rw [if_neg hk,decide_eq_false hk];simp
 rw [hm];generalize y2m ltO (q49 (q0l s l))=P at q2 hPl;simp only [scA] at q1;(try simp only [rwp,zA,zB,zC,zD,zE,zF,zG,zH,zI,rwb,reduceIte,scA,obC]);refine q06 q1 ?_;refine q06 q2 ?_;generalize hp:(fun x=>decide (y0a (y08 s)=0)&&inB (y0l s l x) n)=p
 refine LoopP.introS (fun x:Nat×AV=>[(1,.sl 6 (l.map tuC)),(3,.str n.rl),(4,.rop [.sl 2 (s.map tyC)]),(6,.rop [.str n.o.ty,.str n.o.id]),(9,x.2),(10,.sl 2 (P.map obC)),(11,.int .i64 x.1)])
  (fun x S'=>x.1<=P.length/\Sub S S'/\LstW S S' y0c 2 x.2 (((P.take x.1).filter p).map obC)) (fun x=>P.length-x.1) (0,.nils) ⟨by dsimp only;omega,Sub.refl _,LstW.nil⟩ rfl ?_
 rintro ⟨i,ov⟩ S1 ⟨hi,s1,o1⟩ kk hkk;dsimp only at hi o1 ⊢;(try simp only [rwp,zA,zB,zC,zD,zE,zF,zG,zH,zI,rwb,reduceIte,xaq,lA]);cases a1:decide ((i:Int)<P.length)
 ·have e:i=P.length:=by have:=of_decide_eq_false a1;omega
  subst e;rw [List.take_length] at o1;(try simp only [rwp,zA,zB,zC,zD,zE,zF,zG,zH,zI,rwb,reduceIte]);exact q6y S _ s1 (Fr.lst14 o1) ⟨rfl,rfl⟩
 ·have hlt:=of_decide_eq_true a1;obtain ⟨x,hx⟩:=q0c hlt;have hot:=ybi (p:=p) hx;have hfl:=lS p (P.take i);have:=List.length_take_le i P;have q3:=yhv hs hN hl hn n x;simp only [scA,obC] at q3;rw [show (decide (y0a (y08 s)=0)&&inB (y0l s l x) n)=p x by rw [<- hp]] at q3
  (try simp only [rwp,zA,zB,zC,zD,zE,zF,zG,zH,zI,rwb,reduceIte,lC,hx,obC]);refine q06 q3 ?_;cases a2:p x
  ·rw [a2] at hot;(try simp only [rwp,zA,zB,zC,zD,zE,zF,zG,zH,zI,rwb,reduceIte]);(try (simp (disch:=omega) only [q05]));rw [show (i:Int)+1=((i+1:Nat):Int) by omega]
   exact q09 rfl (hkk (i+1,ov) _ ⟨by dsimp only;omega,s1,by dsimp only;rw [hot];simpa using o1⟩ (by dsimp only;omega))
  ·rw [a2] at hot;(try simp only [rwp,zA,zB,zC,zD,zE,zF,zG,zH,zI,rwb,reduceIte,lC,hx,obC]);refine LstW.appL s1 o1 (xs:=[obC x]) yc8 (fun r hr=>by rw [List.mem_singleton.1 hr];rfl) (q2q fun r hr=>by rw [List.mem_singleton.1 hr];rfl) (by simp only [lA,lP];omega) fun v' S4 s4 o4 j4=>?_
   (try (simp (disch:=omega) only [q05]));rw [show (i:Int)+1=((i+1:Nat):Int) by omega]
   exact q09 rfl (hkk (i+1,v') _ ⟨by dsimp only;omega,s4,by dsimp only;rw [hot];simpa using o4⟩ (by dsimp only;omega))
theorem y6q {M:List Ob} (hM:M.length<=100000):AFun PG x7d [.sl 2 (M.map obC),.sl 2 (M.map obC)] (.bool true):=by
 intro S;refine xlp ?_;unfold xk6;(try simp only [rwp,zA,zB,zC,zD,zE,zF,zG,zH,zI,rwb,reduceIte,lA]);refine LoopP.introS (fun i:Nat=>[(0,.sl 2 (M.map obC)),(1,.sl 2 (M.map obC)),(5,.int .i64 i)]) (fun i S'=>S'=S/\i<=M.length) (fun i=>M.length-i) 0 ⟨rfl,by omega⟩ rfl ?_
 rintro i S' ⟨rfl,hi⟩ kk hkk;(try simp only [rwp,zA,zB,zC,zD,zE,zF,zG,zH,zI,rwb,reduceIte,xar,lA]);cases a1:decide ((i:Int)<M.length)
 ·(try simp only [rwp,zA,zB,zC,zD,zE,zF,zG,zH,zI,rwb,reduceIte]);exact q04 ⟨rfl,rfl⟩
 ·have hlt:=of_decide_eq_true a1;obtain ⟨x,hx⟩:=q0c hlt;(try simp only [rwp,zA,zB,zC,zD,zE,zF,zG,zH,zI,rwb,reduceIte,lC,hx,obC,decide_true]);(try (simp (disch:=omega) only [q05]));rw [show (i:Int)+1=((i+1:Nat):Int) by omega]
  exact q09 rfl (hkk (i+1) _ ⟨rfl,by omega⟩ (by omega))
theorem ypq {s:List Ty} {l:List Tu} {n:Nd}:(ygx s l n).length<=l.length:=by
 unfold ygx;split
 ·obtain ⟨-,-,h⟩:=q7v stO (y81 s l (q0l s l) n) _ rfl;exact Nat.le_trans h (Nat.le_trans q9j (lS _ _))
 ·exact Nat.zero_le _
theorem ypp {s:List Ty} {l:List Tu} {n:Nd} {x:Ob} (h:x∈ygx s l n):y0a (y08 s)=0/\inB (y0l s l x) n=true/\∃ t∈l,t.s.rl=⟨#[]⟩/\t.s.o=x:=by
 unfold ygx at h;split at h
 ·rename_i hk
  obtain ⟨-,k2,-⟩:=q7v stO (y81 s l (q0l s l) n) _ rfl;rw [k2] at h;unfold y81 at h;obtain ⟨t,ht,rfl⟩:=List.mem_map.1 h;rw [List.mem_filter,Bool.and_eq_true,decide_eq_true_eq] at ht;exact ⟨hk,ht.2.2,t,(List.mem_filter.1 ht.1).1,ht.2.1,rfl⟩
 ·cases h
theorem c_GraphMembers {s:List Ty} (hs:OkS s) {l:List Tu} (hl:∀ t∈l,OkU t) (o:Ob) (rl:ByteArray) :
  AFun PG xin [scA s,.sl 6 (l.map tuC),.agg (obC o),.str rl] (.bool true):=by
 intro S;refine wx6 ?_;unfold Bx6;(try simp only [rwp,zA,zB,zC,zD,zE,zF,zG,zH,zI,rwb,reduceIte,scA,obC]);refine q06 ym2 ?_;(try simp only [rwp,zA,zB,zC,zD,zE,zF,zG,zH,zI,rwb,reduceIte]);have q:=y6o hs l;simp only [scA] at q;refine q06 q ?_;cases hsm:y79 s l
 ·(try simp only [rwp,zA,zB,zC,zD,zE,zF,zG,zH,zI,rwb,reduceIte,xdp]);exact q04 ⟨rfl,rfl⟩
 ·obtain ⟨hN,hL,hn⟩:=yj0 hsm hl;have hcn:(q0l s l).length<=l.length:=lS _ _;have q1:=y4b yxd hs hN hL (by omega:l.length<=500) ⟨o,rl⟩ (fun _=>Nat.le_trans q9j (by omega))
  have q2:=yc3 hs hN hL (by omega:l.length<=500) ⟨o,rl⟩
  have hlm:=@ypq s l ⟨o,rl⟩;have hmm:∀ x∈ygx s l ⟨o,rl⟩,_:=fun x hx=>ypp hx
  have hH:=fun x=>y6p hs hN hL (by omega:l.length<=500) ⟨o,rl⟩ x
  simp only [scA,obC] at q1 q2 hH;(try simp only [rwp,zA,zB,zC,zD,zE,zF,zG,zH,zI,rwb,reduceIte,xdp]);generalize hgM:ygx s l ⟨o,rl⟩=M at q1 q2 hlm hmm;refine q06 q1 ?_;(try simp only [rwp,zA,zB,zC,zD,zE,zF,zG,zH,zI,rwb,reduceIte]);refine q06 q2 ?_;refine q06 (y6q (by omega)) ?_
  refine LoopP.introS (fun i:Nat=>[(1,.sl 6 (l.map tuC)),(3,.str rl),(4,.rop [.sl 2 (s.map tyC)]),(6,.rop [.str o.ty,.str o.id]),(11,.sl 2 (M.map obC)),(12,.bool true),(13,.int .i64 i)]) (fun i S'=>S'=S/\i<=M.length) (fun i=>M.length-i) 0 ⟨rfl,by omega⟩ rfl ?_
  rintro i S' ⟨rfl,hi⟩ kk hkk;(try simp only [rwp,zA,zB,zC,zD,zE,zF,zG,zH,zI,rwb,reduceIte,xit,lA]);cases a1:decide ((i:Int)<M.length)
  ·(try simp only [rwp,zA,zB,zC,zD,zE,zF,zG,zH,zI,rwb,reduceIte]);exact q04 ⟨rfl,rfl⟩
  ·have hlt:=of_decide_eq_true a1;obtain ⟨x,hx⟩:=q0c hlt;obtain ⟨hk,hin,t,htl,htr,hto⟩:=hmm x (lB hx);(try simp only [rwp,zA,zB,zC,zD,zE,zF,zG,zH,zI,rwb,reduceIte]);generalize hp:(fun t:Tu=>decide (t.s.rl=⟨#[]⟩)&&(decide (t.s.o.ty=x.ty)&&decide (t.s.o.id=x.id)))=p
   have hany:l.any p=true:=List.any_eq_true.2 ⟨t,htl,by rw [<- hp];simp [htr,hto]⟩
   refine LoopP.introS (fun k:Nat=>[(1,.sl 6 (l.map tuC)),(3,.str rl),(4,.rop [.sl 2 (s.map tyC)]),(6,.rop [.str o.ty,.str o.id]),(11,.sl 2 (M.map obC)),(12,.bool true),(13,.int .i64 i),(14,.bool ((l.take k).any p)),(15,.int .i64 k)]) (fun k S2=>S2=S'/\k<=l.length) (fun k=>l.length-k) 0 ⟨rfl,by omega⟩ (by simp) ?_
   rintro k S2 ⟨rfl,hkl⟩ kk2 hkk2;(try simp only [rwp,zA,zB,zC,zD,zE,zF,zG,zH,zI,rwb,reduceIte,xis,lA]);cases a2:decide ((k:Int)<l.length)
   ·have e:k=l.length:=by have:=of_decide_eq_false a2;omega
    subst e;rw [List.take_length,hany];have q3:=hH x;rw [hin,decide_eq_true hk] at q3;(try simp only [rwp,zA,zB,zC,zD,zE,zF,zG,zH,zI,rwb,reduceIte,lC,hx,obC]);refine q06 q3 ?_;rw [show (true&&true)=true from rfl]
    (try simp only [rwp,zA,zB,zC,zD,zE,zF,zG,zH,zI,rwb,reduceIte,xif]);(try (simp (disch:=omega) only [q05]));rw [show (i:Int)+1=((i+1:Nat):Int) by omega]
    exact q09 rfl (hkk (i+1) _ ⟨rfl,by omega⟩ (by omega))
   ·have hltk:=of_decide_eq_true a2;obtain ⟨u,hu⟩:=q0c hltk;have hnx:(l.take (k+1)).any p=((l.take k).any p||p u):=by rw [q0t hu,List.any_append];simp
    have hpu:p u=(decide (u.s.rl=⟨#[]⟩)&&(decide (u.s.o.ty=x.ty)&&decide (u.s.o.id=x.id))):=by rw [<- hp]
    have next:∀ b:Bool,b=(l.take (k+1)).any p->rcW kk2 [(1,.sl 6 (l.map tuC)),(3,.str rl),(4,.rop [.sl 2 (s.map tyC)]),(6,.rop [.str o.ty,.str o.id]),(11,.sl 2 (M.map obC)),(12,.bool true),(13,.int .i64 i),(14,.bool b),(15,.int .i64 ((k:Int)+1))] S2:=by
     rintro b rfl;rw [show (k:Int)+1=((k+1:Nat):Int) by omega]
     exact q09 rfl (hkk2 (k+1) _ ⟨rfl,by omega⟩ (by omega))
    rw [hpu] at hnx;cases a3:(l.take k).any p
    ·rw [a3] at hnx;(try simp only [rwp,zA,zB,zC,zD,zE,zF,zG,zH,zI,rwb,reduceIte,lC,hu,tuC]);cases a4:decide (u.s.rl=⟨#[]⟩)
     ·rw [a4] at hnx;(try simp only [rwp,zA,zB,zC,zD,zE,zF,zG,zH,zI,rwb,reduceIte,xa1,xa0]);(try (simp (disch:=omega) only [q05]));exact next _ (by rw [hnx];rfl)
     ·rw [a4] at hnx;(try simp only [rwp,zA,zB,zC,zD,zE,zF,zG,zH,zI,rwb,reduceIte,xa1,lC,hu,tuC,hx,obC,xa0]);(try (simp (disch:=omega) only [q05]));exact next _ (by rw [hnx];simp)
    ·rw [a3] at hnx;(try simp only [rwp,zA,zB,zC,zD,zE,zF,zG,zH,zI,rwb,reduceIte,xa1,xa0]);(try (simp (disch:=omega) only [q05]));exact next _ (by rw [hnx];rfl)
end Go.HL
