/- A part of a proof. -/
import Derived.Test.YtadmdlpmikoghaaGreatKmHlL
set_option linter.unusedSimpArgs false
set_option linter.unusedVariables false
namespace Go.HL
structure KE {κ:Type} (M:Bool×List EK) (enc:κ→AV):Prop where
 ok:∀ k,q0m M (enc k)=true
 inj:∀ k k',enc k=enc k'→k=k'
def KMap {κ:Type} (M:Bool×List EK) (enc:κ→AV) (S:q00) (b:Nat) (f:κ→Option AV):Prop:=
 ∃ es clk,q1z S b=some (M,es,clk)∧keysOk M es∧∀ k,mget es (enc k)=f k
section
variable {κ:Type} {M:Bool×List EK} {enc:κ→AV} {S:q00} {b:Nat} {f:κ→Option AV} {ok:Bool} {z v:AV} {K:AV→Prop} {KT:q00→Prop} {KS:AV→q00→Prop}
theorem KMap.lk (h:KMap M enc S b f) (he:KE M enc) (k:κ):lkW S M ok z (.map (some b)) (enc k) K=K (q28 ok z (f k)):=by
 obtain ⟨es,clk,h1,h2,h3⟩:=h
 rw [lkW_map,h1,lmW_some,h3]
 simp [he.ok]
open Classical in
theorem KMap.mu (h:KMap M enc S b f) (he:KE M enc) (k:κ) (hK:∀ es clk,KMap M enc (supd S b (.map M es clk)) b (fun k'=>if k'=k then some v else f k')→KT (supd S b (.map M es clk))):muW S M (.map (some b)) (enc k) v KT:=by
 obtain ⟨es,clk,h1,h2,h3⟩:=h
 rw [muW_map,h1,q6l]
 refine ⟨rfl,he.ok k,hK _ _ ⟨(mset es (enc k) v clk).1,(mset es (enc k) v clk).2,by rw [mapObj_supd_map,if_pos rfl],?_,fun k'=>?_⟩⟩
 ·rw [q3g]
  exact q5y (he.ok k) _ _ h2
 ·rw [q3g,q6n (he.ok k) _ _ h2 (he.ok k'),h3]
  by_cases hk:k'=k
  ·subst hk;simp
  ·rw [if_neg fun h=>hk (he.inj _ _ h)];simp only [if_neg hk]
theorem KMap.mm (hK:∀ b,sget S b=none→KMap M enc (supd S b (.map M [] 0)) b (fun _=>none)→KS (.map (some b)) (supd S b (.map M [] 0))):mmW S M KS:=fun b hb=>
 hK b hb ⟨[],0,by rw [mapObj_supd_map,if_pos rfl],fun x hx=>by (cases hx),fun k=>q8t⟩
theorem KMap.upd (h:KMap M enc S b f) {c:Nat} (hc:c≠b) (o:AObj):KMap M enc (supd S c o) b f:=by
 obtain ⟨es,clk,h1,h2,h3⟩:=h
 refine ⟨es,clk,?_,h2,h3⟩
 have:=mapObj_some.1 h1
 exact mapObj_some.2 (by rw [q01,if_neg hc];exact this)
theorem KMap.is (h:KMap M enc S b f):sget S b≠none:=by
 obtain ⟨es,clk,h1,-⟩:=h
 rw [mapObj_some.1 h1]
 simp
theorem KMap.fresh (h:KMap M enc S b f) {c:Nat} (hc:sget S c=none) (o:AObj):KMap M enc (supd S c o) b f:=h.upd (fun e=>h.is (e ▸ hc)) o
theorem KMap.sub {S':q00} (h:KMap M enc S b f) (hs:Sub S S'):KMap M enc S' b f:=by
 obtain ⟨es,clk,h1,h2,h3⟩:=h
 exact ⟨es,clk,mapObj_some.2 (hs _ _ (mapObj_some.1 h1)),h2,h3⟩
theorem KMap.cong {f':κ→Option AV} (h:KMap M enc S b f) (hf:∀ k,f k=f' k):KMap M enc S b f':=by
 obtain ⟨es,clk,h1,h2,h3⟩:=h
 exact ⟨es,clk,h1,h2,fun k=>(h3 k).trans (hf k)⟩
theorem q3u:KE (false,[.str]) AV.str:=⟨fun k=>rfl,fun k k' h=>by cases h;rfl⟩
def q1i (p:Nat×Nat):AV:=.agg [.int .i64 p.1,.int .i64 p.2]
theorem ke_node:KE (true,[.int .i64,.int .i64]) q1i:=⟨fun k=>by simp [q1i,q0m,q17,ekOk],fun k k' h=>by
 obtain ⟨a,b⟩:=k
 obtain ⟨c,d⟩:=k'
 simp only [q1i,AV.agg.injEq,List.cons.injEq,AV.int.injEq,true_and,and_true] at h
 rw [Prod.mk.injEq]
 omega⟩
end
def KMapL {κ:Type} (M:Bool×List EK) (enc:κ→AV) (S:q00) (b:Nat) (f:κ→Option AV) (n:Nat):Prop:=
 ∃ es clk,q1z S b=some (M,es,clk)∧keysOk M es∧(∀ k,mget es (enc k)=f k)∧es.length=n
section
variable {κ:Type} {M:Bool×List EK} {enc:κ→AV} {S:q00} {b n:Nat} {f:κ→Option AV} {ok:Bool} {z v:AV} {K:AV→Prop} {KT:q00→Prop} {KS:AV→q00→Prop}
theorem KMapL.k (h:KMapL M enc S b f n):KMap M enc S b f:=let ⟨es,clk,h1,h2,h3,_⟩:=h;⟨es,clk,h1,h2,h3⟩
theorem mput_len {k v:AV} {clk:Nat}:∀ {es:List (AV×AV×Nat)},(mput es k v clk).length=if (mget es k).isSome then es.length else es.length+1
 | []=>rfl
 | x :: r=>by
  have ih:=mput_len (k:=k) (v:=v) (clk:=clk) (es:=r)
  unfold mput
  rw [q1r]
  by_cases h:q1d k x.1=true
  ·simp [h]
  ·simp only [h,if_false,Bool.false_eq_true,List.length_cons,ih]
   split<;>rfl
open Classical in
theorem KMapL.mu (h:KMapL M enc S b f n) (he:KE M enc) (k:κ) (hK:∀ es clk,KMapL M enc (supd S b (.map M es clk)) b (fun k'=>if k'=k then some v else f k') (if (f k).isSome then n else n+1)→KT (supd S b (.map M es clk))):muW S M (.map (some b)) (enc k) v KT:=by
 obtain ⟨es,clk,h1,h2,h3,h4⟩:=h
 rw [muW_map,h1,q6l]
 refine ⟨rfl,he.ok k,hK _ _ ⟨(mset es (enc k) v clk).1,(mset es (enc k) v clk).2,by rw [mapObj_supd_map,if_pos rfl],?_,fun k'=>?_,?_⟩⟩
 ·rw [q3g]
  exact q5y (he.ok k) _ _ h2
 ·rw [q3g,q6n (he.ok k) _ _ h2 (he.ok k'),h3]
  by_cases hk:k'=k
  ·subst hk;simp
  ·rw [if_neg fun h=>hk (he.inj _ _ h)];simp only [if_neg hk]
 ·rw [q3g,mput_len,h3,h4]
theorem KMapL.mm (hK:∀ b,sget S b=none→KMapL M enc (supd S b (.map M [] 0)) b (fun _=>none) 0→KS (.map (some b)) (supd S b (.map M [] 0))):mmW S M KS:=fun b hb=>
 hK b hb ⟨[],0,by rw [mapObj_supd_map,if_pos rfl],fun x hx=>by (cases hx),fun k=>q8t,rfl⟩
theorem KMapL.ln (h:KMapL M enc S b f n):lnW S 2 (.map (some b)) K=K (.int .i64 n):=by
 obtain ⟨es,clk,h1,h2,h3,h4⟩:=h
 rw [lnW_map,h1,q6m,h4]
theorem KMapL.upd (h:KMapL M enc S b f n) {c:Nat} (hc:c≠b) (o:AObj):KMapL M enc (supd S c o) b f n:=by
 obtain ⟨es,clk,h1,h2,h3,h4⟩:=h
 refine ⟨es,clk,?_,h2,h3,h4⟩
 have:=mapObj_some.1 h1
 exact mapObj_some.2 (by rw [q01,if_neg hc];exact this)
theorem KMapL.cong {f':κ→Option AV} {n':Nat} (h:KMapL M enc S b f n) (hf:∀ k,f k=f' k) (hn:n=n'):KMapL M enc S b f' n':=by
 obtain ⟨es,clk,h1,h2,h3,h4⟩:=h
 exact ⟨es,clk,h1,h2,fun k=>(h3 k).trans (hf k),h4.trans hn⟩
theorem KMapL.fresh (h:KMapL M enc S b f n) {c:Nat} (hc:sget S c=none) (o:AObj):KMapL M enc (supd S c o) b f n:=h.upd (fun e=>h.k.is (e ▸ hc)) o
abbrev MN:Bool×List EK:=(true,[.int .i64,.int .i64])
theorem KMap.lkn {f:Nat×Nat→Option AV} (h:KMap MN q1i S b f) (i k:Nat):lkW S MN ok z (.map (some b)) (.agg [.int .i64 i,.int .i64 k]) K=K (q28 ok z (f (i,k))):=h.lk ke_node (i,k)
end
section
variable {P:Program} {f:Nat} {args:List AV} {S:q00} {v:AV} {Q:AEnd→q00→Prop}
theorem AFunS.frame (h:AFunS P f args S v) {b:Nat} (hb:sget S b=none) (o:AObj):AFunS P f args (supd S b o) v:=
 (ACalls.frame h hb o).mono fun ae S' ⟨S1,⟨h1,h2⟩,h3⟩=>by
  subst h1;subst h2
  exact ⟨rfl,h3.2⟩
theorem Sub.supd {S S':q00} {b:Nat} {o:AObj} (hb:sget S b=none) (h:Sub S S'):Sub S (supd S' b o):=fun c x hx=>by
 have:b≠c:=by rintro rfl;rw [hb] at hx;cases hx
 rw [q01,if_neg this]
 exact h c x hx
theorem q0l {S:q00} {b c:Nat} (h:c≠b) (o:AObj):q0i (supd S c o) b=q0i S b:=by
 unfold q0i
 rw [q01,if_neg h]
theorem q0h {S:q00} {b t tot:Nat} {cs:List AV}:q0i (supd S b (.cells t cs tot)) b=some (t,cs,tot):=by rw [objAt_supd,if_pos rfl]
theorem objAt_is {S:q00} {b:Nat} {q:Nat×List AV×Nat} (h:q0i S b=some q):sget S b≠Option.none:=by
 obtain ⟨t,cs,tot⟩:=q
 rw [objAt_some.1 h]
 simp
theorem q07 {S:q00} {b t tot:Nat} {cs:List AV} (h:q0i S b=some (t,cs,tot)):q2q S b=some cs:=by rw [cellsAt_obj,h];rfl
theorem Sub.none {S S':q00} {b:Nat} (h:Sub S S') (hb:sget S' b=Option.none):sget S b=Option.none:=by
 cases e:sget S b with
 | none=>rfl
 | some o=>rw [h b o e] at hb;cases hb
theorem q0e {S:q00} {b c:Nat} {x:AObj} (hb:sget S b=none) (hc:sget S c=some x):b≠c:=by rintro rfl;rw [hb] at hc;cases hc
end
end Go.HL
