/- A part of a proof. -/
import Derived.Test.YtadmdlpmikoghaaGreatKmHlN
set_option linter.unusedSimpArgs false
set_option linter.unusedVariables false
namespace Go.HL
inductive Fr (S0 S:q00):AV→AV→Prop
 | same (v:AV):Fr S0 S v v
 | nils (sz:Nat):Fr S0 S .nils (.sl sz [])
 | own (t sz b n cap:Nat) (rows:List (List AV)) (hr:∀ r∈rows,r.length=sz) (h0:sget S0 b=none) (hb:sget S b=some (.cells t rows.flatten (cap * sz))) (hn:rows.length=n) (hc:n≤cap):Fr S0 S (.own b 0 n cap) (.sl sz rows)
 | ownW (t sz b n cap:Nat) (rows:List (List AV)) (cs:List AV) (hr:∀ r∈rows,r.length=sz) (h0:sget S0 b=none) (hb:sget S b=some (.cells t cs (cap * sz))) (ht:cs.take (rows.length * sz)=rows.flatten) (hn:rows.length=n) (hc:n≤cap):Fr S0 S (.own b 0 n cap) (.sl sz rows)
 | agg (cs cs':List AV) (hl:cs.length=cs'.length) (h:∀ (i:Nat) (u u':AV),cs[i]?=some u→cs'[i]?=some u'→Fr S0 S u u'):Fr S0 S (.agg cs) (.agg cs')
 | tup (cs cs':List AV) (hl:cs.length=cs'.length) (h:∀ (i:Nat) (u u':AV),cs[i]?=some u→cs'[i]?=some u'→Fr S0 S u u'):Fr S0 S (.tup cs) (.tup cs')
 | sl (sz:Nat) (xs xs':List (List AV)) (hl:xs.length=xs'.length) (hc:∀ (i:Nat) (cs cs':List AV),xs[i]?=some cs→xs'[i]?=some cs'→cs.length=cs'.length)
   (h:∀ (i j:Nat) (cs cs':List AV) (u u':AV),xs[i]?=some cs→xs'[i]?=some cs'→cs[j]?=some u→cs'[j]?=some u'→Fr S0 S u u'):Fr S0 S (.sl sz xs) (.sl sz xs')
 | trans (a b c:AV) (h1:Fr S0 S a b) (h2:Fr S0 S b c):Fr S0 S a c
def Frs (S0 S:q00) (cs cs':List AV):Prop:=cs.length=cs'.length∧∀ (i:Nat) (u u':AV),cs[i]?=some u→cs'[i]?=some u'→Fr S0 S u u'
section
variable {S0 S:q00} {QF:AEnd→q00→Prop}
theorem Frs.nil:Frs S0 S [] []:=⟨rfl,fun i u u' h=>by simp at h⟩
theorem Frs.cons {u u':AV} {cs cs':List AV} (h:Fr S0 S u u') (hs:Frs S0 S cs cs'):Frs S0 S (u :: cs) (u' :: cs'):=by
 refine ⟨by simp [hs.1],fun i x x' h1 h2=>?_⟩
 cases i with
 | zero=>simp at h1 h2;subst h1;subst h2;exact h
 | succ i=>simp at h1 h2;exact hs.2 i x x' h1 h2
theorem Frs.same:∀ (cs:List AV),Frs S0 S cs cs
 | []=>.nil
 | c :: cs=>.cons (.same c) (Frs.same cs)
theorem Fr.ag {cs cs':List AV} (h:Frs S0 S cs cs'):Fr S0 S (.agg cs) (.agg cs'):=.agg cs cs' h.1 h.2
theorem Fr.tu {cs cs':List AV} (h:Frs S0 S cs cs'):Fr S0 S (.tup cs) (.tup cs'):=.tup cs cs' h.1 h.2
theorem Fr.lst {t sz:Nat} {v:AV} {rows:List (List AV)} (h:LstN S0 S t sz v rows):Fr S0 S v (.sl sz rows):=by
 obtain ⟨hr,⟨rfl,rfl⟩ | ⟨b,cap,rfl,h1,h2,h3,h4,h5⟩⟩:=h
 ·exact .nils sz
 ·exact .own t sz b _ cap rows hr h1 h2 rfl h3
theorem Fr.rw {v v':AV} (hf:Fr S0 S v v') {R R':Nat→Prop} {w:World} (hS:Sim R S w) (hR:∀ k,R k→R' k) (hO:∀ k,sget S k≠none→sget S0 k=none→R' k):∀ {u:Value},RV R' w v u→RV R' w v' u:=by
 induction hf with
 | same v=>exact fun hv=>hv
 | nils sz=>intro u hv;cases hv;exact .sl0 _ _ _
 | own t sz b n cap rows hr h0 hb hn hc=>
  intro u hv
  subst hn
  have hv:RV R w (.own b 0 rows.length cap) u:=by cases hv;exact .own _ _ _ _
  exact row_rv hS hb hr hc hR (hO b (by rw [hb];simp) h0) hv
 | ownW t sz b n cap rows cs hr h0 hb ht hn hc=>
  intro u hv
  subst hn
  have hRb:R' b:=hO b (by rw [hb];simp) h0
  cases hv
  obtain ⟨x,hx,hro⟩:=hS.own b _ hb
  obtain ⟨vs,hvs,hcell⟩:=cell_at hx hro
  have hl:=q8z hr
  have hcl:rows.length * sz≤cs.length:=by
   have:=congrArg List.length ht
   rw [List.length_take,hl] at this
   omega
  refine .sl sz rows ⟨b,0,none⟩ rows.length cap (fun i j=>vs.getD (i * sz+j) undef) rfl hc hRb (fun i cs h=>hr cs (List.mem_of_getElem? h)) (fun i j hi hj=>?_) (fun i j ds u h1 h2=>?_)
  ·rw [q4j,Nat.zero_add]
   refine hcell _ ?_
   refine Nat.lt_of_lt_of_le ?_ hcl
   calc i * sz+j<i * sz+sz:=by omega
    _=(i+1) * sz:=by rw [Nat.succ_mul]
    _≤rows.length * sz:=Nat.mul_le_mul_right _ (by omega)
  ·have hg:=flat_get hr h1 h2
   rw [← ht,List.getElem?_take] at hg
   split at hg
   ·exact (hvs.step hR fun k hk=>rfl).2 _ u hg
   ·cases hg
 | agg cs cs' hl h ih=>
  intro u hv
  cases hv with
  | agg _ vs k1 k2=>
   refine .agg _ _ (by omega) fun i x' hx'=>?_
   have hi:=(List.getElem?_eq_some_iff.1 hx').1
   have hx:cs[i]?=some cs[i]:=List.getElem?_eq_getElem (by omega)
   exact ih i _ _ hx hx' (k2 i _ hx)
 | tup cs cs' hl h ih=>
  intro u hv
  cases hv with
  | tup _ vs k1 k2=>
   refine .tup _ _ (by omega) fun i x' hx'=>?_
   have hi:=(List.getElem?_eq_some_iff.1 hx').1
   have hx:cs[i]?=some cs[i]:=List.getElem?_eq_getElem (by omega)
   exact ih i _ _ hx hx' (k2 i _ hx)
 | sl sz xs xs' hl hc h ih=>
  intro u hv
  have get:∀ (i:Nat) (cs':List AV),xs'[i]?=some cs'→∃ cs,xs[i]?=some cs:=fun i cs' he=>by
   have hi:=(List.getElem?_eq_some_iff.1 he).1
   exact ⟨_,List.getElem?_eq_getElem (by omega)⟩
  cases hv with
  | sl0 _ a c=>
   have:xs'=[]:=List.length_eq_zero_iff.1 (by rw [← hl];rfl)
   subst this
   exact .sl0 _ _ _
  | sl _ _ a n c f k1 k2 k3 k4 k5 k6=>
   refine .sl sz xs' a n c f (by omega) k2 k3 (fun i cs' he=>?_) k5 fun i j cs' u' h1 h2=>?_
   ·obtain ⟨cs,h1⟩:=get i cs' he
    rw [← hc i cs cs' h1 he]
    exact k4 i cs h1
   ·obtain ⟨cs,h3⟩:=get i cs' h1
    have hj:=(List.getElem?_eq_some_iff.1 h2).1
    have hl2:=hc i cs cs' h3 h1
    have h4:cs[j]?=some cs[j]:=List.getElem?_eq_getElem (by omega)
    exact ih i j cs cs' _ u' h3 h1 h4 h2 (k6 i j cs _ h3 h4)
 | trans a b c h1 h2 ih1 ih2=>exact fun hv=>ih2 (ih1 hv)
theorem Fr.rv {v v':AV} (hf:Fr S0 S v v') {R R':Nat→Prop} {w:World} (hS:Sim R S w) (hR:∀ k,R k→R' k) (hO:∀ k,sget S k≠none→sget S0 k=none→R' k) {u:Value} (hv:RV R w v u):RV R' w v' u:=
 hf.rw hS hR hO (hv.step hR fun _ _=>rfl)
theorem ShV.fr {v v':AV} (hs:Sub S0 S) (hf:Fr S0 S v v'):ShV v S v' S0:=by
 intro R w u hS hv
 have hs1:=hS.sub hs
 refine ⟨fun k=>R k∨(sget S k≠none∧sget S0 k=none),⟨fun c o hc=>?_,fun c hc=>?_⟩,hf.rv hS (fun k hk=>.inl hk) (fun k h1 h2=>.inr ⟨h1,h2⟩) hv,⟨Nat.le_refl _,rfl,rfl,rfl,fun k _ hk=>⟨rfl,Sub.none hs hk⟩,fun k hk=>.inl hk,fun k hk=>?_⟩⟩
 ·obtain ⟨y,k1,k2⟩:=hs1.own c o hc
  exact ⟨y,k1,k2.step (fun k hk=>.inl hk) (fun k hk=>rfl)⟩
 ·rcases hc with hc | ⟨h1,h2⟩
  ·exact hs1.ro c hc
  ·cases h3:sget S c with
   | none=>exact absurd h3 h1
   | some o=>exact ⟨h2,hS.lt h3⟩
 ·rcases hk with hk | ⟨h1,-⟩
  ·exact .inl hk
  ·exact .inr (.inl h1)
theorem q4y {rs:List RW} (S0:q00) (v':AV) (hs:Sub S0 S) (h:someL (q3o S rs) fun vs=>Fr S0 S (tupA vs) v') (hQ:QF (.ret v') S0):rtW rs QF S:=by
 unfold rtW
 unfold someL at h ⊢
 split at h
 ·exact ⟨v',S0,ShV.fr hs h,hQ⟩
 ·exact h.elim
theorem Shift.cells {e:Env} {S0 S:q00} {c t tot:Nat} {cs cs':List AV} (hs:Sub S0 S) (h0:sget S0 c=none) (hc:sget S c=some (.cells t cs tot)) (hf:Frs (supd S0 c (.cells t cs' tot)) S cs cs'):Shift e S e (supd S0 c (.cells t cs' tot)):=by
 intro R w tmps hS hE
 have hR:∀ k,R k→(R k∨(sget S k≠none∧sget (supd S0 c (.cells t cs' tot)) k=none)):=fun k hk=>.inl hk
 have hO:∀ k,sget S k≠none→sget (supd S0 c (.cells t cs' tot)) k=none→(R k∨(sget S k≠none∧sget (supd S0 c (.cells t cs' tot)) k=none)):=fun k h1 h2=>.inr ⟨h1,h2⟩
 refine ⟨fun k=>R k∨(sget S k≠none∧sget (supd S0 c (.cells t cs' tot)) k=none),⟨fun b o hb=>?_,fun b hb=>?_⟩,fun k=>(hE k).step hR fun _ _=>rfl,⟨Nat.le_refl _,rfl,rfl,rfl,fun k _ hk=>⟨rfl,?_⟩,hR,fun k hk=>?_⟩⟩
 ·rw [q01] at hb
  by_cases hcb:c=b
  ·subst hcb
   rw [if_pos rfl] at hb
   cases hb
   obtain ⟨x,hx,hro⟩:=hS.own c _ hc
   refine ⟨x,hx,?_⟩
   cases hro with
   | cells _ _ arr vs hv h=>
    refine .cells t cs' arr vs (by rw [← hf.1];exact hv) ⟨by rw [← hf.1];exact h.1,fun i u' hu'=>?_⟩
    have hi:=(List.getElem?_eq_some_iff.1 hu').1
    have hu:cs[i]?=some (cs[i]'(by rw [hf.1];exact hi)):=List.getElem?_eq_getElem _
    exact (hf.2 i _ u' hu hu').rv hS hR hO (h.2 i _ hu)
  ·rw [if_neg hcb] at hb
   obtain ⟨y,k1,k2⟩:=hS.own b o (hs b o hb)
   exact ⟨y,k1,k2.step hR fun _ _=>rfl⟩
 ·rcases hb with hb | ⟨h1,h2⟩
  ·refine ⟨?_,(hS.ro b hb).2⟩
   have h3:=(hS.ro b hb).1
   rw [q01,if_neg (by rintro rfl;rw [hc] at h3;cases h3)]
   exact Sub.none hs h3
  ·cases h3:sget S b with
   | none=>exact absurd h3 h1
   | some o=>exact ⟨h2,hS.lt h3⟩
 ·rw [q01,if_neg (by rintro rfl;rw [hc] at hk;cases hk)]
  exact Sub.none hs hk
 ·rcases hk with hk | ⟨h1,-⟩
  ·exact .inl hk
  ·exact .inr (.inl h1)
theorem rcW_cells {r:LE→q00→Prop} {l:LE} {S0 S:q00} {c t tot:Nat} {cs cs':List AV} (hs:Sub S0 S) (h0:sget S0 c=none) (hc:sget S c=some (.cells t cs tot)) (hf:Frs (supd S0 c (.cells t cs' tot)) S cs cs') (h:r l (supd S0 c (.cells t cs' tot))):rcW r l S:=
 ⟨l,_,Shift.cells hs h0 hc hf,h⟩
end
end Go.HL
