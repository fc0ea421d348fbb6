/- The law RulesOrder returns true for every input and leaves it as it was; no conditions. -/
import Derived.Test.YtadmdlpmikoghaaKoM1
import Derived.Test.YtadmdlpmikoghaaKoHlS4
import Derived.Test.YtadmdlpmikoghaaKoHlS5
import Derived.Test.YtadmdlpmikoghaaKoHlS2
import Derived.Test.YtadmdlpmikoghaaKoHlS1
import Derived.Test.YtadmdlpmikoghaaKoHlS0
import Derived.Test.YtadmdlpmikoghaaKoHlQ
import Derived.ProofKit
import Derived.Carry
import Derived.Handed
import Derived.Test.YtadmdlpmikoghaaRows
set_option linter.unusedVariables false
set_option linter.unusedSimpArgs false
namespace Go.HL
def sHash : ByteArray := ⟨#[35]⟩
def sBar : ByteArray := ⟨#[124]⟩
def sColon : ByteArray := ⟨#[58]⟩
def refP (T : List Tk) (r : Rd) : Rf × Rd :=
  if isP T sHash (nameR T r) then (⟨nameP T r, nameP T (isR T sHash (nameR T r))⟩, nameR T (isR T sHash (nameR T r)))
  else (⟨nameP T r, ⟨#[]⟩⟩, nameR T r)
def refsL (T : List Tk) : Nat → List Rf × Rd → List Rf × Rd
  | 0, p => p
  | f + 1, (l, r) => if isP T sBar r then refsL T f (l ++ [(refP T (isR T sBar r)).1], (refP T (isR T sBar r)).2) else (l, r)
def relP (T : List Tk) (r : Rd) : (Rl × Bool) × Rd :=
  if isP T wRelation r then
    ((⟨nameP T (isR T wRelation r), (refsL T T.length ([(refP T (mustR T sColon (nameR T (isR T wRelation r)))).1], (refP T (mustR T sColon (nameR T (isR T wRelation r)))).2)).1, zeroE⟩, true),
      (refsL T T.length ([(refP T (mustR T sColon (nameR T (isR T wRelation r)))).1], (refP T (mustR T sColon (nameR T (isR T wRelation r)))).2)).2)
  else if isP T wDefine r then
    ((⟨nameP T (isR T wDefine r), [], (exprP T 12 (mustR T sColon (nameR T (isR T wDefine r)))).1⟩, true), (exprP T 12 (mustR T sColon (nameR T (isR T wDefine r)))).2)
  else ((⟨⟨#[]⟩, [], zeroE⟩, false), r)
def relsL (T : List Tk) : Nat → List Rl × Rd → List Rl × Rd
  | 0, p => p
  | f + 1, (l, r) => if (relP T r).1.2 = true then relsL T f (l ++ [(relP T r).1.1], (relP T r).2) else (l, (relP T r).2)
def typesL (T : List Tk) : Nat → List Ty × Rd → List Ty × Rd
  | 0, p => p
  | f + 1, (l, r) => if isP T wType r then
      typesL T f (l ++ [⟨nameP T (isR T wType r), (relsL T T.length ([], nameR T (isR T wType r))).1⟩], (relsL T T.length ([], nameR T (isR T wType r))).2)
    else (l, r)
def endR (T : List Tk) (r : Rd) : Rd := if r.de = 0 ∧ ¬ (nxP T r).s = ⟨#[]⟩ then failP (nxP T r) 8 r else r
def rd0 : Rd := ⟨0, 0, 0, 0, 0⟩
def parseT (T : List Tk) : List Ty × AV :=
  if (endR T (typesL T T.length ([], rd0)).2).de = 0 then ((typesL T T.length ([], rd0)).1, .agg [.int .i64 0, .int .i64 0, .int .i64 0])
  else ([], .agg [.int .i64 (endR T (typesL T T.length ([], rd0)).2).dl, .int .i64 (endR T (typesL T T.length ([], rd0)).2).dc, .int .i64 (endR T (typesL T T.length ([], rd0)).2).de])
theorem ref_step {T : List Tk} (hT : OkTk T) {r : Rd} {n : Nat} (hp : Pre T n r) : StepR T r (refP T r).2 1 ∧ OkF (refP T r).1 := by
  have hn := name_step hT hp
  have hpn := hn.pre hp
  unfold refP
  split
  · rename_i h
    have h1 := is_step hT hpn h (by decide +kernel) (by decide +kernel)
    have hp1 := h1.pre hpn
    have h2 := name_step hT hp1
    exact ⟨((hn.trans h1).trans h2).le (by omega), name_size hT hp.inr, name_size hT hp1.inr⟩
  · exact ⟨hn, name_size hT hp.inr, Nat.zero_le _⟩
structure RfSt (T : List Tk) (r : Rd) (p : List Rf × Rd) : Prop where
  st : StepR T r p.2 p.1.length
  len : p.1.length ≤ p.2.at' + 1
  ok : ∀ f ∈ p.1, OkF f
theorem refs_next {T : List Tk} (hT : OkTk T) {n : Nat} {r0 r : Rd} (hp0 : Pre T n r0) {l : List Rf} (h : RfSt T r0 (l, r)) (hi : isP T sBar r = true) :
    RfSt T r0 (l ++ [(refP T (isR T sBar r)).1], (refP T (isR T sBar r)).2) ∧ r.at' + 1 ≤ (refP T (isR T sBar r)).2.at' := by
  have hp := h.st.pre hp0
  have h1 := is_step hT hp hi (by decide +kernel) (by decide +kernel)
  obtain ⟨h2, h3⟩ := ref_step hT (h1.pre hp)
  have e1 : (isR T sBar r).at' = r.at' + 1 := by rw [isR, if_pos hi]
  have h4 := h2.mono
  have h5 := h.len
  dsimp only at h4 h5 e1 h2
  refine ⟨⟨?_, ?_, fun f hf => ?_⟩, by omega⟩
  · have h6 := (h.st.trans h1).trans h2
    exact h6.le (by simp)
  · simp only [List.length_append, List.length_cons, List.length_nil]
    omega
  · rcases List.mem_append.1 hf with hf | hf
    · exact h.ok f hf
    · rw [List.mem_singleton.1 hf]; exact h3
theorem refsL_ok {T : List Tk} (hT : OkTk T) {n : Nat} {r0 : Rd} (hp0 : Pre T n r0) : ∀ {f : Nat} {p : List Rf × Rd}, RfSt T r0 p → RfSt T r0 (refsL T f p)
  | 0, p, h => h
  | f + 1, (l, r), h => by
    unfold refsL
    split
    · rename_i hi
      exact refsL_ok hT hp0 (refs_next hT hp0 h hi).1
    · exact h
theorem refsL_more {T : List Tk} (hT : OkTk T) {n : Nat} {r0 : Rd} (hp0 : Pre T n r0) : ∀ {f g : Nat} {p : List Rf × Rd}, RfSt T r0 p → T.length ≤ f + p.2.at' → T.length ≤ g + p.2.at' → refsL T f p = refsL T g p
  | 0, g, p, h, h1, h2 => by have h3 : p.2.at' < T.length := h.st.inr; omega
  | f + 1, 0, p, h, h1, h2 => by have h3 : p.2.at' < T.length := h.st.inr; omega
  | f + 1, g + 1, (l, r), h, h1, h2 => by
    dsimp only at h1 h2
    unfold refsL
    split
    · rename_i hi
      obtain ⟨k1, k2⟩ := refs_next hT hp0 h hi
      exact refsL_more hT hp0 k1 (by dsimp only; omega) (by dsimp only; omega)
    · rfl
theorem rel_ok {T : List Tk} (hT : OkTk T) {r : Rd} (hp : Pre T 12 r) : StepR T r (relP T r).2 (if (relP T r).1.2 then rsz (relP T r).1.1 else 0) ∧ OkR (relP T r).1.1 ∧ ((relP T r).1.2 = true → r.at' + 1 ≤ (relP T r).2.at') := by
  unfold relP
  split
  · rename_i hi
    have h1 := is_step hT hp hi (by decide +kernel) (by decide +kernel)
    have hp1 := h1.pre hp
    have h2 := name_step hT hp1
    have hp2 := h2.pre hp1
    have h3 := must_step hT hp2 (s := sColon) (by decide +kernel) (by decide +kernel)
    have hp3 := h3.pre hp2
    obtain ⟨h4, h5⟩ := ref_step hT hp3
    have hR0 : RfSt T (mustR T sColon (nameR T (isR T wRelation r))) ([(refP T (mustR T sColon (nameR T (isR T wRelation r)))).1], (refP T (mustR T sColon (nameR T (isR T wRelation r)))).2) :=
      ⟨h4, by simp, fun f hf => by rw [List.mem_singleton.1 hf]; exact h5⟩
    have hR := refsL_ok hT hp3 (f := T.length) hR0
    generalize refsL T T.length ([(refP T (mustR T sColon (nameR T (isR T wRelation r)))).1], (refP T (mustR T sColon (nameR T (isR T wRelation r)))).2) = p at hR
    obtain ⟨l, r'⟩ := p
    have hl := hR.len
    have hin : r'.at' < T.length := hR.st.inr
    have hTl := hT.len
    have e1 : (isR T wRelation r).at' = r.at' + 1 := by rw [isR, if_pos hi]
    refine ⟨?_, ⟨name_size hT hp1.inr, ?_, hR.ok, okE_leaf (Nat.zero_le _) (Nat.zero_le _)⟩, fun _ => ?_⟩
    · have h6 := ((h1.trans h2).trans h3).trans hR.st
      refine h6.le ?_
      simp only [if_true, rsz, zeroE, esz_leaf]
      omega
    · dsimp only at hl ⊢; omega
    · have := h2.mono; have := h3.mono; have := hR.st.mono; dsimp only at *; omega
  · split
    · rename_i hi
      have h1 := is_step hT hp hi (by decide +kernel) (by decide +kernel)
      have hp1 := h1.pre hp
      have h2 := name_step hT hp1
      have hp2 := h2.pre hp1
      have h3 := must_step hT hp2 (s := sColon) (by decide +kernel) (by decide +kernel)
      have hp3 := h3.pre hp2
      have h4 := expr_ok hT hp3
      have e1 : (isR T wDefine r).at' = r.at' + 1 := by rw [isR, if_pos hi]
      refine ⟨?_, ⟨name_size hT hp1.inr, by simp, fun f hf => (by cases hf), h4.ok⟩, fun _ => ?_⟩
      · have h6 := ((h1.trans h2).trans h3).trans h4.st
        refine h6.le ?_
        simp only [if_true, rsz, List.length_nil]
        omega
      · have := h2.mono; have := h3.mono; have := h4.st.mono; dsimp only at *; omega
    · exact ⟨StepR.refl hp, ⟨Nat.zero_le _, by simp, fun f hf => (by cases hf), okE_leaf (Nat.zero_le _) (Nat.zero_le _)⟩, fun h => by cases h⟩
end Go.HL
set_option linter.unusedVariables false
set_option linter.unusedSimpArgs false
set_option maxRecDepth 4000
namespace Go.HL
abbrev c53 : AObj := .cells 53 [.str ⟨#[]⟩, .str ⟨#[]⟩] 2
abbrev c43 : AObj := .cells 43 [.str ⟨#[]⟩, .nils, .int .i64 0, .str ⟨#[]⟩, .str ⟨#[]⟩, .nils] 6
theorem c_ref {T : List Tk} (hT : OkTk T) {n b : Nat} {r : Rd} (hp : Pre T n r) : AFunR nr_ref11_Reader_ref b [] T r (.agg (rfC (refP T r).1)) (refP T r).2 := by
  intro S h
  refine w_ref11_Reader_ref ?_
  unfold B_ref11_Reader_ref
  intro b2 hb2
  have n1 : b2 ≠ b := sget_ne hb2 h
  have hS0 : sget (supd S b2 c53) b = some (rdO T r) := by rw [sget_supd, if_neg n1]; exact h
  have hn := name_step hT hp
  have hpn := hn.pre hp
  (try simp only [rws, hwR, Nat.reduceAdd, Nat.reduceLeDiff, Nat.reduceLT, Nat.reduceSub, Nat.reduceMul, Nat.reduceEqDiff, Nat.reduceBEq, Int.reduceAdd, Int.reduceToNat, beq_self_eq_true])
  refine (c_name hT hp.inr).ca hS0 ?_
  (try simp only [rws, hwR, Nat.reduceAdd, Nat.reduceLeDiff, Nat.reduceLT, Nat.reduceSub, Nat.reduceMul, Nat.reduceEqDiff, Nat.reduceBEq, Int.reduceAdd, Int.reduceToNat, beq_self_eq_true])
  intro b3 hb3
  have n2 : b3 ≠ b := sget_ne hb3 rd_new
  have n3 : b3 ≠ b2 := sget_ne hb3 (x := c53) (by rw [sget_supd, if_neg (Ne.symm n1), sget_supd, if_pos rfl])
  have k3 : sget S b3 = none := by rw [sget_supd, if_neg (Ne.symm n2), sget_supd, if_neg (Ne.symm n3)] at hb3; exact hb3
  (try simp only [rws, hwR, Nat.reduceAdd, Nat.reduceLeDiff, Nat.reduceLT, Nat.reduceSub, Nat.reduceMul, Nat.reduceEqDiff, Nat.reduceBEq, Int.reduceAdd, Int.reduceToNat, beq_self_eq_true])
  have hrd : ∀ o, sget (supd (supd (supd S b2 c53) b (rdO T (nameR T r))) b3 o) b = some (rdO T (nameR T r)) := fun o => by rw [sget_supd, if_neg n2, sget_supd, if_pos rfl]
  refine (c_is hT hpn.inr sHash).ca (hrd _) ?_
  have fin : ∀ (f : Rf) (r' : Rd) (S2 : Store), refP T r = (f, r') → objAt S2 b3 = some (53, rfC f, 2) → objAt S2 b2 = some (53, [.str ⟨#[]⟩, .str ⟨#[]⟩], 2) → (∀ x, b2 ≠ x → b3 ≠ x → sget S2 x = sget (supd S b (rdO T r')) x) →
      C_ref11_Reader_ref_1 (fun ae S' => ae = .ret (.agg (rfC (refP T r).1)) ∧ S' = supd S b (rdO T (refP T r).2)) (.ptr b2 0) (.ptr b3 0) S2 := by
    intro f r' S2 he h3 h2 hS2
    rw [he]
    unfold C_ref11_Reader_ref_1
    have hsub : ∀ o, Sub (supd S b (rdO T r')) (sdel (supd S2 b2 o) b2) := fun o x y hx => by
      have e2 : b2 ≠ x := by rintro rfl; rw [sget_supd, if_neg (Ne.symm n1), hb2] at hx; cases hx
      have e3 : b3 ≠ x := by rintro rfl; rw [sget_supd, if_neg (Ne.symm n2), k3] at hx; cases hx
      rw [sget_sdel, if_neg e2, sget_supd, if_neg e2, hS2 x e2 e3]
      exact hx
    simp only [rfC] at h3
    (try simp only [rws, hwR, Nat.reduceAdd, Nat.reduceLeDiff, Nat.reduceLT, Nat.reduceSub, Nat.reduceMul, Nat.reduceEqDiff, Nat.reduceBEq, Int.reduceAdd, Int.reduceToNat, beq_self_eq_true, cellsAt_of h3, h2])
    refine rtW_go _ (hsub _) ?_
    (try simp only [rws, hwR, Nat.reduceAdd, Nat.reduceLeDiff, Nat.reduceLT, Nat.reduceSub, Nat.reduceMul, Nat.reduceEqDiff, Nat.reduceBEq, Int.reduceAdd, Int.reduceToNat, beq_self_eq_true, rfC])
  cases hi : isP T sHash (nameR T r) with
  | true =>
    have h1 := is_step hT hpn hi (by decide +kernel) (by decide +kernel)
    have hp1 := h1.pre hpn
    (try simp only [rws, hwR, Nat.reduceAdd, Nat.reduceLeDiff, Nat.reduceLT, Nat.reduceSub, Nat.reduceMul, Nat.reduceEqDiff, Nat.reduceBEq, Int.reduceAdd, Int.reduceToNat, beq_self_eq_true])
    refine (c_name hT hp1.inr).ca rd_new ?_
    have ob3 : ∀ X cs o, objAt (supd (supd X b3 (.cells 53 cs 2)) b o) b3 = some (53, cs, 2) := fun X cs o => by rw [objAt_ne (Ne.symm n2)]; exact objAt_eq
    (try simp only [rws, hwR, Nat.reduceAdd, Nat.reduceLeDiff, Nat.reduceLT, Nat.reduceSub, Nat.reduceMul, Nat.reduceEqDiff, Nat.reduceBEq, Int.reduceAdd, Int.reduceToNat, beq_self_eq_true, ob3])
    refine fin ⟨nameP T r, nameP T (isR T sHash (nameR T r))⟩ (nameR T (isR T sHash (nameR T r))) _ ?_ objAt_eq ?_ fun x e2 e3 => ?_
    · rw [refP, if_pos hi]
    · rw [objAt_ne n3, objAt_ne (Ne.symm n1), objAt_ne n3, objAt_ne (Ne.symm n1)]; exact objAt_eq
    · simp only [sget_supd, if_neg e2, if_neg e3]
      by_cases hb : b = x
      · subst hb; simp
      · simp [hb]
  | false =>
    rw [isR_no hi]
    (try simp only [rws, hwR, Nat.reduceAdd, Nat.reduceLeDiff, Nat.reduceLT, Nat.reduceSub, Nat.reduceMul, Nat.reduceEqDiff, Nat.reduceBEq, Int.reduceAdd, Int.reduceToNat, beq_self_eq_true])
    refine fin ⟨nameP T r, ⟨#[]⟩⟩ (nameR T r) _ ?_ ?_ ?_ fun x e2 e3 => ?_
    · rw [refP, if_neg (by rw [hi]; simp)]
    · rw [objAt_ne (Ne.symm n2)]; exact objAt_eq
    · rw [objAt_ne (Ne.symm n1), objAt_ne n3, objAt_ne (Ne.symm n1)]; exact objAt_eq
    · simp only [sget_supd, if_neg e2, if_neg e3]
      by_cases hb : b = x
      · subst hb; simp
      · simp [hb]
structure RlI (S : Store) (b b2 b4 : Nat) (T : List Tk) (name : ByteArray) (p : List Rf × Rd) (S' : Store) : Prop where
  rd : sget S' b = some (rdO T p.2)
  c2 : sget S' b2 = some c43
  c4 : ∃ v, sget S' b4 = some (.cells 43 [.str name, v, .int .i64 0, .str ⟨#[]⟩, .str ⟨#[]⟩, .nils] 6) ∧ LstN (sdel S b) S' 53 2 v (p.1.map rfC) ∧ Aside v b ∧ Aside v b2 ∧ Aside v b4
  sub : Sub (sdel S b) S'
theorem LstN.base2 {S S' : Store} {b t sz : Nat} {v : AV} {rows : List (List AV)} {o : AObj} (h : LstN (sdel S b) S' t sz v rows) (ha : Aside v b) : LstN (supd S b o) S' t sz v rows := by
  obtain ⟨hr, h⟩ := h
  refine ⟨hr, ?_⟩
  rcases h with h | ⟨c, cap, rfl, h1, h2⟩
  · exact .inl h
  · refine .inr ⟨c, cap, rfl, ?_, h2⟩
    have := ha c 0 _ _ rfl
    rw [sget_sdel, if_neg this] at h1
    rw [sget_supd, if_neg this]
    exact h1
theorem aside_nils {c : Nat} : Aside .nils c := fun b off n cap h => by cases h
theorem kpW_one {S S' : Store} {Y : Prop} {b off : Nat} (h : sget S' b = sget S b) (hY : Y) : kpW [.ptr b off] S S' Y := by
  refine ⟨fun v hv c hc => ?_, hY⟩
  rw [List.mem_singleton] at hv
  subst hv
  simp [blk] at hc
  subst hc
  exact h
theorem RlI.more {S S1 : Store} {b b2 b4 : Nat} {T : List Tk} {name : ByteArray} {l : List Rf} {r r2 : Rd} (h : RlI S b b2 b4 T name (l, r) S1) (n1 : b2 ≠ b) (n2 : b4 ≠ b) (n3 : b4 ≠ b2) (k2 : sget S b2 = none) (k4 : sget S b4 = none) (hlen : l.length ≤ 100000) (f : Rf) {v : AV} (hv : sget S1 b4 = some (.cells 43 [.str name, v, .int .i64 0, .str ⟨#[]⟩, .str ⟨#[]⟩, .nils] 6)) {K : Store → Prop} (hK : ∀ S3, RlI S b b2 b4 T name (l ++ [f], r2) S3 → K S3) :
    apW (supd S1 b (rdO T r2)) 53 2 32 v (.sl 2 [[.str f.ty, .str f.rl]]) fun v' S2 => soW (objAt S2 b4) S2 1 b4 1 v' K := by
  obtain ⟨hrd, hc2, ⟨v0, hv0, hl, a1, a2, a4⟩, hsub⟩ := h
  rw [hv] at hv0
  cases hv0
  dsimp only at hl hrd
  have hb0 : sget (sdel S b) b = none := by rw [sget_sdel, if_pos rfl]
  have hb4 : sget (sdel S b) b4 = none := by rw [sget_sdel, if_neg (Ne.symm n2)]; exact k4
  refine (hl.upd a1 (rdO T r2)).app (hsub.supd hb0) (xs := [[.str f.ty, .str f.rl]]) (fun r hr => by rw [List.mem_singleton] at hr; subst hr; rfl) rfl (by simp; omega) ?_
  intro v' S2 h1 h2 h3
  obtain ⟨q1, q2⟩ := h3 b (rdO T r2) (by rw [sget_supd, if_pos rfl]) a1
  obtain ⟨q3, q4⟩ := h3 b4 _ (by rw [sget_supd, if_neg (Ne.symm n2)]; exact hv) a4
  obtain ⟨q5, q6⟩ := h3 b2 _ (by rw [sget_supd, if_neg (Ne.symm n1)]; exact hc2) a2
  rw [objAt_some.2 q3, soW_some]
  have hone := h2.one
  have hac : aCells v' = [v'] := by cases v' <;> first | rfl | cases hone
  rw [hac]
  refine ⟨rfl, by simp, by simp [ones, hone], hK _ ⟨?_, ?_, ⟨v', ?_, ?_, q2, q6, q4⟩, ?_⟩⟩
  · rw [sget_supd, if_neg n2]; exact q1
  · rw [sget_supd, if_neg n3]; exact q5
  · rw [sget_supd, if_pos rfl]; rfl
  · simpa [rfC] using h2.upd q4 _
  · exact h1.supd hb4
theorem sub_del {S : Store} {b : Nat} {T : List Tk} {S2 : Store} {r' : Rd} {b2 : Nat} {o : AObj} (h : Sub (sdel S b) S2) (hb : sget S2 b = some (rdO T r')) (k2 : sget S b2 = none) (n1 : b2 ≠ b) : Sub (supd S b (rdO T r')) (supd S2 b2 o) := by
  intro x y hx
  have e2 : b2 ≠ x := by rintro rfl; rw [sget_supd, if_neg (Ne.symm n1), k2] at hx; cases hx
  rw [sget_supd, if_neg e2]
  rw [sget_supd] at hx
  by_cases hbx : b = x
  · subst hbx; rw [if_pos rfl] at hx; rw [hb]; exact hx
  · rw [if_neg hbx] at hx
    exact h x y (by rw [sget_sdel, if_neg hbx]; exact hx)
theorem c_rel {T : List Tk} (hT : OkTk T) {b : Nat} {r : Rd} (hp : Pre T 12 r) : AFunR nr_ref11_Reader_rel b [] T r (.tup [.agg (rlC (relP T r).1.1), .bool (relP T r).1.2]) (relP T r).2 := by
  intro S h
  have hTl := hT.len
  refine w_ref11_Reader_rel ?_
  unfold B_ref11_Reader_rel
  intro b2 hb2
  have n1 : b2 ≠ b := sget_ne hb2 h
  (try simp only [rws, hwR, Nat.reduceAdd, Nat.reduceLeDiff, Nat.reduceLT, Nat.reduceSub, Nat.reduceMul, Nat.reduceEqDiff, Nat.reduceBEq, Int.reduceAdd, Int.reduceToNat, beq_self_eq_true])
  intro b4 hb4
  have n2 : b4 ≠ b := sget_ne hb4 (x := rdO T r) (by rw [sget_supd, if_neg n1]; exact h)
  have n3 : b4 ≠ b2 := sget_ne hb4 (x := c43) (by rw [sget_supd, if_pos rfl])
  have k4 : sget S b4 = none := by rw [sget_supd, if_neg (Ne.symm n3)] at hb4; exact hb4
  have m1 := Ne.symm n1
  have m2 := Ne.symm n2
  have m3 := Ne.symm n3
  (try simp only [rws, hwR, Nat.reduceAdd, Nat.reduceLeDiff, Nat.reduceLT, Nat.reduceSub, Nat.reduceMul, Nat.reduceEqDiff, Nat.reduceBEq, Int.reduceAdd, Int.reduceToNat, beq_self_eq_true])
  have fin : ∀ (x : Rl) (ok : Bool) (r' : Rd) (S2 : Store) (n : ByteArray) (v : AV) (k : Int) (a o : ByteArray) (w : AV), relP T r = ((x, ok), r') → sget S2 b = some (rdO T r') → Sub (sdel S b) S2 →
      Frs (supd S b (rdO T r')) (supd S2 b2 (.cells 43 [.str n, v, .int .i64 k, .str a, .str o, w] 6)) [.str n, v, .int .i64 k, .str a, .str o, w] (rlC x) →
      rtW [.cell (.ptr b2 0) 6 true, .tmp (.bool ok)] (fun ae S' => ae = .ret (.tup [.agg (rlC (relP T r).1.1), .bool (relP T r).1.2]) ∧ S' = supd S b (rdO T (relP T r).2)) (supd S2 b2 (.cells 43 [.str n, v, .int .i64 k, .str a, .str o, w] 6)) := by
    intro x ok r' S2 n v k a o w he hb hsub hfr
    rw [he]
    refine rtW_fr (supd S b (rdO T r')) (.tup [.agg (rlC x), .bool ok]) (sub_del hsub hb hb2 n1) ?_ ⟨rfl, rfl⟩
    (try simp only [rws, hwR, Nat.reduceAdd, Nat.reduceLeDiff, Nat.reduceLT, Nat.reduceSub, Nat.reduceMul, Nat.reduceEqDiff, Nat.reduceBEq, Int.reduceAdd, Int.reduceToNat, beq_self_eq_true])
    exact .tu (.cons (.ag hfr) (.cons (.same _) .nil))
  have hS0 : sget (supd (supd S b2 c43) b4 c43) b = some (rdO T r) := by rw [sget_supd, if_neg n2, sget_supd, if_neg n1]; exact h
  have hsub0 : Sub (sdel S b) (supd (supd S b2 c43) b4 c43) := by
    intro x y hx
    have hbx : b ≠ x := by rintro rfl; rw [sget_sdel, if_pos rfl] at hx; cases hx
    rw [sget_sdel, if_neg hbx] at hx
    rw [sget_supd, if_neg (sget_ne k4 hx), sget_supd, if_neg (sget_ne hb2 hx)]
    exact hx
  refine (c_is hT hp.inr wRelation).ca hS0 ?_
  cases hi : isP T wRelation r with
  | true =>
    have h1 := is_step hT hp hi (by decide +kernel) (by decide +kernel)
    have hp1 := h1.pre hp
    have h2 := name_step hT hp1
    have hp2 := h2.pre hp1
    have h3 := must_step hT hp2 (s := sColon) (by decide +kernel) (by decide +kernel)
    have hp3 := h3.pre hp2
    obtain ⟨h4, h5⟩ := ref_step hT hp3
    (try simp only [rws, hwR, Nat.reduceAdd, Nat.reduceLeDiff, Nat.reduceLT, Nat.reduceSub, Nat.reduceMul, Nat.reduceEqDiff, Nat.reduceBEq, Int.reduceAdd, Int.reduceToNat, beq_self_eq_true])
    refine (c_name hT hp1.inr).ca rd_new ?_
    have ob4 : ∀ X cs o, objAt (supd (supd X b4 (.cells 43 cs 6)) b o) b4 = some (43, cs, 6) := fun X cs o => by rw [objAt_ne m2]; exact objAt_eq
    (try simp only [rws, hwR, Nat.reduceAdd, Nat.reduceLeDiff, Nat.reduceLT, Nat.reduceSub, Nat.reduceMul, Nat.reduceEqDiff, Nat.reduceBEq, Int.reduceAdd, Int.reduceToNat, beq_self_eq_true, ob4])
    have hrd : ∀ X cs r', sget (supd (supd X b (rdO T r')) b4 (.cells 43 cs 6)) b = some (rdO T r') := fun X cs r' => by rw [sget_supd, if_neg n2]; exact rd_new
    refine (c_must hT hp2.inr sColon).ca (hrd _ _ _) ?_
    (try simp only [rws, hwR, Nat.reduceAdd, Nat.reduceLeDiff, Nat.reduceLT, Nat.reduceSub, Nat.reduceMul, Nat.reduceEqDiff, Nat.reduceBEq, Int.reduceAdd, Int.reduceToNat, beq_self_eq_true, cellsAt_of (ob4 _ _ _)])
    refine (c_ref hT hp3).ca rd_new ?_
    refine kpW_one (by rw [sget_supd, if_neg m2]) ?_
    refine ⟨⟨rfl, rfl⟩, ?_⟩
    have hI0 : RlI S b b2 b4 T (nameP T (isR T wRelation r)) ([], mustR T sColon (nameR T (isR T wRelation r)))
        (supd (supd (supd (supd (supd S b2 c43) b4 c43) b (rdO T (nameR T (isR T wRelation r)))) b4 (.cells 43 [.str (nameP T (isR T wRelation r)), .nils, .int .i64 0, .str ⟨#[]⟩, .str ⟨#[]⟩, .nils] 6)) b (rdO T (mustR T sColon (nameR T (isR T wRelation r))))) := by
      refine ⟨rd_new, ?_, ⟨.nils, ?_, .nil, aside_nils, aside_nils, aside_nils⟩, ?_⟩
      · simp [sget_supd, m1, m2, m3, n1, n2, n3]
      · simp [sget_supd, m1, m2, m3, n1, n2, n3]
      · have hb0 : sget (sdel S b) b = none := by rw [sget_sdel, if_pos rfl]
        have hb4' : sget (sdel S b) b4 = none := by rw [sget_sdel, if_neg m2]; exact k4
        exact ((hsub0.supd hb0).supd hb4').supd hb0
    have hrel : relP T r = ((⟨nameP T (isR T wRelation r), (refsL T T.length ([(refP T (mustR T sColon (nameR T (isR T wRelation r)))).1], (refP T (mustR T sColon (nameR T (isR T wRelation r)))).2)).1, zeroE⟩, true), (refsL T T.length ([(refP T (mustR T sColon (nameR T (isR T wRelation r)))).1], (refP T (mustR T sColon (nameR T (isR T wRelation r)))).2)).2) := by
      rw [relP, if_pos hi]
    refine hI0.more n1 n2 n3 hb2 k4 (by simp) (refP T (mustR T sColon (nameR T (isR T wRelation r)))).1 (r2 := (refP T (mustR T sColon (nameR T (isR T wRelation r)))).2) (v := .nils) ?_ ?_
    · rw [sget_supd, if_neg m2, sget_supd, if_pos rfl]
    clear hI0
    intro S3 hI
    generalize nameP T (isR T wRelation r) = nm at hI hrel
    have hR0 : RfSt T (mustR T sColon (nameR T (isR T wRelation r))) ([(refP T (mustR T sColon (nameR T (isR T wRelation r)))).1], (refP T (mustR T sColon (nameR T (isR T wRelation r)))).2) :=
      ⟨h4, by simp, fun f hf => by rw [List.mem_singleton.1 hf]; exact h5⟩
    generalize mustR T sColon (nameR T (isR T wRelation r)) = r3 at hI hrel hp3 hR0
    rw [List.nil_append] at hI
    generalize ([(refP T r3).1], (refP T r3).2) = p0 at hI hrel hR0
    refine LoopP.introS (fun _ : List Rf × Rd => [(0, .ptr b 0), (2, .ptr b2 0), (4, .ptr b4 0)])
      (fun p S' => RlI S b b2 b4 T nm p S' ∧ RfSt T r3 p ∧ refsL T T.length p = refsL T T.length p0) (fun p => T.length - p.2.at') p0 ⟨hI, hR0, rfl⟩ rfl ?_
    clear hI hR0
    rintro ⟨l, r4⟩ S4 ⟨hI, hR, hf⟩ q hq
    have hp4 := hR.st.pre hp3
    have hin : r4.at' < T.length := hp4.inr
    have hll := hR.len
    dsimp only at hll
    have hI' := hI
    obtain ⟨krd, kc2, ⟨v, kv, klst, a1, a2, a4⟩, ksub⟩ := hI'
    dsimp only at krd klst
    (try simp only [rws, hwR, Nat.reduceAdd, Nat.reduceLeDiff, Nat.reduceLT, Nat.reduceSub, Nat.reduceMul, Nat.reduceEqDiff, Nat.reduceBEq, Int.reduceAdd, Int.reduceToNat, beq_self_eq_true, C_ref11_Reader_rel_1])
    refine (c_is hT hp4.inr sBar).ca krd ?_
    cases hb : isP T sBar r4 with
    | true =>
      obtain ⟨hR2, hmu⟩ := refs_next hT hp3 hR hb
      have h6 := is_step hT hp4 hb (by decide +kernel) (by decide +kernel)
      have hp6 := h6.pre hp4
      have hob : objAt (supd S4 b (rdO T (isR T sBar r4))) b4 = some (43, [.str nm, v, .int .i64 0, .str ⟨#[]⟩, .str ⟨#[]⟩, .nils], 6) := by rw [objAt_ne m2]; exact objAt_some.2 kv
      have hf2 : refsL T T.length (l ++ [(refP T (isR T sBar r4)).1], (refP T (isR T sBar r4)).2) = refsL T T.length p0 := by
        rw [← hf]
        obtain ⟨m, hm⟩ : ∃ m, T.length = m + 1 := ⟨T.length - 1, by omega⟩
        conv => rhs; rw [hm, refsL, if_pos hb]
        exact refsL_more hT hp3 hR2 (by dsimp only; omega) (by dsimp only; omega)
      have hI2 : RlI S b b2 b4 T nm (l, isR T sBar r4) (supd S4 b (rdO T (isR T sBar r4))) := by
        refine ⟨rd_new, by rw [sget_supd, if_neg m1]; exact kc2, ⟨v, by rw [sget_supd, if_neg m2]; exact kv, klst.upd a1 _, a1, a2, a4⟩, ksub.supd (by rw [sget_sdel, if_pos rfl])⟩
      (try simp only [rws, hwR, Nat.reduceAdd, Nat.reduceLeDiff, Nat.reduceLT, Nat.reduceSub, Nat.reduceMul, Nat.reduceEqDiff, Nat.reduceBEq, Int.reduceAdd, Int.reduceToNat, beq_self_eq_true, cellsAt_of hob])
      refine (c_ref hT hp6).ca rd_new ?_
      refine kpW_one (by rw [sget_supd, if_neg m2]) ?_
      refine ⟨⟨rfl, rfl⟩, ?_⟩
      refine hI2.more n1 n2 n3 hb2 k4 (by omega) (refP T (isR T sBar r4)).1 (r2 := (refP T (isR T sBar r4)).2) (v := v) ?_ ?_
      · rw [sget_supd, if_neg m2]; exact kv
      intro S5 hI5
      exact rcW_as rfl (hq (l ++ [(refP T (isR T sBar r4)).1], (refP T (isR T sBar r4)).2) S5 ⟨hI5, hR2, hf2⟩ (by dsimp only; omega))
    | false =>
      rw [isR_no hb, supd_self krd]
      have hstop : refsL T T.length (l, r4) = (l, r4) := by
        cases T.length with
        | zero => rfl
        | succ m => rw [refsL, if_neg (by rw [hb]; simp)]
      rw [hstop] at hf
      rw [← hf] at hrel
      have ob2 := objAt_some.2 kc2
      have ob4' := objAt_some.2 kv
      have hone := klst.one
      have hac : aCells v = [v] := by cases v <;> first | rfl | cases hone
      (try simp only [rws, hwR, Nat.reduceAdd, Nat.reduceLeDiff, Nat.reduceLT, Nat.reduceSub, Nat.reduceMul, Nat.reduceEqDiff, Nat.reduceBEq, Int.reduceAdd, Int.reduceToNat, beq_self_eq_true, cellsAt_of ob4', ob2, ones_cons])
      refine ⟨hone, fin ⟨nm, l, zeroE⟩ true r4 S4 nm v 0 _ _ _ hrel krd ksub ?_⟩
      rw [rlC_eq]
      exact .cons (.same _) (.cons (Fr.lst ((klst.upd a2 _).base2 a1)) (.cons (.same _) (.cons (.same _) (.cons (.same _) (.cons (.nils 4) .nil)))))
  | false =>
    rw [isR_no hi, supd_self hS0]
    (try simp only [rws, hwR, Nat.reduceAdd, Nat.reduceLeDiff, Nat.reduceLT, Nat.reduceSub, Nat.reduceMul, Nat.reduceEqDiff, Nat.reduceBEq, Int.reduceAdd, Int.reduceToNat, beq_self_eq_true])
    refine (c_is hT hp.inr wDefine).ca hS0 ?_
    cases hd : isP T wDefine r with
    | true =>
      have h1 := is_step hT hp hd (by decide +kernel) (by decide +kernel)
      have hp1 := h1.pre hp
      have h2 := name_step hT hp1
      have hp2 := h2.pre hp1
      have h3 := must_step hT hp2 (s := sColon) (by decide +kernel) (by decide +kernel)
      have hp3 := h3.pre hp2
      (try simp only [rws, hwR, Nat.reduceAdd, Nat.reduceLeDiff, Nat.reduceLT, Nat.reduceSub, Nat.reduceMul, Nat.reduceEqDiff, Nat.reduceBEq, Int.reduceAdd, Int.reduceToNat, beq_self_eq_true])
      refine (c_name hT hp1.inr).ca rd_new ?_
      have ob4 : ∀ X cs o, objAt (supd (supd X b4 (.cells 43 cs 6)) b o) b4 = some (43, cs, 6) := fun X cs o => by rw [objAt_ne m2]; exact objAt_eq
      (try simp only [rws, hwR, Nat.reduceAdd, Nat.reduceLeDiff, Nat.reduceLT, Nat.reduceSub, Nat.reduceMul, Nat.reduceEqDiff, Nat.reduceBEq, Int.reduceAdd, Int.reduceToNat, beq_self_eq_true, ob4])
      have hrd : ∀ X cs r', sget (supd (supd X b (rdO T r')) b4 (.cells 43 cs 6)) b = some (rdO T r') := fun X cs r' => by rw [sget_supd, if_neg n2]; exact rd_new
      refine (c_must hT hp2.inr sColon).ca (hrd _ _ _) ?_
      (try simp only [rws, hwR, Nat.reduceAdd, Nat.reduceLeDiff, Nat.reduceLT, Nat.reduceSub, Nat.reduceMul, Nat.reduceEqDiff, Nat.reduceBEq, Int.reduceAdd, Int.reduceToNat, beq_self_eq_true])
      refine (c_expr hT hp3).ca rd_new ?_
      have hrel : relP T r = ((⟨nameP T (isR T wDefine r), [], (exprP T 12 (mustR T sColon (nameR T (isR T wDefine r)))).1⟩, true), (exprP T 12 (mustR T sColon (nameR T (isR T wDefine r)))).2) := by
        rw [relP, if_neg (by rw [hi]; simp), if_pos hd]
      generalize nameP T (isR T wDefine r) = nm at hrel ⊢
      generalize exprP T 12 (mustR T sColon (nameR T (isR T wDefine r))) = pe at hrel ⊢
      obtain ⟨e, r5⟩ := pe
      dsimp only at hrel ⊢
      rw [supd_supd]
      have hb0 : sget (sdel S b) b = none := by rw [sget_sdel, if_pos rfl]
      have hb4' : sget (sdel S b) b4 = none := by rw [sget_sdel, if_neg m2]; exact k4
      have q1 : ∀ X cs, sget (supd (supd X b4 (.cells 43 cs 6)) b (rdO T r5)) b = some (rdO T r5) := fun X cs => rd_new
      have q2 : objAt (supd (supd (supd (supd (supd S b2 c43) b4 c43) b (rdO T (nameR T (isR T wDefine r)))) b4 (.cells 43 [.str nm, .nils, .int .i64 0, .str ⟨#[]⟩, .str ⟨#[]⟩, .nils] 6)) b (rdO T r5)) b4 = some (43, [.str nm, .nils, .int .i64 0, .str ⟨#[]⟩, .str ⟨#[]⟩, .nils], 6) := ob4 _ _ _
      have q3 : objAt (supd (supd (supd (supd (supd S b2 c43) b4 c43) b (rdO T (nameR T (isR T wDefine r)))) b4 (.cells 43 [.str nm, .nils, .int .i64 0, .str ⟨#[]⟩, .str ⟨#[]⟩, .nils] 6)) b (rdO T r5)) b2 = some (43, [.str ⟨#[]⟩, .nils, .int .i64 0, .str ⟨#[]⟩, .str ⟨#[]⟩, .nils], 6) := by
        refine objAt_some.2 ?_
        simp [sget_supd, m1, m2, m3, n1, n2, n3]
      have q4 : Sub (sdel S b) (supd (supd (supd (supd (supd S b2 c43) b4 c43) b (rdO T (nameR T (isR T wDefine r)))) b4 (.cells 43 [.str nm, .nils, .int .i64 0, .str ⟨#[]⟩, .str ⟨#[]⟩, .nils] 6)) b (rdO T r5)) := ((hsub0.supd hb0).supd hb4').supd hb0
      have q1 := q1 (supd (supd (supd S b2 c43) b4 c43) b (rdO T (nameR T (isR T wDefine r)))) [.str nm, .nils, .int .i64 0, .str ⟨#[]⟩, .str ⟨#[]⟩, .nils]
      generalize supd (supd (supd (supd (supd S b2 c43) b4 c43) b (rdO T (nameR T (isR T wDefine r)))) b4 (.cells 43 [.str nm, .nils, .int .i64 0, .str ⟨#[]⟩, .str ⟨#[]⟩, .nils] 6)) b (rdO T r5) = S5 at q1 q2 q3 q4 ⊢
      (try simp only [rws, hwR, Nat.reduceAdd, Nat.reduceLeDiff, Nat.reduceLT, Nat.reduceSub, Nat.reduceMul, Nat.reduceEqDiff, Nat.reduceBEq, Int.reduceAdd, Int.reduceToNat, beq_self_eq_true, q2, q3, exC_eq, ones_cons, if_neg n3])
      refine fin ⟨nm, [], e⟩ true r5 _ nm .nils e.kind _ _ _ hrel (by rw [sget_supd, if_neg n2]; exact q1) (q4.supd hb4') ?_
      rw [rlC_eq]
      exact .cons (.same _) (.cons (.nils 2) (.cons (.same _) (.cons (.same _) (.cons (.same _) (.cons (.same _) .nil)))))
    | false =>
      rw [isR_no hd, supd_self hS0]
      have hrel : relP T r = ((⟨⟨#[]⟩, [], zeroE⟩, false), r) := by
        rw [relP, if_neg (by rw [hi]; simp), if_neg (by rw [hd]; simp)]
      (try simp only [rws, hwR, Nat.reduceAdd, Nat.reduceLeDiff, Nat.reduceLT, Nat.reduceSub, Nat.reduceMul, Nat.reduceEqDiff, Nat.reduceBEq, Int.reduceAdd, Int.reduceToNat, beq_self_eq_true, if_neg n3, if_neg m3])
      refine fin ⟨⟨#[]⟩, [], zeroE⟩ false r _ _ .nils 0 _ _ _ hrel hS0 hsub0 ?_
      rw [rlC_eq]
      exact .cons (.same _) (.cons (.nils 2) (.cons (.same _) (.cons (.same _) (.cons (.same _) (.cons (.nils 4) .nil)))))
end Go.HL
set_option linter.unusedVariables false
set_option linter.unusedSimpArgs false
set_option maxRecDepth 4000
namespace Go.HL
def bl (s : ByteArray) : List UInt8 := s.data.toList
def mkB (l : List UInt8) : ByteArray := ⟨l.toArray⟩
theorem mkB_bl (s : ByteArray) : mkB (bl s) = s := by cases s; rfl
theorem bl_len (s : ByteArray) : (bl s).length = s.size := by cases s; simp [bl, ByteArray.size]
theorem bl_extract (s : ByteArray) (i j : Nat) : bl (s.extract i j) = ((bl s).take j).drop i := by
  unfold bl
  rw [ByteArray.data_extract, Array.toList_extract, List.extract_eq_take_drop, List.drop_take]
theorem extract_mk (s : ByteArray) (i j : Nat) : s.extract i j = mkB (((bl s).take j).drop i) := by rw [← bl_extract, mkB_bl]
theorem bl_get (s : ByteArray) (i : Nat) : s[i]? = (bl s)[i]? := byte_list s i
def wordL : Nat → List UInt8 → Nat
  | _, [] => 0
  | i, c :: r => if atN i c.toNat then wordL (i + 1) r + 1 else 0
theorem wordL_le : ∀ {l : List UInt8} {i : Nat}, wordL i l ≤ l.length
  | [], i => by simp [wordL]
  | c :: r, i => by
    unfold wordL
    have := wordL_le (l := r) (i := i + 1)
    split
    · simp; omega
    · simp
theorem c_word {s : ByteArray} (hs : s.size ≤ 1125899906842624) : AFun PG nr_ref11_word [.str s] (.int .i64 (wordL 0 (bl s))) := by
  intro S
  refine w_ref11_word ?_
  unfold B_ref11_word
  refine LoopP.introS (fun i : Nat => [(0, .str s), (3, .int .i64 i)]) (fun i S' => S' = S ∧ i ≤ s.size ∧ wordL 0 (bl s) = i + wordL i ((bl s).drop i)) (fun i => s.size - i) 0 ⟨rfl, by omega, by simp⟩ rfl ?_
  rintro i S' ⟨rfl, hi, hf⟩ r hr
  cases h0 : decide ((i : Int) < s.size) with
  | false =>
    have hd : (bl s).drop i = [] := List.drop_of_length_le (by rw [bl_len]; have := of_decide_eq_false h0; omega)
    rw [hd, wordL] at hf
    (try simp only [rws, hwR, Nat.reduceAdd, Nat.reduceLeDiff, Nat.reduceLT, Nat.reduceSub, Nat.reduceMul, Nat.reduceEqDiff, Nat.reduceBEq, Int.reduceAdd, Int.reduceToNat, beq_self_eq_true, C_ref11_word_1, h0, C_ref11_word_2, C_ref11_word_3, C_ref11_word_4, C_ref11_word_5, C_ref11_word_6, C_ref11_word_7, C_ref11_word_8, C_ref11_word_9, C_ref11_word_10, C_ref11_word_11])
    exact rtW_one ⟨by rw [hf]; rfl, rfl⟩
  | true =>
    have hlt := of_decide_eq_true h0
    obtain ⟨b, hb⟩ := byte_lt hlt
    have hd := drop_cons (l := bl s) (by rw [← bl_get]; exact hb)
    rw [hd, wordL] at hf
    have ea : atN i b.toNat = ((decide (97 ≤ (b.toNat : Int)) && decide ((b.toNat : Int) ≤ 122)) || (decide (0 < (i : Int)) && (decide ((b.toNat : Int) = 95) || (decide (48 ≤ (b.toNat : Int)) && decide ((b.toNat : Int) ≤ 57))))) := by
      have : (!decide ((i : Int) = 0)) = decide (0 < (i : Int)) := by rw [← decide_not]; congr 1; exact propext (by omega)
      simp only [atN, smallN, digitN, this]
    have good : atN i b.toNat = true → r [(0, .str s), (3, .int .i64 ((i : Int) + 1))] S' := fun h => by
      rw [if_pos h] at hf
      exact hr (i + 1) _ ⟨rfl, by omega, by omega⟩ (by omega)
    have bad : atN i b.toNat = false → wordL 0 (bl s) = i := fun h => by
      rw [if_neg (by rw [h]; simp)] at hf
      exact hf
    cases h1 : decide (97 ≤ (b.toNat : Int)) <;> cases h2 : decide ((b.toNat : Int) ≤ 122) <;> cases h3 : decide (0 < (i : Int)) <;> cases h4 : decide ((b.toNat : Int) = 95) <;> cases h5 : decide (48 ≤ (b.toNat : Int)) <;> cases h6 : decide ((b.toNat : Int) ≤ 57) <;>
      simp only [h1, h2, h3, h4, h5, h6, Bool.true_and, Bool.false_and, Bool.and_true, Bool.and_false, Bool.or_true, Bool.true_or, Bool.or_false, Bool.false_or, Bool.not_true, Bool.not_false] at ea <;>
      (try simp only [rws, hwR, Nat.reduceAdd, Nat.reduceLeDiff, Nat.reduceLT, Nat.reduceSub, Nat.reduceMul, Nat.reduceEqDiff, Nat.reduceBEq, Int.reduceAdd, Int.reduceToNat, beq_self_eq_true, C_ref11_word_1, h0, hb, C_ref11_word_2, C_ref11_word_3, C_ref11_word_4, C_ref11_word_5, C_ref11_word_6, C_ref11_word_7, C_ref11_word_8, C_ref11_word_9, C_ref11_word_10, C_ref11_word_11, h1, h2, h3, h4, h5, h6]) <;>
      first
        | exact rtW_one ⟨by rw [bad ea], rfl⟩
        | ((simp (disch := omega) only [hwrap64]); exact rcW_as rfl (good ea))
end Go.HL
set_option linter.unusedVariables false
set_option linter.unusedSimpArgs false
set_option maxRecDepth 4000
namespace Go.HL
def signs : ByteArray := ⟨#[58, 124, 35, 43, 45, 38, 46, 40, 41]⟩
def signF (c : UInt8) : ByteArray := if c ∈ [58, 124, 35, 43, 45, 38, 46, 40, (41 : UInt8)] then mkB [c] else ⟨#[63]⟩
theorem signs_get {i : Nat} {c : UInt8} (h : signs[i]? = some c) : c ∈ [58, 124, 35, 43, 45, 38, 46, 40, (41 : UInt8)] ∧ signs.extract i (i + 1) = mkB [c] := by
  rw [bl_get] at h
  have hm := List.mem_of_getElem? h
  refine ⟨hm, ?_⟩
  rw [extract_mk, List.drop_take, show i + 1 - i = 1 by omega, drop_cons h]
  rfl
theorem c_sign (c : UInt8) : AFun PG nr_ref11_sign [.int .u8 c.toNat] (.str (signF c)) := by
  intro S
  refine w_ref11_sign ?_
  unfold B_ref11_sign
  refine LoopP.introS (fun i : Nat => [(0, .int .u8 c.toNat), (3, .str signs), (4, .int .i64 i)]) (fun i S' => S' = S ∧ i ≤ 9 ∧ ∀ j b, j < i → signs[j]? = some b → b ≠ c) (fun i => 9 - i) 0 ⟨rfl, by omega, by omega⟩ rfl ?_
  rintro i S' ⟨rfl, hi, hn⟩ r hr
  have hsz : signs.size = 9 := rfl
  (try simp only [rws, hwR, Nat.reduceAdd, Nat.reduceLeDiff, Nat.reduceLT, Nat.reduceSub, Nat.reduceMul, Nat.reduceEqDiff, Nat.reduceBEq, Int.reduceAdd, Int.reduceToNat, beq_self_eq_true, C_ref11_sign_1, hsz])
  (refine cnW_intro (fun hlt => ?_) (fun hlt => ?_) <;> (try simp only [hlc] at hlt))
  · obtain ⟨b, hb⟩ := byte_lt (s := signs) (i := i) (by rw [hsz]; omega)
    obtain ⟨h1, h2⟩ := signs_get hb
    (try simp only [rws, hwR, Nat.reduceAdd, Nat.reduceLeDiff, Nat.reduceLT, Nat.reduceSub, Nat.reduceMul, Nat.reduceEqDiff, Nat.reduceBEq, Int.reduceAdd, Int.reduceToNat, beq_self_eq_true, hb])
    (refine cnW_intro (fun he => ?_) (fun he => ?_) <;> (try simp only [hlc] at he))
    · have hbc : b = c := UInt8.toNat_inj.1 (by omega)
      subst hbc
      (simp (disch := omega) only [hwrap64])
      (try simp only [rws, hwR, Nat.reduceAdd, Nat.reduceLeDiff, Nat.reduceLT, Nat.reduceSub, Nat.reduceMul, Nat.reduceEqDiff, Nat.reduceBEq, Int.reduceAdd, Int.reduceToNat, beq_self_eq_true, hsz])
      refine ⟨by omega, by omega, ?_⟩
      rw [show ((i : Int) + 1).toNat = i + 1 by omega, h2]
      exact rtW_one ⟨by rw [signF, if_pos h1], rfl⟩
    · (simp (disch := omega) only [hwrap64])
      refine rcW_as rfl (hr (i + 1) _ ⟨rfl, by omega, fun j x hj hx => ?_⟩ (by omega))
      rcases Nat.lt_succ_iff_lt_or_eq.1 hj with h | rfl
      · exact hn j x h hx
      · rw [hb] at hx; cases hx
        rintro rfl
        exact he rfl
  · refine rtW_one ⟨?_, rfl⟩
    rw [signF, if_neg]
    intro hm
    obtain ⟨j, hj⟩ := List.getElem?_of_mem hm
    have h9 : signs[j]? = some c := by rw [bl_get]; exact hj
    exact hn j c (by have := byte_size h9; omega) h9 rfl
def tokL : Nat → List UInt8 → Nat → Nat → List Tk
  | 0, _, _, _ => []
  | _ + 1, [], line, col => [⟨⟨#[]⟩, line, col⟩]
  | f + 1, c :: r, line, col =>
    if c.toNat = 32 ∨ c.toNat = 9 ∨ c.toNat = 10 then tokL f r (if c.toNat = 10 then line + 1 else line) (if c.toNat = 10 then 1 else col + 1)
    else if wordL 0 (c :: r) = 0 then (if signF c = ⟨#[63]⟩ then [⟨⟨#[63]⟩, line, col⟩] else ⟨signF c, line, col⟩ :: tokL f r line (col + 1))
    else ⟨mkB ((c :: r).take (wordL 0 (c :: r))), line, col⟩ :: tokL f ((c :: r).drop (wordL 0 (c :: r))) line (col + wordL 0 (c :: r))
def tokT (s : ByteArray) : List Tk := tokL (s.size + 1) (bl s) 1 1
theorem c_Tokens {s : ByteArray} (hs : s.size ≤ 4096) : AFun PG nr_ref11_Tokens [.str s] (.sl 3 ((tokT s).map tkC)) := by
  intro S
  refine w_ref11_Tokens ?_
  unfold B_ref11_Tokens
  refine LoopP.introS (fun p : AV × Nat × Nat × Nat => [(0, .str s), (3, p.1), (4, .int .i64 p.2.1), (5, .int .i64 p.2.2.1), (6, .int .i64 p.2.2.2)])
    (fun p S' => p.2.2.2 ≤ s.size ∧ p.2.1 ≤ p.2.2.2 + 1 ∧ p.2.2.1 ≤ p.2.2.2 + 1 ∧ Sub S S' ∧ ∃ (d : List Tk) (f : Nat), s.size - p.2.2.2 < f ∧ d.length ≤ p.2.2.2 ∧ LstN S S' 130 3 p.1 (d.map tkC) ∧ d ++ tokL f ((bl s).drop p.2.2.2) p.2.1 p.2.2.1 = tokT s) (fun p => s.size - p.2.2.2) (.nils, 1, 1, 0)
    ⟨Nat.zero_le _, Nat.le_refl _, Nat.le_refl _, Sub.refl S, [], s.size + 1, by dsimp only; omega, by simp, .nil, rfl⟩ rfl ?_
  rintro ⟨v, line, col, i⟩ S1 ⟨hi, hln, hcl, hs1, d, f, hf, hd, hl, ht⟩ q hq
  dsimp only at hi hln hcl hf hd hl ht
  obtain ⟨f, rfl⟩ : ∃ m, f = m + 1 := ⟨f - 1, by omega⟩
  (try simp only [rws, hwR, Nat.reduceAdd, Nat.reduceLeDiff, Nat.reduceLT, Nat.reduceSub, Nat.reduceMul, Nat.reduceEqDiff, Nat.reduceBEq, Int.reduceAdd, Int.reduceToNat, beq_self_eq_true, C_ref11_Tokens_1])
  (refine cnW_intro (fun hlt => ?_) (fun hlt => ?_) <;> (try simp only [hlc] at hlt))
  · obtain ⟨c, hc⟩ := byte_lt hlt
    have hdc := drop_cons (l := bl s) (by rw [← bl_get]; exact hc)
    rw [hdc, tokL] at ht
    (try simp only [rws, hwR, Nat.reduceAdd, Nat.reduceLeDiff, Nat.reduceLT, Nat.reduceSub, Nat.reduceMul, Nat.reduceEqDiff, Nat.reduceBEq, Int.reduceAdd, Int.reduceToNat, beq_self_eq_true, hc])
    have ws : ∀ w : Bool, w = (decide (c.toNat = 32 ∨ c.toNat = 9 ∨ c.toNat = 10)) → C_ref11_Tokens_3 (fun ae S' => ae = .ret (.sl 3 ((tokT s).map tkC)) ∧ S' = S) q (.str s) v (.int .i64 line) (.int .i64 col) (.int .i64 i) (.int .u8 c.toNat) (.bool w) S1 := by
      intro w hw
      unfold C_ref11_Tokens_3
      cases w with
      | true =>
        have hw := of_decide_eq_true hw.symm
        rw [if_pos hw] at ht
        cases a3 : decide ((c.toNat : Int) = 10) with
        | true =>
          have h10 : c.toNat = 10 := by have := of_decide_eq_true a3; omega
          rw [if_pos h10, if_pos h10] at ht
          (try simp only [rws, hwR, Nat.reduceAdd, Nat.reduceLeDiff, Nat.reduceLT, Nat.reduceSub, Nat.reduceMul, Nat.reduceEqDiff, Nat.reduceBEq, Int.reduceAdd, Int.reduceToNat, beq_self_eq_true, a3])
          (simp (disch := omega) only [hwrap64])
          refine rcW_as rfl (hq (v, line + 1, 1, i + 1) S1 ⟨by dsimp only; omega, by dsimp only; omega, by dsimp only; omega, hs1, d, f, by dsimp only; omega, by dsimp only; omega, hl, ht⟩ (by dsimp only; omega))
        | false =>
          have h10 : ¬ c.toNat = 10 := by have := of_decide_eq_false a3; omega
          rw [if_neg h10, if_neg h10] at ht
          (try simp only [rws, hwR, Nat.reduceAdd, Nat.reduceLeDiff, Nat.reduceLT, Nat.reduceSub, Nat.reduceMul, Nat.reduceEqDiff, Nat.reduceBEq, Int.reduceAdd, Int.reduceToNat, beq_self_eq_true, a3])
          (simp (disch := omega) only [hwrap64])
          refine rcW_as rfl (hq (v, line, col + 1, i + 1) S1 ⟨by dsimp only; omega, by dsimp only; omega, by dsimp only; omega, hs1, d, f, by dsimp only; omega, by dsimp only; omega, hl, ht⟩ (by dsimp only; omega))
      | false =>
        have hw := of_decide_eq_false hw.symm
        rw [if_neg hw] at ht
        have low : ∀ (x : ByteArray) (w : Nat), 1 ≤ w → i + w ≤ s.size → tokT s = d ++ (if x = ⟨#[63]⟩ then [⟨⟨#[63]⟩, line, col⟩] else ⟨x, line, col⟩ :: tokL f ((bl s).drop (i + w)) line (col + w)) → C_ref11_Tokens_4 (fun ae S' => ae = .ret (.sl 3 ((tokT s).map tkC)) ∧ S' = S) q (.str s) v (.int .i64 line) (.int .i64 col) (.int .i64 i) (.int .i64 w) (.str x) S1 := by
          intro x w hw1 hw2 hx
          unfold C_ref11_Tokens_4
          (try simp only [rws, hwR, Nat.reduceAdd, Nat.reduceLeDiff, Nat.reduceLT, Nat.reduceSub, Nat.reduceMul, Nat.reduceEqDiff, Nat.reduceBEq, Int.reduceAdd, Int.reduceToNat, beq_self_eq_true])
          refine hl.app hs1 (xs := [tkC ⟨x, line, col⟩]) (fun r hr => by rw [List.mem_singleton] at hr; subst hr; rfl) rfl (by simp; omega) ?_
          intro v' S2 h1 h2 _
          (try simp only [rws, hwR, Nat.reduceAdd, Nat.reduceLeDiff, Nat.reduceLT, Nat.reduceSub, Nat.reduceMul, Nat.reduceEqDiff, Nat.reduceBEq, Int.reduceAdd, Int.reduceToNat, beq_self_eq_true])
          (refine cnW_intro (fun hq3 => ?_) (fun hq3 => ?_) <;> (try simp only [hlc] at hq3))
          · rw [if_pos hq3] at hx
            have e1 : (d.map tkC) ++ [tkC ⟨x, line, col⟩] = (tokT s).map tkC := by rw [hx, hq3]; simp
            rw [e1] at h2
            exact rtW_lst h1 h2 ⟨rfl, rfl⟩
          · rw [if_neg (by simpa using hq3)] at hx
            (simp (disch := omega) only [hwrap64])
            rw [show (i : Int) + (w : Int) = ((i + w : Nat) : Int) from rfl, show (col : Int) + (w : Int) = ((col + w : Nat) : Int) from rfl]
            refine rcW_as rfl (hq (v', line, col + w, i + w) S2 ⟨by dsimp only; omega, by dsimp only; omega, by dsimp only; omega, h1, d ++ [⟨x, line, col⟩], f, by dsimp only; omega, by simp; omega, by simpa using h2, ?_⟩ (by dsimp only; omega))
            dsimp only
            rw [hx]
            simp
        have hbe : bl (s.extract i s.size) = c :: (bl s).drop (i + 1) := by
          rw [bl_extract, List.take_of_length_le (by rw [bl_len]; exact Nat.le_refl _), hdc]
        have hwl := wordL_le (l := c :: (bl s).drop (i + 1)) (i := 0)
        have hcl2 : (c :: (bl s).drop (i + 1)).length = s.size - i := by rw [← hdc, List.length_drop, bl_len]
        rw [hcl2] at hwl
        have hcw := c_word (s := s.extract i s.size) (by rw [ByteArray.size_extract]; omega)
        rw [hbe] at hcw
        (try simp only [rws, hwR, Nat.reduceAdd, Nat.reduceLeDiff, Nat.reduceLT, Nat.reduceSub, Nat.reduceMul, Nat.reduceEqDiff, Nat.reduceBEq, Int.reduceAdd, Int.reduceToNat, beq_self_eq_true])
        refine ⟨by omega, by omega, ?_⟩
        refine caW_pure hcw ?_
        have hw0 : ∀ r, wordL 0 (c :: r) ≠ 0 → c ≠ 63 := fun r h => by
          rintro rfl
          apply h
          unfold wordL
          rw [if_neg (by decide)]
        have hw0 := hw0 ((bl s).drop (i + 1))
        have htk : (c :: (bl s).drop (i + 1)).drop (wordL 0 (c :: (bl s).drop (i + 1))) = (bl s).drop (i + wordL 0 (c :: (bl s).drop (i + 1))) := by
          rw [← hdc, List.drop_drop]
        have hex : s.extract i (i + wordL 0 (c :: (bl s).drop (i + 1))) = mkB ((c :: (bl s).drop (i + 1)).take (wordL 0 (c :: (bl s).drop (i + 1)))) := by
          rw [extract_mk, List.drop_take, Nat.add_sub_cancel_left, hdc]
        rw [htk] at ht
        generalize hn : wordL 0 (c :: (bl s).drop (i + 1)) = n at *
        (try simp only [rws, hwR, Nat.reduceAdd, Nat.reduceLeDiff, Nat.reduceLT, Nat.reduceSub, Nat.reduceMul, Nat.reduceEqDiff, Nat.reduceBEq, Int.reduceAdd, Int.reduceToNat, beq_self_eq_true])
        (simp (disch := omega) only [hwrap64])
        (try simp only [rws, hwR, Nat.reduceAdd, Nat.reduceLeDiff, Nat.reduceLT, Nat.reduceSub, Nat.reduceMul, Nat.reduceEqDiff, Nat.reduceBEq, Int.reduceAdd, Int.reduceToNat, beq_self_eq_true])
        refine ⟨by omega, by omega, ?_⟩
        rw [show ((i : Int) + (n : Int)).toNat = i + n by omega, hex]
        (refine cnW_intro (fun hn0 => ?_) (fun hn0 => ?_) <;> (try simp only [hlc] at hn0))
        · have hn0 : n = 0 := by omega
          refine caW_pure (c_sign c) ?_
          rw [if_pos hn0] at ht
          refine low _ 1 (by omega) (by omega) ?_
          rw [← ht]
        · have hn0 : ¬ n = 0 := by omega
          rw [if_neg hn0] at ht
          refine low _ n (by omega) (by omega) ?_
          rw [← ht, if_neg]
          intro h63
          have h1 := congrArg bl h63
          obtain ⟨m, hm⟩ : ∃ m, n = m + 1 := ⟨n - 1, by omega⟩
          rw [hm, List.take_succ_cons] at h1
          have h2 : c :: ((bl s).drop (i + 1)).take m = [63] := by
            have : bl (mkB (c :: ((bl s).drop (i + 1)).take m)) = c :: ((bl s).drop (i + 1)).take m := by simp [bl, mkB]
            rw [← this, h1]; rfl
          exact hw0 hn0 (List.cons.inj h2).1
    cases a1 : decide ((c.toNat : Int) = 32) <;> cases a2 : decide ((c.toNat : Int) = 9) <;> cases a3 : decide ((c.toNat : Int) = 10) <;>
      (try simp only [rws, hwR, Nat.reduceAdd, Nat.reduceLeDiff, Nat.reduceLT, Nat.reduceSub, Nat.reduceMul, Nat.reduceEqDiff, Nat.reduceBEq, Int.reduceAdd, Int.reduceToNat, beq_self_eq_true, C_ref11_Tokens_2, a1, a2, a3]) <;> refine ws _ ?_ <;> simp only [decide_eq_true_eq, decide_eq_false_iff_not] at a1 a2 a3 <;> (symm; first | exact decide_eq_true (by omega) | exact decide_eq_false (by omega))
  · rw [List.drop_of_length_le (by rw [bl_len]; omega), tokL] at ht
    (try simp only [rws, hwR, Nat.reduceAdd, Nat.reduceLeDiff, Nat.reduceLT, Nat.reduceSub, Nat.reduceMul, Nat.reduceEqDiff, Nat.reduceBEq, Int.reduceAdd, Int.reduceToNat, beq_self_eq_true])
    refine hl.app hs1 (xs := [tkC ⟨⟨#[]⟩, line, col⟩]) (fun r hr => by rw [List.mem_singleton] at hr; subst hr; rfl) rfl (by simp; omega) ?_
    intro v' S2 h1 h2 _
    have e1 : (d.map tkC) ++ [tkC ⟨⟨#[]⟩, line, col⟩] = (tokT s).map tkC := by rw [← ht]; simp
    rw [e1] at h2
    exact rtW_lst h1 h2 ⟨rfl, rfl⟩
theorem tokL_len : ∀ {f : Nat} {l : List UInt8} {a b : Nat}, (tokL f l a b).length ≤ l.length + 1
  | 0, l, a, b => by simp [tokL]
  | f + 1, [], a, b => by simp [tokL]
  | f + 1, c :: r, a, b => by
    unfold tokL
    split
    · have := tokL_len (f := f) (l := r) (a := if c.toNat = 10 then a + 1 else a) (b := if c.toNat = 10 then 1 else b + 1)
      simp only [List.length_cons]; omega
    · split
      · split
        · simp
        · have := tokL_len (f := f) (l := r) (a := a) (b := b + 1)
          simp only [List.length_cons]; omega
      · rename_i h0
        have := tokL_len (f := f) (l := (c :: r).drop (wordL 0 (c :: r))) (a := a) (b := b + wordL 0 (c :: r))
        have h2 : ((c :: r).drop (wordL 0 (c :: r))).length ≤ r.length := by
          rw [List.length_drop, List.length_cons]; omega
        simp only [List.length_cons]; omega
theorem mkB_size {l : List UInt8} : (mkB l).size = l.length := by simp [mkB, ByteArray.size]
theorem signF_size {c : UInt8} : (signF c).size ≤ 1 := by
  unfold signF
  split
  · rw [mkB_size]; exact Nat.le_refl _
  · decide
theorem tokL_size : ∀ {f : Nat} {l : List UInt8} {a b : Nat}, ∀ t ∈ tokL f l a b, t.s.size ≤ l.length + 1
  | 0, l, a, b, t, ht => by cases ht
  | f + 1, [], a, b, t, ht => by
    rw [tokL, List.mem_singleton] at ht
    subst ht
    exact Nat.zero_le _
  | f + 1, c :: r, a, b, t, ht => by
    unfold tokL at ht
    split at ht
    · have := tokL_size t ht
      simp only [List.length_cons]; omega
    · split at ht
      · split at ht
        · rw [List.mem_singleton] at ht
          subst ht
          exact Nat.le_add_left _ _
        · rcases List.mem_cons.1 ht with rfl | ht
          · have := signF_size (c := c); dsimp only; omega
          · have := tokL_size t ht
            simp only [List.length_cons]; omega
      · rcases List.mem_cons.1 ht with rfl | ht
        · dsimp only
          rw [mkB_size, List.length_take]
          omega
        · have := tokL_size t ht
          rw [List.length_drop] at this
          omega
theorem tokL_last : ∀ {f : Nat} {l : List UInt8} {a b : Nat} {t : Tk}, (tokL f l a b).getLast? = some t → l.length < f → t.s = ⟨#[]⟩ ∨ t.s = ⟨#[63]⟩
  | 0, l, a, b, t, ht, hf => by omega
  | f + 1, [], a, b, t, ht, hf => by
    rw [tokL] at ht
    simp at ht
    subst ht
    exact .inl rfl
  | f + 1, c :: r, a, b, t, ht, hf => by
    have hne : ∀ {f : Nat} {l : List UInt8} {a b : Nat}, l.length < f → tokL f l a b ≠ [] := by
      intro f
      induction f with
      | zero => intro l a b h; omega
      | succ f ih =>
        intro l a b h
        cases l with
        | nil => simp [tokL]
        | cons c r =>
          unfold tokL
          simp only [List.length_cons] at h
          split
          · exact ih (by omega)
          · split
            · split <;> simp
            · simp
    simp only [List.length_cons] at hf
    unfold tokL at ht
    split at ht
    · exact tokL_last ht (by omega)
    · split at ht
      · split at ht
        · simp at ht
          subst ht
          exact .inr rfl
        · rw [List.getLast?_cons_of_ne_nil (hne (by omega))] at ht
          exact tokL_last ht (by omega)
      · rename_i h0
        have hl : ((c :: r).drop (wordL 0 (c :: r))).length < f := by
          rw [List.length_drop, List.length_cons]; omega
        rw [List.getLast?_cons_of_ne_nil (hne hl)] at ht
        exact tokL_last ht hl
theorem tokT_ok {s : ByteArray} (hs : s.size ≤ 4096) : OkTk (tokT s) := by
  have h1 := tokL_len (f := s.size + 1) (l := bl s) (a := 1) (b := 1)
  rw [bl_len] at h1
  refine ⟨?_, fun t ht => ?_, fun t ht => ?_⟩
  · unfold tokT; omega
  · have := tokL_size t ht
    rw [bl_len] at this
    omega
  · rw [← List.getLast?_eq_getElem?] at ht
    exact tokL_last ht (by rw [bl_len]; omega)
end Go.HL
set_option linter.unusedVariables false
set_option linter.unusedSimpArgs false
namespace Go.HL
structure RsSt (T : List Tk) (r : Rd) (p : List Rl × Rd) : Prop where
  st : StepR T r p.2 0
  len : p.1.length ≤ p.2.at'
  ok : ∀ x ∈ p.1, OkR x
  sz : p.2.de = 0 → ∀ x ∈ p.1, rsz x ≤ p.2.at'
theorem rels_next {T : List Tk} (hT : OkTk T) {r0 r : Rd} (hp0 : Pre T 12 r0) {l : List Rl} (h : RsSt T r0 (l, r)) :
    ((relP T r).1.2 = true → RsSt T r0 (l ++ [(relP T r).1.1], (relP T r).2) ∧ r.at' + 1 ≤ (relP T r).2.at') ∧ RsSt T r0 (l, (relP T r).2) := by
  have hp := h.st.pre hp0
  obtain ⟨h1, h2, h3⟩ := rel_ok hT hp
  have h5 := h.len
  have h6 := h1.mono
  dsimp only at h1 h5 h6 hp
  refine ⟨fun hf => ⟨⟨(h.st.trans h1).le (by omega), ?_, fun x hx => ?_, fun h0 x hx => ?_⟩, h3 hf⟩, ⟨(h.st.trans h1).le (by omega), by dsimp only; omega, h.ok, fun h0 x hx => ?_⟩⟩
  · have := h3 hf
    dsimp only at this
    simp only [List.length_append, List.length_cons, List.length_nil]
    omega
  · rcases List.mem_append.1 hx with hx | hx
    · exact h.ok x hx
    · rw [List.mem_singleton.1 hx]; exact h2
  · dsimp only at h0 ⊢
    rcases List.mem_append.1 hx with hx | hx
    · have := h.sz (h1.fault h0) x hx
      dsimp only at this
      omega
    · rw [List.mem_singleton.1 hx]
      have := h1.sz h0
      rw [if_pos hf] at this
      omega
  · dsimp only at h0 ⊢
    have := h.sz (h1.fault h0) x hx
    dsimp only at this
    omega
theorem relsL_ok {T : List Tk} (hT : OkTk T) {r0 : Rd} (hp0 : Pre T 12 r0) : ∀ {f : Nat} {p : List Rl × Rd}, RsSt T r0 p → RsSt T r0 (relsL T f p)
  | 0, p, h => h
  | f + 1, (l, r), h => by
    obtain ⟨k1, k2⟩ := rels_next hT hp0 h
    unfold relsL
    split
    · rename_i hi
      exact relsL_ok hT hp0 (k1 hi).1
    · exact k2
theorem relsL_more {T : List Tk} (hT : OkTk T) {r0 : Rd} (hp0 : Pre T 12 r0) : ∀ {f g : Nat} {p : List Rl × Rd}, RsSt T r0 p → T.length ≤ f + p.2.at' → T.length ≤ g + p.2.at' → relsL T f p = relsL T g p
  | 0, g, p, h, h1, h2 => by have h3 : p.2.at' < T.length := h.st.inr; omega
  | f + 1, 0, p, h, h1, h2 => by have h3 : p.2.at' < T.length := h.st.inr; omega
  | f + 1, g + 1, (l, r), h, h1, h2 => by
    dsimp only at h1 h2
    obtain ⟨k1, k2⟩ := rels_next hT hp0 h
    unfold relsL
    split
    · rename_i hi
      obtain ⟨k3, k4⟩ := k1 hi
      exact relsL_more hT hp0 k3 (by dsimp only; omega) (by dsimp only; omega)
    · rfl
structure TsSt (T : List Tk) (p : List Ty × Rd) : Prop where
  pre : Pre T 12 p.2
  len : p.1.length ≤ p.2.at'
  ok : ∀ t ∈ p.1, OkT t
  sz : p.2.de = 0 → ∀ t ∈ p.1, ∀ x ∈ t.rels, rsz x ≤ p.2.at'
theorem types_next {T : List Tk} (hT : OkTk T) {l : List Ty} {r : Rd} (h : TsSt T (l, r)) (hi : isP T wType r = true) :
    Pre T 12 (isR T wType r) ∧ Pre T 12 (nameR T (isR T wType r)) ∧ RsSt T (nameR T (isR T wType r)) (relsL T T.length ([], nameR T (isR T wType r))) ∧
    TsSt T (l ++ [⟨nameP T (isR T wType r), (relsL T T.length ([], nameR T (isR T wType r))).1⟩], (relsL T T.length ([], nameR T (isR T wType r))).2) ∧ r.at' + 1 ≤ (relsL T T.length ([], nameR T (isR T wType r))).2.at' := by
  have hp : Pre T 12 r := h.pre
  have h1 := is_step hT hp hi (by decide +kernel) (by decide +kernel)
  have hp1 := h1.pre hp
  have h2 := name_step hT hp1
  have hp2 := h2.pre hp1
  have e1 : (isR T wType r).at' = r.at' + 1 := by rw [isR, if_pos hi]
  have hR := relsL_ok hT hp2 (f := T.length) (p := ([], nameR T (isR T wType r))) ⟨StepR.refl hp2, Nat.zero_le _, fun x hx => (by cases hx), fun _ x hx => (by cases hx)⟩
  have hn := name_size hT hp1.inr
  generalize relsL T T.length ([], nameR T (isR T wType r)) = p at hR
  obtain ⟨rs, r3⟩ := p
  have m1 := h2.mono
  have m2 := hR.st.mono
  have m3 := hR.len
  have m4 := h.len
  have hin : r3.at' < T.length := hR.st.inr
  have hTl := hT.len
  dsimp only at m2 m3 m4 ⊢
  refine ⟨hp1, hp2, hR, ⟨hR.st.pre hp2, ?_, fun t ht => ?_, fun h0 t ht x hx => ?_⟩, by omega⟩
  · simp only [List.length_append, List.length_cons, List.length_nil]; omega
  · rcases List.mem_append.1 ht with ht | ht
    · exact h.ok t ht
    · rw [List.mem_singleton.1 ht]
      exact ⟨hn, by dsimp only; omega, hR.ok⟩
  · dsimp only at h0 ⊢
    rcases List.mem_append.1 ht with ht | ht
    · have := h.sz (h1.fault (h2.fault (hR.st.fault h0))) t ht x hx
      dsimp only at this
      omega
    · rw [List.mem_singleton.1 ht] at hx
      exact hR.sz h0 x hx
theorem typesL_ok {T : List Tk} (hT : OkTk T) : ∀ {f : Nat} {p : List Ty × Rd}, TsSt T p → TsSt T (typesL T f p)
  | 0, p, h => h
  | f + 1, (l, r), h => by
    unfold typesL
    split
    · rename_i hi
      exact typesL_ok hT (types_next hT h hi).2.2.2.1
    · exact h
theorem typesL_more {T : List Tk} (hT : OkTk T) : ∀ {f g : Nat} {p : List Ty × Rd}, TsSt T p → T.length ≤ f + p.2.at' → T.length ≤ g + p.2.at' → typesL T f p = typesL T g p
  | 0, g, p, h, h1, h2 => by have h3 : p.2.at' < T.length := h.pre.inr; omega
  | f + 1, 0, p, h, h1, h2 => by have h3 : p.2.at' < T.length := h.pre.inr; omega
  | f + 1, g + 1, (l, r), h, h1, h2 => by
    dsimp only at h1 h2
    unfold typesL
    split
    · rename_i hi
      obtain ⟨-, -, -, k3, k4⟩ := types_next hT h hi
      exact typesL_more hT k3 (by dsimp only; omega) (by dsimp only; omega)
    · rfl
theorem pre0 {T : List Tk} (h : 0 < T.length) : Pre T 12 rd0 := ⟨h, by decide, by decide, fun _ => by decide⟩
theorem ts0 {T : List Tk} (h : 0 < T.length) : TsSt T ([], rd0) := ⟨pre0 h, Nat.zero_le _, fun t ht => (by cases ht), fun _ t ht => (by cases ht)⟩
theorem end_step {T : List Tk} {r : Rd} (hp : Pre T 12 r) : StepR T r (endR T r) 0 := by
  unfold endR
  split
  · exact fail_step _ (by decide) 0 (StepR.refl hp)
  · exact StepR.refl hp
theorem parseT_ok {T : List Tk} (hT : OkTk T) (h : 0 < T.length) : OkS (parseT T).1 ∧ ∀ t ∈ (parseT T).1, ∀ x ∈ t.rels, rsz x ≤ T.length := by
  have hR := typesL_ok hT (f := T.length) (ts0 h)
  have hin : (typesL T T.length ([], rd0)).2.at' < T.length := hR.pre.inr
  have hl := hR.len
  have hTl := hT.len
  unfold parseT
  split
  · rename_i h0
    refine ⟨⟨by dsimp only; omega, hR.ok⟩, fun t ht x hx => ?_⟩
    have := hR.sz ((end_step hR.pre).fault h0) t ht x hx
    omega
  · exact ⟨⟨Nat.zero_le _, fun t ht => (by cases ht)⟩, fun t ht => (by cases ht)⟩
end Go.HL
set_option linter.unusedVariables false
set_option linter.unusedSimpArgs false
set_option maxRecDepth 4000
namespace Go.HL
def Apart (u v : AV) : Prop := ∀ b off n cap, v = .own b off n cap → Aside u b
theorem LstN.keep {S0 S S' : Store} {t sz : Nat} {u u' v : AV} {rows : List (List AV)} (h : LstN S0 S t sz v rows) (ha : Apart u v) (hk : ∀ c o, sget S c = some o → Aside u c → sget S' c = some o ∧ Aside u' c) : LstN S0 S' t sz v rows ∧ Apart u' v := by
  obtain ⟨hr, ⟨rfl, rfl⟩ | ⟨b, cap, rfl, h1, h2, h3⟩⟩ := h
  · exact ⟨.nil, fun b off n cap h => by cases h⟩
  · obtain ⟨k1, k2⟩ := hk b _ h2 (ha b 0 _ _ rfl)
    exact ⟨⟨hr, .inr ⟨b, cap, rfl, h1, k1, h3⟩⟩, fun b' off n cap h => by cases h; exact k2⟩
theorem Apart.symm {u v : AV} (h : Apart u v) : Apart v u := fun b off n cap hu b' off' n' cap' hv => Ne.symm (h b' off' n' cap' hv b off n cap hu)
theorem apart_nils {v : AV} : Apart .nils v := fun b off n cap _ => aside_nils
structure PrI (S : Store) (bR b2 b3 b5 : Nat) (T : List Tk) (v : AV) (p : List Ty × Rd) (S' : Store) : Prop where
  rd : sget S' bR = some (rdO T p.2)
  c2 : sget S' b2 = some (.cells 24 [.nils] 1)
  c3 : sget S' b3 = some (.cells 77 [.int .i64 0, .int .i64 0, .int .i64 0] 3)
  c5 : sget S' b5 = some (.cells 24 [v] 1)
  lst : LstN S S' 51 2 v (p.1.map tyC)
  asd : ∀ c ∈ [bR, b2, b3, b5], Aside v c
  sub : Sub S S'
theorem PrI.mv {S S' : Store} {bR b2 b3 b5 : Nat} {T : List Tk} {v : AV} {l : List Ty} {r : Rd} (h : PrI S bR b2 b3 b5 T v (l, r) S') (hd : [bR, b2, b3, b5].Nodup) (hR : sget S bR = none) (r' : Rd) : PrI S bR b2 b3 b5 T v (l, r') (supd S' bR (rdO T r')) := by
  simp only [List.nodup_cons, List.mem_cons, not_or, List.not_mem_nil, or_false, not_false_eq_true, List.nodup_nil, and_true] at hd
  obtain ⟨⟨n2, n3, n5⟩, ⟨m3, m5⟩, l5⟩ := hd
  exact ⟨by rw [sget_supd, if_pos rfl], by rw [sget_supd, if_neg n2]; exact h.c2, by rw [sget_supd, if_neg n3]; exact h.c3, by rw [sget_supd, if_neg n5]; exact h.c5, h.lst.upd (h.asd bR (by simp)) _, h.asd, h.sub.supd hR⟩
structure PrJ (S : Store) (bR b2 b3 b5 b6 : Nat) (T : List Tk) (v u : AV) (nm : ByteArray) (l : List Ty) (p : List Rl × Rd) (S' : Store) : Prop where
  out : PrI S bR b2 b3 b5 T v (l, p.2) S'
  c6 : sget S' b6 = some (.cells 51 [.str nm, u] 2)
  ins : LstN S S' 43 6 u (p.1.map rlC)
  asd : ∀ c ∈ [bR, b2, b3, b5, b6], Aside u c
  asd6 : Aside v b6
  apt : Apart u v
theorem PrJ.mv {S S' : Store} {bR b2 b3 b5 b6 : Nat} {T : List Tk} {v u : AV} {nm : ByteArray} {l : List Ty} {rs : List Rl} {r : Rd} (h : PrJ S bR b2 b3 b5 b6 T v u nm l (rs, r) S') (hd : [bR, b2, b3, b5].Nodup) (h6 : bR ≠ b6) (hR : sget S bR = none) (r' : Rd) : PrJ S bR b2 b3 b5 b6 T v u nm l (rs, r') (supd S' bR (rdO T r')) :=
  ⟨h.out.mv hd hR r', by rw [sget_supd, if_neg h6]; exact h.c6, h.ins.upd (h.asd bR (by simp)) _, h.asd, h.asd6, h.apt⟩
theorem PrJ.more {S S1 : Store} {bR b2 b3 b5 b6 : Nat} {T : List Tk} {v u : AV} {nm : ByteArray} {l : List Ty} {rs : List Rl} {r : Rd} (h : PrJ S bR b2 b3 b5 b6 T v u nm l (rs, r) S1) (hd6 : ∀ c ∈ [bR, b2, b3, b5], b6 ≠ c) (k6 : sget S b6 = none) (x : Rl) (hlen : rs.length ≤ 100000) {K : Store → Prop} (hK : ∀ u' S3, PrJ S bR b2 b3 b5 b6 T v u' nm l (rs ++ [x], r) S3 → K S3) :
    apW S1 43 6 104 u (.sl 6 [rlC x]) fun u' S2 => soW (objAt S2 b6) S2 1 b6 1 u' K := by
  obtain ⟨⟨hrd, h2, h3, h5, hl, ha, hs⟩, hc6, hin, hau, ha6, hap⟩ := h
  dsimp only at hrd hl hin
  refine hin.app hs (xs := [rlC x]) (fun r hr => by rw [List.mem_singleton] at hr; subst hr; exact rlC_len x) (by rw [rlC_eq]; rfl) (by simp; omega) ?_
  intro u' S2 k1 k2 k3
  obtain ⟨q6, q6a⟩ := k3 b6 _ hc6 (hau b6 (by simp))
  have hone := k2.one
  have hac : aCells u' = [u'] := by cases u' <;> first | rfl | cases hone
  obtain ⟨j1, j2⟩ := hl.keep hap k3
  rw [objAt_some.2 q6, soW_some, hac]
  refine ⟨rfl, by simp, by simp [ones, hone], hK u' _ ⟨⟨?_, ?_, ?_, ?_, j1.upd ha6 _, ha, k1.supd k6⟩, by rw [sget_supd, if_pos rfl]; rfl, ?_, fun c hc => ?_, ha6, j2⟩⟩
  · rw [sget_supd, if_neg (hd6 bR (by simp))]; exact (k3 bR _ hrd (hau bR (by simp))).1
  · rw [sget_supd, if_neg (hd6 b2 (by simp))]; exact (k3 b2 _ h2 (hau b2 (by simp))).1
  · rw [sget_supd, if_neg (hd6 b3 (by simp))]; exact (k3 b3 _ h3 (hau b3 (by simp))).1
  · rw [sget_supd, if_neg (hd6 b5 (by simp))]; exact (k3 b5 _ h5 (hau b5 (by simp))).1
  · simpa using k2.upd q6a _
  · simp only [List.mem_cons, List.not_mem_nil, or_false] at hc
    rcases hc with rfl | rfl | rfl | rfl | rfl
    · exact (k3 _ _ hrd (hau _ (by simp))).2
    · exact (k3 _ _ h2 (hau _ (by simp))).2
    · exact (k3 _ _ h3 (hau _ (by simp))).2
    · exact (k3 _ _ h5 (hau _ (by simp))).2
    · exact q6a
theorem Frs.app {S0 S : Store} : ∀ {a a' b b' : List AV}, Frs S0 S a a' → Frs S0 S b b' → Frs S0 S (a ++ b) (a' ++ b')
  | [], [], b, b', _, h => h
  | [], x :: r, b, b', h, _ => by cases h.1
  | x :: r, [], b, b', h, _ => by cases h.1
  | x :: r, y :: r', b, b', h, k => .cons (h.2 0 x y rfl rfl) (Frs.app ⟨by simpa using h.1, fun i u u' h1 h2 => h.2 (i + 1) u u' (by simpa using h1) (by simpa using h2)⟩ k)
theorem PrJ.typ {S S1 : Store} {bR b2 b3 b5 b6 : Nat} {T : List Tk} {v u : AV} {nm : ByteArray} {l : List Ty} {rs : List Rl} {r : Rd} (h : PrJ S bR b2 b3 b5 b6 T v u nm l (rs, r) S1) (hd : [bR, b2, b3, b5].Nodup) (hd6 : ∀ c ∈ [bR, b2, b3, b5], b6 ≠ c) (hn : ∀ c ∈ [bR, b2, b3, b5], sget S c = none) (hlen : l.length ≤ 100000) {q : LE → Store → Prop} {le : LE} (hK : ∀ v' S3, PrI S bR b2 b3 b5 T v' (l ++ [⟨nm, rs⟩], r) S3 → q le S3) :
    apW S1 51 2 40 v (.sl 2 [[.str nm, u]]) fun v' S2 => soW (objAt S2 b5) S2 1 b5 0 v' fun S3 => rcW q le S3 := by
  obtain ⟨⟨hrd, h2, h3, h5, hl, ha, hs⟩, hc6, hin, hau, ha6, hap⟩ := h
  dsimp only at hrd hl hin
  have honeu := hin.one
  refine hl.app hs (xs := [[.str nm, u]]) (fun r hr => by rw [List.mem_singleton] at hr; subst hr; rfl) (by simp [ones, honeu]; rfl) (by simp; omega) ?_
  intro v' S2 k1 k2 k3
  obtain ⟨q5, q5a⟩ := k3 b5 _ h5 (ha b5 (by simp))
  obtain ⟨qR, qRa⟩ := k3 bR _ hrd (ha bR (by simp))
  obtain ⟨q2, q2a⟩ := k3 b2 _ h2 (ha b2 (by simp))
  obtain ⟨q3, q3a⟩ := k3 b3 _ h3 (ha b3 (by simp))
  obtain ⟨j1, j2⟩ := hin.keep hap.symm k3
  have hone := k2.one
  have hac : aCells v' = [v'] := by cases v' <;> first | rfl | cases hone
  rw [objAt_some.2 q5, soW_some, hac]
  refine ⟨rfl, by simp, by simp [ones, hone], ?_⟩
  simp only [List.nodup_cons, List.mem_cons, not_or, List.not_mem_nil, or_false, not_false_eq_true, List.nodup_nil, and_true] at hd
  obtain ⟨⟨n2, n3, n5⟩, ⟨m3, m5⟩, l5⟩ := hd
  obtain ⟨hr, ⟨rfl, h0⟩ | ⟨bv, cap, rfl, e1, e2, e3, e4, e5⟩⟩ := k2
  · simp at h0
  have dR := qRa bv 0 _ _ rfl
  have d2 := q2a bv 0 _ _ rfl
  have d3 := q3a bv 0 _ _ rfl
  have d5 := q5a bv 0 _ _ rfl
  let S0 : Store := supd (supd (supd (supd S bR (rdO T r)) b2 (.cells 24 [.nils] 1)) b3 (.cells 77 [.int .i64 0, .int .i64 0, .int .i64 0] 3)) b5 (.cells 24 [.own bv 0 ((l.map tyC) ++ [[.str nm, u]]).length cap] 1)
  have hS0 : Sub S0 (supd S2 b5 (.cells 24 [.own bv 0 ((l.map tyC) ++ [[.str nm, u]]).length cap] 1)) := by
    intro x y hx
    rw [sget_supd] at hx ⊢
    by_cases g5 : b5 = x
    · rw [if_pos g5] at hx ⊢; exact hx
    rw [if_neg g5] at hx ⊢
    rw [sget_supd] at hx
    by_cases g3 : b3 = x
    · rw [if_pos g3] at hx; rw [← g3, q3]; exact hx
    rw [if_neg g3, sget_supd] at hx
    by_cases g2 : b2 = x
    · rw [if_pos g2] at hx; rw [← g2, q2]; exact hx
    rw [if_neg g2, sget_supd] at hx
    by_cases gR : bR = x
    · rw [if_pos gR] at hx; rw [← gR, qR]; exact hx
    rw [if_neg gR] at hx
    exact k1 x y hx
  have hv0 : sget S0 bv = none := by
    show sget (supd _ _ _) bv = none
    rw [sget_supd, if_neg d5, sget_supd, if_neg d3, sget_supd, if_neg d2, sget_supd, if_neg dR]
    exact e1
  have hvc : sget (supd S2 b5 (.cells 24 [.own bv 0 ((l.map tyC) ++ [[.str nm, u]]).length cap] 1)) bv = some (.cells 51 ((l.map tyC) ++ [[.str nm, u]]).flatten (cap * 2)) := by
    rw [sget_supd, if_neg d5]; exact e2
  have hcs : ((l.map tyC) ++ [[.str nm, u]]).flatten = (l.map tyC).flatten ++ [.str nm, u] := by simp
  have hcs' : ((l ++ [(⟨nm, rs⟩ : Ty)]).map tyC).flatten = (l.map tyC).flatten ++ [.str nm, .sl 6 (rs.map rlC)] := by simp [tyC]
  have hlen' : ((l ++ [(⟨nm, rs⟩ : Ty)]).map tyC).length = ((l.map tyC) ++ [[.str nm, u]]).length := by simp
  refine rcW_cells (cs' := ((l ++ [(⟨nm, rs⟩ : Ty)]).map tyC).flatten) hS0 hv0 hvc ?_ (hK (.own bv 0 ((l.map tyC) ++ [[.str nm, u]]).length cap) _ ⟨?_, ?_, ?_, ?_, ⟨fun r hr => ?_, .inr ⟨bv, cap, by rw [hlen'], e1, by rw [sget_supd, if_pos rfl], by rw [hlen']; exact e3, e4, by rw [hlen']; exact e5⟩⟩, fun c hc => ?_, ?_⟩)
  · rw [hcs, hcs']
    refine Frs.app (Frs.same _) (.cons (.same _) (.cons (Fr.lst (t := 43) ?_) .nil))
    obtain ⟨g1, ⟨rfl, g2⟩ | ⟨bu, capu, rfl, f1, f2, f3⟩⟩ := j1
    · exact ⟨g1, .inl ⟨rfl, g2⟩⟩
    · refine ⟨g1, .inr ⟨bu, capu, rfl, ?_, ?_, f3⟩⟩
      · have w5 := hau b5 (by simp) bu 0 _ _ rfl
        have w3 := hau b3 (by simp) bu 0 _ _ rfl
        have w2 := hau b2 (by simp) bu 0 _ _ rfl
        have wR := hau bR (by simp) bu 0 _ _ rfl
        have wv := j2 bu 0 _ _ rfl bv 0 _ _ rfl
        rw [sget_supd, if_neg (Ne.symm wv)]
        show sget (supd _ _ _) bu = none
        rw [sget_supd, if_neg w5, sget_supd, if_neg w3, sget_supd, if_neg w2, sget_supd, if_neg wR]
        exact f1
      · have w5 := hau b5 (by simp) bu 0 _ _ rfl
        rw [sget_supd, if_neg w5]; exact f2
  · rw [sget_supd, if_neg (Ne.symm dR)]
    show sget (supd _ _ _) bR = _
    rw [sget_supd, if_neg (Ne.symm n5), sget_supd, if_neg (Ne.symm n3), sget_supd, if_neg (Ne.symm n2), sget_supd, if_pos rfl]
  · rw [sget_supd, if_neg (Ne.symm d2)]
    show sget (supd _ _ _) b2 = _
    rw [sget_supd, if_neg (Ne.symm m5), sget_supd, if_neg (Ne.symm m3), sget_supd, if_pos rfl]
  · rw [sget_supd, if_neg (Ne.symm d3)]
    show sget (supd _ _ _) b3 = _
    rw [sget_supd, if_neg (Ne.symm l5), sget_supd, if_pos rfl]
  · rw [sget_supd, if_neg (Ne.symm d5)]
    show sget (supd _ _ _) b5 = _
    rw [sget_supd, if_pos rfl]
  · obtain ⟨t, -, rfl⟩ := List.mem_map.1 hr
    rfl
  · simp only [List.mem_cons, List.not_mem_nil, or_false] at hc
    rcases hc with rfl | rfl | rfl | rfl
    · exact qRa
    · exact q2a
    · exact q3a
    · exact q5a
  · have s1 := (Sub.refl S).supd (o := rdO T r) (hn bR (by simp))
    exact (((((Sub.refl S).supd (hn bR (by simp))).supd (hn b2 (by simp))).supd (hn b3 (by simp))).supd (hn b5 (by simp))).supd e1
theorem tokL_ne : ∀ {f : Nat} {l : List UInt8} {a b : Nat}, l.length < f → tokL f l a b ≠ []
  | 0, l, a, b, h => by omega
  | f + 1, [], a, b, h => by simp [tokL]
  | f + 1, c :: r, a, b, h => by
    unfold tokL
    simp only [List.length_cons] at h
    split
    · exact tokL_ne (by omega)
    · split
      · split <;> simp
      · simp
theorem tokT_pos (s : ByteArray) : 0 < (tokT s).length := List.length_pos_iff.2 (tokL_ne (by rw [bl_len]; omega))
def parseF (s : ByteArray) : List Ty × AV := if 4096 < s.size then ([], .agg [.int .i64 1, .int .i64 1, .int .i64 2]) else parseT (tokT s)
theorem c_Parse (s : ByteArray) : AFun PG nr_ref11_Parse [.str s] (.tup [scA (parseF s).1, (parseF s).2]) := by
  intro S
  refine w_ref11_Parse ?_
  unfold B_ref11_Parse
  intro b2 hb2
  (try simp only [rws, hwR, Nat.reduceAdd, Nat.reduceLeDiff, Nat.reduceLT, Nat.reduceSub, Nat.reduceMul, Nat.reduceEqDiff, Nat.reduceBEq, Int.reduceAdd, Int.reduceToNat, beq_self_eq_true])
  intro b3 hb3
  have n23 : b3 ≠ b2 := sget_ne hb3 (x := .cells 24 [.nils] 1) (by rw [sget_supd, if_pos rfl])
  have k3 : sget S b3 = none := by rw [sget_supd, if_neg (Ne.symm n23)] at hb3; exact hb3
  (try simp only [rws, hwR, Nat.reduceAdd, Nat.reduceLeDiff, Nat.reduceLT, Nat.reduceSub, Nat.reduceMul, Nat.reduceEqDiff, Nat.reduceBEq, Int.reduceAdd, Int.reduceToNat, beq_self_eq_true, if_neg n23, if_neg (Ne.symm n23)])
  (refine cnW_intro (fun hl => ?_) (fun hl => ?_) <;> (try simp only [hlc] at hl))
  · have hpf : parseF s = ([], .agg [.int .i64 1, .int .i64 1, .int .i64 2]) := by rw [parseF, if_pos (by omega)]
    rw [hpf]
    refine rtW_fr S (.tup [scA [], .agg [.int .i64 1, .int .i64 1, .int .i64 2]]) (((((Sub.refl S).supd hb2).supd k3).supd hb2).supd k3) ?_ ⟨rfl, rfl⟩
    (try simp only [rws, hwR, Nat.reduceAdd, Nat.reduceLeDiff, Nat.reduceLT, Nat.reduceSub, Nat.reduceMul, Nat.reduceEqDiff, Nat.reduceBEq, Int.reduceAdd, Int.reduceToNat, beq_self_eq_true, if_neg n23, if_neg (Ne.symm n23)])
    exact .tu (.cons (.ag (.cons (.nils 2) .nil)) (.cons (.same _) .nil))
  have hs : s.size ≤ 4096 := by omega
  have hT := tokT_ok hs
  have hTl := hT.len
  have hpf : parseF s = parseT (tokT s) := by rw [parseF, if_neg (by omega)]
  refine caW_pure (c_Tokens hs) ?_
  have hpos := tokT_pos s
  rw [hpf]
  generalize tokT s = T at hT hpos hTl ⊢
  clear hpf hl hs
  (try simp only [rws, hwR, Nat.reduceAdd, Nat.reduceLeDiff, Nat.reduceLT, Nat.reduceSub, Nat.reduceMul, Nat.reduceEqDiff, Nat.reduceBEq, Int.reduceAdd, Int.reduceToNat, beq_self_eq_true])
  refine ⟨rfl, rfl, fun bR hbR => ?_⟩
  have nR2 : bR ≠ b2 := sget_ne hbR (x := .cells 24 [.nils] 1) (by rw [sget_supd, if_neg n23, sget_supd, if_pos rfl])
  have nR3 : bR ≠ b3 := sget_ne hbR (x := .cells 77 [.int .i64 0, .int .i64 0, .int .i64 0] 3) (by rw [sget_supd, if_pos rfl])
  have kR : sget S bR = none := by rw [sget_supd, if_neg (Ne.symm nR3), sget_supd, if_neg (Ne.symm nR2)] at hbR; exact hbR
  intro b5 hb5
  have n52 : b5 ≠ b2 := sget_ne hb5 (x := .cells 24 [.nils] 1) (by rw [sget_supd, if_neg nR2, sget_supd, if_neg n23, sget_supd, if_pos rfl])
  have n53 : b5 ≠ b3 := sget_ne hb5 (x := .cells 77 [.int .i64 0, .int .i64 0, .int .i64 0] 3) (by rw [sget_supd, if_neg nR3, sget_supd, if_pos rfl])
  have n5R : b5 ≠ bR := by
    rintro rfl
    rw [sget_supd, if_pos rfl] at hb5; cases hb5
  have k5 : sget S b5 = none := by rw [sget_supd, if_neg (Ne.symm n5R), sget_supd, if_neg (Ne.symm n53), sget_supd, if_neg (Ne.symm n52)] at hb5; exact hb5
  have hd : [bR, b2, b3, b5].Nodup := by
    simp only [List.nodup_cons, List.mem_cons, not_or, List.not_mem_nil, or_false, not_false_eq_true, List.nodup_nil, and_true]
    exact ⟨⟨nR2, nR3, Ne.symm n5R⟩, ⟨Ne.symm n23, Ne.symm n52⟩, Ne.symm n53⟩
  have hn : ∀ c ∈ [bR, b2, b3, b5], sget S c = none := by
    intro c hc
    simp only [List.mem_cons, List.not_mem_nil, or_false] at hc
    rcases hc with rfl | rfl | rfl | rfl <;> assumption
  (try simp only [rws, hwR, Nat.reduceAdd, Nat.reduceLeDiff, Nat.reduceLT, Nat.reduceSub, Nat.reduceMul, Nat.reduceEqDiff, Nat.reduceBEq, Int.reduceAdd, Int.reduceToNat, beq_self_eq_true])
  have hI0 : PrI S bR b2 b3 b5 T .nils ([], rd0) (supd (supd (supd (supd S b2 (.cells 24 [.nils] 1)) b3 (.cells 77 [.int .i64 0, .int .i64 0, .int .i64 0] 3)) bR (rdO T rd0)) b5 (.cells 24 [.nils] 1)) := by
    refine ⟨?_, ?_, ?_, ?_, .nil, fun c _ => aside_nils, ((((Sub.refl S).supd hb2).supd k3).supd kR).supd k5⟩ <;> simp [sget_supd, n23, nR2, nR3, n52, n53, n5R, Ne.symm n23, Ne.symm nR2, Ne.symm nR3, Ne.symm n52, Ne.symm n53, Ne.symm n5R]
  have hfin : typesL T T.length ([], rd0) = typesL T T.length ([], rd0) := rfl
  have hts := ts0 (T := T) hpos
  refine LoopP.introS (fun _ : List Ty × Rd => [(2, .ptr b2 0), (3, .ptr b3 0), (4, .ptr bR 0), (5, .ptr b5 0)])
    (fun p S' => (∃ v, PrI S bR b2 b3 b5 T v p S') ∧ TsSt T p ∧ typesL T T.length p = typesL T T.length ([], rd0)) (fun p => T.length - p.2.at') ([], rd0) ⟨⟨.nils, hI0⟩, hts, rfl⟩ rfl ?_
  clear hI0 hts hfin
  rintro ⟨l, r⟩ S1 ⟨⟨v, hI⟩, hTs, hf⟩ q hq
  have hp : Pre T 12 r := hTs.pre
  have hin : r.at' < T.length := hp.inr
  have hrd := hI.rd
  have hll := hTs.len
  dsimp only at hrd hll
  (try simp only [rws, hwR, Nat.reduceAdd, Nat.reduceLeDiff, Nat.reduceLT, Nat.reduceSub, Nat.reduceMul, Nat.reduceEqDiff, Nat.reduceBEq, Int.reduceAdd, Int.reduceToNat, beq_self_eq_true, C_ref11_Parse_1])
  refine (c_is hT hp.inr wType).ca hrd ?_
  cases hi : isP T wType r with
  | true =>
    obtain ⟨hp1, hp2, hR, hTs2, hmu⟩ := types_next hT hTs hi
    have hf2 : typesL T T.length (l ++ [⟨nameP T (isR T wType r), (relsL T T.length ([], nameR T (isR T wType r))).1⟩], (relsL T T.length ([], nameR T (isR T wType r))).2) = typesL T T.length ([], rd0) := by
      rw [← hf]
      obtain ⟨m, hm⟩ : ∃ m, T.length = m + 1 := ⟨T.length - 1, by omega⟩
      conv => rhs; rw [hm, typesL, if_pos hi]
      exact typesL_more hT hTs2 (by dsimp only; omega) (by dsimp only; omega)
    (try simp only [rws, hwR, Nat.reduceAdd, Nat.reduceLeDiff, Nat.reduceLT, Nat.reduceSub, Nat.reduceMul, Nat.reduceEqDiff, Nat.reduceBEq, Int.reduceAdd, Int.reduceToNat, beq_self_eq_true])
    refine (c_name hT hp1.inr).ca rd_new ?_
    (try simp only [rws, hwR, Nat.reduceAdd, Nat.reduceLeDiff, Nat.reduceLT, Nat.reduceSub, Nat.reduceMul, Nat.reduceEqDiff, Nat.reduceBEq, Int.reduceAdd, Int.reduceToNat, beq_self_eq_true])
    have hI2 := (hI.mv hd kR (isR T wType r)).mv hd kR (nameR T (isR T wType r))
    rw [supd_supd] at hI2
    generalize nameP T (isR T wType r) = nm at hf2 hTs2 ⊢
    have hI2' : PrI S bR b2 b3 b5 T v (l, nameR T (isR T wType r)) (supd S1 bR (rdO T (nameR T (isR T wType r)))) := hI2
    clear hI2
    generalize supd S1 bR (rdO T (nameR T (isR T wType r))) = S2 at hI2' ⊢
    generalize nameR T (isR T wType r) = r2 at hI2' hp2 hR hf2 hTs2 hmu
    intro b6 hb6
    (try simp only [rws, hwR, Nat.reduceAdd, Nat.reduceLeDiff, Nat.reduceLT, Nat.reduceSub, Nat.reduceMul, Nat.reduceEqDiff, Nat.reduceBEq, Int.reduceAdd, Int.reduceToNat, beq_self_eq_true])
    have hd6 : ∀ c ∈ [bR, b2, b3, b5], b6 ≠ c := by
      intro c hc
      simp only [List.mem_cons, List.not_mem_nil, or_false] at hc
      rcases hc with rfl | rfl | rfl | rfl
      · exact sget_ne hb6 hI2'.rd
      · exact sget_ne hb6 hI2'.c2
      · exact sget_ne hb6 hI2'.c3
      · exact sget_ne hb6 hI2'.c5
    have k6 := Sub.none hI2'.sub hb6
    have hJ0 : PrJ S bR b2 b3 b5 b6 T v .nils nm l ([], r2) (supd S2 b6 (.cells 51 [.str nm, .nils] 2)) := by
      have a6 := hI2'.lst.fresh hb6
      refine ⟨⟨?_, ?_, ?_, ?_, hI2'.lst.upd a6 _, hI2'.asd, hI2'.sub.supd k6⟩, by rw [sget_supd, if_pos rfl], .nil, fun c _ => aside_nils, a6, apart_nils⟩
      · rw [sget_supd, if_neg (hd6 bR (by simp))]; exact hI2'.rd
      · rw [sget_supd, if_neg (hd6 b2 (by simp))]; exact hI2'.c2
      · rw [sget_supd, if_neg (hd6 b3 (by simp))]; exact hI2'.c3
      · rw [sget_supd, if_neg (hd6 b5 (by simp))]; exact hI2'.c5
    have hRs0 : RsSt T r2 ([], r2) := ⟨StepR.refl hp2, Nat.zero_le _, fun x hx => (by cases hx), fun _ x hx => (by cases hx)⟩
    refine LoopP.introS (fun _ : List Rl × Rd => [(2, .ptr b2 0), (3, .ptr b3 0), (4, .ptr bR 0), (5, .ptr b5 0), (6, .ptr b6 0)])
      (fun p S' => (∃ u, PrJ S bR b2 b3 b5 b6 T v u nm l p S') ∧ RsSt T r2 p ∧ relsL T T.length p = relsL T T.length ([], r2)) (fun p => T.length - p.2.at') ([], r2) ⟨⟨.nils, hJ0⟩, hRs0, rfl⟩ rfl ?_
    clear hJ0 hRs0 hI2'
    rintro ⟨rs, r3⟩ S3 ⟨⟨u, hJ⟩, hRs, hfr⟩ q2 hq2
    have hp3 := hRs.st.pre hp2
    have hin3 : r3.at' < T.length := hp3.inr
    have hlr := hRs.len
    dsimp only at hlr
    obtain ⟨k1, k2⟩ := rels_next hT hp2 hRs
    (try simp only [rws, hwR, Nat.reduceAdd, Nat.reduceLeDiff, Nat.reduceLT, Nat.reduceSub, Nat.reduceMul, Nat.reduceEqDiff, Nat.reduceBEq, Int.reduceAdd, Int.reduceToNat, beq_self_eq_true, C_ref11_Parse_4])
    refine (c_rel hT hp3).ca hJ.out.rd ?_
    have hJ2 := hJ.mv hd (Ne.symm (hd6 bR (by simp))) kR (relP T r3).2
    have o6 := objAt_some.2 hJ2.c6
    have o5 := objAt_some.2 hJ2.out.c5
    cases hok : (relP T r3).1.2 with
    | true =>
      obtain ⟨k3', k4⟩ := k1 hok
      have hfr2 : relsL T T.length (rs ++ [(relP T r3).1.1], (relP T r3).2) = relsL T T.length ([], r2) := by
        rw [← hfr]
        obtain ⟨m, hm⟩ : ∃ m, T.length = m + 1 := ⟨T.length - 1, by omega⟩
        conv => rhs; rw [hm, relsL, if_pos hok]
        exact relsL_more hT hp2 k3' (by dsimp only; omega) (by dsimp only; omega)
      have hmr := hJ2.more hd6 k6 (relP T r3).1.1 (by omega) (K := fun S4 => rcW q2 [(2, .ptr b2 0), (3, .ptr b3 0), (4, .ptr bR 0), (5, .ptr b5 0), (6, .ptr b6 0)] S4) fun u' S4 hJ4 => rcW_as rfl (hq2 (rs ++ [(relP T r3).1.1], (relP T r3).2) S4 ⟨⟨u', hJ4⟩, k3', hfr2⟩ (by dsimp only; omega))
      simp only [rlC_eq] at hmr
      (try simp only [rws, hwR, Nat.reduceAdd, Nat.reduceLeDiff, Nat.reduceLT, Nat.reduceSub, Nat.reduceMul, Nat.reduceEqDiff, Nat.reduceBEq, Int.reduceAdd, Int.reduceToNat, beq_self_eq_true, rlC_eq, cellsAt_of o6, ones_cons])
      exact hmr
    | false =>
      have hstop : relsL T T.length (rs, r3) = (rs, (relP T r3).2) := by
        obtain ⟨m, hm⟩ : ∃ m, T.length = m + 1 := ⟨T.length - 1, by omega⟩
        rw [hm, relsL, if_neg (by rw [hok]; simp)]
      rw [hstop] at hfr
      rw [← hfr] at hf2 hTs2 hmu
      have hone := hJ2.ins.one
      have htp := hJ2.typ hd hd6 hn (by omega) (q := q) (le := [(2, .ptr b2 0), (3, .ptr b3 0), (4, .ptr bR 0), (5, .ptr b5 0)]) fun v' S4 hI4 => hq (l ++ [⟨nm, rs⟩], (relP T r3).2) S4 ⟨⟨v', hI4⟩, hTs2, hf2⟩ (by dsimp only at hmu ⊢; omega)
      dsimp only
      (try simp only [rws, hwR, Nat.reduceAdd, Nat.reduceLeDiff, Nat.reduceLT, Nat.reduceSub, Nat.reduceMul, Nat.reduceEqDiff, Nat.reduceBEq, Int.reduceAdd, Int.reduceToNat, beq_self_eq_true, rlC_eq, cellsAt_of o6, cellsAt_of o5, ones_cons])
      exact htp
  | false =>
    rw [isR_no hi, supd_self hrd]
    have hstop : typesL T T.length (l, r) = (l, r) := by
      cases T.length with
      | zero => rfl
      | succ m => rw [typesL, if_neg (by rw [hi]; simp)]
    rw [hstop] at hf
    have ho := rd_at hrd
    (try simp only [rws, hwR, Nat.reduceAdd, Nat.reduceLeDiff, Nat.reduceLT, Nat.reduceSub, Nat.reduceMul, Nat.reduceEqDiff, Nat.reduceBEq, Int.reduceAdd, Int.reduceToNat, beq_self_eq_true, cellsAt_of ho])
    have fin : ∀ S2, PrI S bR b2 b3 b5 T v (l, endR T r) S2 → C_ref11_Parse_3 (fun ae S' => ae = .ret (.tup [scA (parseT T).1, (parseT T).2]) ∧ S' = S) (.ptr b2 0) (.ptr b3 0) (.ptr bR 0) (.ptr b5 0) S2 := by
      intro S2 hI2
      have hr2 := rd_at hI2.rd
      have o2 := objAt_some.2 hI2.c2
      have o3 := objAt_some.2 hI2.c3
      have o5 := objAt_some.2 hI2.c5
      have hone := hI2.lst.one
      have hac : aCells v = [v] := by cases v <;> first | rfl | cases hone
      unfold C_ref11_Parse_3
      (try simp only [rws, hwR, Nat.reduceAdd, Nat.reduceLeDiff, Nat.reduceLT, Nat.reduceSub, Nat.reduceMul, Nat.reduceEqDiff, Nat.reduceBEq, Int.reduceAdd, Int.reduceToNat, beq_self_eq_true, cellsAt_of hr2])
      have hpt : parseT T = if (endR T r).de = 0 then (l, .agg [.int .i64 0, .int .i64 0, .int .i64 0]) else ([], .agg [.int .i64 (endR T r).dl, .int .i64 (endR T r).dc, .int .i64 (endR T r).de]) := by
        rw [parseT, ← hf]
      have nR2' : b2 ≠ bR := Ne.symm nR2
      have n32 := Ne.symm n23
      (refine cnW_intro (fun hde => ?_) (fun hde => ?_) <;> (try simp only [hlc] at hde))
      · rw [if_neg hde] at hpt
        rw [hpt]
        (try simp only [rws, hwR, Nat.reduceAdd, Nat.reduceLeDiff, Nat.reduceLT, Nat.reduceSub, Nat.reduceMul, Nat.reduceEqDiff, Nat.reduceBEq, Int.reduceAdd, Int.reduceToNat, beq_self_eq_true, o2])
        refine kpW_one (by rw [sget_supd, if_neg nR2']) ?_
        have o3' : objAt (supd S2 b2 (.cells 24 [.nils] 1)) b3 = some (77, [.int .i64 0, .int .i64 0, .int .i64 0], 3) := by rw [objAt_ne n32]; exact o3
        (try simp only [rws, hwR, Nat.reduceAdd, Nat.reduceLeDiff, Nat.reduceLT, Nat.reduceSub, Nat.reduceMul, Nat.reduceEqDiff, Nat.reduceBEq, Int.reduceAdd, Int.reduceToNat, beq_self_eq_true, o3', if_neg n32, o3])
        refine rtW_fr S (.tup [scA [], .agg [.int .i64 (endR T r).dl, .int .i64 (endR T r).dc, .int .i64 (endR T r).de]]) ((hI2.sub.supd hb2).supd k3) ?_ ⟨rfl, rfl⟩
        (try simp only [rws, hwR, Nat.reduceAdd, Nat.reduceLeDiff, Nat.reduceLT, Nat.reduceSub, Nat.reduceMul, Nat.reduceEqDiff, Nat.reduceBEq, Int.reduceAdd, Int.reduceToNat, beq_self_eq_true, if_neg n23, if_neg n32])
        exact .tu (.cons (.ag (.cons (.nils 2) .nil)) (.cons (.same _) .nil))
      · rw [if_pos hde] at hpt
        rw [hpt]
        have o3' : ∀ x, objAt (supd S2 b2 (.cells 24 [x] 1)) b3 = some (77, [.int .i64 0, .int .i64 0, .int .i64 0], 3) := fun x => by rw [objAt_ne n32]; exact o3
        (try simp only [rws, hwR, Nat.reduceAdd, Nat.reduceLeDiff, Nat.reduceLT, Nat.reduceSub, Nat.reduceMul, Nat.reduceEqDiff, Nat.reduceBEq, Int.reduceAdd, Int.reduceToNat, beq_self_eq_true, cellsAt_of o5, o2, hac, o3', ones, hone, Bool.and_true, if_neg n32, o3])
        refine rtW_fr S (.tup [scA l, .agg [.int .i64 0, .int .i64 0, .int .i64 0]]) ((hI2.sub.supd hb2).supd k3) ?_ ⟨rfl, rfl⟩
        (try simp only [rws, hwR, Nat.reduceAdd, Nat.reduceLeDiff, Nat.reduceLT, Nat.reduceSub, Nat.reduceMul, Nat.reduceEqDiff, Nat.reduceBEq, Int.reduceAdd, Int.reduceToNat, beq_self_eq_true, if_neg n23, if_neg n32])
        have a2 := hI2.asd b2 (by simp)
        have a3 := hI2.asd b3 (by simp)
        exact .tu (.cons (.ag (.cons (Fr.lst ((hI2.lst.upd a2 _).upd a3 _)) .nil)) (.cons (.same _) .nil))
    cases a1 : decide (r.de = 0) with
    | false =>
      (try simp only [rws, hwR, Nat.reduceAdd, Nat.reduceLeDiff, Nat.reduceLT, Nat.reduceSub, Nat.reduceMul, Nat.reduceEqDiff, Nat.reduceBEq, Int.reduceAdd, Int.reduceToNat, beq_self_eq_true, C_ref11_Parse_2])
      refine fin S1 ?_
      have : endR T r = r := by rw [endR, if_neg (fun h => by rw [decide_eq_true h.1] at a1; cases a1)]
      rw [this]
      exact hI
    | true =>
      have hde := of_decide_eq_true a1
      (try simp only [rws, hwR, Nat.reduceAdd, Nat.reduceLeDiff, Nat.reduceLT, Nat.reduceSub, Nat.reduceMul, Nat.reduceEqDiff, Nat.reduceBEq, Int.reduceAdd, Int.reduceToNat, beq_self_eq_true])
      refine (c_next hT hp.inr).ca hrd ?_
      rw [supd_self hrd]
      (try simp only [rws, hwR, Nat.reduceAdd, Nat.reduceLeDiff, Nat.reduceLT, Nat.reduceSub, Nat.reduceMul, Nat.reduceEqDiff, Nat.reduceBEq, Int.reduceAdd, Int.reduceToNat, beq_self_eq_true, tkC])
      cases a2 : decide ((nxP T r).s = ⟨#[]⟩) with
      | true =>
        (try simp only [rws, hwR, Nat.reduceAdd, Nat.reduceLeDiff, Nat.reduceLT, Nat.reduceSub, Nat.reduceMul, Nat.reduceEqDiff, Nat.reduceBEq, Int.reduceAdd, Int.reduceToNat, beq_self_eq_true, C_ref11_Parse_2])
        refine fin S1 ?_
        have : endR T r = r := by rw [endR, if_neg (fun h => h.2 (of_decide_eq_true a2))]
        rw [this]
        exact hI
      | false =>
        (try simp only [rws, hwR, Nat.reduceAdd, Nat.reduceLeDiff, Nat.reduceLT, Nat.reduceSub, Nat.reduceMul, Nat.reduceEqDiff, Nat.reduceBEq, Int.reduceAdd, Int.reduceToNat, beq_self_eq_true, C_ref11_Parse_2])
        refine (c_next hT hp.inr).ca hrd ?_
        rw [supd_self hrd]
        (try simp only [rws, hwR, Nat.reduceAdd, Nat.reduceLeDiff, Nat.reduceLT, Nat.reduceSub, Nat.reduceMul, Nat.reduceEqDiff, Nat.reduceBEq, Int.reduceAdd, Int.reduceToNat, beq_self_eq_true, tkC])
        refine (c_fail (nxP T r) 8).ca hrd ?_
        have : endR T r = failP (nxP T r) 8 r := by rw [endR, if_pos ⟨hde, of_decide_eq_false a2⟩]
        rw [← this]
        exact fin _ (hI.mv hd kR _)
end Go.HL
set_option linter.unusedVariables false
set_option linter.unusedSimpArgs false
set_option maxRecDepth 4000
namespace Go.HL
theorem parseF_snd (s : ByteArray) : ∃ a b c : Int, (parseF s).2 = .agg [.int .i64 a, .int .i64 b, .int .i64 c] := by
  unfold parseF
  split
  · exact ⟨_, _, _, rfl⟩
  · unfold parseT
    split
    · exact ⟨_, _, _, rfl⟩
    · exact ⟨_, _, _, rfl⟩
theorem c_read (s : ByteArray) : AFun PG nr_law12_read [.str s] (scA (parseF s).1) := by
  intro S
  obtain ⟨x, y, z, h⟩ := parseF_snd s
  refine w_law12_read ?_
  unfold B_law12_read
  intro b2 hb2
  (try simp only [rws, hwR, Nat.reduceAdd, Nat.reduceLeDiff, Nat.reduceLT, Nat.reduceSub, Nat.reduceMul, Nat.reduceEqDiff, Nat.reduceBEq, Int.reduceAdd, Int.reduceToNat, beq_self_eq_true])
  refine caW_pure (c_Parse s) ?_
  rw [h]
  (try simp only [rws, hwR, Nat.reduceAdd, Nat.reduceLeDiff, Nat.reduceLT, Nat.reduceSub, Nat.reduceMul, Nat.reduceEqDiff, Nat.reduceBEq, Int.reduceAdd, Int.reduceToNat, beq_self_eq_true, scA])
  intro b3 hb3
  have n1 : b3 ≠ b2 := sget_ne hb3 (x := .cells 24 [.nils] 1) (by rw [sget_supd, if_pos rfl])
  have k3 : sget S b3 = none := by rw [sget_supd, if_neg (Ne.symm n1)] at hb3; exact hb3
  (try simp only [rws, hwR, Nat.reduceAdd, Nat.reduceLeDiff, Nat.reduceLT, Nat.reduceSub, Nat.reduceMul, Nat.reduceEqDiff, Nat.reduceBEq, Int.reduceAdd, Int.reduceToNat, beq_self_eq_true])
  intro b4 hb4
  have n2 : b4 ≠ b3 := by
    rintro rfl
    rw [sget_supd, if_pos rfl] at hb4; cases hb4
  have n3 : b4 ≠ b2 := by
    rintro rfl
    rw [sget_supd, if_neg n1, sget_supd, if_pos rfl] at hb4; cases hb4
  have k4 : sget S b4 = none := by rw [sget_supd, if_neg (Ne.symm n2), sget_supd, if_neg (Ne.symm n3)] at hb4; exact hb4
  (try simp only [rws, hwR, Nat.reduceAdd, Nat.reduceLeDiff, Nat.reduceLT, Nat.reduceSub, Nat.reduceMul, Nat.reduceEqDiff, Nat.reduceBEq, Int.reduceAdd, Int.reduceToNat, beq_self_eq_true, if_neg n1, if_neg (Ne.symm n1), if_neg n2, if_neg (Ne.symm n2), if_neg n3, if_neg (Ne.symm n3)])
  refine rtW_go S ?_ ?_
  · intro a o ha
    have e2 := sget_ne hb2 ha
    have e3 := sget_ne k3 ha
    have e4 := sget_ne k4 ha
    simp only [sget_sdel, sget_supd, if_neg e2, if_neg e3, if_neg e4]
    exact ha
  · (try simp only [rws, hwR, Nat.reduceAdd, Nat.reduceLeDiff, Nat.reduceLT, Nat.reduceSub, Nat.reduceMul, Nat.reduceEqDiff, Nat.reduceBEq, Int.reduceAdd, Int.reduceToNat, beq_self_eq_true])
theorem c_levels {a : Lv} (ha : a.length ≤ 1125899906842624) (ha' : ∀ l ∈ a, l.length ≤ 1125899906842624) : AFun PG nr_law12_levels [.sl 1 (lvC a), .sl 1 (lvC a)] (.bool true) := by
  intro S
  refine w_law12_levels ?_
  unfold B_law12_levels
  have hln : (lvC a).length = a.length := by simp [lvC]
  (try simp only [rws, hwR, Nat.reduceAdd, Nat.reduceLeDiff, Nat.reduceLT, Nat.reduceSub, Nat.reduceMul, Nat.reduceEqDiff, Nat.reduceBEq, Int.reduceAdd, Int.reduceToNat, beq_self_eq_true, decide_true, Bool.not_true])
  refine LoopP.introS (fun i : Nat => [(0, .sl 1 (lvC a)), (1, .sl 1 (lvC a)), (5, .int .i64 i)]) (fun i S' => S' = S ∧ i ≤ a.length) (fun i => a.length - i) 0 ⟨rfl, by omega⟩ rfl ?_
  rintro i S' ⟨rfl, hi⟩ q hq
  (try simp only [rws, hwR, Nat.reduceAdd, Nat.reduceLeDiff, Nat.reduceLT, Nat.reduceSub, Nat.reduceMul, Nat.reduceEqDiff, Nat.reduceBEq, Int.reduceAdd, Int.reduceToNat, beq_self_eq_true, C_law12_levels_1])
  (refine cnW_intro (fun hlt => ?_) (fun hlt => ?_) <;> (try simp only [hlc] at hlt)) <;> rw [hln] at hlt
  · obtain ⟨l, hl⟩ := get_lt hlt
    have hbl := ha' l (List.mem_of_getElem? hl)
    have hcl : (lvC a)[i]? = some [.sl 1 (l.map fun x => [iv x])] := by rw [lvC, List.getElem?_map, hl]; rfl
    (try simp only [rws, hwR, Nat.reduceAdd, Nat.reduceLeDiff, Nat.reduceLT, Nat.reduceSub, Nat.reduceMul, Nat.reduceEqDiff, Nat.reduceBEq, Int.reduceAdd, Int.reduceToNat, beq_self_eq_true, hcl, decide_true, Bool.not_true])
    refine LoopP.introS (fun k : Nat => [(0, .sl 1 (lvC a)), (1, .sl 1 (lvC a)), (5, .int .i64 i), (6, .int .i64 k)]) (fun k S2 => S2 = S' ∧ k ≤ l.length) (fun k => l.length - k) 0 ⟨rfl, by omega⟩ rfl ?_
    rintro k S2 ⟨rfl, hk⟩ q2 hq2
    (try simp only [rws, hwR, Nat.reduceAdd, Nat.reduceLeDiff, Nat.reduceLT, Nat.reduceSub, Nat.reduceMul, Nat.reduceEqDiff, Nat.reduceBEq, Int.reduceAdd, Int.reduceToNat, beq_self_eq_true, C_law12_levels_2, hcl])
    (refine cnW_intro (fun hlt2 => ?_) (fun hlt2 => ?_) <;> (try simp only [hlc] at hlt2))
    · obtain ⟨x, hx⟩ := get_lt hlt2
      (try simp only [rws, hwR, Nat.reduceAdd, Nat.reduceLeDiff, Nat.reduceLT, Nat.reduceSub, Nat.reduceMul, Nat.reduceEqDiff, Nat.reduceBEq, Int.reduceAdd, Int.reduceToNat, beq_self_eq_true, hx, Option.map_some, decide_true, Bool.not_true])
      (simp (disch := omega) only [hwrap64])
      exact rcW_as rfl (hq2 (k + 1) _ ⟨rfl, by omega⟩ (by omega))
    · (simp (disch := omega) only [hwrap64])
      exact rcW_as rfl (hq (i + 1) _ ⟨rfl, by omega⟩ (by omega))
  · exact rtW_one ⟨rfl, rfl⟩
end Go.HL
set_option linter.unusedVariables false
set_option linter.unusedSimpArgs false
set_option maxRecDepth 20000
namespace Go.HL
def tx1 : ByteArray := ⟨#[116, 121, 112, 101, 32, 117, 32, 114, 101, 108, 97, 116, 105, 111, 110, 32, 97, 58, 32, 117, 32, 100, 101, 102, 105, 110, 101, 32, 98, 58, 32, 97, 32, 45, 32, 99, 32, 100, 101, 102, 105, 110, 101, 32, 99, 58, 32, 97, 32, 45, 32, 98]⟩
def tx2 : ByteArray := ⟨#[116, 121, 112, 101, 32, 117, 32, 114, 101, 108, 97, 116, 105, 111, 110, 32, 97, 58, 32, 117, 32, 100, 101, 102, 105, 110, 101, 32, 98, 58, 32, 97, 32, 45, 32, 99, 32, 100, 101, 102, 105, 110, 101, 32, 99, 58, 32, 97]⟩
def tx3 : ByteArray := ⟨#[116, 121, 112, 101, 32, 117, 32, 114, 101, 108, 97, 116, 105, 111, 110, 32, 97, 58, 32, 117]⟩
def bu : ByteArray := ⟨#[117]⟩
def ba : ByteArray := ⟨#[97]⟩
def bb : ByteArray := ⟨#[98]⟩
def bc : ByteArray := ⟨#[99]⟩
def vE (n : ByteArray) : Ex := .mk 0 n ⟨#[]⟩ []
def relA : Rl := ⟨ba, [⟨bu, ⟨#[]⟩⟩], zeroE⟩
def sc1 : List Ty := [⟨bu, [relA, ⟨bb, [], .mk 4 ⟨#[]⟩ ⟨#[]⟩ [vE ba, vE bc]⟩, ⟨bc, [], .mk 4 ⟨#[]⟩ ⟨#[]⟩ [vE ba, vE bb]⟩]⟩]
def sc2 : List Ty := [⟨bu, [relA, ⟨bb, [], .mk 4 ⟨#[]⟩ ⟨#[]⟩ [vE ba, vE bc]⟩, ⟨bc, [], vE ba⟩]⟩]
def sc3 : List Ty := [⟨bu, [relA]⟩]
theorem p1 : (parseF tx1).1 = sc1 := by kernel_rfl
theorem p2 : (parseF tx2).1 = sc2 := by kernel_rfl
theorem p3 : (parseF tx3).1 = sc3 := by kernel_rfl
theorem parseF_ok {s : ByteArray} : OkS (parseF s).1 ∧ (s.size ≤ 900 → OkN (parseF s).1) := by
  unfold parseF
  split
  · exact ⟨⟨Nat.zero_le _, fun t ht => (by cases ht)⟩, fun _ t ht => (by cases ht)⟩
  · rename_i h
    have hT := tokT_ok (s := s) (by omega)
    have hl := tokL_len (f := s.size + 1) (l := bl s) (a := 1) (b := 1)
    rw [bl_len] at hl
    obtain ⟨h1, h2⟩ := parseT_ok hT (tokT_pos s)
    refine ⟨h1, fun h t ht r hr => ?_⟩
    have := h2 t ht r hr
    unfold tokT at this
    omega
theorem k1 : chkF sc1 = flA 0 1 11 := by kernel_rfl
theorem k2 : errA (chkF sc2) = 0 := by kernel_rfl
theorem k3 : levF sc2 = [[0, 1, 0]] := by kernel_rfl
theorem k4 : findF sc3 bu ba = some (0, 0, relA) := by kernel_rfl
theorem ok1 : OkS sc1 ∧ OkN sc1 := by
  have h := parseF_ok (s := tx1)
  rw [p1] at h
  exact ⟨h.1, h.2 (by decide)⟩
theorem ok2 : OkS sc2 ∧ OkN sc2 := by
  have h := parseF_ok (s := tx2)
  rw [p2] at h
  exact ⟨h.1, h.2 (by decide)⟩
theorem ok3 : OkS sc3 ∧ OkN sc3 := by
  have h := parseF_ok (s := tx3)
  rw [p3] at h
  exact ⟨h.1, h.2 (by decide)⟩
theorem c_awake12 : AFun PG nr_law12_awake [] (.bool true) := by
  intro S
  refine w_law12_awake ?_
  unfold B_law12_awake
  have r1 := c_read tx1
  have r2 := c_read tx2
  have r3 := c_read tx3
  rw [p1] at r1
  rw [p2] at r2
  rw [p3] at r3
  have q1 := c_rules_Check ok1.1 ok1.2
  rw [k1] at q1
  have q2 := c_rules_Levels ok2.1 ok2.2
  rw [lvlF, if_pos k2, k3] at q2
  have q3 := c_rules_Find ok3.1 bu ba
  rw [k4] at q3
  refine caW_pure r1 ?_
  refine caW_pure q1 ?_
  (try simp only [rws, hwR, Nat.reduceAdd, Nat.reduceLeDiff, Nat.reduceLT, Nat.reduceSub, Nat.reduceMul, Nat.reduceEqDiff, Nat.reduceBEq, Int.reduceAdd, Int.reduceToNat, beq_self_eq_true, flA])
  refine caW_pure r2 ?_
  refine caW_pure q2 ?_
  (try simp only [rws, hwR, Nat.reduceAdd, Nat.reduceLeDiff, Nat.reduceLT, Nat.reduceSub, Nat.reduceMul, Nat.reduceEqDiff, Nat.reduceBEq, Int.reduceAdd, Int.reduceToNat, beq_self_eq_true])
  refine caW_pure r3 ?_
  refine caW_pure q3 ?_
  (try simp only [rws, hwR, Nat.reduceAdd, Nat.reduceLeDiff, Nat.reduceLT, Nat.reduceSub, Nat.reduceMul, Nat.reduceEqDiff, Nat.reduceBEq, Int.reduceAdd, Int.reduceToNat, beq_self_eq_true, rlC_eq, C_law12_awake_1, C_law12_awake_2, C_law12_awake_3, C_law12_awake_4, C_law12_awake_5, C_law12_awake_6, lvC, relA])
  refine cnW_intro (fun hx => ?_) (fun hx => ?_)
  · exact absurd hx (by decide)
  refine grW_intro (fun hg => ?_) (fun hg => ?_)
  · (try simp only [rws, hwR, Nat.reduceAdd, Nat.reduceLeDiff, Nat.reduceLT, Nat.reduceSub, Nat.reduceMul, Nat.reduceEqDiff, Nat.reduceBEq, Int.reduceAdd, Int.reduceToNat, beq_self_eq_true, hg])
    rw [show (AV.int .i64 2) = AV.int .i64 ((2 : Nat) : Int) from rfl]
    (try simp only [rws, hwR, Nat.reduceAdd, Nat.reduceLeDiff, Nat.reduceLT, Nat.reduceSub, Nat.reduceMul, Nat.reduceEqDiff, Nat.reduceBEq, Int.reduceAdd, Int.reduceToNat, beq_self_eq_true, iv, iaW_nat])
    trace_state
    exact rtW_one ⟨by simp, rfl⟩
  · exact absurd hg (by decide)
end Go.HL
set_option linter.unusedVariables false
set_option linter.unusedSimpArgs false
set_option maxRecDepth 4000
namespace Go.HL
theorem sum_mem : ∀ {l : List Nat} {x : Nat}, x ∈ l → x ≤ l.sum
  | [], x, h => by cases h
  | y :: l, x, h => by
    rw [List.sum_cons]
    rcases List.mem_cons.1 h with rfl | h
    · omega
    · have := sum_mem h; omega
theorem few_N {s : List Ty} {most : Int} (h : fewF s most = true) (hm : most ≤ 1000) : OkN s := by
  have h1 := few_size h
  intro t ht r hr
  have h2 : rsz r ≤ tsz t := by
    unfold tsz
    exact sum_mem (List.mem_map_of_mem hr)
  have h3 : tsz t ≤ (s.map tsz).sum := sum_mem (List.mem_map_of_mem ht)
  unfold ssz at h1
  omega
theorem lev_lens {s : List Ty} (h : GoodS s) : (levF s).length ≤ 1125899906842624 ∧ ∀ l ∈ levF s, l.length ≤ 1125899906842624 := by
  have hsz := h.sizes
  have h1 := shp_len (lev_shp s)
  refine ⟨by omega, fun l hl => ?_⟩
  obtain ⟨i, hi⟩ := List.getElem?_of_mem hl
  have hil := (List.getElem?_eq_some_iff.1 hi).1
  obtain ⟨l2, h2, h3⟩ := shp_row (lev_shp s) (List.getElem?_eq_getElem (by omega : i < s.length))
  rw [hi] at h2
  cases h2
  have := hsz.2.1 s[i] (List.getElem_mem _)
  omega
end Go.HL
set_option linter.unusedVariables false
set_option linter.unusedSimpArgs false
namespace Go.HL
theorem raiseN_quiet {N : Nat} {n : Nat × Nat} : ∀ {l : List Ln} {a : Lv × Bool}, a.2 = false → (raiseN N n l a).2 = false → (raiseN N n l a) = a ∧ ∀ x ∈ l, ¬ (getL a.1 n < getL a.1 x.1 + x.2.toNat ∧ getL a.1 n ≤ N)
  | [], a, h0, h => ⟨rfl, fun x hx => by cases hx⟩
  | l :: r, a, h0, h => by
    have stay : ∀ {l : List Ln} {a : Lv × Bool}, a.2 = true → (raiseN N n l a).2 = true := by
      intro l
      induction l with
      | nil => intro a h; exact h
      | cons x l ih =>
        intro a h
        unfold raiseN
        split
        · exact ih rfl
        · exact ih h
    unfold raiseN at h ⊢
    split at h
    · rw [stay rfl] at h; cases h
    · rename_i hc
      rw [if_neg hc]
      obtain ⟨h1, h2⟩ := raiseN_quiet h0 h
      refine ⟨h1, fun x hx => ?_⟩
      rcases List.mem_cons.1 hx with rfl | hx
      · exact hc
      · exact h2 x hx
theorem roundF_quiet {N : Nat} : ∀ {w : List Rw} {a : Lv × Bool}, a.2 = false → (roundF N w a).2 = false → ∀ x ∈ w, ∀ l ∈ x.2, ¬ (getL a.1 x.1 < getL a.1 l.1 + l.2.toNat ∧ getL a.1 x.1 ≤ N)
  | [], a, h0, h, x, hx => by cases hx
  | y :: w, a, h0, h, x, hx => by
    unfold roundF at h
    have stay : ∀ {w : List Rw} {a : Lv × Bool}, a.2 = true → (roundF N w a).2 = true := by
      intro w
      induction w with
      | nil => intro a h; exact h
      | cons z w ih =>
        intro a h
        unfold roundF
        refine ih ?_
        have : ∀ {l : List Ln} {a : Lv × Bool}, a.2 = true → (raiseN N z.1 l a).2 = true := by
          intro l
          induction l with
          | nil => intro a h; exact h
          | cons x l ih =>
            intro a h
            unfold raiseN
            split
            · exact ih rfl
            · exact ih h
        exact this h
    have h1 : (raiseN N y.1 y.2 a).2 = false := by
      cases hq : (raiseN N y.1 y.2 a).2 with
      | false => rfl
      | true => rw [stay hq] at h; cases h
    obtain ⟨e1, e2⟩ := raiseN_quiet h0 h1
    rw [e1] at h
    rcases List.mem_cons.1 hx with rfl | hx
    · exact e2
    · exact roundF_quiet h0 h x hx
theorem iterF_quiet {N : Nat} {s : List Ty} {w : List Rw} (hw : RwOk s w) : ∀ {f : Nat} {lv : Lv}, Shp lv s → Bdd N lv → manyF s * (N + 1) < f + phi N lv → (roundF N w (iterF N w f lv, false)).2 = false
  | 0, lv, h1, h2, h3 => by have := phi_shp (N := N) h1; omega
  | f + 1, lv, h1, h2, h3 => by
    obtain ⟨k1, k2, k3, k4, k5, k6⟩ := roundF_keep (N := N) (a := (lv, false)) hw h1 h2
    unfold iterF
    split
    · rename_i hr
      have := k5 rfl hr
      exact iterF_quiet hw k1 k2 (by dsimp only at this; omega)
    · rename_i hr
      have hr : (roundF N w (lv, false)).2 = false := by simpa using hr
      have h4 := k6 hr
      dsimp only at h4
      rw [h4]
      exact hr
theorem lev_quiet {s : List Ty} (h : manyF s ≤ 256) : (roundF (manyF s) (rowsF s) (levF s, false)).2 = false := by
  refine iterF_quiet (rows_ok s) (shp_zero s) bdd_zero ?_
  have : manyF s * (manyF s + 1) ≤ 256 * 257 := Nat.mul_le_mul h (by omega)
  omega
theorem lev_stands {s : List Ty} (h : errA (chkF s) = 0) {i k : Nat} {t : Ty} {r : Rl} (ht : s[i]? = some t) (hr : t.rels[k]? = some r) : getL (levF s) (i, k) ≤ manyF s ∧ ∀ l ∈ leansF s t.name r, getL (levF s) l.1 + l.2.toNat ≤ getL (levF s) (i, k) := by
  have hg := chk_good h
  have h1 : getL (levF s) (i, k) ≤ manyF s := by
    unfold chkF at h
    split at h
    · rename_i h0; exact absurd h h0
    · cases hq : eachF s (cycF s) with
      | some q =>
        obtain ⟨a, b, e⟩ := q
        have := eachF_err hq
        rw [hq] at h
        exact absurd h this
      | none =>
        have h2 := eachF_none hq ht hr
        unfold cycF at h2
        split at h2
        · cases h2
        · omega
  refine ⟨h1, fun l hl => ?_⟩
  have h2 := roundF_quiet rfl (lev_quiet hg.many)
  have hm : ∃ x ∈ rowsF s, x.1 = (i, k) ∧ x.2 = leansF s t.name r := by
    have h3 := lookR_at ht hr
    have key : ∀ w : List Rw, lookR w (i, k) = some (leansF s t.name r) → ∃ x ∈ w, x.1 = (i, k) ∧ x.2 = leansF s t.name r := by
      intro w
      induction w with
      | nil => intro h; cases h
      | cons x w ih =>
        intro h
        unfold lookR at h
        split at h
        · rename_i he
          exact ⟨x, by simp, he.symm, Option.some.inj h⟩
        · obtain ⟨y, hy, h4⟩ := ih h
          exact ⟨y, List.mem_cons_of_mem _ hy, h4⟩
    exact key _ h3
  obtain ⟨x, hx, e1, e2⟩ := hm
  have h4 := h2 x hx l (by rw [e2]; exact hl)
  rw [e1] at h4
  dsimp only at h4
  omega
end Go.HL
set_option linter.unusedVariables false
set_option linter.unusedSimpArgs false
namespace Go.HL
def Closed (w : List Rw) (M : Nat × Nat → Nat) : Prop := ∀ x ∈ w, ∀ l ∈ x.2, M l.1 + l.2.toNat ≤ M x.1
def Under (lv : Lv) (M : Nat × Nat → Nat) : Prop := ∀ p, getL lv p ≤ M p
theorem under_set {lv : Lv} {M : Nat × Nat → Nat} (h : Under lv M) {n : Nat × Nat} {v : Nat} (hv : v ≤ M n) : Under (setL lv n v) M := by
  intro p
  by_cases hin : In lv n
  · rw [getL_set hin]
    split
    · rename_i hp; subst hp; exact hv
    · exact h p
  · have : setL lv n v = lv := by
      unfold setL
      apply List.ext_getElem?
      intro i
      rw [List.getElem?_set]
      split
      · rename_i hi
        subst hi
        cases hl : lv[n.1]? with
        | none =>
          rw [if_neg (by have := List.getElem?_eq_none_iff.1 hl; omega)]
        | some l =>
          rw [if_pos (List.getElem?_eq_some_iff.1 hl).1, Option.getD_some]
          have : ¬ n.2 < l.length := fun h2 => hin ⟨l, hl, h2⟩
          rw [List.set_eq_of_length_le (by omega)]
      · rfl
    rw [this]
    exact h p
theorem raiseN_under {N : Nat} {n : Nat × Nat} {M : Nat × Nat → Nat} : ∀ {l : List Ln} {a : Lv × Bool}, (∀ x ∈ l, M x.1 + x.2.toNat ≤ M n) → Under a.1 M → Under (raiseN N n l a).1 M
  | [], a, hc, h => h
  | x :: l, a, hc, h => by
    unfold raiseN
    have h1 := hc x (by simp)
    split
    · exact raiseN_under (fun y hy => hc y (List.mem_cons_of_mem _ hy)) (under_set h (by have := h x.1; omega))
    · exact raiseN_under (fun y hy => hc y (List.mem_cons_of_mem _ hy)) h
theorem roundF_under {N : Nat} {M : Nat × Nat → Nat} : ∀ {w : List Rw} {a : Lv × Bool}, Closed w M → Under a.1 M → Under (roundF N w a).1 M
  | [], a, hc, h => h
  | x :: w, a, hc, h => by
    unfold roundF
    exact roundF_under (fun y hy => hc y (List.mem_cons_of_mem _ hy)) (raiseN_under (hc x (by simp)) h)
theorem iterF_under {N : Nat} {M : Nat × Nat → Nat} {w : List Rw} (hc : Closed w M) : ∀ {f : Nat} {lv : Lv}, Under lv M → Under (iterF N w f lv) M
  | 0, lv, h => h
  | f + 1, lv, h => by
    have h1 := roundF_under (N := N) (a := (lv, false)) hc h
    unfold iterF
    split
    · exact iterF_under hc h1
    · exact h1
theorem zero_under {s : List Ty} {M : Nat × Nat → Nat} : Under (zeroL s) M := fun p => by
  have : getL (zeroL s) p = 0 := by
    unfold getL zeroL
    rw [List.getElem?_map]
    cases s[p.1]? with
    | none => simp
    | some t =>
      simp only [Option.map_some, Option.getD_some, List.getElem?_replicate]
      split <;> rfl
  omega
theorem lev_least {s : List Ty} {M : Nat × Nat → Nat} (hc : Closed (rowsF s) M) : Under (levF s) M := iterF_under hc zero_under
end Go.HL
set_option linter.unusedVariables false
set_option linter.unusedSimpArgs false
namespace Go.HL
def UniqN (s : List Ty) : Prop := ∀ (i j : Nat) (t u : Ty), s[i]? = some t → s[j]? = some u → t.name = u.name → i = j
theorem uniq_of_dup {s : List Ty} (h : dupI [] s = none) : UniqN s := fun i j t u hi hj e => by
  have h1 := dup_typ h hi
  have h2 := dup_typ h hj
  rw [e, h2] at h1
  exact (Option.some.inj h1).symm
theorem dup_some : ∀ {r ts : List Ty} {k : Nat}, dupI ts r = some k → ∃ m t, k = ts.length + m ∧ r[m]? = some t ∧ dupB (ts ++ r.take m) t = true
  | [], ts, k, h => by cases h
  | x :: r, ts, k, h => by
    unfold dupI at h
    split at h
    · rename_i h0
      refine ⟨0, x, ?_, rfl, by simpa using h0⟩
      exact (Option.some.inj h).symm
    · obtain ⟨m, t, h1, h2, h3⟩ := dup_some h
      refine ⟨m + 1, t, ?_, by simpa using h2, by simpa using h3⟩
      rw [h1]; simp; omega
theorem dup_of_uniq {s : List Ty} (h : UniqN s) : dupI [] s = none := by
  cases hq : dupI [] s with
  | none => rfl
  | some k =>
    obtain ⟨m, t, h1, h2, h3⟩ := dup_some hq
    rw [List.nil_append] at h3
    unfold dupB at h3
    obtain ⟨j, hj⟩ := Option.isSome_iff_exists.1 h3
    obtain ⟨⟨u, hu, hn⟩, -⟩ := firstI_some.1 hj
    have hjm : j < m := by
      have := (List.getElem?_eq_some_iff.1 hu).1
      rw [List.length_take] at this
      omega
    rw [List.getElem?_take, if_pos hjm] at hu
    have := h j m u t hu h2 (by simpa using hn)
    omega
theorem typF_of_uniq {s : List Ty} (h : UniqN s) {i : Nat} {t : Ty} (ht : s[i]? = some t) : typF s t.name = some i := dup_typ (dup_of_uniq h) ht
theorem typF_name {s : List Ty} {n : ByteArray} {i : Nat} (h : typF s n = some i) : ∃ t, s[i]? = some t ∧ t.name = n := by
  obtain ⟨⟨t, ht, hn⟩, -⟩ := firstI_some.1 h
  exact ⟨t, ht, by simpa using hn⟩
theorem typF_none {s : List Ty} {n : ByteArray} (h : typF s n = none) : ∀ (i : Nat) (t : Ty), s[i]? = some t → t.name ≠ n := fun i t ht => by
  have := firstI_none.1 h i t ht
  simpa using this
structure Rot (s s' : List Ty) (sg : Nat → Nat) : Prop where
  len : s'.length = s.length
  at' : ∀ (i : Nat) (t : Ty), s[i]? = some t → s'[sg i]? = some t
  back : ∀ (j : Nat) (t : Ty), s'[j]? = some t → ∃ i, sg i = j ∧ s[i]? = some t
section
variable {s s' : List Ty} {sg : Nat → Nat}
theorem Rot.uniq (h : Rot s s' sg) (hu : UniqN s) : UniqN s' := fun a b t u ha hb e => by
  obtain ⟨i, rfl, hi⟩ := h.back a t ha
  obtain ⟨j, rfl, hj⟩ := h.back b u hb
  rw [hu i j t u hi hj e]
theorem Rot.typ (h : Rot s s' sg) (hu : UniqN s) (n : ByteArray) : typF s' n = (typF s n).map sg := by
  cases hq : typF s n with
  | some i =>
    obtain ⟨t, ht, rfl⟩ := typF_name hq
    exact typF_of_uniq (h.uniq hu) (h.at' i t ht)
  | none =>
    cases hq' : typF s' n with
    | none => rfl
    | some j =>
      obtain ⟨t, ht, hn⟩ := typF_name hq'
      obtain ⟨i, -, hi⟩ := h.back j t ht
      exact absurd hn (typF_none hq i t hi)
theorem Rot.find (h : Rot s s' sg) (hu : UniqN s) (t n : ByteArray) : findF s' t n = (findF s t n).map fun q => (sg q.1, q.2.1, q.2.2) := by
  unfold findF
  rw [h.typ hu]
  cases hq : typF s t with
  | none => rfl
  | some i =>
    obtain ⟨ty, hty, -⟩ := typF_name hq
    simp only [Option.map_some, h.at' i ty hty, hty]
    cases relIn ty.rels n with
    | none => rfl
    | some k =>
      dsimp only
      cases ty.rels[k]? <;> rfl
theorem Rot.over (h : Rot s s' sg) (hu : UniqN s) (refs : List Rf) (n : ByteArray) : overF s' refs n = (overF s refs n).map fun p => (sg p.1, p.2) := by
  unfold overF
  rw [List.map_filterMap]
  congr 1
  funext f
  split
  · rw [h.find hu]
    cases findF s f.ty n <;> rfl
  · rfl
theorem Rot.atom (h : Rot s s' sg) (hu : UniqN s) (t : ByteArray) (e : Ex) : atomF s' t e = atomF s t e := by
  unfold atomF
  rw [h.find hu]
  cases findF s t e.name with
  | none => rfl
  | some q =>
    obtain ⟨i, k, r⟩ := q
    simp only [Option.map_some, h.over hu, List.length_map]
theorem Rot.names (h : Rot s s' sg) (hu : UniqN s) (t : ByteArray) (r : Rl) : namesF s' t r = namesF s t r := by
  have e1 : atomF s' t = atomF s t := funext fun e => h.atom hu t e
  have e2 : refOkF s' = refOkF s := by
    funext f
    unfold refOkF
    rw [h.typ hu, h.find hu]
    simp only [Option.isSome_map]
  unfold namesF
  rw [e1, e2]
def sgL (sg : Nat → Nat) (l : Ln) : Ln := ((sg l.1.1, l.1.2), l.2)
theorem Rot.leans (h : Rot s s' sg) (hu : UniqN s) (t : ByteArray) (r : Rl) : leansF s' t r = (leansF s t r).map (sgL sg) := by
  unfold leansF
  split
  · rw [List.map_flatMap]
    congr 1
    funext p
    unfold leafF
    rw [h.find hu]
    cases findF s t p.1.name with
    | none => rfl
    | some q =>
      obtain ⟨i, k, w⟩ := q
      simp only [Option.map_some, h.over hu]
      split
      · simp [sgL]
      · simp [sgL]
  · rw [List.map_filterMap]
    congr 1
    funext f
    unfold refLean
    split
    · rfl
    · rw [h.find hu]
      cases findF s f.ty f.rl <;> rfl
end
end Go.HL
set_option linter.unusedVariables false
set_option linter.unusedSimpArgs false
namespace Go.HL
theorem eachR_all {α : Type} {f : α → Nat → Rl → Int × α} : ∀ {l : List Rl} {k : Nat} {a : α}, (∀ a m r, l[m]? = some r → (f a (k + m) r).1 = 0) → (eachR f k l a).1 = none
  | [], k, a, h => rfl
  | x :: l, k, a, h => by
    have h0 := h a 0 x rfl
    rw [Nat.add_zero] at h0
    unfold eachR
    rw [if_pos h0]
    exact eachR_all fun a m r hr => by
      have := h a (m + 1) r (by simpa using hr)
      rw [show k + 1 + m = k + (m + 1) by omega]
      exact this
theorem eachT_all {α : Type} {f : α → Nat → Nat → Ty → Rl → Int × α} : ∀ {l : List Ty} {i : Nat} {a : α}, (∀ a m k t r, l[m]? = some t → t.rels[k]? = some r → (f a (i + m) k t r).1 = 0) → (eachT f i l a).1 = none
  | [], i, a, h => rfl
  | x :: l, i, a, h => by
    have h0 : (eachR (fun a k r => f a i k x r) 0 x.rels a).1 = none := eachR_all fun a m r hr => by
      have := h a 0 m x r rfl hr
      rw [Nat.add_zero] at this
      rw [Nat.zero_add]
      exact this
    unfold eachT
    cases hq : eachR (fun a k r => f a i k x r) 0 x.rels a with
    | mk o a' =>
      rw [hq] at h0
      dsimp only at h0
      subst h0
      dsimp only
      exact eachT_all fun a m k t r ht hr => by
        have := h a (m + 1) k t r (by simpa using ht) hr
        rw [show i + 1 + m = i + (m + 1) by omega]
        exact this
theorem eachF_all {s : List Ty} {f : Nat → Nat → Ty → Rl → Int} (h : ∀ i k t r, s[i]? = some t → t.rels[k]? = some r → f i k t r = 0) : eachF s f = none :=
  eachT_all fun _ m k t r ht hr => by rw [Nat.zero_add]; exact h m k t r ht hr
theorem szF_zero {s : List Ty} (h1 : s.length ≤ 16) (h2 : ∀ t ∈ s, t.rels.length ≤ 16) (h3 : UniqN s) : szF s = flA 0 0 0 := by
  have hl : longI s = none := firstI_none.2 fun i t ht => decide_eq_false (by have := h2 t (List.mem_of_getElem? ht); omega)
  rw [szF, if_neg (by omega), hl, dup_of_uniq h3]
theorem good_plain {s : List Ty} (h : GoodS s) : errA (plainF s) = 0 := by
  rw [plainF, if_neg (by rintro (h1 | h1); exact h.some h1; rw [h.may] at h1; cases h1), h.size, flA_err, if_neg (by simp), eachF_all (f := twiceF s) (fun i k t r ht hr => by rw [twiceF, if_pos (h.once ht hr)])]
  dsimp only
  rw [eachF_all (f := fun _ _ t r => namesF s t.name r) (fun i k t r ht hr => h.name ht hr)]
  rfl
theorem chk_zero {s : List Ty} : errA (chkF s) = 0 ↔ GoodS s ∧ ∀ (i k : Nat) (t : Ty) (r : Rl), s[i]? = some t → t.rels[k]? = some r → getL (levF s) (i, k) ≤ manyF s := by
  constructor
  · intro h
    exact ⟨chk_good h, fun i k t r ht hr => (lev_stands h ht hr).1⟩
  · rintro ⟨h1, h2⟩
    rw [chkF, if_neg (by rw [good_plain h1]; simp), eachF_all (f := cycF s) fun i k t r ht hr => by rw [cycF, if_neg (by have := h2 i k t r ht hr; omega)]]
    rfl
section
variable {s s' : List Ty} {sg : Nat → Nat}
theorem Rot.mem (h : Rot s s' sg) {t : Ty} : t ∈ s' → t ∈ s := fun ht => by
  obtain ⟨j, hj⟩ := List.getElem?_of_mem ht
  obtain ⟨i, -, hi⟩ := h.back j t hj
  exact List.mem_of_getElem? hi
theorem Rot.good (h : Rot s s' sg) (hg : GoodS s) : GoodS s' := by
  have hsz := hg.sizes
  have hu := uniq_of_dup hsz.2.2
  refine ⟨by rw [h.len]; exact hg.some, ?_, szF_zero (by rw [h.len]; exact hsz.1) (fun t ht => hsz.2.1 t (h.mem ht)) (h.uniq hu), fun {j k t r} ht hr => ?_, fun {j k t r} ht hr => ?_⟩
  · have := hg.may
    unfold scB at this ⊢
    rw [List.all_eq_true] at this ⊢
    exact fun t ht => this t (h.mem ht)
  · obtain ⟨i, rfl, hi⟩ := h.back j t ht
    have h1 := hg.once hi hr
    unfold fiN at h1 ⊢
    rw [findF_rel] at h1 ⊢
    rw [h.typ hu, h.find hu, typF_of_uniq hu hi]
    rw [typF_of_uniq hu hi] at h1
    simp only [Option.map_some, Option.getD_some, Option.map_map, Prod.mk.injEq] at h1 ⊢
    refine ⟨trivial, ?_⟩
    have e : ((fun q : Nat × Nat × Rl => q.2.1) ∘ fun q : Nat × Nat × Rl => (sg q.1, q.2.1, q.2.2)) = fun q => q.2.1 := rfl
    rw [e]
    exact h1.2
  · obtain ⟨i, rfl, hi⟩ := h.back j t ht
    rw [h.names hu]
    exact hg.name hi hr
end
end Go.HL
set_option linter.unusedVariables false
set_option linter.unusedSimpArgs false
namespace Go.HL
theorem rowsR_mem {s : List Ty} {i : Nat} {n : ByteArray} : ∀ {l : List Rl} {k : Nat} {x : Rw}, x ∈ rowsR s i n k l → ∃ m r, l[m]? = some r ∧ x = ((i, k + m), leansF s n r)
  | [], k, x, hx => by cases hx
  | r :: l, k, x, hx => by
    rw [rowsR] at hx
    rcases List.mem_cons.1 hx with rfl | hx
    · exact ⟨0, r, rfl, rfl⟩
    · obtain ⟨m, q, h1, h2⟩ := rowsR_mem hx
      exact ⟨m + 1, q, by simpa using h1, by rw [h2, show k + 1 + m = k + (m + 1) by omega]⟩
theorem rowsT_mem {s : List Ty} : ∀ {l : List Ty} {i : Nat} {x : Rw}, x ∈ rowsT s i l → ∃ m t k r, l[m]? = some t ∧ t.rels[k]? = some r ∧ x = ((i + m, k), leansF s t.name r)
  | [], i, x, hx => by cases hx
  | t :: l, i, x, hx => by
    rw [rowsT] at hx
    rcases List.mem_append.1 hx with hx | hx
    · obtain ⟨k, r, h1, h2⟩ := rowsR_mem hx
      exact ⟨0, t, k, r, rfl, h1, by rw [h2, Nat.zero_add]; rfl⟩
    · obtain ⟨m, u, k, r, h1, h2, h3⟩ := rowsT_mem hx
      exact ⟨m + 1, u, k, r, by simpa using h1, h2, by rw [h3, show i + 1 + m = i + (m + 1) by omega]⟩
theorem rows_mem {s : List Ty} {x : Rw} (hx : x ∈ rowsF s) : ∃ i k t r, s[i]? = some t ∧ t.rels[k]? = some r ∧ x = ((i, k), leansF s t.name r) := by
  obtain ⟨m, t, k, r, h1, h2, h3⟩ := rowsT_mem hx
  exact ⟨m, k, t, r, h1, h2, by rw [h3, Nat.zero_add]⟩
structure Rots (s s' : List Ty) (sg tg : Nat → Nat) : Prop where
  r : Rot s s' sg
  b : Rot s' s tg
  id1 : ∀ i, i < s.length → tg (sg i) = i
  id2 : ∀ j, j < s.length → sg (tg j) = j
  many : manyF s' = manyF s
theorem Rots.symm {s s' : List Ty} {sg tg : Nat → Nat} (h : Rots s s' sg tg) : Rots s' s tg sg := ⟨h.b, h.r, fun j hj => h.id2 j (by rw [← h.r.len]; exact hj), fun i hi => h.id1 i (by rw [← h.r.len]; exact hi), h.many.symm⟩
theorem Rots.under {s s' : List Ty} {sg tg : Nat → Nat} (h : Rots s s' sg tg) (hk : errA (chkF s) = 0) : Under (levF s') fun p => getL (levF s) (tg p.1, p.2) := by
  have hg := chk_good hk
  have hu := uniq_of_dup hg.sizes.2.2
  refine lev_least fun x hx l hl => ?_
  obtain ⟨j, k, t, r, ht, hr, rfl⟩ := rows_mem hx
  obtain ⟨i, rfl, hi⟩ := h.r.back j t ht
  dsimp only at hl ⊢
  rw [h.r.leans hu] at hl
  obtain ⟨l0, hl0, rfl⟩ := List.mem_map.1 hl
  have h1 := (lev_stands hk hi hr).2 l0 hl0
  obtain ⟨u, hu2, -⟩ := leans_in l0 hl0
  have hlt := (List.getElem?_eq_some_iff.1 hu2).1
  rw [h.id1 i (List.getElem?_eq_some_iff.1 hi).1]
  simp only [sgL]
  rw [h.id1 _ hlt]
  exact h1
theorem Rots.ok {s s' : List Ty} {sg tg : Nat → Nat} (h : Rots s s' sg tg) (hk : errA (chkF s) = 0) : errA (chkF s') = 0 := by
  obtain ⟨h1, h2⟩ := chk_zero.1 hk
  refine chk_zero.2 ⟨h.r.good h1, fun j k t r ht hr => ?_⟩
  obtain ⟨i, rfl, hi⟩ := h.r.back j t ht
  have h3 := h.under hk (sg i, k)
  dsimp only at h3
  rw [h.id1 i (List.getElem?_eq_some_iff.1 hi).1] at h3
  have := h2 i k t r hi hr
  rw [h.many]
  omega
theorem Rots.same {s s' : List Ty} {sg tg : Nat → Nat} (h : Rots s s' sg tg) (hk : errA (chkF s) = 0) {i : Nat} (hi : i < s.length) (k : Nat) : getL (levF s') (sg i, k) = getL (levF s) (i, k) := by
  have h1 := h.under hk (sg i, k)
  have h2 := h.symm.under (h.ok hk) (i, k)
  dsimp only at h1 h2
  rw [h.id1 i hi] at h1
  omega
end Go.HL
set_option linter.unusedVariables false
set_option linter.unusedSimpArgs false
namespace Go.HL
def bz : ByteArray := ⟨#[122, 122]⟩
def NoZ (s : List Ty) : Prop := ∀ t ∈ s, ¬ t.name = bz
theorem lv_ext {a b : Lv} {s : List Ty} (ha : Shp a s) (hb : Shp b s) (h : ∀ i k, i < s.length → getL a (i, k) = getL b (i, k)) : a = b := by
  refine List.ext_getElem? fun i => ?_
  by_cases hi : i < s.length
  · have ht : s[i]? = some s[i] := List.getElem?_eq_getElem hi
    obtain ⟨l, h1, h2⟩ := shp_row ha ht
    obtain ⟨m, h3, h4⟩ := shp_row hb ht
    rw [h1, h3]
    congr 1
    refine List.ext_getElem? fun k => ?_
    have h5 := h i k hi
    simp only [getL, h1, h3, Option.getD_some] at h5
    by_cases hk : k < l.length
    · have hk2 : k < m.length := by omega
      rw [List.getElem?_eq_getElem hk, List.getElem?_eq_getElem hk2] at h5 ⊢
      simpa using h5
    · rw [List.getElem?_eq_none_iff.2 (by omega), List.getElem?_eq_none_iff.2 (by omega)]
  · rw [List.getElem?_eq_none_iff.2 (by rw [shp_len ha]; omega), List.getElem?_eq_none_iff.2 (by rw [shp_len hb]; omega)]
section
variable {s : List Ty}
theorem NoZ.at (hz : NoZ s) {i : Nat} {t : Ty} (h : s[i]? = some t) : ¬ t.name = bz := hz t (List.mem_of_getElem? h)
theorem GoodS.refs (hg : GoodS s) {r : Rl} (h : ∃ t ∈ s, r ∈ t.rels) : r.refs.all (refOkF s) = true := by
  obtain ⟨t, ht, hr⟩ := h
  obtain ⟨i, hi⟩ := List.getElem?_of_mem ht
  obtain ⟨k, hk⟩ := List.getElem?_of_mem hr
  have := hg.name hi hk
  unfold namesF at this
  split at this
  · assumption
  · cases this
end
end Go.HL
set_option linter.unusedVariables false
set_option linter.unusedSimpArgs false
namespace Go.HL
def rotS {α : Type} (s : List α) (n : Nat) : List α := s.drop n ++ s.take n
def sgN (len n i : Nat) : Nat := if i < n then i + (len - n) else i - n
def tgN (len n j : Nat) : Nat := if j < len - n then j + n else j - (len - n)
section
variable {α : Type} {s : List α} {n : Nat}
theorem rot_len : (rotS s n).length = s.length := by
  simp only [rotS, List.length_append, List.length_drop, List.length_take]
  omega
theorem rot_tg (hn : n ≤ s.length) {j : Nat} (hj : j < s.length) : (rotS s n)[j]? = s[tgN s.length n j]? := by
  unfold rotS tgN
  split
  · rename_i h
    rw [List.getElem?_append_left (by rw [List.length_drop]; exact h), List.getElem?_drop, Nat.add_comm]
  · rename_i h
    rw [List.getElem?_append_right (by rw [List.length_drop]; omega), List.length_drop, List.getElem?_take, if_pos (by omega)]
theorem tg_sg {len i : Nat} (hn : n ≤ len) (hi : i < len) : tgN len n (sgN len n i) = i := by
  unfold sgN tgN
  split <;> split <;> omega
theorem sg_tg {len j : Nat} (hn : n ≤ len) (hj : j < len) : sgN len n (tgN len n j) = j := by
  unfold sgN tgN
  split <;> split <;> omega
theorem sg_lt {len i : Nat} (hn : n ≤ len) (hi : i < len) : sgN len n i < len := by
  unfold sgN
  split <;> omega
theorem tg_lt {len j : Nat} (hn : n ≤ len) (hj : j < len) : tgN len n j < len := by
  unfold tgN
  split <;> omega
theorem rot_sg (hn : n ≤ s.length) {i : Nat} (hi : i < s.length) : (rotS s n)[sgN s.length n i]? = s[i]? := by
  rw [rot_tg hn (sg_lt hn hi), tg_sg hn hi]
theorem rot_map {β : Type} {f : α → β} : (rotS s n).map f = rotS (s.map f) n := by simp [rotS, List.map_drop, List.map_take]
end
theorem rots {s : List Ty} {n : Nat} (hn : n ≤ s.length) : Rots s (rotS s n) (sgN s.length n) (tgN s.length n) where
  r := ⟨rot_len, fun i t ht => by rw [rot_sg hn (List.getElem?_eq_some_iff.1 ht).1]; exact ht, fun j t ht => by
    have hj := (List.getElem?_eq_some_iff.1 ht).1
    rw [rot_len] at hj
    rw [rot_tg hn hj] at ht
    exact ⟨_, sg_tg hn hj, ht⟩⟩
  b := ⟨rot_len.symm, fun j t ht => by
    have hj := (List.getElem?_eq_some_iff.1 ht).1
    rw [rot_len] at hj
    rw [rot_tg hn hj] at ht
    exact ht, fun i t ht => by
    have hi := (List.getElem?_eq_some_iff.1 ht).1
    exact ⟨_, tg_sg hn hi, by rw [rot_sg hn hi]; exact ht⟩⟩
  id1 := fun i hi => tg_sg hn hi
  id2 := fun j hj => sg_tg hn hj
  many := by
    have h1 : manyF s = manyF (s.take n ++ s.drop n) := by rw [List.take_append_drop]
    rw [h1]
    simp only [manyF, rotS, List.map_append, List.sum_append]
    omega
theorem rot_ok {s : List Ty} {n : Nat} (hn : n ≤ s.length) : errA (chkF (rotS s n)) = 0 ↔ errA (chkF s) = 0 :=
  ⟨(rots hn).symm.ok, (rots hn).ok⟩
theorem rot_lv {s : List Ty} {n : Nat} (hn : n ≤ s.length) (hk : errA (chkF s) = 0) : levF (rotS s n) = rotS (levF s) n := by
  have hl : (levF s).length = s.length := shp_len (lev_shp s)
  have hsh : Shp (rotS (levF s) n) (rotS s n) := by
    unfold Shp
    rw [rot_map, lev_shp s, rot_map]
  refine lv_ext (lev_shp _) hsh fun j k hj => ?_
  rw [rot_len] at hj
  have h1 := (rots hn).same hk (tg_lt hn hj) k
  rw [sg_tg hn hj] at h1
  rw [h1]
  unfold getL
  dsimp only
  rw [rot_tg (by omega) (by omega : j < (levF s).length), hl]
theorem rot_lvC {lv : Lv} {n : Nat} : lvC (rotS lv n) = rotS (lvC lv) n := rot_map
theorem ok_rot {s : List Ty} (hs : OkS s) (n : Nat) : OkS (rotS s n) := ⟨by rw [rot_len]; exact hs.types, fun t ht => hs.typ t (by
  rcases List.mem_append.1 ht with h | h
  · exact List.mem_of_mem_drop h
  · exact List.mem_of_mem_take h)⟩
end Go.HL
set_option linter.unusedVariables false
set_option linter.unusedSimpArgs false
set_option maxRecDepth 4000
namespace Go.HL
theorem one_tyC {l : List Ty} : ∀ r ∈ l.map tyC, r.length = 2 ∧ ones r = true := by
  intro r hr
  obtain ⟨t, -, rfl⟩ := List.mem_map.1 hr
  exact ⟨rfl, rfl⟩
theorem one_lvC {lv : Lv} : ∀ r ∈ lvC lv, r.length = 1 ∧ ones r = true := by
  intro r hr
  obtain ⟨t, -, rfl⟩ := List.mem_map.1 hr
  exact ⟨rfl, rfl⟩
theorem c_Levels_own {s : List Ty} (hs : OkS s) (hN : OkN s) {S0 S : Store} {t : Nat} {v : AV} (hS : Sub S0 S) (h : LstN S0 S t 2 v (s.map tyC)) : ACalls PG nr_rules_Levels [.agg [v]] S fun ae S' => ae = .ret (lvlF s) ∧ S' = S0 :=
  ACalls.frz (FrS.sub hS) (.cons (.ag (.cons (.lst h) .nil)) .nil) (c_rules_Levels hs hN S0)
theorem c_levels_own {a : Lv} (ha : a.length ≤ 1125899906842624) (ha' : ∀ l ∈ a, l.length ≤ 1125899906842624) {S0 S : Store} {t : Nat} {v : AV} (hS : Sub S0 S) (h : LstN S0 S t 1 v (lvC a)) : ACalls PG nr_law12_levels [v, .sl 1 (lvC a)] S fun ae S' => ae = .ret (.bool true) ∧ S' = S0 :=
  ACalls.frz (FrS.sub hS) (.cons (.lst h) (.cons (.same _) .nil)) (c_levels ha ha' S0)
theorem n_rot {s : List Ty} (hN : OkN s) (n : Nat) : OkN (rotS s n) := fun t ht => hN t (by
  rcases List.mem_append.1 ht with h | h
  · exact List.mem_of_mem_drop h
  · exact List.mem_of_mem_take h)
theorem one_aC {v : AV} (ho : one v = true) : aCells v = [v] ∧ notJ v = true := by
  cases v <;> first | exact ⟨rfl, rfl⟩ | cases ho
theorem sub_delL {S S' : Store} {c : Nat} (h : Sub S S') (hc : sget S c = none) : Sub S (sdel S' c) := fun b o hb => by
  have hne : c ≠ b := by rintro rfl; rw [hc] at hb; cases hb
  rw [sget_sdel, if_neg hne]
  exact h b o hb
theorem LstN.del {S0 S : Store} {t sz c : Nat} {v : AV} {rows : List (List AV)} (h : LstN S0 S t sz v rows) (hc : Aside v c) : LstN S0 (sdel S c) t sz v rows := by
  obtain ⟨hr, h⟩ := h
  refine ⟨hr, ?_⟩
  rcases h with h | ⟨b, cap, rfl, h1, h2, h3⟩
  · exact .inl h
  · exact .inr ⟨b, cap, rfl, h1, by rw [sget_sdel, if_neg (hc b 0 _ _ rfl)]; exact h2, h3⟩
theorem order_5 {s : List Ty} (hs : OkS s) (hN : OkN s) {n : Nat} (hn : n ≤ s.length) (hl : s.length ≤ 80) {S S' : Store} {c : Nat} {v : AV} (hS : Sub S S') (hv : LstN S S' 51 2 v ((rotS s n).map tyC)) (hob : objAt S' c = some (24, [v], 1)) (hc : sget S c = none) (ha : Aside v c) :
    C_law12_RulesOrder_5 (fun ae S' => ae = AEnd.ret (AV.bool true) ∧ S' = S) (.int .i64 n) (.rop [.sl 2 (s.map tyC)]) (.ptr c 0) S' := by
  have q1 := c_rules_Levels hs hN
  have hsub := sub_delL hS hc
  have q2 := c_Levels_own (ok_rot hs n) (n_rot hN n) hsub (hv.del ha)
  have hrk := rot_ok (s := s) hn
  have hlv : (levF s).length = s.length := shp_len (lev_shp s)
  unfold C_law12_RulesOrder_5
  (try simp only [rws, hwR, Nat.reduceAdd, Nat.reduceLeDiff, Nat.reduceLT, Nat.reduceSub, Nat.reduceMul, Nat.reduceEqDiff, Nat.reduceBEq, Int.reduceAdd, Int.reduceToNat, beq_self_eq_true, hob])
  simp only [scA] at q1
  unfold lvlF at q1 q2
  by_cases hk : errA (chkF s) = 0
  · rw [if_pos hk] at q1
    rw [if_pos (hrk.2 hk)] at q2
    obtain ⟨k1, k2⟩ := lev_lens (chk_good hk)
    have hlc : (lvC (levF s)).length = s.length := by simp [lvC, hlv]
    refine caW_pure q1 ?_
    (try simp only [rws, hwR, Nat.reduceAdd, Nat.reduceLeDiff, Nat.reduceLT, Nat.reduceSub, Nat.reduceMul, Nat.reduceEqDiff, Nat.reduceBEq, Int.reduceAdd, Int.reduceToNat, beq_self_eq_true])
    refine caW_of q2 ?_
    rintro ae S2 ⟨rfl, rfl⟩
    dsimp only
    (try simp only [rws, hwR, Nat.reduceAdd, Nat.reduceLeDiff, Nat.reduceLT, Nat.reduceSub, Nat.reduceMul, Nat.reduceEqDiff, Nat.reduceBEq, Int.reduceAdd, Int.reduceToNat, beq_self_eq_true, eqW_def, C_law12_RulesOrder_6])
    try simp only [decide_true, Bool.not_true]
    (try simp only [rws, hwR, Nat.reduceAdd, Nat.reduceLeDiff, Nat.reduceLT, Nat.reduceSub, Nat.reduceMul, Nat.reduceEqDiff, Nat.reduceBEq, Int.reduceAdd, Int.reduceToNat, beq_self_eq_true, hlc])
    refine cnW_intro (fun hx => by cases hx) fun _ => ?_
    refine ⟨by omega, by omega, by omega, by omega, ?_⟩
    have e1 : ((lvC (levF s)).take s.length).drop n = (lvC (levF s)).drop n := by rw [List.take_of_length_le (by omega)]
    rw [e1]
    refine LstN.app (Sub.refl _) .nil (fun r hr => (one_lvC r (List.mem_of_mem_drop hr)).1) (one_flat fun r hr => (one_lvC r (List.mem_of_mem_drop hr)).2) (by simp only [List.length_nil, List.length_drop]; omega) fun v1 S3 h1 h2 _ => ?_
    rw [List.nil_append] at h2
    refine LstN.app h1 h2 (fun r hr => (one_lvC r (List.mem_of_mem_take hr)).1) (one_flat fun r hr => (one_lvC r (List.mem_of_mem_take hr)).2) (by simp only [List.length_take, List.length_drop]; omega) fun v2 S4 h3 h4 _ => ?_
    have e2 : (lvC (levF s)).drop n ++ (lvC (levF s)).take n = lvC (levF (rotS s n)) := by rw [rot_lv hn hk, rot_lvC]; rfl
    rw [e2] at h4
    obtain ⟨k3, k4⟩ := lev_lens (chk_good (hrk.2 hk))
    refine caW_of (c_levels_own k3 k4 h3 h4) ?_
    rintro ae S5 ⟨rfl, rfl⟩
    exact rtW_one ⟨rfl, rfl⟩
  · rw [if_neg hk] at q1
    rw [if_neg fun h => hk (hrk.1 h)] at q2
    refine caW_pure q1 ?_
    (try simp only [rws, hwR, Nat.reduceAdd, Nat.reduceLeDiff, Nat.reduceLT, Nat.reduceSub, Nat.reduceMul, Nat.reduceEqDiff, Nat.reduceBEq, Int.reduceAdd, Int.reduceToNat, beq_self_eq_true])
    refine caW_of q2 ?_
    rintro ae S2 ⟨rfl, rfl⟩
    dsimp only
    (try simp only [rws, hwR, Nat.reduceAdd, Nat.reduceLeDiff, Nat.reduceLT, Nat.reduceSub, Nat.reduceMul, Nat.reduceEqDiff, Nat.reduceBEq, Int.reduceAdd, Int.reduceToNat, beq_self_eq_true, eqW_def, C_law12_RulesOrder_6])
    try simp only [decide_true, Bool.not_true]
    (try simp only [rws, hwR, Nat.reduceAdd, Nat.reduceLeDiff, Nat.reduceLT, Nat.reduceSub, Nat.reduceMul, Nat.reduceEqDiff, Nat.reduceBEq, Int.reduceAdd, Int.reduceToNat, beq_self_eq_true])
    refine cnW_intro (fun _ => ?_) fun hx => by cases hx
    exact rtW_one ⟨rfl, rfl⟩
theorem c_RulesOrder {s : List Ty} (hs : OkS s) (k : Int) : AFun PG nr_law12_RulesOrder [scA s, .int .i64 k] (.bool true) := by
  intro S
  refine w_law12_RulesOrder ?_
  unfold B_law12_RulesOrder
  (try simp only [rws, hwR, Nat.reduceAdd, Nat.reduceLeDiff, Nat.reduceLT, Nat.reduceSub, Nat.reduceMul, Nat.reduceEqDiff, Nat.reduceBEq, Int.reduceAdd, Int.reduceToNat, beq_self_eq_true, scA])
  refine caW_pure c_awake12 ?_
  (try simp only [rws, hwR, Nat.reduceAdd, Nat.reduceLeDiff, Nat.reduceLT, Nat.reduceSub, Nat.reduceMul, Nat.reduceEqDiff, Nat.reduceBEq, Int.reduceAdd, Int.reduceToNat, beq_self_eq_true])
  refine caW_pure (by simpa only [scA] using c_law11_Few hs (most := 80) (by decide) (by decide)) ?_
  (try simp only [rws, hwR, Nat.reduceAdd, Nat.reduceLeDiff, Nat.reduceLT, Nat.reduceSub, Nat.reduceMul, Nat.reduceEqDiff, Nat.reduceBEq, Int.reduceAdd, Int.reduceToNat, beq_self_eq_true])
  cases hf : fewF s 80 with
  | false =>
    (try simp only [rws, hwR, Nat.reduceAdd, Nat.reduceLeDiff, Nat.reduceLT, Nat.reduceSub, Nat.reduceMul, Nat.reduceEqDiff, Nat.reduceBEq, Int.reduceAdd, Int.reduceToNat, beq_self_eq_true, C_law12_RulesOrder_1, C_law12_RulesOrder_2, C_law12_RulesOrder_3, C_law12_RulesOrder_4])
    exact rtW_one ⟨rfl, rfl⟩
  | true =>
    have hN := few_N hf (by decide)
    have hsz := few_size hf
    (try simp only [rws, hwR, Nat.reduceAdd, Nat.reduceLeDiff, Nat.reduceLT, Nat.reduceSub, Nat.reduceMul, Nat.reduceEqDiff, Nat.reduceBEq, Int.reduceAdd, Int.reduceToNat, beq_self_eq_true, C_law12_RulesOrder_1])
    cases a1 : decide ((s.length : Int) = 0) with
    | true =>
      (try simp only [rws, hwR, Nat.reduceAdd, Nat.reduceLeDiff, Nat.reduceLT, Nat.reduceSub, Nat.reduceMul, Nat.reduceEqDiff, Nat.reduceBEq, Int.reduceAdd, Int.reduceToNat, beq_self_eq_true, C_law12_RulesOrder_2, C_law12_RulesOrder_3, C_law12_RulesOrder_4])
      exact rtW_one ⟨rfl, rfl⟩
    | false =>
      (try simp only [rws, hwR, Nat.reduceAdd, Nat.reduceLeDiff, Nat.reduceLT, Nat.reduceSub, Nat.reduceMul, Nat.reduceEqDiff, Nat.reduceBEq, Int.reduceAdd, Int.reduceToNat, beq_self_eq_true, C_law12_RulesOrder_2])
      cases a2 : decide (k < 0) with
      | true =>
        (try simp only [rws, hwR, Nat.reduceAdd, Nat.reduceLeDiff, Nat.reduceLT, Nat.reduceSub, Nat.reduceMul, Nat.reduceEqDiff, Nat.reduceBEq, Int.reduceAdd, Int.reduceToNat, beq_self_eq_true, C_law12_RulesOrder_3, C_law12_RulesOrder_4])
        exact rtW_one ⟨rfl, rfl⟩
      | false =>
        (try simp only [rws, hwR, Nat.reduceAdd, Nat.reduceLeDiff, Nat.reduceLT, Nat.reduceSub, Nat.reduceMul, Nat.reduceEqDiff, Nat.reduceBEq, Int.reduceAdd, Int.reduceToNat, beq_self_eq_true, C_law12_RulesOrder_3])
        cases a3 : decide ((s.length : Int) ≤ k) with
        | true =>
          (try simp only [rws, hwR, Nat.reduceAdd, Nat.reduceLeDiff, Nat.reduceLT, Nat.reduceSub, Nat.reduceMul, Nat.reduceEqDiff, Nat.reduceBEq, Int.reduceAdd, Int.reduceToNat, beq_self_eq_true, C_law12_RulesOrder_4])
          exact rtW_one ⟨rfl, rfl⟩
        | false =>
          have b2 := of_decide_eq_false a2
          have b3 := of_decide_eq_false a3
          obtain ⟨n, rfl⟩ := Int.eq_ofNat_of_zero_le (show 0 ≤ k by omega)
          (try simp only [rws, hwR, Nat.reduceAdd, Nat.reduceLeDiff, Nat.reduceLT, Nat.reduceSub, Nat.reduceMul, Nat.reduceEqDiff, Nat.reduceBEq, Int.reduceAdd, Int.reduceToNat, beq_self_eq_true, C_law12_RulesOrder_4])
          have hln : s.length ≤ 80 := by unfold ssz at hsz; omega
          have e1 : ((s.map tyC).take s.length).drop n = (s.map tyC).drop n := by rw [List.take_of_length_le (by simp)]
          have e2 : (s.map tyC).drop n ++ (s.map tyC).take n = (rotS s n).map tyC := by rw [rot_map]; rfl
          have m1 : ∀ r ∈ (s.map tyC).drop n, r.length = 2 ∧ ones r = true := fun r hr => one_tyC r (List.mem_of_mem_drop hr)
          have m2 : ∀ r ∈ (s.map tyC).take n, r.length = 2 ∧ ones r = true := fun r hr => one_tyC r (List.mem_of_mem_take hr)
          rw [e1]
          have l1 : (([] : List (List AV)).length + ((s.map tyC).drop n).length) * 40 ≤ 140737488355328 := by simp only [List.length_nil, List.length_drop, List.length_map]; omega
          have l2 : (((s.map tyC).drop n).length + ((s.map tyC).take n).length) * 40 ≤ 140737488355328 := by simp only [List.length_take, List.length_drop, List.length_map]; omega
          have key : ∀ {S1 S2 : Store} {v : AV} {c : Nat}, Sub S S1 → LstN S S1 51 2 v ((rotS s n).map tyC) → sget S c = none → Aside v c → (aCells v).length = 1 ∧ notJ v = true ∧ (objAt S1 c = some (24, [.nils], 1) → stW S1 1 (.ptr c 0) (AV.agg (fillA [AV.nils] 0 (aCells v))) fun S3 => C_law12_RulesOrder_5 (fun ae S' => ae = AEnd.ret (AV.bool true) ∧ S' = S) (.int .i64 n) (.rop [.sl 2 (s.map tyC)]) (.ptr c 0) S3) := by
            intro S1 S2 v c h1 h2 h3 h4
            have ho := h2.one
            obtain ⟨ha, hj⟩ := one_aC ho
            refine ⟨by rw [ha]; rfl, hj, fun hob => ?_⟩
            (try simp only [rws, hwR, Nat.reduceAdd, Nat.reduceLeDiff, Nat.reduceLT, Nat.reduceSub, Nat.reduceMul, Nat.reduceEqDiff, Nat.reduceBEq, Int.reduceAdd, Int.reduceToNat, beq_self_eq_true, ha, hob])
            refine ⟨ho, ?_⟩
            refine order_5 hs hN (by omega) hln (Sub.supd h3 h1) (h2.upd h4 _) (by rw [objAt_supd, if_pos rfl]) h3 h4
          refine ⟨by omega, Int.le_refl _, by omega, by omega, ?_, ?_⟩
          · refine LstN.app (Sub.refl _) .nil (fun r hr => (m1 r hr).1) (one_flat fun r hr => (m1 r hr).2) l1 fun v1 S3 h1 h2 _ => ?_
            rw [List.nil_append] at h2
            refine ⟨?_, ?_⟩
            · refine LstN.app h1 h2 (fun r hr => (m2 r hr).1) (one_flat fun r hr => (m2 r hr).2) l2 fun v2 S4 h3 h4 _ => ?_
              rw [e2] at h4
              have ho := h4.one
              obtain ⟨ha, hj⟩ := one_aC ho
              refine ⟨by rw [ha]; rfl, hj, fun c hc => ?_⟩
              have h5 := h4.fresh hc
              have h6 := Sub.none h3 hc
              exact (key (S2 := S) (Sub.supd h6 h3) (h4.upd h5 _) h6 h5).2.2 (by rw [objAt_supd, if_pos rfl]; rfl)
            · intro c hc
              have h5 := h2.fresh hc
              have h6 := Sub.none h1 hc
              refine LstN.app (Sub.supd h6 h1) (h2.upd h5 _) (fun r hr => (m2 r hr).1) (one_flat fun r hr => (m2 r hr).2) l2 fun v2 S4 h3 h4 h7 => ?_
              rw [e2] at h4
              obtain ⟨h8, h9⟩ := h7 c _ (by rw [sget_supd, if_pos rfl]) h5
              have k := key (S2 := S) h3 h4 h6 h9
              exact ⟨k.1, k.2.1, k.2.2 (objAt_some.2 h8)⟩
          · intro c hc
            refine LstN.app (S0 := S) (Sub.fresh _ hc) .nil (fun r hr => (m1 r hr).1) (one_flat fun r hr => (m1 r hr).2) l1 fun v1 S3 h1 h2 h7 => ?_
            rw [List.nil_append] at h2
            obtain ⟨h8, h9⟩ := h7 c _ (by rw [sget_supd, if_pos rfl]) (fun _ _ _ _ h => by cases h)
            refine LstN.app h1 h2 (fun r hr => (m2 r hr).1) (one_flat fun r hr => (m2 r hr).2) l2 fun v2 S4 h3 h4 h7 => ?_
            rw [e2] at h4
            obtain ⟨h8, h9⟩ := h7 c _ h8 h9
            have k := key (S2 := S) h3 h4 hc h9
            exact ⟨k.1, k.2.1, k.2.2 (objAt_some.2 h8)⟩
end Go.HL
set_option linter.unusedVariables false
set_option linter.unusedSimpArgs false
namespace Go.HL
def Old (w : World) : Nat → Prop := fun b => b < w.heap.size
theorem cell_old {w : World} {a : Addr} {v : Value} (h : w.cell? a = some v) : Old w a.block := by
  unfold Old
  unfold World.cell? at h
  rcases Nat.lt_or_ge a.block w.heap.size with h1 | h1
  · exact h1
  · rw [Array.getElem?_eq_none h1] at h; simp at h
section
variable {H : Type} {enc : TypeId × Value → H} {P : Program} {w : World} {sp : Nat → Bool} {held : Bool} {n : Nat} {t e : TypeId} {cs : List Value} {x : DataW H × List MemPlace}
def Wt {H : Type} (P : Program) (t : TypeId) (d : DataW H) : Prop := ∀ k ∈ d.weights P t, k ≤ reachBytes
theorem open_str (ht : P.underlying t = some .string) (hw : Wt P t x.1) (h : DataW.trod enc P w 0 sp held n t cs = some x) : ∃ s : ByteArray, s.size ≤ 1125899906842624 ∧ cs = [.string s] := by
  cases n with
  | zero => simp [DataW.trod] at h
  | succ n =>
    unfold DataW.trod at h
    rw [ht] at h
    split at h <;> simp_all
    obtain ⟨h1, rfl⟩ := h
    refine Nat.le_trans (Nat.le_of_eq ?_) (Nat.le_trans (hw _ (by simp only [DataW.weights]; exact List.mem_singleton.2 rfl)) (by decide))
    rw [Array.length_toList]
    rfl
theorem open_int' {k : IntKind} (ht : P.underlying t = some (.int k)) (h : DataW.trod enc P w 0 sp held n t cs = some x) : ∃ z : Int, cs = [.int k z] := by
  cases n with
  | zero => simp [DataW.trod] at h
  | succ n =>
    unfold DataW.trod at h
    rw [ht] at h
    split at h <;> simp_all
theorem cells_get {w : World} {a : Addr} {m : Nat} {vs : List Value} (h : w.cells? 0 a m = some vs) : vs.length = m ∧ ∀ j, j < m → w.cell? (a.add j) = some (vs.getD j undef) := by
  unfold World.cells? at h
  rw [if_pos (Nat.zero_le _)] at h
  have h1 := mapM_some_length h
  refine ⟨by simpa using h1, fun j hj => ?_⟩
  have h2 := mapM_some_get h j j (by simp [hj])
  rw [h2, List.getD_eq_getElem?_getD]
  simp at h1
  rw [List.getElem?_eq_getElem (by omega)]
  rfl
theorem open_slc {α : Type} {enc' : α → List AV} {good : α → Prop} {sz : Nat} (ht : P.underlying t = some (.slice e)) (hc : P.cellsOf e = sz) (hsz : 0 < sz) (hlen : ∀ a, (enc' a).length = sz)
    (hb : 1 ≤ P.bytesOf e) (hw : Wt P t x.1) (hE : ∀ m, m < n → ∀ cs x, Wt P e x.1 → DataW.trod enc P w 0 sp held m e cs = some x → ∃ a, good a ∧ RVs (Old w) w (enc' a) cs) (h : DataW.trod enc P w 0 sp held n t cs = some x) :
    ∃ (l : List α) (v : Value), (∀ a ∈ l, good a) ∧ l.length ≤ 1125899906842624 ∧ cs = [v] ∧ RV (Old w) w (.sl sz (l.map enc')) v := by
  rcases DataW.trod_slice ht h with ⟨rfl, -⟩ | ⟨a, len, cap, elems, rest, m, rfl, rfl, rfl, -, hl, hm, hlen2, hel, -, -⟩
  · exact ⟨[], _, fun a ha => (by cases ha), Nat.zero_le _, rfl, .sl0 _ _ _⟩
  · have hx : DataW.weights P t (.slice (elems.map (·.1)) (rest.map (·.1))) = ((elems.map (·.1)).length + (rest.map (·.1)).length) * P.bytesOf e :: (DataW.weightsAll P e (elems.map (·.1)) ++ DataW.weightsAll P e (rest.map (·.1))) := by
      simp only [DataW.weights]
      rw [ht]
    have hw : ∀ k ∈ DataW.weights P t (.slice (elems.map (·.1)) (rest.map (·.1))), k ≤ reachBytes := hw
    rw [hx] at hw
    have key : ∀ i, i < len → ∃ (y : α) (vs : List Value), good y ∧ RVs (Old w) w (enc' y) vs ∧ w.cells? 0 (a.add (i * sz)) sz = some vs := fun i hi => by
      have h1 := hel i hi
      rw [hc, List.getElem?_eq_getElem (by omega)] at h1
      obtain ⟨vs, h2, h3⟩ := Option.bind_eq_some_iff.1 h1
      have hwi : Wt P e (elems[i]'(by omega)).1 := fun k hk => by
        refine hw k ?_
        refine List.mem_cons_of_mem _ (List.mem_append_left _ ?_)
        have : ∀ l : List (DataW H × List MemPlace), ∀ y ∈ l, ∀ k ∈ y.1.weights P e, k ∈ DataW.weightsAll P e (l.map (·.1)) := by
          intro l
          induction l with
          | nil => intro y hy; cases hy
          | cons z l ih =>
            intro y hy k hk
            simp only [List.map_cons, DataW.weightsAll, List.mem_append]
            rcases List.mem_cons.1 hy with rfl | hy
            · exact .inl hk
            · exact .inr (ih y hy k hk)
        exact this elems _ (List.getElem_mem _) k hk
      obtain ⟨y, k1, k2⟩ := hE m (Nat.lt_succ_self m) vs _ hwi h3
      exact ⟨y, vs, k1, k2, h2⟩
    by_cases h0 : len = 0
    · subst h0
      exact ⟨[], _, fun a ha => (by cases ha), Nat.zero_le _, rfl, .sl0 _ _ _⟩
    have ex : ∃ l : List α, l.length = len ∧ ∀ i y, l[i]? = some y → ∃ vs : List Value, good y ∧ RVs (Old w) w (enc' y) vs ∧ w.cells? 0 (a.add (i * sz)) sz = some vs := by
      have : ∀ k, k ≤ len → ∃ l : List α, l.length = k ∧ ∀ (i : Nat) (y : α), l[i]? = some y → ∃ vs : List Value, good y ∧ RVs (Old w) w (enc' y) vs ∧ w.cells? 0 (a.add (i * sz)) sz = some vs := by
        intro k
        induction k with
        | zero => exact fun _ => ⟨[], rfl, fun i y h => by simp at h⟩
        | succ k ih =>
          intro hk
          obtain ⟨l, k1, k2⟩ := ih (by omega)
          obtain ⟨y, vs, j1⟩ := key k (by omega)
          refine ⟨l ++ [y], by simp [k1], fun i z hz => ?_⟩
          by_cases hi : i < l.length
          · rw [List.getElem?_append_left hi] at hz
            exact k2 i z hz
          · rw [List.getElem?_append_right (by omega)] at hz
            obtain ⟨q, hq⟩ : ∃ q, i - l.length = q := ⟨_, rfl⟩
            rw [hq] at hz
            cases q with
            | succ q => simp at hz
            | zero =>
              simp at hz
              subst hz
              have : i = k := by omega
              subst this
              exact ⟨vs, j1⟩
      exact this len (Nat.le_refl _)
    obtain ⟨l, k1, k2⟩ := ex
    have k3 : ∀ i, i < len → ∃ y vs, l[i]? = some y ∧ good y ∧ RVs (Old w) w (enc' y) vs ∧ w.cells? 0 (a.add (i * sz)) sz = some vs := fun i hi => by
      have hy : l[i]? = some l[i] := List.getElem?_eq_getElem (by omega)
      obtain ⟨vs, h1⟩ := k2 i _ hy
      exact ⟨_, vs, hy, h1⟩
    have hadd : ∀ i j, (a.add (i * sz)).add j = a.add (i * sz + j) := fun i j => add_add _ _ _
    have hll : l.length ≤ 1125899906842624 := by
      have h5 := hw _ List.mem_cons_self
      simp only [List.length_map] at h5
      have h6 : elems.length ≤ (elems.length + rest.length) * P.bytesOf e := Nat.le_trans (Nat.le_add_right _ _) (Nat.le_mul_of_pos_right _ hb)
      unfold reachBytes at h5
      omega
    refine ⟨l, _, fun y hy => ?_, hll, rfl, .sl sz (l.map enc') a len cap (fun i j => ((w.cells? 0 (a.add (i * sz)) sz).getD []).getD j undef) (by simp [k1]) hl ?_ (fun i r hr => ?_) (fun i j hi hj => ?_) (fun i j r u hr hu => ?_)⟩
    · obtain ⟨i, hi⟩ := List.getElem?_of_mem hy
      obtain ⟨vs, h1, -⟩ := k2 i y hi
      exact h1
    · obtain ⟨y, vs, -, -, -, h4⟩ := k3 0 (by omega)
      have h5 := (cells_get h4).2 0 hsz
      have := cell_old h5
      rw [add_add] at this
      simpa [Addr.add] using this
    · rw [List.getElem?_map] at hr
      cases hl2 : l[i]? with
      | none => rw [hl2] at hr; cases hr
      | some y => rw [hl2] at hr; cases hr; exact hlen y
    · obtain ⟨y, vs, -, -, -, h4⟩ := k3 i hi
      rw [h4, ← hadd]
      exact (cells_get h4).2 j hj
    · rw [List.getElem?_map] at hr
      cases hl2 : l[i]? with
      | none => rw [hl2] at hr; cases hr
      | some y =>
        rw [hl2] at hr
        cases hr
        obtain ⟨vs, -, h3, h4⟩ := k2 i y hl2
        rw [h4]
        exact h3.2 j u hu
theorem open_stc {fs : Array Field} (ht : P.underlying t = some (.struct fs)) (hw : Wt P t x.1) (h : DataW.trod enc P w 0 sp held n t cs = some x) : cs.length = P.cellsOf t ∧ ∃ m, n = m + 1 ∧
    ∀ (i : Nat) (f : Field), fs[i]? = some f → ∃ y, Wt P f.type y.1 ∧ DataW.trod enc P w 0 sp held m f.type ((cs.drop f.offset).take (P.cellsOf f.type)) = some y := by
  obtain ⟨xs, m, rfl, rfl, hl, hlen, hf⟩ := DataW.trod_struct ht h
  refine ⟨hl, m, rfl, fun i f hi => ?_⟩
  have hil : i < fs.size := (Array.getElem?_eq_some_iff.1 hi).1
  have h1 := hf i f hi
  have hxi : xs[i]? = some (xs[i]'(by omega)) := List.getElem?_eq_getElem _
  rw [hxi] at h1
  refine ⟨_, fun k hk => ?_, h1⟩
  have hx : DataW.weights P t (.agg (xs.map (·.1))) = DataW.weightsEach P (fs.toList.map (·.type)) (xs.map (·.1)) := by
    simp only [DataW.weights]
    rw [ht]
  have hw : ∀ k ∈ DataW.weights P t (.agg (xs.map (·.1))), k ≤ reachBytes := hw
  rw [hx] at hw
  refine hw k ?_
  have key : ∀ (ts : List TypeId) (ds : List (DataW H)) (j : Nat) (t : TypeId) (d : DataW H), ts[j]? = some t → ds[j]? = some d → ∀ k ∈ d.weights P t, k ∈ DataW.weightsEach P ts ds := by
    intro ts
    induction ts with
    | nil => intro ds j t d h; simp at h
    | cons a ts ih =>
      intro ds j t d h1 h2 k hk
      cases ds with
      | nil => simp at h2
      | cons b ds =>
        simp only [DataW.weightsEach, List.mem_append]
        cases j with
        | zero => simp at h1 h2; subst h1; subst h2; exact .inl hk
        | succ j => simp at h1 h2; exact .inr (ih ds j t d h1 h2 k hk)
  exact key _ _ i _ _ (by rw [List.getElem?_map, Array.getElem?_toList, hi]; rfl) (by rw [List.getElem?_map, hxi]; rfl) k hk
end
structure ScT (P : Program) (tS tTs tT tRs tR tFs tF tE tEs tI tN : TypeId) : Prop where
  int : P.underlying tI = some (.int .i64)
  str : P.underlying tN = some .string
  ex : ∃ f0 f1 f2 f3, P.underlying tE = some (.struct #[f0, f1, f2, f3]) ∧ f0.type = tI ∧ f0.offset = 0 ∧ f1.type = tN ∧ f1.offset = 1 ∧ f2.type = tN ∧ f2.offset = 2 ∧ f3.type = tEs ∧ f3.offset = 3
  exs : P.underlying tEs = some (.slice tE)
  rf : ∃ f0 f1, P.underlying tF = some (.struct #[f0, f1]) ∧ f0.type = tN ∧ f0.offset = 0 ∧ f1.type = tN ∧ f1.offset = 1
  rfs : P.underlying tFs = some (.slice tF)
  rl : ∃ f0 f1 f2, P.underlying tR = some (.struct #[f0, f1, f2]) ∧ f0.type = tN ∧ f0.offset = 0 ∧ f1.type = tFs ∧ f1.offset = 1 ∧ f2.type = tE ∧ f2.offset = 2
  rls : P.underlying tRs = some (.slice tR)
  ty : ∃ f0 f1, P.underlying tT = some (.struct #[f0, f1]) ∧ f0.type = tN ∧ f0.offset = 0 ∧ f1.type = tRs ∧ f1.offset = 1
  tys : P.underlying tTs = some (.slice tT)
  sc : ∃ f0, P.underlying tS = some (.struct #[f0]) ∧ f0.type = tTs ∧ f0.offset = 0
  cI : P.cellsOf tI = 1
  cN : P.cellsOf tN = 1
  cE : P.cellsOf tE = 4
  cEs : P.cellsOf tEs = 1
  cF : P.cellsOf tF = 2
  cFs : P.cellsOf tFs = 1
  cR : P.cellsOf tR = 6
  cRs : P.cellsOf tRs = 1
  cT : P.cellsOf tT = 2
  cTs : P.cellsOf tTs = 1
  cS : P.cellsOf tS = 1
  bE : 1 ≤ P.bytesOf tE
  bF : 1 ≤ P.bytesOf tF
  bR : 1 ≤ P.bytesOf tR
  bT : 1 ≤ P.bytesOf tT
section
variable {H : Type} {enc : TypeId × Value → H} {P : Program} {w : World} {sp : Nat → Bool} {held : Bool} {tS tTs tT tRs tR tFs tF tE tEs tI tN : TypeId} (K : ScT P tS tTs tT tRs tR tFs tF tE tEs tI tN)
include K
theorem open_ex : ∀ (n : Nat) (cs : List Value) (x : DataW H × List MemPlace), Wt P tE x.1 → DataW.trod enc P w 0 sp held n tE cs = some x → ∃ e : Ex, OkE e ∧ RVs (Old w) w (exC e) cs := by
  intro n
  induction n using Nat.strongRecOn with
  | _ n ih =>
    intro cs x hw h
    obtain ⟨f0, f1, f2, f3, hu, a0, b0, a1, b1, a2, b2, a3, b3⟩ := K.ex
    obtain ⟨hl, m, rfl, hf⟩ := open_stc hu hw h
    rw [K.cE] at hl
    obtain ⟨c0, c1, c2, c3, rfl⟩ : ∃ c0 c1 c2 c3, cs = [c0, c1, c2, c3] := by
      match cs, hl with
      | [c0, c1, c2, c3], _ => exact ⟨_, _, _, _, rfl⟩
    obtain ⟨y0, w0, h0⟩ := hf 0 f0 rfl
    obtain ⟨y1, w1, h1⟩ := hf 1 f1 rfl
    obtain ⟨y2, w2, h2⟩ := hf 2 f2 rfl
    obtain ⟨y3, w3, h3⟩ := hf 3 f3 rfl
    rw [a0, b0, K.cI] at h0
    rw [a1, b1, K.cN] at h1
    rw [a2, b2, K.cN] at h2
    rw [a3, b3, K.cEs] at h3
    rw [a1] at w1
    rw [a2] at w2
    rw [a3] at w3
    obtain ⟨z, e0⟩ := open_int' K.int h0
    obtain ⟨s1, g1, e1⟩ := open_str K.str w1 h1
    obtain ⟨s2, g2, e2⟩ := open_str K.str w2 h2
    obtain ⟨l, v, g3, g4, e3, g5⟩ := open_slc (enc' := exC) (good := OkE) K.exs K.cE (by decide) exC_len K.bE w3 (fun k hk cs x hw h => ih k (by omega) cs x hw h) h3
    simp at e0 e1 e2 e3
    subst e0; subst e1; subst e2; subst e3
    refine ⟨.mk z s1 s2 l, .mk z s1 s2 l g4 g1 g2 g3, ?_⟩
    rw [exC_eq]
    exact .cons (.int _ _) (.cons (.str _) (.cons (.str _) (.cons g5 .nil)))
theorem open_rf {n : Nat} {cs : List Value} {x : DataW H × List MemPlace} (hw : Wt P tF x.1) (h : DataW.trod enc P w 0 sp held n tF cs = some x) : ∃ f : Rf, OkF f ∧ RVs (Old w) w (rfC f) cs := by
  obtain ⟨f0, f1, hu, a0, b0, a1, b1⟩ := K.rf
  obtain ⟨hl, m, rfl, hf⟩ := open_stc hu hw h
  rw [K.cF] at hl
  obtain ⟨c0, c1, rfl⟩ : ∃ c0 c1, cs = [c0, c1] := by
    match cs, hl with
    | [c0, c1], _ => exact ⟨_, _, rfl⟩
  obtain ⟨y0, w0, h0⟩ := hf 0 f0 rfl
  obtain ⟨y1, w1, h1⟩ := hf 1 f1 rfl
  rw [a0, b0, K.cN] at h0
  rw [a1, b1, K.cN] at h1
  rw [a0] at w0
  rw [a1] at w1
  obtain ⟨s1, g1, e1⟩ := open_str K.str w0 h0
  obtain ⟨s2, g2, e2⟩ := open_str K.str w1 h1
  simp at e1 e2
  subst e1; subst e2
  exact ⟨⟨s1, s2⟩, ⟨g1, g2⟩, .cons (.str _) (.cons (.str _) .nil)⟩
theorem open_rl {n : Nat} {cs : List Value} {x : DataW H × List MemPlace} (hw : Wt P tR x.1) (h : DataW.trod enc P w 0 sp held n tR cs = some x) : ∃ r : Rl, OkR r ∧ RVs (Old w) w (rlC r) cs := by
  obtain ⟨f0, f1, f2, hu, a0, b0, a1, b1, a2, b2⟩ := K.rl
  obtain ⟨hl, m, rfl, hf⟩ := open_stc hu hw h
  rw [K.cR] at hl
  obtain ⟨c0, c1, c2, c3, c4, c5, rfl⟩ : ∃ c0 c1 c2 c3 c4 c5, cs = [c0, c1, c2, c3, c4, c5] := by
    match cs, hl with
    | [c0, c1, c2, c3, c4, c5], _ => exact ⟨_, _, _, _, _, _, rfl⟩
  obtain ⟨y0, w0, h0⟩ := hf 0 f0 rfl
  obtain ⟨y1, w1, h1⟩ := hf 1 f1 rfl
  obtain ⟨y2, w2, h2⟩ := hf 2 f2 rfl
  rw [a0, b0, K.cN] at h0
  rw [a1, b1, K.cFs] at h1
  rw [a2, b2, K.cE] at h2
  rw [a0] at w0
  rw [a1] at w1
  rw [a2] at w2
  obtain ⟨s1, g1, e1⟩ := open_str K.str w0 h0
  obtain ⟨l, v, g3, g4, e3, g5⟩ := open_slc (enc' := rfC) (good := OkF) K.rfs K.cF (by decide) (fun _ => rfl) K.bF w1 (fun k _ cs x hw h => open_rf K hw h) h1
  obtain ⟨e, g6, g7⟩ := open_ex K _ _ _ w2 h2
  simp at e1 e3
  subst e1; subst e3
  exact ⟨⟨s1, l, e⟩, ⟨g1, g4, g3, g6⟩, .cons (.str _) (.cons g5 g7)⟩
theorem open_ty {n : Nat} {cs : List Value} {x : DataW H × List MemPlace} (hw : Wt P tT x.1) (h : DataW.trod enc P w 0 sp held n tT cs = some x) : ∃ t : Ty, OkT t ∧ RVs (Old w) w (tyC t) cs := by
  obtain ⟨f0, f1, hu, a0, b0, a1, b1⟩ := K.ty
  obtain ⟨hl, m, rfl, hf⟩ := open_stc hu hw h
  rw [K.cT] at hl
  obtain ⟨c0, c1, rfl⟩ : ∃ c0 c1, cs = [c0, c1] := by
    match cs, hl with
    | [c0, c1], _ => exact ⟨_, _, rfl⟩
  obtain ⟨y0, w0, h0⟩ := hf 0 f0 rfl
  obtain ⟨y1, w1, h1⟩ := hf 1 f1 rfl
  rw [a0, b0, K.cN] at h0
  rw [a1, b1, K.cRs] at h1
  rw [a0] at w0
  rw [a1] at w1
  obtain ⟨s1, g1, e1⟩ := open_str K.str w0 h0
  obtain ⟨l, v, g3, g4, e3, g5⟩ := open_slc (enc' := rlC) (good := OkR) K.rls K.cR (by decide) rlC_len K.bR w1 (fun k _ cs x hw h => open_rl K hw h) h1
  simp at e1 e3
  subst e1; subst e3
  exact ⟨⟨s1, l⟩, ⟨g1, g4, g3⟩, .cons (.str _) (.cons g5 .nil)⟩
theorem open_sc {v : Value} {d : DataW H} {ps : List MemPlace} (hw : Wt P tS d) (h : DataW.Trod enc P w 0 sp held tS v d ps) (hv : ∃ vs, v = .agg vs) : ∃ s : List Ty, OkS s ∧ RV (Old w) w (scA s) v := by
  obtain ⟨n, h⟩ := h
  obtain ⟨vs, rfl⟩ := hv
  obtain ⟨f0, hu, a0, b0⟩ := K.sc
  obtain ⟨hl, m, rfl, hf⟩ := open_stc (x := (d, ps)) hu hw h
  rw [K.cS] at hl
  obtain ⟨y0, w0, h0⟩ := hf 0 f0 rfl
  rw [a0, b0, K.cTs] at h0
  rw [a0] at w0
  obtain ⟨l, v, g3, g4, e3, g5⟩ := open_slc (enc' := tyC) (good := OkT) K.tys K.cT (by decide) (fun _ => rfl) K.bT w0 (fun k _ cs x hw h => open_ty K hw h) h0
  refine ⟨l, ⟨g4, g3⟩, ?_⟩
  have hc : (Value.agg vs).cells.toList = vs.toList := by simp [Value.cells]
  rw [hc] at hl e3
  have hvs : vs.toList = [v] := by
    match hq : vs.toList, hl with
    | [c], _ => rw [hq] at e3; simpa using e3
  refine .agg _ vs (by rw [← Array.length_toList, hvs]; rfl) fun i u hi => ?_
  match i, hi with
  | 0, hi =>
    simp at hi
    subst hi
    have : vs.getD 0 undef = v := by
      have h9 : vs = #[v] := by
        apply Array.toList_inj.1
        rw [hvs]
      rw [h9]; rfl
    rw [this]
    exact g5
end
end Go.HL
set_option linter.unusedVariables false
set_option linter.unusedSimpArgs false
namespace Go.HL
open Go.ChangeShapes Go.WideShapes Go.RowKit
theorem below_of {R R' : Nat → Prop} {S' : Store} {w w' : World} (h : Step R emp w R' S' w') : Below w.heap.size w w' := ⟨h.os, h.tape, h.output, h.size, fun k hk => (h.keep k hk rfl).1⟩
theorem sim_old (w : World) : Sim (Old w) emp w := ⟨fun b o h => (by cases h), fun b h => ⟨rfl, h⟩⟩
theorem call_true {f : Nat} {args : List AV} {vs : Array Value} {w : World} (h : AFun PG f args (.bool true)) (hv : RVs (Old w) w args vs.toList) : Calls PG f vs w fun en w' => en = .returned (.bool true) ∧ Below w.heap.size w w' := by
  refine ((h emp).2 (Old w) w vs (sim_old w) hv).mono fun en w' ⟨R', S', ae, h1, h2, h3, h4⟩ => ?_
  obtain ⟨rfl, rfl⟩ := h2
  cases en with
  | returned v =>
    have h1 : RV R' w' (.bool true) v := h1
    cases h1
    exact ⟨rfl, below_of h4⟩
  | _ => exact h1.elim
section
variable {H : Type} {enc : TypeId × Value → H} {P : Program}
theorem trodAll_stays {W W' : World} (hl : laidOutB P = true) (hb : Below W.heap.size W W') {sp' : Nat → Bool} : ∀ {ts : List TypeId} {vs : List Value} {ds : List (DataW H)} {ps : List MemPlace}, (∀ t ∈ ts, P.readableRec t = true ∧ t < P.types.size) → DataW.TrodAll enc P W 0 (fun _ => true) true ts vs ds ps →
    (∀ p ∈ ps, p.block < W.heap.size) → (∀ p ∈ ps, sp' p.block = true) → DataW.TrodAll enc P W' 0 sp' true ts vs ds ps
  | [], vs, ds, ps, _, h, _, _ => by
    obtain ⟨rfl, rfl, rfl⟩ := trodAll_nil h
    exact trodAll_mk0
  | t :: ts, vs, ds, ps, ht, h, h1, h2 => by
    obtain ⟨v, vs1, d, ds1, a, b, rfl, rfl, rfl, k1, k2⟩ := trodAll_cons h
    have ht0 := ht t (by simp)
    exact ⟨a, b, WideElems.Trod_stays hl ht0.1 ht0.2 k1 (fun p hp => hb.same (h1 p (List.mem_append_left _ hp))) (fun p hp => h2 p (List.mem_append_left _ hp)),
      trodAll_stays hl hb (fun t h => ht t (List.mem_cons_of_mem _ h)) k2 (fun p hp => h1 p (List.mem_append_right _ hp)) (fun p hp => h2 p (List.mem_append_right _ hp)), rfl⟩
theorem post_kept {f : Func} {s : ChangeSpec} {apart fresh handsOn again : Bool} {W W' : World} {args : Array Value} {ds gs : List (DataW H)} {before : List MemPlace} {tb : TypeId}
    (hl : laidOutB P = true) (hts : ∀ t ∈ f.params.toList, P.readableRec t = true ∧ t < P.types.size) (hvars : s.vars = [])
    (hW : DataW.Whole enc P f.params.toList s.vars apart W args.toList ds gs before) (hfn : (s.fn H (ds ++ gs)).results = [.lit (.bool true)] ∧ (s.fn H (ds ++ gs)).args = ds ∧ (s.fn H (ds ++ gs)).vars = [])
    (hr : f.resultTypes = #[tb]) (hb : P.underlying tb = some .bool) (hB : Below W.heap.size W W') : s.post enc P f apart fresh handsOn again W args (.bool true) W' := by
  have hlt := hW.lt
  have hW0 := hW
  obtain ⟨p, q, hA, hV, rfl, hz, hn⟩ := hW
  rw [hvars] at hV
  obtain ⟨rfl, rfl⟩ := trodVars_none hV
  rw [List.append_nil] at *
  obtain ⟨e1, e2, e3⟩ := hfn
  have hold : ∀ x ∈ p, (fun b => decide (b < W.heap.size)) x.block = true := fun x hx => by simpa using hlt x hx
  have hres : ∀ (b : Nat) (sp : Nat → Bool) (hd : Bool), DataW.TrodAll enc P W' b sp hd f.resultTypes.toList ((Value.bool true).resultList f.resultTypes.size) [.lit (.bool true)] [] := fun b sp hd => by
    rw [hr]
    exact trodAll_mk1 (shut_bool hb true)
  refine ⟨ds, [], p, [], p, [], hW0, by rw [List.append_nil, e1]; exact hres _ _ _, by rw [List.append_nil, e2]; exact trodAll_stays hl hB hts hA hlt hold, by rw [List.append_nil, hvars, e3]; exact rfl, hB.frame _, fun _ => ?_⟩
  refine ⟨ok_one hr rfl (okWide_bool_mk hb true), _, [], ([] ++ p) ++ [], ⟨[] ++ p, [], trodAll_append (trodAll_stays hl hB hts hA hlt (fun _ _ => rfl)) (hres _ _ _), by rw [hvars]; exact rfl, rfl, ?_, ?_⟩, ?_⟩
  · intro b off hp
    have hp : MemPlace.cell b off ∈ p := by simpa using hp
    rw [hB.frozen (p := ⟨b, off, none⟩) (hlt _ hp)]
    exact hz b off hp
  · intro ha
    simpa using hn ha
  · intro x hx _
    simpa using hx
end
end Go.HL
set_option linter.unusedVariables false
namespace Go.Proofs.Ytadmdlpmikoghaa
open Go.ChangeShapes Go.WideShapes Go.ChangeAt Go.RowKit Go.HL
theorem own : ownKnob Try.prog.godebug = none := by kernel_rfl
theorem laidOut : laidOutB Try.prog = true := by kernel_rfl
theorem scT : ScT Try.prog 24 22 51 49 43 38 53 41 39 3 9 where
  int := Try.underlying3
  str := Try.underlying9
  ex := ⟨_, _, _, _, Try.underlying41, rfl, rfl, rfl, rfl, rfl, rfl, rfl, rfl⟩
  exs := Try.underlying39
  rf := ⟨_, _, Try.underlying53, rfl, rfl, rfl, rfl⟩
  rfs := Try.underlying38
  rl := ⟨_, _, _, Try.underlying43, rfl, rfl, rfl, rfl, rfl, rfl⟩
  rls := Try.underlying49
  ty := ⟨_, _, Try.underlying51, rfl, rfl, rfl, rfl⟩
  tys := Try.underlying22
  sc := ⟨_, Try.underlying24, rfl, rfl⟩
  cI := by kernel_rfl
  cN := by kernel_rfl
  cE := by kernel_rfl
  cEs := by kernel_rfl
  cF := by kernel_rfl
  cFs := by kernel_rfl
  cR := by kernel_rfl
  cRs := by kernel_rfl
  cT := by kernel_rfl
  cTs := by kernel_rfl
  cS := by kernel_rfl
  bE := of_decide_eq_true (by kernel_rfl)
  bF := of_decide_eq_true (by kernel_rfl)
  bR := of_decide_eq_true (by kernel_rfl)
  bT := of_decide_eq_true (by kernel_rfl)
theorem weights_one {H : Type} {P : Program} {t : TypeId} {d : DataW H} {ts : List TypeId} {ds : List (DataW H)} (h : (DataW.weightsEach P (t :: ts) (d :: ds)).all (· ≤ reachBytes) = true) : Wt P t d ∧ (DataW.weightsEach P ts ds).all (· ≤ reachBytes) = true := by
  simp only [DataW.weightsEach, List.all_append, Bool.and_eq_true, List.all_eq_true, decide_eq_true_eq] at h
  refine ⟨h.1, ?_⟩
  rw [List.all_eq_true]
  exact fun x hx => decide_eq_true (h.2 x hx)
end Go.Proofs.Ytadmdlpmikoghaa
set_option linter.unusedVariables false
namespace Go.Proofs.Ytadmdlpmikoghaa
open Go.ChangeShapes Go.WideShapes Go.ChangeAt Go.RowKit Go.HL
set_option maxRecDepth 100000 in
theorem rulesOrder_lifted (os : Os) (started : os.Started) (H : Type) (enc : TypeId × Value → H) :
    ReturnsInHanded {} Try.checked os 7 .any (fun w args => (Rows.rulesOrderSpec.pre enc Try.prog Try.f7 Rows.rulesOrderRow.domain false w args ∧ True) ∧ sizedMet enc Try.prog Try.f7 (OpenSpec.ofChange Rows.rulesOrderSpec) false w args)
      (Rows.rulesOrderSpec.post enc Try.prog Try.f7 false true false false) := by
  refine returnsInHanded_of_change_and (C := Try.checked) (X := fun _ _ => True) (fun _ _ _ _ h => h) own started (by kernel_rfl) Try.func7
    (by
      obtain ⟨w, t, i, h1, h2, h3, h4, h5, h6⟩ := ChangeSpec.witness6 (enc := enc) (C := Try.checked) (os := os) (f := 7) (fn := Try.f7) (s := Rows.rulesOrderSpec) (conds := Rows.rulesOrderRow.domain) (apart := false) false ⟨#[], #[.agg #[.slice none 0 0], .int .i64 0], []⟩ 8 (by kernel_rfl) (by kernel_rfl) (by kernel_rfl) (by kernel_rfl)
      exact ⟨w, t, i, h1, h2, h3, h4, ⟨⟨h5.1, trivial⟩, h5.2⟩, h6⟩) ?_
  intro W base args ds gs before hval0 hW hcnd hsz0 _ _
  have hval : ∀ (j : Nat) t v, Try.f7.params[j]? = some t → args[j]? = some v → Value.okWide Try.prog W .any base t v := hval0
  have hsz : (DataW.weightsEach Try.prog (Try.f7.params.toList ++ []) (ds ++ gs)).all (· ≤ reachBytes) = true := hsz0
  have hW' := hW
  obtain ⟨p, q, hA0, hV, rfl, hfz, hnd⟩ := hW
  have hA : DataW.TrodAll enc Try.prog W 0 (fun _ => true) true Try.f7.params.toList args.toList ds p := hA0
  rw [Try.params7] at hA hval hsz
  obtain ⟨v0, v1, d0, d1, p0, p1, rfl, rfl, rfl, h0, h1⟩ := trodAll_two hA
  obtain ⟨rfl, rfl⟩ := trodVars_none hV
  obtain ⟨w0, hsz⟩ := weights_one hsz
  obtain ⟨-, hsz⟩ := weights_one hsz
  obtain ⟨vs0, hvs0, -⟩ := okWide_struct Try.underlying24 (hval 0 24 v0 rfl rfl)
  obtain ⟨a0, hs0, hv0⟩ := open_sc scT w0 h0 ⟨vs0, hvs0⟩
  obtain ⟨a1, rfl, rfl, rfl, -⟩ := Go.ChangeShapes.open_int Try.underlying3 (hval 1 3 v1 rfl rfl) h1
  clear hA0 hval0 hsz0
  refine (call_true (c_RulesOrder hs0 a1) (vs := #[v0, .int .i64 a1]) (.cons hv0 (.cons (.int _ _) .nil))).mono fun e W' ⟨he, hB⟩ => ?_
  subst he
  exact ⟨_, rfl, post_kept laidOut (by rw [Try.params7]; intro t ht; simp at ht; rcases ht with rfl | rfl <;> exact ⟨by kernel_rfl, of_decide_eq_true (by kernel_rfl)⟩) rfl hW' ⟨rfl, rfl, rfl⟩ (tb := 4) (by kernel_rfl) Try.underlying4 hB⟩
theorem rulesOrder_holds : Rows.RulesOrderSaid :=
  OpenClaim.holds_of_wide 7 Try.f7 rfl rfl rfl rfl rfl rfl rfl ⟨rfl, rfl, rfl, rfl, rfl⟩ rfl rfl rfl rfl rfl (by kernel_rfl) Try.func7 (by kernel_rfl)
    (of_decide_eq_true (by kernel_rfl)) (by unfold Func.isWrapper; first | (rw [if_pos (by decide +kernel)]; kernel_rfl) | (rw [if_neg (by decide +kernel)]; exact ⟨rfl, rfl⟩))
    (fun os started H enc _ => by
      have h := rulesOrder_lifted os started H enc
      simp only [and_true] at h
      exact h)
end Go.Proofs.Ytadmdlpmikoghaa
