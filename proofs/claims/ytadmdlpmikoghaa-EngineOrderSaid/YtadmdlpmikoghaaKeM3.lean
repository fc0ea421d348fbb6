/- The law EngineOrder returns true for every input and leaves it as it was; no conditions. -/
import Derived.Test.YtadmdlpmikoghaaKeM2
import Derived.Test.YtadmdlpmikoghaaKeHlS0
import Derived.Test.YtadmdlpmikoghaaKeM1
import Derived.Test.YtadmdlpmikoghaaKeHlL
import Derived.ProofKit
import Derived.Carry
import Derived.Handed
import Derived.Test.YtadmdlpmikoghaaRows
set_option linter.unusedVariables false
set_option linter.unusedSimpArgs false
namespace Go.HL
section
variable {E : Env15} {K K' : Nd → Bool} {N : Nat}
theorem Low.weak {s : List Ty} {out : Bool} {c : Nd} (h : Low s N out c) : Low s N false c := by
  rcases h with h | h
  · exact .inl h
  · exact .inr (by simp; omega)
theorem exB_congr (hE : OfOk E) (h : ∀ c, Low E.s N false c → K c = K' c) (o : Ob) :
    ∀ (m : Nat) (e : Ex) (out : Bool), mayE m e = true → (∀ p ∈ leavesE e out, ∀ l ∈ leafF E.s o.ty p.1 p.2, getL (levF E.s) l.1 + l.2.toNat ≤ N) → exB E K o m e = exB E K' o m e
  | 0, e, out, hm, hl => by cases hm
  | m + 1, .mk k n ov ks, out, hm, hl => by
    have ih := exB_congr hE h o m
    unfold mayE at hm
    unfold exB
    unfold leavesE at hl
    by_cases k0 : k = 0
    · simp only [if_pos k0] at hm ⊢
      rw [Bool.and_eq_true] at hm
      rw [if_pos hm.2] at hl
      refine h _ (Low.weak (out := out) ?_)
      unfold Low lvN
      cases hq : findF E.s o.ty n with
      | none => exact .inl rfl
      | some p =>
        obtain ⟨i, j, r⟩ := p
        refine .inr (hl (.mk k n ov ks, out) (by simp) ((i, j), out) ?_)
        unfold leafF Ex.name
        simp only [hq]
        exact List.mem_cons_self
    · simp only [if_neg k0] at hm ⊢
      by_cases k1 : k = 1
      · simp only [if_pos k1] at hm ⊢
        rw [Bool.and_eq_true, Bool.and_eq_true] at hm
        rw [if_pos hm.2.2] at hl
        have low : ∀ x ∈ E.of ⟨o, n⟩, x.rl = ⟨#[]⟩ → K ⟨x.o, ov⟩ = K' ⟨x.o, ov⟩ := by
          intro x hx hx0
          obtain ⟨i, j, r, h1, f, h2, h3, h4⟩ := hE.ok _ x hx
          refine h _ (Low.weak (out := out) ?_)
          unfold Low lvN
          cases hq : findF E.s x.o.ty ov with
          | none => exact .inl rfl
          | some p =>
            obtain ⟨i2, j2, r2⟩ := p
            refine .inr ?_
            simp only
            refine hl (.mk k n ov ks, out) (by simp) ((i2, j2), out) ?_
            unfold leafF Ex.name Ex.kind Ex.over
            simp only [show findF E.s o.ty n = some (i, j, r) from h1, if_pos k1]
            refine List.mem_cons_of_mem _ (List.mem_map.2 ⟨(i2, j2), ?_, rfl⟩)
            unfold overF
            refine List.mem_filterMap.2 ⟨f, h2, ?_⟩
            rw [if_pos (h4.symm.trans hx0), ← h3, hq]
            rfl
        rw [Bool.eq_iff_iff]
        simp only [List.any_eq_true, Bool.and_eq_true, decide_eq_true_eq]
        constructor
        · rintro ⟨x, hx, h0, h1⟩; exact ⟨x, hx, h0, by rw [← low x hx h0]; exact h1⟩
        · rintro ⟨x, hx, h0, h1⟩; exact ⟨x, hx, h0, by rw [low x hx h0]; exact h1⟩
      · simp only [if_neg k1] at hm ⊢
        have k234 : k = 2 ∨ k = 3 ∨ k = 4 := by
          refine Classical.byContradiction fun hn => ?_
          rw [if_neg hn] at hm
          cases hm
        rw [if_pos k234] at hm
        obtain ⟨x1, x2, rfl⟩ : ∃ a b, ks = [a, b] := by
          match ks, hm with
          | [a, b], _ => exact ⟨a, b, rfl⟩
          | [], hm => cases hm
          | [_], hm => cases hm
          | _ :: _ :: _ :: _, hm => cases hm
        simp only [two, Bool.and_eq_true] at hm
        have hl' : ∀ p ∈ leavesE x1 out ++ leavesE x2 (out || decide (k = 4)), ∀ l ∈ leafF E.s o.ty p.1 p.2, getL (levF E.s) l.1 + l.2.toNat ≤ N := by
          intro p hp
          refine hl p ?_
          rw [if_neg (by simp)]
          simp only [leavesL, List.append_nil]
          simpa using hp
        dsimp only
        rw [ih x1 out hm.1 fun p hp => hl' p (List.mem_append_left _ hp), ih x2 _ hm.2 fun p hp => hl' p (List.mem_append_right _ hp)]
theorem body_congr (hE : OfOk E) (hc : errA (chkF E.s) = 0) {n : Nd} {i k : Nat} {r : Rl} (hf : findF E.s n.o.ty n.rl = some (i, k, r)) (h : ∀ c, Low E.s (lvN E.s n) false c → K c = K' c) : bodyB E K n r = bodyB E K' n r := by
  obtain ⟨ht0, ty, hty, -, hkr⟩ := findF_at hf
  have hnm : ty.name = n.o.ty := by
    obtain ⟨⟨x, hx, hp⟩, -⟩ := firstI_some.1 ht0
    rw [hty] at hx
    cases hx
    exact of_decide_eq_true hp
  have hst := (lev_stands hc hty hkr).2
  have hlv : lvN E.s n = getL (levF E.s) (i, k) := by unfold lvN; rw [hf]
  rw [← hlv, hnm] at hst
  unfold bodyB
  unfold leansF at hst
  by_cases h0 : r.refs.length = 0
  · simp only [if_pos h0] at hst ⊢
    have hm : mayE 12 r.ex = true := sc_may (chk_good hc).may ty (List.mem_of_getElem? hty) r (List.mem_of_getElem? hkr) h0
    exact exB_congr hE h n.o 12 r.ex false hm fun p hp l hl => hst l (List.mem_flatMap.2 ⟨p, hp, hl⟩)
  · simp only [if_neg h0] at hst ⊢
    have low : ∀ x ∈ E.of n, x.rl ≠ ⟨#[]⟩ → K x = K' x := by
      intro x hx hx0
      obtain ⟨i1, k1, r1, h1, f, h2, h3, h4⟩ := hE.ok _ x hx
      rw [hf] at h1
      cases h1
      refine h _ ?_
      unfold Low
      cases hq : findF E.s x.o.ty x.rl with
      | none => exact .inl rfl
      | some p =>
        obtain ⟨i2, j2, r2⟩ := p
        refine .inr ?_
        have := hst ((i2, j2), false) (List.mem_filterMap.2 ⟨f, h2, by unfold refLean; rw [if_neg (by rw [← h4]; exact hx0), ← h3, ← h4, hq]; rfl⟩)
        unfold lvN at this ⊢
        rw [hq]
        exact this
    rw [Bool.eq_iff_iff]
    simp only [List.any_eq_true]
    constructor
    · rintro ⟨x, hx, hb⟩
      refine ⟨x, hx, ?_⟩
      by_cases h0 : x.rl = ⟨#[]⟩
      · rw [if_pos h0] at hb ⊢; exact hb
      · rw [if_neg h0] at hb ⊢; rw [← low x hx h0]; exact hb
    · rintro ⟨x, hx, hb⟩
      refine ⟨x, hx, ?_⟩
      by_cases h0 : x.rl = ⟨#[]⟩
      · rw [if_pos h0] at hb ⊢; exact hb
      · rw [if_neg h0] at hb ⊢; rw [low x hx h0]; exact hb
theorem exB_thing {T : List Ob} (hT : ∀ n x, x ∈ E.of n → n.o ∈ T) (hK : ∀ c, K c = true → c.o ∈ T) (o : Ob) : ∀ (m : Nat) (e : Ex), exB E K o m e = true → o ∈ T
  | 0, e, h => by cases h
  | m + 1, .mk k n ov ks, h => by
    have ih := exB_thing hT hK o m
    unfold exB at h
    split at h
    · exact hK _ h
    · split at h
      · obtain ⟨x, hx, -⟩ := List.any_eq_true.1 h
        exact hT _ x hx
      · split at h
        · split at h
          · rw [Bool.or_eq_true] at h
            exact h.elim (ih _) (ih _)
          · split at h <;> (rw [Bool.and_eq_true] at h; exact ih _ h.1)
        · cases h
theorem body_thing {T : List Ob} (hT : ∀ n x, x ∈ E.of n → n.o ∈ T) (hK : ∀ c, K c = true → c.o ∈ T) {n : Nd} {r : Rl} (h : bodyB E K n r = true) : n.o ∈ T := by
  unfold bodyB at h
  split at h
  · exact exB_thing hT hK _ _ _ h
  · obtain ⟨x, hx, -⟩ := List.any_eq_true.1 h
    exact hT _ x hx
end
def nodesT (s : List Ty) (T : List Ob) : List Nd := T.flatMap fun o => s.flatMap fun t => t.rels.map fun r => ⟨o, r.name⟩
theorem mem_nodes {s : List Ty} {T : List Ob} {n : Nd} {i k : Nat} {r : Rl} (hf : findF s n.o.ty n.rl = some (i, k, r)) (hT : n.o ∈ T) : n ∈ nodesT s T := by
  obtain ⟨-, ty, hty, hrl, hkr⟩ := findF_at hf
  obtain ⟨⟨x, hx, hp⟩, -⟩ := firstI_some.1 hrl
  rw [hkr] at hx
  cases hx
  refine List.mem_flatMap.2 ⟨n.o, hT, List.mem_flatMap.2 ⟨ty, List.mem_of_getElem? hty, List.mem_map.2 ⟨r, List.mem_of_getElem? hkr, ?_⟩⟩⟩
  have := of_decide_eq_true hp
  cases n
  simp only [Nd.mk.injEq, true_and]
  exact this
structure Upto (E : Env15) (C : List Nd) (v : Nat) (L : List Nd) : Prop where
  nd : L.Nodup
  sub : ∀ n ∈ L, n ∈ C
  step : ∀ (i : Nat) (n : Nd), L[i]? = some n → ∃ j k r, findF E.s n.o.ty n.rl = some (j, k, r) ∧ bodyB E (fun c => decide (c ∈ L.take i)) n r = true
  srt : ∀ (i j : Nat) (n m : Nd), L[i]? = some n → L[j]? = some m → i < j → lvN E.s n ≤ lvN E.s m
  top : ∀ n ∈ L, lvN E.s n ≤ v
  closed : ∀ n j k r, findF E.s n.o.ty n.rl = some (j, k, r) → lvN E.s n < v → bodyB E (fun c => decide (c ∈ L)) n r = true → n ∈ L
theorem nd_len {α : Type} [DecidableEq α] : ∀ {L C : List α}, L.Nodup → (∀ x ∈ L, x ∈ C) → L.length ≤ C.length
  | [], C, _, _ => Nat.zero_le _
  | x :: r, C, h, hs => by
    rw [List.nodup_cons] at h
    have hx := hs x (by simp)
    have := nd_len (L := r) (C := C.erase x) h.2 fun y hy => (List.mem_erase_of_ne (by rintro rfl; exact h.1 hy)).2 (hs y (List.mem_cons_of_mem _ hy))
    rw [List.length_erase_of_mem hx] at this
    have hpos := List.length_pos_of_mem hx
    simp only [List.length_cons]
    omega
section
variable {E : Env15} {C L : List Nd} {v : Nat}
theorem Upto.snoc (hE : OfOk E) (hc : errA (chkF E.s) = 0) (h : Upto E C v L) {n : Nd} {j k : Nat} {r : Rl} (hf : findF E.s n.o.ty n.rl = some (j, k, r)) (hv : lvN E.s n = v) (hn : n ∉ L) (hC : n ∈ C) (hb : bodyB E (fun c => decide (c ∈ L)) n r = true) :
    Upto E C v (L ++ [n]) := by
  have get : ∀ i m, (L ++ [n])[i]? = some m → (i < L.length ∧ L[i]? = some m) ∨ (i = L.length ∧ m = n) := by
    intro i m hi
    rw [List.getElem?_append] at hi
    split at hi
    · rename_i h1; exact .inl ⟨h1, hi⟩
    · rename_i h1
      rw [List.getElem?_singleton] at hi
      split at hi
      · cases hi; exact .inr ⟨by omega, rfl⟩
      · cases hi
  refine ⟨?_, fun m hm => ?_, fun i m hi => ?_, fun i i2 m m2 hi hi2 hlt => ?_, fun m hm => ?_, fun m j2 k2 r2 hf2 hlt hb2 => ?_⟩
  · rw [List.nodup_append]
    exact ⟨h.nd, by simp, fun a ha b hb => by rw [List.mem_singleton.1 hb]; rintro rfl; exact hn ha⟩
  · rcases List.mem_append.1 hm with hm | hm
    · exact h.sub m hm
    · rw [List.mem_singleton.1 hm]; exact hC
  · rcases get i m hi with ⟨h1, h2⟩ | ⟨h1, rfl⟩
    · rw [List.take_append_of_le_length (Nat.le_of_lt h1)]
      exact h.step i m h2
    · rw [h1, List.take_append_of_le_length (Nat.le_refl _), List.take_length]
      exact ⟨j, k, r, hf, hb⟩
  · rcases get i m hi with ⟨h1, h2⟩ | ⟨h1, rfl⟩
    · rcases get i2 m2 hi2 with ⟨h3, h4⟩ | ⟨h3, rfl⟩
      · exact h.srt i i2 m m2 h2 h4 hlt
      · rw [hv]; exact h.top m (List.mem_of_getElem? h2)
    · rcases get i2 m2 hi2 with ⟨h3, h4⟩ | ⟨h3, rfl⟩
      · omega
      · exact Nat.le_refl _
  · rcases List.mem_append.1 hm with hm | hm
    · exact h.top m hm
    · rw [List.mem_singleton.1 hm, hv]; exact Nat.le_refl _
  · refine List.mem_append_left _ (h.closed m j2 k2 r2 hf2 hlt ?_)
    rw [← hb2]
    refine body_congr hE hc hf2 fun c hl => ?_
    rw [Bool.eq_iff_iff, decide_eq_true_eq, decide_eq_true_eq, List.mem_append, List.mem_singleton]
    refine ⟨.inl, fun hq => hq.elim id fun e => ?_⟩
    subst e
    rcases hl with hl | hl
    · rw [hf] at hl; cases hl
    · have : lvN E.s c ≤ lvN E.s m := by simpa using hl
      omega
theorem Upto.close (hE : OfOk E) (hc : errA (chkF E.s) = 0) : ∀ (d : Nat) (L : List Nd), Upto E C v L → C.length ≤ L.length + d → ∃ L', Upto E C v L' ∧ ∀ n j k r, findF E.s n.o.ty n.rl = some (j, k, r) → lvN E.s n = v → n ∈ C → bodyB E (fun c => decide (c ∈ L')) n r = true → n ∈ L' := by
  intro d
  induction d with
  | zero =>
    intro L h hd
    refine ⟨L, h, fun n j k r hf hv hC hb => Classical.byContradiction fun hn => ?_⟩
    have q := h.snoc hE hc hf hv hn hC hb
    have := nd_len q.nd q.sub
    rw [List.length_append, List.length_singleton] at this
    omega
  | succ d ih =>
    intro L h hd
    by_cases hq : ∃ n j k r, findF E.s n.o.ty n.rl = some (j, k, r) ∧ lvN E.s n = v ∧ n ∈ C ∧ bodyB E (fun c => decide (c ∈ L)) n r = true ∧ n ∉ L
    · obtain ⟨n, j, k, r, hf, hv, hC, hb, hn⟩ := hq
      exact ih _ (h.snoc hE hc hf hv hn hC hb) (by rw [List.length_append, List.length_singleton]; omega)
    · exact ⟨L, h, fun n j k r hf hv hC hb => Classical.byContradiction fun hn => hq ⟨n, j, k, r, hf, hv, hC, hb, hn⟩⟩
theorem Upto.mod (h : Upto E C v L) (hv : ∀ n j k r, findF E.s n.o.ty n.rl = some (j, k, r) → lvN E.s n < v) : Mod E L := by
  refine ⟨h.step, fun n m hn hm hlt => ?_, fun n j k r hf hb => h.closed n j k r hf (hv n j k r hf) hb⟩
  have gi : ∀ n, n ∈ L → L[L.idxOf n]? = some n := fun n hn => by
    have hlt := List.idxOf_lt_length_iff.2 hn
    rw [List.getElem?_eq_getElem hlt, List.getElem_idxOf hlt]
  have g1 := gi n hn
  have g2 := gi m hm
  rcases Nat.lt_trichotomy (L.idxOf n) (L.idxOf m) with h1 | h1 | h1
  · exact h1
  · rw [h1, g2] at g1
    cases g1
    omega
  · have := h.srt _ _ m n g2 g1 h1
    omega
theorem lvN_le (hc : errA (chkF E.s) = 0) {n : Nd} {j k : Nat} {r : Rl} (hf : findF E.s n.o.ty n.rl = some (j, k, r)) : lvN E.s n ≤ manyF E.s := by
  obtain ⟨-, ty, hty, -, hkr⟩ := findF_at hf
  have := (lev_stands hc hty hkr).1
  unfold lvN
  rw [hf]
  exact this
theorem mod_ex (hE : OfOk E) (hc : errA (chkF E.s) = 0) {T : List Ob} (hT : ∀ n x, x ∈ E.of n → n.o ∈ T) : ∃ L, Mod E L := by
  have key : ∀ v, ∃ L, Upto E (nodesT E.s T) v L ∧ ∀ n ∈ L, n.o ∈ T := by
    intro v
    induction v with
    | zero => exact ⟨[], ⟨by simp, fun n hn => (by cases hn), fun i n hi => by simp at hi, fun i j n m hi => by simp at hi, fun n hn => (by cases hn), fun n j k r _ hlt => by omega⟩, fun n hn => (by cases hn)⟩
    | succ v ih =>
      obtain ⟨L, h, -⟩ := ih
      obtain ⟨L', h', hcl⟩ := Upto.close hE hc (nodesT E.s T).length L h (by omega)
      have hT' : ∀ n ∈ L', n.o ∈ T := by
        intro n hn
        have := h'.sub n hn
        obtain ⟨o, ho, hq⟩ := List.mem_flatMap.1 this
        obtain ⟨t, -, hq⟩ := List.mem_flatMap.1 hq
        obtain ⟨r, -, rfl⟩ := List.mem_map.1 hq
        exact ho
      refine ⟨L', ⟨h'.nd, h'.sub, h'.step, h'.srt, fun n hn => Nat.le_succ_of_le (h'.top n hn), fun n j k r hf hlt hb => ?_⟩, hT'⟩
      rcases Nat.lt_succ_iff_lt_or_eq.1 hlt with h1 | h1
      · exact h'.closed n j k r hf h1 hb
      · refine hcl n j k r hf h1 (mem_nodes hf (body_thing hT (fun c hc => hT' c (of_decide_eq_true hc)) hb)) hb
  obtain ⟨L, h, -⟩ := key (manyF E.s + 1)
  exact ⟨L, h.mod fun n j k r hf => Nat.lt_succ_of_le (lvN_le hc hf)⟩
end
theorem exB_of {E E' : Env15} (hof : ∀ n x, x ∈ E.of n ↔ x ∈ E'.of n) (K : Nd → Bool) (o : Ob) : ∀ (m : Nat) (e : Ex), exB E K o m e = exB E' K o m e
  | 0, e => rfl
  | m + 1, .mk k n ov ks => by
    have ih := exB_of hof K o m
    unfold exB
    by_cases k0 : k = 0
    · rw [if_pos k0, if_pos k0]
    · rw [if_neg k0, if_neg k0]
      by_cases k1 : k = 1
      · rw [if_pos k1, if_pos k1, Bool.eq_iff_iff, List.any_eq_true, List.any_eq_true]
        constructor
        · rintro ⟨x, hx, h⟩; exact ⟨x, (hof _ x).1 hx, h⟩
        · rintro ⟨x, hx, h⟩; exact ⟨x, (hof _ x).2 hx, h⟩
      · rw [if_neg k1, if_neg k1]
        match ks with
        | [a, b] => dsimp only; rw [ih a, ih b]
        | [] => rfl
        | [_] => rfl
        | _ :: _ :: _ :: _ => rfl
theorem Mod.of {E E' : Env15} {L : List Nd} (h : Mod E L) (hs : E'.s = E.s) (hw : E'.who = E.who) (hof : ∀ n x, x ∈ E.of n ↔ x ∈ E'.of n) : Mod E' L := by
  have hb : ∀ K n r, bodyB E K n r = bodyB E' K n r := by
    intro K n r
    unfold bodyB
    split
    · exact exB_of hof K _ _ _
    · rw [hw, Bool.eq_iff_iff, List.any_eq_true, List.any_eq_true]
      constructor
      · rintro ⟨x, hx, h⟩; exact ⟨x, (hof _ x).1 hx, h⟩
      · rintro ⟨x, hx, h⟩; exact ⟨x, (hof _ x).2 hx, h⟩
  refine ⟨fun i n hi => ?_, fun n m => ?_, fun n j k r hf hq => ?_⟩
  · obtain ⟨j, k, r, h1, h2⟩ := h.step i n hi
    exact ⟨j, k, r, by rw [hs]; exact h1, by rw [← hb]; exact h2⟩
  · rw [hs]; exact h.lev n m
  · rw [hs] at hf
    exact h.closed n j k r hf (by rw [hb]; exact hq)
theorem ask_order {s : List Ty} {l l' : List Tu} {who : Ob} (hc : errA (chkF s) = 0) (hl : ∀ t, t ∈ l ↔ t ∈ l') {B B' : Int} {fu fu' : Nat} {n : Nd} {w w1 w2 w' : Nat} {a b : Bool} (h1 : askQ (envE s l who) B fu [] n w = some (a, w1)) (h2 : askQ (envE s l' who) B' fu' [] n w' = some (b, w2)) : a = b := by
  obtain ⟨L, hL⟩ := mod_ex (env_ok s l who) hc (T := l.map fun t => t.o) fun n x hx => by
    obtain ⟨t, ht, rfl⟩ := List.mem_map.1 hx
    unfold ofF countsF at ht
    simp only [List.mem_filter, Bool.and_eq_true, decide_eq_true_eq] at ht
    exact List.mem_map.2 ⟨t, ht.1.1, ht.2.1⟩
  have hL' : Mod (envE s l' who) L := hL.of rfl rfl fun n x => by
    show x ∈ (ofF (countsF s l) n).map Tu.s ↔ x ∈ (ofF (countsF s l') n).map Tu.s
    simp only [List.mem_map, ofF, countsF, List.mem_filter, hl]
  rw [ask_mod (env_ok s l who) hc hL h1, ask_mod (env_ok s l' who) hc hL' h2]
end Go.HL
set_option linter.unusedVariables false
set_option linter.unusedSimpArgs false
set_option maxRecDepth 4000
namespace Go.HL
theorem small_ok2 {s : List Ty} {l : List Tu} (h : smallF s l = true) (hl : ∀ t ∈ l, OkU t) : OkN s ∧ OkL l := by
  unfold smallF at h
  rw [Bool.and_eq_true, decide_eq_true_eq] at h
  exact ⟨few_N h.1 (by decide), by omega, hl⟩
theorem chk15_or (E : Env15) (B : Int) (n : Nd) : (∃ e : Int, e ≠ 0 ∧ chk15 E B n = .tup [.bool false, .int .i64 0, .int .i64 e]) ∨
    ∃ (a : Bool) (w : Nat), errA (chkF E.s) = 0 ∧ askQ E B 50 [] n 0 = some (a, w) ∧ chk15 E B n = .tup [.bool a, .int .i64 w, .int .i64 0] := by
  by_cases h1 : B < 0 ∨ 100000 < B ∨ errA (chkF E.s) ≠ 0
  · exact .inl ⟨1, by decide, by unfold chk15; rw [if_pos h1]⟩
  · by_cases h2 : findF E.s n.o.ty n.rl = none
    · exact .inl ⟨6, by decide, by unfold chk15; rw [if_neg h1, if_pos h2]⟩
    · cases h3 : askQ E B 50 [] n 0 with
      | none => exact .inl ⟨12, by decide, by unfold chk15; rw [if_neg h1, if_neg h2, h3]⟩
      | some p =>
        obtain ⟨a, w⟩ := p
        refine .inr ⟨a, w, Classical.byContradiction fun hq => h1 (.inr (.inr hq)), rfl, by unfold chk15; rw [if_neg h1, if_neg h2, h3]⟩
theorem c_EngineOrder {s : List Ty} (hs : OkS s) {l : List Tu} (hl : ∀ t ∈ l, OkU t) (o : Ob) (rl : ByteArray) (who : Ob) (k : Int) :
    AFun PG nr_law15_EngineOrder [scA s, .sl 6 (l.map tuC), .agg (obC o), .str rl, .agg (obC who), .int .i64 k] (.bool true) := by
  intro S
  refine w_law15_EngineOrder ?_
  unfold B_law15_EngineOrder
  (try simp only [rws, Nat.reduceAdd, Nat.reduceLeDiff, Nat.reduceLT, Nat.reduceSub, Nat.reduceMul, Nat.reduceEqDiff, Nat.reduceBEq, Int.reduceAdd, Int.reduceToNat, beq_self_eq_true, Bool.not_true, Bool.not_false, Bool.false_or, Bool.true_or, Bool.or_false, Bool.or_true, Bool.false_and, Bool.true_and, Bool.and_false, Bool.and_true, decide_true, decide_false, Bool.false_eq_true, reduceIte, scA, obC])
  refine caW_pure c_awake15 ?_
  (try simp only [rws, Nat.reduceAdd, Nat.reduceLeDiff, Nat.reduceLT, Nat.reduceSub, Nat.reduceMul, Nat.reduceEqDiff, Nat.reduceBEq, Int.reduceAdd, Int.reduceToNat, beq_self_eq_true, Bool.not_true, Bool.not_false, Bool.false_or, Bool.true_or, Bool.or_false, Bool.or_true, Bool.false_and, Bool.true_and, Bool.and_false, Bool.and_true, decide_true, decide_false, Bool.false_eq_true, reduceIte])
  have q := c_law14_Small hs l
  simp only [scA] at q
  refine caW_pure q ?_
  have out : ∀ b : Bool, b = true → C_law15_EngineOrder_3 (fun ae S' => ae = AEnd.ret (AV.bool true) ∧ S' = S) (.sl 6 (l.map tuC)) (.str rl) (.int .i64 k) (.rop [.sl 2 (s.map tyC)]) (.rop [.str o.ty, .str o.id]) (.rop [.str who.ty, .str who.id]) (.bool true) (.bool b) S := by
    rintro b rfl
    (try simp only [rws, Nat.reduceAdd, Nat.reduceLeDiff, Nat.reduceLT, Nat.reduceSub, Nat.reduceMul, Nat.reduceEqDiff, Nat.reduceBEq, Int.reduceAdd, Int.reduceToNat, beq_self_eq_true, Bool.not_true, Bool.not_false, Bool.false_or, Bool.true_or, Bool.or_false, Bool.or_true, Bool.false_and, Bool.true_and, Bool.and_false, Bool.and_true, decide_true, decide_false, Bool.false_eq_true, reduceIte, C_law15_EngineOrder_3])
    exact rtW_one ⟨rfl, rfl⟩
  cases hsm : smallF s l
  · (try simp only [rws, Nat.reduceAdd, Nat.reduceLeDiff, Nat.reduceLT, Nat.reduceSub, Nat.reduceMul, Nat.reduceEqDiff, Nat.reduceBEq, Int.reduceAdd, Int.reduceToNat, beq_self_eq_true, Bool.not_true, Bool.not_false, Bool.false_or, Bool.true_or, Bool.or_false, Bool.or_true, Bool.false_and, Bool.true_and, Bool.and_false, Bool.and_true, decide_true, decide_false, Bool.false_eq_true, reduceIte, C_law15_EngineOrder_1, C_law15_EngineOrder_2])
    exact out _ rfl
  · (try simp only [rws, Nat.reduceAdd, Nat.reduceLeDiff, Nat.reduceLT, Nat.reduceSub, Nat.reduceMul, Nat.reduceEqDiff, Nat.reduceBEq, Int.reduceAdd, Int.reduceToNat, beq_self_eq_true, Bool.not_true, Bool.not_false, Bool.false_or, Bool.true_or, Bool.or_false, Bool.or_true, Bool.false_and, Bool.true_and, Bool.and_false, Bool.and_true, decide_true, decide_false, Bool.false_eq_true, reduceIte, C_law15_EngineOrder_1])
    cases h1 : decide (k < 0)
    · (try simp only [rws, Nat.reduceAdd, Nat.reduceLeDiff, Nat.reduceLT, Nat.reduceSub, Nat.reduceMul, Nat.reduceEqDiff, Nat.reduceBEq, Int.reduceAdd, Int.reduceToNat, beq_self_eq_true, Bool.not_true, Bool.not_false, Bool.false_or, Bool.true_or, Bool.or_false, Bool.or_true, Bool.false_and, Bool.true_and, Bool.and_false, Bool.and_true, decide_true, decide_false, Bool.false_eq_true, reduceIte, C_law15_EngineOrder_2, List.length_map])
      cases h2 : decide ((l.length : Int) ≤ k)
      · have h1 := of_decide_eq_false h1
        have h2 := of_decide_eq_false h2
        obtain ⟨hN, hL⟩ := small_ok2 hsm hl
        have hln := hL.n
        obtain ⟨m, rfl⟩ : ∃ m : Nat, k = m := ⟨k.toNat, by omega⟩
        have hm : ∀ t, t ∈ l ↔ t ∈ l.drop m ++ l.take m := fun t => by
          have e := List.take_append_drop m l
          constructor
          · intro ht
            rw [← e] at ht
            exact List.mem_append.2 ((List.mem_append.1 ht).symm)
          · intro ht
            rw [← e]
            exact List.mem_append.2 ((List.mem_append.1 ht).symm)
        have hL' : OkL (l.drop m ++ l.take m) := ⟨by simp only [List.length_append, List.length_drop, List.length_take]; omega, fun t ht => hL.ok t ((hm t).2 ht)⟩
        have q1 := c_engine_Check hs hN hL ⟨o, rl⟩ who 2000
        have q2 := c_engine_Check hs hN hL' ⟨o, rl⟩ who 2000
        simp only [scA, obC] at q1 q2
        (try simp only [rws, Nat.reduceAdd, Nat.reduceLeDiff, Nat.reduceLT, Nat.reduceSub, Nat.reduceMul, Nat.reduceEqDiff, Nat.reduceBEq, Int.reduceAdd, Int.reduceToNat, beq_self_eq_true, Bool.not_true, Bool.not_false, Bool.false_or, Bool.true_or, Bool.or_false, Bool.or_true, Bool.false_and, Bool.true_and, Bool.and_false, Bool.and_true, decide_true, decide_false, Bool.false_eq_true, reduceIte, C_law15_EngineOrder_3, loI, hiI, cutI, List.length_map])
        rw [if_pos (by omega), if_pos (by omega), someA_some, someA_some, List.take_of_length_le (by simp), ← List.map_drop, ← List.map_take]
        refine LstN.app (S0 := S) (Sub.refl S) (rows := []) LstN.nil (xs := (l.drop m).map tuC) (fun r hr => by obtain ⟨t, -, rfl⟩ := List.mem_map.1 hr; rfl) (one_flat fun r hr => by obtain ⟨t, -, rfl⟩ := List.mem_map.1 hr; rfl) (by simp only [List.length_map, List.length_drop, List.length_nil]; omega) fun v1 S1 j1 j2 j3 => ?_
        refine LstN.app (S0 := S) j1 j2 (xs := (l.take m).map tuC) (fun r hr => by obtain ⟨t, -, rfl⟩ := List.mem_map.1 hr; rfl) (one_flat fun r hr => by obtain ⟨t, -, rfl⟩ := List.mem_map.1 hr; rfl) (by simp only [List.length_map, List.length_drop, List.length_nil, List.length_take, List.nil_append]; omega) fun v2 S2 i1 i2 i3 => ?_
        rw [List.nil_append, ← List.map_append] at i2
        have q3 := fun S' (hS : Sub S S') (hv : LstN S S' 95 6 v2 ((l.drop m ++ l.take m).map tuC)) => ACalls.frz (S := S') (S1 := S) (FrS.sub hS) (args := [.agg [.sl 2 (s.map tyC)], v2, .agg [.str o.ty, .str o.id], .str rl, .agg [.str who.ty, .str who.id], .int .i64 2000]) (.cons (.same _) (.cons (.lst hv) (Frs.same _))) (q2 S)
        have q3 := q3 S2 i1 i2
        have e := chk15_or (envE s l who) 2000 ⟨o, rl⟩
        have e' := chk15_or (envE s (l.drop m ++ l.take m) who) 2000 ⟨o, rl⟩
        have hord : ∀ a w a' w', errA (chkF s) = 0 → askQ (envE s l who) 2000 50 [] ⟨o, rl⟩ 0 = some (a, w) → askQ (envE s (l.drop m ++ l.take m) who) 2000 50 [] ⟨o, rl⟩ 0 = some (a', w') → a = a' := fun a w a' w' hc h h' => ask_order hc hm h h'
        refine caW_pure q1 ?_
        rcases e with ⟨x, hx, hc⟩ | ⟨a, w, h0, ha, hc⟩
        · rw [hc]
          (try simp only [rws, Nat.reduceAdd, Nat.reduceLeDiff, Nat.reduceLT, Nat.reduceSub, Nat.reduceMul, Nat.reduceEqDiff, Nat.reduceBEq, Int.reduceAdd, Int.reduceToNat, beq_self_eq_true, Bool.not_true, Bool.not_false, Bool.false_or, Bool.true_or, Bool.or_false, Bool.or_true, Bool.false_and, Bool.true_and, Bool.and_false, Bool.and_true, decide_true, decide_false, Bool.false_eq_true, reduceIte])
          refine caW_of q3 ?_
          rintro ae S3 ⟨rfl, rfl⟩
          obtain ⟨a', w', x', hc'⟩ : ∃ (a' : Bool) (w' x' : Int), chk15 (envE s (l.drop m ++ l.take m) who) 2000 ⟨o, rl⟩ = .tup [.bool a', .int .i64 w', .int .i64 x'] := by
            rcases e' with ⟨x', -, hc'⟩ | ⟨a', w', -, -, hc'⟩
            · exact ⟨_, _, _, hc'⟩
            · exact ⟨_, _, _, hc'⟩
          rw [hc']
          (try simp only [rws, Nat.reduceAdd, Nat.reduceLeDiff, Nat.reduceLT, Nat.reduceSub, Nat.reduceMul, Nat.reduceEqDiff, Nat.reduceBEq, Int.reduceAdd, Int.reduceToNat, beq_self_eq_true, Bool.not_true, Bool.not_false, Bool.false_or, Bool.true_or, Bool.or_false, Bool.or_true, Bool.false_and, Bool.true_and, Bool.and_false, Bool.and_true, decide_true, decide_false, Bool.false_eq_true, reduceIte, C_law15_EngineOrder_4, decide_eq_false hx])
          exact rtW_one ⟨rfl, rfl⟩
        · rw [hc]
          (try simp only [rws, Nat.reduceAdd, Nat.reduceLeDiff, Nat.reduceLT, Nat.reduceSub, Nat.reduceMul, Nat.reduceEqDiff, Nat.reduceBEq, Int.reduceAdd, Int.reduceToNat, beq_self_eq_true, Bool.not_true, Bool.not_false, Bool.false_or, Bool.true_or, Bool.or_false, Bool.or_true, Bool.false_and, Bool.true_and, Bool.and_false, Bool.and_true, decide_true, decide_false, Bool.false_eq_true, reduceIte])
          refine caW_of q3 ?_
          rintro ae S3 ⟨rfl, rfl⟩
          rcases e' with ⟨x', hx', hc'⟩ | ⟨a', w', -, ha', hc'⟩
          · rw [hc']
            (try simp only [rws, Nat.reduceAdd, Nat.reduceLeDiff, Nat.reduceLT, Nat.reduceSub, Nat.reduceMul, Nat.reduceEqDiff, Nat.reduceBEq, Int.reduceAdd, Int.reduceToNat, beq_self_eq_true, Bool.not_true, Bool.not_false, Bool.false_or, Bool.true_or, Bool.or_false, Bool.or_true, Bool.false_and, Bool.true_and, Bool.and_false, Bool.and_true, decide_true, decide_false, Bool.false_eq_true, reduceIte, C_law15_EngineOrder_4, decide_eq_false hx'])
            exact rtW_one ⟨rfl, rfl⟩
          · rw [hc', hord a w a' w' h0 ha ha']
            (try simp only [rws, Nat.reduceAdd, Nat.reduceLeDiff, Nat.reduceLT, Nat.reduceSub, Nat.reduceMul, Nat.reduceEqDiff, Nat.reduceBEq, Int.reduceAdd, Int.reduceToNat, beq_self_eq_true, Bool.not_true, Bool.not_false, Bool.false_or, Bool.true_or, Bool.or_false, Bool.or_true, Bool.false_and, Bool.true_and, Bool.and_false, Bool.and_true, decide_true, decide_false, Bool.false_eq_true, reduceIte, C_law15_EngineOrder_4, eqW_def])
            exact rtW_one ⟨by simp, rfl⟩
      · (try simp only [rws, Nat.reduceAdd, Nat.reduceLeDiff, Nat.reduceLT, Nat.reduceSub, Nat.reduceMul, Nat.reduceEqDiff, Nat.reduceBEq, Int.reduceAdd, Int.reduceToNat, beq_self_eq_true, Bool.not_true, Bool.not_false, Bool.false_or, Bool.true_or, Bool.or_false, Bool.or_true, Bool.false_and, Bool.true_and, Bool.and_false, Bool.and_true, decide_true, decide_false, Bool.false_eq_true, reduceIte])
        exact out _ rfl
    · (try simp only [rws, Nat.reduceAdd, Nat.reduceLeDiff, Nat.reduceLT, Nat.reduceSub, Nat.reduceMul, Nat.reduceEqDiff, Nat.reduceBEq, Int.reduceAdd, Int.reduceToNat, beq_self_eq_true, Bool.not_true, Bool.not_false, Bool.false_or, Bool.true_or, Bool.or_false, Bool.or_true, Bool.false_and, Bool.true_and, Bool.and_false, Bool.and_true, decide_true, decide_false, Bool.false_eq_true, reduceIte, C_law15_EngineOrder_2])
      exact out _ rfl
end Go.HL
set_option linter.unusedVariables false
set_option linter.unusedSimpArgs false
namespace Go.HL
def Old (w : World) : Nat → Prop := fun b => b < w.heap.size
theorem cell_old {w : World} {a : Addr} {v : Value} (h : w.cell? a = some v) : Old w a.block := by
  unfold Old
  unfold World.cell? at h
  rcases Nat.lt_or_ge a.block w.heap.size with h1 | h1
  · exact h1
  · rw [Array.getElem?_eq_none h1] at h; simp at h
section
variable {H : Type} {enc : TypeId × Value → H} {P : Program} {w : World} {sp : Nat → Bool} {held : Bool} {n : Nat} {t e : TypeId} {cs : List Value} {x : DataW H × List MemPlace}
def Wt {H : Type} (P : Program) (t : TypeId) (d : DataW H) : Prop := ∀ k ∈ d.weights P t, k ≤ reachBytes
theorem open_str (ht : P.underlying t = some .string) (hw : Wt P t x.1) (h : DataW.trod enc P w 0 sp held n t cs = some x) : ∃ s : ByteArray, s.size ≤ 1125899906842624 ∧ cs = [.string s] := by
  cases n with
  | zero => simp [DataW.trod] at h
  | succ n =>
    unfold DataW.trod at h
    rw [ht] at h
    split at h <;> simp_all
    obtain ⟨h1, rfl⟩ := h
    refine Nat.le_trans (Nat.le_of_eq ?_) (Nat.le_trans (hw _ (by simp only [DataW.weights]; exact List.mem_singleton.2 rfl)) (by decide))
    rw [Array.length_toList]
    rfl
theorem open_int' {k : IntKind} (ht : P.underlying t = some (.int k)) (h : DataW.trod enc P w 0 sp held n t cs = some x) : ∃ z : Int, cs = [.int k z] := by
  cases n with
  | zero => simp [DataW.trod] at h
  | succ n =>
    unfold DataW.trod at h
    rw [ht] at h
    split at h <;> simp_all
theorem cells_get {w : World} {a : Addr} {m : Nat} {vs : List Value} (h : w.cells? 0 a m = some vs) : vs.length = m ∧ ∀ j, j < m → w.cell? (a.add j) = some (vs.getD j undef) := by
  unfold World.cells? at h
  rw [if_pos (Nat.zero_le _)] at h
  have h1 := mapM_some_length h
  refine ⟨by simpa using h1, fun j hj => ?_⟩
  have h2 := mapM_some_get h j j (by simp [hj])
  rw [h2, List.getD_eq_getElem?_getD]
  simp at h1
  rw [List.getElem?_eq_getElem (by omega)]
  rfl
theorem open_slc {α : Type} {enc' : α → List AV} {good : α → Prop} {sz : Nat} (ht : P.underlying t = some (.slice e)) (hc : P.cellsOf e = sz) (hsz : 0 < sz) (hlen : ∀ a, (enc' a).length = sz)
    (hb : 1 ≤ P.bytesOf e) (hw : Wt P t x.1) (hE : ∀ m, m < n → ∀ cs x, Wt P e x.1 → DataW.trod enc P w 0 sp held m e cs = some x → ∃ a, good a ∧ RVs (Old w) w (enc' a) cs) (h : DataW.trod enc P w 0 sp held n t cs = some x) :
    ∃ (l : List α) (v : Value), (∀ a ∈ l, good a) ∧ l.length ≤ 1125899906842624 ∧ cs = [v] ∧ RV (Old w) w (.sl sz (l.map enc')) v := by
  rcases DataW.trod_slice ht h with ⟨rfl, -⟩ | ⟨a, len, cap, elems, rest, m, rfl, rfl, rfl, -, hl, hm, hlen2, hel, -, -⟩
  · exact ⟨[], _, fun a ha => (by cases ha), Nat.zero_le _, rfl, .sl0 _ _ _⟩
  · have hx : DataW.weights P t (.slice (elems.map (·.1)) (rest.map (·.1))) = ((elems.map (·.1)).length + (rest.map (·.1)).length) * P.bytesOf e :: (DataW.weightsAll P e (elems.map (·.1)) ++ DataW.weightsAll P e (rest.map (·.1))) := by
      simp only [DataW.weights]
      rw [ht]
    have hw : ∀ k ∈ DataW.weights P t (.slice (elems.map (·.1)) (rest.map (·.1))), k ≤ reachBytes := hw
    rw [hx] at hw
    have key : ∀ i, i < len → ∃ (y : α) (vs : List Value), good y ∧ RVs (Old w) w (enc' y) vs ∧ w.cells? 0 (a.add (i * sz)) sz = some vs := fun i hi => by
      have h1 := hel i hi
      rw [hc, List.getElem?_eq_getElem (by omega)] at h1
      obtain ⟨vs, h2, h3⟩ := Option.bind_eq_some_iff.1 h1
      have hwi : Wt P e (elems[i]'(by omega)).1 := fun k hk => by
        refine hw k ?_
        refine List.mem_cons_of_mem _ (List.mem_append_left _ ?_)
        have : ∀ l : List (DataW H × List MemPlace), ∀ y ∈ l, ∀ k ∈ y.1.weights P e, k ∈ DataW.weightsAll P e (l.map (·.1)) := by
          intro l
          induction l with
          | nil => intro y hy; cases hy
          | cons z l ih =>
            intro y hy k hk
            simp only [List.map_cons, DataW.weightsAll, List.mem_append]
            rcases List.mem_cons.1 hy with rfl | hy
            · exact .inl hk
            · exact .inr (ih y hy k hk)
        exact this elems _ (List.getElem_mem _) k hk
      obtain ⟨y, k1, k2⟩ := hE m (Nat.lt_succ_self m) vs _ hwi h3
      exact ⟨y, vs, k1, k2, h2⟩
    by_cases h0 : len = 0
    · subst h0
      exact ⟨[], _, fun a ha => (by cases ha), Nat.zero_le _, rfl, .sl0 _ _ _⟩
    have ex : ∃ l : List α, l.length = len ∧ ∀ i y, l[i]? = some y → ∃ vs : List Value, good y ∧ RVs (Old w) w (enc' y) vs ∧ w.cells? 0 (a.add (i * sz)) sz = some vs := by
      have : ∀ k, k ≤ len → ∃ l : List α, l.length = k ∧ ∀ (i : Nat) (y : α), l[i]? = some y → ∃ vs : List Value, good y ∧ RVs (Old w) w (enc' y) vs ∧ w.cells? 0 (a.add (i * sz)) sz = some vs := by
        intro k
        induction k with
        | zero => exact fun _ => ⟨[], rfl, fun i y h => by simp at h⟩
        | succ k ih =>
          intro hk
          obtain ⟨l, k1, k2⟩ := ih (by omega)
          obtain ⟨y, vs, j1⟩ := key k (by omega)
          refine ⟨l ++ [y], by simp [k1], fun i z hz => ?_⟩
          by_cases hi : i < l.length
          · rw [List.getElem?_append_left hi] at hz
            exact k2 i z hz
          · rw [List.getElem?_append_right (by omega)] at hz
            obtain ⟨q, hq⟩ : ∃ q, i - l.length = q := ⟨_, rfl⟩
            rw [hq] at hz
            cases q with
            | succ q => simp at hz
            | zero =>
              simp at hz
              subst hz
              have : i = k := by omega
              subst this
              exact ⟨vs, j1⟩
      exact this len (Nat.le_refl _)
    obtain ⟨l, k1, k2⟩ := ex
    have k3 : ∀ i, i < len → ∃ y vs, l[i]? = some y ∧ good y ∧ RVs (Old w) w (enc' y) vs ∧ w.cells? 0 (a.add (i * sz)) sz = some vs := fun i hi => by
      have hy : l[i]? = some l[i] := List.getElem?_eq_getElem (by omega)
      obtain ⟨vs, h1⟩ := k2 i _ hy
      exact ⟨_, vs, hy, h1⟩
    have hadd : ∀ i j, (a.add (i * sz)).add j = a.add (i * sz + j) := fun i j => add_add _ _ _
    have hll : l.length ≤ 1125899906842624 := by
      have h5 := hw _ List.mem_cons_self
      simp only [List.length_map] at h5
      have h6 : elems.length ≤ (elems.length + rest.length) * P.bytesOf e := Nat.le_trans (Nat.le_add_right _ _) (Nat.le_mul_of_pos_right _ hb)
      unfold reachBytes at h5
      omega
    refine ⟨l, _, fun y hy => ?_, hll, rfl, .sl sz (l.map enc') a len cap (fun i j => ((w.cells? 0 (a.add (i * sz)) sz).getD []).getD j undef) (by simp [k1]) hl ?_ (fun i r hr => ?_) (fun i j hi hj => ?_) (fun i j r u hr hu => ?_)⟩
    · obtain ⟨i, hi⟩ := List.getElem?_of_mem hy
      obtain ⟨vs, h1, -⟩ := k2 i y hi
      exact h1
    · obtain ⟨y, vs, -, -, -, h4⟩ := k3 0 (by omega)
      have h5 := (cells_get h4).2 0 hsz
      have := cell_old h5
      rw [add_add] at this
      simpa [Addr.add] using this
    · rw [List.getElem?_map] at hr
      cases hl2 : l[i]? with
      | none => rw [hl2] at hr; cases hr
      | some y => rw [hl2] at hr; cases hr; exact hlen y
    · obtain ⟨y, vs, -, -, -, h4⟩ := k3 i hi
      rw [h4, ← hadd]
      exact (cells_get h4).2 j hj
    · rw [List.getElem?_map] at hr
      cases hl2 : l[i]? with
      | none => rw [hl2] at hr; cases hr
      | some y =>
        rw [hl2] at hr
        cases hr
        obtain ⟨vs, -, h3, h4⟩ := k2 i y hl2
        rw [h4]
        exact h3.2 j u hu
theorem open_stc {fs : Array Field} (ht : P.underlying t = some (.struct fs)) (hw : Wt P t x.1) (h : DataW.trod enc P w 0 sp held n t cs = some x) : cs.length = P.cellsOf t ∧ ∃ m, n = m + 1 ∧
    ∀ (i : Nat) (f : Field), fs[i]? = some f → ∃ y, Wt P f.type y.1 ∧ DataW.trod enc P w 0 sp held m f.type ((cs.drop f.offset).take (P.cellsOf f.type)) = some y := by
  obtain ⟨xs, m, rfl, rfl, hl, hlen, hf⟩ := DataW.trod_struct ht h
  refine ⟨hl, m, rfl, fun i f hi => ?_⟩
  have hil : i < fs.size := (Array.getElem?_eq_some_iff.1 hi).1
  have h1 := hf i f hi
  have hxi : xs[i]? = some (xs[i]'(by omega)) := List.getElem?_eq_getElem _
  rw [hxi] at h1
  refine ⟨_, fun k hk => ?_, h1⟩
  have hx : DataW.weights P t (.agg (xs.map (·.1))) = DataW.weightsEach P (fs.toList.map (·.type)) (xs.map (·.1)) := by
    simp only [DataW.weights]
    rw [ht]
  have hw : ∀ k ∈ DataW.weights P t (.agg (xs.map (·.1))), k ≤ reachBytes := hw
  rw [hx] at hw
  refine hw k ?_
  have key : ∀ (ts : List TypeId) (ds : List (DataW H)) (j : Nat) (t : TypeId) (d : DataW H), ts[j]? = some t → ds[j]? = some d → ∀ k ∈ d.weights P t, k ∈ DataW.weightsEach P ts ds := by
    intro ts
    induction ts with
    | nil => intro ds j t d h; simp at h
    | cons a ts ih =>
      intro ds j t d h1 h2 k hk
      cases ds with
      | nil => simp at h2
      | cons b ds =>
        simp only [DataW.weightsEach, List.mem_append]
        cases j with
        | zero => simp at h1 h2; subst h1; subst h2; exact .inl hk
        | succ j => simp at h1 h2; exact .inr (ih ds j t d h1 h2 k hk)
  exact key _ _ i _ _ (by rw [List.getElem?_map, Array.getElem?_toList, hi]; rfl) (by rw [List.getElem?_map, hxi]; rfl) k hk
end
structure ScT (P : Program) (tS tTs tT tRs tR tFs tF tE tEs tI tN : TypeId) : Prop where
  int : P.underlying tI = some (.int .i64)
  str : P.underlying tN = some .string
  ex : ∃ f0 f1 f2 f3, P.underlying tE = some (.struct #[f0, f1, f2, f3]) ∧ f0.type = tI ∧ f0.offset = 0 ∧ f1.type = tN ∧ f1.offset = 1 ∧ f2.type = tN ∧ f2.offset = 2 ∧ f3.type = tEs ∧ f3.offset = 3
  exs : P.underlying tEs = some (.slice tE)
  rf : ∃ f0 f1, P.underlying tF = some (.struct #[f0, f1]) ∧ f0.type = tN ∧ f0.offset = 0 ∧ f1.type = tN ∧ f1.offset = 1
  rfs : P.underlying tFs = some (.slice tF)
  rl : ∃ f0 f1 f2, P.underlying tR = some (.struct #[f0, f1, f2]) ∧ f0.type = tN ∧ f0.offset = 0 ∧ f1.type = tFs ∧ f1.offset = 1 ∧ f2.type = tE ∧ f2.offset = 2
  rls : P.underlying tRs = some (.slice tR)
  ty : ∃ f0 f1, P.underlying tT = some (.struct #[f0, f1]) ∧ f0.type = tN ∧ f0.offset = 0 ∧ f1.type = tRs ∧ f1.offset = 1
  tys : P.underlying tTs = some (.slice tT)
  sc : ∃ f0, P.underlying tS = some (.struct #[f0]) ∧ f0.type = tTs ∧ f0.offset = 0
  cI : P.cellsOf tI = 1
  cN : P.cellsOf tN = 1
  cE : P.cellsOf tE = 4
  cEs : P.cellsOf tEs = 1
  cF : P.cellsOf tF = 2
  cFs : P.cellsOf tFs = 1
  cR : P.cellsOf tR = 6
  cRs : P.cellsOf tRs = 1
  cT : P.cellsOf tT = 2
  cTs : P.cellsOf tTs = 1
  cS : P.cellsOf tS = 1
  bE : 1 ≤ P.bytesOf tE
  bF : 1 ≤ P.bytesOf tF
  bR : 1 ≤ P.bytesOf tR
  bT : 1 ≤ P.bytesOf tT
section
variable {H : Type} {enc : TypeId × Value → H} {P : Program} {w : World} {sp : Nat → Bool} {held : Bool} {tS tTs tT tRs tR tFs tF tE tEs tI tN : TypeId} (K : ScT P tS tTs tT tRs tR tFs tF tE tEs tI tN)
include K
theorem open_ex : ∀ (n : Nat) (cs : List Value) (x : DataW H × List MemPlace), Wt P tE x.1 → DataW.trod enc P w 0 sp held n tE cs = some x → ∃ e : Ex, OkE e ∧ RVs (Old w) w (exC e) cs := by
  intro n
  induction n using Nat.strongRecOn with
  | _ n ih =>
    intro cs x hw h
    obtain ⟨f0, f1, f2, f3, hu, a0, b0, a1, b1, a2, b2, a3, b3⟩ := K.ex
    obtain ⟨hl, m, rfl, hf⟩ := open_stc hu hw h
    rw [K.cE] at hl
    obtain ⟨c0, c1, c2, c3, rfl⟩ : ∃ c0 c1 c2 c3, cs = [c0, c1, c2, c3] := by
      match cs, hl with
      | [c0, c1, c2, c3], _ => exact ⟨_, _, _, _, rfl⟩
    obtain ⟨y0, w0, h0⟩ := hf 0 f0 rfl
    obtain ⟨y1, w1, h1⟩ := hf 1 f1 rfl
    obtain ⟨y2, w2, h2⟩ := hf 2 f2 rfl
    obtain ⟨y3, w3, h3⟩ := hf 3 f3 rfl
    rw [a0, b0, K.cI] at h0
    rw [a1, b1, K.cN] at h1
    rw [a2, b2, K.cN] at h2
    rw [a3, b3, K.cEs] at h3
    rw [a1] at w1
    rw [a2] at w2
    rw [a3] at w3
    obtain ⟨z, e0⟩ := open_int' K.int h0
    obtain ⟨s1, g1, e1⟩ := open_str K.str w1 h1
    obtain ⟨s2, g2, e2⟩ := open_str K.str w2 h2
    obtain ⟨l, v, g3, g4, e3, g5⟩ := open_slc (enc' := exC) (good := OkE) K.exs K.cE (by decide) exC_len K.bE w3 (fun k hk cs x hw h => ih k (by omega) cs x hw h) h3
    simp at e0 e1 e2 e3
    subst e0; subst e1; subst e2; subst e3
    refine ⟨.mk z s1 s2 l, .mk z s1 s2 l g4 g1 g2 g3, ?_⟩
    rw [exC_eq]
    exact .cons (.int _ _) (.cons (.str _) (.cons (.str _) (.cons g5 .nil)))
theorem open_rf {n : Nat} {cs : List Value} {x : DataW H × List MemPlace} (hw : Wt P tF x.1) (h : DataW.trod enc P w 0 sp held n tF cs = some x) : ∃ f : Rf, OkF f ∧ RVs (Old w) w (rfC f) cs := by
  obtain ⟨f0, f1, hu, a0, b0, a1, b1⟩ := K.rf
  obtain ⟨hl, m, rfl, hf⟩ := open_stc hu hw h
  rw [K.cF] at hl
  obtain ⟨c0, c1, rfl⟩ : ∃ c0 c1, cs = [c0, c1] := by
    match cs, hl with
    | [c0, c1], _ => exact ⟨_, _, rfl⟩
  obtain ⟨y0, w0, h0⟩ := hf 0 f0 rfl
  obtain ⟨y1, w1, h1⟩ := hf 1 f1 rfl
  rw [a0, b0, K.cN] at h0
  rw [a1, b1, K.cN] at h1
  rw [a0] at w0
  rw [a1] at w1
  obtain ⟨s1, g1, e1⟩ := open_str K.str w0 h0
  obtain ⟨s2, g2, e2⟩ := open_str K.str w1 h1
  simp at e1 e2
  subst e1; subst e2
  exact ⟨⟨s1, s2⟩, ⟨g1, g2⟩, .cons (.str _) (.cons (.str _) .nil)⟩
theorem open_rl {n : Nat} {cs : List Value} {x : DataW H × List MemPlace} (hw : Wt P tR x.1) (h : DataW.trod enc P w 0 sp held n tR cs = some x) : ∃ r : Rl, OkR r ∧ RVs (Old w) w (rlC r) cs := by
  obtain ⟨f0, f1, f2, hu, a0, b0, a1, b1, a2, b2⟩ := K.rl
  obtain ⟨hl, m, rfl, hf⟩ := open_stc hu hw h
  rw [K.cR] at hl
  obtain ⟨c0, c1, c2, c3, c4, c5, rfl⟩ : ∃ c0 c1 c2 c3 c4 c5, cs = [c0, c1, c2, c3, c4, c5] := by
    match cs, hl with
    | [c0, c1, c2, c3, c4, c5], _ => exact ⟨_, _, _, _, _, _, rfl⟩
  obtain ⟨y0, w0, h0⟩ := hf 0 f0 rfl
  obtain ⟨y1, w1, h1⟩ := hf 1 f1 rfl
  obtain ⟨y2, w2, h2⟩ := hf 2 f2 rfl
  rw [a0, b0, K.cN] at h0
  rw [a1, b1, K.cFs] at h1
  rw [a2, b2, K.cE] at h2
  rw [a0] at w0
  rw [a1] at w1
  rw [a2] at w2
  obtain ⟨s1, g1, e1⟩ := open_str K.str w0 h0
  obtain ⟨l, v, g3, g4, e3, g5⟩ := open_slc (enc' := rfC) (good := OkF) K.rfs K.cF (by decide) (fun _ => rfl) K.bF w1 (fun k _ cs x hw h => open_rf K hw h) h1
  obtain ⟨e, g6, g7⟩ := open_ex K _ _ _ w2 h2
  simp at e1 e3
  subst e1; subst e3
  exact ⟨⟨s1, l, e⟩, ⟨g1, g4, g3, g6⟩, .cons (.str _) (.cons g5 g7)⟩
theorem open_ty {n : Nat} {cs : List Value} {x : DataW H × List MemPlace} (hw : Wt P tT x.1) (h : DataW.trod enc P w 0 sp held n tT cs = some x) : ∃ t : Ty, OkT t ∧ RVs (Old w) w (tyC t) cs := by
  obtain ⟨f0, f1, hu, a0, b0, a1, b1⟩ := K.ty
  obtain ⟨hl, m, rfl, hf⟩ := open_stc hu hw h
  rw [K.cT] at hl
  obtain ⟨c0, c1, rfl⟩ : ∃ c0 c1, cs = [c0, c1] := by
    match cs, hl with
    | [c0, c1], _ => exact ⟨_, _, rfl⟩
  obtain ⟨y0, w0, h0⟩ := hf 0 f0 rfl
  obtain ⟨y1, w1, h1⟩ := hf 1 f1 rfl
  rw [a0, b0, K.cN] at h0
  rw [a1, b1, K.cRs] at h1
  rw [a0] at w0
  rw [a1] at w1
  obtain ⟨s1, g1, e1⟩ := open_str K.str w0 h0
  obtain ⟨l, v, g3, g4, e3, g5⟩ := open_slc (enc' := rlC) (good := OkR) K.rls K.cR (by decide) rlC_len K.bR w1 (fun k _ cs x hw h => open_rl K hw h) h1
  simp at e1 e3
  subst e1; subst e3
  exact ⟨⟨s1, l⟩, ⟨g1, g4, g3⟩, .cons (.str _) (.cons g5 .nil)⟩
theorem open_sc {v : Value} {d : DataW H} {ps : List MemPlace} (hw : Wt P tS d) (h : DataW.Trod enc P w 0 sp held tS v d ps) (hv : ∃ vs, v = .agg vs) : ∃ s : List Ty, OkS s ∧ RV (Old w) w (scA s) v := by
  obtain ⟨n, h⟩ := h
  obtain ⟨vs, rfl⟩ := hv
  obtain ⟨f0, hu, a0, b0⟩ := K.sc
  obtain ⟨hl, m, rfl, hf⟩ := open_stc (x := (d, ps)) hu hw h
  rw [K.cS] at hl
  obtain ⟨y0, w0, h0⟩ := hf 0 f0 rfl
  rw [a0, b0, K.cTs] at h0
  rw [a0] at w0
  obtain ⟨l, v, g3, g4, e3, g5⟩ := open_slc (enc' := tyC) (good := OkT) K.tys K.cT (by decide) (fun _ => rfl) K.bT w0 (fun k _ cs x hw h => open_ty K hw h) h0
  refine ⟨l, ⟨g4, g3⟩, ?_⟩
  have hc : (Value.agg vs).cells.toList = vs.toList := by simp [Value.cells]
  rw [hc] at hl e3
  have hvs : vs.toList = [v] := by
    match hq : vs.toList, hl with
    | [c], _ => rw [hq] at e3; simpa using e3
  refine .agg _ vs (by rw [← Array.length_toList, hvs]; rfl) fun i u hi => ?_
  match i, hi with
  | 0, hi =>
    simp at hi
    subst hi
    have : vs.getD 0 undef = v := by
      have h9 : vs = #[v] := by
        apply Array.toList_inj.1
        rw [hvs]
      rw [h9]; rfl
    rw [this]
    exact g5
end
end Go.HL
set_option linter.unusedVariables false
set_option linter.unusedSimpArgs false
namespace Go.HL
open Go.ChangeShapes Go.WideShapes Go.RowKit
theorem below_of {R R' : Nat → Prop} {S' : Store} {w w' : World} (h : Step R emp w R' S' w') : Below w.heap.size w w' := ⟨h.os, h.tape, h.output, h.size, fun k hk => (h.keep k hk rfl).1⟩
theorem sim_old (w : World) : Sim (Old w) emp w := ⟨fun b o h => (by cases h), fun b h => ⟨rfl, h⟩⟩
theorem call_true {f : Nat} {args : List AV} {vs : Array Value} {w : World} (hok : callOk PG f = true) (h : AFun PG f args (.bool true)) (hv : RVs (Old w) w args vs.toList) : Calls PG f vs w fun en w' => en = .returned (.bool true) ∧ Below w.heap.size w w' := by
  refine ((h emp (Old w) w vs (sim_old w) hv).calls hok).mono fun en w' ⟨R', S', ae, h1, h2, h3, h4⟩ => ?_
  obtain ⟨rfl, rfl⟩ := h2
  cases en with
  | returned v =>
    have h1 : RV R' w' (.bool true) v := h1
    cases h1
    exact ⟨rfl, below_of h4⟩
  | _ => exact h1.elim
section
variable {H : Type} {enc : TypeId × Value → H} {P : Program}
theorem trodAll_stays {W W' : World} (hl : laidOutB P = true) (hb : Below W.heap.size W W') {sp' : Nat → Bool} : ∀ {ts : List TypeId} {vs : List Value} {ds : List (DataW H)} {ps : List MemPlace}, (∀ t ∈ ts, P.readableRec t = true ∧ t < P.types.size) → DataW.TrodAll enc P W 0 (fun _ => true) true ts vs ds ps →
    (∀ p ∈ ps, p.block < W.heap.size) → (∀ p ∈ ps, sp' p.block = true) → DataW.TrodAll enc P W' 0 sp' true ts vs ds ps
  | [], vs, ds, ps, _, h, _, _ => by
    obtain ⟨rfl, rfl, rfl⟩ := trodAll_nil h
    exact trodAll_mk0
  | t :: ts, vs, ds, ps, ht, h, h1, h2 => by
    obtain ⟨v, vs1, d, ds1, a, b, rfl, rfl, rfl, k1, k2⟩ := trodAll_cons h
    have ht0 := ht t (by simp)
    exact ⟨a, b, WideElems.Trod_stays hl ht0.1 ht0.2 k1 (fun p hp => hb.same (h1 p (List.mem_append_left _ hp))) (fun p hp => h2 p (List.mem_append_left _ hp)),
      trodAll_stays hl hb (fun t h => ht t (List.mem_cons_of_mem _ h)) k2 (fun p hp => h1 p (List.mem_append_right _ hp)) (fun p hp => h2 p (List.mem_append_right _ hp)), rfl⟩
theorem post_kept {f : Func} {s : ChangeSpec} {apart fresh handsOn again : Bool} {W W' : World} {args : Array Value} {ds gs : List (DataW H)} {before : List MemPlace} {tb : TypeId}
    (hl : laidOutB P = true) (hts : ∀ t ∈ f.params.toList, P.readableRec t = true ∧ t < P.types.size) (hvars : s.vars = [])
    (hW : DataW.Whole enc P f.params.toList s.vars apart W args.toList ds gs before) (hfn : (s.fn H (ds ++ gs)).results = [.lit (.bool true)] ∧ (s.fn H (ds ++ gs)).args = ds ∧ (s.fn H (ds ++ gs)).vars = [])
    (hr : f.resultTypes = #[tb]) (hb : P.underlying tb = some .bool) (hB : Below W.heap.size W W') : s.post enc P f apart fresh handsOn again W args (.bool true) W' := by
  have hlt := hW.lt
  have hW0 := hW
  obtain ⟨p, q, hA, hV, rfl, hz, hn⟩ := hW
  rw [hvars] at hV
  obtain ⟨rfl, rfl⟩ := trodVars_none hV
  rw [List.append_nil] at *
  obtain ⟨e1, e2, e3⟩ := hfn
  have hold : ∀ x ∈ p, (fun b => decide (b < W.heap.size)) x.block = true := fun x hx => by simpa using hlt x hx
  have hres : ∀ (b : Nat) (sp : Nat → Bool) (hd : Bool), DataW.TrodAll enc P W' b sp hd f.resultTypes.toList ((Value.bool true).resultList f.resultTypes.size) [.lit (.bool true)] [] := fun b sp hd => by
    rw [hr]
    exact trodAll_mk1 (shut_bool hb true)
  refine ⟨ds, [], p, [], p, [], hW0, by rw [List.append_nil, e1]; exact hres _ _ _, by rw [List.append_nil, e2]; exact trodAll_stays hl hB hts hA hlt hold, by rw [List.append_nil, hvars, e3]; exact rfl, hB.frame _, fun _ => ?_⟩
  refine ⟨ok_one hr rfl (okWide_bool_mk hb true), _, [], ([] ++ p) ++ [], ⟨[] ++ p, [], trodAll_append (trodAll_stays hl hB hts hA hlt (fun _ _ => rfl)) (hres _ _ _), by rw [hvars]; exact rfl, rfl, ?_, ?_⟩, ?_⟩
  · intro b off hp
    have hp : MemPlace.cell b off ∈ p := by simpa using hp
    rw [hB.frozen (p := ⟨b, off, none⟩) (hlt _ hp)]
    exact hz b off hp
  · intro ha
    simpa using hn ha
  · intro x hx _
    simpa using hx
end
end Go.HL
set_option linter.unusedVariables false
set_option linter.unusedSimpArgs false
namespace Go.HL
structure TuT (P : Program) (tL tU tD tO tN : TypeId) : Prop where
  str : P.underlying tN = some .string
  ob : ∃ f0 f1, P.underlying tO = some (.struct #[f0, f1]) ∧ f0.type = tN ∧ f0.offset = 0 ∧ f1.type = tN ∧ f1.offset = 1
  nd : ∃ f0 f1, P.underlying tD = some (.struct #[f0, f1]) ∧ f0.type = tO ∧ f0.offset = 0 ∧ f1.type = tN ∧ f1.offset = 2
  tu : ∃ f0 f1 f2, P.underlying tU = some (.struct #[f0, f1, f2]) ∧ f0.type = tO ∧ f0.offset = 0 ∧ f1.type = tN ∧ f1.offset = 2 ∧ f2.type = tD ∧ f2.offset = 3
  tus : P.underlying tL = some (.slice tU)
  cN : P.cellsOf tN = 1
  cO : P.cellsOf tO = 2
  cD : P.cellsOf tD = 3
  cU : P.cellsOf tU = 6
  bU : 1 ≤ P.bytesOf tU
section
variable {H : Type} {enc : TypeId × Value → H} {P : Program} {w : World} {sp : Nat → Bool} {held : Bool} {tL tU tD tO tN : TypeId} (K : TuT P tL tU tD tO tN)
include K
theorem open_ob {n : Nat} {cs : List Value} {x : DataW H × List MemPlace} (hw : Wt P tO x.1) (h : DataW.trod enc P w 0 sp held n tO cs = some x) : ∃ o : Ob, OkO o ∧ cs = [.string o.ty, .string o.id] := by
  obtain ⟨f0, f1, hu, a0, b0, a1, b1⟩ := K.ob
  obtain ⟨hl, m, rfl, hf⟩ := open_stc hu hw h
  rw [K.cO] at hl
  obtain ⟨c0, c1, rfl⟩ : ∃ c0 c1, cs = [c0, c1] := by
    match cs, hl with
    | [c0, c1], _ => exact ⟨_, _, rfl⟩
  obtain ⟨y0, w0, h0⟩ := hf 0 f0 rfl
  obtain ⟨y1, w1, h1⟩ := hf 1 f1 rfl
  rw [a0, b0, K.cN] at h0
  rw [a1, b1, K.cN] at h1
  rw [a0] at w0
  rw [a1] at w1
  obtain ⟨s1, g1, e1⟩ := open_str K.str w0 h0
  obtain ⟨s2, g2, e2⟩ := open_str K.str w1 h1
  simp at e1 e2
  subst e1; subst e2
  exact ⟨⟨s1, s2⟩, ⟨g1, g2⟩, rfl⟩
theorem open_nd {n : Nat} {cs : List Value} {x : DataW H × List MemPlace} (hw : Wt P tD x.1) (h : DataW.trod enc P w 0 sp held n tD cs = some x) : ∃ o : Nd, OkD o ∧ cs = [.string o.o.ty, .string o.o.id, .string o.rl] := by
  obtain ⟨f0, f1, hu, a0, b0, a1, b1⟩ := K.nd
  obtain ⟨hl, m, rfl, hf⟩ := open_stc hu hw h
  rw [K.cD] at hl
  obtain ⟨c0, c1, c2, rfl⟩ : ∃ c0 c1 c2, cs = [c0, c1, c2] := by
    match cs, hl with
    | [c0, c1, c2], _ => exact ⟨_, _, _, rfl⟩
  obtain ⟨y0, w0, h0⟩ := hf 0 f0 rfl
  obtain ⟨y1, w1, h1⟩ := hf 1 f1 rfl
  rw [a0, b0, K.cO] at h0
  rw [a1, b1, K.cN] at h1
  rw [a0] at w0
  rw [a1] at w1
  obtain ⟨o, g1, e1⟩ := open_ob K w0 h0
  obtain ⟨s2, g2, e2⟩ := open_str K.str w1 h1
  simp at e1 e2
  obtain ⟨rfl, rfl⟩ := e1
  subst e2
  exact ⟨⟨o, s2⟩, ⟨g1, g2⟩, rfl⟩
theorem open_tu {n : Nat} {cs : List Value} {x : DataW H × List MemPlace} (hw : Wt P tU x.1) (h : DataW.trod enc P w 0 sp held n tU cs = some x) : ∃ t : Tu, OkU t ∧ RVs (Old w) w (tuC t) cs := by
  obtain ⟨f0, f1, f2, hu, a0, b0, a1, b1, a2, b2⟩ := K.tu
  obtain ⟨hl, m, rfl, hf⟩ := open_stc hu hw h
  rw [K.cU] at hl
  obtain ⟨c0, c1, c2, c3, c4, c5, rfl⟩ : ∃ c0 c1 c2 c3 c4 c5, cs = [c0, c1, c2, c3, c4, c5] := by
    match cs, hl with
    | [c0, c1, c2, c3, c4, c5], _ => exact ⟨_, _, _, _, _, _, rfl⟩
  obtain ⟨y0, w0, h0⟩ := hf 0 f0 rfl
  obtain ⟨y1, w1, h1⟩ := hf 1 f1 rfl
  obtain ⟨y2, w2, h2⟩ := hf 2 f2 rfl
  rw [a0, b0, K.cO] at h0
  rw [a1, b1, K.cN] at h1
  rw [a2, b2, K.cD] at h2
  rw [a0] at w0
  rw [a1] at w1
  rw [a2] at w2
  obtain ⟨o, g1, e1⟩ := open_ob K w0 h0
  obtain ⟨r, g2, e2⟩ := open_str K.str w1 h1
  obtain ⟨s, g3, e3⟩ := open_nd K w2 h2
  simp at e1 e2 e3
  obtain ⟨rfl, rfl⟩ := e1
  subst e2
  obtain ⟨rfl, rfl, rfl⟩ := e3
  exact ⟨⟨o, r, s⟩, ⟨g1, g2, g3⟩, .cons (.str _) (.cons (.str _) (.cons (.str _) (.cons (.str _) (.cons (.str _) (.cons (.str _) .nil)))))⟩
theorem open_obj {v : Value} {d : DataW H} {ps : List MemPlace} (hw : Wt P tO d) (h : DataW.Trod enc P w 0 sp held tO v d ps) (hv : ∃ vs, v = .agg vs) : ∃ o : Ob, OkO o ∧ RV (Old w) w (.agg (obC o)) v := by
  obtain ⟨n, h⟩ := h
  obtain ⟨vs, rfl⟩ := hv
  obtain ⟨o, g, e⟩ := open_ob K (x := (d, ps)) hw h
  have hc : (Value.agg vs).cells.toList = vs.toList := by simp [Value.cells]
  rw [hc] at e
  have h9 : vs = #[.string o.ty, .string o.id] := Array.toList_inj.1 (by rw [e])
  subst h9
  refine ⟨o, g, .agg _ _ rfl fun i u hi => ?_⟩
  match i, hi with
  | 0, hi => simp [obC] at hi; subst hi; exact .str _
  | 1, hi => simp [obC] at hi; subst hi; exact .str _
theorem open_tus {v : Value} {d : DataW H} {ps : List MemPlace} (hw : Wt P tL d) (h : DataW.Trod enc P w 0 sp held tL v d ps) (hv : ∃ a b c, v = .slice a b c) : ∃ l : List Tu, (∀ t ∈ l, OkU t) ∧ RV (Old w) w (.sl 6 (l.map tuC)) v := by
  obtain ⟨n, h⟩ := h
  obtain ⟨a, b, c, rfl⟩ := hv
  obtain ⟨l, v, g1, g2, e, g3⟩ := open_slc (enc' := tuC) (good := OkU) (x := (d, ps)) K.tus K.cU (by decide) (fun _ => rfl) K.bU hw (fun k _ cs x hw h => open_tu K hw h) h
  have : v = .slice a b c := by
    have := congrArg List.head? e
    simpa [Value.cells] using this.symm
  subst this
  exact ⟨l, g1, g3⟩
end
end Go.HL
set_option linter.unusedVariables false
namespace Go.Proofs.Ytadmdlpmikoghaa
open Go.ChangeShapes Go.WideShapes Go.ChangeAt Go.RowKit Go.HL
theorem own : ownKnob Try.prog.godebug = none := by kernel_rfl
theorem laidOut : laidOutB Try.prog = true := by kernel_rfl
theorem scT : ScT Try.prog 24 22 51 49 43 38 53 41 39 3 9 where
  int := Try.underlying3
  str := Try.underlying9
  ex := ⟨_, _, _, _, Try.underlying41, rfl, rfl, rfl, rfl, rfl, rfl, rfl, rfl⟩
  exs := Try.underlying39
  rf := ⟨_, _, Try.underlying53, rfl, rfl, rfl, rfl⟩
  rfs := Try.underlying38
  rl := ⟨_, _, _, Try.underlying43, rfl, rfl, rfl, rfl, rfl, rfl⟩
  rls := Try.underlying49
  ty := ⟨_, _, Try.underlying51, rfl, rfl, rfl, rfl⟩
  tys := Try.underlying22
  sc := ⟨_, Try.underlying24, rfl, rfl⟩
  cI := by kernel_rfl
  cN := by kernel_rfl
  cE := by kernel_rfl
  cEs := by kernel_rfl
  cF := by kernel_rfl
  cFs := by kernel_rfl
  cR := by kernel_rfl
  cRs := by kernel_rfl
  cT := by kernel_rfl
  cTs := by kernel_rfl
  cS := by kernel_rfl
  bE := of_decide_eq_true (by kernel_rfl)
  bF := of_decide_eq_true (by kernel_rfl)
  bR := of_decide_eq_true (by kernel_rfl)
  bT := of_decide_eq_true (by kernel_rfl)
theorem tuT : TuT Try.prog 54 95 93 56 9 where
  str := Try.underlying9
  ob := ⟨_, _, Try.underlying56, rfl, rfl, rfl, rfl⟩
  nd := ⟨_, _, Try.underlying93, rfl, rfl, rfl, rfl⟩
  tu := ⟨_, _, _, Try.underlying95, rfl, rfl, rfl, rfl, rfl, rfl⟩
  tus := Try.underlying54
  cN := by kernel_rfl
  cO := by kernel_rfl
  cD := by kernel_rfl
  cU := by kernel_rfl
  bU := of_decide_eq_true (by kernel_rfl)
theorem weights_one {H : Type} {P : Program} {t : TypeId} {d : DataW H} {ts : List TypeId} {ds : List (DataW H)} (h : (DataW.weightsEach P (t :: ts) (d :: ds)).all (· ≤ reachBytes) = true) : Wt P t d ∧ (DataW.weightsEach P ts ds).all (· ≤ reachBytes) = true := by
  simp only [DataW.weightsEach, List.all_append, Bool.and_eq_true, List.all_eq_true, decide_eq_true_eq] at h
  refine ⟨h.1, ?_⟩
  rw [List.all_eq_true]
  exact fun x hx => decide_eq_true (h.2 x hx)
theorem trodAll_six {H : Type} {enc : TypeId × Value → H} {P : Program} {w : World} {base : Nat} {spare : Nat → Bool} {held : Bool} {t0 t1 t2 t3 t4 t5 : TypeId} {args : Array Value} {ds : List (DataW H)} {ps : List MemPlace} (h : DataW.TrodAll enc P w base spare held [t0, t1, t2, t3, t4, t5] args.toList ds ps) :
    ∃ v0 v1 v2 v3 v4 v5 d0 d1 d2 d3 d4 d5 p0 p1 p2 p3 p4 p5, args = #[v0, v1, v2, v3, v4, v5] ∧ ds = [d0, d1, d2, d3, d4, d5] ∧ ps = p0 ++ (p1 ++ (p2 ++ (p3 ++ (p4 ++ (p5))))) ∧ DataW.Trod enc P w base spare held t0 v0 d0 p0 ∧ DataW.Trod enc P w base spare held t1 v1 d1 p1 ∧ DataW.Trod enc P w base spare held t2 v2 d2 p2 ∧ DataW.Trod enc P w base spare held t3 v3 d3 p3 ∧ DataW.Trod enc P w base spare held t4 v4 d4 p4 ∧ DataW.Trod enc P w base spare held t5 v5 d5 p5 := by
  obtain ⟨v0, vs0, d0, ds0, p0, q0, hargs, rfl, rfl, h0, g0⟩ := trodAll_cons h
  obtain ⟨v1, vs1, d1, ds1, p1, q1, rfl, rfl, rfl, h1, g1⟩ := trodAll_cons g0
  obtain ⟨v2, vs2, d2, ds2, p2, q2, rfl, rfl, rfl, h2, g2⟩ := trodAll_cons g1
  obtain ⟨v3, vs3, d3, ds3, p3, q3, rfl, rfl, rfl, h3, g3⟩ := trodAll_cons g2
  obtain ⟨v4, vs4, d4, ds4, p4, q4, rfl, rfl, rfl, h4, g4⟩ := trodAll_cons g3
  obtain ⟨v5, vs5, d5, ds5, p5, q5, rfl, rfl, rfl, h5, g5⟩ := trodAll_cons g4
  obtain ⟨rfl, rfl, rfl⟩ := trodAll_nil g5
  exact ⟨v0, v1, v2, v3, v4, v5, d0, d1, d2, d3, d4, d5, p0, p1, p2, p3, p4, p5, by cases args; simp_all, rfl, by simp, h0, h1, h2, h3, h4, h5⟩
end Go.Proofs.Ytadmdlpmikoghaa
set_option linter.unusedVariables false
namespace Go.Proofs.Ytadmdlpmikoghaa
open Go.ChangeShapes Go.WideShapes Go.ChangeAt Go.RowKit Go.HL
set_option maxRecDepth 100000 in
theorem engineOrder_lifted (os : Os) (started : os.Started) (H : Type) (enc : TypeId × Value → H) :
    ReturnsInHanded {} Try.checked os 10 .any (fun w args => (Rows.engineOrderSpec.pre enc Try.prog Try.f10 Rows.engineOrderRow.domain false w args ∧ True) ∧ sizedMet enc Try.prog Try.f10 (OpenSpec.ofChange Rows.engineOrderSpec) false w args)
      (Rows.engineOrderSpec.post enc Try.prog Try.f10 false true false false) := by
  refine returnsInHanded_of_change_and (C := Try.checked) (X := fun _ _ => True) (fun _ _ _ _ h => h) own started (by kernel_rfl) Try.func10
    (by
      obtain ⟨w, t, i, h1, h2, h3, h4, h5, h6⟩ := ChangeSpec.witness6 (enc := enc) (C := Try.checked) (os := os) (f := 10) (fn := Try.f10) (s := Rows.engineOrderSpec) (conds := Rows.engineOrderRow.domain) (apart := false) false ⟨#[], #[.agg #[.slice none 0 0], .slice none 0 0, .agg #[.string ⟨#[]⟩, .string ⟨#[]⟩], .string ⟨#[]⟩, .agg #[.string ⟨#[]⟩, .string ⟨#[]⟩], .int .i64 0], []⟩ 8 (by kernel_rfl) (by kernel_rfl) (by kernel_rfl) (by kernel_rfl)
      exact ⟨w, t, i, h1, h2, h3, h4, ⟨⟨h5.1, trivial⟩, h5.2⟩, h6⟩) ?_
  intro W base args ds gs before hval0 hW hcnd hsz0 _ _
  have hval : ∀ (j : Nat) t v, Try.f10.params[j]? = some t → args[j]? = some v → Value.okWide Try.prog W .any base t v := hval0
  have hsz : (DataW.weightsEach Try.prog (Try.f10.params.toList ++ []) (ds ++ gs)).all (· ≤ reachBytes) = true := hsz0
  have hW' := hW
  obtain ⟨p, q, hA0, hV, rfl, hfz, hnd⟩ := hW
  have hA : DataW.TrodAll enc Try.prog W 0 (fun _ => true) true Try.f10.params.toList args.toList ds p := hA0
  rw [Try.params10] at hA hval hsz
  obtain ⟨v0, v1, v2, v3, v4, v5, d0, d1, d2, d3, d4, d5, p0, p1, p2, p3, p4, p5, rfl, rfl, rfl, h0, h1, h2, h3, h4, h5⟩ := trodAll_six hA
  obtain ⟨rfl, rfl⟩ := trodVars_none hV
  obtain ⟨w0, hsz⟩ := weights_one hsz
  obtain ⟨w1, hsz⟩ := weights_one hsz
  obtain ⟨w2, hsz⟩ := weights_one hsz
  obtain ⟨-, hsz⟩ := weights_one hsz
  obtain ⟨w4, hsz⟩ := weights_one hsz
  obtain ⟨-, hsz⟩ := weights_one hsz
  obtain ⟨vs0, hvs0, -⟩ := okWide_struct Try.underlying24 (hval 0 24 v0 rfl rfl)
  obtain ⟨a0, hs0, hv0⟩ := open_sc scT w0 h0 ⟨vs0, hvs0⟩
  obtain ⟨a1, hs1, hv1⟩ := open_tus tuT w1 h1 (okWide_slice Try.underlying54 (hval 1 54 v1 rfl rfl))
  obtain ⟨vs2, hvs2, -⟩ := okWide_struct Try.underlying56 (hval 2 56 v2 rfl rfl)
  obtain ⟨a2, hs2, hv2⟩ := open_obj tuT w2 h2 ⟨vs2, hvs2⟩
  obtain ⟨a3, rfl, -, -, -⟩ := Go.ChangeMaps.open_string Try.underlying9 (hval 3 9 v3 rfl rfl) h3
  obtain ⟨vs4, hvs4, -⟩ := okWide_struct Try.underlying56 (hval 4 56 v4 rfl rfl)
  obtain ⟨a4, hs4, hv4⟩ := open_obj tuT w4 h4 ⟨vs4, hvs4⟩
  obtain ⟨a5, rfl, rfl, rfl, -⟩ := Go.ChangeShapes.open_int Try.underlying3 (hval 5 3 v5 rfl rfl) h5
  clear hA0 hval0 hsz0
  refine (call_true (by kernel_rfl) (c_EngineOrder hs0 hs1 a2 a3 a4 a5) (vs := #[v0, v1, v2, .string a3, v4, .int .i64 a5]) (.cons hv0 (.cons hv1 (.cons hv2 (.cons (.str _) (.cons hv4 (.cons (.int _ _) .nil))))))).mono fun e W' ⟨he, hB⟩ => ?_
  subst he
  have hts : (Try.f10.params.toList.all fun t => Try.prog.readableRec t && decide (t < Try.prog.types.size)) = true := by kernel_rfl
  exact ⟨_, rfl, post_kept laidOut (fun t ht => by have h := List.all_eq_true.1 hts t ht; rw [Bool.and_eq_true] at h; exact ⟨h.1, of_decide_eq_true h.2⟩) rfl hW' ⟨rfl, rfl, rfl⟩ (tb := 4) (by kernel_rfl) Try.underlying4 hB⟩
set_option maxRecDepth 100000 in
theorem engineOrder_closed : joinedFacts Try.pinned.checked.prog 10 Try.f10 Rows.engineOrderSpec Rows.engineOrderRow = true := by kernel_rfl
theorem engineOrder_holds : Rows.EngineOrderSaid :=
  OpenClaim.holds_of_wide 10 Try.f10 rfl rfl rfl rfl rfl rfl rfl ⟨rfl, rfl, rfl, rfl, rfl⟩ rfl rfl rfl rfl rfl (by kernel_rfl) Try.func10 engineOrder_closed
    (of_decide_eq_true (by kernel_rfl)) (by unfold Func.isWrapper; first | (rw [if_pos (by decide +kernel)]; kernel_rfl) | (rw [if_neg (by decide +kernel)]; exact ⟨rfl, rfl⟩))
    (fun os started H enc _ => by
      have h := engineOrder_lifted os started H enc
      simp only [and_true] at h
      exact h)
end Go.Proofs.Ytadmdlpmikoghaa
