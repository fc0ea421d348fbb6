/- The law RulesMore returns true for every input and leaves it as it was; no conditions. -/
import Derived.Test.YtadmdlpmikoghaaKmM1
import Derived.Test.YtadmdlpmikoghaaKmHlS3
import Derived.Test.YtadmdlpmikoghaaKmHlS5
import Derived.Test.YtadmdlpmikoghaaKmHlS2
import Derived.Test.YtadmdlpmikoghaaKmHlS1
import Derived.Test.YtadmdlpmikoghaaKmHlS4
import Derived.Test.YtadmdlpmikoghaaKmHlS7
import Derived.Test.YtadmdlpmikoghaaKmHlO
import Derived.Test.YtadmdlpmikoghaaKmHlS6
import Derived.Test.YtadmdlpmikoghaaKmHlS0
import Derived.Test.YtadmdlpmikoghaaKmHlQ
import Derived.ProofKit
import Derived.Carry
import Derived.Handed
import Derived.Test.YtadmdlpmikoghaaRows
set_option linter.unusedVariables false
set_option linter.unusedSimpArgs false
set_option maxRecDepth 4000
namespace Go.HL
theorem good_refs {s : List Ty} (h : GoodS s) {i k : Nat} {t : Ty} {r : Rl} (ht : s[i]? = some t) (hr : t.rels[k]? = some r) : ∀ f ∈ r.refs, refOkF s f = true := by
  have := h.name ht hr
  unfold namesF at this
  split at this
  · rename_i h; exact List.all_eq_true.1 h
  · omega
theorem good_typ {s : List Ty} (h : GoodS s) {i : Nat} {t : Ty} (ht : s[i]? = some t) : typF s t.name = some i := dup_typ h.sizes.2.2 ht
theorem refLean_ok {s : List Ty} {f : Rf} (h : refOkF s f = true) : refLean s f = if f.rl = ⟨#[]⟩ then none else some (((typF s f.ty).getD 0, ((findF s f.ty f.rl).map fun q => q.2.1).getD 0), false) := by
  unfold refLean
  by_cases h0 : f.rl = ⟨#[]⟩
  · rw [if_pos h0, if_pos h0]
  · rw [if_neg h0, if_neg h0]
    unfold refOkF at h
    simp only [h0, decide_false, Bool.false_or, Bool.and_eq_true] at h
    cases hq : findF s f.ty f.rl with
    | none => rw [hq] at h; cases h.2
    | some q =>
      obtain ⟨i, k, w⟩ := q
      obtain ⟨h1, -⟩ := findF_at hq
      rw [h1]
      rfl
theorem c_ref12_all {s : List Ty} (hs : OkS s) (hN : OkN s) (hg : GoodS s) {i k : Nat} {t : Ty} {r : Rl} (ht : s[i]? = some t) (hr : t.rels[k]? = some r) : AFun PG nr_ref12_all [scA s, .int .i64 i, .agg (rlC r)] (.sl 3 ((leansF s t.name r).map leanC)) := by
  intro S
  have hok := (hs.at ht).at hr
  have hm := List.mem_of_getElem? ht
  have hmr := List.mem_of_getElem? hr
  have hn := hN t hm r hmr
  have hrl : r.refs.length ≤ 1000 := by unfold rsz at hn; omega
  have hez : esz r.ex ≤ 1000 := by unfold rsz at hn; omega
  have hrf := good_refs hg ht hr
  refine w_ref12_all ?_
  unfold B_ref12_all
  (try simp only [rws, hwR, Nat.reduceAdd, Nat.reduceLeDiff, Nat.reduceLT, Nat.reduceSub, Nat.reduceMul, Nat.reduceEqDiff, Nat.reduceBEq, Int.reduceAdd, Int.reduceToNat, beq_self_eq_true, rlC_eq, scA])
  (refine cnW_intro (fun h0 => ?_) (fun h0 => ?_) <;> (try simp only [hlc] at h0))
  · refine caW_pure (by simpa only [scA, exC_eq] using c_ref12_leans hs hN (good_typ hg ht) r.ex hok.ex hez false (hg.found t hm r hmr (by omega))) ?_
    exact rtW_one ⟨by rw [leansF, if_pos (by omega)], rfl⟩
  refine LoopP.introS (fun p : Nat × AV => [(3, .rop [.sl 2 (s.map tyC)]), (5, .rop [.str r.name, .sl 2 (r.refs.map rfC), .int .i64 r.ex.kind, .str r.ex.name, .str r.ex.over, .sl 4 (r.ex.kids.map exC)]), (7, p.2), (8, .int .i64 p.1)])
    (fun p S' => p.1 ≤ r.refs.length ∧ Sub S S' ∧ LstN S S' 155 3 p.2 (((r.refs.take p.1).filterMap (refLean s)).map leanC)) (fun p => r.refs.length - p.1) (0, .nils) ⟨by omega, Sub.refl S, .nil⟩ rfl ?_
  rintro ⟨j, v⟩ S1 ⟨hj, hs1, hl⟩ q hq
  dsimp only at hj hl
  (try simp only [rws, hwR, Nat.reduceAdd, Nat.reduceLeDiff, Nat.reduceLT, Nat.reduceSub, Nat.reduceMul, Nat.reduceEqDiff, Nat.reduceBEq, Int.reduceAdd, Int.reduceToNat, beq_self_eq_true, C_ref12_all_1])
  (refine cnW_intro (fun hlt => ?_) (fun hlt => ?_) <;> (try simp only [hlc] at hlt))
  · obtain ⟨f, hf⟩ := get_lt hlt
    have hfo := hrf f (List.mem_of_getElem? hf)
    have htk := take_fm (g := refLean s) hf
    have hle := fm_le (g := refLean s) (l := r.refs) (i := j)
    have hrl2 := refLean_ok hfo
    (try simp only [rws, hwR, Nat.reduceAdd, Nat.reduceLeDiff, Nat.reduceLT, Nat.reduceSub, Nat.reduceMul, Nat.reduceEqDiff, Nat.reduceBEq, Int.reduceAdd, Int.reduceToNat, beq_self_eq_true, hf, rfC])
    cases a1 : decide (f.rl = ⟨#[]⟩) with
    | true =>
      rw [if_pos (of_decide_eq_true a1)] at hrl2
      (try simp only [rws, hwR, Nat.reduceAdd, Nat.reduceLeDiff, Nat.reduceLT, Nat.reduceSub, Nat.reduceMul, Nat.reduceEqDiff, Nat.reduceBEq, Int.reduceAdd, Int.reduceToNat, beq_self_eq_true])
      (simp (disch := omega) only [hwrap64])
      refine rcW_as rfl (hq (j + 1, v) S1 ⟨by dsimp only; omega, hs1, ?_⟩ (by dsimp only; omega))
      dsimp only
      rw [htk, hrl2]
      simpa using hl
    | false =>
      rw [if_neg (of_decide_eq_false a1)] at hrl2
      unfold refOkF at hfo
      rw [a1, Bool.false_or, Bool.and_eq_true] at hfo
      obtain ⟨q1, hq1⟩ := Option.isSome_iff_exists.1 hfo.2
      obtain ⟨x, y, w⟩ := q1
      obtain ⟨k1, -⟩ := findF_at hq1
      rw [k1, hq1] at hrl2
      have hrl2 : refLean s f = some ((x, y), false) := hrl2
      (try simp only [rws, hwR, Nat.reduceAdd, Nat.reduceLeDiff, Nat.reduceLT, Nat.reduceSub, Nat.reduceMul, Nat.reduceEqDiff, Nat.reduceBEq, Int.reduceAdd, Int.reduceToNat, beq_self_eq_true, hf, rfC])
      refine caW_pure (by simpa only [scA] using c_ref12_typ hs f.ty) ?_
      (try simp only [rws, hwR, Nat.reduceAdd, Nat.reduceLeDiff, Nat.reduceLT, Nat.reduceSub, Nat.reduceMul, Nat.reduceEqDiff, Nat.reduceBEq, Int.reduceAdd, Int.reduceToNat, beq_self_eq_true, hf, rfC])
      refine caW_pure (by simpa only [scA] using c_ref12_relAt hs f.ty f.rl) ?_
      (try simp only [rws, hwR, Nat.reduceAdd, Nat.reduceLeDiff, Nat.reduceLT, Nat.reduceSub, Nat.reduceMul, Nat.reduceEqDiff, Nat.reduceBEq, Int.reduceAdd, Int.reduceToNat, beq_self_eq_true, k1, hq1, Option.map_some, oi])
      refine hl.app hs1 (xs := [leanC ((x, y), false)]) (fun r hr => by simp at hr; subst hr; rfl) rfl (by simp only [List.length_map, List.length_cons, List.length_nil]; omega) ?_
      intro v' S2 h1 h2 _
      (try simp only [rws, hwR, Nat.reduceAdd, Nat.reduceLeDiff, Nat.reduceLT, Nat.reduceSub, Nat.reduceMul, Nat.reduceEqDiff, Nat.reduceBEq, Int.reduceAdd, Int.reduceToNat, beq_self_eq_true])
      (simp (disch := omega) only [hwrap64])
      refine rcW_as rfl (hq (j + 1, v') S2 ⟨by dsimp only; omega, h1, ?_⟩ (by dsimp only; omega))
      dsimp only
      rw [htk, hrl2]
      simpa using h2
  · have hend : r.refs.take j = r.refs := List.take_of_length_le (by omega)
    rw [hend] at hl
    exact rtW_lst hs1 hl ⟨by rw [leansF, if_neg (by omega)], rfl⟩
def rwC (w : Rw) : List AV := [.int .i64 w.1.1, .int .i64 w.1.2, .sl 3 (w.2.map leanC)]
theorem c_ref12_rows {s : List Ty} (hs : OkS s) (hN : OkN s) (hg : GoodS s) : AFun PG nr_ref12_rows [scA s] (.sl 3 ((rowsF s).map rwC)) := by
  intro S
  have hb := hs.types
  have hsz := hg.sizes
  have hall : (rowsF s).length ≤ 256 := by rw [rows_len]; exact hg.many
  refine w_ref12_rows ?_
  unfold B_ref12_rows
  (try simp only [rws, hwR, Nat.reduceAdd, Nat.reduceLeDiff, Nat.reduceLT, Nat.reduceSub, Nat.reduceMul, Nat.reduceEqDiff, Nat.reduceBEq, Int.reduceAdd, Int.reduceToNat, beq_self_eq_true, scA])
  refine LoopP.introS (fun p : Nat × AV => [(1, .rop [.sl 2 (s.map tyC)]), (3, p.2), (4, .int .i64 p.1)])
    (fun p S' => p.1 ≤ s.length ∧ Sub S S' ∧ ∃ w : List Rw, LstN S S' 153 3 p.2 (w.map rwC) ∧ w ++ rowsT s p.1 (s.drop p.1) = rowsF s) (fun p => s.length - p.1) (0, .nils) ⟨by omega, Sub.refl S, [], .nil, rfl⟩ rfl ?_
  rintro ⟨i, v⟩ S1 ⟨hi, hs1, w, hl, hf⟩ q hq
  dsimp only at hi hl hf
  (try simp only [rws, hwR, Nat.reduceAdd, Nat.reduceLeDiff, Nat.reduceLT, Nat.reduceSub, Nat.reduceMul, Nat.reduceEqDiff, Nat.reduceBEq, Int.reduceAdd, Int.reduceToNat, beq_self_eq_true, C_ref12_rows_1])
  (refine cnW_intro (fun hlt => ?_) (fun hlt => ?_) <;> (try simp only [hlc] at hlt))
  · obtain ⟨t, ht⟩ := get_lt hlt
    have hbt := (hs.at ht).rels
    rw [drop_cons ht, rowsT, ← List.append_assoc] at hf
    refine LoopP.introS (fun p : Nat × AV => [(1, .rop [.sl 2 (s.map tyC)]), (3, p.2), (4, .int .i64 i), (5, .int .i64 p.1)])
      (fun p S' => p.1 ≤ t.rels.length ∧ Sub S S' ∧ ∃ u : List Rw, LstN S S' 153 3 p.2 (u.map rwC) ∧ u ++ rowsR s i t.name p.1 (t.rels.drop p.1) = w ++ rowsR s i t.name 0 t.rels) (fun p => t.rels.length - p.1) (0, v) ⟨by omega, hs1, w, hl, rfl⟩ rfl ?_
    rintro ⟨k, v2⟩ S2 ⟨hk, hs2, u, hl2, hf2⟩ q2 hq2
    dsimp only at hk hl2 hf2
    (try simp only [rws, hwR, Nat.reduceAdd, Nat.reduceLeDiff, Nat.reduceLT, Nat.reduceSub, Nat.reduceMul, Nat.reduceEqDiff, Nat.reduceBEq, Int.reduceAdd, Int.reduceToNat, beq_self_eq_true, C_ref12_rows_2, ht, tyC])
    (refine cnW_intro (fun hlt2 => ?_) (fun hlt2 => ?_) <;> (try simp only [hlc] at hlt2))
    · obtain ⟨r, hr⟩ := get_lt hlt2
      rw [drop_cons hr, rowsR] at hf2
      (try simp only [rws, hwR, Nat.reduceAdd, Nat.reduceLeDiff, Nat.reduceLT, Nat.reduceSub, Nat.reduceMul, Nat.reduceEqDiff, Nat.reduceBEq, Int.reduceAdd, Int.reduceToNat, beq_self_eq_true, ht, hr, tyC, rlC_eq])
      refine caW_pure (by simpa only [scA, rlC_eq] using c_ref12_all hs hN hg ht hr) ?_
      have hul : u.length ≤ 256 := by
        have h1 := congrArg List.length hf
        have h2 := congrArg List.length hf2
        simp only [List.length_append, List.length_cons] at h1 h2
        omega
      (try simp only [rws, hwR, Nat.reduceAdd, Nat.reduceLeDiff, Nat.reduceLT, Nat.reduceSub, Nat.reduceMul, Nat.reduceEqDiff, Nat.reduceBEq, Int.reduceAdd, Int.reduceToNat, beq_self_eq_true])
      refine hl2.app hs2 (xs := [rwC ((i, k), leansF s t.name r)]) (fun r hr => by simp at hr; subst hr; rfl) rfl (by simp only [List.length_map, List.length_cons, List.length_nil]; omega) ?_
      intro v' S3 h1 h2 _
      (try simp only [rws, hwR, Nat.reduceAdd, Nat.reduceLeDiff, Nat.reduceLT, Nat.reduceSub, Nat.reduceMul, Nat.reduceEqDiff, Nat.reduceBEq, Int.reduceAdd, Int.reduceToNat, beq_self_eq_true])
      (simp (disch := omega) only [hwrap64])
      refine rcW_as rfl (hq2 (k + 1, v') S3 ⟨by dsimp only; omega, h1, u ++ [((i, k), leansF s t.name r)], by simpa using h2, ?_⟩ (by dsimp only; omega))
      rw [List.append_assoc]
      exact hf2
    · rw [drop_end hlt2, rowsR, List.append_nil] at hf2
      (simp (disch := omega) only [hwrap64])
      refine rcW_as rfl (hq (i + 1, v2) S2 ⟨by dsimp only; omega, hs2, u, hl2, ?_⟩ (by dsimp only; omega))
      rw [hf2]
      exact hf
  · rw [drop_end hlt, rowsT, List.append_nil] at hf
    exact rtW_lst hs1 hl ⟨by rw [hf], rfl⟩
end Go.HL
set_option linter.unusedVariables false
set_option linter.unusedSimpArgs false
set_option maxRecDepth 4000
namespace Go.HL
theorem LvO.cell {S0 S : Store} {v : AV} {bs : List Nat} {lv : Lv} (h : LvO S0 S v bs lv) {i j : Nat} (hin : In lv (i, j)) : ∃ bl cap b l, v = .own bl 0 lv.length cap ∧ i < lv.length ∧ objAt S bl = some (48, (lvRows bs lv).flatten, cap * 1) ∧ (lvRows bs lv).flatten.drop i = .own b 0 l.length l.length :: (lvRows bs lv).flatten.drop (i + 1) ∧
    bs[i]? = some b ∧ lv[i]? = some l ∧ objAt S b = some (3, l.map iv, l.length) ∧ b ≠ bl ∧ l[j]? = some (getL lv (i, j)) := by
  obtain ⟨l, h1, h2⟩ := hin
  dsimp only at h1 h2
  have hil := (List.getElem?_eq_some_iff.1 h1).1
  obtain ⟨hs, hlen, ⟨hr, hl⟩, hi, hnd⟩ := h
  have hrl : (lvRows bs lv).length = lv.length := by simp [lvRows, hlen]
  obtain ⟨b, hb⟩ : ∃ b, bs[i]? = some b := ⟨_, List.getElem?_eq_getElem (by omega)⟩
  obtain ⟨o1, o2, o3⟩ := hi i b l hb h1
  have hrow : (lvRows bs lv)[i]? = some [.own b 0 l.length l.length] := by rw [lvRows_get, hb, h1]
  rcases hl with ⟨rfl, h0⟩ | ⟨bl, cap, rfl, k1, k2, k3, k4, k5⟩
  · rw [h0] at hrow; simp at hrow
  · refine ⟨bl, cap, b, l, by rw [hrl], hil, objAt_some.2 k2, ?_, hb, h1, o1, o3 bl 0 _ _ rfl, ?_⟩
    · have h3 := flat_get hr hrow (j := 0) rfl
      rw [Nat.mul_one, Nat.add_zero] at h3
      exact drop_cons h3
    · unfold getL
      rw [h1]
      simp [List.getElem?_eq_getElem h2]
theorem LvO.rd {S0 S : Store} {v : AV} {bs : List Nat} {lv : Lv} (h : LvO S0 S v bs lv) {i j : Nat} (hin : In lv (i, j)) {K : AV → Prop} (hK : K (.int .i64 (getL lv (i, j)))) :
    iaW 1 v (.int .i64 i) (fun a => ldW S 1 false a fun r => iaW 1 r (.int .i64 j) fun c => ldW S 1 false c K) := by
  obtain ⟨bl, cap, b, l, rfl, h1, h2, h3, h4, h5, h6, h7, h8⟩ := h.cell hin
  have hj := (List.getElem?_eq_some_iff.1 h8).1
  have hd : (l.map iv).drop j = iv (getL lv (i, j)) :: (l.map iv).drop (j + 1) := drop_cons (by rw [List.getElem?_map, h8]; rfl)
  rw [iaW_own]
  refine ⟨by omega, by omega, ?_⟩
  rw [ldW_ptr, cellsAt_of h2, lcW_some, Int.toNat_natCast, Nat.mul_one, Nat.zero_add, h3, mkW_one, iaW_own]
  refine ⟨by omega, by omega, ?_⟩
  rw [ldW_ptr, cellsAt_of h6, lcW_some, Int.toNat_natCast, Nat.mul_one, Nat.zero_add, hd, mkW_one]
  exact hK
theorem lvRows_set {bs : List Nat} {lv : Lv} {p : Nat × Nat} {x : Nat} : lvRows bs (setL lv p x) = lvRows bs lv := by
  apply List.ext_getElem?
  intro i
  rw [lvRows_get, lvRows_get]
  unfold setL
  rw [List.getElem?_set]
  by_cases h : p.1 = i
  · subst h
    rw [if_pos rfl]
    cases hl : lv[p.1]? with
    | none => rw [if_neg (by have := List.getElem?_eq_none_iff.1 hl; omega)]
    | some l =>
      rw [if_pos (List.getElem?_eq_some_iff.1 hl).1]
      cases bs[p.1]? <;> simp
  · rw [if_neg h]
theorem LvO.wr {S0 S : Store} {v : AV} {bs : List Nat} {lv : Lv} (h : LvO S0 S v bs lv) {i j x : Nat} (hin : In lv (i, j)) {K : Store → Prop} (hK : ∀ S', LvO S0 S' v bs (setL lv (i, j) x) → K S') :
    iaW 1 v (.int .i64 i) (fun a => ldW S 1 false a fun r => iaW 1 r (.int .i64 j) fun c => stW S 1 c (.int .i64 x) K) := by
  obtain ⟨bl, cap, b, l, rfl, h1, h2, h3, h4, h5, h6, h7, h8⟩ := h.cell hin
  have hj := (List.getElem?_eq_some_iff.1 h8).1
  rw [iaW_own]
  refine ⟨by omega, by omega, ?_⟩
  rw [ldW_ptr, cellsAt_of h2, lcW_some, Int.toNat_natCast, Nat.mul_one, Nat.zero_add, h3, mkW_one, iaW_own]
  refine ⟨by omega, by omega, ?_⟩
  rw [stW_ptr, h6, Int.toNat_natCast, Nat.mul_one, Nat.zero_add, soW_some]
  refine ⟨rfl, by simp; omega, rfl, hK _ ?_⟩
  obtain ⟨hs, hlen, hlst, hi, hnd⟩ := h
  have hb0 := (hi i b l h4 h5).2.1
  have hbv := (hi i b l h4 h5).2.2
  have hset : fillA (l.map iv) j (aCells (.int .i64 x)) = (l.set j x).map iv := by
    show (l.map iv).set j (iv x) = _
    rw [List.map_set]
  rw [hset]
  refine ⟨hs.supd hb0, ?_, ?_, fun m c l' k1 k2 => ?_, hnd⟩
  · unfold setL; rw [List.length_set]; exact hlen
  · rw [lvRows_set]
    exact hlst.upd hbv _
  · unfold setL at k2
    rw [List.getElem?_set, h5, if_pos h1] at k2
    dsimp only [Option.getD_some] at k2
    by_cases hmi : i = m
    · subst hmi
      rw [if_pos rfl] at k2
      rw [h4] at k1
      cases k1; cases k2
      exact ⟨by rw [List.length_set]; exact objAt_eq, hb0, hbv⟩
    · rw [if_neg hmi] at k2
      have hne : b ≠ c := by
        rintro rfl
        have e1 := (List.getElem?_eq_some_iff.1 h4).1
        exact hmi ((List.getElem?_inj e1 hnd).1 (by rw [h4, k1]))
      obtain ⟨o1, o2, o3⟩ := hi m c l' k1 k2
      exact ⟨by rw [objAt_ne hne]; exact o1, o2, o3⟩
theorem LvO.app {S0 S : Store} {v : AV} {bs : List Nat} {lv : Lv} (h : LvO S0 S v bs lv) {b : Nat} (hb : sget S b = none) (l : List Nat) (hlen : lv.length ≤ 1000000) {K : AV → Store → Prop} (hK : ∀ v' S', LvO S0 S' v' (bs ++ [b]) (lv ++ [l]) → K v' S') :
    apW (supd S b (.cells 3 (l.map iv) l.length)) 48 1 24 v (.sl 1 [[.own b 0 l.length l.length]]) K := by
  have hb0 := Sub.none h.sub hb
  have hba : Aside v b := h.lst.fresh hb
  have hbn : ∀ (j c : Nat), bs[j]? = some c → c ≠ b := by
    intro j c hj
    have hj1 := (List.getElem?_eq_some_iff.1 hj).1
    have hj2 : j < lv.length := by rw [← h.len]; exact hj1
    have := objAt_some.1 (h.inn j c _ hj (List.getElem?_eq_getElem hj2)).1
    rintro rfl
    rw [this] at hb
    cases hb
  have hL := h.fresh hb (.cells 3 (l.map iv) l.length)
  have hrl : (lvRows bs lv).length = lv.length := by simp [lvRows, h.len]
  have hbo : sget (supd S b (.cells 3 (l.map iv) l.length)) b = some (.cells 3 (l.map iv) l.length) := by rw [sget_supd, if_pos rfl]
  refine LstN.app (rows := lvRows bs lv) (xs := [[.own b 0 l.length l.length]]) hL.sub hL.lst (by simp) rfl (by rw [hrl]; simp; omega) ?_
  intro v' S5 hs5 hl5 keep
  obtain ⟨q1, q2⟩ := keep b _ hbo hba
  rw [← lvRows_snoc h.len] at hl5
  refine hK v' S5 ⟨hs5, by simp [h.len], hl5, fun j c l' hj hl' => ?_, ?_⟩
  · by_cases hjb : j < bs.length
    · rw [List.getElem?_append_left hjb] at hj
      rw [List.getElem?_append_left (by rw [← h.len]; exact hjb)] at hl'
      obtain ⟨o1, o2, o3⟩ := hL.inn j c l' hj hl'
      obtain ⟨k1, k2⟩ := keep c _ (objAt_some.1 o1) o3
      exact ⟨objAt_some.2 k1, o2, k2⟩
    · rw [List.getElem?_append_right (by omega)] at hj
      rw [List.getElem?_append_right (by rw [← h.len]; omega), ← h.len] at hl'
      obtain ⟨m, hm⟩ : ∃ m, j - bs.length = m := ⟨_, rfl⟩
      rw [hm] at hj hl'
      cases m with
      | succ m => simp at hj
      | zero =>
        simp at hj hl'
        subst hj; subst hl'
        exact ⟨objAt_some.2 q1, hb0, q2⟩
  · refine List.nodup_append.2 ⟨h.nod, by simp, fun x hx y hy e => ?_⟩
    simp at hy
    subst hy
    obtain ⟨j, hj⟩ := List.getElem?_of_mem hx
    exact hbn j x hj e
def InS (s : List Ty) (p : Nat × Nat) : Prop := ∃ t, s[p.1]? = some t ∧ p.2 < t.rels.length
theorem find_in {s : List Ty} {t n : ByteArray} {i k : Nat} {r : Rl} (h : findF s t n = some (i, k, r)) : InS s (i, k) := by
  obtain ⟨-, ty, h2, -, h4⟩ := findF_at h
  exact ⟨ty, h2, (List.getElem?_eq_some_iff.1 h4).1⟩
theorem over_in {s : List Ty} {refs : List Rf} {n : ByteArray} : ∀ p ∈ overF s refs n, InS s p := by
  intro p hp
  unfold overF at hp
  obtain ⟨f, -, hf⟩ := List.mem_filterMap.1 hp
  split at hf
  · cases hq : findF s f.ty n with
    | none => rw [hq] at hf; cases hf
    | some q =>
      obtain ⟨i, k, r⟩ := q
      rw [hq] at hf
      cases hf
      exact find_in hq
  · cases hf
theorem leans_in {s : List Ty} {t : ByteArray} {r : Rl} : ∀ l ∈ leansF s t r, InS s l.1 := by
  intro l hl
  unfold leansF at hl
  split at hl
  · obtain ⟨p, -, hp⟩ := List.mem_flatMap.1 hl
    unfold leafF at hp
    split at hp
    · cases hp
    · rename_i i k r hq
      rcases List.mem_cons.1 hp with rfl | hp
      · exact find_in hq
      · split at hp
        · obtain ⟨q, hq2, rfl⟩ := List.mem_map.1 hp
          exact over_in q hq2
        · cases hp
  · obtain ⟨f, -, hf⟩ := List.mem_filterMap.1 hl
    unfold refLean at hf
    split at hf
    · cases hf
    · cases hq : findF s f.ty f.rl with
      | none => rw [hq] at hf; cases hf
      | some q =>
        obtain ⟨i, k, r⟩ := q
        rw [hq] at hf
        cases hf
        exact find_in hq
theorem rowsR_in {s : List Ty} {i : Nat} {n : ByteArray} : ∀ {l : List Rl} {k : Nat}, ∀ x ∈ rowsR s i n k l, ∀ y ∈ x.2, InS s y.1
  | [], k, x, hx => by cases hx
  | r :: l, k, x, hx => by
    rw [rowsR] at hx
    rcases List.mem_cons.1 hx with rfl | hx
    · exact leans_in
    · exact rowsR_in x hx
theorem rowsT_in {s : List Ty} : ∀ {l : List Ty} {i : Nat}, ∀ x ∈ rowsT s i l, ∀ y ∈ x.2, InS s y.1
  | [], i, x, hx => by cases hx
  | t :: l, i, x, hx => by
    rw [rowsT] at hx
    rcases List.mem_append.1 hx with hx | hx
    · exact rowsR_in x hx
    · exact rowsT_in x hx
theorem in_shp {lv : Lv} {s : List Ty} (h : Shp lv s) {p : Nat × Nat} (hp : InS s p) : In lv p := by
  obtain ⟨t, h1, h2⟩ := hp
  exact in_of (i := p.1) (k := p.2) h h1 h2
theorem rowsR_le {s : List Ty} (hN : OkN s) {i : Nat} {n : ByteArray} : ∀ {l : List Rl} {k : Nat}, (∀ r ∈ l, rsz r ≤ 1000) → ∀ x ∈ rowsR s i n k l, x.2.length ≤ 4000000
  | [], k, _, x, hx => by cases hx
  | r :: l, k, h, x, hx => by
    rw [rowsR] at hx
    rcases List.mem_cons.1 hx with rfl | hx
    · exact leans_len hN (h r (by simp))
    · exact rowsR_le hN (fun r hr => h r (List.mem_cons_of_mem _ hr)) x hx
theorem rowsT_le {s : List Ty} (hN : OkN s) : ∀ {l : List Ty} {i : Nat}, (∀ t ∈ l, ∀ r ∈ t.rels, rsz r ≤ 1000) → ∀ x ∈ rowsT s i l, x.2.length ≤ 4000000
  | [], i, _, x, hx => by cases hx
  | t :: l, i, h, x, hx => by
    rw [rowsT] at hx
    rcases List.mem_append.1 hx with hx | hx
    · exact rowsR_le hN (h t (by simp)) x hx
    · exact rowsT_le hN (fun t ht => h t (List.mem_cons_of_mem _ ht)) x hx
theorem c_ref12_raised {s : List Ty} {rows : List Rw} (hN : rows.length ≤ 1000) (hM : manyF s ≤ 1000) (hok : RwOk s rows) (hin : ∀ x ∈ rows, ∀ y ∈ x.2, InS s y.1) (hle : ∀ x ∈ rows, x.2.length ≤ 4000000) {S0 S : Store} {v : AV} {bs : List Nat} {lv : Lv} (hL : LvO S0 S v bs lv) (hS : Shp lv s) (hB : Bdd rows.length lv) :
    ACalls PG nr_ref12_raised [.sl 3 (rows.map rwC), v] S fun ae S' => ae = .ret (.bool (roundF rows.length rows (lv, false)).2) ∧ LvO S0 S' v bs (roundF rows.length rows (lv, false)).1 := by
  refine w_ref12_raised ?_
  unfold B_ref12_raised
  (try simp only [rws, hwR, Nat.reduceAdd, Nat.reduceLeDiff, Nat.reduceLT, Nat.reduceSub, Nat.reduceMul, Nat.reduceEqDiff, Nat.reduceBEq, Int.reduceAdd, Int.reduceToNat, beq_self_eq_true])
  refine LoopP.introS (fun p : Nat × Lv × Bool => [(0, .sl 3 (rows.map rwC)), (1, v), (5, .bool p.2.2), (6, .int .i64 p.1)])
    (fun p S' => p.1 ≤ rows.length ∧ LvO S0 S' v bs p.2.1 ∧ Shp p.2.1 s ∧ Bdd rows.length p.2.1 ∧ roundF rows.length (rows.drop p.1) p.2 = roundF rows.length rows (lv, false)) (fun p => rows.length - p.1) (0, lv, false) ⟨by omega, hL, hS, hB, rfl⟩ rfl ?_
  clear hL hS hB
  rintro ⟨i, lv1, mo⟩ S1 ⟨hi, hL, hS, hB, hf⟩ q hq
  dsimp only at hi hL hS hB hf
  (try simp only [rws, hwR, Nat.reduceAdd, Nat.reduceLeDiff, Nat.reduceLT, Nat.reduceSub, Nat.reduceMul, Nat.reduceEqDiff, Nat.reduceBEq, Int.reduceAdd, Int.reduceToNat, beq_self_eq_true, C_ref12_raised_1])
  (refine cnW_intro (fun hlt => ?_) (fun hlt => ?_) <;> (try simp only [hlc] at hlt))
  · obtain ⟨w, hw⟩ := get_lt hlt
    have hmw := List.mem_of_getElem? hw
    obtain ⟨nd, ln⟩ := w
    obtain ⟨ni, nk⟩ := nd
    obtain ⟨t, ht, hk⟩ := hok _ hmw
    dsimp only at ht hk
    have hln := hle _ hmw
    dsimp only at hln
    rw [drop_cons hw, roundF] at hf
    dsimp only at hf
    (try simp only [rws, hwR, Nat.reduceAdd, Nat.reduceLeDiff, Nat.reduceLT, Nat.reduceSub, Nat.reduceMul, Nat.reduceEqDiff, Nat.reduceBEq, Int.reduceAdd, Int.reduceToNat, beq_self_eq_true, hw, rwC])
    refine LoopP.introS (fun p : Nat × Lv × Bool => [(0, .sl 3 (rows.map rwC)), (1, v), (5, .bool p.2.2), (6, .int .i64 i), (7, .int .i64 ni), (8, .int .i64 nk), (9, .int .i64 p.1)])
      (fun p S' => p.1 ≤ ln.length ∧ LvO S0 S' v bs p.2.1 ∧ Shp p.2.1 s ∧ Bdd rows.length p.2.1 ∧ raiseN rows.length (ni, nk) (ln.drop p.1) p.2 = raiseN rows.length (ni, nk) ln (lv1, mo)) (fun p => ln.length - p.1) (0, lv1, mo) ⟨by omega, hL, hS, hB, rfl⟩ rfl ?_
    clear hL hS hB
    rintro ⟨j, lv2, mo2⟩ S2 ⟨hj, hL, hS, hB, hf2⟩ q2 hq2
    dsimp only at hj hL hS hB hf2
    (try simp only [rws, hwR, Nat.reduceAdd, Nat.reduceLeDiff, Nat.reduceLT, Nat.reduceSub, Nat.reduceMul, Nat.reduceEqDiff, Nat.reduceBEq, Int.reduceAdd, Int.reduceToNat, beq_self_eq_true, C_ref12_raised_2, hw, rwC])
    (refine cnW_intro (fun hlt2 => ?_) (fun hlt2 => ?_) <;> (try simp only [hlc] at hlt2))
    · obtain ⟨l, hl⟩ := get_lt hlt2
      obtain ⟨m, o⟩ := l
      obtain ⟨mi, mk⟩ := m
      have hmin : In lv2 (mi, mk) := in_shp hS (hin _ hmw _ (List.mem_of_getElem? hl))
      have hnin : In lv2 (ni, nk) := in_of hS ht hk
      rw [drop_cons hl, raiseN] at hf2
      dsimp only at hf2
      have hphi := phi_shp (N := rows.length) hS
      have hMM : manyF s * (rows.length + 1) ≤ 1000 * 1001 := Nat.mul_le_mul hM (by omega)
      have hb1 := hB (mi, mk)
      have hb2 := hB (ni, nk)
      (try simp only [rws, hwR, Nat.reduceAdd, Nat.reduceLeDiff, Nat.reduceLT, Nat.reduceSub, Nat.reduceMul, Nat.reduceEqDiff, Nat.reduceBEq, Int.reduceAdd, Int.reduceToNat, beq_self_eq_true, hl, hw, rwC, leanC])
      refine hL.rd hmin ?_
      have low : ∀ x : Nat, x = getL lv2 (mi, mk) + o.toNat → C_ref12_raised_3 (fun ae S' => ae = .ret (.bool (roundF rows.length rows (lv, false)).2) ∧ LvO S0 S' v bs (roundF rows.length rows (lv, false)).1) q q2 (.sl 3 (rows.map rwC)) v (.bool mo2) (.int .i64 i) (.int .i64 ni) (.int .i64 nk) (.int .i64 j) (.int .i64 x) S2 := by
        intro x hx
        unfold C_ref12_raised_3
        rw [← hx] at hf2
        refine hL.rd hnin ?_
        have keep : ¬ (getL lv2 (ni, nk) < x ∧ getL lv2 (ni, nk) ≤ rows.length) → q2 [(0, .sl 3 (rows.map rwC)), (1, v), (5, .bool mo2), (6, .int .i64 i), (7, .int .i64 ni), (8, .int .i64 nk), (9, .int .i64 ((j : Int) + 1))] S2 := fun h => by
          rw [if_neg h] at hf2
          exact hq2 (j + 1, lv2, mo2) S2 ⟨by dsimp only; omega, hL, hS, hB, hf2⟩ (by dsimp only; omega)
        (try simp only [rws, hwR, Nat.reduceAdd, Nat.reduceLeDiff, Nat.reduceLT, Nat.reduceSub, Nat.reduceMul, Nat.reduceEqDiff, Nat.reduceBEq, Int.reduceAdd, Int.reduceToNat, beq_self_eq_true])
        (refine grW_intro (fun hg => ?_) (fun hg => ?_) <;> (try simp only [rws, hwR, Nat.reduceAdd, Nat.reduceLeDiff, Nat.reduceLT, Nat.reduceSub, Nat.reduceMul, Nat.reduceEqDiff, Nat.reduceBEq, Int.reduceAdd, Int.reduceToNat, beq_self_eq_true, hg]))
        · have h1 : getL lv2 (ni, nk) < x := by simpa using hg
          refine hL.rd hnin ?_
          (try simp only [rws, hwR, Nat.reduceAdd, Nat.reduceLeDiff, Nat.reduceLT, Nat.reduceSub, Nat.reduceMul, Nat.reduceEqDiff, Nat.reduceBEq, Int.reduceAdd, Int.reduceToNat, beq_self_eq_true, hg])
          (refine cnW_intro (fun h2 => ?_) (fun h2 => ?_) <;> (try simp only [hlc] at h2))
          · have h3 : getL lv2 (ni, nk) < x ∧ getL lv2 (ni, nk) ≤ rows.length := ⟨h1, by simpa using h2⟩
            rw [if_pos h3] at hf2
            rw [hx] at h3
            obtain ⟨k1, k2⟩ := raiseN_step (N := rows.length) (m := (mi, mk)) (o := o) hnin hB h3
            rw [← hx] at k1
            (try simp only [rws, hwR, Nat.reduceAdd, Nat.reduceLeDiff, Nat.reduceLT, Nat.reduceSub, Nat.reduceMul, Nat.reduceEqDiff, Nat.reduceBEq, Int.reduceAdd, Int.reduceToNat, beq_self_eq_true, C_ref12_raised_4])
            refine hL.wr (x := x) hnin fun S3 hL3 => ?_
            (try simp only [rws, hwR, Nat.reduceAdd, Nat.reduceLeDiff, Nat.reduceLT, Nat.reduceSub, Nat.reduceMul, Nat.reduceEqDiff, Nat.reduceBEq, Int.reduceAdd, Int.reduceToNat, beq_self_eq_true])
            (simp (disch := omega) only [hwrap64])
            exact rcW_as rfl (hq2 (j + 1, setL lv2 (ni, nk) x, true) S3 ⟨by dsimp only; omega, hL3, shp_set hS _ _, k1, hf2⟩ (by dsimp only; omega))
          · (try simp only [rws, hwR, Nat.reduceAdd, Nat.reduceLeDiff, Nat.reduceLT, Nat.reduceSub, Nat.reduceMul, Nat.reduceEqDiff, Nat.reduceBEq, Int.reduceAdd, Int.reduceToNat, beq_self_eq_true, C_ref12_raised_4])
            (simp (disch := omega) only [hwrap64])
            refine rcW_as rfl (keep fun h => ?_)
            have := h.2
            simp at h2
            omega
        · have h1 : ¬ getL lv2 (ni, nk) < x := by simpa using hg
          (try simp only [rws, hwR, Nat.reduceAdd, Nat.reduceLeDiff, Nat.reduceLT, Nat.reduceSub, Nat.reduceMul, Nat.reduceEqDiff, Nat.reduceBEq, Int.reduceAdd, Int.reduceToNat, beq_self_eq_true, C_ref12_raised_4, hg])
          (simp (disch := omega) only [hwrap64])
          exact rcW_as rfl (keep fun h => h1 h.1)
      cases o with
      | true =>
        (try simp only [rws, hwR, Nat.reduceAdd, Nat.reduceLeDiff, Nat.reduceLT, Nat.reduceSub, Nat.reduceMul, Nat.reduceEqDiff, Nat.reduceBEq, Int.reduceAdd, Int.reduceToNat, beq_self_eq_true])
        rw [hwrap64 (by omega) (by omega)]
        exact low (getL lv2 (mi, mk) + 1) rfl
      | false =>
        (try simp only [rws, hwR, Nat.reduceAdd, Nat.reduceLeDiff, Nat.reduceLT, Nat.reduceSub, Nat.reduceMul, Nat.reduceEqDiff, Nat.reduceBEq, Int.reduceAdd, Int.reduceToNat, beq_self_eq_true])
        exact low (getL lv2 (mi, mk)) rfl
    · rw [drop_end hlt2, raiseN] at hf2
      rw [← hf2] at hf
      (simp (disch := omega) only [hwrap64])
      exact rcW_as rfl (hq (i + 1, lv2, mo2) S2 ⟨by dsimp only; omega, hL, hS, hB, hf⟩ (by dsimp only; omega))
  · rw [drop_end hlt, roundF] at hf
    exact rtW_one ⟨by rw [← hf], by rw [← hf]; exact hL⟩
end Go.HL
set_option linter.unusedVariables false
set_option linter.unusedSimpArgs false
set_option maxRecDepth 4000
namespace Go.HL
theorem c_ref12_many {s : List Ty} (hs : OkS s) (h1 : s.length ≤ 16) (h2 : ∀ t ∈ s, t.rels.length ≤ 16) : AFun PG nr_ref12_many [scA s] (.int .i64 (manyF s)) := by
  intro S
  refine w_ref12_many ?_
  unfold B_ref12_many
  (try simp only [rws, hwR, Nat.reduceAdd, Nat.reduceLeDiff, Nat.reduceLT, Nat.reduceSub, Nat.reduceMul, Nat.reduceEqDiff, Nat.reduceBEq, Int.reduceAdd, Int.reduceToNat, beq_self_eq_true, scA])
  have hm := manyF_le h1 h2
  refine LoopP.introS (fun p : Nat × Nat => [(1, .rop [.sl 2 (s.map tyC)]), (3, .int .i64 p.2), (4, .int .i64 p.1)])
    (fun p S' => S' = S ∧ p.1 ≤ s.length ∧ p.2 + manyF (s.drop p.1) = manyF s) (fun p => s.length - p.1) (0, 0) ⟨rfl, by omega, by simp⟩ rfl ?_
  rintro ⟨i, n⟩ S1 ⟨rfl, hi, hf⟩ q hq
  dsimp only at hi hf
  (try simp only [rws, hwR, Nat.reduceAdd, Nat.reduceLeDiff, Nat.reduceLT, Nat.reduceSub, Nat.reduceMul, Nat.reduceEqDiff, Nat.reduceBEq, Int.reduceAdd, Int.reduceToNat, beq_self_eq_true, C_ref12_many_1])
  (refine cnW_intro (fun hlt => ?_) (fun hlt => ?_) <;> (try simp only [hlc] at hlt))
  · obtain ⟨t, ht⟩ := get_lt hlt
    rw [drop_cons ht] at hf
    have e1 : manyF (t :: s.drop (i + 1)) = t.rels.length + manyF (s.drop (i + 1)) := by simp [manyF]
    rw [e1] at hf
    (try simp only [rws, hwR, Nat.reduceAdd, Nat.reduceLeDiff, Nat.reduceLT, Nat.reduceSub, Nat.reduceMul, Nat.reduceEqDiff, Nat.reduceBEq, Int.reduceAdd, Int.reduceToNat, beq_self_eq_true, ht, tyC])
    rw [show (n : Int) + (t.rels.length : Int) = ((n + t.rels.length : Nat) : Int) by omega]
    (simp (disch := omega) only [hwrap64])
    exact rcW_as rfl (hq (i + 1, n + t.rels.length) _ ⟨rfl, by dsimp only; omega, by dsimp only; omega⟩ (by dsimp only; omega))
  · rw [drop_end hlt] at hf
    have : n = manyF s := by rw [← hf]; rfl
    exact rtW_one ⟨by rw [this], rfl⟩
theorem zeroL_snoc {s : List Ty} {i : Nat} {t : Ty} (h : s[i]? = some t) : zeroL (s.take (i + 1)) = zeroL (s.take i) ++ [List.replicate t.rels.length 0] := by
  rw [take_snoc' h]
  simp [zeroL]
theorem c_ref12_levels {s : List Ty} (hs : OkS s) (hN : OkN s) (hg : GoodS s) : AFun PG nr_ref12_levels [scA s] (.sl 1 (lvC (levF s))) := by
  intro S
  have hsz := hg.sizes
  have hmany := hg.many
  have hrows := rows_len s
  refine w_ref12_levels ?_
  unfold B_ref12_levels
  (try simp only [rws, hwR, Nat.reduceAdd, Nat.reduceLeDiff, Nat.reduceLT, Nat.reduceSub, Nat.reduceMul, Nat.reduceEqDiff, Nat.reduceBEq, Int.reduceAdd, Int.reduceToNat, beq_self_eq_true, scA])
  refine LoopP.introS (fun p : Nat × AV × List Nat => [(1, .rop [.sl 2 (s.map tyC)]), (3, p.2.1), (4, .int .i64 p.1)])
    (fun p S' => p.1 ≤ s.length ∧ LvO S S' p.2.1 p.2.2 (zeroL (s.take p.1))) (fun p => s.length - p.1) (0, .nils, []) ⟨by omega, LvO.nil S (Sub.refl S)⟩ rfl ?_
  rintro ⟨i, v, bs⟩ S1 ⟨hi, hL⟩ q hq
  dsimp only at hi hL
  (try simp only [rws, hwR, Nat.reduceAdd, Nat.reduceLeDiff, Nat.reduceLT, Nat.reduceSub, Nat.reduceMul, Nat.reduceEqDiff, Nat.reduceBEq, Int.reduceAdd, Int.reduceToNat, beq_self_eq_true, C_ref12_levels_1])
  (refine cnW_intro (fun hlt => ?_) (fun hlt => ?_) <;> (try simp only [hlc] at hlt))
  · obtain ⟨t, ht⟩ := get_lt hlt
    have htn := hsz.2.1 t (List.mem_of_getElem? ht)
    (try simp only [rws, hwR, Nat.reduceAdd, Nat.reduceLeDiff, Nat.reduceLT, Nat.reduceSub, Nat.reduceMul, Nat.reduceEqDiff, Nat.reduceBEq, Int.reduceAdd, Int.reduceToNat, beq_self_eq_true, ht, tyC])
    refine ⟨t.rels.length, rfl, rfl, by omega, fun b hb => ?_⟩
    have hz : List.replicate t.rels.length (AV.int .i64 0) = (List.replicate t.rels.length 0).map iv := by rw [List.map_replicate]; rfl
    have h1 := LvO.app hL hb (List.replicate t.rels.length 0) (by simp [zeroL]; omega) (K := fun v' S' => rcW q [(1, .rop [.sl 2 (s.map tyC)]), (3, v'), (4, .int .i64 (IntKind.i64.wrap ((i : Int) + 1)))] S') fun v' S2 hL2 => by
      (simp (disch := omega) only [hwrap64])
      refine rcW_as rfl (hq (i + 1, v', bs ++ [b]) S2 ⟨by dsimp only; omega, ?_⟩ (by dsimp only; omega))
      rw [zeroL_snoc ht]
      exact hL2
    rw [List.length_replicate, ← hz] at h1
    (try simp only [rws, hwR, Nat.reduceAdd, Nat.reduceLeDiff, Nat.reduceLT, Nat.reduceSub, Nat.reduceMul, Nat.reduceEqDiff, Nat.reduceBEq, Int.reduceAdd, Int.reduceToNat, beq_self_eq_true])
    exact h1
  · have hend : s.take i = s := List.take_of_length_le (by omega)
    rw [hend] at hL
    (try simp only [rws, hwR, Nat.reduceAdd, Nat.reduceLeDiff, Nat.reduceLT, Nat.reduceSub, Nat.reduceMul, Nat.reduceEqDiff, Nat.reduceBEq, Int.reduceAdd, Int.reduceToNat, beq_self_eq_true])
    refine caW_pure (by simpa only [scA] using c_ref12_rows hs hN hg) ?_
    refine LoopP.introS (fun p : Nat × Lv => [(3, v), (5, .sl 3 ((rowsF s).map rwC)), (6, .int .i64 p.1)])
      (fun p S' => p.1 ≤ 70000 ∧ LvO S S' v bs p.2 ∧ Shp p.2 s ∧ Bdd (rowsF s).length p.2 ∧ iterF (rowsF s).length (rowsF s) (70000 - p.1) p.2 = levF s) (fun p => 70000 - p.1) (0, zeroL s) ⟨by omega, hL, shp_zero s, bdd_zero, by rw [hrows]; rfl⟩ rfl ?_
    clear hL
    rintro ⟨n, lv⟩ S2 ⟨hn, hL, hS, hB, hf⟩ q2 hq2
    dsimp only at hn hL hS hB hf
    (try simp only [rws, hwR, Nat.reduceAdd, Nat.reduceLeDiff, Nat.reduceLT, Nat.reduceSub, Nat.reduceMul, Nat.reduceEqDiff, Nat.reduceBEq, Int.reduceAdd, Int.reduceToNat, beq_self_eq_true, C_ref12_levels_2])
    (refine cnW_intro (fun hlt2 => ?_) (fun hlt2 => ?_) <;> (try simp only [hlc] at hlt2))
    · obtain ⟨m, hm⟩ : ∃ m, 70000 - n = m + 1 := ⟨70000 - n - 1, by omega⟩
      rw [hm, iterF] at hf
      refine caW_of (c_ref12_raised (s := s) (rows := rowsF s) (by omega) (by omega) (rows_ok s) (rowsT_in) (rowsT_le hN hN) hL hS hB) ?_
      rintro _ S3 ⟨rfl, hL3⟩
      obtain ⟨k1, k2, k3, k4, k5, k6⟩ := roundF_keep (N := (rowsF s).length) (a := (lv, false)) (rows_ok s) hS hB
      generalize hR : roundF (rowsF s).length (rowsF s) (lv, false) = R at hL3 k1 k2 hf ⊢
      obtain ⟨lv2, mo2⟩ := R
      dsimp only at hL3 k1 k2 hf ⊢
      cases mo2 with
      | true =>
        (try simp only [rws, hwR, Nat.reduceAdd, Nat.reduceLeDiff, Nat.reduceLT, Nat.reduceSub, Nat.reduceMul, Nat.reduceEqDiff, Nat.reduceBEq, Int.reduceAdd, Int.reduceToNat, beq_self_eq_true])
        rw [if_pos rfl] at hf
        (simp (disch := omega) only [hwrap64])
        refine rcW_as rfl (hq2 (n + 1, lv2) S3 ⟨by dsimp only; omega, hL3, k1, k2, ?_⟩ (by dsimp only; omega))
        dsimp only
        rw [show 70000 - (n + 1) = m by omega]
        exact hf
      | false =>
        (try simp only [rws, hwR, Nat.reduceAdd, Nat.reduceLeDiff, Nat.reduceLT, Nat.reduceSub, Nat.reduceMul, Nat.reduceEqDiff, Nat.reduceBEq, Int.reduceAdd, Int.reduceToNat, beq_self_eq_true])
        rw [if_neg (by simp)] at hf
        subst hf
        exact rtW_view (vs := [v]) rfl (ShV.lv hL3) ⟨rfl, rfl⟩
    · rw [show 70000 - n = 0 by omega, iterF] at hf
      subst hf
      exact rtW_view (vs := [v]) rfl (ShV.lv hL) ⟨rfl, rfl⟩
theorem c_ref12_Check {s : List Ty} (hs : OkS s) (hN : OkN s) : AFun PG nr_ref12_Check [scA s] (chkF s) := by
  intro S
  refine w_ref12_Check ?_
  unfold B_ref12_Check
  (try simp only [rws, hwR, Nat.reduceAdd, Nat.reduceLeDiff, Nat.reduceLT, Nat.reduceSub, Nat.reduceMul, Nat.reduceEqDiff, Nat.reduceBEq, Int.reduceAdd, Int.reduceToNat, beq_self_eq_true, scA])
  intro b hb
  (try simp only [rws, hwR, Nat.reduceAdd, Nat.reduceLeDiff, Nat.reduceLT, Nat.reduceSub, Nat.reduceMul, Nat.reduceEqDiff, Nat.reduceBEq, Int.reduceAdd, Int.reduceToNat, beq_self_eq_true])
  refine caW_pure (by simpa only [scA] using c_ref12_plain hs) ?_
  obtain ⟨ft, fr, fe, hp⟩ := plainF_fl s
  rw [hp]
  have ret : ∀ x y z : Int, chkF s = flA x y z → rtW [.cell (.ptr b 0) 3 true] (fun ae S' => ae = .ret (chkF s) ∧ S' = S) (supd S b (.cells 33 [.int .i64 x, .int .i64 y, .int .i64 z] 3)) := by
    intro x y z hp
    refine rtW_go S (Sub.fresh _ hb) ?_
    (try simp only [rws, hwR, Nat.reduceAdd, Nat.reduceLeDiff, Nat.reduceLT, Nat.reduceSub, Nat.reduceMul, Nat.reduceEqDiff, Nat.reduceBEq, Int.reduceAdd, Int.reduceToNat, beq_self_eq_true])
    rw [hp]; rfl
  (try simp only [rws, hwR, Nat.reduceAdd, Nat.reduceLeDiff, Nat.reduceLT, Nat.reduceSub, Nat.reduceMul, Nat.reduceEqDiff, Nat.reduceBEq, Int.reduceAdd, Int.reduceToNat, beq_self_eq_true, flA])
  (refine cnW_intro (fun h0 => ?_) (fun h0 => ?_) <;> (try simp only [hlc] at h0))
  · refine ret _ _ _ ?_
    rw [chkF, hp, flA_err, if_pos h0] <;> rfl
  have hg : GoodS s := plain_good (by rw [hp, flA_err]; omega)
  have hck : chkF s = flO (eachF s (cycF s)) := by rw [chkF, hp, flA_err, if_neg (by simp [h0])]
  have hsz := hg.sizes
  have hmany := hg.many
  (try simp only [rws, hwR, Nat.reduceAdd, Nat.reduceLeDiff, Nat.reduceLT, Nat.reduceSub, Nat.reduceMul, Nat.reduceEqDiff, Nat.reduceBEq, Int.reduceAdd, Int.reduceToNat, beq_self_eq_true])
  refine caW_pure (by simpa only [scA] using c_ref12_levels hs hN hg) ?_
  (try simp only [rws, hwR, Nat.reduceAdd, Nat.reduceLeDiff, Nat.reduceLT, Nat.reduceSub, Nat.reduceMul, Nat.reduceEqDiff, Nat.reduceBEq, Int.reduceAdd, Int.reduceToNat, beq_self_eq_true])
  refine caW_pure (by simpa only [scA] using c_ref12_many hs hsz.1 hsz.2.1) ?_
  have hll : (levF s).length = s.length := shp_len (lev_shp s)
  refine LoopP.introS (fun i : Nat => [(2, .ptr b 0), (4, .sl 1 (lvC (levF s))), (5, .int .i64 (manyF s)), (6, .int .i64 i)])
    (fun i S' => S' = supd S b (.cells 33 [.int .i64 0, .int .i64 0, .int .i64 0] 3) ∧ i ≤ s.length ∧ (eachT (fun (_ : Unit) i k t r => (cycF s i k t r, ())) i (s.drop i) ()).1 = eachF s (cycF s)) (fun i => s.length - i) 0 ⟨rfl, by omega, rfl⟩ rfl ?_
  rintro i _ ⟨rfl, hi, hf⟩ q hq
  have hcl0 : (lvC (levF s)).length = s.length := by simp [lvC, hll]
  (try simp only [rws, hwR, Nat.reduceAdd, Nat.reduceLeDiff, Nat.reduceLT, Nat.reduceSub, Nat.reduceMul, Nat.reduceEqDiff, Nat.reduceBEq, Int.reduceAdd, Int.reduceToNat, beq_self_eq_true, C_ref12_Check_1])
  (refine cnW_intro (fun hlt => ?_) (fun hlt => ?_) <;> (try simp only [hlc] at hlt)) <;> rw [hcl0] at hlt
  · obtain ⟨t, ht⟩ := get_lt hlt
    obtain ⟨l, hl, hlen⟩ := shp_row (lev_shp s) ht
    have htn := hsz.2.1 t (List.mem_of_getElem? ht)
    have hcl : (lvC (levF s))[i]? = some [.sl 1 (l.map fun x => [iv x])] := by rw [lvC, List.getElem?_map, hl]; rfl
    rw [drop_cons ht, eachT] at hf
    refine LoopP.introS (fun k : Nat => [(2, .ptr b 0), (4, .sl 1 (lvC (levF s))), (5, .int .i64 (manyF s)), (6, .int .i64 i), (7, .int .i64 k)])
      (fun k S' => S' = supd S b (.cells 33 [.int .i64 0, .int .i64 0, .int .i64 0] 3) ∧ k ≤ t.rels.length ∧ eachR (fun (_ : Unit) k r => (cycF s i k t r, ())) k (t.rels.drop k) () = eachR (fun (_ : Unit) k r => (cycF s i k t r, ())) 0 t.rels ()) (fun k => t.rels.length - k) 0 ⟨rfl, by omega, rfl⟩ rfl ?_
    rintro k _ ⟨rfl, hk, hf2⟩ q2 hq2
    have hlm : (l.map fun x => [iv x]).length = t.rels.length := by rw [List.length_map, hlen]
    (try simp only [rws, hwR, Nat.reduceAdd, Nat.reduceLeDiff, Nat.reduceLT, Nat.reduceSub, Nat.reduceMul, Nat.reduceEqDiff, Nat.reduceBEq, Int.reduceAdd, Int.reduceToNat, beq_self_eq_true, C_ref12_Check_2, hcl])
    (refine cnW_intro (fun hlt2 => ?_) (fun hlt2 => ?_) <;> (try simp only [hlc] at hlt2)) <;> (try simp only [List.length_map] at hlt2) <;> rw [hlen] at hlt2
    · obtain ⟨r, hr⟩ := get_lt hlt2
      have hkl : k < l.length := by omega
      have hgx : getL (levF s) (i, k) = l[k] := by simp [getL, hl, List.getElem?_eq_getElem hkl]
      have hxk : l[k]? = some l[k] := List.getElem?_eq_getElem hkl
      rw [drop_cons hr, eachR] at hf2
      (try simp only [rws, hwR, Nat.reduceAdd, Nat.reduceLeDiff, Nat.reduceLT, Nat.reduceSub, Nat.reduceMul, Nat.reduceEqDiff, Nat.reduceBEq, Int.reduceAdd, Int.reduceToNat, beq_self_eq_true, hcl, hxk, Option.map_some])
      (refine cnW_intro (fun hc => ?_) (fun hc => ?_) <;> (try simp only [hlc] at hc))
      · have he : cycF s i k t r = 11 := by rw [cycF, hgx, if_pos (by omega)]
        rw [he, if_neg (by decide)] at hf2
        rw [← hf2] at hf
        (try simp only [rws, hwR, Nat.reduceAdd, Nat.reduceLeDiff, Nat.reduceLT, Nat.reduceSub, Nat.reduceMul, Nat.reduceEqDiff, Nat.reduceBEq, Int.reduceAdd, Int.reduceToNat, beq_self_eq_true])
        refine ret _ _ _ ?_
        rw [hck, ← hf]; rfl
      · have he : cycF s i k t r = 0 := by rw [cycF, hgx, if_neg (by omega)]
        rw [he, if_pos rfl] at hf2
        (simp (disch := omega) only [hwrap64])
        exact rcW_as rfl (hq2 (k + 1) _ ⟨rfl, by omega, hf2⟩ (by omega))
    · rw [drop_end hlt2, eachR] at hf2
      rw [← hf2] at hf
      (simp (disch := omega) only [hwrap64])
      exact rcW_as rfl (hq (i + 1) _ ⟨rfl, by omega, hf⟩ (by omega))
  · rw [drop_end hlt, eachT] at hf
    (try simp only [rws, hwR, Nat.reduceAdd, Nat.reduceLeDiff, Nat.reduceLT, Nat.reduceSub, Nat.reduceMul, Nat.reduceEqDiff, Nat.reduceBEq, Int.reduceAdd, Int.reduceToNat, beq_self_eq_true])
    refine ret _ _ _ ?_
    rw [hck, ← hf]; rfl
end Go.HL
set_option linter.unusedVariables false
set_option linter.unusedSimpArgs false
set_option maxRecDepth 4000
namespace Go.HL
structure Tk where
  s : ByteArray
  line : Int
  col : Int
instance : Inhabited Tk := ⟨⟨⟨#[]⟩, 0, 0⟩⟩
def tkC (t : Tk) : List AV := [.str t.s, .int .i64 t.line, .int .i64 t.col]
structure Rd where
  at' : Nat
  op : Int
  dl : Int
  dc : Int
  de : Int
def rdC (T : List Tk) (r : Rd) : List AV := [.sl 3 (T.map tkC), .int .i64 r.at', .int .i64 r.op, .int .i64 r.dl, .int .i64 r.dc, .int .i64 r.de]
def rdO (T : List Tk) (r : Rd) : AObj := .cells 126 (rdC T r) 6
def AFunR (f b : Nat) (xs : List AV) (T : List Tk) (r : Rd) (v : AV) (r' : Rd) : Prop := ∀ S, sget S b = some (rdO T r) → ACalls PG f (.ptr b 0 :: xs) S fun ae S' => ae = .ret v ∧ S' = supd S b (rdO T r')
theorem rd_at {S : Store} {b : Nat} {T : List Tk} {r : Rd} (h : sget S b = some (rdO T r)) : objAt S b = some (126, [.sl 3 (T.map tkC), .int .i64 r.at', .int .i64 r.op, .int .i64 r.dl, .int .i64 r.dc, .int .i64 r.de], 6) := objAt_some.2 h
theorem supd_self {S : Store} {b : Nat} {o : AObj} (h : sget S b = some o) : supd S b o = S := by
  funext c
  unfold supd
  by_cases hc : b = c
  · subst hc; rw [if_pos rfl]; exact h.symm
  · rw [if_neg hc]
def nxP (T : List Tk) (r : Rd) : Tk := T.getD r.at' default
def failP (t : Tk) (e : Int) (r : Rd) : Rd := if r.de = 0 then { r with dl := t.line, dc := t.col, de := e } else r
def isP (T : List Tk) (s : ByteArray) (r : Rd) : Bool := decide (r.de = 0) && decide ((nxP T r).s = s)
def isR (T : List Tk) (s : ByteArray) (r : Rd) : Rd := if isP T s r then { r with at' := r.at' + 1 } else r
def mustR (T : List Tk) (s : ByteArray) (r : Rd) : Rd := if isP T s r then isR T s r else failP (nxP T r) 8 r
def nameP (T : List Tk) (r : Rd) : ByteArray := if nameB (nxP T r).s = true ∧ r.de = 0 then (nxP T r).s else ⟨#[]⟩
def nameR (T : List Tk) (r : Rd) : Rd := if nameB (nxP T r).s = true ∧ r.de = 0 then { r with at' := r.at' + 1 } else failP (nxP T r) 8 r
structure OkTk (T : List Tk) : Prop where
  len : T.length ≤ 5000
  size : ∀ t ∈ T, t.s.size ≤ 1125899906842624
  last : ∀ t, T[T.length - 1]? = some t → t.s = ⟨#[]⟩ ∨ t.s = ⟨#[63]⟩
def InR (T : List Tk) (r : Rd) : Prop := r.at' < T.length
theorem nx_get {T : List Tk} {r : Rd} (h : InR T r) : T[r.at']? = some (nxP T r) := by
  unfold nxP InR at *
  rw [List.getD_eq_getElem?_getD, List.getElem?_eq_getElem h]
  rfl
theorem c_fail {T : List Tk} {r : Rd} {b : Nat} (t : Tk) (e : Int) : AFunR nr_ref11_Reader_fail b [.agg (tkC t), .int .i64 e] T r (.tup []) (failP t e r) := by
  intro S h
  have ho := rd_at h
  refine w_ref11_Reader_fail ?_
  unfold B_ref11_Reader_fail
  (try simp only [rws, hwR, Nat.reduceAdd, Nat.reduceLeDiff, Nat.reduceLT, Nat.reduceSub, Nat.reduceMul, Nat.reduceEqDiff, Nat.reduceBEq, Int.reduceAdd, Int.reduceToNat, beq_self_eq_true, tkC, cellsAt_of ho])
  (refine cnW_intro (fun h0 => ?_) (fun h0 => ?_) <;> (try simp only [hlc] at h0))
  · (try simp only [rws, hwR, Nat.reduceAdd, Nat.reduceLeDiff, Nat.reduceLT, Nat.reduceSub, Nat.reduceMul, Nat.reduceEqDiff, Nat.reduceBEq, Int.reduceAdd, Int.reduceToNat, beq_self_eq_true, ho])
    exact rtW_none ⟨rfl, by rw [failP, if_pos h0]; rfl⟩
  · exact rtW_none ⟨rfl, by rw [failP, if_neg h0, supd_self h]⟩
theorem c_next {T : List Tk} {r : Rd} {b : Nat} (hT : OkTk T) (hr : InR T r) : AFunR nr_ref11_Reader_next b [] T r (.agg (tkC (nxP T r))) r := by
  intro S h
  have ho := rd_at h
  have hx := nx_get hr
  refine w_ref11_Reader_next ?_
  unfold B_ref11_Reader_next
  intro b2 hb2
  have hne : b2 ≠ b := sget_ne hb2 h
  (try simp only [rws, hwR, Nat.reduceAdd, Nat.reduceLeDiff, Nat.reduceLT, Nat.reduceSub, Nat.reduceMul, Nat.reduceEqDiff, Nat.reduceBEq, Int.reduceAdd, Int.reduceToNat, beq_self_eq_true, cellsAt_of ho, if_neg hne, hx, tkC])
  refine rtW_go S (by rw [sdel_fresh hb2]; exact Sub.refl S) ?_
  (try simp only [rws, hwR, Nat.reduceAdd, Nat.reduceLeDiff, Nat.reduceLT, Nat.reduceSub, Nat.reduceMul, Nat.reduceEqDiff, Nat.reduceBEq, Int.reduceAdd, Int.reduceToNat, beq_self_eq_true])
  first | exact ⟨rfl, (supd_self h).symm⟩ | exact (supd_self h).symm
theorem c_is {T : List Tk} {r : Rd} {b : Nat} (hT : OkTk T) (hr : InR T r) (s : ByteArray) : AFunR nr_ref11_Reader_is b [.str s] T r (.bool (isP T s r)) (isR T s r) := by
  intro S h
  have ho := rd_at h
  have hx := nx_get hr
  have hl := hT.len
  have hr' : r.at' < T.length := hr
  refine w_ref11_Reader_is ?_
  unfold B_ref11_Reader_is
  (try simp only [rws, hwR, Nat.reduceAdd, Nat.reduceLeDiff, Nat.reduceLT, Nat.reduceSub, Nat.reduceMul, Nat.reduceEqDiff, Nat.reduceBEq, Int.reduceAdd, Int.reduceToNat, beq_self_eq_true, cellsAt_of ho])
  cases a1 : decide (r.de = 0) with
  | false =>
    (try simp only [rws, hwR, Nat.reduceAdd, Nat.reduceLeDiff, Nat.reduceLT, Nat.reduceSub, Nat.reduceMul, Nat.reduceEqDiff, Nat.reduceBEq, Int.reduceAdd, Int.reduceToNat, beq_self_eq_true, C_ref11_Reader_is_1])
    have hp : isP T s r = false := by rw [isP, a1]; rfl
    exact rtW_one ⟨by rw [hp], by rw [isR, hp]; exact (supd_self h).symm⟩
  | true =>
    (try simp only [rws, hwR, Nat.reduceAdd, Nat.reduceLeDiff, Nat.reduceLT, Nat.reduceSub, Nat.reduceMul, Nat.reduceEqDiff, Nat.reduceBEq, Int.reduceAdd, Int.reduceToNat, beq_self_eq_true, hx, tkC])
    cases a2 : decide ((nxP T r).s = s) with
    | false =>
      (try simp only [rws, hwR, Nat.reduceAdd, Nat.reduceLeDiff, Nat.reduceLT, Nat.reduceSub, Nat.reduceMul, Nat.reduceEqDiff, Nat.reduceBEq, Int.reduceAdd, Int.reduceToNat, beq_self_eq_true, C_ref11_Reader_is_1])
      have hp : isP T s r = false := by rw [isP, a1, a2]; rfl
      exact rtW_one ⟨by rw [hp], by rw [isR, hp]; exact (supd_self h).symm⟩
    | true =>
      (try simp only [rws, hwR, Nat.reduceAdd, Nat.reduceLeDiff, Nat.reduceLT, Nat.reduceSub, Nat.reduceMul, Nat.reduceEqDiff, Nat.reduceBEq, Int.reduceAdd, Int.reduceToNat, beq_self_eq_true, C_ref11_Reader_is_1, cellsAt_of ho, ho])
      have hp : isP T s r = true := by rw [isP, a1, a2]; rfl
      (simp (disch := omega) only [hwrap64])
      exact rtW_one ⟨by rw [hp], by rw [isR, hp]; rfl⟩
theorem AFunR.ca {f b : Nat} {xs : List AV} {T : List Tk} {r r' : Rd} {v : AV} (h : AFunR f b xs T r v r') {S : Store} (hS : sget S b = some (rdO T r)) {K Qp : AV → Store → Prop} (hK : K v (supd S b (rdO T r'))) : caW PG S (.func (.func f) [] []) (.ptr b 0 :: xs) K Qp :=
  caW_of (h S hS) fun ae S' ⟨h1, h2⟩ => by subst h1; subst h2; exact hK
theorem rd_new {S : Store} {b : Nat} {T : List Tk} {r : Rd} : sget (supd S b (rdO T r)) b = some (rdO T r) := by rw [sget_supd, if_pos rfl]
theorem isR_no {T : List Tk} {s : ByteArray} {r : Rd} (h : isP T s r = false) : isR T s r = r := by rw [isR, h]; rfl
theorem c_must {T : List Tk} {r : Rd} {b : Nat} (hT : OkTk T) (hr : InR T r) (s : ByteArray) : AFunR nr_ref11_Reader_must b [.str s] T r (.tup []) (mustR T s r) := by
  intro S h
  refine w_ref11_Reader_must ?_
  unfold B_ref11_Reader_must
  refine (c_is hT hr s).ca h ?_
  cases hp : isP T s r with
  | true =>
    (try simp only [rws, hwR, Nat.reduceAdd, Nat.reduceLeDiff, Nat.reduceLT, Nat.reduceSub, Nat.reduceMul, Nat.reduceEqDiff, Nat.reduceBEq, Int.reduceAdd, Int.reduceToNat, beq_self_eq_true])
    exact rtW_none ⟨rfl, by rw [mustR, hp]; rfl⟩
  | false =>
    (try simp only [rws, hwR, Nat.reduceAdd, Nat.reduceLeDiff, Nat.reduceLT, Nat.reduceSub, Nat.reduceMul, Nat.reduceEqDiff, Nat.reduceBEq, Int.reduceAdd, Int.reduceToNat, beq_self_eq_true])
    have hi := isR_no hp
    rw [hi]
    refine (c_next hT hr).ca rd_new ?_
    (try simp only [rws, hwR, Nat.reduceAdd, Nat.reduceLeDiff, Nat.reduceLT, Nat.reduceSub, Nat.reduceMul, Nat.reduceEqDiff, Nat.reduceBEq, Int.reduceAdd, Int.reduceToNat, beq_self_eq_true, tkC])
    refine (c_fail (nxP T r) 8).ca rd_new ?_
    (try simp only [rws, hwR, Nat.reduceAdd, Nat.reduceLeDiff, Nat.reduceLT, Nat.reduceSub, Nat.reduceMul, Nat.reduceEqDiff, Nat.reduceBEq, Int.reduceAdd, Int.reduceToNat, beq_self_eq_true])
    exact rtW_none ⟨rfl, by rw [mustR, hp]; rfl⟩
theorem c_name {T : List Tk} {r : Rd} {b : Nat} (hT : OkTk T) (hr : InR T r) : AFunR nr_ref11_Reader_name b [] T r (.str (nameP T r)) (nameR T r) := by
  intro S h
  have hx := nx_get hr
  have hl := hT.len
  have hr' : r.at' < T.length := hr
  refine w_ref11_Reader_name ?_
  unfold B_ref11_Reader_name
  refine (c_next hT hr).ca h ?_
  rw [supd_self h]
  have ho := rd_at h
  (try simp only [rws, hwR, Nat.reduceAdd, Nat.reduceLeDiff, Nat.reduceLT, Nat.reduceSub, Nat.reduceMul, Nat.reduceEqDiff, Nat.reduceBEq, Int.reduceAdd, Int.reduceToNat, beq_self_eq_true, tkC])
  refine caW_pure (c_ref10_Name (hT.size _ (List.mem_of_getElem? hx))) ?_
  cases hn : nameB (nxP T r).s with
  | false =>
    (try simp only [rws, hwR, Nat.reduceAdd, Nat.reduceLeDiff, Nat.reduceLT, Nat.reduceSub, Nat.reduceMul, Nat.reduceEqDiff, Nat.reduceBEq, Int.reduceAdd, Int.reduceToNat, beq_self_eq_true, C_ref11_Reader_name_1])
    have hc : ¬ (nameB (nxP T r).s = true ∧ r.de = 0) := by rw [hn]; simp
    refine (c_fail (nxP T r) 8).ca h ?_
    (try simp only [rws, hwR, Nat.reduceAdd, Nat.reduceLeDiff, Nat.reduceLT, Nat.reduceSub, Nat.reduceMul, Nat.reduceEqDiff, Nat.reduceBEq, Int.reduceAdd, Int.reduceToNat, beq_self_eq_true])
    exact rtW_one ⟨by rw [nameP, if_neg hc], by rw [nameR, if_neg hc]⟩
  | true =>
    (try simp only [rws, hwR, Nat.reduceAdd, Nat.reduceLeDiff, Nat.reduceLT, Nat.reduceSub, Nat.reduceMul, Nat.reduceEqDiff, Nat.reduceBEq, Int.reduceAdd, Int.reduceToNat, beq_self_eq_true, cellsAt_of ho])
    cases a1 : decide (r.de = 0) with
    | false =>
      have hc : ¬ (nameB (nxP T r).s = true ∧ r.de = 0) := fun h => by rw [decide_eq_true h.2] at a1; cases a1
      (try simp only [rws, hwR, Nat.reduceAdd, Nat.reduceLeDiff, Nat.reduceLT, Nat.reduceSub, Nat.reduceMul, Nat.reduceEqDiff, Nat.reduceBEq, Int.reduceAdd, Int.reduceToNat, beq_self_eq_true, C_ref11_Reader_name_1])
      refine (c_fail (nxP T r) 8).ca h ?_
      (try simp only [rws, hwR, Nat.reduceAdd, Nat.reduceLeDiff, Nat.reduceLT, Nat.reduceSub, Nat.reduceMul, Nat.reduceEqDiff, Nat.reduceBEq, Int.reduceAdd, Int.reduceToNat, beq_self_eq_true])
      exact rtW_one ⟨by rw [nameP, if_neg hc], by rw [nameR, if_neg hc]⟩
    | true =>
      have hc : nameB (nxP T r).s = true ∧ r.de = 0 := ⟨hn, of_decide_eq_true a1⟩
      (try simp only [rws, hwR, Nat.reduceAdd, Nat.reduceLeDiff, Nat.reduceLT, Nat.reduceSub, Nat.reduceMul, Nat.reduceEqDiff, Nat.reduceBEq, Int.reduceAdd, Int.reduceToNat, beq_self_eq_true, C_ref11_Reader_name_1, cellsAt_of ho, ho])
      (simp (disch := omega) only [hwrap64])
      exact rtW_one ⟨by rw [nameP, if_pos hc], by rw [nameR, if_pos hc]; rfl⟩
mutual
def hgt : Ex → Nat
  | .mk _ _ _ ks => hgtL ks + 1
def hgtL : List Ex → Nat
  | [] => 0
  | e :: r => max (hgt e) (hgtL r)
end
mutual
theorem hgt_le : ∀ e : Ex, hgt e ≤ esz e
  | .mk _ _ _ ks => by
    unfold hgt esz
    have := hgtL_le ks
    omega
theorem hgtL_le : ∀ l : List Ex, hgtL l ≤ eszL l
  | [] => by simp [hgtL]
  | e :: r => by
    unfold hgtL eszL
    have h1 := hgt_le e
    have h2 := hgtL_le r
    omega
end
theorem c_Height : ∀ (e : Ex), OkE e → esz e ≤ 1125899906842624 → AFun PG nr_ref11_Height [.agg (exC e)] (.int .i64 (hgt e)) := by
  intro e he
  induction he with
  | mk k n o ks hk hn ho hks ih =>
    intro hsz S
    have hle := hgt_le (.mk k n o ks)
    rw [hgt] at hle
    refine w_ref11_Height ?_
    unfold B_ref11_Height
    (try simp only [rws, hwR, Nat.reduceAdd, Nat.reduceLeDiff, Nat.reduceLT, Nat.reduceSub, Nat.reduceMul, Nat.reduceEqDiff, Nat.reduceBEq, Int.reduceAdd, Int.reduceToNat, beq_self_eq_true, exC_eq, Ex.kind, Ex.name, Ex.over, Ex.kids])
    refine LoopP.introS (fun p : Nat × Nat => [(1, .rop [.int .i64 k, .str n, .str o, .sl 4 (ks.map exC)]), (3, .int .i64 p.2), (4, .int .i64 p.1)])
      (fun p S' => S' = S ∧ p.1 ≤ ks.length ∧ max p.2 (hgtL (ks.drop p.1)) = hgtL ks) (fun p => ks.length - p.1) (0, 0) ⟨rfl, by omega, by simp⟩ rfl ?_
    rintro ⟨i, m⟩ S1 ⟨rfl, hi, hf⟩ q hq
    dsimp only at hi hf
    (try simp only [rws, hwR, Nat.reduceAdd, Nat.reduceLeDiff, Nat.reduceLT, Nat.reduceSub, Nat.reduceMul, Nat.reduceEqDiff, Nat.reduceBEq, Int.reduceAdd, Int.reduceToNat, beq_self_eq_true, C_ref11_Height_1])
    (refine cnW_intro (fun hlt => ?_) (fun hlt => ?_) <;> (try simp only [hlc] at hlt))
    · obtain ⟨x, hx⟩ := get_lt hlt
      have hkid := esz_kid (k := k) (n := n) (o := o) (List.mem_of_getElem? hx)
      rw [drop_cons hx, hgtL] at hf
      (try simp only [rws, hwR, Nat.reduceAdd, Nat.reduceLeDiff, Nat.reduceLT, Nat.reduceSub, Nat.reduceMul, Nat.reduceEqDiff, Nat.reduceBEq, Int.reduceAdd, Int.reduceToNat, beq_self_eq_true, hx])
      refine caW_pure (ih x (List.mem_of_getElem? hx) (by omega)) ?_
      (try simp only [rws, hwR, Nat.reduceAdd, Nat.reduceLeDiff, Nat.reduceLT, Nat.reduceSub, Nat.reduceMul, Nat.reduceEqDiff, Nat.reduceBEq, Int.reduceAdd, Int.reduceToNat, beq_self_eq_true])
      (refine cnW_intro (fun hc => ?_) (fun hc => ?_) <;> (try simp only [hlc] at hc))
      · (simp (disch := omega) only [hwrap64])
        exact rcW_as rfl (hq (i + 1, hgt x) _ ⟨rfl, by dsimp only; omega, by dsimp only; omega⟩ (by dsimp only; omega))
      · (simp (disch := omega) only [hwrap64])
        exact rcW_as rfl (hq (i + 1, m) _ ⟨rfl, by dsimp only; omega, by dsimp only; omega⟩ (by dsimp only; omega))
    · rw [drop_end hlt, hgtL] at hf
      have : m = hgtL ks := by omega
      subst this
      (simp (disch := omega) only [hwrap64])
      exact rtW_one ⟨by rw [hgt]; rfl, rfl⟩
def twoE (k : Int) (a c : Ex) : Ex := .mk k ⟨#[]⟩ ⟨#[]⟩ [a, c]
def twoR (k : Int) (t : Tk) (a c : Ex) (r : Rd) : Rd := if r.de = 0 ∧ 12 < hgt (twoE k a c) then failP t 9 r else r
theorem twoE_ok {k : Int} {a c : Ex} (ha : OkE a) (hc : OkE c) : OkE (twoE k a c) := .mk k _ _ _ (by simp) (by decide) (by decide) fun e he => by
  simp at he
  rcases he with rfl | rfl <;> assumption
theorem twoE_sz {k : Int} {a c : Ex} : esz (twoE k a c) = esz a + esz c + 1 := by simp [twoE, esz, eszL]; omega
theorem c_two {T : List Tk} {r : Rd} {b : Nat} (k : Int) (t : Tk) {a c : Ex} (ha : OkE a) (hc : OkE c) (hsz : r.de = 0 → esz a + esz c + 1 ≤ 1125899906842624) : AFunR nr_ref11_Reader_two b [.int .i64 k, .agg (tkC t), .agg (exC a), .agg (exC c)] T r (.agg (exC (twoE k a c))) (twoR k t a c r) := by
  intro S h
  have ho := rd_at h
  refine w_ref11_Reader_two ?_
  unfold B_ref11_Reader_two
  (try simp only [rws, hwR, Nat.reduceAdd, Nat.reduceLeDiff, Nat.reduceLT, Nat.reduceSub, Nat.reduceMul, Nat.reduceEqDiff, Nat.reduceBEq, Int.reduceAdd, Int.reduceToNat, beq_self_eq_true, tkC, exC_eq])
  intro b2 hb2
  have hne : b2 ≠ b := sget_ne hb2 h
  (try simp only [rws, hwR, Nat.reduceAdd, Nat.reduceLeDiff, Nat.reduceLT, Nat.reduceSub, Nat.reduceMul, Nat.reduceEqDiff, Nat.reduceBEq, Int.reduceAdd, Int.reduceToNat, beq_self_eq_true, cellsAt_of ho, if_neg hne, ones_cons])
  have h2 : ∀ r2, sget (supd (supd S b2 (.cells 41 [.int .i64 0, .str ⟨#[]⟩, .str ⟨#[]⟩, .nils] 4)) b (rdO T r2)) b = some (rdO T r2) := fun r2 => rd_new
  have hS0 : sget (supd S b2 (.cells 41 [.int .i64 0, .str ⟨#[]⟩, .str ⟨#[]⟩, .nils] 4)) b = some (rdO T r) := by rw [sget_supd, if_neg hne]; exact h
  have fin : ∀ S2 r', objAt S2 b2 = some (41, [.int .i64 0, .str ⟨#[]⟩, .str ⟨#[]⟩, .nils], 4) → (∀ x, b2 ≠ x → sget S2 x = sget (supd S b (rdO T r')) x) → r' = twoR k t a c r →
      C_ref11_Reader_two_2 (fun ae S' => ae = .ret (.agg (exC (twoE k a c))) ∧ S' = supd S b (rdO T (twoR k t a c r))) (.ptr b2 0) (.rop [.int .i64 k, .str ⟨#[]⟩, .str ⟨#[]⟩, .sl 4 [exC a, exC c]]) S2 := by
    intro S2 r' hob hS2 hr'
    unfold C_ref11_Reader_two_2
    have hb2' : sget (supd S b (rdO T r')) b2 = none := by rw [sget_supd, if_neg (Ne.symm hne)]; exact hb2
    have hsub : Sub (supd S b (rdO T r')) (sdel (supd S2 b2 (.cells 41 [.int .i64 k, .str ⟨#[]⟩, .str ⟨#[]⟩, .sl 4 [exC a, exC c]] 4)) b2) := by
      intro x o hx
      have hxb : b2 ≠ x := by rintro rfl; rw [hb2'] at hx; cases hx
      rw [sget_sdel, if_neg hxb, sget_supd, if_neg hxb]
      rw [hS2 x hxb]; exact hx
    simp only [exC_eq] at hsub
    (try simp only [rws, hwR, Nat.reduceAdd, Nat.reduceLeDiff, Nat.reduceLT, Nat.reduceSub, Nat.reduceMul, Nat.reduceEqDiff, Nat.reduceBEq, Int.reduceAdd, Int.reduceToNat, beq_self_eq_true, hob, exC_eq, ones_cons])
    refine rtW_go _ hsub ?_
    (try simp only [rws, hwR, Nat.reduceAdd, Nat.reduceLeDiff, Nat.reduceLT, Nat.reduceSub, Nat.reduceMul, Nat.reduceEqDiff, Nat.reduceBEq, Int.reduceAdd, Int.reduceToNat, beq_self_eq_true])
    refine ⟨?_, by rw [hr']⟩
    simp only [twoE, Ex.kind, Ex.name, Ex.over, Ex.kids, List.map_cons, List.map_nil, exC_eq]
  simp only [exC_eq] at fin
  cases a1 : decide (r.de = 0) with
  | false =>
    (try simp only [rws, hwR, Nat.reduceAdd, Nat.reduceLeDiff, Nat.reduceLT, Nat.reduceSub, Nat.reduceMul, Nat.reduceEqDiff, Nat.reduceBEq, Int.reduceAdd, Int.reduceToNat, beq_self_eq_true, C_ref11_Reader_two_1])
    refine fin _ r objAt_eq (fun x hx => by rw [sget_supd, if_neg hx, supd_self h]) ?_
    rw [twoR, if_neg (fun h => by rw [decide_eq_true h.1] at a1; cases a1)]
  | true =>
    have hde := of_decide_eq_true a1
    (try simp only [rws, hwR, Nat.reduceAdd, Nat.reduceLeDiff, Nat.reduceLT, Nat.reduceSub, Nat.reduceMul, Nat.reduceEqDiff, Nat.reduceBEq, Int.reduceAdd, Int.reduceToNat, beq_self_eq_true])
    have hH := c_Height (twoE k a c) (twoE_ok ha hc) (by rw [twoE_sz]; exact hsz hde)
    simp only [twoE, exC_eq, Ex.kind, Ex.name, Ex.over, Ex.kids, List.map_cons, List.map_nil] at hH
    refine caW_pure hH ?_
    (try simp only [rws, hwR, Nat.reduceAdd, Nat.reduceLeDiff, Nat.reduceLT, Nat.reduceSub, Nat.reduceMul, Nat.reduceEqDiff, Nat.reduceBEq, Int.reduceAdd, Int.reduceToNat, beq_self_eq_true, C_ref11_Reader_two_1])
    (refine cnW_intro (fun hg => ?_) (fun hg => ?_) <;> (try simp only [hlc] at hg))
    · refine (c_fail t 9).ca hS0 ?_
      refine fin _ (failP t 9 r) (by rw [objAt_ne (Ne.symm hne)]; exact objAt_eq) (fun x hx => ?_) ?_
      · rw [sget_supd, sget_supd, sget_supd, if_neg hx]
      · rw [twoR, if_pos ⟨hde, by simp only [twoE]; omega⟩]
    · refine fin _ r objAt_eq (fun x hx => by rw [sget_supd, if_neg hx, supd_self h]) ?_
      rw [twoR, if_neg (fun h => by have := h.2; simp only [twoE] at this; omega)]
end Go.HL
set_option linter.unusedVariables false
set_option linter.unusedSimpArgs false
namespace Go.HL
def zeroE : Ex := .mk 0 ⟨#[]⟩ ⟨#[]⟩ []
def sLP : ByteArray := ⟨#[40]⟩
def sRP : ByteArray := ⟨#[41]⟩
def sDot : ByteArray := ⟨#[46]⟩
def atomP (T : List Tk) (ex : Rd → Ex × Rd) (r : Rd) : Ex × Rd :=
  if isP T sLP r then
    (if 12 < r.op + 1 then (zeroE, failP (nxP T r) 9 { isR T sLP r with op := r.op + 1 })
    else ((ex { isR T sLP r with op := r.op + 1 }).1, { mustR T sRP (ex { isR T sLP r with op := r.op + 1 }).2 with op := (mustR T sRP (ex { isR T sLP r with op := r.op + 1 }).2).op - 1 }))
  else if isP T sDot (nameR T r) then (.mk 1 (nameP T r) (nameP T (isR T sDot (nameR T r))) [], nameR T (isR T sDot (nameR T r)))
  else (.mk 0 (nameP T r) ⟨#[]⟩ [], nameR T r)
def opL (T : List Tk) (tk : ByteArray → Option Int) (sub : Rd → Ex × Rd) : Nat → Ex × Rd → Ex × Rd
  | 0, p => p
  | f + 1, (e, r) => if r.de = 0 then (match tk (nxP T r).s with
      | some k => opL T tk sub f (twoE k e (sub { r with at' := r.at' + 1 }).1, twoR k (nxP T r) e (sub { r with at' := r.at' + 1 }).1 (sub { r with at' := r.at' + 1 }).2)
      | none => (e, r)) else (e, r)
def termK (s : ByteArray) : Option Int := if s = ⟨#[38]⟩ then some 3 else none
def exprK (s : ByteArray) : Option Int := if s = ⟨#[43]⟩ then some 2 else if s = ⟨#[45]⟩ then some 4 else none
def termP (T : List Tk) (ex : Rd → Ex × Rd) (r : Rd) : Ex × Rd := opL T termK (atomP T ex) T.length (atomP T ex r)
def exprOf (T : List Tk) (ex : Rd → Ex × Rd) (r : Rd) : Ex × Rd := opL T exprK (termP T ex) T.length (termP T ex r)
def exprP (T : List Tk) : Nat → Rd → Ex × Rd
  | 0 => exprOf T fun r => (zeroE, r)
  | n + 1 => exprOf T (exprP T n)
structure Pre (T : List Tk) (n : Nat) (r : Rd) : Prop where
  inr : InR T r
  op0 : 0 ≤ r.op
  op13 : r.op ≤ 13
  ok : r.de = 0 → r.op ≤ 12 ∧ 12 ≤ r.op + n
structure StepR (T : List Tk) (r r' : Rd) (w : Nat) : Prop where
  inr : InR T r'
  mono : r.at' ≤ r'.at'
  fault : r'.de = 0 → r.de = 0
  op1 : r.op ≤ r'.op
  op2 : r'.op ≤ 13
  op : r'.de = 0 → r'.op = r.op
  sz : r'.de = 0 → w + r.at' ≤ r'.at'
theorem StepR.pre {T : List Tk} {r r' : Rd} {n w : Nat} (h : StepR T r r' w) (hp : Pre T n r) : Pre T n r' :=
  ⟨h.inr, by have := hp.op0; have := h.op1; omega, h.op2, fun h0 => by have h1 := h.op h0; rw [h1]; exact hp.ok (h.fault h0)⟩
theorem StepR.trans {T : List Tk} {r r1 r2 : Rd} {w1 w2 : Nat} (h : StepR T r r1 w1) (k : StepR T r1 r2 w2) : StepR T r r2 (w1 + w2) :=
  ⟨k.inr, Nat.le_trans h.mono k.mono, fun h0 => h.fault (k.fault h0), by have := h.op1; have := k.op1; omega, k.op2, fun h0 => (k.op h0).trans (h.op (k.fault h0)), fun h0 => by have := h.sz (k.fault h0); have := k.sz h0; omega⟩
theorem StepR.le {T : List Tk} {r r1 : Rd} {w w' : Nat} (h : StepR T r r1 w) (hw : w' ≤ w) : StepR T r r1 w' :=
  ⟨h.inr, h.mono, h.fault, h.op1, h.op2, h.op, fun h0 => by have := h.sz h0; omega⟩
theorem StepR.refl {T : List Tk} {r : Rd} {n : Nat} (hp : Pre T n r) : StepR T r r 0 := ⟨hp.inr, Nat.le_refl _, id, Int.le_refl _, hp.op13, fun _ => rfl, fun _ => by omega⟩
theorem more_in {T : List Tk} (hT : OkTk T) {r : Rd} (hr : InR T r) (h1 : (nxP T r).s ≠ ⟨#[]⟩) (h2 : (nxP T r).s ≠ ⟨#[63]⟩) : r.at' + 1 < T.length := by
  have hx := nx_get hr
  unfold InR at hr
  rcases Nat.lt_or_ge (r.at' + 1) T.length with h | h
  · exact h
  · have e : T.length - 1 = r.at' := by omega
    have := hT.last (nxP T r) (by rw [e]; exact hx)
    rcases this with h3 | h3
    · exact absurd h3 h1
    · exact absurd h3 h2
theorem adv {T : List Tk} (hT : OkTk T) {r : Rd} {n : Nat} (hp : Pre T n r) (h1 : (nxP T r).s ≠ ⟨#[]⟩) (h2 : (nxP T r).s ≠ ⟨#[63]⟩) : StepR T r { r with at' := r.at' + 1 } 1 :=
  ⟨more_in hT hp.inr h1 h2, Nat.le_succ _, id, Int.le_refl _, hp.op13, fun _ => rfl, fun _ => by dsimp only; omega⟩
theorem fail_any {T : List Tk} {r r1 : Rd} (t : Tk) {e : Int} (he : e ≠ 0) (w' : Nat) (h1 : InR T r1) (h2 : r.at' ≤ r1.at') (h3 : r.op ≤ r1.op) (h4 : r1.op ≤ 13) : StepR T r (failP t e r1) w' := by
  have hne : ¬ (failP t e r1).de = 0 := by
    unfold failP
    split
    · exact he
    · assumption
  have e1 : (failP t e r1).at' = r1.at' := by unfold failP; split <;> rfl
  have e2 : (failP t e r1).op = r1.op := by unfold failP; split <;> rfl
  exact ⟨by unfold InR; rw [e1]; exact h1, by rw [e1]; exact h2, fun h0 => absurd h0 hne, by rw [e2]; exact h3, by rw [e2]; exact h4, fun h0 => absurd h0 hne, fun h0 => absurd h0 hne⟩
theorem fail_step {T : List Tk} {r r1 : Rd} {w : Nat} (t : Tk) {e : Int} (he : e ≠ 0) (w' : Nat) (h : StepR T r r1 w) : StepR T r (failP t e r1) w' := fail_any t he w' h.inr h.mono h.op1 h.op2
theorem is_true {T : List Tk} {s : ByteArray} {r : Rd} (h : isP T s r = true) : r.de = 0 ∧ (nxP T r).s = s := by
  unfold isP at h
  simpa using h
theorem is_step {T : List Tk} (hT : OkTk T) {s : ByteArray} {r : Rd} {n : Nat} (hp : Pre T n r) (h : isP T s r = true) (h1 : s ≠ ⟨#[]⟩) (h2 : s ≠ ⟨#[63]⟩) : StepR T r (isR T s r) 1 := by
  obtain ⟨-, h4⟩ := is_true h
  rw [isR, if_pos h]
  exact adv hT hp (by rw [h4]; exact h1) (by rw [h4]; exact h2)
theorem must_step {T : List Tk} (hT : OkTk T) {s : ByteArray} {r : Rd} {n : Nat} (hp : Pre T n r) (h1 : s ≠ ⟨#[]⟩) (h2 : s ≠ ⟨#[63]⟩) : StepR T r (mustR T s r) 1 := by
  unfold mustR
  cases h : isP T s r with
  | true => rw [if_pos rfl]; exact is_step hT hp h h1 h2
  | false => rw [if_neg (by simp)]; exact fail_step _ (by decide) 1 (StepR.refl hp)
theorem name_some {s : ByteArray} (h : nameB s = true) : s ≠ ⟨#[]⟩ ∧ s ≠ ⟨#[63]⟩ := by
  constructor
  · rintro rfl
    revert h
    decide +kernel
  · rintro rfl
    revert h
    decide +kernel
theorem name_step {T : List Tk} (hT : OkTk T) {r : Rd} {n : Nat} (hp : Pre T n r) : StepR T r (nameR T r) 1 := by
  unfold nameR
  split
  · rename_i h
    obtain ⟨h1, h2⟩ := name_some h.1
    exact adv hT hp h1 h2
  · exact fail_step _ (by decide) 1 (StepR.refl hp)
theorem name_size {T : List Tk} (hT : OkTk T) {r : Rd} (hr : InR T r) : (nameP T r).size ≤ 1125899906842624 := by
  unfold nameP
  split
  · exact hT.size _ (List.mem_of_getElem? (nx_get hr))
  · exact Nat.zero_le _
theorem two_step {T : List Tk} {r r1 : Rd} {w : Nat} (k : Int) (t : Tk) (a c : Ex) (h : StepR T r r1 w) : StepR T r (twoR k t a c r1) w := by
  unfold twoR
  split
  · exact fail_step _ (by decide) w h
  · exact h
structure ExSt (T : List Tk) (r : Rd) (p : Ex × Rd) : Prop where
  st : StepR T r p.2 (esz p.1)
  ok : OkE p.1
theorem okE_leaf {k : Int} {n o : ByteArray} (hn : n.size ≤ 1125899906842624) (ho : o.size ≤ 1125899906842624) : OkE (.mk k n o []) := .mk k n o [] (by simp) hn ho fun e he => by (cases he)
theorem esz_leaf {k : Int} {n o : ByteArray} : esz (.mk k n o []) = 1 := by simp [esz, eszL]
def Inner (T : List Tk) (n : Nat) (ex : Rd → Ex × Rd) : Prop := ∀ m, n = m + 1 → ∀ r, Pre T m r → ExSt T r (ex r)
theorem lp_pre {T : List Tk} (hT : OkTk T) {n : Nat} {r : Rd} (hp : Pre T n r) (h : isP T sLP r = true) (h12 : ¬ 12 < r.op + 1) : ∃ m, n = m + 1 ∧ Pre T m { isR T sLP r with op := r.op + 1 } := by
  obtain ⟨h1, h2⟩ := is_true h
  obtain ⟨k1, k2⟩ := hp.ok h1
  have hs := is_step hT hp h (by decide +kernel) (by decide +kernel)
  refine ⟨n - 1, by omega, hs.inr, ?_, ?_, fun _ => ?_⟩
  · have := hp.op0; dsimp only; omega
  · dsimp only; omega
  · dsimp only; omega
theorem atom_ok {T : List Tk} (hT : OkTk T) {n : Nat} {ex : Rd → Ex × Rd} (hex : Inner T n ex) {r : Rd} (hp : Pre T n r) : ExSt T r (atomP T ex r) := by
  unfold atomP
  split
  · rename_i h
    have hs := is_step hT hp h (by decide +kernel) (by decide +kernel)
    obtain ⟨h1, h2⟩ := is_true h
    split
    · rename_i h12
      have h5 : r.op = 12 := by have := (hp.ok h1).1; omega
      refine ⟨?_, okE_leaf (Nat.zero_le _) (Nat.zero_le _)⟩
      exact fail_any _ (by decide) _ hs.inr hs.mono (by dsimp only; omega) (by dsimp only; omega)
    · rename_i h12
      obtain ⟨m, hm, hp2⟩ := lp_pre hT hp h h12
      have he := hex m hm _ hp2
      generalize ex { isR T sLP r with op := r.op + 1 } = q at he
      obtain ⟨e, r3⟩ := q
      have hp3 := he.st.pre hp2
      have hm2 := must_step hT hp3 (s := sRP) (by decide +kernel) (by decide +kernel)
      have h6 := he.st.trans hm2
      dsimp only at h6 ⊢
      refine ⟨⟨h6.inr, ?_, fun h0 => ?_, ?_, ?_, fun h0 => ?_, fun h0 => ?_⟩, he.ok⟩
      · have := hs.mono; have := h6.mono; dsimp only at *; omega
      · exact hs.fault (h6.fault h0)
      · have := h6.op1; dsimp only at *; omega
      · have := h6.op2; dsimp only at *; omega
      · have := h6.op h0; dsimp only at *; omega
      · have h7 := h6.sz h0
        have h8 := hs.mono
        dsimp only at *; omega
  · have hn := name_step hT hp
    have hpn := hn.pre hp
    split
    · rename_i h
      have h1 := is_step hT hpn h (by decide +kernel) (by decide +kernel)
      have hp1 := h1.pre hpn
      have h2 := name_step hT hp1
      refine ⟨?_, okE_leaf (name_size hT hp.inr) (name_size hT hp1.inr)⟩
      rw [esz_leaf]
      exact ((hn.trans h1).trans h2).le (by omega)
    · refine ⟨?_, okE_leaf (name_size hT hp.inr) (Nat.zero_le _)⟩
      rw [esz_leaf]
      exact hn
def Signs (tk : ByteArray → Option Int) : Prop := tk ⟨#[]⟩ = none ∧ tk ⟨#[63]⟩ = none
theorem opL_ok {T : List Tk} (hT : OkTk T) {n : Nat} {tk : ByteArray → Option Int} (htk : Signs tk) {sub : Rd → Ex × Rd} (hsub : ∀ r, Pre T n r → ExSt T r (sub r)) {r0 : Rd} (hp0 : Pre T n r0) : ∀ {f : Nat} {p : Ex × Rd}, ExSt T r0 p → ExSt T r0 (opL T tk sub f p)
  | 0, p, h => h
  | f + 1, (e, r), h => by
    unfold opL
    split
    · rename_i h0
      split
      · rename_i k hk
        have hp := h.st.pre hp0
        have ha := adv hT hp (fun h1 => by rw [h1, htk.1] at hk; cases hk) (fun h1 => by rw [h1, htk.2] at hk; cases hk)
        have hs := hsub _ (ha.pre hp)
        refine opL_ok hT htk hsub hp0 ⟨two_step _ _ _ _ ?_, twoE_ok h.ok hs.ok⟩
        have hst := h.st
        have hss := hs.st
        dsimp only at hst ha hss ⊢
        rw [twoE_sz]
        exact ((hst.trans ha).trans hss).le (by omega)
      · exact h
    · exact h
theorem signs_term : Signs termK := ⟨by decide +kernel, by decide +kernel⟩
theorem signs_expr : Signs exprK := ⟨by decide +kernel, by decide +kernel⟩
theorem term_ok {T : List Tk} (hT : OkTk T) {n : Nat} {ex : Rd → Ex × Rd} (hex : Inner T n ex) {r : Rd} (hp : Pre T n r) : ExSt T r (termP T ex r) := opL_ok hT signs_term (fun _ h => atom_ok hT hex h) hp (atom_ok hT hex hp)
theorem exprOf_ok {T : List Tk} (hT : OkTk T) {n : Nat} {ex : Rd → Ex × Rd} (hex : Inner T n ex) {r : Rd} (hp : Pre T n r) : ExSt T r (exprOf T ex r) := opL_ok hT signs_expr (fun _ h => term_ok hT hex h) hp (term_ok hT hex hp)
theorem expr_ok {T : List Tk} (hT : OkTk T) : ∀ {n : Nat} {r : Rd}, Pre T n r → ExSt T r (exprP T n r)
  | 0, r, hp => exprOf_ok hT (fun m h => by omega) hp
  | n + 1, r, hp => exprOf_ok hT (fun m h r hr => by
    have : n = m := by omega
    subst this
    exact expr_ok hT hr) hp
end Go.HL
set_option linter.unusedVariables false
set_option linter.unusedSimpArgs false
set_option maxRecDepth 4000
namespace Go.HL
theorem sub_both {S S1 : Store} (h : Sub S S1) (b : Nat) (o : AObj) : Sub (supd S b o) (supd S1 b o) := by
  intro x y hx
  rw [sget_supd] at hx ⊢
  split
  · rename_i hb; rw [if_pos hb] at hx; exact hx
  · rename_i hb; rw [if_neg hb] at hx; exact h x y hx
theorem sub_cell {S : Store} {b b2 : Nat} {o x y : AObj} (hb2 : sget S b2 = none) (hne : b2 ≠ b) : Sub (supd S b o) (supd (supd (supd S b2 x) b o) b2 y) :=
  Sub.supd (by rw [sget_supd, if_neg (Ne.symm hne)]; exact hb2) (sub_both (Sub.fresh x hb2) b o)
theorem rd_lit {T : List Tk} {a : Nat} {o x y z : Int} : (AObj.cells 126 [.sl 3 (T.map tkC), .int .i64 a, .int .i64 o, .int .i64 x, .int .i64 y, .int .i64 z] 6) = rdO T ⟨a, o, x, y, z⟩ := rfl
abbrev c41 : AObj := .cells 41 [.int .i64 0, .str ⟨#[]⟩, .str ⟨#[]⟩, .nils] 4
def InnerW (T : List Tk) (n b : Nat) (ex : Rd → Ex × Rd) : Prop := ∀ m, n = m + 1 → ∀ r, Pre T m r → AFunR nr_ref11_Reader_expr b [] T r (.agg (exC (ex r).1)) (ex r).2
theorem c_atom {T : List Tk} (hT : OkTk T) {n b : Nat} {ex : Rd → Ex × Rd} (hex : Inner T n ex) (hexW : InnerW T n b ex) {r : Rd} (hp : Pre T n r) : AFunR nr_ref11_Reader_atom b [] T r (.agg (exC (atomP T ex r).1)) (atomP T ex r).2 := by
  intro S h
  have hl := hT.len
  have hr' : r.at' < T.length := hp.inr
  have h0 := hp.op0
  have h13 := hp.op13
  refine w_ref11_Reader_atom ?_
  unfold B_ref11_Reader_atom
  intro b2 hb2
  have hne : b2 ≠ b := sget_ne hb2 h
  have hS0 : sget (supd S b2 c41) b = some (rdO T r) := by rw [sget_supd, if_neg hne]; exact h
  refine (c_next hT hp.inr).ca hS0 ?_
  rw [supd_self hS0]
  (try simp only [rws, hwR, Nat.reduceAdd, Nat.reduceLeDiff, Nat.reduceLT, Nat.reduceSub, Nat.reduceMul, Nat.reduceEqDiff, Nat.reduceBEq, Int.reduceAdd, Int.reduceToNat, beq_self_eq_true, tkC])
  refine (c_is hT hp.inr sLP).ca hS0 ?_
  have fin : ∀ (k : Int) (s o : ByteArray) (v : AV) (e : Ex) (r' : Rd), e = .mk k s o e.kids → atomP T ex r = (e, r') → (v = .nils ∧ e.kids = [] ∨ v = .sl 4 (e.kids.map exC)) →
      rtW [.cell (.ptr b2 0) 4 true] (fun ae S' => ae = .ret (.agg (exC (atomP T ex r).1)) ∧ S' = supd S b (rdO T (atomP T ex r).2)) (supd (supd (supd S b2 c41) b (rdO T r')) b2 (.cells 41 [.int .i64 k, .str s, .str o, v] 4)) := by
    intro k s o v e r' he0 he hv
    rw [he]
    refine rtW_fr (supd S b (rdO T r')) (.agg (exC e)) (sub_cell hb2 hne) ?_ ⟨rfl, rfl⟩
    rw [he0, exC_eq]
    (try simp only [rws, hwR, Nat.reduceAdd, Nat.reduceLeDiff, Nat.reduceLT, Nat.reduceSub, Nat.reduceMul, Nat.reduceEqDiff, Nat.reduceBEq, Int.reduceAdd, Int.reduceToNat, beq_self_eq_true])
    refine .ag (.cons (.same _) (.cons (.same _) (.cons (.same _) (.cons ?_ .nil))))
    rcases hv with ⟨rfl, h2⟩ | rfl
    · rw [Ex.kids, h2]; exact .nils 4
    · exact .same _
  have hob : ∀ o, objAt (supd (supd S b2 c41) b o) b2 = some (41, [.int .i64 0, .str ⟨#[]⟩, .str ⟨#[]⟩, .nils], 4) := fun o => by rw [objAt_ne (Ne.symm hne)]; exact objAt_eq
  cases hi : isP T sLP r with
  | true =>
    have hs := is_step hT hp hi (by decide +kernel) (by decide +kernel)
    have hir : isR T sLP r = { r with at' := r.at' + 1 } := by rw [isR, if_pos hi]
    (try simp only [rws, hwR, Nat.reduceAdd, Nat.reduceLeDiff, Nat.reduceLT, Nat.reduceSub, Nat.reduceMul, Nat.reduceEqDiff, Nat.reduceBEq, Int.reduceAdd, Int.reduceToNat, beq_self_eq_true, cellsAt_of (rd_at rd_new), rd_at rd_new, hir])
    rw [hwrap64 (by omega) (by omega)]
    simp only [rd_lit]
    (refine cnW_intro (fun h12 => ?_) (fun h12 => ?_) <;> (try simp only [hlc] at h12))
    · refine (c_fail (nxP T r) 9).ca rd_new ?_
      (try simp only [rws, hwR, Nat.reduceAdd, Nat.reduceLeDiff, Nat.reduceLT, Nat.reduceSub, Nat.reduceMul, Nat.reduceEqDiff, Nat.reduceBEq, Int.reduceAdd, Int.reduceToNat, beq_self_eq_true, hob])
      refine fin 0 _ _ _ zeroE _ rfl ?_ (.inl ⟨rfl, rfl⟩)
      rw [atomP, if_pos hi, if_pos h12, hir]
    · obtain ⟨m, hm, hp2⟩ := lp_pre hT hp hi h12
      have he := hex m hm _ hp2
      rw [hir] at hp2 he
      refine (hexW m hm _ hp2).ca rd_new ?_
      have hat : atomP T ex r = ((ex { r with at' := r.at' + 1, op := r.op + 1 }).1, { mustR T sRP (ex { r with at' := r.at' + 1, op := r.op + 1 }).2 with op := (mustR T sRP (ex { r with at' := r.at' + 1, op := r.op + 1 }).2).op - 1 }) := by
        rw [atomP, if_pos hi, if_neg h12, hir]
      generalize ex { r with at' := r.at' + 1, op := r.op + 1 } = q at he hat
      obtain ⟨e, r3⟩ := q
      have hp3 := he.st.pre hp2
      have hm2 := must_step hT hp3 (s := sRP) (by decide +kernel) (by decide +kernel)
      have hp4 := hm2.pre hp3
      have o1 := hp4.op0
      have o2 := hp4.op13
      dsimp only at o1 o2
      (try simp only [rws, hwR, Nat.reduceAdd, Nat.reduceLeDiff, Nat.reduceLT, Nat.reduceSub, Nat.reduceMul, Nat.reduceEqDiff, Nat.reduceBEq, Int.reduceAdd, Int.reduceToNat, beq_self_eq_true, exC_eq])
      refine (c_must hT hp3.inr sRP).ca rd_new ?_
      (try simp only [rws, hwR, Nat.reduceAdd, Nat.reduceLeDiff, Nat.reduceLT, Nat.reduceSub, Nat.reduceMul, Nat.reduceEqDiff, Nat.reduceBEq, Int.reduceAdd, Int.reduceToNat, beq_self_eq_true, cellsAt_of (rd_at rd_new), rd_at rd_new])
      rw [hwrap64 (by omega) (by omega)]
      simp only [rd_lit]
      (try simp only [rws, hwR, Nat.reduceAdd, Nat.reduceLeDiff, Nat.reduceLT, Nat.reduceSub, Nat.reduceMul, Nat.reduceEqDiff, Nat.reduceBEq, Int.reduceAdd, Int.reduceToNat, beq_self_eq_true, hob, if_neg (Ne.symm hne)])
      have hf := fin e.kind e.name e.over _ e _ (by cases e; rfl) hat (.inr rfl)
      simp only [exC_eq] at hf
      exact hf
  | false =>
    rw [isR_no hi]
    have hn := name_step hT hp
    have hpn := hn.pre hp
    (try simp only [rws, hwR, Nat.reduceAdd, Nat.reduceLeDiff, Nat.reduceLT, Nat.reduceSub, Nat.reduceMul, Nat.reduceEqDiff, Nat.reduceBEq, Int.reduceAdd, Int.reduceToNat, beq_self_eq_true])
    refine (c_name hT hp.inr).ca rd_new ?_
    (try simp only [rws, hwR, Nat.reduceAdd, Nat.reduceLeDiff, Nat.reduceLT, Nat.reduceSub, Nat.reduceMul, Nat.reduceEqDiff, Nat.reduceBEq, Int.reduceAdd, Int.reduceToNat, beq_self_eq_true])
    refine (c_is hT hpn.inr sDot).ca rd_new ?_
    cases hd : isP T sDot (nameR T r) with
    | true =>
      have h1 := is_step hT hpn hd (by decide +kernel) (by decide +kernel)
      have hp1 := h1.pre hpn
      (try simp only [rws, hwR, Nat.reduceAdd, Nat.reduceLeDiff, Nat.reduceLT, Nat.reduceSub, Nat.reduceMul, Nat.reduceEqDiff, Nat.reduceBEq, Int.reduceAdd, Int.reduceToNat, beq_self_eq_true])
      refine (c_name hT hp1.inr).ca rd_new ?_
      (try simp only [rws, hwR, Nat.reduceAdd, Nat.reduceLeDiff, Nat.reduceLT, Nat.reduceSub, Nat.reduceMul, Nat.reduceEqDiff, Nat.reduceBEq, Int.reduceAdd, Int.reduceToNat, beq_self_eq_true, hob])
      refine fin _ _ _ _ (.mk 1 (nameP T r) (nameP T (isR T sDot (nameR T r))) []) _ rfl ?_ (.inl ⟨rfl, rfl⟩)
      rw [atomP, if_neg (by rw [hi]; simp), if_pos hd]
    | false =>
      rw [isR_no hd]
      (try simp only [rws, hwR, Nat.reduceAdd, Nat.reduceLeDiff, Nat.reduceLT, Nat.reduceSub, Nat.reduceMul, Nat.reduceEqDiff, Nat.reduceBEq, Int.reduceAdd, Int.reduceToNat, beq_self_eq_true, hob])
      refine fin _ _ _ _ (.mk 0 (nameP T r) ⟨#[]⟩ []) _ rfl ?_ (.inl ⟨rfl, rfl⟩)
      rw [atomP, if_neg (by rw [hi]; simp), if_neg (by rw [hd]; simp)]
theorem opL_stop {T : List Tk} {tk : ByteArray → Option Int} {sub : Rd → Ex × Rd} {f : Nat} {p : Ex × Rd} (h : ¬ (p.2.de = 0 ∧ (tk (nxP T p.2).s).isSome = true)) : opL T tk sub f p = p := by
  cases f with
  | zero => rfl
  | succ f =>
    obtain ⟨e, r⟩ := p
    unfold opL
    split
    · rename_i h0
      split
      · rename_i k hk
        exact absurd ⟨h0, by rw [hk]; rfl⟩ h
      · rfl
    · rfl
theorem opL_more {T : List Tk} (hT : OkTk T) {n : Nat} {tk : ByteArray → Option Int} (htk : Signs tk) {sub : Rd → Ex × Rd} (hsub : ∀ r, Pre T n r → ExSt T r (sub r)) : ∀ {f g : Nat} {p : Ex × Rd}, Pre T n p.2 → T.length ≤ f + p.2.at' → T.length ≤ g + p.2.at' → opL T tk sub f p = opL T tk sub g p
  | 0, g, p, hp, h1, h2 => by have h3 : p.2.at' < T.length := hp.inr; omega
  | f + 1, 0, p, hp, h1, h2 => by have h3 : p.2.at' < T.length := hp.inr; omega
  | f + 1, g + 1, (e, r), hp, h1, h2 => by
    dsimp only at h1 h2
    unfold opL
    split
    · rename_i h0
      split
      · rename_i k hk
        have ha := adv hT hp (fun h1 => by rw [h1, htk.1] at hk; cases hk) (fun h1 => by rw [h1, htk.2] at hk; cases hk)
        have hs := hsub _ (ha.pre hp)
        have h5 := two_step k (nxP T r) e (sub { r with at' := r.at' + 1 }).1 hs.st
        have h6 := h5.mono
        dsimp only at h6 hp
        exact opL_more hT htk hsub (h5.pre (ha.pre hp)) (by dsimp only; omega) (by dsimp only; omega)
      · rfl
    · rfl
structure TrI (S : Store) (b b2 b3 : Nat) (T : List Tk) (p : Ex × Rd) (S' : Store) : Prop where
  rd : sget S' b = some (rdO T p.2)
  c3 : sget S' b3 = some (.cells 41 (exC p.1) 4)
  c2 : sget S' b2 = some c41
  oth : ∀ x, b ≠ x → b3 ≠ x → b2 ≠ x → sget S' x = sget S x
theorem TrI.step {S S' : Store} {b b2 b3 : Nat} {T : List Tk} {p : Ex × Rd} (h : TrI S b b2 b3 T p S') (n1 : b2 ≠ b) (n2 : b3 ≠ b) (n3 : b3 ≠ b2) (e : Ex) (r' : Rd) : TrI S b b2 b3 T (e, r') (supd (supd S' b (rdO T r')) b3 (.cells 41 (exC e) 4)) :=
  ⟨by rw [sget_supd, if_neg n2, sget_supd, if_pos rfl], by rw [sget_supd, if_pos rfl], by rw [sget_supd, if_neg n3, sget_supd, if_neg (Ne.symm n1)]; exact h.c2, fun x h1 h2 h3 => by rw [sget_supd, if_neg h2, sget_supd, if_neg h1]; exact h.oth x h1 h2 h3⟩
theorem TrI.sub {S S' : Store} {b b2 b3 : Nat} {T : List Tk} {p : Ex × Rd} (h : TrI S b b2 b3 T p S') (n1 : b2 ≠ b) (n2 : b3 ≠ b) (n3 : b3 ≠ b2) (k2 : sget S b2 = none) (k3 : sget S b3 = none) (o : AObj) : Sub (supd S b (rdO T p.2)) (sdel (supd S' b2 o) b2) := by
  intro x y hx
  have h2 : b2 ≠ x := by
    rintro rfl
    rw [sget_supd, if_neg (Ne.symm n1), k2] at hx; cases hx
  have h3 : b3 ≠ x := by
    rintro rfl
    rw [sget_supd, if_neg (Ne.symm n2), k3] at hx; cases hx
  rw [sget_sdel, if_neg h2, sget_supd, if_neg h2]
  rw [sget_supd] at hx
  by_cases hb : b = x
  · subst hb; rw [if_pos rfl] at hx; rw [h.rd]; exact hx
  · rw [if_neg hb] at hx; rw [h.oth x hb h3 h2]; exact hx
theorem c_term {T : List Tk} (hT : OkTk T) {n b : Nat} {ex : Rd → Ex × Rd} (hex : Inner T n ex) (hexW : InnerW T n b ex) {r : Rd} (hp : Pre T n r) : AFunR nr_ref11_Reader_term b [] T r (.agg (exC (termP T ex r).1)) (termP T ex r).2 := by
  intro S h
  have hl := hT.len
  refine w_ref11_Reader_term ?_
  unfold B_ref11_Reader_term
  intro b2 hb2
  have n1 : b2 ≠ b := sget_ne hb2 h
  have hS0 : sget (supd S b2 c41) b = some (rdO T r) := by rw [sget_supd, if_neg n1]; exact h
  (try simp only [rws, hwR, Nat.reduceAdd, Nat.reduceLeDiff, Nat.reduceLT, Nat.reduceSub, Nat.reduceMul, Nat.reduceEqDiff, Nat.reduceBEq, Int.reduceAdd, Int.reduceToNat, beq_self_eq_true])
  refine (c_atom hT hex hexW hp).ca hS0 ?_
  intro b3 hb3
  have n2 : b3 ≠ b := sget_ne hb3 rd_new
  have n3 : b3 ≠ b2 := sget_ne hb3 (x := c41) (by rw [sget_supd, if_neg (Ne.symm n1), sget_supd, if_pos rfl])
  have k3 : sget S b3 = none := by rw [sget_supd, if_neg (Ne.symm n2), sget_supd, if_neg (Ne.symm n3)] at hb3; exact hb3
  have hI0 : TrI S b b2 b3 T (atomP T ex r) (supd (supd (supd S b2 c41) b (rdO T (atomP T ex r).2)) b3 (.cells 41 (exC (atomP T ex r).1) 4)) :=
    ⟨by rw [sget_supd, if_neg n2, sget_supd, if_pos rfl], by rw [sget_supd, if_pos rfl], by rw [sget_supd, if_neg n3, sget_supd, if_neg (Ne.symm n1), sget_supd, if_pos rfl], fun x h1 h2 h3 => by rw [sget_supd, if_neg h2, sget_supd, if_neg h1, sget_supd, if_neg h3]⟩
  have hat := atom_ok hT hex hp
  have hfin : opL T termK (atomP T ex) T.length (atomP T ex r) = termP T ex r := rfl
  simp only [exC_eq] at hI0
  (try simp only [rws, hwR, Nat.reduceAdd, Nat.reduceLeDiff, Nat.reduceLT, Nat.reduceSub, Nat.reduceMul, Nat.reduceEqDiff, Nat.reduceBEq, Int.reduceAdd, Int.reduceToNat, beq_self_eq_true, exC_eq, ones_cons])
  rw [← exC_eq]
  simp only [← exC_eq] at hI0
  generalize atomP T ex r = p0 at hI0 hat hfin
  refine LoopP.introS (fun _ : Ex × Rd => [(0, .ptr b 0), (2, .ptr b2 0), (3, .ptr b3 0)])
    (fun p S' => TrI S b b2 b3 T p S' ∧ ExSt T r p ∧ opL T termK (atomP T ex) T.length p = termP T ex r) (fun p => T.length - p.2.at') p0 ⟨by simpa only [exC_eq] using hI0, hat, hfin⟩ rfl ?_
  clear hI0 hat hfin
  rintro ⟨e, r1⟩ S1 ⟨hI, hE, hf⟩ q hq
  have hp1 := hE.st.pre hp
  have hin : r1.at' < T.length := hp1.inr
  have ho := rd_at hI.rd
  (try simp only [rws, hwR, Nat.reduceAdd, Nat.reduceLeDiff, Nat.reduceLT, Nat.reduceSub, Nat.reduceMul, Nat.reduceEqDiff, Nat.reduceBEq, Int.reduceAdd, Int.reduceToNat, beq_self_eq_true, C_ref11_Reader_term_1, cellsAt_of ho])
  have stop : ¬ (r1.de = 0 ∧ (termK (nxP T r1).s).isSome = true) → C_ref11_Reader_term_2 (fun ae S' => ae = .ret (.agg (exC (termP T ex r).1)) ∧ S' = supd S b (rdO T (termP T ex r).2)) q (.ptr b 0) (.ptr b2 0) (.ptr b3 0) (.bool false) S1 := fun hn => by
    rw [opL_stop hn] at hf
    rw [← hf]
    unfold C_ref11_Reader_term_2
    have hsub := hI.sub n1 n2 n3 hb2 k3
    have hc3 := objAt_some.2 hI.c3
    have hc2 := objAt_some.2 hI.c2
    simp only [exC_eq] at hc3
    (try simp only [rws, hwR, Nat.reduceAdd, Nat.reduceLeDiff, Nat.reduceLT, Nat.reduceSub, Nat.reduceMul, Nat.reduceEqDiff, Nat.reduceBEq, Int.reduceAdd, Int.reduceToNat, beq_self_eq_true, cellsAt_of hc3, hc2, exC_eq, ones_cons])
    refine rtW_go _ (hsub _) ?_
    (try simp only [rws, hwR, Nat.reduceAdd, Nat.reduceLeDiff, Nat.reduceLT, Nat.reduceSub, Nat.reduceMul, Nat.reduceEqDiff, Nat.reduceBEq, Int.reduceAdd, Int.reduceToNat, beq_self_eq_true, exC_eq])
  cases a1 : decide (r1.de = 0) with
  | false =>
    (try simp only [rws, hwR, Nat.reduceAdd, Nat.reduceLeDiff, Nat.reduceLT, Nat.reduceSub, Nat.reduceMul, Nat.reduceEqDiff, Nat.reduceBEq, Int.reduceAdd, Int.reduceToNat, beq_self_eq_true])
    exact stop fun h => by rw [decide_eq_true h.1] at a1; cases a1
  | true =>
    have hde : r1.de = 0 := of_decide_eq_true a1
    (try simp only [rws, hwR, Nat.reduceAdd, Nat.reduceLeDiff, Nat.reduceLT, Nat.reduceSub, Nat.reduceMul, Nat.reduceEqDiff, Nat.reduceBEq, Int.reduceAdd, Int.reduceToNat, beq_self_eq_true])
    refine (c_next hT hp1.inr).ca hI.rd ?_
    rw [supd_self hI.rd]
    (try simp only [rws, hwR, Nat.reduceAdd, Nat.reduceLeDiff, Nat.reduceLT, Nat.reduceSub, Nat.reduceMul, Nat.reduceEqDiff, Nat.reduceBEq, Int.reduceAdd, Int.reduceToNat, beq_self_eq_true, tkC])
    cases a2 : decide ((nxP T r1).s = ⟨#[38]⟩) with
    | false =>
      (try simp only [rws, hwR, Nat.reduceAdd, Nat.reduceLeDiff, Nat.reduceLT, Nat.reduceSub, Nat.reduceMul, Nat.reduceEqDiff, Nat.reduceBEq, Int.reduceAdd, Int.reduceToNat, beq_self_eq_true])
      exact stop fun h => by
        have := of_decide_eq_false a2
        rw [termK, if_neg this] at h
        cases h.2
    | true =>
      have hk : termK (nxP T r1).s = some 3 := by rw [termK, if_pos (of_decide_eq_true a2)]
      have ha := adv hT hp1 (fun h1 => by rw [h1] at hk; revert hk; decide +kernel) (fun h1 => by rw [h1] at hk; revert hk; decide +kernel)
      have hpa := ha.pre hp1
      have hs := atom_ok hT hex hpa
      have hps := hs.st.pre hpa
      have hfu : opL T termK (atomP T ex) T.length (twoE 3 e (atomP T ex { r1 with at' := r1.at' + 1 }).1, twoR 3 (nxP T r1) e (atomP T ex { r1 with at' := r1.at' + 1 }).1 (atomP T ex { r1 with at' := r1.at' + 1 }).2) = termP T ex r := by
        rw [← hf]
        obtain ⟨m, hm⟩ : ∃ m, T.length = m + 1 := ⟨T.length - 1, by omega⟩
        have h5 := two_step 3 (nxP T r1) e (atomP T ex { r1 with at' := r1.at' + 1 }).1 hs.st
        have h6 := h5.mono
        dsimp only at h6
        conv => rhs; rw [hm, opL, if_pos hde]
        simp only [hk]
        exact opL_more hT signs_term (fun _ h => atom_ok hT hex h) (h5.pre hpa) (by dsimp only; omega) (by dsimp only; omega)
      have hE2 : ExSt T r (twoE 3 e (atomP T ex { r1 with at' := r1.at' + 1 }).1, twoR 3 (nxP T r1) e (atomP T ex { r1 with at' := r1.at' + 1 }).1 (atomP T ex { r1 with at' := r1.at' + 1 }).2) := by
        refine ⟨two_step _ _ _ _ ?_, twoE_ok hE.ok hs.ok⟩
        have hst := hE.st
        have hss := hs.st
        dsimp only at hst ha hss ⊢
        rw [twoE_sz]
        exact ((hst.trans ha).trans hss).le (by omega)
      have hmu : r1.at' + 1 ≤ (twoR 3 (nxP T r1) e (atomP T ex { r1 with at' := r1.at' + 1 }).1 (atomP T ex { r1 with at' := r1.at' + 1 }).2).at' := (two_step 3 (nxP T r1) e _ hs.st).mono
      (try simp only [rws, hwR, Nat.reduceAdd, Nat.reduceLeDiff, Nat.reduceLT, Nat.reduceSub, Nat.reduceMul, Nat.reduceEqDiff, Nat.reduceBEq, Int.reduceAdd, Int.reduceToNat, beq_self_eq_true, C_ref11_Reader_term_2])
      refine (c_next hT hp1.inr).ca hI.rd ?_
      rw [supd_self hI.rd]
      (try simp only [rws, hwR, Nat.reduceAdd, Nat.reduceLeDiff, Nat.reduceLT, Nat.reduceSub, Nat.reduceMul, Nat.reduceEqDiff, Nat.reduceBEq, Int.reduceAdd, Int.reduceToNat, beq_self_eq_true, tkC, cellsAt_of ho, ho])
      (simp (disch := omega) only [hwrap64])
      rw [show ((r1.at' : Int) + 1) = ((r1.at' + 1 : Nat) : Int) from rfl]
      simp only [rd_lit]
      refine (c_atom hT hex hexW hpa).ca rd_new ?_
      generalize atomP T ex { r1 with at' := r1.at' + 1 } = p2 at hs hps hfu hE2 hmu
      obtain ⟨c, r2⟩ := p2
      have hbd : r2.de = 0 → esz e + esz c + 1 ≤ 1125899906842624 := fun h0 => by
        have h7 := hs.st.sz h0
        have h8 := hE.st.sz (ha.fault (hs.st.fault h0))
        have h9 : r2.at' < T.length := hps.inr
        dsimp only at h7 h8
        omega
      have htwo := c_two (T := T) (r := r2) (b := b) 3 (nxP T r1) hE.ok hs.ok hbd
      dsimp only at htwo hfu hE2 hmu
      have c3 : ∀ r', objAt (supd S1 b (rdO T r')) b3 = some (41, exC e, 4) := fun r' => by rw [objAt_ne (Ne.symm n2)]; exact objAt_some.2 hI.c3
      have st := hI.step n1 n2 n3 (twoE 3 e c) (twoR 3 (nxP T r1) e c r2)
      simp only [exC_eq] at c3 st
      (try simp only [rws, hwR, Nat.reduceAdd, Nat.reduceLeDiff, Nat.reduceLT, Nat.reduceSub, Nat.reduceMul, Nat.reduceEqDiff, Nat.reduceBEq, Int.reduceAdd, Int.reduceToNat, beq_self_eq_true, exC_eq, cellsAt_of (c3 r2)])
      simp only [← exC_eq]
      refine htwo.ca rd_new ?_
      generalize twoE 3 e c = e3 at hfu hE2 st ⊢
      generalize twoR 3 (nxP T r1) e c r2 = r3 at hfu hE2 st c3 hmu ⊢
      (try simp only [rws, hwR, Nat.reduceAdd, Nat.reduceLeDiff, Nat.reduceLT, Nat.reduceSub, Nat.reduceMul, Nat.reduceEqDiff, Nat.reduceBEq, Int.reduceAdd, Int.reduceToNat, beq_self_eq_true, exC_eq, c3 r3, ones_cons])
      exact rcW_as rfl (hq (e3, r3) _ ⟨by simpa only [exC_eq] using st, hE2, hfu⟩ (by dsimp only; omega))
end Go.HL
set_option linter.unusedVariables false
set_option linter.unusedSimpArgs false
set_option maxRecDepth 4000
namespace Go.HL
theorem c_exprOf {T : List Tk} (hT : OkTk T) {n b : Nat} {ex : Rd → Ex × Rd} (hex : Inner T n ex) (hexW : InnerW T n b ex) {r : Rd} (hp : Pre T n r) : AFunR nr_ref11_Reader_expr b [] T r (.agg (exC (exprOf T ex r).1)) (exprOf T ex r).2 := by
  intro S h
  have hl := hT.len
  refine w_ref11_Reader_expr ?_
  unfold B_ref11_Reader_expr
  intro b2 hb2
  have n1 : b2 ≠ b := sget_ne hb2 h
  have hS0 : sget (supd S b2 c41) b = some (rdO T r) := by rw [sget_supd, if_neg n1]; exact h
  (try simp only [rws, hwR, Nat.reduceAdd, Nat.reduceLeDiff, Nat.reduceLT, Nat.reduceSub, Nat.reduceMul, Nat.reduceEqDiff, Nat.reduceBEq, Int.reduceAdd, Int.reduceToNat, beq_self_eq_true])
  refine (c_term hT hex hexW hp).ca hS0 ?_
  intro b3 hb3
  have n2 : b3 ≠ b := sget_ne hb3 rd_new
  have n3 : b3 ≠ b2 := sget_ne hb3 (x := c41) (by rw [sget_supd, if_neg (Ne.symm n1), sget_supd, if_pos rfl])
  have k3 : sget S b3 = none := by rw [sget_supd, if_neg (Ne.symm n2), sget_supd, if_neg (Ne.symm n3)] at hb3; exact hb3
  have hI0 : TrI S b b2 b3 T (termP T ex r) (supd (supd (supd S b2 c41) b (rdO T (termP T ex r).2)) b3 (.cells 41 (exC (termP T ex r).1) 4)) :=
    ⟨by rw [sget_supd, if_neg n2, sget_supd, if_pos rfl], by rw [sget_supd, if_pos rfl], by rw [sget_supd, if_neg n3, sget_supd, if_neg (Ne.symm n1), sget_supd, if_pos rfl], fun x h1 h2 h3 => by rw [sget_supd, if_neg h2, sget_supd, if_neg h1, sget_supd, if_neg h3]⟩
  have hat := term_ok hT hex hp
  have hfin : opL T exprK (termP T ex) T.length (termP T ex r) = exprOf T ex r := rfl
  simp only [exC_eq] at hI0
  (try simp only [rws, hwR, Nat.reduceAdd, Nat.reduceLeDiff, Nat.reduceLT, Nat.reduceSub, Nat.reduceMul, Nat.reduceEqDiff, Nat.reduceBEq, Int.reduceAdd, Int.reduceToNat, beq_self_eq_true, exC_eq, ones_cons])
  rw [← exC_eq]
  simp only [← exC_eq] at hI0
  generalize termP T ex r = p0 at hI0 hat hfin
  refine LoopP.introS (fun _ : Ex × Rd => [(0, .ptr b 0), (2, .ptr b2 0), (3, .ptr b3 0)])
    (fun p S' => TrI S b b2 b3 T p S' ∧ ExSt T r p ∧ opL T exprK (termP T ex) T.length p = exprOf T ex r) (fun p => T.length - p.2.at') p0 ⟨by simpa only [exC_eq] using hI0, hat, hfin⟩ rfl ?_
  clear hI0 hat hfin
  rintro ⟨e, r1⟩ S1 ⟨hI, hE, hf⟩ q hq
  have hp1 := hE.st.pre hp
  have hin : r1.at' < T.length := hp1.inr
  have ho := rd_at hI.rd
  (try simp only [rws, hwR, Nat.reduceAdd, Nat.reduceLeDiff, Nat.reduceLT, Nat.reduceSub, Nat.reduceMul, Nat.reduceEqDiff, Nat.reduceBEq, Int.reduceAdd, Int.reduceToNat, beq_self_eq_true, C_ref11_Reader_expr_1, cellsAt_of ho])
  have stop : ¬ (r1.de = 0 ∧ (exprK (nxP T r1).s).isSome = true) → C_ref11_Reader_expr_4 (fun ae S' => ae = .ret (.agg (exC (exprOf T ex r).1)) ∧ S' = supd S b (rdO T (exprOf T ex r).2)) q (.ptr b 0) (.ptr b2 0) (.ptr b3 0) (.bool false) S1 := fun hn => by
    rw [opL_stop hn] at hf
    rw [← hf]
    unfold C_ref11_Reader_expr_4
    have hsub := hI.sub n1 n2 n3 hb2 k3
    have hc3 := objAt_some.2 hI.c3
    have hc2 := objAt_some.2 hI.c2
    simp only [exC_eq] at hc3
    (try simp only [rws, hwR, Nat.reduceAdd, Nat.reduceLeDiff, Nat.reduceLT, Nat.reduceSub, Nat.reduceMul, Nat.reduceEqDiff, Nat.reduceBEq, Int.reduceAdd, Int.reduceToNat, beq_self_eq_true, cellsAt_of hc3, hc2, exC_eq, ones_cons])
    refine rtW_go _ (hsub _) ?_
    (try simp only [rws, hwR, Nat.reduceAdd, Nat.reduceLeDiff, Nat.reduceLT, Nat.reduceSub, Nat.reduceMul, Nat.reduceEqDiff, Nat.reduceBEq, Int.reduceAdd, Int.reduceToNat, beq_self_eq_true, exC_eq])
  cases a1 : decide (r1.de = 0) with
  | false =>
    (try simp only [rws, hwR, Nat.reduceAdd, Nat.reduceLeDiff, Nat.reduceLT, Nat.reduceSub, Nat.reduceMul, Nat.reduceEqDiff, Nat.reduceBEq, Int.reduceAdd, Int.reduceToNat, beq_self_eq_true, C_ref11_Reader_expr_2, C_ref11_Reader_expr_3])
    exact stop fun h => by rw [decide_eq_true h.1] at a1; cases a1
  | true =>
    have hde : r1.de = 0 := of_decide_eq_true a1
    (try simp only [rws, hwR, Nat.reduceAdd, Nat.reduceLeDiff, Nat.reduceLT, Nat.reduceSub, Nat.reduceMul, Nat.reduceEqDiff, Nat.reduceBEq, Int.reduceAdd, Int.reduceToNat, beq_self_eq_true])
    refine (c_next hT hp1.inr).ca hI.rd ?_
    rw [supd_self hI.rd]
    (try simp only [rws, hwR, Nat.reduceAdd, Nat.reduceLeDiff, Nat.reduceLT, Nat.reduceSub, Nat.reduceMul, Nat.reduceEqDiff, Nat.reduceBEq, Int.reduceAdd, Int.reduceToNat, beq_self_eq_true, tkC])
    have low : ∀ k : Int, exprK (nxP T r1).s = some k → C_ref11_Reader_expr_5 (fun ae S' => ae = .ret (.agg (exC (exprOf T ex r).1)) ∧ S' = supd S b (rdO T (exprOf T ex r).2)) q (.ptr b 0) (.ptr b2 0) (.ptr b3 0) (.rop (tkC (nxP T r1))) (.int .i64 k) S1 := by
      intro k hk
      have ha := adv hT hp1 (fun h1 => by rw [h1, signs_expr.1] at hk; cases hk) (fun h1 => by rw [h1, signs_expr.2] at hk; cases hk)
      have hpa := ha.pre hp1
      have hs := term_ok hT hex hpa
      have hps := hs.st.pre hpa
      have hfu : opL T exprK (termP T ex) T.length (twoE k e (termP T ex { r1 with at' := r1.at' + 1 }).1, twoR k (nxP T r1) e (termP T ex { r1 with at' := r1.at' + 1 }).1 (termP T ex { r1 with at' := r1.at' + 1 }).2) = exprOf T ex r := by
        rw [← hf]
        obtain ⟨m, hm⟩ : ∃ m, T.length = m + 1 := ⟨T.length - 1, by omega⟩
        have h5 := two_step k (nxP T r1) e (termP T ex { r1 with at' := r1.at' + 1 }).1 hs.st
        have h6 := h5.mono
        dsimp only at h6
        conv => rhs; rw [hm, opL, if_pos hde]
        simp only [hk]
        exact opL_more hT signs_expr (fun _ h => term_ok hT hex h) (h5.pre hpa) (by dsimp only; omega) (by dsimp only; omega)
      have hE2 : ExSt T r (twoE k e (termP T ex { r1 with at' := r1.at' + 1 }).1, twoR k (nxP T r1) e (termP T ex { r1 with at' := r1.at' + 1 }).1 (termP T ex { r1 with at' := r1.at' + 1 }).2) := by
        refine ⟨two_step _ _ _ _ ?_, twoE_ok hE.ok hs.ok⟩
        have hst := hE.st
        have hss := hs.st
        dsimp only at hst ha hss ⊢
        rw [twoE_sz]
        exact ((hst.trans ha).trans hss).le (by omega)
      have hmu : r1.at' + 1 ≤ (twoR k (nxP T r1) e (termP T ex { r1 with at' := r1.at' + 1 }).1 (termP T ex { r1 with at' := r1.at' + 1 }).2).at' := (two_step k (nxP T r1) e _ hs.st).mono
      unfold C_ref11_Reader_expr_5
      (try simp only [rws, hwR, Nat.reduceAdd, Nat.reduceLeDiff, Nat.reduceLT, Nat.reduceSub, Nat.reduceMul, Nat.reduceEqDiff, Nat.reduceBEq, Int.reduceAdd, Int.reduceToNat, beq_self_eq_true, tkC, cellsAt_of ho, ho])
      (simp (disch := omega) only [hwrap64])
      rw [show ((r1.at' : Int) + 1) = ((r1.at' + 1 : Nat) : Int) from rfl]
      simp only [rd_lit]
      refine (c_term hT hex hexW hpa).ca rd_new ?_
      generalize termP T ex { r1 with at' := r1.at' + 1 } = p2 at hs hps hfu hE2 hmu
      obtain ⟨c, r2⟩ := p2
      have hbd : r2.de = 0 → esz e + esz c + 1 ≤ 1125899906842624 := fun h0 => by
        have h7 := hs.st.sz h0
        have h8 := hE.st.sz (ha.fault (hs.st.fault h0))
        have h9 : r2.at' < T.length := hps.inr
        dsimp only at h7 h8
        omega
      have htwo := c_two (T := T) (r := r2) (b := b) k (nxP T r1) hE.ok hs.ok hbd
      dsimp only at htwo hfu hE2 hmu
      have c3 : ∀ r', objAt (supd S1 b (rdO T r')) b3 = some (41, exC e, 4) := fun r' => by rw [objAt_ne (Ne.symm n2)]; exact objAt_some.2 hI.c3
      have st := hI.step n1 n2 n3 (twoE k e c) (twoR k (nxP T r1) e c r2)
      simp only [exC_eq] at c3 st
      (try simp only [rws, hwR, Nat.reduceAdd, Nat.reduceLeDiff, Nat.reduceLT, Nat.reduceSub, Nat.reduceMul, Nat.reduceEqDiff, Nat.reduceBEq, Int.reduceAdd, Int.reduceToNat, beq_self_eq_true, exC_eq, cellsAt_of (c3 r2)])
      simp only [← exC_eq]
      refine htwo.ca rd_new ?_
      generalize twoE k e c = e3 at hfu hE2 st ⊢
      generalize twoR k (nxP T r1) e c r2 = r3 at hfu hE2 st c3 hmu ⊢
      (try simp only [rws, hwR, Nat.reduceAdd, Nat.reduceLeDiff, Nat.reduceLT, Nat.reduceSub, Nat.reduceMul, Nat.reduceEqDiff, Nat.reduceBEq, Int.reduceAdd, Int.reduceToNat, beq_self_eq_true, exC_eq, c3 r3, ones_cons])
      exact rcW_as rfl (hq (e3, r3) _ ⟨by simpa only [exC_eq] using st, hE2, hfu⟩ (by dsimp only; omega))
    simp only [tkC] at low
    cases a2 : decide ((nxP T r1).s = ⟨#[43]⟩) with
    | true =>
      have e2 := of_decide_eq_true a2
      have hk : exprK (nxP T r1).s = some 2 := by rw [exprK, if_pos e2]
      have e3 : decide ((nxP T r1).s = ⟨#[45]⟩) = false := by rw [e2]; decide +kernel
      (try simp only [rws, hwR, Nat.reduceAdd, Nat.reduceLeDiff, Nat.reduceLT, Nat.reduceSub, Nat.reduceMul, Nat.reduceEqDiff, Nat.reduceBEq, Int.reduceAdd, Int.reduceToNat, beq_self_eq_true, C_ref11_Reader_expr_2, C_ref11_Reader_expr_3, C_ref11_Reader_expr_4])
      refine (c_next hT hp1.inr).ca hI.rd ?_
      rw [supd_self hI.rd]
      (try simp only [rws, hwR, Nat.reduceAdd, Nat.reduceLeDiff, Nat.reduceLT, Nat.reduceSub, Nat.reduceMul, Nat.reduceEqDiff, Nat.reduceBEq, Int.reduceAdd, Int.reduceToNat, beq_self_eq_true, tkC, e3])
      exact low 2 hk
    | false =>
      (try simp only [rws, hwR, Nat.reduceAdd, Nat.reduceLeDiff, Nat.reduceLT, Nat.reduceSub, Nat.reduceMul, Nat.reduceEqDiff, Nat.reduceBEq, Int.reduceAdd, Int.reduceToNat, beq_self_eq_true, C_ref11_Reader_expr_2])
      refine (c_next hT hp1.inr).ca hI.rd ?_
      rw [supd_self hI.rd]
      (try simp only [rws, hwR, Nat.reduceAdd, Nat.reduceLeDiff, Nat.reduceLT, Nat.reduceSub, Nat.reduceMul, Nat.reduceEqDiff, Nat.reduceBEq, Int.reduceAdd, Int.reduceToNat, beq_self_eq_true, tkC])
      cases a3 : decide ((nxP T r1).s = ⟨#[45]⟩) with
      | true =>
        have hk : exprK (nxP T r1).s = some 4 := by rw [exprK, if_neg (of_decide_eq_false a2), if_pos (of_decide_eq_true a3)]
        (try simp only [rws, hwR, Nat.reduceAdd, Nat.reduceLeDiff, Nat.reduceLT, Nat.reduceSub, Nat.reduceMul, Nat.reduceEqDiff, Nat.reduceBEq, Int.reduceAdd, Int.reduceToNat, beq_self_eq_true, C_ref11_Reader_expr_3, C_ref11_Reader_expr_4])
        refine (c_next hT hp1.inr).ca hI.rd ?_
        rw [supd_self hI.rd]
        (try simp only [rws, hwR, Nat.reduceAdd, Nat.reduceLeDiff, Nat.reduceLT, Nat.reduceSub, Nat.reduceMul, Nat.reduceEqDiff, Nat.reduceBEq, Int.reduceAdd, Int.reduceToNat, beq_self_eq_true, tkC, a3])
        exact low 4 hk
      | false =>
        (try simp only [rws, hwR, Nat.reduceAdd, Nat.reduceLeDiff, Nat.reduceLT, Nat.reduceSub, Nat.reduceMul, Nat.reduceEqDiff, Nat.reduceBEq, Int.reduceAdd, Int.reduceToNat, beq_self_eq_true, C_ref11_Reader_expr_3])
        exact stop fun h => by
          have h1 := of_decide_eq_false a2
          have h2 := of_decide_eq_false a3
          rw [exprK, if_neg h1, if_neg h2] at h
          cases h.2
theorem c_expr {T : List Tk} (hT : OkTk T) {b : Nat} : ∀ {n : Nat} {r : Rd}, Pre T n r → AFunR nr_ref11_Reader_expr b [] T r (.agg (exC (exprP T n r).1)) (exprP T n r).2
  | 0, r, hp => c_exprOf hT (fun m h => by omega) (fun m h => by omega) hp
  | n + 1, r, hp => c_exprOf hT (fun m h r hr => by
      have : n = m := by omega
      subst this
      exact expr_ok hT hr) (fun m h r hr => by
      have : n = m := by omega
      subst this
      exact c_expr hT hr) hp
end Go.HL
set_option linter.unusedVariables false
set_option linter.unusedSimpArgs false
namespace Go.HL
def sHash : ByteArray := ⟨#[35]⟩
def sBar : ByteArray := ⟨#[124]⟩
def sColon : ByteArray := ⟨#[58]⟩
def refP (T : List Tk) (r : Rd) : Rf × Rd :=
  if isP T sHash (nameR T r) then (⟨nameP T r, nameP T (isR T sHash (nameR T r))⟩, nameR T (isR T sHash (nameR T r)))
  else (⟨nameP T r, ⟨#[]⟩⟩, nameR T r)
def refsL (T : List Tk) : Nat → List Rf × Rd → List Rf × Rd
  | 0, p => p
  | f + 1, (l, r) => if isP T sBar r then refsL T f (l ++ [(refP T (isR T sBar r)).1], (refP T (isR T sBar r)).2) else (l, r)
def relP (T : List Tk) (r : Rd) : (Rl × Bool) × Rd :=
  if isP T wRelation r then
    ((⟨nameP T (isR T wRelation r), (refsL T T.length ([(refP T (mustR T sColon (nameR T (isR T wRelation r)))).1], (refP T (mustR T sColon (nameR T (isR T wRelation r)))).2)).1, zeroE⟩, true),
      (refsL T T.length ([(refP T (mustR T sColon (nameR T (isR T wRelation r)))).1], (refP T (mustR T sColon (nameR T (isR T wRelation r)))).2)).2)
  else if isP T wDefine r then
    ((⟨nameP T (isR T wDefine r), [], (exprP T 12 (mustR T sColon (nameR T (isR T wDefine r)))).1⟩, true), (exprP T 12 (mustR T sColon (nameR T (isR T wDefine r)))).2)
  else ((⟨⟨#[]⟩, [], zeroE⟩, false), r)
def relsL (T : List Tk) : Nat → List Rl × Rd → List Rl × Rd
  | 0, p => p
  | f + 1, (l, r) => if (relP T r).1.2 = true then relsL T f (l ++ [(relP T r).1.1], (relP T r).2) else (l, (relP T r).2)
def typesL (T : List Tk) : Nat → List Ty × Rd → List Ty × Rd
  | 0, p => p
  | f + 1, (l, r) => if isP T wType r then
      typesL T f (l ++ [⟨nameP T (isR T wType r), (relsL T T.length ([], nameR T (isR T wType r))).1⟩], (relsL T T.length ([], nameR T (isR T wType r))).2)
    else (l, r)
def endR (T : List Tk) (r : Rd) : Rd := if r.de = 0 ∧ ¬ (nxP T r).s = ⟨#[]⟩ then failP (nxP T r) 8 r else r
def rd0 : Rd := ⟨0, 0, 0, 0, 0⟩
def parseT (T : List Tk) : List Ty × AV :=
  if (endR T (typesL T T.length ([], rd0)).2).de = 0 then ((typesL T T.length ([], rd0)).1, .agg [.int .i64 0, .int .i64 0, .int .i64 0])
  else ([], .agg [.int .i64 (endR T (typesL T T.length ([], rd0)).2).dl, .int .i64 (endR T (typesL T T.length ([], rd0)).2).dc, .int .i64 (endR T (typesL T T.length ([], rd0)).2).de])
theorem ref_step {T : List Tk} (hT : OkTk T) {r : Rd} {n : Nat} (hp : Pre T n r) : StepR T r (refP T r).2 1 ∧ OkF (refP T r).1 := by
  have hn := name_step hT hp
  have hpn := hn.pre hp
  unfold refP
  split
  · rename_i h
    have h1 := is_step hT hpn h (by decide +kernel) (by decide +kernel)
    have hp1 := h1.pre hpn
    have h2 := name_step hT hp1
    exact ⟨((hn.trans h1).trans h2).le (by omega), name_size hT hp.inr, name_size hT hp1.inr⟩
  · exact ⟨hn, name_size hT hp.inr, Nat.zero_le _⟩
structure RfSt (T : List Tk) (r : Rd) (p : List Rf × Rd) : Prop where
  st : StepR T r p.2 p.1.length
  len : p.1.length ≤ p.2.at' + 1
  ok : ∀ f ∈ p.1, OkF f
theorem refs_next {T : List Tk} (hT : OkTk T) {n : Nat} {r0 r : Rd} (hp0 : Pre T n r0) {l : List Rf} (h : RfSt T r0 (l, r)) (hi : isP T sBar r = true) :
    RfSt T r0 (l ++ [(refP T (isR T sBar r)).1], (refP T (isR T sBar r)).2) ∧ r.at' + 1 ≤ (refP T (isR T sBar r)).2.at' := by
  have hp := h.st.pre hp0
  have h1 := is_step hT hp hi (by decide +kernel) (by decide +kernel)
  obtain ⟨h2, h3⟩ := ref_step hT (h1.pre hp)
  have e1 : (isR T sBar r).at' = r.at' + 1 := by rw [isR, if_pos hi]
  have h4 := h2.mono
  have h5 := h.len
  dsimp only at h4 h5 e1 h2
  refine ⟨⟨?_, ?_, fun f hf => ?_⟩, by omega⟩
  · have h6 := (h.st.trans h1).trans h2
    exact h6.le (by simp)
  · simp only [List.length_append, List.length_cons, List.length_nil]
    omega
  · rcases List.mem_append.1 hf with hf | hf
    · exact h.ok f hf
    · rw [List.mem_singleton.1 hf]; exact h3
theorem refsL_ok {T : List Tk} (hT : OkTk T) {n : Nat} {r0 : Rd} (hp0 : Pre T n r0) : ∀ {f : Nat} {p : List Rf × Rd}, RfSt T r0 p → RfSt T r0 (refsL T f p)
  | 0, p, h => h
  | f + 1, (l, r), h => by
    unfold refsL
    split
    · rename_i hi
      exact refsL_ok hT hp0 (refs_next hT hp0 h hi).1
    · exact h
theorem refsL_more {T : List Tk} (hT : OkTk T) {n : Nat} {r0 : Rd} (hp0 : Pre T n r0) : ∀ {f g : Nat} {p : List Rf × Rd}, RfSt T r0 p → T.length ≤ f + p.2.at' → T.length ≤ g + p.2.at' → refsL T f p = refsL T g p
  | 0, g, p, h, h1, h2 => by have h3 : p.2.at' < T.length := h.st.inr; omega
  | f + 1, 0, p, h, h1, h2 => by have h3 : p.2.at' < T.length := h.st.inr; omega
  | f + 1, g + 1, (l, r), h, h1, h2 => by
    dsimp only at h1 h2
    unfold refsL
    split
    · rename_i hi
      obtain ⟨k1, k2⟩ := refs_next hT hp0 h hi
      exact refsL_more hT hp0 k1 (by dsimp only; omega) (by dsimp only; omega)
    · rfl
theorem rel_ok {T : List Tk} (hT : OkTk T) {r : Rd} (hp : Pre T 12 r) : StepR T r (relP T r).2 (if (relP T r).1.2 then rsz (relP T r).1.1 else 0) ∧ OkR (relP T r).1.1 ∧ ((relP T r).1.2 = true → r.at' + 1 ≤ (relP T r).2.at') := by
  unfold relP
  split
  · rename_i hi
    have h1 := is_step hT hp hi (by decide +kernel) (by decide +kernel)
    have hp1 := h1.pre hp
    have h2 := name_step hT hp1
    have hp2 := h2.pre hp1
    have h3 := must_step hT hp2 (s := sColon) (by decide +kernel) (by decide +kernel)
    have hp3 := h3.pre hp2
    obtain ⟨h4, h5⟩ := ref_step hT hp3
    have hR0 : RfSt T (mustR T sColon (nameR T (isR T wRelation r))) ([(refP T (mustR T sColon (nameR T (isR T wRelation r)))).1], (refP T (mustR T sColon (nameR T (isR T wRelation r)))).2) :=
      ⟨h4, by simp, fun f hf => by rw [List.mem_singleton.1 hf]; exact h5⟩
    have hR := refsL_ok hT hp3 (f := T.length) hR0
    generalize refsL T T.length ([(refP T (mustR T sColon (nameR T (isR T wRelation r)))).1], (refP T (mustR T sColon (nameR T (isR T wRelation r)))).2) = p at hR
    obtain ⟨l, r'⟩ := p
    have hl := hR.len
    have hin : r'.at' < T.length := hR.st.inr
    have hTl := hT.len
    have e1 : (isR T wRelation r).at' = r.at' + 1 := by rw [isR, if_pos hi]
    refine ⟨?_, ⟨name_size hT hp1.inr, ?_, hR.ok, okE_leaf (Nat.zero_le _) (Nat.zero_le _)⟩, fun _ => ?_⟩
    · have h6 := ((h1.trans h2).trans h3).trans hR.st
      refine h6.le ?_
      simp only [if_true, rsz, zeroE, esz_leaf]
      omega
    · dsimp only at hl ⊢; omega
    · have := h2.mono; have := h3.mono; have := hR.st.mono; dsimp only at *; omega
  · split
    · rename_i hi
      have h1 := is_step hT hp hi (by decide +kernel) (by decide +kernel)
      have hp1 := h1.pre hp
      have h2 := name_step hT hp1
      have hp2 := h2.pre hp1
      have h3 := must_step hT hp2 (s := sColon) (by decide +kernel) (by decide +kernel)
      have hp3 := h3.pre hp2
      have h4 := expr_ok hT hp3
      have e1 : (isR T wDefine r).at' = r.at' + 1 := by rw [isR, if_pos hi]
      refine ⟨?_, ⟨name_size hT hp1.inr, by simp, fun f hf => (by cases hf), h4.ok⟩, fun _ => ?_⟩
      · have h6 := ((h1.trans h2).trans h3).trans h4.st
        refine h6.le ?_
        simp only [if_true, rsz, List.length_nil]
        omega
      · have := h2.mono; have := h3.mono; have := h4.st.mono; dsimp only at *; omega
    · exact ⟨StepR.refl hp, ⟨Nat.zero_le _, by simp, fun f hf => (by cases hf), okE_leaf (Nat.zero_le _) (Nat.zero_le _)⟩, fun h => by cases h⟩
end Go.HL
set_option linter.unusedVariables false
set_option linter.unusedSimpArgs false
set_option maxRecDepth 4000
namespace Go.HL
abbrev c53 : AObj := .cells 53 [.str ⟨#[]⟩, .str ⟨#[]⟩] 2
abbrev c43 : AObj := .cells 43 [.str ⟨#[]⟩, .nils, .int .i64 0, .str ⟨#[]⟩, .str ⟨#[]⟩, .nils] 6
theorem c_ref {T : List Tk} (hT : OkTk T) {n b : Nat} {r : Rd} (hp : Pre T n r) : AFunR nr_ref11_Reader_ref b [] T r (.agg (rfC (refP T r).1)) (refP T r).2 := by
  intro S h
  refine w_ref11_Reader_ref ?_
  unfold B_ref11_Reader_ref
  intro b2 hb2
  have n1 : b2 ≠ b := sget_ne hb2 h
  have hS0 : sget (supd S b2 c53) b = some (rdO T r) := by rw [sget_supd, if_neg n1]; exact h
  have hn := name_step hT hp
  have hpn := hn.pre hp
  (try simp only [rws, hwR, Nat.reduceAdd, Nat.reduceLeDiff, Nat.reduceLT, Nat.reduceSub, Nat.reduceMul, Nat.reduceEqDiff, Nat.reduceBEq, Int.reduceAdd, Int.reduceToNat, beq_self_eq_true])
  refine (c_name hT hp.inr).ca hS0 ?_
  (try simp only [rws, hwR, Nat.reduceAdd, Nat.reduceLeDiff, Nat.reduceLT, Nat.reduceSub, Nat.reduceMul, Nat.reduceEqDiff, Nat.reduceBEq, Int.reduceAdd, Int.reduceToNat, beq_self_eq_true])
  intro b3 hb3
  have n2 : b3 ≠ b := sget_ne hb3 rd_new
  have n3 : b3 ≠ b2 := sget_ne hb3 (x := c53) (by rw [sget_supd, if_neg (Ne.symm n1), sget_supd, if_pos rfl])
  have k3 : sget S b3 = none := by rw [sget_supd, if_neg (Ne.symm n2), sget_supd, if_neg (Ne.symm n3)] at hb3; exact hb3
  (try simp only [rws, hwR, Nat.reduceAdd, Nat.reduceLeDiff, Nat.reduceLT, Nat.reduceSub, Nat.reduceMul, Nat.reduceEqDiff, Nat.reduceBEq, Int.reduceAdd, Int.reduceToNat, beq_self_eq_true])
  have hrd : ∀ o, sget (supd (supd (supd S b2 c53) b (rdO T (nameR T r))) b3 o) b = some (rdO T (nameR T r)) := fun o => by rw [sget_supd, if_neg n2, sget_supd, if_pos rfl]
  refine (c_is hT hpn.inr sHash).ca (hrd _) ?_
  have fin : ∀ (f : Rf) (r' : Rd) (S2 : Store), refP T r = (f, r') → objAt S2 b3 = some (53, rfC f, 2) → objAt S2 b2 = some (53, [.str ⟨#[]⟩, .str ⟨#[]⟩], 2) → (∀ x, b2 ≠ x → b3 ≠ x → sget S2 x = sget (supd S b (rdO T r')) x) →
      C_ref11_Reader_ref_1 (fun ae S' => ae = .ret (.agg (rfC (refP T r).1)) ∧ S' = supd S b (rdO T (refP T r).2)) (.ptr b2 0) (.ptr b3 0) S2 := by
    intro f r' S2 he h3 h2 hS2
    rw [he]
    unfold C_ref11_Reader_ref_1
    have hsub : ∀ o, Sub (supd S b (rdO T r')) (sdel (supd S2 b2 o) b2) := fun o x y hx => by
      have e2 : b2 ≠ x := by rintro rfl; rw [sget_supd, if_neg (Ne.symm n1), hb2] at hx; cases hx
      have e3 : b3 ≠ x := by rintro rfl; rw [sget_supd, if_neg (Ne.symm n2), k3] at hx; cases hx
      rw [sget_sdel, if_neg e2, sget_supd, if_neg e2, hS2 x e2 e3]
      exact hx
    simp only [rfC] at h3
    (try simp only [rws, hwR, Nat.reduceAdd, Nat.reduceLeDiff, Nat.reduceLT, Nat.reduceSub, Nat.reduceMul, Nat.reduceEqDiff, Nat.reduceBEq, Int.reduceAdd, Int.reduceToNat, beq_self_eq_true, cellsAt_of h3, h2])
    refine rtW_go _ (hsub _) ?_
    (try simp only [rws, hwR, Nat.reduceAdd, Nat.reduceLeDiff, Nat.reduceLT, Nat.reduceSub, Nat.reduceMul, Nat.reduceEqDiff, Nat.reduceBEq, Int.reduceAdd, Int.reduceToNat, beq_self_eq_true, rfC])
  cases hi : isP T sHash (nameR T r) with
  | true =>
    have h1 := is_step hT hpn hi (by decide +kernel) (by decide +kernel)
    have hp1 := h1.pre hpn
    (try simp only [rws, hwR, Nat.reduceAdd, Nat.reduceLeDiff, Nat.reduceLT, Nat.reduceSub, Nat.reduceMul, Nat.reduceEqDiff, Nat.reduceBEq, Int.reduceAdd, Int.reduceToNat, beq_self_eq_true])
    refine (c_name hT hp1.inr).ca rd_new ?_
    have ob3 : ∀ X cs o, objAt (supd (supd X b3 (.cells 53 cs 2)) b o) b3 = some (53, cs, 2) := fun X cs o => by rw [objAt_ne (Ne.symm n2)]; exact objAt_eq
    (try simp only [rws, hwR, Nat.reduceAdd, Nat.reduceLeDiff, Nat.reduceLT, Nat.reduceSub, Nat.reduceMul, Nat.reduceEqDiff, Nat.reduceBEq, Int.reduceAdd, Int.reduceToNat, beq_self_eq_true, ob3])
    refine fin ⟨nameP T r, nameP T (isR T sHash (nameR T r))⟩ (nameR T (isR T sHash (nameR T r))) _ ?_ objAt_eq ?_ fun x e2 e3 => ?_
    · rw [refP, if_pos hi]
    · rw [objAt_ne n3, objAt_ne (Ne.symm n1), objAt_ne n3, objAt_ne (Ne.symm n1)]; exact objAt_eq
    · simp only [sget_supd, if_neg e2, if_neg e3]
      by_cases hb : b = x
      · subst hb; simp
      · simp [hb]
  | false =>
    rw [isR_no hi]
    (try simp only [rws, hwR, Nat.reduceAdd, Nat.reduceLeDiff, Nat.reduceLT, Nat.reduceSub, Nat.reduceMul, Nat.reduceEqDiff, Nat.reduceBEq, Int.reduceAdd, Int.reduceToNat, beq_self_eq_true])
    refine fin ⟨nameP T r, ⟨#[]⟩⟩ (nameR T r) _ ?_ ?_ ?_ fun x e2 e3 => ?_
    · rw [refP, if_neg (by rw [hi]; simp)]
    · rw [objAt_ne (Ne.symm n2)]; exact objAt_eq
    · rw [objAt_ne (Ne.symm n1), objAt_ne n3, objAt_ne (Ne.symm n1)]; exact objAt_eq
    · simp only [sget_supd, if_neg e2, if_neg e3]
      by_cases hb : b = x
      · subst hb; simp
      · simp [hb]
structure RlI (S : Store) (b b2 b4 : Nat) (T : List Tk) (name : ByteArray) (p : List Rf × Rd) (S' : Store) : Prop where
  rd : sget S' b = some (rdO T p.2)
  c2 : sget S' b2 = some c43
  c4 : ∃ v, sget S' b4 = some (.cells 43 [.str name, v, .int .i64 0, .str ⟨#[]⟩, .str ⟨#[]⟩, .nils] 6) ∧ LstN (sdel S b) S' 53 2 v (p.1.map rfC) ∧ Aside v b ∧ Aside v b2 ∧ Aside v b4
  sub : Sub (sdel S b) S'
theorem LstN.base2 {S S' : Store} {b t sz : Nat} {v : AV} {rows : List (List AV)} {o : AObj} (h : LstN (sdel S b) S' t sz v rows) (ha : Aside v b) : LstN (supd S b o) S' t sz v rows := by
  obtain ⟨hr, h⟩ := h
  refine ⟨hr, ?_⟩
  rcases h with h | ⟨c, cap, rfl, h1, h2⟩
  · exact .inl h
  · refine .inr ⟨c, cap, rfl, ?_, h2⟩
    have := ha c 0 _ _ rfl
    rw [sget_sdel, if_neg this] at h1
    rw [sget_supd, if_neg this]
    exact h1
theorem aside_nils {c : Nat} : Aside .nils c := fun b off n cap h => by cases h
theorem kpW_one {S S' : Store} {Y : Prop} {b off : Nat} (h : sget S' b = sget S b) (hY : Y) : kpW [.ptr b off] S S' Y := by
  refine ⟨fun v hv c hc => ?_, hY⟩
  rw [List.mem_singleton] at hv
  subst hv
  simp [blk] at hc
  subst hc
  exact h
theorem RlI.more {S S1 : Store} {b b2 b4 : Nat} {T : List Tk} {name : ByteArray} {l : List Rf} {r r2 : Rd} (h : RlI S b b2 b4 T name (l, r) S1) (n1 : b2 ≠ b) (n2 : b4 ≠ b) (n3 : b4 ≠ b2) (k2 : sget S b2 = none) (k4 : sget S b4 = none) (hlen : l.length ≤ 100000) (f : Rf) {v : AV} (hv : sget S1 b4 = some (.cells 43 [.str name, v, .int .i64 0, .str ⟨#[]⟩, .str ⟨#[]⟩, .nils] 6)) {K : Store → Prop} (hK : ∀ S3, RlI S b b2 b4 T name (l ++ [f], r2) S3 → K S3) :
    apW (supd S1 b (rdO T r2)) 53 2 32 v (.sl 2 [[.str f.ty, .str f.rl]]) fun v' S2 => soW (objAt S2 b4) S2 1 b4 1 v' K := by
  obtain ⟨hrd, hc2, ⟨v0, hv0, hl, a1, a2, a4⟩, hsub⟩ := h
  rw [hv] at hv0
  cases hv0
  dsimp only at hl hrd
  have hb0 : sget (sdel S b) b = none := by rw [sget_sdel, if_pos rfl]
  have hb4 : sget (sdel S b) b4 = none := by rw [sget_sdel, if_neg (Ne.symm n2)]; exact k4
  refine (hl.upd a1 (rdO T r2)).app (hsub.supd hb0) (xs := [[.str f.ty, .str f.rl]]) (fun r hr => by rw [List.mem_singleton] at hr; subst hr; rfl) rfl (by simp; omega) ?_
  intro v' S2 h1 h2 h3
  obtain ⟨q1, q2⟩ := h3 b (rdO T r2) (by rw [sget_supd, if_pos rfl]) a1
  obtain ⟨q3, q4⟩ := h3 b4 _ (by rw [sget_supd, if_neg (Ne.symm n2)]; exact hv) a4
  obtain ⟨q5, q6⟩ := h3 b2 _ (by rw [sget_supd, if_neg (Ne.symm n1)]; exact hc2) a2
  rw [objAt_some.2 q3, soW_some]
  have hone := h2.one
  have hac : aCells v' = [v'] := by cases v' <;> first | rfl | cases hone
  rw [hac]
  refine ⟨rfl, by simp, by simp [ones, hone], hK _ ⟨?_, ?_, ⟨v', ?_, ?_, q2, q6, q4⟩, ?_⟩⟩
  · rw [sget_supd, if_neg n2]; exact q1
  · rw [sget_supd, if_neg n3]; exact q5
  · rw [sget_supd, if_pos rfl]; rfl
  · simpa [rfC] using h2.upd q4 _
  · exact h1.supd hb4
theorem sub_del {S : Store} {b : Nat} {T : List Tk} {S2 : Store} {r' : Rd} {b2 : Nat} {o : AObj} (h : Sub (sdel S b) S2) (hb : sget S2 b = some (rdO T r')) (k2 : sget S b2 = none) (n1 : b2 ≠ b) : Sub (supd S b (rdO T r')) (supd S2 b2 o) := by
  intro x y hx
  have e2 : b2 ≠ x := by rintro rfl; rw [sget_supd, if_neg (Ne.symm n1), k2] at hx; cases hx
  rw [sget_supd, if_neg e2]
  rw [sget_supd] at hx
  by_cases hbx : b = x
  · subst hbx; rw [if_pos rfl] at hx; rw [hb]; exact hx
  · rw [if_neg hbx] at hx
    exact h x y (by rw [sget_sdel, if_neg hbx]; exact hx)
theorem c_rel {T : List Tk} (hT : OkTk T) {b : Nat} {r : Rd} (hp : Pre T 12 r) : AFunR nr_ref11_Reader_rel b [] T r (.tup [.agg (rlC (relP T r).1.1), .bool (relP T r).1.2]) (relP T r).2 := by
  intro S h
  have hTl := hT.len
  refine w_ref11_Reader_rel ?_
  unfold B_ref11_Reader_rel
  intro b2 hb2
  have n1 : b2 ≠ b := sget_ne hb2 h
  (try simp only [rws, hwR, Nat.reduceAdd, Nat.reduceLeDiff, Nat.reduceLT, Nat.reduceSub, Nat.reduceMul, Nat.reduceEqDiff, Nat.reduceBEq, Int.reduceAdd, Int.reduceToNat, beq_self_eq_true])
  intro b4 hb4
  have n2 : b4 ≠ b := sget_ne hb4 (x := rdO T r) (by rw [sget_supd, if_neg n1]; exact h)
  have n3 : b4 ≠ b2 := sget_ne hb4 (x := c43) (by rw [sget_supd, if_pos rfl])
  have k4 : sget S b4 = none := by rw [sget_supd, if_neg (Ne.symm n3)] at hb4; exact hb4
  have m1 := Ne.symm n1
  have m2 := Ne.symm n2
  have m3 := Ne.symm n3
  (try simp only [rws, hwR, Nat.reduceAdd, Nat.reduceLeDiff, Nat.reduceLT, Nat.reduceSub, Nat.reduceMul, Nat.reduceEqDiff, Nat.reduceBEq, Int.reduceAdd, Int.reduceToNat, beq_self_eq_true])
  have fin : ∀ (x : Rl) (ok : Bool) (r' : Rd) (S2 : Store) (n : ByteArray) (v : AV) (k : Int) (a o : ByteArray) (w : AV), relP T r = ((x, ok), r') → sget S2 b = some (rdO T r') → Sub (sdel S b) S2 →
      Frs (supd S b (rdO T r')) (supd S2 b2 (.cells 43 [.str n, v, .int .i64 k, .str a, .str o, w] 6)) [.str n, v, .int .i64 k, .str a, .str o, w] (rlC x) →
      rtW [.cell (.ptr b2 0) 6 true, .tmp (.bool ok)] (fun ae S' => ae = .ret (.tup [.agg (rlC (relP T r).1.1), .bool (relP T r).1.2]) ∧ S' = supd S b (rdO T (relP T r).2)) (supd S2 b2 (.cells 43 [.str n, v, .int .i64 k, .str a, .str o, w] 6)) := by
    intro x ok r' S2 n v k a o w he hb hsub hfr
    rw [he]
    refine rtW_fr (supd S b (rdO T r')) (.tup [.agg (rlC x), .bool ok]) (sub_del hsub hb hb2 n1) ?_ ⟨rfl, rfl⟩
    (try simp only [rws, hwR, Nat.reduceAdd, Nat.reduceLeDiff, Nat.reduceLT, Nat.reduceSub, Nat.reduceMul, Nat.reduceEqDiff, Nat.reduceBEq, Int.reduceAdd, Int.reduceToNat, beq_self_eq_true])
    exact .tu (.cons (.ag hfr) (.cons (.same _) .nil))
  have hS0 : sget (supd (supd S b2 c43) b4 c43) b = some (rdO T r) := by rw [sget_supd, if_neg n2, sget_supd, if_neg n1]; exact h
  have hsub0 : Sub (sdel S b) (supd (supd S b2 c43) b4 c43) := by
    intro x y hx
    have hbx : b ≠ x := by rintro rfl; rw [sget_sdel, if_pos rfl] at hx; cases hx
    rw [sget_sdel, if_neg hbx] at hx
    rw [sget_supd, if_neg (sget_ne k4 hx), sget_supd, if_neg (sget_ne hb2 hx)]
    exact hx
  refine (c_is hT hp.inr wRelation).ca hS0 ?_
  cases hi : isP T wRelation r with
  | true =>
    have h1 := is_step hT hp hi (by decide +kernel) (by decide +kernel)
    have hp1 := h1.pre hp
    have h2 := name_step hT hp1
    have hp2 := h2.pre hp1
    have h3 := must_step hT hp2 (s := sColon) (by decide +kernel) (by decide +kernel)
    have hp3 := h3.pre hp2
    obtain ⟨h4, h5⟩ := ref_step hT hp3
    (try simp only [rws, hwR, Nat.reduceAdd, Nat.reduceLeDiff, Nat.reduceLT, Nat.reduceSub, Nat.reduceMul, Nat.reduceEqDiff, Nat.reduceBEq, Int.reduceAdd, Int.reduceToNat, beq_self_eq_true])
    refine (c_name hT hp1.inr).ca rd_new ?_
    have ob4 : ∀ X cs o, objAt (supd (supd X b4 (.cells 43 cs 6)) b o) b4 = some (43, cs, 6) := fun X cs o => by rw [objAt_ne m2]; exact objAt_eq
    (try simp only [rws, hwR, Nat.reduceAdd, Nat.reduceLeDiff, Nat.reduceLT, Nat.reduceSub, Nat.reduceMul, Nat.reduceEqDiff, Nat.reduceBEq, Int.reduceAdd, Int.reduceToNat, beq_self_eq_true, ob4])
    have hrd : ∀ X cs r', sget (supd (supd X b (rdO T r')) b4 (.cells 43 cs 6)) b = some (rdO T r') := fun X cs r' => by rw [sget_supd, if_neg n2]; exact rd_new
    refine (c_must hT hp2.inr sColon).ca (hrd _ _ _) ?_
    (try simp only [rws, hwR, Nat.reduceAdd, Nat.reduceLeDiff, Nat.reduceLT, Nat.reduceSub, Nat.reduceMul, Nat.reduceEqDiff, Nat.reduceBEq, Int.reduceAdd, Int.reduceToNat, beq_self_eq_true, cellsAt_of (ob4 _ _ _)])
    refine (c_ref hT hp3).ca rd_new ?_
    refine kpW_one (by rw [sget_supd, if_neg m2]) ?_
    refine ⟨⟨rfl, rfl⟩, ?_⟩
    have hI0 : RlI S b b2 b4 T (nameP T (isR T wRelation r)) ([], mustR T sColon (nameR T (isR T wRelation r)))
        (supd (supd (supd (supd (supd S b2 c43) b4 c43) b (rdO T (nameR T (isR T wRelation r)))) b4 (.cells 43 [.str (nameP T (isR T wRelation r)), .nils, .int .i64 0, .str ⟨#[]⟩, .str ⟨#[]⟩, .nils] 6)) b (rdO T (mustR T sColon (nameR T (isR T wRelation r))))) := by
      refine ⟨rd_new, ?_, ⟨.nils, ?_, .nil, aside_nils, aside_nils, aside_nils⟩, ?_⟩
      · simp [sget_supd, m1, m2, m3, n1, n2, n3]
      · simp [sget_supd, m1, m2, m3, n1, n2, n3]
      · have hb0 : sget (sdel S b) b = none := by rw [sget_sdel, if_pos rfl]
        have hb4' : sget (sdel S b) b4 = none := by rw [sget_sdel, if_neg m2]; exact k4
        exact ((hsub0.supd hb0).supd hb4').supd hb0
    have hrel : relP T r = ((⟨nameP T (isR T wRelation r), (refsL T T.length ([(refP T (mustR T sColon (nameR T (isR T wRelation r)))).1], (refP T (mustR T sColon (nameR T (isR T wRelation r)))).2)).1, zeroE⟩, true), (refsL T T.length ([(refP T (mustR T sColon (nameR T (isR T wRelation r)))).1], (refP T (mustR T sColon (nameR T (isR T wRelation r)))).2)).2) := by
      rw [relP, if_pos hi]
    refine hI0.more n1 n2 n3 hb2 k4 (by simp) (refP T (mustR T sColon (nameR T (isR T wRelation r)))).1 (r2 := (refP T (mustR T sColon (nameR T (isR T wRelation r)))).2) (v := .nils) ?_ ?_
    · rw [sget_supd, if_neg m2, sget_supd, if_pos rfl]
    clear hI0
    intro S3 hI
    generalize nameP T (isR T wRelation r) = nm at hI hrel
    have hR0 : RfSt T (mustR T sColon (nameR T (isR T wRelation r))) ([(refP T (mustR T sColon (nameR T (isR T wRelation r)))).1], (refP T (mustR T sColon (nameR T (isR T wRelation r)))).2) :=
      ⟨h4, by simp, fun f hf => by rw [List.mem_singleton.1 hf]; exact h5⟩
    generalize mustR T sColon (nameR T (isR T wRelation r)) = r3 at hI hrel hp3 hR0
    rw [List.nil_append] at hI
    generalize ([(refP T r3).1], (refP T r3).2) = p0 at hI hrel hR0
    refine LoopP.introS (fun _ : List Rf × Rd => [(0, .ptr b 0), (2, .ptr b2 0), (4, .ptr b4 0)])
      (fun p S' => RlI S b b2 b4 T nm p S' ∧ RfSt T r3 p ∧ refsL T T.length p = refsL T T.length p0) (fun p => T.length - p.2.at') p0 ⟨hI, hR0, rfl⟩ rfl ?_
    clear hI hR0
    rintro ⟨l, r4⟩ S4 ⟨hI, hR, hf⟩ q hq
    have hp4 := hR.st.pre hp3
    have hin : r4.at' < T.length := hp4.inr
    have hll := hR.len
    dsimp only at hll
    have hI' := hI
    obtain ⟨krd, kc2, ⟨v, kv, klst, a1, a2, a4⟩, ksub⟩ := hI'
    dsimp only at krd klst
    (try simp only [rws, hwR, Nat.reduceAdd, Nat.reduceLeDiff, Nat.reduceLT, Nat.reduceSub, Nat.reduceMul, Nat.reduceEqDiff, Nat.reduceBEq, Int.reduceAdd, Int.reduceToNat, beq_self_eq_true, C_ref11_Reader_rel_1])
    refine (c_is hT hp4.inr sBar).ca krd ?_
    cases hb : isP T sBar r4 with
    | true =>
      obtain ⟨hR2, hmu⟩ := refs_next hT hp3 hR hb
      have h6 := is_step hT hp4 hb (by decide +kernel) (by decide +kernel)
      have hp6 := h6.pre hp4
      have hob : objAt (supd S4 b (rdO T (isR T sBar r4))) b4 = some (43, [.str nm, v, .int .i64 0, .str ⟨#[]⟩, .str ⟨#[]⟩, .nils], 6) := by rw [objAt_ne m2]; exact objAt_some.2 kv
      have hf2 : refsL T T.length (l ++ [(refP T (isR T sBar r4)).1], (refP T (isR T sBar r4)).2) = refsL T T.length p0 := by
        rw [← hf]
        obtain ⟨m, hm⟩ : ∃ m, T.length = m + 1 := ⟨T.length - 1, by omega⟩
        conv => rhs; rw [hm, refsL, if_pos hb]
        exact refsL_more hT hp3 hR2 (by dsimp only; omega) (by dsimp only; omega)
      have hI2 : RlI S b b2 b4 T nm (l, isR T sBar r4) (supd S4 b (rdO T (isR T sBar r4))) := by
        refine ⟨rd_new, by rw [sget_supd, if_neg m1]; exact kc2, ⟨v, by rw [sget_supd, if_neg m2]; exact kv, klst.upd a1 _, a1, a2, a4⟩, ksub.supd (by rw [sget_sdel, if_pos rfl])⟩
      (try simp only [rws, hwR, Nat.reduceAdd, Nat.reduceLeDiff, Nat.reduceLT, Nat.reduceSub, Nat.reduceMul, Nat.reduceEqDiff, Nat.reduceBEq, Int.reduceAdd, Int.reduceToNat, beq_self_eq_true, cellsAt_of hob])
      refine (c_ref hT hp6).ca rd_new ?_
      refine kpW_one (by rw [sget_supd, if_neg m2]) ?_
      refine ⟨⟨rfl, rfl⟩, ?_⟩
      refine hI2.more n1 n2 n3 hb2 k4 (by omega) (refP T (isR T sBar r4)).1 (r2 := (refP T (isR T sBar r4)).2) (v := v) ?_ ?_
      · rw [sget_supd, if_neg m2]; exact kv
      intro S5 hI5
      exact rcW_as rfl (hq (l ++ [(refP T (isR T sBar r4)).1], (refP T (isR T sBar r4)).2) S5 ⟨hI5, hR2, hf2⟩ (by dsimp only; omega))
    | false =>
      rw [isR_no hb, supd_self krd]
      have hstop : refsL T T.length (l, r4) = (l, r4) := by
        cases T.length with
        | zero => rfl
        | succ m => rw [refsL, if_neg (by rw [hb]; simp)]
      rw [hstop] at hf
      rw [← hf] at hrel
      have ob2 := objAt_some.2 kc2
      have ob4' := objAt_some.2 kv
      have hone := klst.one
      have hac : aCells v = [v] := by cases v <;> first | rfl | cases hone
      (try simp only [rws, hwR, Nat.reduceAdd, Nat.reduceLeDiff, Nat.reduceLT, Nat.reduceSub, Nat.reduceMul, Nat.reduceEqDiff, Nat.reduceBEq, Int.reduceAdd, Int.reduceToNat, beq_self_eq_true, cellsAt_of ob4', ob2, ones_cons])
      refine ⟨hone, fin ⟨nm, l, zeroE⟩ true r4 S4 nm v 0 _ _ _ hrel krd ksub ?_⟩
      rw [rlC_eq]
      exact .cons (.same _) (.cons (Fr.lst ((klst.upd a2 _).base2 a1)) (.cons (.same _) (.cons (.same _) (.cons (.same _) (.cons (.nils 4) .nil)))))
  | false =>
    rw [isR_no hi, supd_self hS0]
    (try simp only [rws, hwR, Nat.reduceAdd, Nat.reduceLeDiff, Nat.reduceLT, Nat.reduceSub, Nat.reduceMul, Nat.reduceEqDiff, Nat.reduceBEq, Int.reduceAdd, Int.reduceToNat, beq_self_eq_true])
    refine (c_is hT hp.inr wDefine).ca hS0 ?_
    cases hd : isP T wDefine r with
    | true =>
      have h1 := is_step hT hp hd (by decide +kernel) (by decide +kernel)
      have hp1 := h1.pre hp
      have h2 := name_step hT hp1
      have hp2 := h2.pre hp1
      have h3 := must_step hT hp2 (s := sColon) (by decide +kernel) (by decide +kernel)
      have hp3 := h3.pre hp2
      (try simp only [rws, hwR, Nat.reduceAdd, Nat.reduceLeDiff, Nat.reduceLT, Nat.reduceSub, Nat.reduceMul, Nat.reduceEqDiff, Nat.reduceBEq, Int.reduceAdd, Int.reduceToNat, beq_self_eq_true])
      refine (c_name hT hp1.inr).ca rd_new ?_
      have ob4 : ∀ X cs o, objAt (supd (supd X b4 (.cells 43 cs 6)) b o) b4 = some (43, cs, 6) := fun X cs o => by rw [objAt_ne m2]; exact objAt_eq
      (try simp only [rws, hwR, Nat.reduceAdd, Nat.reduceLeDiff, Nat.reduceLT, Nat.reduceSub, Nat.reduceMul, Nat.reduceEqDiff, Nat.reduceBEq, Int.reduceAdd, Int.reduceToNat, beq_self_eq_true, ob4])
      have hrd : ∀ X cs r', sget (supd (supd X b (rdO T r')) b4 (.cells 43 cs 6)) b = some (rdO T r') := fun X cs r' => by rw [sget_supd, if_neg n2]; exact rd_new
      refine (c_must hT hp2.inr sColon).ca (hrd _ _ _) ?_
      (try simp only [rws, hwR, Nat.reduceAdd, Nat.reduceLeDiff, Nat.reduceLT, Nat.reduceSub, Nat.reduceMul, Nat.reduceEqDiff, Nat.reduceBEq, Int.reduceAdd, Int.reduceToNat, beq_self_eq_true])
      refine (c_expr hT hp3).ca rd_new ?_
      have hrel : relP T r = ((⟨nameP T (isR T wDefine r), [], (exprP T 12 (mustR T sColon (nameR T (isR T wDefine r)))).1⟩, true), (exprP T 12 (mustR T sColon (nameR T (isR T wDefine r)))).2) := by
        rw [relP, if_neg (by rw [hi]; simp), if_pos hd]
      generalize nameP T (isR T wDefine r) = nm at hrel ⊢
      generalize exprP T 12 (mustR T sColon (nameR T (isR T wDefine r))) = pe at hrel ⊢
      obtain ⟨e, r5⟩ := pe
      dsimp only at hrel ⊢
      rw [supd_supd]
      have hb0 : sget (sdel S b) b = none := by rw [sget_sdel, if_pos rfl]
      have hb4' : sget (sdel S b) b4 = none := by rw [sget_sdel, if_neg m2]; exact k4
      have q1 : ∀ X cs, sget (supd (supd X b4 (.cells 43 cs 6)) b (rdO T r5)) b = some (rdO T r5) := fun X cs => rd_new
      have q2 : objAt (supd (supd (supd (supd (supd S b2 c43) b4 c43) b (rdO T (nameR T (isR T wDefine r)))) b4 (.cells 43 [.str nm, .nils, .int .i64 0, .str ⟨#[]⟩, .str ⟨#[]⟩, .nils] 6)) b (rdO T r5)) b4 = some (43, [.str nm, .nils, .int .i64 0, .str ⟨#[]⟩, .str ⟨#[]⟩, .nils], 6) := ob4 _ _ _
      have q3 : objAt (supd (supd (supd (supd (supd S b2 c43) b4 c43) b (rdO T (nameR T (isR T wDefine r)))) b4 (.cells 43 [.str nm, .nils, .int .i64 0, .str ⟨#[]⟩, .str ⟨#[]⟩, .nils] 6)) b (rdO T r5)) b2 = some (43, [.str ⟨#[]⟩, .nils, .int .i64 0, .str ⟨#[]⟩, .str ⟨#[]⟩, .nils], 6) := by
        refine objAt_some.2 ?_
        simp [sget_supd, m1, m2, m3, n1, n2, n3]
      have q4 : Sub (sdel S b) (supd (supd (supd (supd (supd S b2 c43) b4 c43) b (rdO T (nameR T (isR T wDefine r)))) b4 (.cells 43 [.str nm, .nils, .int .i64 0, .str ⟨#[]⟩, .str ⟨#[]⟩, .nils] 6)) b (rdO T r5)) := ((hsub0.supd hb0).supd hb4').supd hb0
      have q1 := q1 (supd (supd (supd S b2 c43) b4 c43) b (rdO T (nameR T (isR T wDefine r)))) [.str nm, .nils, .int .i64 0, .str ⟨#[]⟩, .str ⟨#[]⟩, .nils]
      generalize supd (supd (supd (supd (supd S b2 c43) b4 c43) b (rdO T (nameR T (isR T wDefine r)))) b4 (.cells 43 [.str nm, .nils, .int .i64 0, .str ⟨#[]⟩, .str ⟨#[]⟩, .nils] 6)) b (rdO T r5) = S5 at q1 q2 q3 q4 ⊢
      (try simp only [rws, hwR, Nat.reduceAdd, Nat.reduceLeDiff, Nat.reduceLT, Nat.reduceSub, Nat.reduceMul, Nat.reduceEqDiff, Nat.reduceBEq, Int.reduceAdd, Int.reduceToNat, beq_self_eq_true, q2, q3, exC_eq, ones_cons, if_neg n3])
      refine fin ⟨nm, [], e⟩ true r5 _ nm .nils e.kind _ _ _ hrel (by rw [sget_supd, if_neg n2]; exact q1) (q4.supd hb4') ?_
      rw [rlC_eq]
      exact .cons (.same _) (.cons (.nils 2) (.cons (.same _) (.cons (.same _) (.cons (.same _) (.cons (.same _) .nil)))))
    | false =>
      rw [isR_no hd, supd_self hS0]
      have hrel : relP T r = ((⟨⟨#[]⟩, [], zeroE⟩, false), r) := by
        rw [relP, if_neg (by rw [hi]; simp), if_neg (by rw [hd]; simp)]
      (try simp only [rws, hwR, Nat.reduceAdd, Nat.reduceLeDiff, Nat.reduceLT, Nat.reduceSub, Nat.reduceMul, Nat.reduceEqDiff, Nat.reduceBEq, Int.reduceAdd, Int.reduceToNat, beq_self_eq_true, if_neg n3, if_neg m3])
      refine fin ⟨⟨#[]⟩, [], zeroE⟩ false r _ _ .nils 0 _ _ _ hrel hS0 hsub0 ?_
      rw [rlC_eq]
      exact .cons (.same _) (.cons (.nils 2) (.cons (.same _) (.cons (.same _) (.cons (.same _) (.cons (.nils 4) .nil)))))
end Go.HL
set_option linter.unusedVariables false
set_option linter.unusedSimpArgs false
set_option maxRecDepth 4000
namespace Go.HL
def bl (s : ByteArray) : List UInt8 := s.data.toList
def mkB (l : List UInt8) : ByteArray := ⟨l.toArray⟩
theorem mkB_bl (s : ByteArray) : mkB (bl s) = s := by cases s; rfl
theorem bl_len (s : ByteArray) : (bl s).length = s.size := by cases s; simp [bl, ByteArray.size]
theorem bl_extract (s : ByteArray) (i j : Nat) : bl (s.extract i j) = ((bl s).take j).drop i := by
  unfold bl
  rw [ByteArray.data_extract, Array.toList_extract, List.extract_eq_take_drop, List.drop_take]
theorem extract_mk (s : ByteArray) (i j : Nat) : s.extract i j = mkB (((bl s).take j).drop i) := by rw [← bl_extract, mkB_bl]
theorem bl_get (s : ByteArray) (i : Nat) : s[i]? = (bl s)[i]? := byte_list s i
def wordL : Nat → List UInt8 → Nat
  | _, [] => 0
  | i, c :: r => if atN i c.toNat then wordL (i + 1) r + 1 else 0
theorem wordL_le : ∀ {l : List UInt8} {i : Nat}, wordL i l ≤ l.length
  | [], i => by simp [wordL]
  | c :: r, i => by
    unfold wordL
    have := wordL_le (l := r) (i := i + 1)
    split
    · simp; omega
    · simp
theorem c_word {s : ByteArray} (hs : s.size ≤ 1125899906842624) : AFun PG nr_ref11_word [.str s] (.int .i64 (wordL 0 (bl s))) := by
  intro S
  refine w_ref11_word ?_
  unfold B_ref11_word
  refine LoopP.introS (fun i : Nat => [(0, .str s), (3, .int .i64 i)]) (fun i S' => S' = S ∧ i ≤ s.size ∧ wordL 0 (bl s) = i + wordL i ((bl s).drop i)) (fun i => s.size - i) 0 ⟨rfl, by omega, by simp⟩ rfl ?_
  rintro i S' ⟨rfl, hi, hf⟩ r hr
  cases h0 : decide ((i : Int) < s.size) with
  | false =>
    have hd : (bl s).drop i = [] := List.drop_of_length_le (by rw [bl_len]; have := of_decide_eq_false h0; omega)
    rw [hd, wordL] at hf
    (try simp only [rws, hwR, Nat.reduceAdd, Nat.reduceLeDiff, Nat.reduceLT, Nat.reduceSub, Nat.reduceMul, Nat.reduceEqDiff, Nat.reduceBEq, Int.reduceAdd, Int.reduceToNat, beq_self_eq_true, C_ref11_word_1, h0, C_ref11_word_2, C_ref11_word_3, C_ref11_word_4, C_ref11_word_5, C_ref11_word_6, C_ref11_word_7, C_ref11_word_8, C_ref11_word_9, C_ref11_word_10, C_ref11_word_11])
    exact rtW_one ⟨by rw [hf]; rfl, rfl⟩
  | true =>
    have hlt := of_decide_eq_true h0
    obtain ⟨b, hb⟩ := byte_lt hlt
    have hd := drop_cons (l := bl s) (by rw [← bl_get]; exact hb)
    rw [hd, wordL] at hf
    have ea : atN i b.toNat = ((decide (97 ≤ (b.toNat : Int)) && decide ((b.toNat : Int) ≤ 122)) || (decide (0 < (i : Int)) && (decide ((b.toNat : Int) = 95) || (decide (48 ≤ (b.toNat : Int)) && decide ((b.toNat : Int) ≤ 57))))) := by
      have : (!decide ((i : Int) = 0)) = decide (0 < (i : Int)) := by rw [← decide_not]; congr 1; exact propext (by omega)
      simp only [atN, smallN, digitN, this]
    have good : atN i b.toNat = true → r [(0, .str s), (3, .int .i64 ((i : Int) + 1))] S' := fun h => by
      rw [if_pos h] at hf
      exact hr (i + 1) _ ⟨rfl, by omega, by omega⟩ (by omega)
    have bad : atN i b.toNat = false → wordL 0 (bl s) = i := fun h => by
      rw [if_neg (by rw [h]; simp)] at hf
      exact hf
    cases h1 : decide (97 ≤ (b.toNat : Int)) <;> cases h2 : decide ((b.toNat : Int) ≤ 122) <;> cases h3 : decide (0 < (i : Int)) <;> cases h4 : decide ((b.toNat : Int) = 95) <;> cases h5 : decide (48 ≤ (b.toNat : Int)) <;> cases h6 : decide ((b.toNat : Int) ≤ 57) <;>
      simp only [h1, h2, h3, h4, h5, h6, Bool.true_and, Bool.false_and, Bool.and_true, Bool.and_false, Bool.or_true, Bool.true_or, Bool.or_false, Bool.false_or, Bool.not_true, Bool.not_false] at ea <;>
      (try simp only [rws, hwR, Nat.reduceAdd, Nat.reduceLeDiff, Nat.reduceLT, Nat.reduceSub, Nat.reduceMul, Nat.reduceEqDiff, Nat.reduceBEq, Int.reduceAdd, Int.reduceToNat, beq_self_eq_true, C_ref11_word_1, h0, hb, C_ref11_word_2, C_ref11_word_3, C_ref11_word_4, C_ref11_word_5, C_ref11_word_6, C_ref11_word_7, C_ref11_word_8, C_ref11_word_9, C_ref11_word_10, C_ref11_word_11, h1, h2, h3, h4, h5, h6]) <;>
      first
        | exact rtW_one ⟨by rw [bad ea], rfl⟩
        | ((simp (disch := omega) only [hwrap64]); exact rcW_as rfl (good ea))
end Go.HL
set_option linter.unusedVariables false
set_option linter.unusedSimpArgs false
set_option maxRecDepth 4000
namespace Go.HL
def signs : ByteArray := ⟨#[58, 124, 35, 43, 45, 38, 46, 40, 41]⟩
def signF (c : UInt8) : ByteArray := if c ∈ [58, 124, 35, 43, 45, 38, 46, 40, (41 : UInt8)] then mkB [c] else ⟨#[63]⟩
theorem signs_get {i : Nat} {c : UInt8} (h : signs[i]? = some c) : c ∈ [58, 124, 35, 43, 45, 38, 46, 40, (41 : UInt8)] ∧ signs.extract i (i + 1) = mkB [c] := by
  rw [bl_get] at h
  have hm := List.mem_of_getElem? h
  refine ⟨hm, ?_⟩
  rw [extract_mk, List.drop_take, show i + 1 - i = 1 by omega, drop_cons h]
  rfl
theorem c_sign (c : UInt8) : AFun PG nr_ref11_sign [.int .u8 c.toNat] (.str (signF c)) := by
  intro S
  refine w_ref11_sign ?_
  unfold B_ref11_sign
  refine LoopP.introS (fun i : Nat => [(0, .int .u8 c.toNat), (3, .str signs), (4, .int .i64 i)]) (fun i S' => S' = S ∧ i ≤ 9 ∧ ∀ j b, j < i → signs[j]? = some b → b ≠ c) (fun i => 9 - i) 0 ⟨rfl, by omega, by omega⟩ rfl ?_
  rintro i S' ⟨rfl, hi, hn⟩ r hr
  have hsz : signs.size = 9 := rfl
  (try simp only [rws, hwR, Nat.reduceAdd, Nat.reduceLeDiff, Nat.reduceLT, Nat.reduceSub, Nat.reduceMul, Nat.reduceEqDiff, Nat.reduceBEq, Int.reduceAdd, Int.reduceToNat, beq_self_eq_true, C_ref11_sign_1, hsz])
  (refine cnW_intro (fun hlt => ?_) (fun hlt => ?_) <;> (try simp only [hlc] at hlt))
  · obtain ⟨b, hb⟩ := byte_lt (s := signs) (i := i) (by rw [hsz]; omega)
    obtain ⟨h1, h2⟩ := signs_get hb
    (try simp only [rws, hwR, Nat.reduceAdd, Nat.reduceLeDiff, Nat.reduceLT, Nat.reduceSub, Nat.reduceMul, Nat.reduceEqDiff, Nat.reduceBEq, Int.reduceAdd, Int.reduceToNat, beq_self_eq_true, hb])
    (refine cnW_intro (fun he => ?_) (fun he => ?_) <;> (try simp only [hlc] at he))
    · have hbc : b = c := UInt8.toNat_inj.1 (by omega)
      subst hbc
      (simp (disch := omega) only [hwrap64])
      (try simp only [rws, hwR, Nat.reduceAdd, Nat.reduceLeDiff, Nat.reduceLT, Nat.reduceSub, Nat.reduceMul, Nat.reduceEqDiff, Nat.reduceBEq, Int.reduceAdd, Int.reduceToNat, beq_self_eq_true, hsz])
      refine ⟨by omega, by omega, ?_⟩
      rw [show ((i : Int) + 1).toNat = i + 1 by omega, h2]
      exact rtW_one ⟨by rw [signF, if_pos h1], rfl⟩
    · (simp (disch := omega) only [hwrap64])
      refine rcW_as rfl (hr (i + 1) _ ⟨rfl, by omega, fun j x hj hx => ?_⟩ (by omega))
      rcases Nat.lt_succ_iff_lt_or_eq.1 hj with h | rfl
      · exact hn j x h hx
      · rw [hb] at hx; cases hx
        rintro rfl
        exact he rfl
  · refine rtW_one ⟨?_, rfl⟩
    rw [signF, if_neg]
    intro hm
    obtain ⟨j, hj⟩ := List.getElem?_of_mem hm
    have h9 : signs[j]? = some c := by rw [bl_get]; exact hj
    exact hn j c (by have := byte_size h9; omega) h9 rfl
def tokL : Nat → List UInt8 → Nat → Nat → List Tk
  | 0, _, _, _ => []
  | _ + 1, [], line, col => [⟨⟨#[]⟩, line, col⟩]
  | f + 1, c :: r, line, col =>
    if c.toNat = 32 ∨ c.toNat = 9 ∨ c.toNat = 10 then tokL f r (if c.toNat = 10 then line + 1 else line) (if c.toNat = 10 then 1 else col + 1)
    else if wordL 0 (c :: r) = 0 then (if signF c = ⟨#[63]⟩ then [⟨⟨#[63]⟩, line, col⟩] else ⟨signF c, line, col⟩ :: tokL f r line (col + 1))
    else ⟨mkB ((c :: r).take (wordL 0 (c :: r))), line, col⟩ :: tokL f ((c :: r).drop (wordL 0 (c :: r))) line (col + wordL 0 (c :: r))
def tokT (s : ByteArray) : List Tk := tokL (s.size + 1) (bl s) 1 1
theorem c_Tokens {s : ByteArray} (hs : s.size ≤ 4096) : AFun PG nr_ref11_Tokens [.str s] (.sl 3 ((tokT s).map tkC)) := by
  intro S
  refine w_ref11_Tokens ?_
  unfold B_ref11_Tokens
  refine LoopP.introS (fun p : AV × Nat × Nat × Nat => [(0, .str s), (3, p.1), (4, .int .i64 p.2.1), (5, .int .i64 p.2.2.1), (6, .int .i64 p.2.2.2)])
    (fun p S' => p.2.2.2 ≤ s.size ∧ p.2.1 ≤ p.2.2.2 + 1 ∧ p.2.2.1 ≤ p.2.2.2 + 1 ∧ Sub S S' ∧ ∃ (d : List Tk) (f : Nat), s.size - p.2.2.2 < f ∧ d.length ≤ p.2.2.2 ∧ LstN S S' 130 3 p.1 (d.map tkC) ∧ d ++ tokL f ((bl s).drop p.2.2.2) p.2.1 p.2.2.1 = tokT s) (fun p => s.size - p.2.2.2) (.nils, 1, 1, 0)
    ⟨Nat.zero_le _, Nat.le_refl _, Nat.le_refl _, Sub.refl S, [], s.size + 1, by dsimp only; omega, by simp, .nil, rfl⟩ rfl ?_
  rintro ⟨v, line, col, i⟩ S1 ⟨hi, hln, hcl, hs1, d, f, hf, hd, hl, ht⟩ q hq
  dsimp only at hi hln hcl hf hd hl ht
  obtain ⟨f, rfl⟩ : ∃ m, f = m + 1 := ⟨f - 1, by omega⟩
  (try simp only [rws, hwR, Nat.reduceAdd, Nat.reduceLeDiff, Nat.reduceLT, Nat.reduceSub, Nat.reduceMul, Nat.reduceEqDiff, Nat.reduceBEq, Int.reduceAdd, Int.reduceToNat, beq_self_eq_true, C_ref11_Tokens_1])
  (refine cnW_intro (fun hlt => ?_) (fun hlt => ?_) <;> (try simp only [hlc] at hlt))
  · obtain ⟨c, hc⟩ := byte_lt hlt
    have hdc := drop_cons (l := bl s) (by rw [← bl_get]; exact hc)
    rw [hdc, tokL] at ht
    (try simp only [rws, hwR, Nat.reduceAdd, Nat.reduceLeDiff, Nat.reduceLT, Nat.reduceSub, Nat.reduceMul, Nat.reduceEqDiff, Nat.reduceBEq, Int.reduceAdd, Int.reduceToNat, beq_self_eq_true, hc])
    have ws : ∀ w : Bool, w = (decide (c.toNat = 32 ∨ c.toNat = 9 ∨ c.toNat = 10)) → C_ref11_Tokens_3 (fun ae S' => ae = .ret (.sl 3 ((tokT s).map tkC)) ∧ S' = S) q (.str s) v (.int .i64 line) (.int .i64 col) (.int .i64 i) (.int .u8 c.toNat) (.bool w) S1 := by
      intro w hw
      unfold C_ref11_Tokens_3
      cases w with
      | true =>
        have hw := of_decide_eq_true hw.symm
        rw [if_pos hw] at ht
        cases a3 : decide ((c.toNat : Int) = 10) with
        | true =>
          have h10 : c.toNat = 10 := by have := of_decide_eq_true a3; omega
          rw [if_pos h10, if_pos h10] at ht
          (try simp only [rws, hwR, Nat.reduceAdd, Nat.reduceLeDiff, Nat.reduceLT, Nat.reduceSub, Nat.reduceMul, Nat.reduceEqDiff, Nat.reduceBEq, Int.reduceAdd, Int.reduceToNat, beq_self_eq_true, a3])
          (simp (disch := omega) only [hwrap64])
          refine rcW_as rfl (hq (v, line + 1, 1, i + 1) S1 ⟨by dsimp only; omega, by dsimp only; omega, by dsimp only; omega, hs1, d, f, by dsimp only; omega, by dsimp only; omega, hl, ht⟩ (by dsimp only; omega))
        | false =>
          have h10 : ¬ c.toNat = 10 := by have := of_decide_eq_false a3; omega
          rw [if_neg h10, if_neg h10] at ht
          (try simp only [rws, hwR, Nat.reduceAdd, Nat.reduceLeDiff, Nat.reduceLT, Nat.reduceSub, Nat.reduceMul, Nat.reduceEqDiff, Nat.reduceBEq, Int.reduceAdd, Int.reduceToNat, beq_self_eq_true, a3])
          (simp (disch := omega) only [hwrap64])
          refine rcW_as rfl (hq (v, line, col + 1, i + 1) S1 ⟨by dsimp only; omega, by dsimp only; omega, by dsimp only; omega, hs1, d, f, by dsimp only; omega, by dsimp only; omega, hl, ht⟩ (by dsimp only; omega))
      | false =>
        have hw := of_decide_eq_false hw.symm
        rw [if_neg hw] at ht
        have low : ∀ (x : ByteArray) (w : Nat), 1 ≤ w → i + w ≤ s.size → tokT s = d ++ (if x = ⟨#[63]⟩ then [⟨⟨#[63]⟩, line, col⟩] else ⟨x, line, col⟩ :: tokL f ((bl s).drop (i + w)) line (col + w)) → C_ref11_Tokens_4 (fun ae S' => ae = .ret (.sl 3 ((tokT s).map tkC)) ∧ S' = S) q (.str s) v (.int .i64 line) (.int .i64 col) (.int .i64 i) (.int .i64 w) (.str x) S1 := by
          intro x w hw1 hw2 hx
          unfold C_ref11_Tokens_4
          (try simp only [rws, hwR, Nat.reduceAdd, Nat.reduceLeDiff, Nat.reduceLT, Nat.reduceSub, Nat.reduceMul, Nat.reduceEqDiff, Nat.reduceBEq, Int.reduceAdd, Int.reduceToNat, beq_self_eq_true])
          refine hl.app hs1 (xs := [tkC ⟨x, line, col⟩]) (fun r hr => by rw [List.mem_singleton] at hr; subst hr; rfl) rfl (by simp; omega) ?_
          intro v' S2 h1 h2 _
          (try simp only [rws, hwR, Nat.reduceAdd, Nat.reduceLeDiff, Nat.reduceLT, Nat.reduceSub, Nat.reduceMul, Nat.reduceEqDiff, Nat.reduceBEq, Int.reduceAdd, Int.reduceToNat, beq_self_eq_true])
          (refine cnW_intro (fun hq3 => ?_) (fun hq3 => ?_) <;> (try simp only [hlc] at hq3))
          · rw [if_pos hq3] at hx
            have e1 : (d.map tkC) ++ [tkC ⟨x, line, col⟩] = (tokT s).map tkC := by rw [hx, hq3]; simp
            rw [e1] at h2
            exact rtW_lst h1 h2 ⟨rfl, rfl⟩
          · rw [if_neg (by simpa using hq3)] at hx
            (simp (disch := omega) only [hwrap64])
            rw [show (i : Int) + (w : Int) = ((i + w : Nat) : Int) from rfl, show (col : Int) + (w : Int) = ((col + w : Nat) : Int) from rfl]
            refine rcW_as rfl (hq (v', line, col + w, i + w) S2 ⟨by dsimp only; omega, by dsimp only; omega, by dsimp only; omega, h1, d ++ [⟨x, line, col⟩], f, by dsimp only; omega, by simp; omega, by simpa using h2, ?_⟩ (by dsimp only; omega))
            dsimp only
            rw [hx]
            simp
        have hbe : bl (s.extract i s.size) = c :: (bl s).drop (i + 1) := by
          rw [bl_extract, List.take_of_length_le (by rw [bl_len]; exact Nat.le_refl _), hdc]
        have hwl := wordL_le (l := c :: (bl s).drop (i + 1)) (i := 0)
        have hcl2 : (c :: (bl s).drop (i + 1)).length = s.size - i := by rw [← hdc, List.length_drop, bl_len]
        rw [hcl2] at hwl
        have hcw := c_word (s := s.extract i s.size) (by rw [ByteArray.size_extract]; omega)
        rw [hbe] at hcw
        (try simp only [rws, hwR, Nat.reduceAdd, Nat.reduceLeDiff, Nat.reduceLT, Nat.reduceSub, Nat.reduceMul, Nat.reduceEqDiff, Nat.reduceBEq, Int.reduceAdd, Int.reduceToNat, beq_self_eq_true])
        refine ⟨by omega, by omega, ?_⟩
        refine caW_pure hcw ?_
        have hw0 : ∀ r, wordL 0 (c :: r) ≠ 0 → c ≠ 63 := fun r h => by
          rintro rfl
          apply h
          unfold wordL
          rw [if_neg (by decide)]
        have hw0 := hw0 ((bl s).drop (i + 1))
        have htk : (c :: (bl s).drop (i + 1)).drop (wordL 0 (c :: (bl s).drop (i + 1))) = (bl s).drop (i + wordL 0 (c :: (bl s).drop (i + 1))) := by
          rw [← hdc, List.drop_drop]
        have hex : s.extract i (i + wordL 0 (c :: (bl s).drop (i + 1))) = mkB ((c :: (bl s).drop (i + 1)).take (wordL 0 (c :: (bl s).drop (i + 1)))) := by
          rw [extract_mk, List.drop_take, Nat.add_sub_cancel_left, hdc]
        rw [htk] at ht
        generalize hn : wordL 0 (c :: (bl s).drop (i + 1)) = n at *
        (try simp only [rws, hwR, Nat.reduceAdd, Nat.reduceLeDiff, Nat.reduceLT, Nat.reduceSub, Nat.reduceMul, Nat.reduceEqDiff, Nat.reduceBEq, Int.reduceAdd, Int.reduceToNat, beq_self_eq_true])
        (simp (disch := omega) only [hwrap64])
        (try simp only [rws, hwR, Nat.reduceAdd, Nat.reduceLeDiff, Nat.reduceLT, Nat.reduceSub, Nat.reduceMul, Nat.reduceEqDiff, Nat.reduceBEq, Int.reduceAdd, Int.reduceToNat, beq_self_eq_true])
        refine ⟨by omega, by omega, ?_⟩
        rw [show ((i : Int) + (n : Int)).toNat = i + n by omega, hex]
        (refine cnW_intro (fun hn0 => ?_) (fun hn0 => ?_) <;> (try simp only [hlc] at hn0))
        · have hn0 : n = 0 := by omega
          refine caW_pure (c_sign c) ?_
          rw [if_pos hn0] at ht
          refine low _ 1 (by omega) (by omega) ?_
          rw [← ht]
        · have hn0 : ¬ n = 0 := by omega
          rw [if_neg hn0] at ht
          refine low _ n (by omega) (by omega) ?_
          rw [← ht, if_neg]
          intro h63
          have h1 := congrArg bl h63
          obtain ⟨m, hm⟩ : ∃ m, n = m + 1 := ⟨n - 1, by omega⟩
          rw [hm, List.take_succ_cons] at h1
          have h2 : c :: ((bl s).drop (i + 1)).take m = [63] := by
            have : bl (mkB (c :: ((bl s).drop (i + 1)).take m)) = c :: ((bl s).drop (i + 1)).take m := by simp [bl, mkB]
            rw [← this, h1]; rfl
          exact hw0 hn0 (List.cons.inj h2).1
    cases a1 : decide ((c.toNat : Int) = 32) <;> cases a2 : decide ((c.toNat : Int) = 9) <;> cases a3 : decide ((c.toNat : Int) = 10) <;>
      (try simp only [rws, hwR, Nat.reduceAdd, Nat.reduceLeDiff, Nat.reduceLT, Nat.reduceSub, Nat.reduceMul, Nat.reduceEqDiff, Nat.reduceBEq, Int.reduceAdd, Int.reduceToNat, beq_self_eq_true, C_ref11_Tokens_2, a1, a2, a3]) <;> refine ws _ ?_ <;> simp only [decide_eq_true_eq, decide_eq_false_iff_not] at a1 a2 a3 <;> (symm; first | exact decide_eq_true (by omega) | exact decide_eq_false (by omega))
  · rw [List.drop_of_length_le (by rw [bl_len]; omega), tokL] at ht
    (try simp only [rws, hwR, Nat.reduceAdd, Nat.reduceLeDiff, Nat.reduceLT, Nat.reduceSub, Nat.reduceMul, Nat.reduceEqDiff, Nat.reduceBEq, Int.reduceAdd, Int.reduceToNat, beq_self_eq_true])
    refine hl.app hs1 (xs := [tkC ⟨⟨#[]⟩, line, col⟩]) (fun r hr => by rw [List.mem_singleton] at hr; subst hr; rfl) rfl (by simp; omega) ?_
    intro v' S2 h1 h2 _
    have e1 : (d.map tkC) ++ [tkC ⟨⟨#[]⟩, line, col⟩] = (tokT s).map tkC := by rw [← ht]; simp
    rw [e1] at h2
    exact rtW_lst h1 h2 ⟨rfl, rfl⟩
theorem tokL_len : ∀ {f : Nat} {l : List UInt8} {a b : Nat}, (tokL f l a b).length ≤ l.length + 1
  | 0, l, a, b => by simp [tokL]
  | f + 1, [], a, b => by simp [tokL]
  | f + 1, c :: r, a, b => by
    unfold tokL
    split
    · have := tokL_len (f := f) (l := r) (a := if c.toNat = 10 then a + 1 else a) (b := if c.toNat = 10 then 1 else b + 1)
      simp only [List.length_cons]; omega
    · split
      · split
        · simp
        · have := tokL_len (f := f) (l := r) (a := a) (b := b + 1)
          simp only [List.length_cons]; omega
      · rename_i h0
        have := tokL_len (f := f) (l := (c :: r).drop (wordL 0 (c :: r))) (a := a) (b := b + wordL 0 (c :: r))
        have h2 : ((c :: r).drop (wordL 0 (c :: r))).length ≤ r.length := by
          rw [List.length_drop, List.length_cons]; omega
        simp only [List.length_cons]; omega
theorem mkB_size {l : List UInt8} : (mkB l).size = l.length := by simp [mkB, ByteArray.size]
theorem signF_size {c : UInt8} : (signF c).size ≤ 1 := by
  unfold signF
  split
  · rw [mkB_size]; exact Nat.le_refl _
  · decide
theorem tokL_size : ∀ {f : Nat} {l : List UInt8} {a b : Nat}, ∀ t ∈ tokL f l a b, t.s.size ≤ l.length + 1
  | 0, l, a, b, t, ht => by cases ht
  | f + 1, [], a, b, t, ht => by
    rw [tokL, List.mem_singleton] at ht
    subst ht
    exact Nat.zero_le _
  | f + 1, c :: r, a, b, t, ht => by
    unfold tokL at ht
    split at ht
    · have := tokL_size t ht
      simp only [List.length_cons]; omega
    · split at ht
      · split at ht
        · rw [List.mem_singleton] at ht
          subst ht
          exact Nat.le_add_left _ _
        · rcases List.mem_cons.1 ht with rfl | ht
          · have := signF_size (c := c); dsimp only; omega
          · have := tokL_size t ht
            simp only [List.length_cons]; omega
      · rcases List.mem_cons.1 ht with rfl | ht
        · dsimp only
          rw [mkB_size, List.length_take]
          omega
        · have := tokL_size t ht
          rw [List.length_drop] at this
          omega
theorem tokL_last : ∀ {f : Nat} {l : List UInt8} {a b : Nat} {t : Tk}, (tokL f l a b).getLast? = some t → l.length < f → t.s = ⟨#[]⟩ ∨ t.s = ⟨#[63]⟩
  | 0, l, a, b, t, ht, hf => by omega
  | f + 1, [], a, b, t, ht, hf => by
    rw [tokL] at ht
    simp at ht
    subst ht
    exact .inl rfl
  | f + 1, c :: r, a, b, t, ht, hf => by
    have hne : ∀ {f : Nat} {l : List UInt8} {a b : Nat}, l.length < f → tokL f l a b ≠ [] := by
      intro f
      induction f with
      | zero => intro l a b h; omega
      | succ f ih =>
        intro l a b h
        cases l with
        | nil => simp [tokL]
        | cons c r =>
          unfold tokL
          simp only [List.length_cons] at h
          split
          · exact ih (by omega)
          · split
            · split <;> simp
            · simp
    simp only [List.length_cons] at hf
    unfold tokL at ht
    split at ht
    · exact tokL_last ht (by omega)
    · split at ht
      · split at ht
        · simp at ht
          subst ht
          exact .inr rfl
        · rw [List.getLast?_cons_of_ne_nil (hne (by omega))] at ht
          exact tokL_last ht (by omega)
      · rename_i h0
        have hl : ((c :: r).drop (wordL 0 (c :: r))).length < f := by
          rw [List.length_drop, List.length_cons]; omega
        rw [List.getLast?_cons_of_ne_nil (hne hl)] at ht
        exact tokL_last ht hl
theorem tokT_ok {s : ByteArray} (hs : s.size ≤ 4096) : OkTk (tokT s) := by
  have h1 := tokL_len (f := s.size + 1) (l := bl s) (a := 1) (b := 1)
  rw [bl_len] at h1
  refine ⟨?_, fun t ht => ?_, fun t ht => ?_⟩
  · unfold tokT; omega
  · have := tokL_size t ht
    rw [bl_len] at this
    omega
  · rw [← List.getLast?_eq_getElem?] at ht
    exact tokL_last ht (by rw [bl_len]; omega)
end Go.HL
set_option linter.unusedVariables false
set_option linter.unusedSimpArgs false
namespace Go.HL
structure RsSt (T : List Tk) (r : Rd) (p : List Rl × Rd) : Prop where
  st : StepR T r p.2 0
  len : p.1.length ≤ p.2.at'
  ok : ∀ x ∈ p.1, OkR x
  sz : p.2.de = 0 → ∀ x ∈ p.1, rsz x ≤ p.2.at'
theorem rels_next {T : List Tk} (hT : OkTk T) {r0 r : Rd} (hp0 : Pre T 12 r0) {l : List Rl} (h : RsSt T r0 (l, r)) :
    ((relP T r).1.2 = true → RsSt T r0 (l ++ [(relP T r).1.1], (relP T r).2) ∧ r.at' + 1 ≤ (relP T r).2.at') ∧ RsSt T r0 (l, (relP T r).2) := by
  have hp := h.st.pre hp0
  obtain ⟨h1, h2, h3⟩ := rel_ok hT hp
  have h5 := h.len
  have h6 := h1.mono
  dsimp only at h1 h5 h6 hp
  refine ⟨fun hf => ⟨⟨(h.st.trans h1).le (by omega), ?_, fun x hx => ?_, fun h0 x hx => ?_⟩, h3 hf⟩, ⟨(h.st.trans h1).le (by omega), by dsimp only; omega, h.ok, fun h0 x hx => ?_⟩⟩
  · have := h3 hf
    dsimp only at this
    simp only [List.length_append, List.length_cons, List.length_nil]
    omega
  · rcases List.mem_append.1 hx with hx | hx
    · exact h.ok x hx
    · rw [List.mem_singleton.1 hx]; exact h2
  · dsimp only at h0 ⊢
    rcases List.mem_append.1 hx with hx | hx
    · have := h.sz (h1.fault h0) x hx
      dsimp only at this
      omega
    · rw [List.mem_singleton.1 hx]
      have := h1.sz h0
      rw [if_pos hf] at this
      omega
  · dsimp only at h0 ⊢
    have := h.sz (h1.fault h0) x hx
    dsimp only at this
    omega
theorem relsL_ok {T : List Tk} (hT : OkTk T) {r0 : Rd} (hp0 : Pre T 12 r0) : ∀ {f : Nat} {p : List Rl × Rd}, RsSt T r0 p → RsSt T r0 (relsL T f p)
  | 0, p, h => h
  | f + 1, (l, r), h => by
    obtain ⟨k1, k2⟩ := rels_next hT hp0 h
    unfold relsL
    split
    · rename_i hi
      exact relsL_ok hT hp0 (k1 hi).1
    · exact k2
theorem relsL_more {T : List Tk} (hT : OkTk T) {r0 : Rd} (hp0 : Pre T 12 r0) : ∀ {f g : Nat} {p : List Rl × Rd}, RsSt T r0 p → T.length ≤ f + p.2.at' → T.length ≤ g + p.2.at' → relsL T f p = relsL T g p
  | 0, g, p, h, h1, h2 => by have h3 : p.2.at' < T.length := h.st.inr; omega
  | f + 1, 0, p, h, h1, h2 => by have h3 : p.2.at' < T.length := h.st.inr; omega
  | f + 1, g + 1, (l, r), h, h1, h2 => by
    dsimp only at h1 h2
    obtain ⟨k1, k2⟩ := rels_next hT hp0 h
    unfold relsL
    split
    · rename_i hi
      obtain ⟨k3, k4⟩ := k1 hi
      exact relsL_more hT hp0 k3 (by dsimp only; omega) (by dsimp only; omega)
    · rfl
structure TsSt (T : List Tk) (p : List Ty × Rd) : Prop where
  pre : Pre T 12 p.2
  len : p.1.length ≤ p.2.at'
  ok : ∀ t ∈ p.1, OkT t
  sz : p.2.de = 0 → ∀ t ∈ p.1, ∀ x ∈ t.rels, rsz x ≤ p.2.at'
theorem types_next {T : List Tk} (hT : OkTk T) {l : List Ty} {r : Rd} (h : TsSt T (l, r)) (hi : isP T wType r = true) :
    Pre T 12 (isR T wType r) ∧ Pre T 12 (nameR T (isR T wType r)) ∧ RsSt T (nameR T (isR T wType r)) (relsL T T.length ([], nameR T (isR T wType r))) ∧
    TsSt T (l ++ [⟨nameP T (isR T wType r), (relsL T T.length ([], nameR T (isR T wType r))).1⟩], (relsL T T.length ([], nameR T (isR T wType r))).2) ∧ r.at' + 1 ≤ (relsL T T.length ([], nameR T (isR T wType r))).2.at' := by
  have hp : Pre T 12 r := h.pre
  have h1 := is_step hT hp hi (by decide +kernel) (by decide +kernel)
  have hp1 := h1.pre hp
  have h2 := name_step hT hp1
  have hp2 := h2.pre hp1
  have e1 : (isR T wType r).at' = r.at' + 1 := by rw [isR, if_pos hi]
  have hR := relsL_ok hT hp2 (f := T.length) (p := ([], nameR T (isR T wType r))) ⟨StepR.refl hp2, Nat.zero_le _, fun x hx => (by cases hx), fun _ x hx => (by cases hx)⟩
  have hn := name_size hT hp1.inr
  generalize relsL T T.length ([], nameR T (isR T wType r)) = p at hR
  obtain ⟨rs, r3⟩ := p
  have m1 := h2.mono
  have m2 := hR.st.mono
  have m3 := hR.len
  have m4 := h.len
  have hin : r3.at' < T.length := hR.st.inr
  have hTl := hT.len
  dsimp only at m2 m3 m4 ⊢
  refine ⟨hp1, hp2, hR, ⟨hR.st.pre hp2, ?_, fun t ht => ?_, fun h0 t ht x hx => ?_⟩, by omega⟩
  · simp only [List.length_append, List.length_cons, List.length_nil]; omega
  · rcases List.mem_append.1 ht with ht | ht
    · exact h.ok t ht
    · rw [List.mem_singleton.1 ht]
      exact ⟨hn, by dsimp only; omega, hR.ok⟩
  · dsimp only at h0 ⊢
    rcases List.mem_append.1 ht with ht | ht
    · have := h.sz (h1.fault (h2.fault (hR.st.fault h0))) t ht x hx
      dsimp only at this
      omega
    · rw [List.mem_singleton.1 ht] at hx
      exact hR.sz h0 x hx
theorem typesL_ok {T : List Tk} (hT : OkTk T) : ∀ {f : Nat} {p : List Ty × Rd}, TsSt T p → TsSt T (typesL T f p)
  | 0, p, h => h
  | f + 1, (l, r), h => by
    unfold typesL
    split
    · rename_i hi
      exact typesL_ok hT (types_next hT h hi).2.2.2.1
    · exact h
theorem typesL_more {T : List Tk} (hT : OkTk T) : ∀ {f g : Nat} {p : List Ty × Rd}, TsSt T p → T.length ≤ f + p.2.at' → T.length ≤ g + p.2.at' → typesL T f p = typesL T g p
  | 0, g, p, h, h1, h2 => by have h3 : p.2.at' < T.length := h.pre.inr; omega
  | f + 1, 0, p, h, h1, h2 => by have h3 : p.2.at' < T.length := h.pre.inr; omega
  | f + 1, g + 1, (l, r), h, h1, h2 => by
    dsimp only at h1 h2
    unfold typesL
    split
    · rename_i hi
      obtain ⟨-, -, -, k3, k4⟩ := types_next hT h hi
      exact typesL_more hT k3 (by dsimp only; omega) (by dsimp only; omega)
    · rfl
theorem pre0 {T : List Tk} (h : 0 < T.length) : Pre T 12 rd0 := ⟨h, by decide, by decide, fun _ => by decide⟩
theorem ts0 {T : List Tk} (h : 0 < T.length) : TsSt T ([], rd0) := ⟨pre0 h, Nat.zero_le _, fun t ht => (by cases ht), fun _ t ht => (by cases ht)⟩
theorem end_step {T : List Tk} {r : Rd} (hp : Pre T 12 r) : StepR T r (endR T r) 0 := by
  unfold endR
  split
  · exact fail_step _ (by decide) 0 (StepR.refl hp)
  · exact StepR.refl hp
theorem parseT_ok {T : List Tk} (hT : OkTk T) (h : 0 < T.length) : OkS (parseT T).1 ∧ ∀ t ∈ (parseT T).1, ∀ x ∈ t.rels, rsz x ≤ T.length := by
  have hR := typesL_ok hT (f := T.length) (ts0 h)
  have hin : (typesL T T.length ([], rd0)).2.at' < T.length := hR.pre.inr
  have hl := hR.len
  have hTl := hT.len
  unfold parseT
  split
  · rename_i h0
    refine ⟨⟨by dsimp only; omega, hR.ok⟩, fun t ht x hx => ?_⟩
    have := hR.sz ((end_step hR.pre).fault h0) t ht x hx
    omega
  · exact ⟨⟨Nat.zero_le _, fun t ht => (by cases ht)⟩, fun t ht => (by cases ht)⟩
end Go.HL
set_option linter.unusedVariables false
set_option linter.unusedSimpArgs false
set_option maxRecDepth 4000
namespace Go.HL
def Apart (u v : AV) : Prop := ∀ b off n cap, v = .own b off n cap → Aside u b
theorem LstN.keep {S0 S S' : Store} {t sz : Nat} {u u' v : AV} {rows : List (List AV)} (h : LstN S0 S t sz v rows) (ha : Apart u v) (hk : ∀ c o, sget S c = some o → Aside u c → sget S' c = some o ∧ Aside u' c) : LstN S0 S' t sz v rows ∧ Apart u' v := by
  obtain ⟨hr, ⟨rfl, rfl⟩ | ⟨b, cap, rfl, h1, h2, h3⟩⟩ := h
  · exact ⟨.nil, fun b off n cap h => by cases h⟩
  · obtain ⟨k1, k2⟩ := hk b _ h2 (ha b 0 _ _ rfl)
    exact ⟨⟨hr, .inr ⟨b, cap, rfl, h1, k1, h3⟩⟩, fun b' off n cap h => by cases h; exact k2⟩
theorem Apart.symm {u v : AV} (h : Apart u v) : Apart v u := fun b off n cap hu b' off' n' cap' hv => Ne.symm (h b' off' n' cap' hv b off n cap hu)
theorem apart_nils {v : AV} : Apart .nils v := fun b off n cap _ => aside_nils
structure PrI (S : Store) (bR b2 b3 b5 : Nat) (T : List Tk) (v : AV) (p : List Ty × Rd) (S' : Store) : Prop where
  rd : sget S' bR = some (rdO T p.2)
  c2 : sget S' b2 = some (.cells 24 [.nils] 1)
  c3 : sget S' b3 = some (.cells 77 [.int .i64 0, .int .i64 0, .int .i64 0] 3)
  c5 : sget S' b5 = some (.cells 24 [v] 1)
  lst : LstN S S' 51 2 v (p.1.map tyC)
  asd : ∀ c ∈ [bR, b2, b3, b5], Aside v c
  sub : Sub S S'
theorem PrI.mv {S S' : Store} {bR b2 b3 b5 : Nat} {T : List Tk} {v : AV} {l : List Ty} {r : Rd} (h : PrI S bR b2 b3 b5 T v (l, r) S') (hd : [bR, b2, b3, b5].Nodup) (hR : sget S bR = none) (r' : Rd) : PrI S bR b2 b3 b5 T v (l, r') (supd S' bR (rdO T r')) := by
  simp only [List.nodup_cons, List.mem_cons, not_or, List.not_mem_nil, or_false, not_false_eq_true, List.nodup_nil, and_true] at hd
  obtain ⟨⟨n2, n3, n5⟩, ⟨m3, m5⟩, l5⟩ := hd
  exact ⟨by rw [sget_supd, if_pos rfl], by rw [sget_supd, if_neg n2]; exact h.c2, by rw [sget_supd, if_neg n3]; exact h.c3, by rw [sget_supd, if_neg n5]; exact h.c5, h.lst.upd (h.asd bR (by simp)) _, h.asd, h.sub.supd hR⟩
structure PrJ (S : Store) (bR b2 b3 b5 b6 : Nat) (T : List Tk) (v u : AV) (nm : ByteArray) (l : List Ty) (p : List Rl × Rd) (S' : Store) : Prop where
  out : PrI S bR b2 b3 b5 T v (l, p.2) S'
  c6 : sget S' b6 = some (.cells 51 [.str nm, u] 2)
  ins : LstN S S' 43 6 u (p.1.map rlC)
  asd : ∀ c ∈ [bR, b2, b3, b5, b6], Aside u c
  asd6 : Aside v b6
  apt : Apart u v
theorem PrJ.mv {S S' : Store} {bR b2 b3 b5 b6 : Nat} {T : List Tk} {v u : AV} {nm : ByteArray} {l : List Ty} {rs : List Rl} {r : Rd} (h : PrJ S bR b2 b3 b5 b6 T v u nm l (rs, r) S') (hd : [bR, b2, b3, b5].Nodup) (h6 : bR ≠ b6) (hR : sget S bR = none) (r' : Rd) : PrJ S bR b2 b3 b5 b6 T v u nm l (rs, r') (supd S' bR (rdO T r')) :=
  ⟨h.out.mv hd hR r', by rw [sget_supd, if_neg h6]; exact h.c6, h.ins.upd (h.asd bR (by simp)) _, h.asd, h.asd6, h.apt⟩
theorem PrJ.more {S S1 : Store} {bR b2 b3 b5 b6 : Nat} {T : List Tk} {v u : AV} {nm : ByteArray} {l : List Ty} {rs : List Rl} {r : Rd} (h : PrJ S bR b2 b3 b5 b6 T v u nm l (rs, r) S1) (hd6 : ∀ c ∈ [bR, b2, b3, b5], b6 ≠ c) (k6 : sget S b6 = none) (x : Rl) (hlen : rs.length ≤ 100000) {K : Store → Prop} (hK : ∀ u' S3, PrJ S bR b2 b3 b5 b6 T v u' nm l (rs ++ [x], r) S3 → K S3) :
    apW S1 43 6 104 u (.sl 6 [rlC x]) fun u' S2 => soW (objAt S2 b6) S2 1 b6 1 u' K := by
  obtain ⟨⟨hrd, h2, h3, h5, hl, ha, hs⟩, hc6, hin, hau, ha6, hap⟩ := h
  dsimp only at hrd hl hin
  refine hin.app hs (xs := [rlC x]) (fun r hr => by rw [List.mem_singleton] at hr; subst hr; exact rlC_len x) (by rw [rlC_eq]; rfl) (by simp; omega) ?_
  intro u' S2 k1 k2 k3
  obtain ⟨q6, q6a⟩ := k3 b6 _ hc6 (hau b6 (by simp))
  have hone := k2.one
  have hac : aCells u' = [u'] := by cases u' <;> first | rfl | cases hone
  obtain ⟨j1, j2⟩ := hl.keep hap k3
  rw [objAt_some.2 q6, soW_some, hac]
  refine ⟨rfl, by simp, by simp [ones, hone], hK u' _ ⟨⟨?_, ?_, ?_, ?_, j1.upd ha6 _, ha, k1.supd k6⟩, by rw [sget_supd, if_pos rfl]; rfl, ?_, fun c hc => ?_, ha6, j2⟩⟩
  · rw [sget_supd, if_neg (hd6 bR (by simp))]; exact (k3 bR _ hrd (hau bR (by simp))).1
  · rw [sget_supd, if_neg (hd6 b2 (by simp))]; exact (k3 b2 _ h2 (hau b2 (by simp))).1
  · rw [sget_supd, if_neg (hd6 b3 (by simp))]; exact (k3 b3 _ h3 (hau b3 (by simp))).1
  · rw [sget_supd, if_neg (hd6 b5 (by simp))]; exact (k3 b5 _ h5 (hau b5 (by simp))).1
  · simpa using k2.upd q6a _
  · simp only [List.mem_cons, List.not_mem_nil, or_false] at hc
    rcases hc with rfl | rfl | rfl | rfl | rfl
    · exact (k3 _ _ hrd (hau _ (by simp))).2
    · exact (k3 _ _ h2 (hau _ (by simp))).2
    · exact (k3 _ _ h3 (hau _ (by simp))).2
    · exact (k3 _ _ h5 (hau _ (by simp))).2
    · exact q6a
theorem Frs.app {S0 S : Store} : ∀ {a a' b b' : List AV}, Frs S0 S a a' → Frs S0 S b b' → Frs S0 S (a ++ b) (a' ++ b')
  | [], [], b, b', _, h => h
  | [], x :: r, b, b', h, _ => by cases h.1
  | x :: r, [], b, b', h, _ => by cases h.1
  | x :: r, y :: r', b, b', h, k => .cons (h.2 0 x y rfl rfl) (Frs.app ⟨by simpa using h.1, fun i u u' h1 h2 => h.2 (i + 1) u u' (by simpa using h1) (by simpa using h2)⟩ k)
theorem PrJ.typ {S S1 : Store} {bR b2 b3 b5 b6 : Nat} {T : List Tk} {v u : AV} {nm : ByteArray} {l : List Ty} {rs : List Rl} {r : Rd} (h : PrJ S bR b2 b3 b5 b6 T v u nm l (rs, r) S1) (hd : [bR, b2, b3, b5].Nodup) (hd6 : ∀ c ∈ [bR, b2, b3, b5], b6 ≠ c) (hn : ∀ c ∈ [bR, b2, b3, b5], sget S c = none) (hlen : l.length ≤ 100000) {q : LE → Store → Prop} {le : LE} (hK : ∀ v' S3, PrI S bR b2 b3 b5 T v' (l ++ [⟨nm, rs⟩], r) S3 → q le S3) :
    apW S1 51 2 40 v (.sl 2 [[.str nm, u]]) fun v' S2 => soW (objAt S2 b5) S2 1 b5 0 v' fun S3 => rcW q le S3 := by
  obtain ⟨⟨hrd, h2, h3, h5, hl, ha, hs⟩, hc6, hin, hau, ha6, hap⟩ := h
  dsimp only at hrd hl hin
  have honeu := hin.one
  refine hl.app hs (xs := [[.str nm, u]]) (fun r hr => by rw [List.mem_singleton] at hr; subst hr; rfl) (by simp [ones, honeu]; rfl) (by simp; omega) ?_
  intro v' S2 k1 k2 k3
  obtain ⟨q5, q5a⟩ := k3 b5 _ h5 (ha b5 (by simp))
  obtain ⟨qR, qRa⟩ := k3 bR _ hrd (ha bR (by simp))
  obtain ⟨q2, q2a⟩ := k3 b2 _ h2 (ha b2 (by simp))
  obtain ⟨q3, q3a⟩ := k3 b3 _ h3 (ha b3 (by simp))
  obtain ⟨j1, j2⟩ := hin.keep hap.symm k3
  have hone := k2.one
  have hac : aCells v' = [v'] := by cases v' <;> first | rfl | cases hone
  rw [objAt_some.2 q5, soW_some, hac]
  refine ⟨rfl, by simp, by simp [ones, hone], ?_⟩
  simp only [List.nodup_cons, List.mem_cons, not_or, List.not_mem_nil, or_false, not_false_eq_true, List.nodup_nil, and_true] at hd
  obtain ⟨⟨n2, n3, n5⟩, ⟨m3, m5⟩, l5⟩ := hd
  obtain ⟨hr, ⟨rfl, h0⟩ | ⟨bv, cap, rfl, e1, e2, e3, e4, e5⟩⟩ := k2
  · simp at h0
  have dR := qRa bv 0 _ _ rfl
  have d2 := q2a bv 0 _ _ rfl
  have d3 := q3a bv 0 _ _ rfl
  have d5 := q5a bv 0 _ _ rfl
  let S0 : Store := supd (supd (supd (supd S bR (rdO T r)) b2 (.cells 24 [.nils] 1)) b3 (.cells 77 [.int .i64 0, .int .i64 0, .int .i64 0] 3)) b5 (.cells 24 [.own bv 0 ((l.map tyC) ++ [[.str nm, u]]).length cap] 1)
  have hS0 : Sub S0 (supd S2 b5 (.cells 24 [.own bv 0 ((l.map tyC) ++ [[.str nm, u]]).length cap] 1)) := by
    intro x y hx
    rw [sget_supd] at hx ⊢
    by_cases g5 : b5 = x
    · rw [if_pos g5] at hx ⊢; exact hx
    rw [if_neg g5] at hx ⊢
    rw [sget_supd] at hx
    by_cases g3 : b3 = x
    · rw [if_pos g3] at hx; rw [← g3, q3]; exact hx
    rw [if_neg g3, sget_supd] at hx
    by_cases g2 : b2 = x
    · rw [if_pos g2] at hx; rw [← g2, q2]; exact hx
    rw [if_neg g2, sget_supd] at hx
    by_cases gR : bR = x
    · rw [if_pos gR] at hx; rw [← gR, qR]; exact hx
    rw [if_neg gR] at hx
    exact k1 x y hx
  have hv0 : sget S0 bv = none := by
    show sget (supd _ _ _) bv = none
    rw [sget_supd, if_neg d5, sget_supd, if_neg d3, sget_supd, if_neg d2, sget_supd, if_neg dR]
    exact e1
  have hvc : sget (supd S2 b5 (.cells 24 [.own bv 0 ((l.map tyC) ++ [[.str nm, u]]).length cap] 1)) bv = some (.cells 51 ((l.map tyC) ++ [[.str nm, u]]).flatten (cap * 2)) := by
    rw [sget_supd, if_neg d5]; exact e2
  have hcs : ((l.map tyC) ++ [[.str nm, u]]).flatten = (l.map tyC).flatten ++ [.str nm, u] := by simp
  have hcs' : ((l ++ [(⟨nm, rs⟩ : Ty)]).map tyC).flatten = (l.map tyC).flatten ++ [.str nm, .sl 6 (rs.map rlC)] := by simp [tyC]
  have hlen' : ((l ++ [(⟨nm, rs⟩ : Ty)]).map tyC).length = ((l.map tyC) ++ [[.str nm, u]]).length := by simp
  refine rcW_cells (cs' := ((l ++ [(⟨nm, rs⟩ : Ty)]).map tyC).flatten) hS0 hv0 hvc ?_ (hK (.own bv 0 ((l.map tyC) ++ [[.str nm, u]]).length cap) _ ⟨?_, ?_, ?_, ?_, ⟨fun r hr => ?_, .inr ⟨bv, cap, by rw [hlen'], e1, by rw [sget_supd, if_pos rfl], by rw [hlen']; exact e3, e4, by rw [hlen']; exact e5⟩⟩, fun c hc => ?_, ?_⟩)
  · rw [hcs, hcs']
    refine Frs.app (Frs.same _) (.cons (.same _) (.cons (Fr.lst (t := 43) ?_) .nil))
    obtain ⟨g1, ⟨rfl, g2⟩ | ⟨bu, capu, rfl, f1, f2, f3⟩⟩ := j1
    · exact ⟨g1, .inl ⟨rfl, g2⟩⟩
    · refine ⟨g1, .inr ⟨bu, capu, rfl, ?_, ?_, f3⟩⟩
      · have w5 := hau b5 (by simp) bu 0 _ _ rfl
        have w3 := hau b3 (by simp) bu 0 _ _ rfl
        have w2 := hau b2 (by simp) bu 0 _ _ rfl
        have wR := hau bR (by simp) bu 0 _ _ rfl
        have wv := j2 bu 0 _ _ rfl bv 0 _ _ rfl
        rw [sget_supd, if_neg (Ne.symm wv)]
        show sget (supd _ _ _) bu = none
        rw [sget_supd, if_neg w5, sget_supd, if_neg w3, sget_supd, if_neg w2, sget_supd, if_neg wR]
        exact f1
      · have w5 := hau b5 (by simp) bu 0 _ _ rfl
        rw [sget_supd, if_neg w5]; exact f2
  · rw [sget_supd, if_neg (Ne.symm dR)]
    show sget (supd _ _ _) bR = _
    rw [sget_supd, if_neg (Ne.symm n5), sget_supd, if_neg (Ne.symm n3), sget_supd, if_neg (Ne.symm n2), sget_supd, if_pos rfl]
  · rw [sget_supd, if_neg (Ne.symm d2)]
    show sget (supd _ _ _) b2 = _
    rw [sget_supd, if_neg (Ne.symm m5), sget_supd, if_neg (Ne.symm m3), sget_supd, if_pos rfl]
  · rw [sget_supd, if_neg (Ne.symm d3)]
    show sget (supd _ _ _) b3 = _
    rw [sget_supd, if_neg (Ne.symm l5), sget_supd, if_pos rfl]
  · rw [sget_supd, if_neg (Ne.symm d5)]
    show sget (supd _ _ _) b5 = _
    rw [sget_supd, if_pos rfl]
  · obtain ⟨t, -, rfl⟩ := List.mem_map.1 hr
    rfl
  · simp only [List.mem_cons, List.not_mem_nil, or_false] at hc
    rcases hc with rfl | rfl | rfl | rfl
    · exact qRa
    · exact q2a
    · exact q3a
    · exact q5a
  · have s1 := (Sub.refl S).supd (o := rdO T r) (hn bR (by simp))
    exact (((((Sub.refl S).supd (hn bR (by simp))).supd (hn b2 (by simp))).supd (hn b3 (by simp))).supd (hn b5 (by simp))).supd e1
theorem tokL_ne : ∀ {f : Nat} {l : List UInt8} {a b : Nat}, l.length < f → tokL f l a b ≠ []
  | 0, l, a, b, h => by omega
  | f + 1, [], a, b, h => by simp [tokL]
  | f + 1, c :: r, a, b, h => by
    unfold tokL
    simp only [List.length_cons] at h
    split
    · exact tokL_ne (by omega)
    · split
      · split <;> simp
      · simp
theorem tokT_pos (s : ByteArray) : 0 < (tokT s).length := List.length_pos_iff.2 (tokL_ne (by rw [bl_len]; omega))
def parseF (s : ByteArray) : List Ty × AV := if 4096 < s.size then ([], .agg [.int .i64 1, .int .i64 1, .int .i64 2]) else parseT (tokT s)
theorem c_Parse (s : ByteArray) : AFun PG nr_ref11_Parse [.str s] (.tup [scA (parseF s).1, (parseF s).2]) := by
  intro S
  refine w_ref11_Parse ?_
  unfold B_ref11_Parse
  intro b2 hb2
  (try simp only [rws, hwR, Nat.reduceAdd, Nat.reduceLeDiff, Nat.reduceLT, Nat.reduceSub, Nat.reduceMul, Nat.reduceEqDiff, Nat.reduceBEq, Int.reduceAdd, Int.reduceToNat, beq_self_eq_true])
  intro b3 hb3
  have n23 : b3 ≠ b2 := sget_ne hb3 (x := .cells 24 [.nils] 1) (by rw [sget_supd, if_pos rfl])
  have k3 : sget S b3 = none := by rw [sget_supd, if_neg (Ne.symm n23)] at hb3; exact hb3
  (try simp only [rws, hwR, Nat.reduceAdd, Nat.reduceLeDiff, Nat.reduceLT, Nat.reduceSub, Nat.reduceMul, Nat.reduceEqDiff, Nat.reduceBEq, Int.reduceAdd, Int.reduceToNat, beq_self_eq_true, if_neg n23, if_neg (Ne.symm n23)])
  (refine cnW_intro (fun hl => ?_) (fun hl => ?_) <;> (try simp only [hlc] at hl))
  · have hpf : parseF s = ([], .agg [.int .i64 1, .int .i64 1, .int .i64 2]) := by rw [parseF, if_pos (by omega)]
    rw [hpf]
    refine rtW_fr S (.tup [scA [], .agg [.int .i64 1, .int .i64 1, .int .i64 2]]) (((((Sub.refl S).supd hb2).supd k3).supd hb2).supd k3) ?_ ⟨rfl, rfl⟩
    (try simp only [rws, hwR, Nat.reduceAdd, Nat.reduceLeDiff, Nat.reduceLT, Nat.reduceSub, Nat.reduceMul, Nat.reduceEqDiff, Nat.reduceBEq, Int.reduceAdd, Int.reduceToNat, beq_self_eq_true, if_neg n23, if_neg (Ne.symm n23)])
    exact .tu (.cons (.ag (.cons (.nils 2) .nil)) (.cons (.same _) .nil))
  have hs : s.size ≤ 4096 := by omega
  have hT := tokT_ok hs
  have hTl := hT.len
  have hpf : parseF s = parseT (tokT s) := by rw [parseF, if_neg (by omega)]
  refine caW_pure (c_Tokens hs) ?_
  have hpos := tokT_pos s
  rw [hpf]
  generalize tokT s = T at hT hpos hTl ⊢
  clear hpf hl hs
  (try simp only [rws, hwR, Nat.reduceAdd, Nat.reduceLeDiff, Nat.reduceLT, Nat.reduceSub, Nat.reduceMul, Nat.reduceEqDiff, Nat.reduceBEq, Int.reduceAdd, Int.reduceToNat, beq_self_eq_true])
  refine ⟨rfl, rfl, fun bR hbR => ?_⟩
  have nR2 : bR ≠ b2 := sget_ne hbR (x := .cells 24 [.nils] 1) (by rw [sget_supd, if_neg n23, sget_supd, if_pos rfl])
  have nR3 : bR ≠ b3 := sget_ne hbR (x := .cells 77 [.int .i64 0, .int .i64 0, .int .i64 0] 3) (by rw [sget_supd, if_pos rfl])
  have kR : sget S bR = none := by rw [sget_supd, if_neg (Ne.symm nR3), sget_supd, if_neg (Ne.symm nR2)] at hbR; exact hbR
  intro b5 hb5
  have n52 : b5 ≠ b2 := sget_ne hb5 (x := .cells 24 [.nils] 1) (by rw [sget_supd, if_neg nR2, sget_supd, if_neg n23, sget_supd, if_pos rfl])
  have n53 : b5 ≠ b3 := sget_ne hb5 (x := .cells 77 [.int .i64 0, .int .i64 0, .int .i64 0] 3) (by rw [sget_supd, if_neg nR3, sget_supd, if_pos rfl])
  have n5R : b5 ≠ bR := by
    rintro rfl
    rw [sget_supd, if_pos rfl] at hb5; cases hb5
  have k5 : sget S b5 = none := by rw [sget_supd, if_neg (Ne.symm n5R), sget_supd, if_neg (Ne.symm n53), sget_supd, if_neg (Ne.symm n52)] at hb5; exact hb5
  have hd : [bR, b2, b3, b5].Nodup := by
    simp only [List.nodup_cons, List.mem_cons, not_or, List.not_mem_nil, or_false, not_false_eq_true, List.nodup_nil, and_true]
    exact ⟨⟨nR2, nR3, Ne.symm n5R⟩, ⟨Ne.symm n23, Ne.symm n52⟩, Ne.symm n53⟩
  have hn : ∀ c ∈ [bR, b2, b3, b5], sget S c = none := by
    intro c hc
    simp only [List.mem_cons, List.not_mem_nil, or_false] at hc
    rcases hc with rfl | rfl | rfl | rfl <;> assumption
  (try simp only [rws, hwR, Nat.reduceAdd, Nat.reduceLeDiff, Nat.reduceLT, Nat.reduceSub, Nat.reduceMul, Nat.reduceEqDiff, Nat.reduceBEq, Int.reduceAdd, Int.reduceToNat, beq_self_eq_true])
  have hI0 : PrI S bR b2 b3 b5 T .nils ([], rd0) (supd (supd (supd (supd S b2 (.cells 24 [.nils] 1)) b3 (.cells 77 [.int .i64 0, .int .i64 0, .int .i64 0] 3)) bR (rdO T rd0)) b5 (.cells 24 [.nils] 1)) := by
    refine ⟨?_, ?_, ?_, ?_, .nil, fun c _ => aside_nils, ((((Sub.refl S).supd hb2).supd k3).supd kR).supd k5⟩ <;> simp [sget_supd, n23, nR2, nR3, n52, n53, n5R, Ne.symm n23, Ne.symm nR2, Ne.symm nR3, Ne.symm n52, Ne.symm n53, Ne.symm n5R]
  have hfin : typesL T T.length ([], rd0) = typesL T T.length ([], rd0) := rfl
  have hts := ts0 (T := T) hpos
  refine LoopP.introS (fun _ : List Ty × Rd => [(2, .ptr b2 0), (3, .ptr b3 0), (4, .ptr bR 0), (5, .ptr b5 0)])
    (fun p S' => (∃ v, PrI S bR b2 b3 b5 T v p S') ∧ TsSt T p ∧ typesL T T.length p = typesL T T.length ([], rd0)) (fun p => T.length - p.2.at') ([], rd0) ⟨⟨.nils, hI0⟩, hts, rfl⟩ rfl ?_
  clear hI0 hts hfin
  rintro ⟨l, r⟩ S1 ⟨⟨v, hI⟩, hTs, hf⟩ q hq
  have hp : Pre T 12 r := hTs.pre
  have hin : r.at' < T.length := hp.inr
  have hrd := hI.rd
  have hll := hTs.len
  dsimp only at hrd hll
  (try simp only [rws, hwR, Nat.reduceAdd, Nat.reduceLeDiff, Nat.reduceLT, Nat.reduceSub, Nat.reduceMul, Nat.reduceEqDiff, Nat.reduceBEq, Int.reduceAdd, Int.reduceToNat, beq_self_eq_true, C_ref11_Parse_1])
  refine (c_is hT hp.inr wType).ca hrd ?_
  cases hi : isP T wType r with
  | true =>
    obtain ⟨hp1, hp2, hR, hTs2, hmu⟩ := types_next hT hTs hi
    have hf2 : typesL T T.length (l ++ [⟨nameP T (isR T wType r), (relsL T T.length ([], nameR T (isR T wType r))).1⟩], (relsL T T.length ([], nameR T (isR T wType r))).2) = typesL T T.length ([], rd0) := by
      rw [← hf]
      obtain ⟨m, hm⟩ : ∃ m, T.length = m + 1 := ⟨T.length - 1, by omega⟩
      conv => rhs; rw [hm, typesL, if_pos hi]
      exact typesL_more hT hTs2 (by dsimp only; omega) (by dsimp only; omega)
    (try simp only [rws, hwR, Nat.reduceAdd, Nat.reduceLeDiff, Nat.reduceLT, Nat.reduceSub, Nat.reduceMul, Nat.reduceEqDiff, Nat.reduceBEq, Int.reduceAdd, Int.reduceToNat, beq_self_eq_true])
    refine (c_name hT hp1.inr).ca rd_new ?_
    (try simp only [rws, hwR, Nat.reduceAdd, Nat.reduceLeDiff, Nat.reduceLT, Nat.reduceSub, Nat.reduceMul, Nat.reduceEqDiff, Nat.reduceBEq, Int.reduceAdd, Int.reduceToNat, beq_self_eq_true])
    have hI2 := (hI.mv hd kR (isR T wType r)).mv hd kR (nameR T (isR T wType r))
    rw [supd_supd] at hI2
    generalize nameP T (isR T wType r) = nm at hf2 hTs2 ⊢
    have hI2' : PrI S bR b2 b3 b5 T v (l, nameR T (isR T wType r)) (supd S1 bR (rdO T (nameR T (isR T wType r)))) := hI2
    clear hI2
    generalize supd S1 bR (rdO T (nameR T (isR T wType r))) = S2 at hI2' ⊢
    generalize nameR T (isR T wType r) = r2 at hI2' hp2 hR hf2 hTs2 hmu
    intro b6 hb6
    (try simp only [rws, hwR, Nat.reduceAdd, Nat.reduceLeDiff, Nat.reduceLT, Nat.reduceSub, Nat.reduceMul, Nat.reduceEqDiff, Nat.reduceBEq, Int.reduceAdd, Int.reduceToNat, beq_self_eq_true])
    have hd6 : ∀ c ∈ [bR, b2, b3, b5], b6 ≠ c := by
      intro c hc
      simp only [List.mem_cons, List.not_mem_nil, or_false] at hc
      rcases hc with rfl | rfl | rfl | rfl
      · exact sget_ne hb6 hI2'.rd
      · exact sget_ne hb6 hI2'.c2
      · exact sget_ne hb6 hI2'.c3
      · exact sget_ne hb6 hI2'.c5
    have k6 := Sub.none hI2'.sub hb6
    have hJ0 : PrJ S bR b2 b3 b5 b6 T v .nils nm l ([], r2) (supd S2 b6 (.cells 51 [.str nm, .nils] 2)) := by
      have a6 := hI2'.lst.fresh hb6
      refine ⟨⟨?_, ?_, ?_, ?_, hI2'.lst.upd a6 _, hI2'.asd, hI2'.sub.supd k6⟩, by rw [sget_supd, if_pos rfl], .nil, fun c _ => aside_nils, a6, apart_nils⟩
      · rw [sget_supd, if_neg (hd6 bR (by simp))]; exact hI2'.rd
      · rw [sget_supd, if_neg (hd6 b2 (by simp))]; exact hI2'.c2
      · rw [sget_supd, if_neg (hd6 b3 (by simp))]; exact hI2'.c3
      · rw [sget_supd, if_neg (hd6 b5 (by simp))]; exact hI2'.c5
    have hRs0 : RsSt T r2 ([], r2) := ⟨StepR.refl hp2, Nat.zero_le _, fun x hx => (by cases hx), fun _ x hx => (by cases hx)⟩
    refine LoopP.introS (fun _ : List Rl × Rd => [(2, .ptr b2 0), (3, .ptr b3 0), (4, .ptr bR 0), (5, .ptr b5 0), (6, .ptr b6 0)])
      (fun p S' => (∃ u, PrJ S bR b2 b3 b5 b6 T v u nm l p S') ∧ RsSt T r2 p ∧ relsL T T.length p = relsL T T.length ([], r2)) (fun p => T.length - p.2.at') ([], r2) ⟨⟨.nils, hJ0⟩, hRs0, rfl⟩ rfl ?_
    clear hJ0 hRs0 hI2'
    rintro ⟨rs, r3⟩ S3 ⟨⟨u, hJ⟩, hRs, hfr⟩ q2 hq2
    have hp3 := hRs.st.pre hp2
    have hin3 : r3.at' < T.length := hp3.inr
    have hlr := hRs.len
    dsimp only at hlr
    obtain ⟨k1, k2⟩ := rels_next hT hp2 hRs
    (try simp only [rws, hwR, Nat.reduceAdd, Nat.reduceLeDiff, Nat.reduceLT, Nat.reduceSub, Nat.reduceMul, Nat.reduceEqDiff, Nat.reduceBEq, Int.reduceAdd, Int.reduceToNat, beq_self_eq_true, C_ref11_Parse_4])
    refine (c_rel hT hp3).ca hJ.out.rd ?_
    have hJ2 := hJ.mv hd (Ne.symm (hd6 bR (by simp))) kR (relP T r3).2
    have o6 := objAt_some.2 hJ2.c6
    have o5 := objAt_some.2 hJ2.out.c5
    cases hok : (relP T r3).1.2 with
    | true =>
      obtain ⟨k3', k4⟩ := k1 hok
      have hfr2 : relsL T T.length (rs ++ [(relP T r3).1.1], (relP T r3).2) = relsL T T.length ([], r2) := by
        rw [← hfr]
        obtain ⟨m, hm⟩ : ∃ m, T.length = m + 1 := ⟨T.length - 1, by omega⟩
        conv => rhs; rw [hm, relsL, if_pos hok]
        exact relsL_more hT hp2 k3' (by dsimp only; omega) (by dsimp only; omega)
      have hmr := hJ2.more hd6 k6 (relP T r3).1.1 (by omega) (K := fun S4 => rcW q2 [(2, .ptr b2 0), (3, .ptr b3 0), (4, .ptr bR 0), (5, .ptr b5 0), (6, .ptr b6 0)] S4) fun u' S4 hJ4 => rcW_as rfl (hq2 (rs ++ [(relP T r3).1.1], (relP T r3).2) S4 ⟨⟨u', hJ4⟩, k3', hfr2⟩ (by dsimp only; omega))
      simp only [rlC_eq] at hmr
      (try simp only [rws, hwR, Nat.reduceAdd, Nat.reduceLeDiff, Nat.reduceLT, Nat.reduceSub, Nat.reduceMul, Nat.reduceEqDiff, Nat.reduceBEq, Int.reduceAdd, Int.reduceToNat, beq_self_eq_true, rlC_eq, cellsAt_of o6, ones_cons])
      exact hmr
    | false =>
      have hstop : relsL T T.length (rs, r3) = (rs, (relP T r3).2) := by
        obtain ⟨m, hm⟩ : ∃ m, T.length = m + 1 := ⟨T.length - 1, by omega⟩
        rw [hm, relsL, if_neg (by rw [hok]; simp)]
      rw [hstop] at hfr
      rw [← hfr] at hf2 hTs2 hmu
      have hone := hJ2.ins.one
      have htp := hJ2.typ hd hd6 hn (by omega) (q := q) (le := [(2, .ptr b2 0), (3, .ptr b3 0), (4, .ptr bR 0), (5, .ptr b5 0)]) fun v' S4 hI4 => hq (l ++ [⟨nm, rs⟩], (relP T r3).2) S4 ⟨⟨v', hI4⟩, hTs2, hf2⟩ (by dsimp only at hmu ⊢; omega)
      dsimp only
      (try simp only [rws, hwR, Nat.reduceAdd, Nat.reduceLeDiff, Nat.reduceLT, Nat.reduceSub, Nat.reduceMul, Nat.reduceEqDiff, Nat.reduceBEq, Int.reduceAdd, Int.reduceToNat, beq_self_eq_true, rlC_eq, cellsAt_of o6, cellsAt_of o5, ones_cons])
      exact htp
  | false =>
    rw [isR_no hi, supd_self hrd]
    have hstop : typesL T T.length (l, r) = (l, r) := by
      cases T.length with
      | zero => rfl
      | succ m => rw [typesL, if_neg (by rw [hi]; simp)]
    rw [hstop] at hf
    have ho := rd_at hrd
    (try simp only [rws, hwR, Nat.reduceAdd, Nat.reduceLeDiff, Nat.reduceLT, Nat.reduceSub, Nat.reduceMul, Nat.reduceEqDiff, Nat.reduceBEq, Int.reduceAdd, Int.reduceToNat, beq_self_eq_true, cellsAt_of ho])
    have fin : ∀ S2, PrI S bR b2 b3 b5 T v (l, endR T r) S2 → C_ref11_Parse_3 (fun ae S' => ae = .ret (.tup [scA (parseT T).1, (parseT T).2]) ∧ S' = S) (.ptr b2 0) (.ptr b3 0) (.ptr bR 0) (.ptr b5 0) S2 := by
      intro S2 hI2
      have hr2 := rd_at hI2.rd
      have o2 := objAt_some.2 hI2.c2
      have o3 := objAt_some.2 hI2.c3
      have o5 := objAt_some.2 hI2.c5
      have hone := hI2.lst.one
      have hac : aCells v = [v] := by cases v <;> first | rfl | cases hone
      unfold C_ref11_Parse_3
      (try simp only [rws, hwR, Nat.reduceAdd, Nat.reduceLeDiff, Nat.reduceLT, Nat.reduceSub, Nat.reduceMul, Nat.reduceEqDiff, Nat.reduceBEq, Int.reduceAdd, Int.reduceToNat, beq_self_eq_true, cellsAt_of hr2])
      have hpt : parseT T = if (endR T r).de = 0 then (l, .agg [.int .i64 0, .int .i64 0, .int .i64 0]) else ([], .agg [.int .i64 (endR T r).dl, .int .i64 (endR T r).dc, .int .i64 (endR T r).de]) := by
        rw [parseT, ← hf]
      have nR2' : b2 ≠ bR := Ne.symm nR2
      have n32 := Ne.symm n23
      (refine cnW_intro (fun hde => ?_) (fun hde => ?_) <;> (try simp only [hlc] at hde))
      · rw [if_neg hde] at hpt
        rw [hpt]
        (try simp only [rws, hwR, Nat.reduceAdd, Nat.reduceLeDiff, Nat.reduceLT, Nat.reduceSub, Nat.reduceMul, Nat.reduceEqDiff, Nat.reduceBEq, Int.reduceAdd, Int.reduceToNat, beq_self_eq_true, o2])
        refine kpW_one (by rw [sget_supd, if_neg nR2']) ?_
        have o3' : objAt (supd S2 b2 (.cells 24 [.nils] 1)) b3 = some (77, [.int .i64 0, .int .i64 0, .int .i64 0], 3) := by rw [objAt_ne n32]; exact o3
        (try simp only [rws, hwR, Nat.reduceAdd, Nat.reduceLeDiff, Nat.reduceLT, Nat.reduceSub, Nat.reduceMul, Nat.reduceEqDiff, Nat.reduceBEq, Int.reduceAdd, Int.reduceToNat, beq_self_eq_true, o3', if_neg n32, o3])
        refine rtW_fr S (.tup [scA [], .agg [.int .i64 (endR T r).dl, .int .i64 (endR T r).dc, .int .i64 (endR T r).de]]) ((hI2.sub.supd hb2).supd k3) ?_ ⟨rfl, rfl⟩
        (try simp only [rws, hwR, Nat.reduceAdd, Nat.reduceLeDiff, Nat.reduceLT, Nat.reduceSub, Nat.reduceMul, Nat.reduceEqDiff, Nat.reduceBEq, Int.reduceAdd, Int.reduceToNat, beq_self_eq_true, if_neg n23, if_neg n32])
        exact .tu (.cons (.ag (.cons (.nils 2) .nil)) (.cons (.same _) .nil))
      · rw [if_pos hde] at hpt
        rw [hpt]
        have o3' : ∀ x, objAt (supd S2 b2 (.cells 24 [x] 1)) b3 = some (77, [.int .i64 0, .int .i64 0, .int .i64 0], 3) := fun x => by rw [objAt_ne n32]; exact o3
        (try simp only [rws, hwR, Nat.reduceAdd, Nat.reduceLeDiff, Nat.reduceLT, Nat.reduceSub, Nat.reduceMul, Nat.reduceEqDiff, Nat.reduceBEq, Int.reduceAdd, Int.reduceToNat, beq_self_eq_true, cellsAt_of o5, o2, hac, o3', ones, hone, Bool.and_true, if_neg n32, o3])
        refine rtW_fr S (.tup [scA l, .agg [.int .i64 0, .int .i64 0, .int .i64 0]]) ((hI2.sub.supd hb2).supd k3) ?_ ⟨rfl, rfl⟩
        (try simp only [rws, hwR, Nat.reduceAdd, Nat.reduceLeDiff, Nat.reduceLT, Nat.reduceSub, Nat.reduceMul, Nat.reduceEqDiff, Nat.reduceBEq, Int.reduceAdd, Int.reduceToNat, beq_self_eq_true, if_neg n23, if_neg n32])
        have a2 := hI2.asd b2 (by simp)
        have a3 := hI2.asd b3 (by simp)
        exact .tu (.cons (.ag (.cons (Fr.lst ((hI2.lst.upd a2 _).upd a3 _)) .nil)) (.cons (.same _) .nil))
    cases a1 : decide (r.de = 0) with
    | false =>
      (try simp only [rws, hwR, Nat.reduceAdd, Nat.reduceLeDiff, Nat.reduceLT, Nat.reduceSub, Nat.reduceMul, Nat.reduceEqDiff, Nat.reduceBEq, Int.reduceAdd, Int.reduceToNat, beq_self_eq_true, C_ref11_Parse_2])
      refine fin S1 ?_
      have : endR T r = r := by rw [endR, if_neg (fun h => by rw [decide_eq_true h.1] at a1; cases a1)]
      rw [this]
      exact hI
    | true =>
      have hde := of_decide_eq_true a1
      (try simp only [rws, hwR, Nat.reduceAdd, Nat.reduceLeDiff, Nat.reduceLT, Nat.reduceSub, Nat.reduceMul, Nat.reduceEqDiff, Nat.reduceBEq, Int.reduceAdd, Int.reduceToNat, beq_self_eq_true])
      refine (c_next hT hp.inr).ca hrd ?_
      rw [supd_self hrd]
      (try simp only [rws, hwR, Nat.reduceAdd, Nat.reduceLeDiff, Nat.reduceLT, Nat.reduceSub, Nat.reduceMul, Nat.reduceEqDiff, Nat.reduceBEq, Int.reduceAdd, Int.reduceToNat, beq_self_eq_true, tkC])
      cases a2 : decide ((nxP T r).s = ⟨#[]⟩) with
      | true =>
        (try simp only [rws, hwR, Nat.reduceAdd, Nat.reduceLeDiff, Nat.reduceLT, Nat.reduceSub, Nat.reduceMul, Nat.reduceEqDiff, Nat.reduceBEq, Int.reduceAdd, Int.reduceToNat, beq_self_eq_true, C_ref11_Parse_2])
        refine fin S1 ?_
        have : endR T r = r := by rw [endR, if_neg (fun h => h.2 (of_decide_eq_true a2))]
        rw [this]
        exact hI
      | false =>
        (try simp only [rws, hwR, Nat.reduceAdd, Nat.reduceLeDiff, Nat.reduceLT, Nat.reduceSub, Nat.reduceMul, Nat.reduceEqDiff, Nat.reduceBEq, Int.reduceAdd, Int.reduceToNat, beq_self_eq_true, C_ref11_Parse_2])
        refine (c_next hT hp.inr).ca hrd ?_
        rw [supd_self hrd]
        (try simp only [rws, hwR, Nat.reduceAdd, Nat.reduceLeDiff, Nat.reduceLT, Nat.reduceSub, Nat.reduceMul, Nat.reduceEqDiff, Nat.reduceBEq, Int.reduceAdd, Int.reduceToNat, beq_self_eq_true, tkC])
        refine (c_fail (nxP T r) 8).ca hrd ?_
        have : endR T r = failP (nxP T r) 8 r := by rw [endR, if_pos ⟨hde, of_decide_eq_false a2⟩]
        rw [← this]
        exact fin _ (hI.mv hd kR _)
end Go.HL
set_option linter.unusedVariables false
set_option linter.unusedSimpArgs false
set_option maxRecDepth 4000
namespace Go.HL
theorem parseF_snd (s : ByteArray) : ∃ a b c : Int, (parseF s).2 = .agg [.int .i64 a, .int .i64 b, .int .i64 c] := by
  unfold parseF
  split
  · exact ⟨_, _, _, rfl⟩
  · unfold parseT
    split
    · exact ⟨_, _, _, rfl⟩
    · exact ⟨_, _, _, rfl⟩
theorem c_read (s : ByteArray) : AFun PG nr_law12_read [.str s] (scA (parseF s).1) := by
  intro S
  obtain ⟨x, y, z, h⟩ := parseF_snd s
  refine w_law12_read ?_
  unfold B_law12_read
  intro b2 hb2
  (try simp only [rws, hwR, Nat.reduceAdd, Nat.reduceLeDiff, Nat.reduceLT, Nat.reduceSub, Nat.reduceMul, Nat.reduceEqDiff, Nat.reduceBEq, Int.reduceAdd, Int.reduceToNat, beq_self_eq_true])
  refine caW_pure (c_Parse s) ?_
  rw [h]
  (try simp only [rws, hwR, Nat.reduceAdd, Nat.reduceLeDiff, Nat.reduceLT, Nat.reduceSub, Nat.reduceMul, Nat.reduceEqDiff, Nat.reduceBEq, Int.reduceAdd, Int.reduceToNat, beq_self_eq_true, scA])
  intro b3 hb3
  have n1 : b3 ≠ b2 := sget_ne hb3 (x := .cells 24 [.nils] 1) (by rw [sget_supd, if_pos rfl])
  have k3 : sget S b3 = none := by rw [sget_supd, if_neg (Ne.symm n1)] at hb3; exact hb3
  (try simp only [rws, hwR, Nat.reduceAdd, Nat.reduceLeDiff, Nat.reduceLT, Nat.reduceSub, Nat.reduceMul, Nat.reduceEqDiff, Nat.reduceBEq, Int.reduceAdd, Int.reduceToNat, beq_self_eq_true])
  intro b4 hb4
  have n2 : b4 ≠ b3 := by
    rintro rfl
    rw [sget_supd, if_pos rfl] at hb4; cases hb4
  have n3 : b4 ≠ b2 := by
    rintro rfl
    rw [sget_supd, if_neg n1, sget_supd, if_pos rfl] at hb4; cases hb4
  have k4 : sget S b4 = none := by rw [sget_supd, if_neg (Ne.symm n2), sget_supd, if_neg (Ne.symm n3)] at hb4; exact hb4
  (try simp only [rws, hwR, Nat.reduceAdd, Nat.reduceLeDiff, Nat.reduceLT, Nat.reduceSub, Nat.reduceMul, Nat.reduceEqDiff, Nat.reduceBEq, Int.reduceAdd, Int.reduceToNat, beq_self_eq_true, if_neg n1, if_neg (Ne.symm n1), if_neg n2, if_neg (Ne.symm n2), if_neg n3, if_neg (Ne.symm n3)])
  refine rtW_go S ?_ ?_
  · intro a o ha
    have e2 := sget_ne hb2 ha
    have e3 := sget_ne k3 ha
    have e4 := sget_ne k4 ha
    simp only [sget_sdel, sget_supd, if_neg e2, if_neg e3, if_neg e4]
    exact ha
  · (try simp only [rws, hwR, Nat.reduceAdd, Nat.reduceLeDiff, Nat.reduceLT, Nat.reduceSub, Nat.reduceMul, Nat.reduceEqDiff, Nat.reduceBEq, Int.reduceAdd, Int.reduceToNat, beq_self_eq_true])
theorem c_levels {a : Lv} (ha : a.length ≤ 1125899906842624) (ha' : ∀ l ∈ a, l.length ≤ 1125899906842624) : AFun PG nr_law12_levels [.sl 1 (lvC a), .sl 1 (lvC a)] (.bool true) := by
  intro S
  refine w_law12_levels ?_
  unfold B_law12_levels
  have hln : (lvC a).length = a.length := by simp [lvC]
  (try simp only [rws, hwR, Nat.reduceAdd, Nat.reduceLeDiff, Nat.reduceLT, Nat.reduceSub, Nat.reduceMul, Nat.reduceEqDiff, Nat.reduceBEq, Int.reduceAdd, Int.reduceToNat, beq_self_eq_true, decide_true, Bool.not_true])
  refine LoopP.introS (fun i : Nat => [(0, .sl 1 (lvC a)), (1, .sl 1 (lvC a)), (5, .int .i64 i)]) (fun i S' => S' = S ∧ i ≤ a.length) (fun i => a.length - i) 0 ⟨rfl, by omega⟩ rfl ?_
  rintro i S' ⟨rfl, hi⟩ q hq
  (try simp only [rws, hwR, Nat.reduceAdd, Nat.reduceLeDiff, Nat.reduceLT, Nat.reduceSub, Nat.reduceMul, Nat.reduceEqDiff, Nat.reduceBEq, Int.reduceAdd, Int.reduceToNat, beq_self_eq_true, C_law12_levels_1])
  (refine cnW_intro (fun hlt => ?_) (fun hlt => ?_) <;> (try simp only [hlc] at hlt)) <;> rw [hln] at hlt
  · obtain ⟨l, hl⟩ := get_lt hlt
    have hbl := ha' l (List.mem_of_getElem? hl)
    have hcl : (lvC a)[i]? = some [.sl 1 (l.map fun x => [iv x])] := by rw [lvC, List.getElem?_map, hl]; rfl
    (try simp only [rws, hwR, Nat.reduceAdd, Nat.reduceLeDiff, Nat.reduceLT, Nat.reduceSub, Nat.reduceMul, Nat.reduceEqDiff, Nat.reduceBEq, Int.reduceAdd, Int.reduceToNat, beq_self_eq_true, hcl, decide_true, Bool.not_true])
    refine LoopP.introS (fun k : Nat => [(0, .sl 1 (lvC a)), (1, .sl 1 (lvC a)), (5, .int .i64 i), (6, .int .i64 k)]) (fun k S2 => S2 = S' ∧ k ≤ l.length) (fun k => l.length - k) 0 ⟨rfl, by omega⟩ rfl ?_
    rintro k S2 ⟨rfl, hk⟩ q2 hq2
    (try simp only [rws, hwR, Nat.reduceAdd, Nat.reduceLeDiff, Nat.reduceLT, Nat.reduceSub, Nat.reduceMul, Nat.reduceEqDiff, Nat.reduceBEq, Int.reduceAdd, Int.reduceToNat, beq_self_eq_true, C_law12_levels_2, hcl])
    (refine cnW_intro (fun hlt2 => ?_) (fun hlt2 => ?_) <;> (try simp only [hlc] at hlt2))
    · obtain ⟨x, hx⟩ := get_lt hlt2
      (try simp only [rws, hwR, Nat.reduceAdd, Nat.reduceLeDiff, Nat.reduceLT, Nat.reduceSub, Nat.reduceMul, Nat.reduceEqDiff, Nat.reduceBEq, Int.reduceAdd, Int.reduceToNat, beq_self_eq_true, hx, Option.map_some, decide_true, Bool.not_true])
      (simp (disch := omega) only [hwrap64])
      exact rcW_as rfl (hq2 (k + 1) _ ⟨rfl, by omega⟩ (by omega))
    · (simp (disch := omega) only [hwrap64])
      exact rcW_as rfl (hq (i + 1) _ ⟨rfl, by omega⟩ (by omega))
  · exact rtW_one ⟨rfl, rfl⟩
end Go.HL
set_option linter.unusedVariables false
set_option linter.unusedSimpArgs false
set_option maxRecDepth 20000
namespace Go.HL
def tx1 : ByteArray := ⟨#[116, 121, 112, 101, 32, 117, 32, 114, 101, 108, 97, 116, 105, 111, 110, 32, 97, 58, 32, 117, 32, 100, 101, 102, 105, 110, 101, 32, 98, 58, 32, 97, 32, 45, 32, 99, 32, 100, 101, 102, 105, 110, 101, 32, 99, 58, 32, 97, 32, 45, 32, 98]⟩
def tx2 : ByteArray := ⟨#[116, 121, 112, 101, 32, 117, 32, 114, 101, 108, 97, 116, 105, 111, 110, 32, 97, 58, 32, 117, 32, 100, 101, 102, 105, 110, 101, 32, 98, 58, 32, 97, 32, 45, 32, 99, 32, 100, 101, 102, 105, 110, 101, 32, 99, 58, 32, 97]⟩
def tx3 : ByteArray := ⟨#[116, 121, 112, 101, 32, 117, 32, 114, 101, 108, 97, 116, 105, 111, 110, 32, 97, 58, 32, 117]⟩
def bu : ByteArray := ⟨#[117]⟩
def ba : ByteArray := ⟨#[97]⟩
def bb : ByteArray := ⟨#[98]⟩
def bc : ByteArray := ⟨#[99]⟩
def vE (n : ByteArray) : Ex := .mk 0 n ⟨#[]⟩ []
def relA : Rl := ⟨ba, [⟨bu, ⟨#[]⟩⟩], zeroE⟩
def sc1 : List Ty := [⟨bu, [relA, ⟨bb, [], .mk 4 ⟨#[]⟩ ⟨#[]⟩ [vE ba, vE bc]⟩, ⟨bc, [], .mk 4 ⟨#[]⟩ ⟨#[]⟩ [vE ba, vE bb]⟩]⟩]
def sc2 : List Ty := [⟨bu, [relA, ⟨bb, [], .mk 4 ⟨#[]⟩ ⟨#[]⟩ [vE ba, vE bc]⟩, ⟨bc, [], vE ba⟩]⟩]
def sc3 : List Ty := [⟨bu, [relA]⟩]
theorem p1 : (parseF tx1).1 = sc1 := by kernel_rfl
theorem p2 : (parseF tx2).1 = sc2 := by kernel_rfl
theorem p3 : (parseF tx3).1 = sc3 := by kernel_rfl
theorem parseF_ok {s : ByteArray} : OkS (parseF s).1 ∧ (s.size ≤ 900 → OkN (parseF s).1) := by
  unfold parseF
  split
  · exact ⟨⟨Nat.zero_le _, fun t ht => (by cases ht)⟩, fun _ t ht => (by cases ht)⟩
  · rename_i h
    have hT := tokT_ok (s := s) (by omega)
    have hl := tokL_len (f := s.size + 1) (l := bl s) (a := 1) (b := 1)
    rw [bl_len] at hl
    obtain ⟨h1, h2⟩ := parseT_ok hT (tokT_pos s)
    refine ⟨h1, fun h t ht r hr => ?_⟩
    have := h2 t ht r hr
    unfold tokT at this
    omega
theorem k1 : chkF sc1 = flA 0 1 11 := by kernel_rfl
theorem k2 : errA (chkF sc2) = 0 := by kernel_rfl
theorem k3 : levF sc2 = [[0, 1, 0]] := by kernel_rfl
theorem k4 : findF sc3 bu ba = some (0, 0, relA) := by kernel_rfl
theorem ok1 : OkS sc1 ∧ OkN sc1 := by
  have h := parseF_ok (s := tx1)
  rw [p1] at h
  exact ⟨h.1, h.2 (by decide)⟩
theorem ok2 : OkS sc2 ∧ OkN sc2 := by
  have h := parseF_ok (s := tx2)
  rw [p2] at h
  exact ⟨h.1, h.2 (by decide)⟩
theorem ok3 : OkS sc3 ∧ OkN sc3 := by
  have h := parseF_ok (s := tx3)
  rw [p3] at h
  exact ⟨h.1, h.2 (by decide)⟩
theorem c_awake12 : AFun PG nr_law12_awake [] (.bool true) := by
  intro S
  refine w_law12_awake ?_
  unfold B_law12_awake
  have r1 := c_read tx1
  have r2 := c_read tx2
  have r3 := c_read tx3
  rw [p1] at r1
  rw [p2] at r2
  rw [p3] at r3
  have q1 := c_rules_Check ok1.1 ok1.2
  rw [k1] at q1
  have q2 := c_rules_Levels ok2.1 ok2.2
  rw [lvlF, if_pos k2, k3] at q2
  have q3 := c_rules_Find ok3.1 bu ba
  rw [k4] at q3
  refine caW_pure r1 ?_
  refine caW_pure q1 ?_
  (try simp only [rws, hwR, Nat.reduceAdd, Nat.reduceLeDiff, Nat.reduceLT, Nat.reduceSub, Nat.reduceMul, Nat.reduceEqDiff, Nat.reduceBEq, Int.reduceAdd, Int.reduceToNat, beq_self_eq_true, flA])
  refine caW_pure r2 ?_
  refine caW_pure q2 ?_
  (try simp only [rws, hwR, Nat.reduceAdd, Nat.reduceLeDiff, Nat.reduceLT, Nat.reduceSub, Nat.reduceMul, Nat.reduceEqDiff, Nat.reduceBEq, Int.reduceAdd, Int.reduceToNat, beq_self_eq_true])
  refine caW_pure r3 ?_
  refine caW_pure q3 ?_
  (try simp only [rws, hwR, Nat.reduceAdd, Nat.reduceLeDiff, Nat.reduceLT, Nat.reduceSub, Nat.reduceMul, Nat.reduceEqDiff, Nat.reduceBEq, Int.reduceAdd, Int.reduceToNat, beq_self_eq_true, rlC_eq, C_law12_awake_1, C_law12_awake_2, C_law12_awake_3, C_law12_awake_4, C_law12_awake_5, C_law12_awake_6, lvC, relA])
  refine cnW_intro (fun hx => ?_) (fun hx => ?_)
  · exact absurd hx (by decide)
  refine grW_intro (fun hg => ?_) (fun hg => ?_)
  · (try simp only [rws, hwR, Nat.reduceAdd, Nat.reduceLeDiff, Nat.reduceLT, Nat.reduceSub, Nat.reduceMul, Nat.reduceEqDiff, Nat.reduceBEq, Int.reduceAdd, Int.reduceToNat, beq_self_eq_true, hg])
    rw [show (AV.int .i64 2) = AV.int .i64 ((2 : Nat) : Int) from rfl]
    (try simp only [rws, hwR, Nat.reduceAdd, Nat.reduceLeDiff, Nat.reduceLT, Nat.reduceSub, Nat.reduceMul, Nat.reduceEqDiff, Nat.reduceBEq, Int.reduceAdd, Int.reduceToNat, beq_self_eq_true, iv, iaW_nat])
    trace_state
    exact rtW_one ⟨by simp, rfl⟩
  · exact absurd hg (by decide)
end Go.HL
set_option linter.unusedVariables false
set_option linter.unusedSimpArgs false
set_option maxRecDepth 4000
namespace Go.HL
theorem sum_mem : ∀ {l : List Nat} {x : Nat}, x ∈ l → x ≤ l.sum
  | [], x, h => by cases h
  | y :: l, x, h => by
    rw [List.sum_cons]
    rcases List.mem_cons.1 h with rfl | h
    · omega
    · have := sum_mem h; omega
theorem few_N {s : List Ty} {most : Int} (h : fewF s most = true) (hm : most ≤ 1000) : OkN s := by
  have h1 := few_size h
  intro t ht r hr
  have h2 : rsz r ≤ tsz t := by
    unfold tsz
    exact sum_mem (List.mem_map_of_mem hr)
  have h3 : tsz t ≤ (s.map tsz).sum := sum_mem (List.mem_map_of_mem ht)
  unfold ssz at h1
  omega
theorem lev_lens {s : List Ty} (h : GoodS s) : (levF s).length ≤ 1125899906842624 ∧ ∀ l ∈ levF s, l.length ≤ 1125899906842624 := by
  have hsz := h.sizes
  have h1 := shp_len (lev_shp s)
  refine ⟨by omega, fun l hl => ?_⟩
  obtain ⟨i, hi⟩ := List.getElem?_of_mem hl
  have hil := (List.getElem?_eq_some_iff.1 hi).1
  obtain ⟨l2, h2, h3⟩ := shp_row (lev_shp s) (List.getElem?_eq_getElem (by omega : i < s.length))
  rw [hi] at h2
  cases h2
  have := hsz.2.1 s[i] (List.getElem_mem _)
  omega
end Go.HL
set_option linter.unusedVariables false
set_option linter.unusedSimpArgs false
namespace Go.HL
theorem raiseN_quiet {N : Nat} {n : Nat × Nat} : ∀ {l : List Ln} {a : Lv × Bool}, a.2 = false → (raiseN N n l a).2 = false → (raiseN N n l a) = a ∧ ∀ x ∈ l, ¬ (getL a.1 n < getL a.1 x.1 + x.2.toNat ∧ getL a.1 n ≤ N)
  | [], a, h0, h => ⟨rfl, fun x hx => by cases hx⟩
  | l :: r, a, h0, h => by
    have stay : ∀ {l : List Ln} {a : Lv × Bool}, a.2 = true → (raiseN N n l a).2 = true := by
      intro l
      induction l with
      | nil => intro a h; exact h
      | cons x l ih =>
        intro a h
        unfold raiseN
        split
        · exact ih rfl
        · exact ih h
    unfold raiseN at h ⊢
    split at h
    · rw [stay rfl] at h; cases h
    · rename_i hc
      rw [if_neg hc]
      obtain ⟨h1, h2⟩ := raiseN_quiet h0 h
      refine ⟨h1, fun x hx => ?_⟩
      rcases List.mem_cons.1 hx with rfl | hx
      · exact hc
      · exact h2 x hx
theorem roundF_quiet {N : Nat} : ∀ {w : List Rw} {a : Lv × Bool}, a.2 = false → (roundF N w a).2 = false → ∀ x ∈ w, ∀ l ∈ x.2, ¬ (getL a.1 x.1 < getL a.1 l.1 + l.2.toNat ∧ getL a.1 x.1 ≤ N)
  | [], a, h0, h, x, hx => by cases hx
  | y :: w, a, h0, h, x, hx => by
    unfold roundF at h
    have stay : ∀ {w : List Rw} {a : Lv × Bool}, a.2 = true → (roundF N w a).2 = true := by
      intro w
      induction w with
      | nil => intro a h; exact h
      | cons z w ih =>
        intro a h
        unfold roundF
        refine ih ?_
        have : ∀ {l : List Ln} {a : Lv × Bool}, a.2 = true → (raiseN N z.1 l a).2 = true := by
          intro l
          induction l with
          | nil => intro a h; exact h
          | cons x l ih =>
            intro a h
            unfold raiseN
            split
            · exact ih rfl
            · exact ih h
        exact this h
    have h1 : (raiseN N y.1 y.2 a).2 = false := by
      cases hq : (raiseN N y.1 y.2 a).2 with
      | false => rfl
      | true => rw [stay hq] at h; cases h
    obtain ⟨e1, e2⟩ := raiseN_quiet h0 h1
    rw [e1] at h
    rcases List.mem_cons.1 hx with rfl | hx
    · exact e2
    · exact roundF_quiet h0 h x hx
theorem iterF_quiet {N : Nat} {s : List Ty} {w : List Rw} (hw : RwOk s w) : ∀ {f : Nat} {lv : Lv}, Shp lv s → Bdd N lv → manyF s * (N + 1) < f + phi N lv → (roundF N w (iterF N w f lv, false)).2 = false
  | 0, lv, h1, h2, h3 => by have := phi_shp (N := N) h1; omega
  | f + 1, lv, h1, h2, h3 => by
    obtain ⟨k1, k2, k3, k4, k5, k6⟩ := roundF_keep (N := N) (a := (lv, false)) hw h1 h2
    unfold iterF
    split
    · rename_i hr
      have := k5 rfl hr
      exact iterF_quiet hw k1 k2 (by dsimp only at this; omega)
    · rename_i hr
      have hr : (roundF N w (lv, false)).2 = false := by simpa using hr
      have h4 := k6 hr
      dsimp only at h4
      rw [h4]
      exact hr
theorem lev_quiet {s : List Ty} (h : manyF s ≤ 256) : (roundF (manyF s) (rowsF s) (levF s, false)).2 = false := by
  refine iterF_quiet (rows_ok s) (shp_zero s) bdd_zero ?_
  have : manyF s * (manyF s + 1) ≤ 256 * 257 := Nat.mul_le_mul h (by omega)
  omega
theorem lev_stands {s : List Ty} (h : errA (chkF s) = 0) {i k : Nat} {t : Ty} {r : Rl} (ht : s[i]? = some t) (hr : t.rels[k]? = some r) : getL (levF s) (i, k) ≤ manyF s ∧ ∀ l ∈ leansF s t.name r, getL (levF s) l.1 + l.2.toNat ≤ getL (levF s) (i, k) := by
  have hg := chk_good h
  have h1 : getL (levF s) (i, k) ≤ manyF s := by
    unfold chkF at h
    split at h
    · rename_i h0; exact absurd h h0
    · cases hq : eachF s (cycF s) with
      | some q =>
        obtain ⟨a, b, e⟩ := q
        have := eachF_err hq
        rw [hq] at h
        exact absurd h this
      | none =>
        have h2 := eachF_none hq ht hr
        unfold cycF at h2
        split at h2
        · cases h2
        · omega
  refine ⟨h1, fun l hl => ?_⟩
  have h2 := roundF_quiet rfl (lev_quiet hg.many)
  have hm : ∃ x ∈ rowsF s, x.1 = (i, k) ∧ x.2 = leansF s t.name r := by
    have h3 := lookR_at ht hr
    have key : ∀ w : List Rw, lookR w (i, k) = some (leansF s t.name r) → ∃ x ∈ w, x.1 = (i, k) ∧ x.2 = leansF s t.name r := by
      intro w
      induction w with
      | nil => intro h; cases h
      | cons x w ih =>
        intro h
        unfold lookR at h
        split at h
        · rename_i he
          exact ⟨x, by simp, he.symm, Option.some.inj h⟩
        · obtain ⟨y, hy, h4⟩ := ih h
          exact ⟨y, List.mem_cons_of_mem _ hy, h4⟩
    exact key _ h3
  obtain ⟨x, hx, e1, e2⟩ := hm
  have h4 := h2 x hx l (by rw [e2]; exact hl)
  rw [e1] at h4
  dsimp only at h4
  omega
end Go.HL
set_option linter.unusedVariables false
set_option linter.unusedSimpArgs false
namespace Go.HL
def Closed (w : List Rw) (M : Nat × Nat → Nat) : Prop := ∀ x ∈ w, ∀ l ∈ x.2, M l.1 + l.2.toNat ≤ M x.1
def Under (lv : Lv) (M : Nat × Nat → Nat) : Prop := ∀ p, getL lv p ≤ M p
theorem under_set {lv : Lv} {M : Nat × Nat → Nat} (h : Under lv M) {n : Nat × Nat} {v : Nat} (hv : v ≤ M n) : Under (setL lv n v) M := by
  intro p
  by_cases hin : In lv n
  · rw [getL_set hin]
    split
    · rename_i hp; subst hp; exact hv
    · exact h p
  · have : setL lv n v = lv := by
      unfold setL
      apply List.ext_getElem?
      intro i
      rw [List.getElem?_set]
      split
      · rename_i hi
        subst hi
        cases hl : lv[n.1]? with
        | none =>
          rw [if_neg (by have := List.getElem?_eq_none_iff.1 hl; omega)]
        | some l =>
          rw [if_pos (List.getElem?_eq_some_iff.1 hl).1, Option.getD_some]
          have : ¬ n.2 < l.length := fun h2 => hin ⟨l, hl, h2⟩
          rw [List.set_eq_of_length_le (by omega)]
      · rfl
    rw [this]
    exact h p
theorem raiseN_under {N : Nat} {n : Nat × Nat} {M : Nat × Nat → Nat} : ∀ {l : List Ln} {a : Lv × Bool}, (∀ x ∈ l, M x.1 + x.2.toNat ≤ M n) → Under a.1 M → Under (raiseN N n l a).1 M
  | [], a, hc, h => h
  | x :: l, a, hc, h => by
    unfold raiseN
    have h1 := hc x (by simp)
    split
    · exact raiseN_under (fun y hy => hc y (List.mem_cons_of_mem _ hy)) (under_set h (by have := h x.1; omega))
    · exact raiseN_under (fun y hy => hc y (List.mem_cons_of_mem _ hy)) h
theorem roundF_under {N : Nat} {M : Nat × Nat → Nat} : ∀ {w : List Rw} {a : Lv × Bool}, Closed w M → Under a.1 M → Under (roundF N w a).1 M
  | [], a, hc, h => h
  | x :: w, a, hc, h => by
    unfold roundF
    exact roundF_under (fun y hy => hc y (List.mem_cons_of_mem _ hy)) (raiseN_under (hc x (by simp)) h)
theorem iterF_under {N : Nat} {M : Nat × Nat → Nat} {w : List Rw} (hc : Closed w M) : ∀ {f : Nat} {lv : Lv}, Under lv M → Under (iterF N w f lv) M
  | 0, lv, h => h
  | f + 1, lv, h => by
    have h1 := roundF_under (N := N) (a := (lv, false)) hc h
    unfold iterF
    split
    · exact iterF_under hc h1
    · exact h1
theorem zero_under {s : List Ty} {M : Nat × Nat → Nat} : Under (zeroL s) M := fun p => by
  have : getL (zeroL s) p = 0 := by
    unfold getL zeroL
    rw [List.getElem?_map]
    cases s[p.1]? with
    | none => simp
    | some t =>
      simp only [Option.map_some, Option.getD_some, List.getElem?_replicate]
      split <;> rfl
  omega
theorem lev_least {s : List Ty} {M : Nat × Nat → Nat} (hc : Closed (rowsF s) M) : Under (levF s) M := iterF_under hc zero_under
end Go.HL
set_option linter.unusedVariables false
set_option linter.unusedSimpArgs false
namespace Go.HL
def UniqN (s : List Ty) : Prop := ∀ (i j : Nat) (t u : Ty), s[i]? = some t → s[j]? = some u → t.name = u.name → i = j
theorem uniq_of_dup {s : List Ty} (h : dupI [] s = none) : UniqN s := fun i j t u hi hj e => by
  have h1 := dup_typ h hi
  have h2 := dup_typ h hj
  rw [e, h2] at h1
  exact (Option.some.inj h1).symm
theorem dup_some : ∀ {r ts : List Ty} {k : Nat}, dupI ts r = some k → ∃ m t, k = ts.length + m ∧ r[m]? = some t ∧ dupB (ts ++ r.take m) t = true
  | [], ts, k, h => by cases h
  | x :: r, ts, k, h => by
    unfold dupI at h
    split at h
    · rename_i h0
      refine ⟨0, x, ?_, rfl, by simpa using h0⟩
      exact (Option.some.inj h).symm
    · obtain ⟨m, t, h1, h2, h3⟩ := dup_some h
      refine ⟨m + 1, t, ?_, by simpa using h2, by simpa using h3⟩
      rw [h1]; simp; omega
theorem dup_of_uniq {s : List Ty} (h : UniqN s) : dupI [] s = none := by
  cases hq : dupI [] s with
  | none => rfl
  | some k =>
    obtain ⟨m, t, h1, h2, h3⟩ := dup_some hq
    rw [List.nil_append] at h3
    unfold dupB at h3
    obtain ⟨j, hj⟩ := Option.isSome_iff_exists.1 h3
    obtain ⟨⟨u, hu, hn⟩, -⟩ := firstI_some.1 hj
    have hjm : j < m := by
      have := (List.getElem?_eq_some_iff.1 hu).1
      rw [List.length_take] at this
      omega
    rw [List.getElem?_take, if_pos hjm] at hu
    have := h j m u t hu h2 (by simpa using hn)
    omega
theorem typF_of_uniq {s : List Ty} (h : UniqN s) {i : Nat} {t : Ty} (ht : s[i]? = some t) : typF s t.name = some i := dup_typ (dup_of_uniq h) ht
theorem typF_name {s : List Ty} {n : ByteArray} {i : Nat} (h : typF s n = some i) : ∃ t, s[i]? = some t ∧ t.name = n := by
  obtain ⟨⟨t, ht, hn⟩, -⟩ := firstI_some.1 h
  exact ⟨t, ht, by simpa using hn⟩
theorem typF_none {s : List Ty} {n : ByteArray} (h : typF s n = none) : ∀ (i : Nat) (t : Ty), s[i]? = some t → t.name ≠ n := fun i t ht => by
  have := firstI_none.1 h i t ht
  simpa using this
structure Rot (s s' : List Ty) (sg : Nat → Nat) : Prop where
  len : s'.length = s.length
  at' : ∀ (i : Nat) (t : Ty), s[i]? = some t → s'[sg i]? = some t
  back : ∀ (j : Nat) (t : Ty), s'[j]? = some t → ∃ i, sg i = j ∧ s[i]? = some t
section
variable {s s' : List Ty} {sg : Nat → Nat}
theorem Rot.uniq (h : Rot s s' sg) (hu : UniqN s) : UniqN s' := fun a b t u ha hb e => by
  obtain ⟨i, rfl, hi⟩ := h.back a t ha
  obtain ⟨j, rfl, hj⟩ := h.back b u hb
  rw [hu i j t u hi hj e]
theorem Rot.typ (h : Rot s s' sg) (hu : UniqN s) (n : ByteArray) : typF s' n = (typF s n).map sg := by
  cases hq : typF s n with
  | some i =>
    obtain ⟨t, ht, rfl⟩ := typF_name hq
    exact typF_of_uniq (h.uniq hu) (h.at' i t ht)
  | none =>
    cases hq' : typF s' n with
    | none => rfl
    | some j =>
      obtain ⟨t, ht, hn⟩ := typF_name hq'
      obtain ⟨i, -, hi⟩ := h.back j t ht
      exact absurd hn (typF_none hq i t hi)
theorem Rot.find (h : Rot s s' sg) (hu : UniqN s) (t n : ByteArray) : findF s' t n = (findF s t n).map fun q => (sg q.1, q.2.1, q.2.2) := by
  unfold findF
  rw [h.typ hu]
  cases hq : typF s t with
  | none => rfl
  | some i =>
    obtain ⟨ty, hty, -⟩ := typF_name hq
    simp only [Option.map_some, h.at' i ty hty, hty]
    cases relIn ty.rels n with
    | none => rfl
    | some k =>
      dsimp only
      cases ty.rels[k]? <;> rfl
theorem Rot.over (h : Rot s s' sg) (hu : UniqN s) (refs : List Rf) (n : ByteArray) : overF s' refs n = (overF s refs n).map fun p => (sg p.1, p.2) := by
  unfold overF
  rw [List.map_filterMap]
  congr 1
  funext f
  split
  · rw [h.find hu]
    cases findF s f.ty n <;> rfl
  · rfl
theorem Rot.atom (h : Rot s s' sg) (hu : UniqN s) (t : ByteArray) (e : Ex) : atomF s' t e = atomF s t e := by
  unfold atomF
  rw [h.find hu]
  cases findF s t e.name with
  | none => rfl
  | some q =>
    obtain ⟨i, k, r⟩ := q
    simp only [Option.map_some, h.over hu, List.length_map]
theorem Rot.names (h : Rot s s' sg) (hu : UniqN s) (t : ByteArray) (r : Rl) : namesF s' t r = namesF s t r := by
  have e1 : atomF s' t = atomF s t := funext fun e => h.atom hu t e
  have e2 : refOkF s' = refOkF s := by
    funext f
    unfold refOkF
    rw [h.typ hu, h.find hu]
    simp only [Option.isSome_map]
  unfold namesF
  rw [e1, e2]
def sgL (sg : Nat → Nat) (l : Ln) : Ln := ((sg l.1.1, l.1.2), l.2)
theorem Rot.leans (h : Rot s s' sg) (hu : UniqN s) (t : ByteArray) (r : Rl) : leansF s' t r = (leansF s t r).map (sgL sg) := by
  unfold leansF
  split
  · rw [List.map_flatMap]
    congr 1
    funext p
    unfold leafF
    rw [h.find hu]
    cases findF s t p.1.name with
    | none => rfl
    | some q =>
      obtain ⟨i, k, w⟩ := q
      simp only [Option.map_some, h.over hu]
      split
      · simp [sgL]
      · simp [sgL]
  · rw [List.map_filterMap]
    congr 1
    funext f
    unfold refLean
    split
    · rfl
    · rw [h.find hu]
      cases findF s f.ty f.rl <;> rfl
end
end Go.HL
set_option linter.unusedVariables false
set_option linter.unusedSimpArgs false
namespace Go.HL
theorem eachR_all {α : Type} {f : α → Nat → Rl → Int × α} : ∀ {l : List Rl} {k : Nat} {a : α}, (∀ a m r, l[m]? = some r → (f a (k + m) r).1 = 0) → (eachR f k l a).1 = none
  | [], k, a, h => rfl
  | x :: l, k, a, h => by
    have h0 := h a 0 x rfl
    rw [Nat.add_zero] at h0
    unfold eachR
    rw [if_pos h0]
    exact eachR_all fun a m r hr => by
      have := h a (m + 1) r (by simpa using hr)
      rw [show k + 1 + m = k + (m + 1) by omega]
      exact this
theorem eachT_all {α : Type} {f : α → Nat → Nat → Ty → Rl → Int × α} : ∀ {l : List Ty} {i : Nat} {a : α}, (∀ a m k t r, l[m]? = some t → t.rels[k]? = some r → (f a (i + m) k t r).1 = 0) → (eachT f i l a).1 = none
  | [], i, a, h => rfl
  | x :: l, i, a, h => by
    have h0 : (eachR (fun a k r => f a i k x r) 0 x.rels a).1 = none := eachR_all fun a m r hr => by
      have := h a 0 m x r rfl hr
      rw [Nat.add_zero] at this
      rw [Nat.zero_add]
      exact this
    unfold eachT
    cases hq : eachR (fun a k r => f a i k x r) 0 x.rels a with
    | mk o a' =>
      rw [hq] at h0
      dsimp only at h0
      subst h0
      dsimp only
      exact eachT_all fun a m k t r ht hr => by
        have := h a (m + 1) k t r (by simpa using ht) hr
        rw [show i + 1 + m = i + (m + 1) by omega]
        exact this
theorem eachF_all {s : List Ty} {f : Nat → Nat → Ty → Rl → Int} (h : ∀ i k t r, s[i]? = some t → t.rels[k]? = some r → f i k t r = 0) : eachF s f = none :=
  eachT_all fun _ m k t r ht hr => by rw [Nat.zero_add]; exact h m k t r ht hr
theorem szF_zero {s : List Ty} (h1 : s.length ≤ 16) (h2 : ∀ t ∈ s, t.rels.length ≤ 16) (h3 : UniqN s) : szF s = flA 0 0 0 := by
  have hl : longI s = none := firstI_none.2 fun i t ht => decide_eq_false (by have := h2 t (List.mem_of_getElem? ht); omega)
  rw [szF, if_neg (by omega), hl, dup_of_uniq h3]
theorem good_plain {s : List Ty} (h : GoodS s) : errA (plainF s) = 0 := by
  rw [plainF, if_neg (by rintro (h1 | h1); exact h.some h1; rw [h.may] at h1; cases h1), h.size, flA_err, if_neg (by simp), eachF_all (f := twiceF s) (fun i k t r ht hr => by rw [twiceF, if_pos (h.once ht hr)])]
  dsimp only
  rw [eachF_all (f := fun _ _ t r => namesF s t.name r) (fun i k t r ht hr => h.name ht hr)]
  rfl
theorem chk_zero {s : List Ty} : errA (chkF s) = 0 ↔ GoodS s ∧ ∀ (i k : Nat) (t : Ty) (r : Rl), s[i]? = some t → t.rels[k]? = some r → getL (levF s) (i, k) ≤ manyF s := by
  constructor
  · intro h
    exact ⟨chk_good h, fun i k t r ht hr => (lev_stands h ht hr).1⟩
  · rintro ⟨h1, h2⟩
    rw [chkF, if_neg (by rw [good_plain h1]; simp), eachF_all (f := cycF s) fun i k t r ht hr => by rw [cycF, if_neg (by have := h2 i k t r ht hr; omega)]]
    rfl
section
variable {s s' : List Ty} {sg : Nat → Nat}
theorem Rot.mem (h : Rot s s' sg) {t : Ty} : t ∈ s' → t ∈ s := fun ht => by
  obtain ⟨j, hj⟩ := List.getElem?_of_mem ht
  obtain ⟨i, -, hi⟩ := h.back j t hj
  exact List.mem_of_getElem? hi
theorem Rot.good (h : Rot s s' sg) (hg : GoodS s) : GoodS s' := by
  have hsz := hg.sizes
  have hu := uniq_of_dup hsz.2.2
  refine ⟨by rw [h.len]; exact hg.some, ?_, szF_zero (by rw [h.len]; exact hsz.1) (fun t ht => hsz.2.1 t (h.mem ht)) (h.uniq hu), fun {j k t r} ht hr => ?_, fun {j k t r} ht hr => ?_⟩
  · have := hg.may
    unfold scB at this ⊢
    rw [List.all_eq_true] at this ⊢
    exact fun t ht => this t (h.mem ht)
  · obtain ⟨i, rfl, hi⟩ := h.back j t ht
    have h1 := hg.once hi hr
    unfold fiN at h1 ⊢
    rw [findF_rel] at h1 ⊢
    rw [h.typ hu, h.find hu, typF_of_uniq hu hi]
    rw [typF_of_uniq hu hi] at h1
    simp only [Option.map_some, Option.getD_some, Option.map_map, Prod.mk.injEq] at h1 ⊢
    refine ⟨trivial, ?_⟩
    have e : ((fun q : Nat × Nat × Rl => q.2.1) ∘ fun q : Nat × Nat × Rl => (sg q.1, q.2.1, q.2.2)) = fun q => q.2.1 := rfl
    rw [e]
    exact h1.2
  · obtain ⟨i, rfl, hi⟩ := h.back j t ht
    rw [h.names hu]
    exact hg.name hi hr
end
end Go.HL
set_option linter.unusedVariables false
set_option linter.unusedSimpArgs false
namespace Go.HL
theorem rowsR_mem {s : List Ty} {i : Nat} {n : ByteArray} : ∀ {l : List Rl} {k : Nat} {x : Rw}, x ∈ rowsR s i n k l → ∃ m r, l[m]? = some r ∧ x = ((i, k + m), leansF s n r)
  | [], k, x, hx => by cases hx
  | r :: l, k, x, hx => by
    rw [rowsR] at hx
    rcases List.mem_cons.1 hx with rfl | hx
    · exact ⟨0, r, rfl, rfl⟩
    · obtain ⟨m, q, h1, h2⟩ := rowsR_mem hx
      exact ⟨m + 1, q, by simpa using h1, by rw [h2, show k + 1 + m = k + (m + 1) by omega]⟩
theorem rowsT_mem {s : List Ty} : ∀ {l : List Ty} {i : Nat} {x : Rw}, x ∈ rowsT s i l → ∃ m t k r, l[m]? = some t ∧ t.rels[k]? = some r ∧ x = ((i + m, k), leansF s t.name r)
  | [], i, x, hx => by cases hx
  | t :: l, i, x, hx => by
    rw [rowsT] at hx
    rcases List.mem_append.1 hx with hx | hx
    · obtain ⟨k, r, h1, h2⟩ := rowsR_mem hx
      exact ⟨0, t, k, r, rfl, h1, by rw [h2, Nat.zero_add]; rfl⟩
    · obtain ⟨m, u, k, r, h1, h2, h3⟩ := rowsT_mem hx
      exact ⟨m + 1, u, k, r, by simpa using h1, h2, by rw [h3, show i + 1 + m = i + (m + 1) by omega]⟩
theorem rows_mem {s : List Ty} {x : Rw} (hx : x ∈ rowsF s) : ∃ i k t r, s[i]? = some t ∧ t.rels[k]? = some r ∧ x = ((i, k), leansF s t.name r) := by
  obtain ⟨m, t, k, r, h1, h2, h3⟩ := rowsT_mem hx
  exact ⟨m, k, t, r, h1, h2, by rw [h3, Nat.zero_add]⟩
structure Rots (s s' : List Ty) (sg tg : Nat → Nat) : Prop where
  r : Rot s s' sg
  b : Rot s' s tg
  id1 : ∀ i, i < s.length → tg (sg i) = i
  id2 : ∀ j, j < s.length → sg (tg j) = j
  many : manyF s' = manyF s
theorem Rots.symm {s s' : List Ty} {sg tg : Nat → Nat} (h : Rots s s' sg tg) : Rots s' s tg sg := ⟨h.b, h.r, fun j hj => h.id2 j (by rw [← h.r.len]; exact hj), fun i hi => h.id1 i (by rw [← h.r.len]; exact hi), h.many.symm⟩
theorem Rots.under {s s' : List Ty} {sg tg : Nat → Nat} (h : Rots s s' sg tg) (hk : errA (chkF s) = 0) : Under (levF s') fun p => getL (levF s) (tg p.1, p.2) := by
  have hg := chk_good hk
  have hu := uniq_of_dup hg.sizes.2.2
  refine lev_least fun x hx l hl => ?_
  obtain ⟨j, k, t, r, ht, hr, rfl⟩ := rows_mem hx
  obtain ⟨i, rfl, hi⟩ := h.r.back j t ht
  dsimp only at hl ⊢
  rw [h.r.leans hu] at hl
  obtain ⟨l0, hl0, rfl⟩ := List.mem_map.1 hl
  have h1 := (lev_stands hk hi hr).2 l0 hl0
  obtain ⟨u, hu2, -⟩ := leans_in l0 hl0
  have hlt := (List.getElem?_eq_some_iff.1 hu2).1
  rw [h.id1 i (List.getElem?_eq_some_iff.1 hi).1]
  simp only [sgL]
  rw [h.id1 _ hlt]
  exact h1
theorem Rots.ok {s s' : List Ty} {sg tg : Nat → Nat} (h : Rots s s' sg tg) (hk : errA (chkF s) = 0) : errA (chkF s') = 0 := by
  obtain ⟨h1, h2⟩ := chk_zero.1 hk
  refine chk_zero.2 ⟨h.r.good h1, fun j k t r ht hr => ?_⟩
  obtain ⟨i, rfl, hi⟩ := h.r.back j t ht
  have h3 := h.under hk (sg i, k)
  dsimp only at h3
  rw [h.id1 i (List.getElem?_eq_some_iff.1 hi).1] at h3
  have := h2 i k t r hi hr
  rw [h.many]
  omega
theorem Rots.same {s s' : List Ty} {sg tg : Nat → Nat} (h : Rots s s' sg tg) (hk : errA (chkF s) = 0) {i : Nat} (hi : i < s.length) (k : Nat) : getL (levF s') (sg i, k) = getL (levF s) (i, k) := by
  have h1 := h.under hk (sg i, k)
  have h2 := h.symm.under (h.ok hk) (i, k)
  dsimp only at h1 h2
  rw [h.id1 i hi] at h1
  omega
end Go.HL
set_option linter.unusedVariables false
set_option linter.unusedSimpArgs false
namespace Go.HL
def bz : ByteArray := ⟨#[122, 122]⟩
def br : ByteArray := ⟨#[114]⟩
def tyZ : Ty := ⟨bz, [⟨br, [⟨bz, ⟨#[]⟩⟩], zeroE⟩]⟩
def moreS (s : List Ty) : List Ty := s ++ [tyZ]
def NoZ (s : List Ty) : Prop := ∀ t ∈ s, ¬ t.name = bz
theorem pig : ∀ (n : Nat) (V : List Nat), (∀ v, v < n → v ∈ V) → n ≤ V.length
  | 0, V, h => Nat.zero_le _
  | n + 1, V, h => by
    have h1 := h n (by omega)
    have h2 := List.length_erase_of_mem h1
    have h3 := pig n (V.erase n) fun v hv => (List.mem_erase_of_ne (by omega)).2 (h v (by omega))
    have h4 := List.length_pos_of_mem h1
    omega
theorem getL_mem {lv : Lv} {p : Nat × Nat} (h : In lv p) : getL lv p ∈ lv.flatten := by
  obtain ⟨l, h1, h2⟩ := h
  refine List.mem_flatten.2 ⟨l, List.mem_of_getElem? h1, ?_⟩
  unfold getL
  rw [h1, Option.getD_some, List.getElem?_eq_getElem h2, Option.getD_some]
  exact List.getElem_mem h2
theorem shp_flat {lv : Lv} {s : List Ty} (h : Shp lv s) : lv.flatten.length = manyF s := by
  rw [List.length_flatten, h, manyF]
theorem lev_contig {s : List Ty} (hk : errA (chkF s) = 0) {v : Nat} {p : Nat × Nat} (hp : v < getL (levF s) p) : ∃ q, InS s q ∧ getL (levF s) q = v := by
  refine Classical.byContradiction fun hno => ?_
  have hne : ∀ q, InS s q → getL (levF s) q ≠ v := fun q hq e => hno ⟨q, hq, e⟩
  have hc : Closed (rowsF s) fun q => if v < getL (levF s) q then getL (levF s) q - 1 else getL (levF s) q := by
    intro x hx l hl
    obtain ⟨i, k, t, r, ht, hr, rfl⟩ := rows_mem hx
    have h1 := (lev_stands hk ht hr).2 l hl
    have h2 := hne l.1 (leans_in l hl)
    have h3 := hne (i, k) ⟨t, ht, (List.getElem?_eq_some_iff.1 hr).1⟩
    dsimp only
    have h4 : l.2.toNat ≤ 1 := by cases l.2 <;> decide
    split <;> split <;> omega
  have h1 := lev_least hc p
  rw [if_pos hp] at h1
  omega
theorem lev_max {s : List Ty} (hk : errA (chkF s) = 0) {p : Nat × Nat} (hp : InS s p) : getL (levF s) p < manyF s := by
  have h1 := pig (getL (levF s) p + 1) (levF s).flatten fun v hv => by
    have hin : ∀ q, InS s q → In (levF s) q := fun q ⟨t, h1, h2⟩ => in_of (lev_shp s) h1 h2
    rcases Nat.lt_succ_iff_lt_or_eq.1 hv with h | rfl
    · obtain ⟨q, h2, rfl⟩ := lev_contig hk h
      exact getL_mem (hin q h2)
    · exact getL_mem (hin p hp)
  rw [shp_flat (lev_shp s)] at h1
  omega
theorem lv_ext {a b : Lv} {s : List Ty} (ha : Shp a s) (hb : Shp b s) (h : ∀ i k, i < s.length → getL a (i, k) = getL b (i, k)) : a = b := by
  refine List.ext_getElem? fun i => ?_
  by_cases hi : i < s.length
  · have ht : s[i]? = some s[i] := List.getElem?_eq_getElem hi
    obtain ⟨l, h1, h2⟩ := shp_row ha ht
    obtain ⟨m, h3, h4⟩ := shp_row hb ht
    rw [h1, h3]
    congr 1
    refine List.ext_getElem? fun k => ?_
    have h5 := h i k hi
    simp only [getL, h1, h3, Option.getD_some] at h5
    by_cases hk : k < l.length
    · have hk2 : k < m.length := by omega
      rw [List.getElem?_eq_getElem hk, List.getElem?_eq_getElem hk2] at h5 ⊢
      simpa using h5
    · rw [List.getElem?_eq_none_iff.2 (by omega), List.getElem?_eq_none_iff.2 (by omega)]
  · rw [List.getElem?_eq_none_iff.2 (by rw [shp_len ha]; omega), List.getElem?_eq_none_iff.2 (by rw [shp_len hb]; omega)]
section
variable {s : List Ty}
theorem more_at {i : Nat} {t : Ty} (h : (moreS s)[i]? = some t) : (i < s.length ∧ s[i]? = some t) ∨ (i = s.length ∧ t = tyZ) := by
  unfold moreS at h
  rcases Nat.lt_or_ge i s.length with hi | hi
  · rw [List.getElem?_append_left hi] at h
    exact .inl ⟨hi, h⟩
  · rw [List.getElem?_append_right hi] at h
    have hlt := (List.getElem?_eq_some_iff.1 h).1
    simp only [List.length_singleton] at hlt
    have e : i = s.length := by omega
    subst e
    simp at h
    exact .inr ⟨rfl, h.symm⟩
theorem more_old {i : Nat} {t : Ty} (h : s[i]? = some t) : (moreS s)[i]? = some t := by
  unfold moreS
  rw [List.getElem?_append_left (List.getElem?_eq_some_iff.1 h).1]
  exact h
theorem more_new : (moreS s)[s.length]? = some tyZ := by
  unfold moreS
  rw [List.getElem?_append_right (Nat.le_refl _)]
  simp
theorem more_len : (moreS s).length = s.length + 1 := by simp [moreS]
theorem more_many : manyF (moreS s) = manyF s + 1 := by simp [moreS, manyF, tyZ]
theorem typF_more {n : ByteArray} (hn : ¬ n = bz) : typF (moreS s) n = typF s n := by
  unfold moreS
  rw [typF_snoc]
  cases typF s n with
  | some i => rfl
  | none => exact if_neg fun h => hn h.symm
theorem findF_more {t n : ByteArray} (ht : ¬ t = bz) : findF (moreS s) t n = findF s t n := by
  unfold findF
  rw [typF_more ht]
  cases hq : typF s t with
  | none => rfl
  | some i =>
    obtain ⟨ty, h1, -⟩ := typF_name hq
    simp only [more_old h1, h1]
theorem NoZ.at (hz : NoZ s) {i : Nat} {t : Ty} (h : s[i]? = some t) : ¬ t.name = bz := hz t (List.mem_of_getElem? h)
theorem uniq_more (hz : NoZ s) (hu : UniqN s) : UniqN (moreS s) := by
  intro i j t u hi hj e
  rcases more_at hi with ⟨h1, h2⟩ | ⟨rfl, rfl⟩ <;> rcases more_at hj with ⟨h3, h4⟩ | ⟨rfl, rfl⟩
  · exact hu i j t u h2 h4 e
  · exact absurd e (hz.at h2)
  · exact absurd e.symm (hz.at h4)
  · rfl
theorem uniq_less (hu : UniqN (moreS s)) : UniqN s := fun i j t u hi hj e => hu i j t u (more_old hi) (more_old hj) e
theorem fiN_more {t n : ByteArray} (ht : ¬ t = bz) : fiN (moreS s) t n = fiN s t n := by
  unfold fiN
  rw [findF_rel, findF_rel, typF_more ht, findF_more ht]
theorem refs_noz (hz : NoZ s) {refs : List Rf} (h : refs.all (refOkF s) = true) : ∀ f ∈ refs, ¬ f.ty = bz := by
  intro f hf e
  have h1 := List.all_eq_true.1 h f hf
  unfold refOkF at h1
  rw [Bool.and_eq_true] at h1
  obtain ⟨i, hi⟩ := Option.isSome_iff_exists.1 h1.1
  obtain ⟨t, h2, h3⟩ := typF_name hi
  exact hz.at h2 (h3.trans e)
theorem fmap_congr {α β : Type} {f g : α → Option β} : ∀ {l : List α}, (∀ x ∈ l, f x = g x) → l.filterMap f = l.filterMap g
  | [], h => rfl
  | x :: l, h => by
    rw [List.filterMap_cons, List.filterMap_cons, h x (by simp), fmap_congr fun y hy => h y (List.mem_cons_of_mem _ hy)]
theorem over_more {refs : List Rf} (h : ∀ f ∈ refs, ¬ f.ty = bz) (n : ByteArray) : overF (moreS s) refs n = overF s refs n := by
  unfold overF
  refine fmap_congr fun f hf => ?_
  rw [findF_more (h f hf)]
theorem GoodS.refs (hg : GoodS s) {r : Rl} (h : ∃ t ∈ s, r ∈ t.rels) : r.refs.all (refOkF s) = true := by
  obtain ⟨t, ht, hr⟩ := h
  obtain ⟨i, hi⟩ := List.getElem?_of_mem ht
  obtain ⟨k, hk⟩ := List.getElem?_of_mem hr
  have := hg.name hi hk
  unfold namesF at this
  split at this
  · assumption
  · cases this
theorem atom_more (hz : NoZ s) (hg : GoodS s) {t : ByteArray} (ht : ¬ t = bz) (e : Ex) : atomF (moreS s) t e = atomF s t e := by
  unfold atomF
  rw [findF_more ht]
  cases hq : findF s t e.name with
  | none => rfl
  | some q =>
    obtain ⟨i, k, r⟩ := q
    dsimp only
    rw [over_more (refs_noz hz (hg.refs (findF_mem hq)))]
theorem names_more (hz : NoZ s) (hg : GoodS s) {t : Ty} (ht : t ∈ s) {r : Rl} (hr : r ∈ t.rels) : namesF (moreS s) t.name r = namesF s t.name r := by
  have h1 := hg.refs ⟨t, ht, hr⟩
  have h2 := refs_noz hz h1
  have h3 : r.refs.all (refOkF (moreS s)) = true := by
    rw [List.all_eq_true] at h1 ⊢
    intro f hf
    have := h1 f hf
    unfold refOkF at this ⊢
    rw [typF_more (h2 f hf), findF_more (h2 f hf)]
    exact this
  unfold namesF
  rw [if_pos h1, if_pos h3, funext fun e => atom_more hz hg (hz t ht) e]
theorem leans_more (hz : NoZ s) (hg : GoodS s) {t : Ty} (ht : t ∈ s) {r : Rl} (hr : r ∈ t.rels) : leansF (moreS s) t.name r = leansF s t.name r := by
  unfold leansF
  split
  · congr 1
    funext p
    unfold leafF
    rw [findF_more (hz t ht)]
    cases hq : findF s t.name p.1.name with
    | none => rfl
    | some q =>
      obtain ⟨i, k, w⟩ := q
      dsimp only
      rw [over_more (refs_noz hz (hg.refs (findF_mem hq)))]
  · have h2 := refs_noz hz (hg.refs ⟨t, ht, hr⟩)
    refine fmap_congr fun f hf => ?_
    unfold refLean
    rw [findF_more (h2 f hf)]
theorem leans_new {k : Nat} {r : Rl} (hr : tyZ.rels[k]? = some r) : leansF (moreS s) tyZ.name r = [] := by
  have hk : k = 0 := by have := (List.getElem?_eq_some_iff.1 hr).1; simp [tyZ] at this; exact this
  subst hk
  simp only [tyZ, List.getElem?_cons_zero, Option.some.injEq] at hr
  subst hr
  simp [leansF, refLean]
theorem good_more (hz : NoZ s) (hl : s.length < 16) (hg : GoodS s) : GoodS (moreS s) := by
  have hsz := hg.sizes
  have hu := uniq_more hz (uniq_of_dup hsz.2.2)
  refine ⟨by rw [more_len]; omega, ?_, szF_zero (by rw [more_len]; omega) (fun t ht => ?_) hu, fun {i k t r} ht hr => ?_, fun {i k t r} ht hr => ?_⟩
  · have := hg.may
    unfold scB moreS at *
    rw [List.all_append, this]
    rfl
  · rcases List.mem_append.1 ht with h | h
    · exact hsz.2.1 t h
    · rw [List.mem_singleton.1 h]; decide
  · rcases more_at ht with ⟨h1, h2⟩ | ⟨rfl, rfl⟩
    · rw [fiN_more (hz.at h2)]
      exact hg.once h2 hr
    · have hk : k = 0 := by have := (List.getElem?_eq_some_iff.1 hr).1; simp [tyZ] at this; exact this
      subst hk
      simp only [tyZ, List.getElem?_cons_zero, Option.some.injEq] at hr
      subst hr
      have h1 : typF (moreS s) tyZ.name = some s.length := typF_of_uniq hu more_new
      unfold fiN
      rw [h1]
      simp [relF, more_new, tyZ, relIn, firstI]
  · rcases more_at ht with ⟨h1, h2⟩ | ⟨rfl, rfl⟩
    · rw [names_more hz hg (List.mem_of_getElem? h2) (List.mem_of_getElem? hr)]
      exact hg.name h2 hr
    · have hk : k = 0 := by have := (List.getElem?_eq_some_iff.1 hr).1; simp [tyZ] at this; exact this
      subst hk
      simp only [tyZ, List.getElem?_cons_zero, Option.some.injEq] at hr
      subst hr
      have h1 : typF (moreS s) bz = some s.length := typF_of_uniq hu (t := tyZ) more_new
      simp [namesF, refOkF, h1]
theorem more_ok (hz : NoZ s) (hl : s.length < 16) (hk : errA (chkF s) = 0) : errA (chkF (moreS s)) = 0 ∧ ∀ i k, i < s.length → getL (levF (moreS s)) (i, k) = getL (levF s) (i, k) := by
  have hg := chk_good hk
  have hg2 := good_more hz hl hg
  have h1 : Under (levF (moreS s)) fun p => if p.1 < s.length then getL (levF s) p else 0 := by
    refine lev_least fun x hx l hl => ?_
    obtain ⟨i, k, t, r, ht, hr, rfl⟩ := rows_mem hx
    rcases more_at ht with ⟨h1, h2⟩ | ⟨rfl, rfl⟩
    · dsimp only at hl ⊢
      rw [leans_more hz hg (List.mem_of_getElem? h2) (List.mem_of_getElem? hr)] at hl
      obtain ⟨u, h3, -⟩ := leans_in l hl
      rw [if_pos (List.getElem?_eq_some_iff.1 h3).1, if_pos h1]
      exact (lev_stands hk h2 hr).2 l hl
    · dsimp only at hl
      rw [leans_new hr] at hl
      cases hl
  have h2 : errA (chkF (moreS s)) = 0 := chk_zero.2 ⟨hg2, fun i k t r ht hr => by
    have h3 := h1 (i, k)
    dsimp only at h3
    rw [more_many]
    split at h3
    · rename_i hi
      rcases more_at ht with ⟨h4, h5⟩ | ⟨rfl, rfl⟩
      · have := (lev_stands hk h5 hr).1; omega
      · omega
    · omega⟩
  refine ⟨h2, fun i k hi => ?_⟩
  have h3 : Under (levF s) (getL (levF (moreS s))) := by
    refine lev_least fun x hx l hl => ?_
    obtain ⟨i, k, t, r, ht, hr, rfl⟩ := rows_mem hx
    dsimp only at hl ⊢
    rw [← leans_more hz hg (List.mem_of_getElem? ht) (List.mem_of_getElem? hr)] at hl
    exact (lev_stands h2 (more_old ht) hr).2 l hl
  have h4 := h1 (i, k)
  have h5 := h3 (i, k)
  dsimp only at h4
  rw [if_pos hi] at h4
  omega
theorem more_lv (hz : NoZ s) (hl : s.length < 16) (hk : errA (chkF s) = 0) : (levF (moreS s)).take s.length = levF s := by
  have hsh : Shp ((levF (moreS s)).take s.length) s := by
    have h1 := lev_shp (moreS s)
    unfold Shp at h1 ⊢
    rw [List.map_take, h1]
    simp [moreS]
  refine lv_ext hsh (lev_shp s) fun i k hi => ?_
  rw [← (more_ok hz hl hk).2 i k hi]
  unfold getL
  rw [List.getElem?_take, if_pos hi]
theorem firstZ_in {f : Ex → Int} {l : List (Ex × Bool)} (h : firstZ f l ≠ 0) : ∃ p ∈ l, firstZ f l = f p.1 := by
  induction l with
  | nil => exact absurd rfl h
  | cons x r ih =>
    obtain ⟨e, o⟩ := x
    unfold firstZ at h ⊢
    split
    · rename_i h0
      rw [if_pos h0] at h
      obtain ⟨p, h1, h2⟩ := ih h
      exact ⟨p, List.mem_cons_of_mem _ h1, h2⟩
    · exact ⟨(e, o), by simp, rfl⟩
theorem eachF_in {f : Nat → Nat → Ty → Rl → Int} (h : ∀ i k t r, s[i]? = some t → t.rels[k]? = some r → f i k t r = 0 ∨ f i k t r = 6) : eachF s f = none ∨ ∃ i k, eachF s f = some (i, k, 6) := by
  have hc : eachF s f = eachF s fun i k t r => if f i k t r = 0 then 0 else 6 := eachF_cong fun i k t r ht hr => by
    rcases h i k t r ht hr with e | e <;> rw [e] <;> rfl
  cases hq : eachF s f with
  | none => exact .inl rfl
  | some q =>
    obtain ⟨i, k, e⟩ := q
    have h1 := eachF_err hq
    rw [hc] at hq
    have key : ∀ {α : Type} {g : α → Nat → Nat → Ty → Rl → Int × α}, (∀ a i k t r, (g a i k t r).1 = 0 ∨ (g a i k t r).1 = 6) → ∀ {l : List Ty} {j : Nat} {a : α} {i k : Nat} {e : Int}, (eachT g j l a).1 = some (i, k, e) → e = 0 ∨ e = 6 := by
      intro α g hg l
      have keyR : ∀ {g : α → Nat → Rl → Int × α}, (∀ a k r, (g a k r).1 = 0 ∨ (g a k r).1 = 6) → ∀ {l : List Rl} {j : Nat} {a : α} {k : Nat} {e : Int}, (eachR g j l a).1 = some (k, e) → e = 0 ∨ e = 6 := by
        intro g hg l
        induction l with
        | nil => intro j a k e h; cases h
        | cons x l ih =>
          intro j a k e h
          unfold eachR at h
          split at h
          · exact ih h
          · simp only [Option.some.injEq, Prod.mk.injEq] at h
            rw [← h.2]
            exact hg _ _ _
      induction l with
      | nil => intro j a i k e h; cases h
      | cons x l ih =>
        intro j a i k e h
        unfold eachT at h
        cases hq : eachR (fun a k r => g a j k x r) 0 x.rels a with
        | mk o a' =>
          rw [hq] at h
          cases o with
          | none => exact ih h
          | some o =>
            obtain ⟨k', e'⟩ := o
            simp only [Option.some.injEq, Prod.mk.injEq] at h
            have := keyR (g := fun a k r => g a j k x r) (fun a k r => hg a j k x r) (l := x.rels) (j := 0) (a := a) (k := k') (e := e') (by rw [hq])
            rw [← h.2.2]
            exact this
    have h2 := key (g := fun (_ : Unit) i k t r => (if f i k t r = 0 then (0 : Int) else 6, ())) (fun _ i k t r => by dsimp only; split <;> simp) hq
    rcases h2 with rfl | rfl
    · exact absurd rfl h1
    · exact .inr ⟨i, k, rfl⟩
theorem more_back (hz : NoZ s) (hk : errA (chkF (moreS s)) = 0) : errA (chkF s) = 0 ∨ errA (chkF s) = 1 ∨ errA (chkF s) = 6 := by
  have hg2 := chk_good hk
  have hsz2 := hg2.sizes
  by_cases h1 : s.length = 0 ∨ scB s = false
  · right; left
    have : plainF s = flA 0 (-1) 1 := by rw [plainF, if_pos h1]
    rw [chkF, this, if_pos (by rw [flA_err]; decide), flA_err]
  have h3 : szF s = flA 0 0 0 := szF_zero (by have := hsz2.1; rw [more_len] at this; omega) (fun t ht => hsz2.2.1 t (by unfold moreS; exact List.mem_append.2 (.inl ht))) (uniq_less (uniq_of_dup hsz2.2.2))
  have h4 : eachF s (twiceF s) = none := eachF_all fun i k t r ht hr => by
    have := hg2.once (more_old ht) hr
    rw [fiN_more (hz.at ht)] at this
    rw [twiceF, if_pos this]
  have h5 : plainF s = flO (eachF s fun _ _ t r => namesF s t.name r) := by
    rw [plainF, if_neg h1, h3, flA_err, if_neg (by simp), h4]
  have h6 : ∀ (i k : Nat) (t : Ty) (r : Rl), s[i]? = some t → t.rels[k]? = some r → namesF s t.name r = 0 ∨ namesF s t.name r = 6 := by
    intro i k t r ht hr
    have h7 := hg2.name (more_old ht) hr
    unfold namesF at h7 ⊢
    split
    · split
      · rename_i h8
        split at h7
        · by_cases h9 : firstZ (atomF s t.name) (leavesE r.ex false) = 0
          · exact .inl h9
          · right
            obtain ⟨p, hp, e⟩ := firstZ_in h9
            rw [e] at h9 ⊢
            have h10 := firstZ_zero h7 p hp
            unfold atomF at h9 h10 ⊢
            rw [findF_more (hz.at ht)] at h10
            split
            · rfl
            · rename_i hq
              rw [hq] at h9 h10
              dsimp only at h9 h10
              split
              · rename_i h11; rw [if_pos h11] at h9; exact absurd rfl h9
              · rename_i h11
                rw [if_neg h11] at h9 h10
                split
                · rename_i h12; rw [if_pos h12] at h10; cases h10
                · rename_i h12
                  rw [if_neg h12] at h9
                  split
                  · rfl
                  · rename_i h13; rw [if_neg h13] at h9; exact absurd rfl h9
        · cases h7
      · exact .inl rfl
    · exact .inr rfl
  rcases eachF_in h6 with h7 | ⟨i, k, h7⟩
  · left
    rw [h7] at h5
    have hg : GoodS s := plain_good (by rw [h5]; rfl)
    refine chk_zero.2 ⟨hg, fun i k t r ht hr => ?_⟩
    have h8 : Under (levF s) (getL (levF (moreS s))) := by
      refine lev_least fun x hx l hl => ?_
      obtain ⟨i, k, t, r, ht, hr, rfl⟩ := rows_mem hx
      dsimp only at hl ⊢
      rw [← leans_more hz hg (List.mem_of_getElem? ht) (List.mem_of_getElem? hr)] at hl
      exact (lev_stands hk (more_old ht) hr).2 l hl
    have h9 := h8 (i, k)
    have h10 := lev_max hk (p := (i, k)) ⟨t, more_old ht, (List.getElem?_eq_some_iff.1 hr).1⟩
    rw [more_many] at h10
    omega
  · right; right
    rw [h7] at h5
    have h8 : errA (flO (some (i, k, 6))) = 6 := rfl
    rw [chkF, h5, if_pos (by rw [h8]; decide), h8]
end
end Go.HL
set_option linter.unusedVariables false
set_option linter.unusedSimpArgs false
namespace Go.HL
section
variable {α : Type} {s : List α} {n : Nat}
end
end Go.HL
set_option linter.unusedVariables false
set_option linter.unusedSimpArgs false
set_option maxRecDepth 4000
namespace Go.HL
theorem one_tyC {l : List Ty} : ∀ r ∈ l.map tyC, r.length = 2 ∧ ones r = true := by
  intro r hr
  obtain ⟨t, -, rfl⟩ := List.mem_map.1 hr
  exact ⟨rfl, rfl⟩
theorem one_aC {v : AV} (ho : one v = true) : aCells v = [v] ∧ notJ v = true := by
  cases v <;> first | exact ⟨rfl, rfl⟩ | cases ho
end Go.HL
set_option linter.unusedVariables false
set_option linter.unusedSimpArgs false
set_option maxRecDepth 4000
namespace Go.HL
def tyZn : List AV := [.str bz, .sl 6 [[.str br, .sl 2 [[.str bz, .str ⟨#[]⟩]], .int .i64 0, .str ⟨#[]⟩, .str ⟨#[]⟩, .nils]]]
theorem get_one {α : Type} {x y : α} {i : Nat} (h : [x][i]? = some y) : i = 0 ∧ y = x := by
  cases i with
  | zero => simp at h; exact ⟨rfl, h.symm⟩
  | succ i => simp at h
theorem fr_tyZ {S0 S : Store} : Frs S0 S tyZn (tyC tyZ) := by
  refine .cons (.same _) (.cons (.sl 6 _ _ rfl (fun i cs cs' h1 h2 => ?_) fun i j cs cs' u u' h1 h2 h3 h4 => ?_) .nil)
  · obtain ⟨-, rfl⟩ := get_one h1
    obtain ⟨-, rfl⟩ := get_one (x := rlC _) h2
    rfl
  · obtain ⟨-, rfl⟩ := get_one h1
    obtain ⟨-, rfl⟩ := get_one (x := rlC _) h2
    have hf : Frs S0 S [.str br, .sl 2 [[.str bz, .str ⟨#[]⟩]], .int .i64 0, .str ⟨#[]⟩, .str ⟨#[]⟩, .nils] (rlC ⟨br, [⟨bz, ⟨#[]⟩⟩], zeroE⟩) :=
      .cons (.same _) (.cons (.same _) (.cons (.same _) (.cons (.same _) (.cons (.same _) (.cons (.nils 4) .nil)))))
    exact hf.2 j u u' h3 h4
theorem fr_more {S0 S : Store} {s : List Ty} : Fr S0 S (.sl 2 (s.map tyC ++ [tyZn])) (.sl 2 ((moreS s).map tyC)) := by
  have hg : ∀ {i : Nat} {cs cs' : List AV}, (s.map tyC ++ [tyZn])[i]? = some cs → ((moreS s).map tyC)[i]? = some cs' → cs = cs' ∨ (cs = tyZn ∧ cs' = tyC tyZ) := by
    intro i cs cs' h1 h2
    unfold moreS at h2
    rw [List.map_append] at h2
    rcases Nat.lt_or_ge i (s.map tyC).length with hi | hi
    · rw [List.getElem?_append_left hi] at h1 h2
      rw [h1] at h2
      exact .inl (Option.some.inj h2)
    · rw [List.getElem?_append_right hi] at h1 h2
      exact .inr ⟨(get_one h1).2, (get_one (x := tyC tyZ) h2).2⟩
  refine .sl 2 _ _ (by simp [moreS]) (fun i cs cs' h1 h2 => ?_) fun i j cs cs' u u' h1 h2 h3 h4 => ?_
  · rcases hg h1 h2 with rfl | ⟨rfl, rfl⟩ <;> rfl
  · rcases hg h1 h2 with rfl | ⟨rfl, rfl⟩
    · rw [h3] at h4; cases h4; exact .same _
    · exact fr_tyZ.2 j u u' h3 h4
theorem ok_more {s : List Ty} (hs : OkS s) (hl : s.length ≤ 80) : OkS (moreS s) := ⟨by rw [more_len]; omega, fun t ht => by
  rcases List.mem_append.1 ht with h | h
  · exact hs.typ t h
  · rw [List.mem_singleton.1 h]
    refine ⟨by decide, by decide, fun r hr => ?_⟩
    rw [List.mem_singleton.1 (show r ∈ [_] from hr)]
    refine ⟨by decide, by decide, fun f hf => ?_, .mk _ _ _ _ (by decide) (by decide) (by decide) fun e he => by cases he⟩
    rw [List.mem_singleton.1 (show f ∈ [_] from hf)]
    exact ⟨by decide, by decide⟩⟩
theorem n_more {s : List Ty} (hN : OkN s) : OkN (moreS s) := fun t ht => by
  rcases List.mem_append.1 ht with h | h
  · exact hN t h
  · rw [List.mem_singleton.1 h]
    intro r hr
    rw [List.mem_singleton.1 (show r ∈ [_] from hr)]
    decide
theorem c_Levels_more {s : List Ty} (hs : OkS s) (hl : s.length ≤ 80) (hN : OkN s) {S0 S : Store} {t : Nat} {v : AV} (hS : Sub S0 S) (h : LstN S0 S t 2 v (s.map tyC ++ [tyZn])) : ACalls PG nr_rules_Levels [.agg [v]] S fun ae S' => ae = .ret (lvlF (moreS s)) ∧ S' = S0 :=
  ACalls.frz (FrS.sub hS) (.cons (.ag (.cons (.trans _ _ _ (.lst h) fr_more) .nil)) .nil) (c_rules_Levels (ok_more hs hl) (n_more hN) S0)
theorem c_RulesMore {s : List Ty} (hs : OkS s) : AFun PG nr_law12_RulesMore [scA s] (.bool true) := by
  intro S
  refine w_law12_RulesMore ?_
  unfold B_law12_RulesMore
  (try simp only [rws, hwR, Nat.reduceAdd, Nat.reduceLeDiff, Nat.reduceLT, Nat.reduceSub, Nat.reduceMul, Nat.reduceEqDiff, Nat.reduceBEq, Int.reduceAdd, Int.reduceToNat, beq_self_eq_true, scA])
  refine caW_pure c_awake12 ?_
  (try simp only [rws, hwR, Nat.reduceAdd, Nat.reduceLeDiff, Nat.reduceLT, Nat.reduceSub, Nat.reduceMul, Nat.reduceEqDiff, Nat.reduceBEq, Int.reduceAdd, Int.reduceToNat, beq_self_eq_true])
  refine caW_pure (by simpa only [scA] using c_law11_Few hs (most := 80) (by decide) (by decide)) ?_
  (try simp only [rws, hwR, Nat.reduceAdd, Nat.reduceLeDiff, Nat.reduceLT, Nat.reduceSub, Nat.reduceMul, Nat.reduceEqDiff, Nat.reduceBEq, Int.reduceAdd, Int.reduceToNat, beq_self_eq_true])
  cases hf : fewF s 80 with
  | false =>
    (try simp only [rws, hwR, Nat.reduceAdd, Nat.reduceLeDiff, Nat.reduceLT, Nat.reduceSub, Nat.reduceMul, Nat.reduceEqDiff, Nat.reduceBEq, Int.reduceAdd, Int.reduceToNat, beq_self_eq_true, C_law12_RulesMore_1, C_law12_RulesMore_2])
    exact rtW_one ⟨rfl, rfl⟩
  | true =>
    have hN := few_N hf (by decide)
    have hsz := few_size hf
    have hln : s.length ≤ 80 := by unfold ssz at hsz; omega
    (try simp only [rws, hwR, Nat.reduceAdd, Nat.reduceLeDiff, Nat.reduceLT, Nat.reduceSub, Nat.reduceMul, Nat.reduceEqDiff, Nat.reduceBEq, Int.reduceAdd, Int.reduceToNat, beq_self_eq_true, C_law12_RulesMore_1])
    cases a1 : decide ((16 : Int) ≤ s.length) with
    | true =>
      (try simp only [rws, hwR, Nat.reduceAdd, Nat.reduceLeDiff, Nat.reduceLT, Nat.reduceSub, Nat.reduceMul, Nat.reduceEqDiff, Nat.reduceBEq, Int.reduceAdd, Int.reduceToNat, beq_self_eq_true, C_law12_RulesMore_2])
      exact rtW_one ⟨rfl, rfl⟩
    | false =>
      have hl := of_decide_eq_false a1
      (try simp only [rws, hwR, Nat.reduceAdd, Nat.reduceLeDiff, Nat.reduceLT, Nat.reduceSub, Nat.reduceMul, Nat.reduceEqDiff, Nat.reduceBEq, Int.reduceAdd, Int.reduceToNat, beq_self_eq_true, C_law12_RulesMore_2])
      refine LoopP.introS (fun i : Nat => [(1, .rop [.sl 2 (s.map tyC)]), (5, .int .i64 i)]) (fun i S' => S' = S ∧ i ≤ s.length ∧ ∀ (j : Nat) (t : Ty), j < i → s[j]? = some t → ¬ t.name = bz) (fun i => s.length - i) 0 ⟨rfl, by omega, fun j t hj => by omega⟩ rfl ?_
      rintro i S' ⟨rfl, hi, hz0⟩ k0 hk0
      (try simp only [rws, hwR, Nat.reduceAdd, Nat.reduceLeDiff, Nat.reduceLT, Nat.reduceSub, Nat.reduceMul, Nat.reduceEqDiff, Nat.reduceBEq, Int.reduceAdd, Int.reduceToNat, beq_self_eq_true, C_law12_RulesMore_3])
      (refine cnW_intro (fun hlt => ?_) (fun hlt => ?_) <;> (try simp only [hlc] at hlt))
      · obtain ⟨t, ht⟩ := get_lt hlt
        (try simp only [rws, hwR, Nat.reduceAdd, Nat.reduceLeDiff, Nat.reduceLT, Nat.reduceSub, Nat.reduceMul, Nat.reduceEqDiff, Nat.reduceBEq, Int.reduceAdd, Int.reduceToNat, beq_self_eq_true, ht, tyC])
        (refine cnW_intro (fun hb => ?_) (fun hb => ?_) <;> (try simp only [hlc] at hb))
        · exact rtW_one ⟨rfl, rfl⟩
        · (simp (disch := omega) only [hwrap64])
          refine rcW_as rfl (hk0 (i + 1) _ ⟨rfl, by omega, fun j u hj hu => ?_⟩ (by omega))
          rcases Nat.lt_succ_iff_lt_or_eq.1 hj with h | rfl
          · exact hz0 j u h hu
          · rw [ht] at hu; cases hu; exact hb
      · have hz : NoZ s := fun t ht => by
          obtain ⟨j, hj⟩ := List.getElem?_of_mem ht
          exact hz0 j t (by have := (List.getElem?_eq_some_iff.1 hj).1; omega) hj
        have q1 := c_rules_Levels hs hN
        have q3 := c_ref12_Check hs hN
        obtain ⟨x, y, z, hc⟩ := chkF_fl s
        have hz3 : errA (chkF s) = z := by rw [hc, flA_err]
        rw [hc] at q3
        simp only [scA, flA] at q1 q3
        have m1 : ∀ r ∈ s.map tyC, r.length = 2 ∧ ones r = true := one_tyC
        have go : ∀ {K : AV → Store → Prop}, (∀ v2 S2, ACalls PG nr_rules_Levels [.agg [v2]] S2 (fun ae S3 => ae = .ret (lvlF (moreS s)) ∧ S3 = S') → one v2 = true → K v2 S2) → apW S' 51 2 40 .nils (.sl 2 (s.map tyC)) fun v S1 => apW S1 51 2 40 v (.sl 2 [tyZn]) K := by
          intro K hK
          refine LstN.app (Sub.refl _) .nil (fun r hr => (m1 r hr).1) (one_flat fun r hr => (m1 r hr).2) (by simp only [List.length_nil, List.length_map]; omega) fun v1 S1 h1 h2 _ => ?_
          rw [List.nil_append] at h2
          refine LstN.app h1 h2 (fun r hr => by rw [List.mem_singleton.1 hr]; rfl) (one_flat fun r hr => by rw [List.mem_singleton.1 hr]; rfl) (by simp only [List.length_map, List.length_singleton]; omega) fun v3 S3 h3 h4 _ => ?_
          exact hK _ _ (c_Levels_more hs hln hN h3 h4) h4.one
        by_cases hk : errA (chkF s) = 0
        · obtain ⟨hk2, -⟩ := more_ok hz (by omega) hk
          have hlv := more_lv hz (by omega) hk
          rw [lvlF, if_pos hk] at q1
          refine caW_pure q1 ?_
          (try simp only [rws, hwR, Nat.reduceAdd, Nat.reduceLeDiff, Nat.reduceLT, Nat.reduceSub, Nat.reduceMul, Nat.reduceEqDiff, Nat.reduceBEq, Int.reduceAdd, Int.reduceToNat, beq_self_eq_true])
          refine go fun v2 S2 q2 ho => ?_
          obtain ⟨ha, hj⟩ := one_aC ho
          rw [lvlF, if_pos hk2] at q2
          (try simp only [rws, hwR, Nat.reduceAdd, Nat.reduceLeDiff, Nat.reduceLT, Nat.reduceSub, Nat.reduceMul, Nat.reduceEqDiff, Nat.reduceBEq, Int.reduceAdd, Int.reduceToNat, beq_self_eq_true, ha, hj, fillA, ones, ho])
          refine caW_of q2 ?_
          rintro ae S3 ⟨rfl, rfl⟩
          dsimp only
          (try simp only [rws, hwR, Nat.reduceAdd, Nat.reduceLeDiff, Nat.reduceLT, Nat.reduceSub, Nat.reduceMul, Nat.reduceEqDiff, Nat.reduceBEq, Int.reduceAdd, Int.reduceToNat, beq_self_eq_true])
          have n1 : (lvC (levF s)).length = s.length := by simp [lvC, shp_len (lev_shp s)]
          have n2 : (lvC (levF (moreS s))).length = s.length + 1 := by simp [lvC, shp_len (lev_shp (moreS s)), more_len]
          (try simp only [rws, hwR, Nat.reduceAdd, Nat.reduceLeDiff, Nat.reduceLT, Nat.reduceSub, Nat.reduceMul, Nat.reduceEqDiff, Nat.reduceBEq, Int.reduceAdd, Int.reduceToNat, beq_self_eq_true, n1, n2])
          (simp (disch := omega) only [hwrap64])
          rw [show decide (((s.length + 1 : Nat) : Int) = (s.length : Int) + 1) = true from decide_eq_true (by omega)]
          (try simp only [rws, hwR, Nat.reduceAdd, Nat.reduceLeDiff, Nat.reduceLT, Nat.reduceSub, Nat.reduceMul, Nat.reduceEqDiff, Nat.reduceBEq, Int.reduceAdd, Int.reduceToNat, beq_self_eq_true, C_law12_RulesMore_4, n1, n2])
          refine ⟨by omega, by omega, ?_⟩
          have e1 : (lvC (levF (moreS s))).take s.length = lvC (levF s) := by unfold lvC; rw [← List.map_take, hlv]
          rw [e1]
          obtain ⟨k1, k2⟩ := lev_lens (chk_good hk)
          refine caW_pure (c_levels k1 k2) ?_
          (try simp only [rws, hwR, Nat.reduceAdd, Nat.reduceLeDiff, Nat.reduceLT, Nat.reduceSub, Nat.reduceMul, Nat.reduceEqDiff, Nat.reduceBEq, Int.reduceAdd, Int.reduceToNat, beq_self_eq_true])
          exact rtW_one ⟨rfl, rfl⟩
        · rw [lvlF, if_neg hk] at q1
          refine caW_pure q1 ?_
          (try simp only [rws, hwR, Nat.reduceAdd, Nat.reduceLeDiff, Nat.reduceLT, Nat.reduceSub, Nat.reduceMul, Nat.reduceEqDiff, Nat.reduceBEq, Int.reduceAdd, Int.reduceToNat, beq_self_eq_true])
          refine go fun v2 S2 q2 ho => ?_
          obtain ⟨ha, hj⟩ := one_aC ho
          (try simp only [rws, hwR, Nat.reduceAdd, Nat.reduceLeDiff, Nat.reduceLT, Nat.reduceSub, Nat.reduceMul, Nat.reduceEqDiff, Nat.reduceBEq, Int.reduceAdd, Int.reduceToNat, beq_self_eq_true, ha, hj, fillA, ones, ho])
          refine caW_of q2 ?_
          rintro ae S3 ⟨rfl, rfl⟩
          dsimp only
          by_cases hk2 : errA (chkF (moreS s)) = 0
          · rw [lvlF, if_pos hk2]
            (try simp only [rws, hwR, Nat.reduceAdd, Nat.reduceLeDiff, Nat.reduceLT, Nat.reduceSub, Nat.reduceMul, Nat.reduceEqDiff, Nat.reduceBEq, Int.reduceAdd, Int.reduceToNat, beq_self_eq_true])
            refine caW_pure q3 ?_
            (try simp only [rws, hwR, Nat.reduceAdd, Nat.reduceLeDiff, Nat.reduceLT, Nat.reduceSub, Nat.reduceMul, Nat.reduceEqDiff, Nat.reduceBEq, Int.reduceAdd, Int.reduceToNat, beq_self_eq_true])
            have hb := more_back hz hk2
            rw [hz3] at hb hk
            rcases hb with hb | hb | hb
            · exact absurd hb hk
            · subst hb
              (try simp only [rws, hwR, Nat.reduceAdd, Nat.reduceLeDiff, Nat.reduceLT, Nat.reduceSub, Nat.reduceMul, Nat.reduceEqDiff, Nat.reduceBEq, Int.reduceAdd, Int.reduceToNat, beq_self_eq_true, C_law12_RulesMore_5])
              exact rtW_one ⟨rfl, rfl⟩
            · subst hb
              (try simp only [rws, hwR, Nat.reduceAdd, Nat.reduceLeDiff, Nat.reduceLT, Nat.reduceSub, Nat.reduceMul, Nat.reduceEqDiff, Nat.reduceBEq, Int.reduceAdd, Int.reduceToNat, beq_self_eq_true, C_law12_RulesMore_5])
              exact rtW_one ⟨rfl, rfl⟩
          · rw [lvlF, if_neg hk2]
            (try simp only [rws, hwR, Nat.reduceAdd, Nat.reduceLeDiff, Nat.reduceLT, Nat.reduceSub, Nat.reduceMul, Nat.reduceEqDiff, Nat.reduceBEq, Int.reduceAdd, Int.reduceToNat, beq_self_eq_true])
            refine caW_pure q3 ?_
            (try simp only [rws, hwR, Nat.reduceAdd, Nat.reduceLeDiff, Nat.reduceLT, Nat.reduceSub, Nat.reduceMul, Nat.reduceEqDiff, Nat.reduceBEq, Int.reduceAdd, Int.reduceToNat, beq_self_eq_true, C_law12_RulesMore_5])
            exact rtW_one ⟨rfl, rfl⟩
end Go.HL
set_option linter.unusedVariables false
set_option linter.unusedSimpArgs false
namespace Go.HL
def Old (w : World) : Nat → Prop := fun b => b < w.heap.size
theorem cell_old {w : World} {a : Addr} {v : Value} (h : w.cell? a = some v) : Old w a.block := by
  unfold Old
  unfold World.cell? at h
  rcases Nat.lt_or_ge a.block w.heap.size with h1 | h1
  · exact h1
  · rw [Array.getElem?_eq_none h1] at h; simp at h
section
variable {H : Type} {enc : TypeId × Value → H} {P : Program} {w : World} {sp : Nat → Bool} {held : Bool} {n : Nat} {t e : TypeId} {cs : List Value} {x : DataW H × List MemPlace}
def Wt {H : Type} (P : Program) (t : TypeId) (d : DataW H) : Prop := ∀ k ∈ d.weights P t, k ≤ reachBytes
theorem open_str (ht : P.underlying t = some .string) (hw : Wt P t x.1) (h : DataW.trod enc P w 0 sp held n t cs = some x) : ∃ s : ByteArray, s.size ≤ 1125899906842624 ∧ cs = [.string s] := by
  cases n with
  | zero => simp [DataW.trod] at h
  | succ n =>
    unfold DataW.trod at h
    rw [ht] at h
    split at h <;> simp_all
    obtain ⟨h1, rfl⟩ := h
    refine Nat.le_trans (Nat.le_of_eq ?_) (Nat.le_trans (hw _ (by simp only [DataW.weights]; exact List.mem_singleton.2 rfl)) (by decide))
    rw [Array.length_toList]
    rfl
theorem open_int' {k : IntKind} (ht : P.underlying t = some (.int k)) (h : DataW.trod enc P w 0 sp held n t cs = some x) : ∃ z : Int, cs = [.int k z] := by
  cases n with
  | zero => simp [DataW.trod] at h
  | succ n =>
    unfold DataW.trod at h
    rw [ht] at h
    split at h <;> simp_all
theorem cells_get {w : World} {a : Addr} {m : Nat} {vs : List Value} (h : w.cells? 0 a m = some vs) : vs.length = m ∧ ∀ j, j < m → w.cell? (a.add j) = some (vs.getD j undef) := by
  unfold World.cells? at h
  rw [if_pos (Nat.zero_le _)] at h
  have h1 := mapM_some_length h
  refine ⟨by simpa using h1, fun j hj => ?_⟩
  have h2 := mapM_some_get h j j (by simp [hj])
  rw [h2, List.getD_eq_getElem?_getD]
  simp at h1
  rw [List.getElem?_eq_getElem (by omega)]
  rfl
theorem open_slc {α : Type} {enc' : α → List AV} {good : α → Prop} {sz : Nat} (ht : P.underlying t = some (.slice e)) (hc : P.cellsOf e = sz) (hsz : 0 < sz) (hlen : ∀ a, (enc' a).length = sz)
    (hb : 1 ≤ P.bytesOf e) (hw : Wt P t x.1) (hE : ∀ m, m < n → ∀ cs x, Wt P e x.1 → DataW.trod enc P w 0 sp held m e cs = some x → ∃ a, good a ∧ RVs (Old w) w (enc' a) cs) (h : DataW.trod enc P w 0 sp held n t cs = some x) :
    ∃ (l : List α) (v : Value), (∀ a ∈ l, good a) ∧ l.length ≤ 1125899906842624 ∧ cs = [v] ∧ RV (Old w) w (.sl sz (l.map enc')) v := by
  rcases DataW.trod_slice ht h with ⟨rfl, -⟩ | ⟨a, len, cap, elems, rest, m, rfl, rfl, rfl, -, hl, hm, hlen2, hel, -, -⟩
  · exact ⟨[], _, fun a ha => (by cases ha), Nat.zero_le _, rfl, .sl0 _ _ _⟩
  · have hx : DataW.weights P t (.slice (elems.map (·.1)) (rest.map (·.1))) = ((elems.map (·.1)).length + (rest.map (·.1)).length) * P.bytesOf e :: (DataW.weightsAll P e (elems.map (·.1)) ++ DataW.weightsAll P e (rest.map (·.1))) := by
      simp only [DataW.weights]
      rw [ht]
    have hw : ∀ k ∈ DataW.weights P t (.slice (elems.map (·.1)) (rest.map (·.1))), k ≤ reachBytes := hw
    rw [hx] at hw
    have key : ∀ i, i < len → ∃ (y : α) (vs : List Value), good y ∧ RVs (Old w) w (enc' y) vs ∧ w.cells? 0 (a.add (i * sz)) sz = some vs := fun i hi => by
      have h1 := hel i hi
      rw [hc, List.getElem?_eq_getElem (by omega)] at h1
      obtain ⟨vs, h2, h3⟩ := Option.bind_eq_some_iff.1 h1
      have hwi : Wt P e (elems[i]'(by omega)).1 := fun k hk => by
        refine hw k ?_
        refine List.mem_cons_of_mem _ (List.mem_append_left _ ?_)
        have : ∀ l : List (DataW H × List MemPlace), ∀ y ∈ l, ∀ k ∈ y.1.weights P e, k ∈ DataW.weightsAll P e (l.map (·.1)) := by
          intro l
          induction l with
          | nil => intro y hy; cases hy
          | cons z l ih =>
            intro y hy k hk
            simp only [List.map_cons, DataW.weightsAll, List.mem_append]
            rcases List.mem_cons.1 hy with rfl | hy
            · exact .inl hk
            · exact .inr (ih y hy k hk)
        exact this elems _ (List.getElem_mem _) k hk
      obtain ⟨y, k1, k2⟩ := hE m (Nat.lt_succ_self m) vs _ hwi h3
      exact ⟨y, vs, k1, k2, h2⟩
    by_cases h0 : len = 0
    · subst h0
      exact ⟨[], _, fun a ha => (by cases ha), Nat.zero_le _, rfl, .sl0 _ _ _⟩
    have ex : ∃ l : List α, l.length = len ∧ ∀ i y, l[i]? = some y → ∃ vs : List Value, good y ∧ RVs (Old w) w (enc' y) vs ∧ w.cells? 0 (a.add (i * sz)) sz = some vs := by
      have : ∀ k, k ≤ len → ∃ l : List α, l.length = k ∧ ∀ (i : Nat) (y : α), l[i]? = some y → ∃ vs : List Value, good y ∧ RVs (Old w) w (enc' y) vs ∧ w.cells? 0 (a.add (i * sz)) sz = some vs := by
        intro k
        induction k with
        | zero => exact fun _ => ⟨[], rfl, fun i y h => by simp at h⟩
        | succ k ih =>
          intro hk
          obtain ⟨l, k1, k2⟩ := ih (by omega)
          obtain ⟨y, vs, j1⟩ := key k (by omega)
          refine ⟨l ++ [y], by simp [k1], fun i z hz => ?_⟩
          by_cases hi : i < l.length
          · rw [List.getElem?_append_left hi] at hz
            exact k2 i z hz
          · rw [List.getElem?_append_right (by omega)] at hz
            obtain ⟨q, hq⟩ : ∃ q, i - l.length = q := ⟨_, rfl⟩
            rw [hq] at hz
            cases q with
            | succ q => simp at hz
            | zero =>
              simp at hz
              subst hz
              have : i = k := by omega
              subst this
              exact ⟨vs, j1⟩
      exact this len (Nat.le_refl _)
    obtain ⟨l, k1, k2⟩ := ex
    have k3 : ∀ i, i < len → ∃ y vs, l[i]? = some y ∧ good y ∧ RVs (Old w) w (enc' y) vs ∧ w.cells? 0 (a.add (i * sz)) sz = some vs := fun i hi => by
      have hy : l[i]? = some l[i] := List.getElem?_eq_getElem (by omega)
      obtain ⟨vs, h1⟩ := k2 i _ hy
      exact ⟨_, vs, hy, h1⟩
    have hadd : ∀ i j, (a.add (i * sz)).add j = a.add (i * sz + j) := fun i j => add_add _ _ _
    have hll : l.length ≤ 1125899906842624 := by
      have h5 := hw _ List.mem_cons_self
      simp only [List.length_map] at h5
      have h6 : elems.length ≤ (elems.length + rest.length) * P.bytesOf e := Nat.le_trans (Nat.le_add_right _ _) (Nat.le_mul_of_pos_right _ hb)
      unfold reachBytes at h5
      omega
    refine ⟨l, _, fun y hy => ?_, hll, rfl, .sl sz (l.map enc') a len cap (fun i j => ((w.cells? 0 (a.add (i * sz)) sz).getD []).getD j undef) (by simp [k1]) hl ?_ (fun i r hr => ?_) (fun i j hi hj => ?_) (fun i j r u hr hu => ?_)⟩
    · obtain ⟨i, hi⟩ := List.getElem?_of_mem hy
      obtain ⟨vs, h1, -⟩ := k2 i y hi
      exact h1
    · obtain ⟨y, vs, -, -, -, h4⟩ := k3 0 (by omega)
      have h5 := (cells_get h4).2 0 hsz
      have := cell_old h5
      rw [add_add] at this
      simpa [Addr.add] using this
    · rw [List.getElem?_map] at hr
      cases hl2 : l[i]? with
      | none => rw [hl2] at hr; cases hr
      | some y => rw [hl2] at hr; cases hr; exact hlen y
    · obtain ⟨y, vs, -, -, -, h4⟩ := k3 i hi
      rw [h4, ← hadd]
      exact (cells_get h4).2 j hj
    · rw [List.getElem?_map] at hr
      cases hl2 : l[i]? with
      | none => rw [hl2] at hr; cases hr
      | some y =>
        rw [hl2] at hr
        cases hr
        obtain ⟨vs, -, h3, h4⟩ := k2 i y hl2
        rw [h4]
        exact h3.2 j u hu
theorem open_stc {fs : Array Field} (ht : P.underlying t = some (.struct fs)) (hw : Wt P t x.1) (h : DataW.trod enc P w 0 sp held n t cs = some x) : cs.length = P.cellsOf t ∧ ∃ m, n = m + 1 ∧
    ∀ (i : Nat) (f : Field), fs[i]? = some f → ∃ y, Wt P f.type y.1 ∧ DataW.trod enc P w 0 sp held m f.type ((cs.drop f.offset).take (P.cellsOf f.type)) = some y := by
  obtain ⟨xs, m, rfl, rfl, hl, hlen, hf⟩ := DataW.trod_struct ht h
  refine ⟨hl, m, rfl, fun i f hi => ?_⟩
  have hil : i < fs.size := (Array.getElem?_eq_some_iff.1 hi).1
  have h1 := hf i f hi
  have hxi : xs[i]? = some (xs[i]'(by omega)) := List.getElem?_eq_getElem _
  rw [hxi] at h1
  refine ⟨_, fun k hk => ?_, h1⟩
  have hx : DataW.weights P t (.agg (xs.map (·.1))) = DataW.weightsEach P (fs.toList.map (·.type)) (xs.map (·.1)) := by
    simp only [DataW.weights]
    rw [ht]
  have hw : ∀ k ∈ DataW.weights P t (.agg (xs.map (·.1))), k ≤ reachBytes := hw
  rw [hx] at hw
  refine hw k ?_
  have key : ∀ (ts : List TypeId) (ds : List (DataW H)) (j : Nat) (t : TypeId) (d : DataW H), ts[j]? = some t → ds[j]? = some d → ∀ k ∈ d.weights P t, k ∈ DataW.weightsEach P ts ds := by
    intro ts
    induction ts with
    | nil => intro ds j t d h; simp at h
    | cons a ts ih =>
      intro ds j t d h1 h2 k hk
      cases ds with
      | nil => simp at h2
      | cons b ds =>
        simp only [DataW.weightsEach, List.mem_append]
        cases j with
        | zero => simp at h1 h2; subst h1; subst h2; exact .inl hk
        | succ j => simp at h1 h2; exact .inr (ih ds j t d h1 h2 k hk)
  exact key _ _ i _ _ (by rw [List.getElem?_map, Array.getElem?_toList, hi]; rfl) (by rw [List.getElem?_map, hxi]; rfl) k hk
end
structure ScT (P : Program) (tS tTs tT tRs tR tFs tF tE tEs tI tN : TypeId) : Prop where
  int : P.underlying tI = some (.int .i64)
  str : P.underlying tN = some .string
  ex : ∃ f0 f1 f2 f3, P.underlying tE = some (.struct #[f0, f1, f2, f3]) ∧ f0.type = tI ∧ f0.offset = 0 ∧ f1.type = tN ∧ f1.offset = 1 ∧ f2.type = tN ∧ f2.offset = 2 ∧ f3.type = tEs ∧ f3.offset = 3
  exs : P.underlying tEs = some (.slice tE)
  rf : ∃ f0 f1, P.underlying tF = some (.struct #[f0, f1]) ∧ f0.type = tN ∧ f0.offset = 0 ∧ f1.type = tN ∧ f1.offset = 1
  rfs : P.underlying tFs = some (.slice tF)
  rl : ∃ f0 f1 f2, P.underlying tR = some (.struct #[f0, f1, f2]) ∧ f0.type = tN ∧ f0.offset = 0 ∧ f1.type = tFs ∧ f1.offset = 1 ∧ f2.type = tE ∧ f2.offset = 2
  rls : P.underlying tRs = some (.slice tR)
  ty : ∃ f0 f1, P.underlying tT = some (.struct #[f0, f1]) ∧ f0.type = tN ∧ f0.offset = 0 ∧ f1.type = tRs ∧ f1.offset = 1
  tys : P.underlying tTs = some (.slice tT)
  sc : ∃ f0, P.underlying tS = some (.struct #[f0]) ∧ f0.type = tTs ∧ f0.offset = 0
  cI : P.cellsOf tI = 1
  cN : P.cellsOf tN = 1
  cE : P.cellsOf tE = 4
  cEs : P.cellsOf tEs = 1
  cF : P.cellsOf tF = 2
  cFs : P.cellsOf tFs = 1
  cR : P.cellsOf tR = 6
  cRs : P.cellsOf tRs = 1
  cT : P.cellsOf tT = 2
  cTs : P.cellsOf tTs = 1
  cS : P.cellsOf tS = 1
  bE : 1 ≤ P.bytesOf tE
  bF : 1 ≤ P.bytesOf tF
  bR : 1 ≤ P.bytesOf tR
  bT : 1 ≤ P.bytesOf tT
section
variable {H : Type} {enc : TypeId × Value → H} {P : Program} {w : World} {sp : Nat → Bool} {held : Bool} {tS tTs tT tRs tR tFs tF tE tEs tI tN : TypeId} (K : ScT P tS tTs tT tRs tR tFs tF tE tEs tI tN)
include K
theorem open_ex : ∀ (n : Nat) (cs : List Value) (x : DataW H × List MemPlace), Wt P tE x.1 → DataW.trod enc P w 0 sp held n tE cs = some x → ∃ e : Ex, OkE e ∧ RVs (Old w) w (exC e) cs := by
  intro n
  induction n using Nat.strongRecOn with
  | _ n ih =>
    intro cs x hw h
    obtain ⟨f0, f1, f2, f3, hu, a0, b0, a1, b1, a2, b2, a3, b3⟩ := K.ex
    obtain ⟨hl, m, rfl, hf⟩ := open_stc hu hw h
    rw [K.cE] at hl
    obtain ⟨c0, c1, c2, c3, rfl⟩ : ∃ c0 c1 c2 c3, cs = [c0, c1, c2, c3] := by
      match cs, hl with
      | [c0, c1, c2, c3], _ => exact ⟨_, _, _, _, rfl⟩
    obtain ⟨y0, w0, h0⟩ := hf 0 f0 rfl
    obtain ⟨y1, w1, h1⟩ := hf 1 f1 rfl
    obtain ⟨y2, w2, h2⟩ := hf 2 f2 rfl
    obtain ⟨y3, w3, h3⟩ := hf 3 f3 rfl
    rw [a0, b0, K.cI] at h0
    rw [a1, b1, K.cN] at h1
    rw [a2, b2, K.cN] at h2
    rw [a3, b3, K.cEs] at h3
    rw [a1] at w1
    rw [a2] at w2
    rw [a3] at w3
    obtain ⟨z, e0⟩ := open_int' K.int h0
    obtain ⟨s1, g1, e1⟩ := open_str K.str w1 h1
    obtain ⟨s2, g2, e2⟩ := open_str K.str w2 h2
    obtain ⟨l, v, g3, g4, e3, g5⟩ := open_slc (enc' := exC) (good := OkE) K.exs K.cE (by decide) exC_len K.bE w3 (fun k hk cs x hw h => ih k (by omega) cs x hw h) h3
    simp at e0 e1 e2 e3
    subst e0; subst e1; subst e2; subst e3
    refine ⟨.mk z s1 s2 l, .mk z s1 s2 l g4 g1 g2 g3, ?_⟩
    rw [exC_eq]
    exact .cons (.int _ _) (.cons (.str _) (.cons (.str _) (.cons g5 .nil)))
theorem open_rf {n : Nat} {cs : List Value} {x : DataW H × List MemPlace} (hw : Wt P tF x.1) (h : DataW.trod enc P w 0 sp held n tF cs = some x) : ∃ f : Rf, OkF f ∧ RVs (Old w) w (rfC f) cs := by
  obtain ⟨f0, f1, hu, a0, b0, a1, b1⟩ := K.rf
  obtain ⟨hl, m, rfl, hf⟩ := open_stc hu hw h
  rw [K.cF] at hl
  obtain ⟨c0, c1, rfl⟩ : ∃ c0 c1, cs = [c0, c1] := by
    match cs, hl with
    | [c0, c1], _ => exact ⟨_, _, rfl⟩
  obtain ⟨y0, w0, h0⟩ := hf 0 f0 rfl
  obtain ⟨y1, w1, h1⟩ := hf 1 f1 rfl
  rw [a0, b0, K.cN] at h0
  rw [a1, b1, K.cN] at h1
  rw [a0] at w0
  rw [a1] at w1
  obtain ⟨s1, g1, e1⟩ := open_str K.str w0 h0
  obtain ⟨s2, g2, e2⟩ := open_str K.str w1 h1
  simp at e1 e2
  subst e1; subst e2
  exact ⟨⟨s1, s2⟩, ⟨g1, g2⟩, .cons (.str _) (.cons (.str _) .nil)⟩
theorem open_rl {n : Nat} {cs : List Value} {x : DataW H × List MemPlace} (hw : Wt P tR x.1) (h : DataW.trod enc P w 0 sp held n tR cs = some x) : ∃ r : Rl, OkR r ∧ RVs (Old w) w (rlC r) cs := by
  obtain ⟨f0, f1, f2, hu, a0, b0, a1, b1, a2, b2⟩ := K.rl
  obtain ⟨hl, m, rfl, hf⟩ := open_stc hu hw h
  rw [K.cR] at hl
  obtain ⟨c0, c1, c2, c3, c4, c5, rfl⟩ : ∃ c0 c1 c2 c3 c4 c5, cs = [c0, c1, c2, c3, c4, c5] := by
    match cs, hl with
    | [c0, c1, c2, c3, c4, c5], _ => exact ⟨_, _, _, _, _, _, rfl⟩
  obtain ⟨y0, w0, h0⟩ := hf 0 f0 rfl
  obtain ⟨y1, w1, h1⟩ := hf 1 f1 rfl
  obtain ⟨y2, w2, h2⟩ := hf 2 f2 rfl
  rw [a0, b0, K.cN] at h0
  rw [a1, b1, K.cFs] at h1
  rw [a2, b2, K.cE] at h2
  rw [a0] at w0
  rw [a1] at w1
  rw [a2] at w2
  obtain ⟨s1, g1, e1⟩ := open_str K.str w0 h0
  obtain ⟨l, v, g3, g4, e3, g5⟩ := open_slc (enc' := rfC) (good := OkF) K.rfs K.cF (by decide) (fun _ => rfl) K.bF w1 (fun k _ cs x hw h => open_rf K hw h) h1
  obtain ⟨e, g6, g7⟩ := open_ex K _ _ _ w2 h2
  simp at e1 e3
  subst e1; subst e3
  exact ⟨⟨s1, l, e⟩, ⟨g1, g4, g3, g6⟩, .cons (.str _) (.cons g5 g7)⟩
theorem open_ty {n : Nat} {cs : List Value} {x : DataW H × List MemPlace} (hw : Wt P tT x.1) (h : DataW.trod enc P w 0 sp held n tT cs = some x) : ∃ t : Ty, OkT t ∧ RVs (Old w) w (tyC t) cs := by
  obtain ⟨f0, f1, hu, a0, b0, a1, b1⟩ := K.ty
  obtain ⟨hl, m, rfl, hf⟩ := open_stc hu hw h
  rw [K.cT] at hl
  obtain ⟨c0, c1, rfl⟩ : ∃ c0 c1, cs = [c0, c1] := by
    match cs, hl with
    | [c0, c1], _ => exact ⟨_, _, rfl⟩
  obtain ⟨y0, w0, h0⟩ := hf 0 f0 rfl
  obtain ⟨y1, w1, h1⟩ := hf 1 f1 rfl
  rw [a0, b0, K.cN] at h0
  rw [a1, b1, K.cRs] at h1
  rw [a0] at w0
  rw [a1] at w1
  obtain ⟨s1, g1, e1⟩ := open_str K.str w0 h0
  obtain ⟨l, v, g3, g4, e3, g5⟩ := open_slc (enc' := rlC) (good := OkR) K.rls K.cR (by decide) rlC_len K.bR w1 (fun k _ cs x hw h => open_rl K hw h) h1
  simp at e1 e3
  subst e1; subst e3
  exact ⟨⟨s1, l⟩, ⟨g1, g4, g3⟩, .cons (.str _) (.cons g5 .nil)⟩
theorem open_sc {v : Value} {d : DataW H} {ps : List MemPlace} (hw : Wt P tS d) (h : DataW.Trod enc P w 0 sp held tS v d ps) (hv : ∃ vs, v = .agg vs) : ∃ s : List Ty, OkS s ∧ RV (Old w) w (scA s) v := by
  obtain ⟨n, h⟩ := h
  obtain ⟨vs, rfl⟩ := hv
  obtain ⟨f0, hu, a0, b0⟩ := K.sc
  obtain ⟨hl, m, rfl, hf⟩ := open_stc (x := (d, ps)) hu hw h
  rw [K.cS] at hl
  obtain ⟨y0, w0, h0⟩ := hf 0 f0 rfl
  rw [a0, b0, K.cTs] at h0
  rw [a0] at w0
  obtain ⟨l, v, g3, g4, e3, g5⟩ := open_slc (enc' := tyC) (good := OkT) K.tys K.cT (by decide) (fun _ => rfl) K.bT w0 (fun k _ cs x hw h => open_ty K hw h) h0
  refine ⟨l, ⟨g4, g3⟩, ?_⟩
  have hc : (Value.agg vs).cells.toList = vs.toList := by simp [Value.cells]
  rw [hc] at hl e3
  have hvs : vs.toList = [v] := by
    match hq : vs.toList, hl with
    | [c], _ => rw [hq] at e3; simpa using e3
  refine .agg _ vs (by rw [← Array.length_toList, hvs]; rfl) fun i u hi => ?_
  match i, hi with
  | 0, hi =>
    simp at hi
    subst hi
    have : vs.getD 0 undef = v := by
      have h9 : vs = #[v] := by
        apply Array.toList_inj.1
        rw [hvs]
      rw [h9]; rfl
    rw [this]
    exact g5
end
end Go.HL
set_option linter.unusedVariables false
set_option linter.unusedSimpArgs false
namespace Go.HL
open Go.ChangeShapes Go.WideShapes Go.RowKit
theorem below_of {R R' : Nat → Prop} {S' : Store} {w w' : World} (h : Step R emp w R' S' w') : Below w.heap.size w w' := ⟨h.os, h.tape, h.output, h.size, fun k hk => (h.keep k hk rfl).1⟩
theorem sim_old (w : World) : Sim (Old w) emp w := ⟨fun b o h => (by cases h), fun b h => ⟨rfl, h⟩⟩
theorem call_true {f : Nat} {args : List AV} {vs : Array Value} {w : World} (h : AFun PG f args (.bool true)) (hv : RVs (Old w) w args vs.toList) : Calls PG f vs w fun en w' => en = .returned (.bool true) ∧ Below w.heap.size w w' := by
  refine ((h emp).2 (Old w) w vs (sim_old w) hv).mono fun en w' ⟨R', S', ae, h1, h2, h3, h4⟩ => ?_
  obtain ⟨rfl, rfl⟩ := h2
  cases en with
  | returned v =>
    have h1 : RV R' w' (.bool true) v := h1
    cases h1
    exact ⟨rfl, below_of h4⟩
  | _ => exact h1.elim
section
variable {H : Type} {enc : TypeId × Value → H} {P : Program}
theorem trodAll_stays {W W' : World} (hl : laidOutB P = true) (hb : Below W.heap.size W W') {sp' : Nat → Bool} : ∀ {ts : List TypeId} {vs : List Value} {ds : List (DataW H)} {ps : List MemPlace}, (∀ t ∈ ts, P.readableRec t = true ∧ t < P.types.size) → DataW.TrodAll enc P W 0 (fun _ => true) true ts vs ds ps →
    (∀ p ∈ ps, p.block < W.heap.size) → (∀ p ∈ ps, sp' p.block = true) → DataW.TrodAll enc P W' 0 sp' true ts vs ds ps
  | [], vs, ds, ps, _, h, _, _ => by
    obtain ⟨rfl, rfl, rfl⟩ := trodAll_nil h
    exact trodAll_mk0
  | t :: ts, vs, ds, ps, ht, h, h1, h2 => by
    obtain ⟨v, vs1, d, ds1, a, b, rfl, rfl, rfl, k1, k2⟩ := trodAll_cons h
    have ht0 := ht t (by simp)
    exact ⟨a, b, WideElems.Trod_stays hl ht0.1 ht0.2 k1 (fun p hp => hb.same (h1 p (List.mem_append_left _ hp))) (fun p hp => h2 p (List.mem_append_left _ hp)),
      trodAll_stays hl hb (fun t h => ht t (List.mem_cons_of_mem _ h)) k2 (fun p hp => h1 p (List.mem_append_right _ hp)) (fun p hp => h2 p (List.mem_append_right _ hp)), rfl⟩
theorem post_kept {f : Func} {s : ChangeSpec} {apart fresh handsOn again : Bool} {W W' : World} {args : Array Value} {ds gs : List (DataW H)} {before : List MemPlace} {tb : TypeId}
    (hl : laidOutB P = true) (hts : ∀ t ∈ f.params.toList, P.readableRec t = true ∧ t < P.types.size) (hvars : s.vars = [])
    (hW : DataW.Whole enc P f.params.toList s.vars apart W args.toList ds gs before) (hfn : (s.fn H (ds ++ gs)).results = [.lit (.bool true)] ∧ (s.fn H (ds ++ gs)).args = ds ∧ (s.fn H (ds ++ gs)).vars = [])
    (hr : f.resultTypes = #[tb]) (hb : P.underlying tb = some .bool) (hB : Below W.heap.size W W') : s.post enc P f apart fresh handsOn again W args (.bool true) W' := by
  have hlt := hW.lt
  have hW0 := hW
  obtain ⟨p, q, hA, hV, rfl, hz, hn⟩ := hW
  rw [hvars] at hV
  obtain ⟨rfl, rfl⟩ := trodVars_none hV
  rw [List.append_nil] at *
  obtain ⟨e1, e2, e3⟩ := hfn
  have hold : ∀ x ∈ p, (fun b => decide (b < W.heap.size)) x.block = true := fun x hx => by simpa using hlt x hx
  have hres : ∀ (b : Nat) (sp : Nat → Bool) (hd : Bool), DataW.TrodAll enc P W' b sp hd f.resultTypes.toList ((Value.bool true).resultList f.resultTypes.size) [.lit (.bool true)] [] := fun b sp hd => by
    rw [hr]
    exact trodAll_mk1 (shut_bool hb true)
  refine ⟨ds, [], p, [], p, [], hW0, by rw [List.append_nil, e1]; exact hres _ _ _, by rw [List.append_nil, e2]; exact trodAll_stays hl hB hts hA hlt hold, by rw [List.append_nil, hvars, e3]; exact rfl, hB.frame _, fun _ => ?_⟩
  refine ⟨ok_one hr rfl (okWide_bool_mk hb true), _, [], ([] ++ p) ++ [], ⟨[] ++ p, [], trodAll_append (trodAll_stays hl hB hts hA hlt (fun _ _ => rfl)) (hres _ _ _), by rw [hvars]; exact rfl, rfl, ?_, ?_⟩, ?_⟩
  · intro b off hp
    have hp : MemPlace.cell b off ∈ p := by simpa using hp
    rw [hB.frozen (p := ⟨b, off, none⟩) (hlt _ hp)]
    exact hz b off hp
  · intro ha
    simpa using hn ha
  · intro x hx _
    simpa using hx
end
end Go.HL
set_option linter.unusedVariables false
namespace Go.Proofs.Ytadmdlpmikoghaa
open Go.ChangeShapes Go.WideShapes Go.ChangeAt Go.RowKit Go.HL
theorem own : ownKnob Try.prog.godebug = none := by kernel_rfl
theorem laidOut : laidOutB Try.prog = true := by kernel_rfl
theorem scT : ScT Try.prog 24 22 51 49 43 38 53 41 39 3 9 where
  int := Try.underlying3
  str := Try.underlying9
  ex := ⟨_, _, _, _, Try.underlying41, rfl, rfl, rfl, rfl, rfl, rfl, rfl, rfl⟩
  exs := Try.underlying39
  rf := ⟨_, _, Try.underlying53, rfl, rfl, rfl, rfl⟩
  rfs := Try.underlying38
  rl := ⟨_, _, _, Try.underlying43, rfl, rfl, rfl, rfl, rfl, rfl⟩
  rls := Try.underlying49
  ty := ⟨_, _, Try.underlying51, rfl, rfl, rfl, rfl⟩
  tys := Try.underlying22
  sc := ⟨_, Try.underlying24, rfl, rfl⟩
  cI := by kernel_rfl
  cN := by kernel_rfl
  cE := by kernel_rfl
  cEs := by kernel_rfl
  cF := by kernel_rfl
  cFs := by kernel_rfl
  cR := by kernel_rfl
  cRs := by kernel_rfl
  cT := by kernel_rfl
  cTs := by kernel_rfl
  cS := by kernel_rfl
  bE := of_decide_eq_true (by kernel_rfl)
  bF := of_decide_eq_true (by kernel_rfl)
  bR := of_decide_eq_true (by kernel_rfl)
  bT := of_decide_eq_true (by kernel_rfl)
theorem weights_one {H : Type} {P : Program} {t : TypeId} {d : DataW H} {ts : List TypeId} {ds : List (DataW H)} (h : (DataW.weightsEach P (t :: ts) (d :: ds)).all (· ≤ reachBytes) = true) : Wt P t d ∧ (DataW.weightsEach P ts ds).all (· ≤ reachBytes) = true := by
  simp only [DataW.weightsEach, List.all_append, Bool.and_eq_true, List.all_eq_true, decide_eq_true_eq] at h
  refine ⟨h.1, ?_⟩
  rw [List.all_eq_true]
  exact fun x hx => decide_eq_true (h.2 x hx)
end Go.Proofs.Ytadmdlpmikoghaa
set_option linter.unusedVariables false
namespace Go.Proofs.Ytadmdlpmikoghaa
open Go.ChangeShapes Go.WideShapes Go.ChangeAt Go.RowKit Go.HL
set_option maxRecDepth 100000 in
theorem rulesMore_lifted (os : Os) (started : os.Started) (H : Type) (enc : TypeId × Value → H) :
    ReturnsInHanded {} Try.checked os 8 .any (fun w args => (Rows.rulesMoreSpec.pre enc Try.prog Try.f8 Rows.rulesMoreRow.domain false w args ∧ True) ∧ sizedMet enc Try.prog Try.f8 (OpenSpec.ofChange Rows.rulesMoreSpec) false w args)
      (Rows.rulesMoreSpec.post enc Try.prog Try.f8 false true false false) := by
  refine returnsInHanded_of_change_and (C := Try.checked) (X := fun _ _ => True) (fun _ _ _ _ h => h) own started (by kernel_rfl) Try.func8
    (by
      obtain ⟨w, t, i, h1, h2, h3, h4, h5, h6⟩ := ChangeSpec.witness6 (enc := enc) (C := Try.checked) (os := os) (f := 8) (fn := Try.f8) (s := Rows.rulesMoreSpec) (conds := Rows.rulesMoreRow.domain) (apart := false) false ⟨#[], #[.agg #[.slice none 0 0]], []⟩ 8 (by kernel_rfl) (by kernel_rfl) (by kernel_rfl) (by kernel_rfl)
      exact ⟨w, t, i, h1, h2, h3, h4, ⟨⟨h5.1, trivial⟩, h5.2⟩, h6⟩) ?_
  intro W base args ds gs before hval0 hW hcnd hsz0 _ _
  have hval : ∀ (j : Nat) t v, Try.f8.params[j]? = some t → args[j]? = some v → Value.okWide Try.prog W .any base t v := hval0
  have hsz : (DataW.weightsEach Try.prog (Try.f8.params.toList ++ []) (ds ++ gs)).all (· ≤ reachBytes) = true := hsz0
  have hW' := hW
  obtain ⟨p, q, hA0, hV, rfl, hfz, hnd⟩ := hW
  have hA : DataW.TrodAll enc Try.prog W 0 (fun _ => true) true Try.f8.params.toList args.toList ds p := hA0
  rw [Try.params8] at hA hval hsz
  obtain ⟨v0, d0, rfl, rfl, h0⟩ := trodAll_one hA
  obtain ⟨rfl, rfl⟩ := trodVars_none hV
  obtain ⟨w0, hsz⟩ := weights_one hsz
  obtain ⟨vs0, hvs0, -⟩ := okWide_struct Try.underlying24 (hval 0 24 v0 rfl rfl)
  obtain ⟨a0, hs0, hv0⟩ := open_sc scT w0 h0 ⟨vs0, hvs0⟩
  clear hA0 hval0 hsz0
  refine (call_true (c_RulesMore hs0) (vs := #[v0]) (.cons hv0 .nil)).mono fun e W' ⟨he, hB⟩ => ?_
  subst he
  exact ⟨_, rfl, post_kept laidOut (by rw [Try.params8]; intro t ht; simp at ht; subst ht; exact ⟨by kernel_rfl, of_decide_eq_true (by kernel_rfl)⟩) rfl hW' ⟨rfl, rfl, rfl⟩ (tb := 4) (by kernel_rfl) Try.underlying4 hB⟩
theorem rulesMore_holds : Rows.RulesMoreSaid :=
  OpenClaim.holds_of_wide 8 Try.f8 rfl rfl rfl rfl rfl rfl rfl ⟨rfl, rfl, rfl, rfl, rfl⟩ rfl rfl rfl rfl rfl (by kernel_rfl) Try.func8 (by kernel_rfl)
    (of_decide_eq_true (by kernel_rfl)) (by unfold Func.isWrapper; first | (rw [if_pos (by decide +kernel)]; kernel_rfl) | (rw [if_neg (by decide +kernel)]; exact ⟨rfl, rfl⟩))
    (fun os started H enc _ => by
      have h := rulesMore_lifted os started H enc
      simp only [and_true] at h
      exact h)
end Go.Proofs.Ytadmdlpmikoghaa
