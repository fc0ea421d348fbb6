/- The law RulesStands returns true for every input and leaves it as it was; no conditions. -/
import Derived.Test.YtadmdlpmikoghaaMc2
import Derived.Test.YtadmdlpmikoghaaHlS0
/- Levels: the plain law: they stand. -/
set_option linter.unusedVariables false
set_option linter.unusedSimpArgs false
namespace Go.HL

theorem raiseN_quiet {N : Nat} {n : Nat × Nat} : ∀ {l : List Ln} {a : Lv × Bool}, a.2 = false → (raiseN N n l a).2 = false → (raiseN N n l a) = a ∧ ∀ x ∈ l, ¬ (getL a.1 n < getL a.1 x.1 + x.2.toNat ∧ getL a.1 n ≤ N)
  | [], a, h0, h => ⟨rfl, fun x hx => by cases hx⟩
  | l :: r, a, h0, h => by
    have stay : ∀ {l : List Ln} {a : Lv × Bool}, a.2 = true → (raiseN N n l a).2 = true := by
      intro l
      induction l with
      | nil => intro a h; exact h
      | cons x l ih =>
        intro a h
        unfold raiseN
        split
        · exact ih rfl
        · exact ih h
    unfold raiseN at h ⊢
    split at h
    · rw [stay rfl] at h; cases h
    · rename_i hc
      rw [if_neg hc]
      obtain ⟨h1, h2⟩ := raiseN_quiet h0 h
      refine ⟨h1, fun x hx => ?_⟩
      rcases List.mem_cons.1 hx with rfl | hx
      · exact hc
      · exact h2 x hx
theorem roundF_quiet {N : Nat} : ∀ {w : List Rw} {a : Lv × Bool}, a.2 = false → (roundF N w a).2 = false → ∀ x ∈ w, ∀ l ∈ x.2, ¬ (getL a.1 x.1 < getL a.1 l.1 + l.2.toNat ∧ getL a.1 x.1 ≤ N)
  | [], a, h0, h, x, hx => by cases hx
  | y :: w, a, h0, h, x, hx => by
    unfold roundF at h
    have stay : ∀ {w : List Rw} {a : Lv × Bool}, a.2 = true → (roundF N w a).2 = true := by
      intro w
      induction w with
      | nil => intro a h; exact h
      | cons z w ih =>
        intro a h
        unfold roundF
        refine ih ?_
        have : ∀ {l : List Ln} {a : Lv × Bool}, a.2 = true → (raiseN N z.1 l a).2 = true := by
          intro l
          induction l with
          | nil => intro a h; exact h
          | cons x l ih =>
            intro a h
            unfold raiseN
            split
            · exact ih rfl
            · exact ih h
        exact this h
    have h1 : (raiseN N y.1 y.2 a).2 = false := by
      cases hq : (raiseN N y.1 y.2 a).2 with
      | false => rfl
      | true => rw [stay hq] at h; cases h
    obtain ⟨e1, e2⟩ := raiseN_quiet h0 h1
    rw [e1] at h
    rcases List.mem_cons.1 hx with rfl | hx
    · exact e2
    · exact roundF_quiet h0 h x hx
/-- With fuel enough the rounds end where nothing rises. -/
theorem iterF_quiet {N : Nat} {s : List Ty} {w : List Rw} (hw : RwOk s w) : ∀ {f : Nat} {lv : Lv}, Shp lv s → Bdd N lv → manyF s * (N + 1) < f + phi N lv → (roundF N w (iterF N w f lv, false)).2 = false
  | 0, lv, h1, h2, h3 => by have := phi_shp (N := N) h1; omega
  | f + 1, lv, h1, h2, h3 => by
    obtain ⟨k1, k2, k3, k4, k5, k6⟩ := roundF_keep (N := N) (a := (lv, false)) hw h1 h2
    unfold iterF
    split
    · rename_i hr
      have := k5 rfl hr
      exact iterF_quiet hw k1 k2 (by dsimp only at this; omega)
    · rename_i hr
      have hr : (roundF N w (lv, false)).2 = false := by simpa using hr
      have h4 := k6 hr
      dsimp only at h4
      rw [h4]
      exact hr
theorem lev_quiet {s : List Ty} (h : manyF s ≤ 256) : (roundF (manyF s) (rowsF s) (levF s, false)).2 = false := by
  refine iterF_quiet (rows_ok s) (shp_zero s) bdd_zero ?_
  have : manyF s * (manyF s + 1) ≤ 256 * 257 := Nat.mul_le_mul h (by omega)
  omega
/-- Levels of a schema that may be: each stands no lower than what it leans on. -/
theorem lev_stands {s : List Ty} (h : errA (chkF s) = 0) {i k : Nat} {t : Ty} {r : Rl} (ht : s[i]? = some t) (hr : t.rels[k]? = some r) : getL (levF s) (i, k) ≤ manyF s ∧ ∀ l ∈ leansF s t.name r, getL (levF s) l.1 + l.2.toNat ≤ getL (levF s) (i, k) := by
  have hg := chk_good h
  have h1 : getL (levF s) (i, k) ≤ manyF s := by
    unfold chkF at h
    split at h
    · rename_i h0; exact absurd h h0
    · cases hq : eachF s (cycF s) with
      | some q =>
        obtain ⟨a, b, e⟩ := q
        have := eachF_err hq
        rw [hq] at h
        exact absurd h this
      | none =>
        have h2 := eachF_none hq ht hr
        unfold cycF at h2
        split at h2
        · cases h2
        · omega
  refine ⟨h1, fun l hl => ?_⟩
  have h2 := roundF_quiet rfl (lev_quiet hg.many)
  have hm : ∃ x ∈ rowsF s, x.1 = (i, k) ∧ x.2 = leansF s t.name r := by
    have h3 := lookR_at ht hr
    have key : ∀ w : List Rw, lookR w (i, k) = some (leansF s t.name r) → ∃ x ∈ w, x.1 = (i, k) ∧ x.2 = leansF s t.name r := by
      intro w
      induction w with
      | nil => intro h; cases h
      | cons x w ih =>
        intro h
        unfold lookR at h
        split at h
        · rename_i he
          exact ⟨x, by simp, he.symm, Option.some.inj h⟩
        · obtain ⟨y, hy, h4⟩ := ih h
          exact ⟨y, List.mem_cons_of_mem _ hy, h4⟩
    exact key _ h3
  obtain ⟨x, hx, e1, e2⟩ := hm
  have h4 := h2 x hx l (by rw [e2]; exact hl)
  rw [e1] at h4
  dsimp only at h4
  omega
end Go.HL
/- Walks: law12: RulesStands. -/
set_option linter.unusedVariables false
set_option linter.unusedSimpArgs false
set_option maxRecDepth 4000
namespace Go.HL

theorem lvl_eq {s : List Ty} {a b : Nat} {l : List Nat} {x : Nat} (hl : (levF s)[a]? = some l) (hx : l[b]? = some x) : getL (levF s) (a, b) = x := by simp [getL, hl, hx]
theorem told_lean {s : List Ty} (hg : GoodS s) {i k : Nat} {t : Ty} {r : Rl} (ht : s[i]? = some t) (hr : t.rels[k]? = some r) {f : Rf} (hf : f ∈ r.refs) (h0 : ¬ f.rl = ⟨#[]⟩) {a b : Nat} {u : Ty} {q : Rl} (hu : s[a]? = some u) (hq : u.rels[b]? = some q) (e1 : u.name = f.ty) (e2 : q.name = f.rl) :
    ((a, b), false) ∈ leansF s t.name r := by
  have hl : ¬ r.refs.length = 0 := fun h => by
    rw [List.length_eq_zero_iff.1 h] at hf
    cases hf
  rw [leansF, if_neg hl]
  refine List.mem_filterMap.2 ⟨f, hf, ?_⟩
  have ho := hg.once hu hq
  rw [e1, e2] at ho
  have hok := good_refs hg ht hr f hf
  rw [refLean_ok hok, if_neg h0]
  unfold fiN at ho
  rw [findF_rel] at ho
  rw [Option.some.injEq, Prod.mk.injEq]
  exact ⟨ho, rfl⟩
theorem c_RulesStands {s : List Ty} (hs : OkS s) : AFun PG nr_law12_RulesStands [scA s] (.bool true) := by
  intro S
  refine w_law12_RulesStands ?_
  unfold B_law12_RulesStands
  (try simp only [rws, hwR, Nat.reduceAdd, Nat.reduceLeDiff, Nat.reduceLT, Nat.reduceSub, Nat.reduceMul, Nat.reduceEqDiff, Nat.reduceBEq, Int.reduceAdd, Int.reduceToNat, beq_self_eq_true, scA])
  refine caW_pure c_awake12 ?_
  (try simp only [rws, hwR, Nat.reduceAdd, Nat.reduceLeDiff, Nat.reduceLT, Nat.reduceSub, Nat.reduceMul, Nat.reduceEqDiff, Nat.reduceBEq, Int.reduceAdd, Int.reduceToNat, beq_self_eq_true])
  refine caW_pure (by simpa only [scA] using c_law11_Few hs (most := 80) (by decide) (by decide)) ?_
  cases hf : fewF s 80 with
  | false =>
    (try simp only [rws, hwR, Nat.reduceAdd, Nat.reduceLeDiff, Nat.reduceLT, Nat.reduceSub, Nat.reduceMul, Nat.reduceEqDiff, Nat.reduceBEq, Int.reduceAdd, Int.reduceToNat, beq_self_eq_true, C_law12_RulesStands_1])
    exact rtW_one ⟨rfl, rfl⟩
  | true =>
    have hN := few_N hf (by decide)
    have q1 := c_rules_Check hs hN
    have q3 := c_rules_Levels hs hN
    obtain ⟨x, y, z, hc⟩ := chkF_fl s
    rw [hc] at q1
    unfold lvlF at q3
    rw [hc, flA_err] at q3
    simp only [scA, flA] at q1 q3
    (try simp only [rws, hwR, Nat.reduceAdd, Nat.reduceLeDiff, Nat.reduceLT, Nat.reduceSub, Nat.reduceMul, Nat.reduceEqDiff, Nat.reduceBEq, Int.reduceAdd, Int.reduceToNat, beq_self_eq_true, C_law12_RulesStands_1])
    refine caW_pure q3 ?_
    by_cases hz : z = 0
    · rw [if_pos hz]
      (try simp only [rws, hwR, Nat.reduceAdd, Nat.reduceLeDiff, Nat.reduceLT, Nat.reduceSub, Nat.reduceMul, Nat.reduceEqDiff, Nat.reduceBEq, Int.reduceAdd, Int.reduceToNat, beq_self_eq_true])
      refine caW_pure q1 ?_
      subst hz
      (try simp only [rws, hwR, Nat.reduceAdd, Nat.reduceLeDiff, Nat.reduceLT, Nat.reduceSub, Nat.reduceMul, Nat.reduceEqDiff, Nat.reduceBEq, Int.reduceAdd, Int.reduceToNat, beq_self_eq_true, eqW_def])
      have hck : errA (chkF s) = 0 := by rw [hc, flA_err]
      have hg := chk_good hck
      have hsz := hg.sizes
      have hshp := lev_shp s
      have hll : (levF s).length = s.length := shp_len hshp
      have hlc0 : (lvC (levF s)).length = s.length := by simp [lvC, hll]
      have row : ∀ {i : Nat} {t : Ty}, s[i]? = some t → ∃ l : List Nat, (levF s)[i]? = some l ∧ l.length = t.rels.length ∧ (lvC (levF s))[i]? = some [.sl 1 (l.map fun x => [iv x])] := fun ht => by
        obtain ⟨l, h1, h2⟩ := shp_row hshp ht
        exact ⟨l, h1, h2, by rw [lvC, List.getElem?_map, h1]; rfl⟩
      refine cnW_intro (fun hx => ?_) (fun hx => ?_)
      · exact absurd hx (by decide)
      refine LoopP.introS (fun i : Nat => [(1, .rop [.sl 2 (s.map tyC)]), (5, .sl 1 (lvC (levF s))), (8, .int .i64 i)]) (fun i S' => S' = S ∧ i ≤ s.length) (fun i => s.length - i) 0 ⟨rfl, by omega⟩ rfl ?_
      rintro i S' ⟨rfl, hi⟩ k0 hk0
      (try simp only [rws, hwR, Nat.reduceAdd, Nat.reduceLeDiff, Nat.reduceLT, Nat.reduceSub, Nat.reduceMul, Nat.reduceEqDiff, Nat.reduceBEq, Int.reduceAdd, Int.reduceToNat, beq_self_eq_true, C_law12_RulesStands_2])
      (refine cnW_intro (fun hlt => ?_) (fun hlt => ?_) <;> (try simp only [hlc] at hlt)) <;> rw [hlc0] at hlt
      · obtain ⟨t, ht⟩ := get_lt hlt
        obtain ⟨l, hl, hlen, hcl⟩ := row ht
        have htn := hsz.2.1 t (List.mem_of_getElem? ht)
        have hokt := hs.at ht
        refine LoopP.introS (fun k : Nat => [(1, .rop [.sl 2 (s.map tyC)]), (5, .sl 1 (lvC (levF s))), (8, .int .i64 i), (9, .int .i64 k)]) (fun k S2 => S2 = S' ∧ k ≤ t.rels.length) (fun k => t.rels.length - k) 0 ⟨rfl, by omega⟩ rfl ?_
        rintro k S2 ⟨rfl, hk⟩ k1 hk1
        (try simp only [rws, hwR, Nat.reduceAdd, Nat.reduceLeDiff, Nat.reduceLT, Nat.reduceSub, Nat.reduceMul, Nat.reduceEqDiff, Nat.reduceBEq, Int.reduceAdd, Int.reduceToNat, beq_self_eq_true, C_law12_RulesStands_3, hcl])
        (refine cnW_intro (fun hlt2 => ?_) (fun hlt2 => ?_) <;> (try simp only [hlc] at hlt2))
        · obtain ⟨r, hr⟩ := get_lt (l := t.rels) (i := k) (by omega)
          obtain ⟨v, hv⟩ := get_lt (l := l) (i := k) (by omega)
          have hokr := hokt.at hr
          have hrl := hokr.refs
          have hst := lev_stands hck ht hr
          have hvx := lvl_eq hl hv
          (try simp only [rws, hwR, Nat.reduceAdd, Nat.reduceLeDiff, Nat.reduceLT, Nat.reduceSub, Nat.reduceMul, Nat.reduceEqDiff, Nat.reduceBEq, Int.reduceAdd, Int.reduceToNat, beq_self_eq_true, ht, hr, tyC, rlC_eq])
          refine LoopP.introS (fun j : Nat => [(1, .rop [.sl 2 (s.map tyC)]), (5, .sl 1 (lvC (levF s))), (8, .int .i64 i), (9, .int .i64 k), (10, .sl 2 (r.refs.map rfC)), (11, .int .i64 j)]) (fun j S3 => S3 = S2 ∧ j ≤ r.refs.length) (fun j => r.refs.length - j) 0 ⟨rfl, by omega⟩ rfl ?_
          rintro j S3 ⟨rfl, hj⟩ k2 hk2
          (try simp only [rws, hwR, Nat.reduceAdd, Nat.reduceLeDiff, Nat.reduceLT, Nat.reduceSub, Nat.reduceMul, Nat.reduceEqDiff, Nat.reduceBEq, Int.reduceAdd, Int.reduceToNat, beq_self_eq_true, C_law12_RulesStands_4])
          (refine cnW_intro (fun hlt3 => ?_) (fun hlt3 => ?_) <;> (try simp only [hlc] at hlt3))
          · obtain ⟨f, hfj⟩ := get_lt hlt3
            refine LoopP.introS (fun a : Nat => [(1, .rop [.sl 2 (s.map tyC)]), (5, .sl 1 (lvC (levF s))), (8, .int .i64 i), (9, .int .i64 k), (10, .sl 2 (r.refs.map rfC)), (11, .int .i64 j), (12, .int .i64 a)]) (fun a S4 => S4 = S3 ∧ a ≤ s.length) (fun a => s.length - a) 0 ⟨rfl, by omega⟩ rfl ?_
            rintro a S4 ⟨rfl, ha⟩ k3 hk3
            (try simp only [rws, hwR, Nat.reduceAdd, Nat.reduceLeDiff, Nat.reduceLT, Nat.reduceSub, Nat.reduceMul, Nat.reduceEqDiff, Nat.reduceBEq, Int.reduceAdd, Int.reduceToNat, beq_self_eq_true, C_law12_RulesStands_5])
            (refine cnW_intro (fun hlt4 => ?_) (fun hlt4 => ?_) <;> (try simp only [hlc] at hlt4))
            · obtain ⟨u, hu⟩ := get_lt hlt4
              obtain ⟨l2, hl2, hlen2, hcl2⟩ := row hu
              have hun := hsz.2.1 u (List.mem_of_getElem? hu)
              have hoku := hs.at hu
              refine LoopP.introS (fun b : Nat => [(1, .rop [.sl 2 (s.map tyC)]), (5, .sl 1 (lvC (levF s))), (8, .int .i64 i), (9, .int .i64 k), (10, .sl 2 (r.refs.map rfC)), (11, .int .i64 j), (12, .int .i64 a), (13, .int .i64 b)]) (fun b S5 => S5 = S4 ∧ b ≤ u.rels.length) (fun b => u.rels.length - b) 0 ⟨rfl, by omega⟩ rfl ?_
              rintro b S5 ⟨rfl, hb⟩ k4 hk4
              (try simp only [rws, hwR, Nat.reduceAdd, Nat.reduceLeDiff, Nat.reduceLT, Nat.reduceSub, Nat.reduceMul, Nat.reduceEqDiff, Nat.reduceBEq, Int.reduceAdd, Int.reduceToNat, beq_self_eq_true, C_law12_RulesStands_6, hu, tyC])
              (refine cnW_intro (fun hlt5 => ?_) (fun hlt5 => ?_) <;> (try simp only [hlc] at hlt5))
              · obtain ⟨q, hq⟩ := get_lt hlt5
                obtain ⟨v2, hv2⟩ := get_lt (l := l2) (i := b) (by omega)
                have hvx2 := lvl_eq hl2 hv2
                have next : C_law12_RulesStands_9 (fun ae S' => ae = .ret (.bool true) ∧ S' = S5) k0 k1 k2 k3 k4 (.rop [.sl 2 (s.map tyC)]) (.sl 1 (lvC (levF s))) (.int .i64 i) (.int .i64 k) (.sl 2 (r.refs.map rfC)) (.int .i64 j) (.int .i64 a) (.int .i64 b) (.bool false) S5 := by
                  unfold C_law12_RulesStands_9
                  (try simp only [rws, hwR, Nat.reduceAdd, Nat.reduceLeDiff, Nat.reduceLT, Nat.reduceSub, Nat.reduceMul, Nat.reduceEqDiff, Nat.reduceBEq, Int.reduceAdd, Int.reduceToNat, beq_self_eq_true])
                  (simp (disch := omega) only [hwrap64])
                  exact rcW_as rfl (hk4 (b + 1) _ ⟨rfl, by omega⟩ (by omega))
                (try simp only [rws, hwR, Nat.reduceAdd, Nat.reduceLeDiff, Nat.reduceLT, Nat.reduceSub, Nat.reduceMul, Nat.reduceEqDiff, Nat.reduceBEq, Int.reduceAdd, Int.reduceToNat, beq_self_eq_true, hfj, rfC])
                cases a1 : decide (f.rl = ⟨#[]⟩) with
                | true => (try simp only [rws, hwR, Nat.reduceAdd, Nat.reduceLeDiff, Nat.reduceLT, Nat.reduceSub, Nat.reduceMul, Nat.reduceEqDiff, Nat.reduceBEq, Int.reduceAdd, Int.reduceToNat, beq_self_eq_true, C_law12_RulesStands_7, C_law12_RulesStands_8]); exact next
                | false =>
                  (try simp only [rws, hwR, Nat.reduceAdd, Nat.reduceLeDiff, Nat.reduceLT, Nat.reduceSub, Nat.reduceMul, Nat.reduceEqDiff, Nat.reduceBEq, Int.reduceAdd, Int.reduceToNat, beq_self_eq_true, hu, hfj, rfC, tyC])
                  cases a2 : decide (u.name = f.ty) with
                  | false => (try simp only [rws, hwR, Nat.reduceAdd, Nat.reduceLeDiff, Nat.reduceLT, Nat.reduceSub, Nat.reduceMul, Nat.reduceEqDiff, Nat.reduceBEq, Int.reduceAdd, Int.reduceToNat, beq_self_eq_true, C_law12_RulesStands_7, C_law12_RulesStands_8]); exact next
                  | true =>
                    (try simp only [rws, hwR, Nat.reduceAdd, Nat.reduceLeDiff, Nat.reduceLT, Nat.reduceSub, Nat.reduceMul, Nat.reduceEqDiff, Nat.reduceBEq, Int.reduceAdd, Int.reduceToNat, beq_self_eq_true, C_law12_RulesStands_7, hu, hq, hfj, rfC, tyC, rlC_eq])
                    cases a3 : decide (q.name = f.rl) with
                    | false => (try simp only [rws, hwR, Nat.reduceAdd, Nat.reduceLeDiff, Nat.reduceLT, Nat.reduceSub, Nat.reduceMul, Nat.reduceEqDiff, Nat.reduceBEq, Int.reduceAdd, Int.reduceToNat, beq_self_eq_true, C_law12_RulesStands_8]); exact next
                    | true =>
                      have hln := hst.2 _ (told_lean hg ht hr (List.mem_of_getElem? hfj) (of_decide_eq_false a1) hu hq (of_decide_eq_true a2) (of_decide_eq_true a3))
                      dsimp only at hln
                      rw [hvx, hvx2] at hln
                      (try simp only [rws, hwR, Nat.reduceAdd, Nat.reduceLeDiff, Nat.reduceLT, Nat.reduceSub, Nat.reduceMul, Nat.reduceEqDiff, Nat.reduceBEq, Int.reduceAdd, Int.reduceToNat, beq_self_eq_true, C_law12_RulesStands_8, hcl, hcl2, hv, hv2, Option.map_some, iv])
                      rw [show decide ((v : Int) < (v2 : Int)) = false from decide_eq_false (by simp only [Bool.toNat_false] at hln; omega)]
                      exact next
              · (simp (disch := omega) only [hwrap64])
                exact rcW_as rfl (hk3 (a + 1) _ ⟨rfl, by omega⟩ (by omega))
            · (simp (disch := omega) only [hwrap64])
              exact rcW_as rfl (hk2 (j + 1) _ ⟨rfl, by omega⟩ (by omega))
          · (try simp only [rws, hwR, Nat.reduceAdd, Nat.reduceLeDiff, Nat.reduceLT, Nat.reduceSub, Nat.reduceMul, Nat.reduceEqDiff, Nat.reduceBEq, Int.reduceAdd, Int.reduceToNat, beq_self_eq_true, hcl, hv, Option.map_some, iv])
            (refine cnW_intro (fun hneg => ?_) (fun hneg => ?_) <;> (try simp only [hlc] at hneg))
            · omega
            · (simp (disch := omega) only [hwrap64])
              exact rcW_as rfl (hk1 (k + 1) _ ⟨rfl, by omega⟩ (by omega))
        · (simp (disch := omega) only [hwrap64])
          exact rcW_as rfl (hk0 (i + 1) _ ⟨rfl, by omega⟩ (by omega))
      · (try simp only [rws, hwR, Nat.reduceAdd, Nat.reduceLeDiff, Nat.reduceLT, Nat.reduceSub, Nat.reduceMul, Nat.reduceEqDiff, Nat.reduceBEq, Int.reduceAdd, Int.reduceToNat, beq_self_eq_true])
        exact rtW_one ⟨by rw [hlc0]; simp, rfl⟩
    · rw [if_neg hz]
      (try simp only [rws, hwR, Nat.reduceAdd, Nat.reduceLeDiff, Nat.reduceLT, Nat.reduceSub, Nat.reduceMul, Nat.reduceEqDiff, Nat.reduceBEq, Int.reduceAdd, Int.reduceToNat, beq_self_eq_true])
      refine caW_pure q1 ?_
      (try simp only [rws, hwR, Nat.reduceAdd, Nat.reduceLeDiff, Nat.reduceLT, Nat.reduceSub, Nat.reduceMul, Nat.reduceEqDiff, Nat.reduceBEq, Int.reduceAdd, Int.reduceToNat, beq_self_eq_true, eqW_def])
      refine cnW_intro (fun hx => ?_) (fun hx => ?_)
      · simp [hz] at hx
      exact rtW_one ⟨by simp, rfl⟩
end Go.HL
namespace Go.Proofs.Ytadmdlpmikoghaa
open Go.ChangeShapes Go.WideShapes Go.ChangeAt Go.RowKit Go.HL

set_option maxRecDepth 100000 in
theorem stands_lifted (os : Os) (started : os.Started) (H : Type) (enc : TypeId × Value → H) :
    ReturnsInHanded {} Try.checked os 6 .any (fun w args => (Rows.rulesStandsSpec.pre enc Try.prog Try.f6 Rows.rulesStandsRow.domain false w args ∧ True) ∧ sizedMet enc Try.prog Try.f6 (OpenSpec.ofChange Rows.rulesStandsSpec) false w args)
      (Rows.rulesStandsSpec.post enc Try.prog Try.f6 false true false false) := by
  refine returnsInHanded_of_change_and (C := Try.checked) (X := fun _ _ => True) (fun _ _ _ _ h => h) own started (by kernel_rfl) Try.func6
    (by
      obtain ⟨w, t, i, h1, h2, h3, h4, h5, h6⟩ := ChangeSpec.witness6 (enc := enc) (C := Try.checked) (os := os) (f := 6) (fn := Try.f6) (s := Rows.rulesStandsSpec) (conds := Rows.rulesStandsRow.domain) (apart := false) false ⟨#[], #[.agg #[.slice none 0 0]], []⟩ 8 (by kernel_rfl) (by kernel_rfl) (by kernel_rfl) (by kernel_rfl)
      exact ⟨w, t, i, h1, h2, h3, h4, ⟨⟨h5.1, trivial⟩, h5.2⟩, h6⟩) ?_
  intro W base args ds gs before hval0 hW hcnd hsz0 _ _
  have hval : ∀ (j : Nat) t v, Try.f6.params[j]? = some t → args[j]? = some v → Value.okWide Try.prog W .any base t v := hval0
  have hsz : (DataW.weightsEach Try.prog (Try.f6.params.toList ++ []) (ds ++ gs)).all (· ≤ reachBytes) = true := hsz0
  have hW' := hW
  obtain ⟨p, q, hA0, hV, rfl, hfz, hnd⟩ := hW
  have hA : DataW.TrodAll enc Try.prog W 0 (fun _ => true) true Try.f6.params.toList args.toList ds p := hA0
  rw [Try.params6] at hA hval hsz
  obtain ⟨v0, d0, rfl, rfl, h0⟩ := trodAll_one hA
  obtain ⟨rfl, rfl⟩ := trodVars_none hV
  obtain ⟨w0, -⟩ := weights_one hsz
  obtain ⟨vs, hvs, -⟩ := okWide_struct Try.underlying24 (hval 0 24 v0 rfl rfl)
  obtain ⟨s, hs, hv⟩ := open_sc scT w0 h0 ⟨vs, hvs⟩
  clear hA0 hval0 hsz0
  refine (call_true (c_RulesStands hs) (vs := #[v0]) (.cons hv .nil)).mono fun e W' ⟨he, hB⟩ => ?_
  subst he
  exact ⟨_, rfl, post_kept laidOut (by rw [Try.params6]; intro t ht; simp at ht; subst ht; exact ⟨by kernel_rfl, of_decide_eq_true (by kernel_rfl)⟩) rfl hW' ⟨rfl, rfl, rfl⟩ (tb := 4) (by kernel_rfl) Try.underlying4 hB⟩
theorem rulesStands_holds : Rows.RulesStandsSaid :=
  OpenClaim.holds_of_wide 6 Try.f6 rfl rfl rfl rfl rfl rfl rfl ⟨rfl, rfl, rfl, rfl, rfl⟩ rfl rfl rfl rfl rfl (by kernel_rfl) Try.func6 (by kernel_rfl)
    (of_decide_eq_true (by kernel_rfl)) (by unfold Func.isWrapper; first | (rw [if_pos (by decide +kernel)]; kernel_rfl) | (rw [if_neg (by decide +kernel)]; exact ⟨rfl, rfl⟩))
    (fun os started H enc _ => by
      have h := stands_lifted os started H enc
      simp only [and_true] at h
      exact h)
#print axioms rulesStands_holds
end Go.Proofs.Ytadmdlpmikoghaa
