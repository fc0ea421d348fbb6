/- A part of a proof. -/
import Derived.Test.YtadmdlpmikoghaaKeHlP
set_option maxRecDepth 100000
set_option linter.unusedVariables false
namespace Go.HL
def tf_rules_indexed : TFunc where
  n := 86
  args := 1
  res := [.tmp 2]
  code := .seq (.reg [i1 1 (.boxr 24 1 (.t 0)),
    i1 2 (.mov (.c (.nilp)))] [1] []) (.seq (.reg [i1 12 (.load 1 true (.t 1)),
    i1 13 (.mkmap (false, [.str])),
    i1 14 (.mkmap (false, [.str])),
    i1 15 (.build [.nils, .map none, .map none] [(0, 1, .t 12), (1, 1, .t 13), (2, 1, .t 14)]),
    i1 16 (.boxr 107 3 (.t 15)),
    i1 3 (.mov (.t 16))] [1, 3] []) (.seq (.seq (.reg [i1 17 (.faddr 0 (.t 1)),
    i1 18 (.load 1 false (.t 17)),
    i1 19 (.len 1 (.t 18)),
    i1 20 (.mov (.c (.int .i64 0)))] [3, 18, 19, 20] []) (.block 0 (.loop [3, 18, 19, 20] (.seq (.reg [i1 21 (.bin .lss (.t 20) (.t 19))] [3, 18, 19, 20, 21] []) (.seq (.cond (.t 21) (.skip) (.exit 0)) (.seq (.block 1 (.seq (.reg [i1 22 (.mov (.t 20)),
    i1 23 (.iaddr 2 (.t 18) (.t 20)),
    i1 24 (.load 2 true (.t 23)),
    i1 5 (.alloc 51 [.str ⟨#[]⟩, .nils]),
    i1 4 (.mov (.t 22)),
    i0 (.store 2 (.t 5) (.t 24))] [3, 4, 5, 18, 19, 20] [5]) (.seq (.seq (.regl [0, 1, 2, 4, 3, 5, 6, 7, 8, 9, 10, 11] [i1 26 (.mov (.t 3)),
    i1 27 (.nilck (.t 26)),
    i1 28 (.faddr 1 (.t 27)),
    i1 30 (.faddr 0 (.t 5)),
    i1 29 (.load 1 false (.t 28)),
    i1 31 (.load 1 false (.t 30)),
    i1 32 (.lookup (false, [.str]) true (.int .i64 0) (.t 29) (.t 31)),
    i1 25 (.mov (.t 32)),
    i1 33 (.extr (.t 25) 0),
    i1 34 (.extr (.t 25) 1),
    i1 6 (.mov (.t 33)),
    i1 7 (.mov (.t 34))] [3, 4, 5, 7, 18, 19, 20] []) (.seq (.reg [i1 35 (.mov (.t 7))] [3, 4, 5, 18, 19, 20, 35] []) (.cond (.t 35) (.exit 1) (.skip)))) (.seq (.regl [0, 1, 2, 4, 6, 3, 5, 7] [i1 36 (.mov (.t 3)),
    i1 37 (.nilck (.t 36)),
    i1 38 (.faddr 1 (.t 37)),
    i1 40 (.faddr 0 (.t 5)),
    i1 42 (.mov (.t 4)),
    i1 39 (.load 1 false (.t 38)),
    i1 41 (.load 1 false (.t 40)),
    i0 (.mupd (false, [.str]) (.t 39) (.t 41) (.t 42))] [3, 5, 18, 19, 20] []) (.seq (.regl [0, 1, 2, 4, 3, 5, 6, 7] [i1 43 (.mov (.t 3)),
    i1 44 (.nilck (.t 43)),
    i1 45 (.faddr 2 (.t 44)),
    i1 47 (.faddr 0 (.t 5)),
    i1 46 (.load 1 false (.t 45)),
    i1 48 (.load 1 false (.t 47)),
    i1 49 (.mkmap (false, [.str])),
    i0 (.mupd (false, [.str]) (.t 46) (.t 48) (.t 49))] [3, 5, 18, 19, 20] []) (.seq (.reg [i1 50 (.faddr 1 (.t 5)),
    i1 51 (.load 1 false (.t 50)),
    i1 52 (.len 1 (.t 51)),
    i1 53 (.mov (.c (.int .i64 0)))] [3, 5, 18, 19, 20, 51, 52, 53] []) (.block 2 (.loop [3, 5, 18, 19, 20, 51, 52, 53] (.seq (.reg [i1 54 (.bin .lss (.t 53) (.t 52))] [3, 5, 18, 19, 20, 51, 52, 53, 54] []) (.seq (.cond (.t 54) (.skip) (.exit 2)) (.seq (.block 3 (.seq (.reg [i1 55 (.mov (.t 53)),
    i1 56 (.iaddr 6 (.t 51) (.t 53)),
    i1 57 (.load 6 true (.t 56)),
    i1 9 (.alloc 43 [.str ⟨#[]⟩, .nils, .int .i64 0, .str ⟨#[]⟩, .str ⟨#[]⟩, .nils]),
    i1 8 (.mov (.t 55)),
    i0 (.store 6 (.t 9) (.t 57))] [3, 5, 8, 9, 18, 19, 20, 51, 52, 53] [9]) (.seq (.regl [0, 1, 2, 4, 7, 3, 5, 6, 8, 9, 10, 11, 12, 13, 14] [i1 59 (.mov (.t 3)),
    i1 60 (.nilck (.t 59)),
    i1 61 (.faddr 2 (.t 60)),
    i1 63 (.faddr 0 (.t 5)),
    i1 66 (.faddr 0 (.t 9)),
    i1 62 (.load 1 false (.t 61)),
    i1 64 (.load 1 false (.t 63)),
    i1 65 (.lookup (false, [.str]) false (.map none) (.t 62) (.t 64)),
    i1 67 (.load 1 false (.t 66)),
    i1 68 (.lookup (false, [.str]) true (.int .i64 0) (.t 65) (.t 67)),
    i1 58 (.mov (.t 68)),
    i1 69 (.extr (.t 58) 0),
    i1 70 (.extr (.t 58) 1),
    i1 10 (.mov (.t 69)),
    i1 11 (.mov (.t 70))] [3, 5, 8, 9, 11, 18, 19, 20, 51, 52, 53] []) (.seq (.reg [i1 71 (.mov (.t 11)),
    i1 72 (.not (.t 71))] [3, 5, 8, 9, 18, 19, 20, 51, 52, 53, 72] []) (.cond (.t 72) (.regl [0, 1, 2, 4, 7, 9, 3, 5, 6, 8, 10] [i1 73 (.mov (.t 3)),
    i1 74 (.nilck (.t 73)),
    i1 75 (.faddr 2 (.t 74)),
    i1 77 (.faddr 0 (.t 5)),
    i1 80 (.faddr 0 (.t 9)),
    i1 82 (.mov (.t 8)),
    i1 76 (.load 1 false (.t 75)),
    i1 78 (.load 1 false (.t 77)),
    i1 79 (.lookup (false, [.str]) false (.map none) (.t 76) (.t 78)),
    i1 81 (.load 1 false (.t 80)),
    i0 (.mupd (false, [.str]) (.t 79) (.t 81) (.t 82))] [3, 5, 18, 19, 20, 51, 52, 53] []) (.skip)))))) (.reg [i1 83 (.bin .add (.t 53) (.c (.int .i64 1))),
    i1 53 (.mov (.t 83))] [3, 5, 18, 19, 20, 51, 52, 53] [])))))))))))) (.reg [i1 84 (.bin .add (.t 20) (.c (.int .i64 1))),
    i1 20 (.mov (.t 84))] [3, 18, 19, 20] []))))))) (.seq (.reg [i1 85 (.mov (.t 3)),
    i1 2 (.mov (.t 85))] [2] []) (.ret))))
abbrev nr_rules_indexed : Nat := 26
def C_rules_indexed_2 (QF : AEnd → Store → Prop) (r0 : LE → Store → Prop) (r1 : LE → Store → Prop) (v3 v5 v18 v19 v20 v51 v52 v53 : AV) (S : Store) : Prop :=
  biW .lss v53 v52 fun v54 =>
  cnW v54 (iaW 6 v51 v53 fun v56 =>
  ldW S 6 true v56 fun v57 =>
  alW S 43 [.str ⟨#[]⟩, .nils, .int .i64 0, .str ⟨#[]⟩, .str ⟨#[]⟩, .nils] fun v9 S =>
  stW S 6 v9 v57 fun S =>
  fzW S v9 fun v9 S =>
  nkW v3 fun v60 =>
  faW 2 v60 fun v61 =>
  faW 0 v5 fun v63 =>
  faW 0 v9 fun v66 =>
  ldW S 1 false v61 fun v62 =>
  ldW S 1 false v63 fun v64 =>
  lkW S (false, [.str]) false (.map none) v62 v64 fun v65 =>
  ldW S 1 false v66 fun v67 =>
  lkW S (false, [.str]) true (.int .i64 0) v65 v67 fun v68 =>
  exW 0 v68 fun v69 =>
  exW 1 v68 fun v70 =>
  ntW v70 fun v72 =>
  cnW v72 (nkW v3 fun v74 =>
  faW 2 v74 fun v75 =>
  faW 0 v5 fun v77 =>
  faW 0 v9 fun v80 =>
  ldW S 1 false v75 fun v76 =>
  ldW S 1 false v77 fun v78 =>
  lkW S (false, [.str]) false (.map none) v76 v78 fun v79 =>
  ldW S 1 false v80 fun v81 =>
  muW S (false, [.str]) v79 v81 v53 fun S =>
  biW .add v53 (.int .i64 1) fun v83 =>
  rcW r1 [(3, v3), (5, v5), (18, v18), (19, v19), (20, v20), (51, v51), (52, v52), (53, v83)] S)
  (biW .add v53 (.int .i64 1) fun v83 =>
  rcW r1 [(3, v3), (5, v5), (18, v18), (19, v19), (20, v20), (51, v51), (52, v52), (53, v83)] S))
  (biW .add v20 (.int .i64 1) fun v84 =>
  rcW r0 [(3, v3), (18, v18), (19, v19), (20, v84)] S)
def C_rules_indexed_1 (QF : AEnd → Store → Prop) (r0 : LE → Store → Prop) (v3 v18 v19 v20 : AV) (S : Store) : Prop :=
  biW .lss v20 v19 fun v21 =>
  cnW v21 (iaW 2 v18 v20 fun v23 =>
  ldW S 2 true v23 fun v24 =>
  alW S 51 [.str ⟨#[]⟩, .nils] fun v5 S =>
  stW S 2 v5 v24 fun S =>
  fzW S v5 fun v5 S =>
  nkW v3 fun v27 =>
  faW 1 v27 fun v28 =>
  faW 0 v5 fun v30 =>
  ldW S 1 false v28 fun v29 =>
  ldW S 1 false v30 fun v31 =>
  lkW S (false, [.str]) true (.int .i64 0) v29 v31 fun v32 =>
  exW 0 v32 fun v33 =>
  exW 1 v32 fun v34 =>
  cnW v34 (biW .add v20 (.int .i64 1) fun v84 =>
  rcW r0 [(3, v3), (18, v18), (19, v19), (20, v84)] S)
  (nkW v3 fun v37 =>
  faW 1 v37 fun v38 =>
  faW 0 v5 fun v40 =>
  ldW S 1 false v38 fun v39 =>
  ldW S 1 false v40 fun v41 =>
  muW S (false, [.str]) v39 v41 v20 fun S =>
  nkW v3 fun v44 =>
  faW 2 v44 fun v45 =>
  faW 0 v5 fun v47 =>
  ldW S 1 false v45 fun v46 =>
  ldW S 1 false v47 fun v48 =>
  mmW S (false, [.str]) fun v49 S =>
  muW S (false, [.str]) v46 v48 v49 fun S =>
  faW 1 v5 fun v50 =>
  ldW S 1 false v50 fun v51 =>
  lnW S 1 v51 fun v52 =>
  LoopP (fun r1 l S => C_rules_indexed_2 QF r0 r1 (lget l 3) (lget l 5) (lget l 18) (lget l 19) (lget l 20) (lget l 51) (lget l 52) (lget l 53) S) [(3, v3), (5, v5), (18, v18), (19, v19), (20, v20), (51, v51), (52, v52), (53, (.int .i64 0))] S))
  (rtW [.tmp v3] QF S)
def B_rules_indexed (QF : AEnd → Store → Prop) (v0 : AV) (S : Store) : Prop :=
  brW 1 v0 fun v1 =>
  ldW S 1 true v1 fun v12 =>
  mmW S (false, [.str]) fun v13 S =>
  mmW S (false, [.str]) fun v14 S =>
  bdW [.nils, .map none, .map none] [(0, 1, v12), (1, 1, v13), (2, 1, v14)] fun v15 =>
  brW 3 v15 fun v16 =>
  faW 0 v1 fun v17 =>
  ldW S 1 false v17 fun v18 =>
  lnW S 1 v18 fun v19 =>
  LoopP (fun r0 l S => C_rules_indexed_1 QF r0 (lget l 3) (lget l 18) (lget l 19) (lget l 20) S) [(3, v16), (18, v18), (19, v19), (20, (.int .i64 0))] S
theorem w_rules_indexed {QF : AEnd → Store → Prop} {v0 : AV} {S : Store} (h : B_rules_indexed QF v0 S) : ACalls PG nr_rules_indexed [v0] S QF :=
  acalls_tf (F := tf_rules_indexed) (by kernel_rfl) rfl (by kernel_rfl) h
def tf_rules_index_levels : TFunc where
  n := 20
  args := 1
  res := [.tmp 2, .tmp 3]
  code := .seq (.reg [i1 1 (.boxr 63 1 (.t 0)),
    i1 2 (.mov (.c (.map none))),
    i1 3 (.mov (.c (.int .i64 0)))] [1] []) (.seq (.reg [i1 7 (.mkmap (true, [.int .i64, .int .i64])),
    i1 8 (.mkmap (true, [.int .i64, .int .i64])),
    i1 4 (.alloc 65 [.map none]),
    i1 5 (.alloc 109 [.map none]),
    i0 (.store 1 (.t 4) (.t 7)),
    i0 (.store 1 (.t 5) (.t 8))] [1, 4, 5] [4, 5]) (.seq (.reg [i1 9 (.load 1 false (.t 1)),
    i1 10 (.mkf (.func 44) [] [.t 1, .t 5]),
    i1 11 (.call (.f 31) [.t 9, .t 10])] [1, 4, 5] []) (.seq (.seq (.reg [i1 6 (.alloc 4 [.bool false]),
    i0 (.store 1 (.t 6) (.c (.bool true)))] [1, 4, 5, 6] []) (.block 0 (.loop [1, 4, 5, 6] (.seq (.seq (.reg [i1 12 (.load 1 false (.t 6))] [1, 4, 5, 6, 12] []) (.cond (.t 12) (.skip) (.exit 0))) (.seq (.block 1 (.seq (.reg [i0 (.store 1 (.t 6) (.c (.bool false)))] [1, 4, 5, 6] []) (.reg [i1 13 (.load 1 false (.t 1)),
    i1 14 (.mkf (.func 46) [] [.t 5, .t 4, .t 6]),
    i1 15 (.call (.f 31) [.t 13, .t 14])] [1, 4, 5, 6] []))) (.seq (.reg [i1 16 (.load 1 false (.t 6))] [1, 4, 5, 16] []) (.reg [i1 6 (.alloc 4 [.bool false]),
    i0 (.store 1 (.t 6) (.t 16))] [1, 4, 5, 6] []))))))) (.seq (.reg [i1 17 (.load 1 false (.t 4)),
    i1 18 (.load 1 false (.t 5)),
    i1 19 (.len 2 (.t 18)),
    i1 2 (.mov (.t 17)),
    i1 3 (.mov (.t 19))] [2, 3] []) (.ret)))))
abbrev nr_rules_index_levels : Nat := 27
def C_rules_index_levels_1 (QF : AEnd → Store → Prop) (r0 : LE → Store → Prop) (v1 v4 v5 v6 : AV) (S : Store) : Prop :=
  ldW S 1 false v6 fun v12 =>
  cnW v12 (stW S 1 v6 (.bool false) fun S =>
  ldW S 1 false v1 fun v13 =>
  caW PG S (.func (.func 31) [] []) [v13, (.func (.func 46) [] [v5, v4, v6])] (fun v15 S =>
  ldW S 1 false v6 fun v16 =>
  alW S 4 [.bool false] fun v6 S =>
  stW S 1 v6 v16 fun S =>
  rcW r0 [(1, v1), (4, v4), (5, v5), (6, v6)] S) (pqW QF))
  (ldW S 1 false v4 fun v17 =>
  ldW S 1 false v5 fun v18 =>
  lnW S 2 v18 fun v19 =>
  rtW [.tmp v17, .tmp v19] QF S)
def B_rules_index_levels (QF : AEnd → Store → Prop) (v0 : AV) (S : Store) : Prop :=
  brW 1 v0 fun v1 =>
  mmW S (true, [.int .i64, .int .i64]) fun v7 S =>
  mmW S (true, [.int .i64, .int .i64]) fun v8 S =>
  alW S 65 [.map none] fun v4 S =>
  alW S 109 [.map none] fun v5 S =>
  stW S 1 v4 v7 fun S =>
  stW S 1 v5 v8 fun S =>
  fzW S v4 fun v4 S =>
  fzW S v5 fun v5 S =>
  ldW S 1 false v1 fun v9 =>
  caW PG S (.func (.func 31) [] []) [v9, (.func (.func 44) [] [v1, v5])] (fun v11 S =>
  alW S 4 [.bool false] fun v6 S =>
  stW S 1 v6 (.bool true) fun S =>
  LoopP (fun r0 l S => C_rules_index_levels_1 QF r0 (lget l 1) (lget l 4) (lget l 5) (lget l 6) S) [(1, v1), (4, v4), (5, v5), (6, v6)] S) (pqW QF)
theorem w_rules_index_levels {QF : AEnd → Store → Prop} {v0 : AV} {S : Store} (h : B_rules_index_levels QF v0 S) : ACalls PG nr_rules_index_levels [v0] S QF :=
  acalls_tf (F := tf_rules_index_levels) (by kernel_rfl) rfl (by kernel_rfl) h
def tf_rules_index_plain : TFunc where
  n := 38
  args := 1
  res := [.cell 2 3 true]
  code := .seq (.reg [i1 1 (.boxr 63 1 (.t 0)),
    i1 2 (.alloc 33 [.int .i64 0, .int .i64 0, .int .i64 0])] [1, 2] []) (.seq (.seq (.reg [i1 4 (.load 1 false (.t 1)),
    i1 5 (.nilck (.t 4)),
    i1 6 (.faddr 0 (.t 5)),
    i1 7 (.faddr 0 (.t 6)),
    i1 8 (.load 1 false (.t 7)),
    i1 9 (.len 1 (.t 8)),
    i1 10 (.bin .eql (.t 9) (.c (.int .i64 0))),
    i1 11 (.mov (.t 10)),
    .grp 11 false [s1 12 (.load 1 false (.t 1)), s1 13 (.nilck (.t 12)), s1 14 (.faddr 0 (.t 13)), s1 15 (.load 1 true (.t 14)), s1 16 (.call (.f 50) [.t 15]), s1 17 (.not (.t 16))],
    i1 18 (.pick (.t 11) (.c (.bool true)) (.t 17))] [1, 2, 18] []) (.cond (.t 18) (.seq (.reg [i1 19 (.build [.int .i64 0, .int .i64 0, .int .i64 0] [(1, 1, .c (.int .i64 (-1))), (2, 1, .c (.int .i64 1))]),
    i0 (.store 3 (.t 2) (.t 19))] [2] []) (.ret)) (.skip))) (.seq (.reg [i1 20 (.load 1 false (.t 1)),
    i1 21 (.nilck (.t 20)),
    i1 22 (.faddr 0 (.t 21)),
    i1 23 (.load 1 true (.t 22)),
    i1 24 (.call (.f 51) [.t 23]),
    i1 3 (.alloc 33 [.int .i64 0, .int .i64 0, .int .i64 0]),
    i0 (.store 3 (.t 3) (.t 24))] [1, 2, 3] []) (.seq (.seq (.reg [i1 25 (.faddr 2 (.t 3)),
    i1 26 (.load 1 false (.t 25)),
    i1 27 (.bin .eql (.t 26) (.c (.int .i64 0)))] [1, 2, 3, 27] []) (.cond (.t 27) (.reg [i1 28 (.load 1 false (.t 1)),
    i1 29 (.mkf (.func 52) [] [.t 1]),
    i1 30 (.call (.f 31) [.t 28, .t 29]),
    i0 (.store 3 (.t 3) (.t 30))] [1, 2, 3] []) (.skip))) (.seq (.seq (.reg [i1 31 (.faddr 2 (.t 3)),
    i1 32 (.load 1 false (.t 31)),
    i1 33 (.bin .eql (.t 32) (.c (.int .i64 0)))] [1, 2, 3, 33] []) (.cond (.t 33) (.reg [i1 34 (.load 1 false (.t 1)),
    i1 35 (.mkf (.func 53) [] [.t 1]),
    i1 36 (.call (.f 31) [.t 34, .t 35]),
    i0 (.store 3 (.t 3) (.t 36))] [2, 3] []) (.skip))) (.seq (.reg [i1 37 (.load 3 true (.t 3)),
    i0 (.store 3 (.t 2) (.t 37))] [2] []) (.ret))))))
abbrev nr_rules_index_plain : Nat := 30
def C_rules_index_plain_3 (QF : AEnd → Store → Prop) (v2 v3 : AV) (S : Store) : Prop :=
  ldW S 3 true v3 fun v37 =>
  stW S 3 v2 v37 fun S =>
  rtW [.cell v2 3 true] QF S
def C_rules_index_plain_2 (QF : AEnd → Store → Prop) (v1 v2 v3 : AV) (S : Store) : Prop :=
  faW 2 v3 fun v31 =>
  ldW S 1 false v31 fun v32 =>
  biW .eql v32 (.int .i64 0) fun v33 =>
  cnW v33 (ldW S 1 false v1 fun v34 =>
  caW PG S (.func (.func 31) [] []) [v34, (.func (.func 53) [] [v1])] (fun v36 S =>
  stW S 3 v3 v36 fun S =>
  C_rules_index_plain_3 QF v2 v3 S) (pqW QF))
  (C_rules_index_plain_3 QF v2 v3 S)
def C_rules_index_plain_1 (QF : AEnd → Store → Prop) (v1 v2 v18 : AV) (S : Store) : Prop :=
  cnW v18 (bdW [.int .i64 0, .int .i64 0, .int .i64 0] [(1, 1, (.int .i64 (-1))), (2, 1, (.int .i64 1))] fun v19 =>
  stW S 3 v2 v19 fun S =>
  rtW [.cell v2 3 true] QF S)
  (ldW S 1 false v1 fun v20 =>
  nkW v20 fun v21 =>
  faW 0 v21 fun v22 =>
  ldW S 1 true v22 fun v23 =>
  caW PG S (.func (.func 51) [] []) [v23] (fun v24 S =>
  alW S 33 [.int .i64 0, .int .i64 0, .int .i64 0] fun v3 S =>
  stW S 3 v3 v24 fun S =>
  faW 2 v3 fun v25 =>
  ldW S 1 false v25 fun v26 =>
  biW .eql v26 (.int .i64 0) fun v27 =>
  cnW v27 (ldW S 1 false v1 fun v28 =>
  caW PG S (.func (.func 31) [] []) [v28, (.func (.func 52) [] [v1])] (fun v30 S =>
  stW S 3 v3 v30 fun S =>
  C_rules_index_plain_2 QF v1 v2 v3 S) (pqW QF))
  (C_rules_index_plain_2 QF v1 v2 v3 S)) (pqW QF))
def B_rules_index_plain (QF : AEnd → Store → Prop) (v0 : AV) (S : Store) : Prop :=
  brW 1 v0 fun v1 =>
  alW S 33 [.int .i64 0, .int .i64 0, .int .i64 0] fun v2 S =>
  ldW S 1 false v1 fun v4 =>
  nkW v4 fun v5 =>
  faW 0 v5 fun v6 =>
  faW 0 v6 fun v7 =>
  ldW S 1 false v7 fun v8 =>
  lnW S 1 v8 fun v9 =>
  biW .eql v9 (.int .i64 0) fun v10 =>
  grW v10 false (ldW S 1 false v1 fun v12 =>
  nkW v12 fun v13 =>
  faW 0 v13 fun v14 =>
  ldW S 1 true v14 fun v15 =>
  caW PG S (.func (.func 50) [] []) [v15] (fun v16 S =>
  ntW v16 fun v17 =>
  pkW v10 (.bool true) v17 fun v18 =>
  C_rules_index_plain_1 QF v1 v2 v18 S) (pqW QF))
  (pkW v10 (.bool true) undefA fun v18 =>
  C_rules_index_plain_1 QF v1 v2 v18 S)
theorem w_rules_index_plain {QF : AEnd → Store → Prop} {v0 : AV} {S : Store} (h : B_rules_index_plain QF v0 S) : ACalls PG nr_rules_index_plain [v0] S QF :=
  acalls_tf (F := tf_rules_index_plain) (by kernel_rfl) rfl (by kernel_rfl) h
def tf_rules_index_each : TFunc where
  n := 45
  args := 2
  res := [.cell 4 3 true]
  code := .seq (.reg [i1 4 (.alloc 33 [.int .i64 0, .int .i64 0, .int .i64 0])] [0, 1, 4] []) (.seq (.seq (.reg [i1 10 (.mov (.t 0)),
    i1 11 (.nilck (.t 10)),
    i1 12 (.faddr 0 (.t 11)),
    i1 13 (.faddr 0 (.t 12)),
    i1 14 (.load 1 false (.t 13)),
    i1 15 (.len 1 (.t 14)),
    i1 16 (.mov (.c (.int .i64 0)))] [1, 4, 14, 15, 16] []) (.block 0 (.loop [1, 4, 14, 15, 16] (.seq (.reg [i1 17 (.bin .lss (.t 16) (.t 15))] [1, 4, 14, 15, 16, 17] []) (.seq (.cond (.t 17) (.skip) (.exit 0)) (.seq (.block 1 (.seq (.reg [i1 18 (.mov (.t 16)),
    i1 19 (.iaddr 2 (.t 14) (.t 16)),
    i1 20 (.load 2 true (.t 19)),
    i1 6 (.alloc 51 [.str ⟨#[]⟩, .nils]),
    i1 5 (.mov (.t 18)),
    i0 (.store 2 (.t 6) (.t 20))] [1, 4, 5, 6, 14, 15, 16] [6]) (.seq (.reg [i1 21 (.faddr 1 (.t 6)),
    i1 22 (.load 1 false (.t 21)),
    i1 23 (.len 1 (.t 22)),
    i1 24 (.mov (.c (.int .i64 0)))] [1, 4, 5, 6, 14, 15, 16, 22, 23, 24] []) (.block 2 (.loop [1, 4, 5, 6, 14, 15, 16, 22, 23, 24] (.seq (.reg [i1 25 (.bin .lss (.t 24) (.t 23))] [1, 4, 5, 6, 14, 15, 16, 22, 23, 24, 25] []) (.seq (.cond (.t 25) (.skip) (.exit 2)) (.seq (.block 3 (.seq (.reg [i1 26 (.mov (.t 24)),
    i1 27 (.iaddr 6 (.t 22) (.t 24)),
    i1 28 (.load 6 true (.t 27)),
    i1 8 (.alloc 43 [.str ⟨#[]⟩, .nils, .int .i64 0, .str ⟨#[]⟩, .str ⟨#[]⟩, .nils]),
    i1 7 (.mov (.t 26)),
    i0 (.store 6 (.t 8) (.t 28))] [1, 4, 5, 6, 7, 8, 14, 15, 16, 22, 23, 24] [8]) (.seq (.reg [i1 29 (.mov (.t 1)),
    i1 30 (.mov (.t 5)),
    i1 31 (.mov (.t 7)),
    i1 32 (.build [.int .i64 0, .int .i64 0] [(0, 1, .t 30), (1, 1, .t 31)]),
    i1 33 (.load 2 true (.t 6)),
    i1 34 (.load 6 true (.t 8)),
    i1 35 (.call (.t 29) [.t 32, .t 33, .t 34]),
    i1 9 (.mov (.t 35))] [1, 4, 5, 6, 7, 9, 14, 15, 16, 22, 23, 24] []) (.seq (.reg [i1 36 (.mov (.t 9)),
    i1 37 (.bin .neq (.t 36) (.c (.int .i64 0)))] [1, 4, 5, 6, 7, 9, 14, 15, 16, 22, 23, 24, 37] []) (.cond (.t 37) (.seq (.reg [i1 38 (.mov (.t 5)),
    i1 39 (.mov (.t 7)),
    i1 40 (.mov (.t 9)),
    i1 41 (.build [.int .i64 0, .int .i64 0, .int .i64 0] [(0, 1, .t 38), (1, 1, .t 39), (2, 1, .t 40)]),
    i0 (.store 3 (.t 4) (.t 41))] [4] []) (.ret)) (.skip)))))) (.reg [i1 42 (.bin .add (.t 24) (.c (.int .i64 1))),
    i1 24 (.mov (.t 42))] [1, 4, 5, 6, 14, 15, 16, 22, 23, 24] []))))))))) (.reg [i1 43 (.bin .add (.t 16) (.c (.int .i64 1))),
    i1 16 (.mov (.t 43))] [1, 4, 14, 15, 16] []))))))) (.seq (.reg [i1 44 (.build [.int .i64 0, .int .i64 0, .int .i64 0] []),
    i0 (.store 3 (.t 4) (.t 44))] [4] []) (.ret)))
abbrev nr_rules_index_each : Nat := 31
def C_rules_index_each_2 (QF : AEnd → Store → Prop) (r0 : LE → Store → Prop) (r1 : LE → Store → Prop) (v1 v4 v5 v6 v14 v15 v16 v22 v23 v24 : AV) (S : Store) : Prop :=
  biW .lss v24 v23 fun v25 =>
  cnW v25 (iaW 6 v22 v24 fun v27 =>
  ldW S 6 true v27 fun v28 =>
  alW S 43 [.str ⟨#[]⟩, .nils, .int .i64 0, .str ⟨#[]⟩, .str ⟨#[]⟩, .nils] fun v8 S =>
  stW S 6 v8 v28 fun S =>
  fzW S v8 fun v8 S =>
  bdW [.int .i64 0, .int .i64 0] [(0, 1, v5), (1, 1, v24)] fun v32 =>
  ldW S 2 true v6 fun v33 =>
  ldW S 6 true v8 fun v34 =>
  caW PG S v1 [v32, v33, v34] (fun v35 S =>
  biW .neq v35 (.int .i64 0) fun v37 =>
  cnW v37 (bdW [.int .i64 0, .int .i64 0, .int .i64 0] [(0, 1, v5), (1, 1, v24), (2, 1, v35)] fun v41 =>
  stW S 3 v4 v41 fun S =>
  rtW [.cell v4 3 true] QF S)
  (biW .add v24 (.int .i64 1) fun v42 =>
  rcW r1 [(1, v1), (4, v4), (5, v5), (6, v6), (14, v14), (15, v15), (16, v16), (22, v22), (23, v23), (24, v42)] S)) (pqW QF))
  (biW .add v16 (.int .i64 1) fun v43 =>
  rcW r0 [(1, v1), (4, v4), (14, v14), (15, v15), (16, v43)] S)
def C_rules_index_each_1 (QF : AEnd → Store → Prop) (r0 : LE → Store → Prop) (v1 v4 v14 v15 v16 : AV) (S : Store) : Prop :=
  biW .lss v16 v15 fun v17 =>
  cnW v17 (iaW 2 v14 v16 fun v19 =>
  ldW S 2 true v19 fun v20 =>
  alW S 51 [.str ⟨#[]⟩, .nils] fun v6 S =>
  stW S 2 v6 v20 fun S =>
  fzW S v6 fun v6 S =>
  faW 1 v6 fun v21 =>
  ldW S 1 false v21 fun v22 =>
  lnW S 1 v22 fun v23 =>
  LoopP (fun r1 l S => C_rules_index_each_2 QF r0 r1 (lget l 1) (lget l 4) (lget l 5) (lget l 6) (lget l 14) (lget l 15) (lget l 16) (lget l 22) (lget l 23) (lget l 24) S) [(1, v1), (4, v4), (5, v16), (6, v6), (14, v14), (15, v15), (16, v16), (22, v22), (23, v23), (24, (.int .i64 0))] S)
  (bdW [.int .i64 0, .int .i64 0, .int .i64 0] [] fun v44 =>
  stW S 3 v4 v44 fun S =>
  rtW [.cell v4 3 true] QF S)
def B_rules_index_each (QF : AEnd → Store → Prop) (v0 v1 : AV) (S : Store) : Prop :=
  alW S 33 [.int .i64 0, .int .i64 0, .int .i64 0] fun v4 S =>
  nkW v0 fun v11 =>
  faW 0 v11 fun v12 =>
  faW 0 v12 fun v13 =>
  ldW S 1 false v13 fun v14 =>
  lnW S 1 v14 fun v15 =>
  LoopP (fun r0 l S => C_rules_index_each_1 QF r0 (lget l 1) (lget l 4) (lget l 14) (lget l 15) (lget l 16) S) [(1, v1), (4, v4), (14, v14), (15, v15), (16, (.int .i64 0))] S
theorem w_rules_index_each {QF : AEnd → Store → Prop} {v0 v1 : AV} {S : Store} (h : B_rules_index_each QF v0 v1 S) : ACalls PG nr_rules_index_each [v0, v1] S QF :=
  acalls_tf (F := tf_rules_index_each) (by kernel_rfl) rfl (by kernel_rfl) h
def tf_rules_Check_1 : TFunc where
  n := 14
  args := 5
  res := [.tmp 8]
  code := .seq (.reg [i1 5 (.boxr 70 2 (.t 0)),
    i1 6 (.boxr 51 2 (.t 1)),
    i1 7 (.boxr 43 6 (.t 2)),
    i1 8 (.mov (.c (.int .i64 0)))] [3, 4, 5] []) (.seq (.seq (.regl [0, 1, 2, 3, 4] [i1 9 (.load 1 false (.t 3)),
    i1 10 (.load 2 true (.t 5)),
    i1 11 (.lookup (true, [.int .i64, .int .i64]) false (.int .i64 0) (.t 9) (.t 10)),
    i1 12 (.load 1 false (.t 4)),
    i1 13 (.bin .gtr (.t 11) (.t 12))] [13] []) (.cond (.t 13) (.seq (.reg [i1 8 (.mov (.c (.int .i64 11)))] [8] []) (.ret)) (.skip))) (.seq (.reg [i1 8 (.mov (.c (.int .i64 0)))] [8] []) (.ret)))
abbrev nr_rules_Check_1 : Nat := 32
def B_rules_Check_1 (QF : AEnd → Store → Prop) (v0 v1 v2 v3 v4 : AV) (S : Store) : Prop :=
  brW 2 v0 fun v5 =>
  brW 2 v1 fun v6 =>
  brW 6 v2 fun v7 =>
  ldW S 1 false v3 fun v9 =>
  ldW S 2 true v5 fun v10 =>
  lkW S (true, [.int .i64, .int .i64]) false (.int .i64 0) v9 v10 fun v11 =>
  ldW S 1 false v4 fun v12 =>
  biW .gtr v11 v12 fun v13 =>
  cnW v13 (rtW [.tmp (.int .i64 11)] QF S)
  (rtW [.tmp (.int .i64 0)] QF S)
theorem w_rules_Check_1 {QF : AEnd → Store → Prop} {v0 v1 v2 v3 v4 : AV} {S : Store} (h : B_rules_Check_1 QF v0 v1 v2 v3 v4 S) : ACalls PG nr_rules_Check_1 [v0, v1, v2, v3, v4] S QF :=
  acalls_tf (F := tf_rules_Check_1) (by kernel_rfl) rfl (by kernel_rfl) h
def tf_ref11_Parse : TFunc where
  n := 72
  args := 1
  res := [.cell 2 1 true, .cell 3 3 true]
  code := .seq (.reg [i1 2 (.alloc 24 [.nils]),
    i1 3 (.alloc 77 [.int .i64 0, .int .i64 0, .int .i64 0])] [0, 2, 3] []) (.seq (.seq (.reg [i1 9 (.mov (.t 0)),
    i1 10 (.len 0 (.t 9)),
    i1 11 (.bin .gtr (.t 10) (.c (.int .i64 4096)))] [0, 2, 3, 11] []) (.cond (.t 11) (.seq (.reg [i1 12 (.build [.nils] []),
    i1 13 (.build [.int .i64 0, .int .i64 0, .int .i64 0] [(0, 1, .c (.int .i64 1)), (1, 1, .c (.int .i64 1)), (2, 1, .c (.int .i64 2))]),
    i0 (.store 1 (.t 2) (.t 12)),
    i0 (.store 3 (.t 3) (.t 13))] [2, 3] []) (.ret)) (.skip))) (.seq (.reg [i1 14 (.mov (.t 0)),
    i1 15 (.call (.f 57) [.t 14]),
    i1 16 (.build [.nils, .int .i64 0, .int .i64 0, .int .i64 0, .int .i64 0, .int .i64 0] [(0, 1, .t 15)]),
    i1 17 (.box 126 6 (.t 16)),
    i1 4 (.mov (.t 17))] [2, 3, 4] []) (.seq (.reg [i1 18 (.build [.nils] []),
    i1 5 (.alloc 24 [.nils]),
    i0 (.store 1 (.t 5) (.t 18))] [2, 3, 4, 5] []) (.seq (.block 0 (.loop [2, 3, 4, 5] (.seq (.seq (.reg [i1 19 (.mov (.t 4)),
    i1 20 (.call (.f 58) [.t 19, .c (.str ⟨#[116, 121, 112, 101]⟩)])] [2, 3, 4, 5, 20] []) (.cond (.t 20) (.skip) (.exit 0))) (.block 1 (.seq (.reg [i1 21 (.mov (.t 4)),
    i1 22 (.call (.f 59) [.t 21]),
    i1 23 (.build [.str ⟨#[]⟩, .nils] [(0, 1, .t 22)]),
    i1 6 (.alloc 51 [.str ⟨#[]⟩, .nils]),
    i0 (.store 2 (.t 6) (.t 23))] [2, 3, 4, 5, 6] []) (.seq (.block 2 (.loop [2, 3, 4, 5, 6] (.block 3 (.seq (.reg [i1 25 (.mov (.t 4)),
    i1 26 (.call (.f 60) [.t 25]),
    i1 24 (.mov (.t 26)),
    i1 27 (.extr (.t 24) 0),
    i1 28 (.extr (.t 24) 1),
    .box2 7 43 [.str ⟨#[]⟩, .nils, .int .i64 0, .str ⟨#[]⟩, .str ⟨#[]⟩, .nils] 6 (.t 27),
    i1 8 (.mov (.t 28))] [2, 3, 4, 5, 6, 7, 8] []) (.seq (.seq (.reg [i1 29 (.mov (.t 8)),
    i1 30 (.not (.t 29))] [2, 3, 4, 5, 6, 7, 30] []) (.cond (.t 30) (.exit 2) (.skip))) (.reg [i1 31 (.faddr 1 (.t 6)),
    i1 32 (.load 1 false (.t 31)),
    i1 33 (.load 6 true (.t 7)),
    i1 34 (.bslicr 43 6 [.t 33]),
    i1 35 (.app 43 6 104 (.t 32) (.t 34)),
    i1 36 (.faddr 1 (.t 6)),
    i0 (.store 1 (.t 36) (.t 35))] [2, 3, 4, 5, 6] [])))))) (.reg [i1 37 (.faddr 0 (.t 5)),
    i1 38 (.load 1 false (.t 37)),
    i1 39 (.load 2 true (.t 6)),
    i1 40 (.bslicr 51 2 [.t 39]),
    i1 41 (.app 51 2 40 (.t 38) (.t 40)),
    i1 42 (.faddr 0 (.t 5)),
    i0 (.store 1 (.t 42) (.t 41))] [2, 3, 4, 5] []))))))) (.seq (.seq (.reg [i1 43 (.mov (.t 4)),
    i1 44 (.nilck (.t 43)),
    i1 45 (.faddr 3 (.t 44)),
    i1 46 (.faddr 2 (.t 45)),
    i1 47 (.load 1 false (.t 46)),
    i1 48 (.bin .eql (.t 47) (.c (.int .i64 0))),
    i1 49 (.mov (.t 48)),
    .grp 49 true [s1 50 (.mov (.t 4)), s1 51 (.call (.f 61) [.t 50]), s1 52 (.field 0 1 false (.t 51)), s1 53 (.bin .neq (.t 52) (.c (.str ⟨#[]⟩)))],
    i1 54 (.pick (.t 49) (.t 53) (.c (.bool false)))] [2, 3, 4, 5, 54] []) (.cond (.t 54) (.reg [i1 55 (.mov (.t 4)),
    i1 56 (.mov (.t 4)),
    i1 57 (.call (.f 61) [.t 56]),
    i1 58 (.call (.f 62) [.t 55, .t 57, .c (.int .i64 8)])] [2, 3, 4, 5] []) (.skip))) (.seq (.seq (.reg [i1 59 (.mov (.t 4)),
    i1 60 (.nilck (.t 59)),
    i1 61 (.faddr 3 (.t 60)),
    i1 62 (.faddr 2 (.t 61)),
    i1 63 (.load 1 false (.t 62)),
    i1 64 (.bin .neq (.t 63) (.c (.int .i64 0)))] [2, 3, 4, 5, 64] []) (.cond (.t 64) (.seq (.regl [0, 1, 2, 3, 4, 5, 6] [i1 65 (.build [.nils] []),
    i1 66 (.mov (.t 4)),
    i1 67 (.nilck (.t 66)),
    i1 68 (.faddr 3 (.t 67)),
    i1 69 (.load 3 true (.t 68)),
    .one { d := none, o := .store 1 (.t 2) (.t 65), x := [68] },
    i0 (.store 3 (.t 3) (.t 69))] [2, 3] []) (.ret)) (.skip))) (.seq (.reg [i1 70 (.load 1 true (.t 5)),
    i1 71 (.build [.int .i64 0, .int .i64 0, .int .i64 0] []),
    i0 (.store 1 (.t 2) (.t 70)),
    i0 (.store 3 (.t 3) (.t 71))] [2, 3] []) (.ret))))))))
abbrev nr_ref11_Parse : Nat := 35
def C_ref11_Parse_4 (QF : AEnd → Store → Prop) (r0 : LE → Store → Prop) (r1 : LE → Store → Prop) (v2 v3 v4 v5 v6 : AV) (S : Store) : Prop :=
  caW PG S (.func (.func 60) [] []) [v4] (fun v26 S =>
  exW 0 v26 fun v27 =>
  exW 1 v26 fun v28 =>
  bfW 6 v27 fun v7 =>
  ntW v28 fun v30 =>
  cnW v30 (faW 0 v5 fun v37 =>
  ldW S 1 false v37 fun v38 =>
  ldW S 2 true v6 fun v39 =>
  srW 2 [v39] fun v40 =>
  apW S 51 2 40 v38 v40 fun v41 S =>
  faW 0 v5 fun v42 =>
  stW S 1 v42 v41 fun S =>
  rcW r0 [(2, v2), (3, v3), (4, v4), (5, v5)] S)
  (faW 1 v6 fun v31 =>
  ldW S 1 false v31 fun v32 =>
  ldW S 6 true v7 fun v33 =>
  srW 6 [v33] fun v34 =>
  apW S 43 6 104 v32 v34 fun v35 S =>
  faW 1 v6 fun v36 =>
  stW S 1 v36 v35 fun S =>
  rcW r1 [(2, v2), (3, v3), (4, v4), (5, v5), (6, v6)] S)) (pqW QF)
def C_ref11_Parse_3 (QF : AEnd → Store → Prop) (v2 v3 v4 v5 : AV) (S : Store) : Prop :=
  nkW v4 fun v60 =>
  faW 3 v60 fun v61 =>
  faW 2 v61 fun v62 =>
  ldW S 1 false v62 fun v63 =>
  biW .neq v63 (.int .i64 0) fun v64 =>
  cnW v64 (bdW [.nils] [] fun v65 =>
  nkW v4 fun v67 =>
  faW 3 v67 fun v68 =>
  ldW S 3 true v68 fun v69 =>
  stW S 1 v2 v65 fun S1 =>
  kpW [v68] S S1 (
  stW S1 3 v3 v69 fun S =>
  rtW [.cell v2 1 true, .cell v3 3 true] QF S))
  (ldW S 1 true v5 fun v70 =>
  bdW [.int .i64 0, .int .i64 0, .int .i64 0] [] fun v71 =>
  stW S 1 v2 v70 fun S =>
  stW S 3 v3 v71 fun S =>
  rtW [.cell v2 1 true, .cell v3 3 true] QF S)
def C_ref11_Parse_2 (QF : AEnd → Store → Prop) (v2 v3 v4 v5 v54 : AV) (S : Store) : Prop :=
  cnW v54 (caW PG S (.func (.func 61) [] []) [v4] (fun v57 S =>
  caW PG S (.func (.func 62) [] []) [v4, v57, (.int .i64 8)] (fun v58 S =>
  C_ref11_Parse_3 QF v2 v3 v4 v5 S) (pqW QF)) (pqW QF))
  (C_ref11_Parse_3 QF v2 v3 v4 v5 S)
def C_ref11_Parse_1 (QF : AEnd → Store → Prop) (r0 : LE → Store → Prop) (v2 v3 v4 v5 : AV) (S : Store) : Prop :=
  caW PG S (.func (.func 58) [] []) [v4, (.str ⟨#[116, 121, 112, 101]⟩)] (fun v20 S =>
  cnW v20 (caW PG S (.func (.func 59) [] []) [v4] (fun v22 S =>
  bdW [.str ⟨#[]⟩, .nils] [(0, 1, v22)] fun v23 =>
  alW S 51 [.str ⟨#[]⟩, .nils] fun v6 S =>
  stW S 2 v6 v23 fun S =>
  LoopP (fun r1 l S => C_ref11_Parse_4 QF r0 r1 (lget l 2) (lget l 3) (lget l 4) (lget l 5) (lget l 6) S) [(2, v2), (3, v3), (4, v4), (5, v5), (6, v6)] S) (pqW QF))
  (nkW v4 fun v44 =>
  faW 3 v44 fun v45 =>
  faW 2 v45 fun v46 =>
  ldW S 1 false v46 fun v47 =>
  biW .eql v47 (.int .i64 0) fun v48 =>
  grW v48 true (caW PG S (.func (.func 61) [] []) [v4] (fun v51 S =>
  fdW 0 1 false v51 fun v52 =>
  biW .neq v52 (.str ⟨#[]⟩) fun v53 =>
  pkW v48 v53 (.bool false) fun v54 =>
  C_ref11_Parse_2 QF v2 v3 v4 v5 v54 S) (pqW QF))
  (pkW v48 undefA (.bool false) fun v54 =>
  C_ref11_Parse_2 QF v2 v3 v4 v5 v54 S))) (pqW QF)
def B_ref11_Parse (QF : AEnd → Store → Prop) (v0 : AV) (S : Store) : Prop :=
  alW S 24 [.nils] fun v2 S =>
  alW S 77 [.int .i64 0, .int .i64 0, .int .i64 0] fun v3 S =>
  lnW S 0 v0 fun v10 =>
  biW .gtr v10 (.int .i64 4096) fun v11 =>
  cnW v11 (bdW [.nils] [] fun v12 =>
  bdW [.int .i64 0, .int .i64 0, .int .i64 0] [(0, 1, (.int .i64 1)), (1, 1, (.int .i64 1)), (2, 1, (.int .i64 2))] fun v13 =>
  stW S 1 v2 v12 fun S =>
  stW S 3 v3 v13 fun S =>
  rtW [.cell v2 1 true, .cell v3 3 true] QF S)
  (caW PG S (.func (.func 57) [] []) [v0] (fun v15 S =>
  bdW [.nils, .int .i64 0, .int .i64 0, .int .i64 0, .int .i64 0, .int .i64 0] [(0, 1, v15)] fun v16 =>
  bxW S 126 6 v16 fun v17 S =>
  bdW [.nils] [] fun v18 =>
  alW S 24 [.nils] fun v5 S =>
  stW S 1 v5 v18 fun S =>
  LoopP (fun r0 l S => C_ref11_Parse_1 QF r0 (lget l 2) (lget l 3) (lget l 4) (lget l 5) S) [(2, v2), (3, v3), (4, v17), (5, v5)] S) (pqW QF))
theorem w_ref11_Parse {QF : AEnd → Store → Prop} {v0 : AV} {S : Store} (h : B_ref11_Parse QF v0 S) : ACalls PG nr_ref11_Parse [v0] S QF :=
  acalls_tf (F := tf_ref11_Parse) (by kernel_rfl) rfl (by kernel_rfl) h
def tf_rules_index_find : TFunc where
  n := 39
  args := 3
  res := [.cell 6 2 true, .tmp 7]
  code := .seq (.reg [i1 6 (.alloc 70 [.int .i64 0, .int .i64 0]),
    i1 7 (.mov (.c (.bool false)))] [0, 1, 2, 6] []) (.seq (.reg [i1 13 (.mov (.t 0)),
    i1 14 (.nilck (.t 13)),
    i1 15 (.faddr 1 (.t 14)),
    i1 16 (.load 1 false (.t 15)),
    i1 17 (.mov (.t 1)),
    i1 18 (.lookup (false, [.str]) true (.int .i64 0) (.t 16) (.t 17)),
    i1 12 (.mov (.t 18)),
    i1 19 (.extr (.t 12) 0),
    i1 20 (.extr (.t 12) 1),
    i1 8 (.mov (.t 19)),
    i1 9 (.mov (.t 20))] [0, 1, 2, 6, 8, 9] []) (.seq (.reg [i1 22 (.mov (.t 0)),
    i1 23 (.nilck (.t 22)),
    i1 24 (.faddr 2 (.t 23)),
    i1 25 (.load 1 false (.t 24)),
    i1 26 (.mov (.t 1)),
    i1 27 (.lookup (false, [.str]) false (.map none) (.t 25) (.t 26)),
    i1 28 (.mov (.t 2)),
    i1 29 (.lookup (false, [.str]) true (.int .i64 0) (.t 27) (.t 28)),
    i1 21 (.mov (.t 29)),
    i1 30 (.extr (.t 21) 0),
    i1 31 (.extr (.t 21) 1),
    i1 10 (.mov (.t 30)),
    i1 11 (.mov (.t 31))] [6, 8, 9, 10, 11] []) (.seq (.reg [i1 32 (.mov (.t 8)),
    i1 33 (.mov (.t 10)),
    i1 34 (.build [.int .i64 0, .int .i64 0] [(0, 1, .t 32), (1, 1, .t 33)]),
    i1 35 (.mov (.t 9)),
    i1 36 (.mov (.t 35)),
    .grp 36 true [s1 37 (.mov (.t 11))],
    i1 38 (.pick (.t 36) (.t 37) (.c (.bool false))),
    i0 (.store 2 (.t 6) (.t 34)),
    i1 7 (.mov (.t 38))] [6, 7] [6]) (.ret))))
abbrev nr_rules_index_find : Nat := 36
def B_rules_index_find (QF : AEnd → Store → Prop) (v0 v1 v2 : AV) (S : Store) : Prop :=
  alW S 70 [.int .i64 0, .int .i64 0] fun v6 S =>
  nkW v0 fun v14 =>
  faW 1 v14 fun v15 =>
  ldW S 1 false v15 fun v16 =>
  lkW S (false, [.str]) true (.int .i64 0) v16 v1 fun v18 =>
  exW 0 v18 fun v19 =>
  exW 1 v18 fun v20 =>
  nkW v0 fun v23 =>
  faW 2 v23 fun v24 =>
  ldW S 1 false v24 fun v25 =>
  lkW S (false, [.str]) false (.map none) v25 v1 fun v27 =>
  lkW S (false, [.str]) true (.int .i64 0) v27 v2 fun v29 =>
  exW 0 v29 fun v30 =>
  exW 1 v29 fun v31 =>
  bdW [.int .i64 0, .int .i64 0] [(0, 1, v19), (1, 1, v30)] fun v34 =>
  grW v20 true (pkW v20 v31 (.bool false) fun v38 =>
  stW S 2 v6 v34 fun S =>
  fzW S v6 fun v6 S =>
  rtW [.cell v6 2 true, .tmp v38] QF S)
  (pkW v20 undefA (.bool false) fun v38 =>
  stW S 2 v6 v34 fun S =>
  fzW S v6 fun v6 S =>
  rtW [.cell v6 2 true, .tmp v38] QF S)
theorem w_rules_index_find {QF : AEnd → Store → Prop} {v0 v1 v2 : AV} {S : Store} (h : B_rules_index_find QF v0 v1 v2 S) : ACalls PG nr_rules_index_find [v0, v1, v2] S QF :=
  acalls_tf (F := tf_rules_index_find) (by kernel_rfl) rfl (by kernel_rfl) h
def tf_rules_index_at : TFunc where
  n := 19
  args := 2
  res := [.cell 4 6 true]
  code := .seq (.reg [i1 3 (.boxr 70 2 (.t 1)),
    i1 4 (.alloc 43 [.str ⟨#[]⟩, .nils, .int .i64 0, .str ⟨#[]⟩, .str ⟨#[]⟩, .nils])] [0, 3, 4] []) (.seq (.regl [0, 1, 2, 3, 5, 10, 4, 6, 7, 8, 9, 11, 12, 13, 14] [i1 5 (.mov (.t 0)),
    i1 6 (.nilck (.t 5)),
    i1 7 (.faddr 0 (.t 6)),
    i1 8 (.faddr 0 (.t 7)),
    i1 10 (.faddr 0 (.t 3)),
    i1 15 (.faddr 1 (.t 3)),
    i1 9 (.load 1 false (.t 8)),
    i1 11 (.load 1 false (.t 10)),
    i1 12 (.iaddr 2 (.t 9) (.t 11)),
    i1 13 (.faddr 1 (.t 12)),
    i1 14 (.load 1 false (.t 13)),
    i1 16 (.load 1 false (.t 15)),
    i1 17 (.iaddr 6 (.t 14) (.t 16)),
    i1 18 (.load 6 true (.t 17)),
    i0 (.store 6 (.t 4) (.t 18))] [4] [4]) (.ret))
abbrev nr_rules_index_at : Nat := 37
def B_rules_index_at (QF : AEnd → Store → Prop) (v0 v1 : AV) (S : Store) : Prop :=
  brW 2 v1 fun v3 =>
  alW S 43 [.str ⟨#[]⟩, .nils, .int .i64 0, .str ⟨#[]⟩, .str ⟨#[]⟩, .nils] fun v4 S =>
  nkW v0 fun v6 =>
  faW 0 v6 fun v7 =>
  faW 0 v7 fun v8 =>
  faW 0 v3 fun v10 =>
  faW 1 v3 fun v15 =>
  ldW S 1 false v8 fun v9 =>
  ldW S 1 false v10 fun v11 =>
  iaW 2 v9 v11 fun v12 =>
  faW 1 v12 fun v13 =>
  ldW S 1 false v13 fun v14 =>
  ldW S 1 false v15 fun v16 =>
  iaW 6 v14 v16 fun v17 =>
  ldW S 6 true v17 fun v18 =>
  stW S 6 v4 v18 fun S =>
  fzW S v4 fun v4 S =>
  rtW [.cell v4 6 true] QF S
theorem w_rules_index_at {QF : AEnd → Store → Prop} {v0 v1 : AV} {S : Store} (h : B_rules_index_at QF v0 v1 S) : ACalls PG nr_rules_index_at [v0, v1] S QF :=
  acalls_tf (F := tf_rules_index_at) (by kernel_rfl) rfl (by kernel_rfl) h
end Go.HL
