/- A part of a proof. -/
import Derived.Test.YtadmdlpmikoghaaKeHlP
set_option maxRecDepth 100000
set_option linter.unusedVariables false
namespace Go.HL
def tf_law14_Tuples : TFunc where
  n := 26
  args := 1
  res := [.tmp 2]
  code := .seq (.reg [i1 2 (.mov (.c (.nils)))] [0] []) (.seq (.reg [i1 3 (.mov (.c (.nils)))] [0, 3] []) (.seq (.seq (.reg [i1 4 (.mov (.c (.int .i64 0)))] [0, 3, 4] []) (.block 0 (.loop [0, 3, 4] (.seq (.seq (.reg [i1 7 (.mov (.t 4)),
    i1 8 (.mov (.t 0)),
    i1 9 (.len 1 (.t 8)),
    i1 10 (.bin .lss (.t 7) (.t 9))] [0, 3, 4, 10] []) (.cond (.t 10) (.skip) (.exit 0))) (.seq (.block 1 (.seq (.reg [i1 14 (.mov (.t 0)),
    i1 15 (.mov (.t 4)),
    i1 16 (.iaddr 1 (.t 14) (.t 15)),
    i1 17 (.load 1 false (.t 16)),
    i1 18 (.call (.f 63) [.t 17]),
    i1 13 (.mov (.t 18)),
    i1 19 (.extr (.t 13) 0),
    i1 20 (.extr (.t 13) 1),
    .box2 5 95 [.str ⟨#[]⟩, .str ⟨#[]⟩, .str ⟨#[]⟩, .str ⟨#[]⟩, .str ⟨#[]⟩, .str ⟨#[]⟩] 6 (.t 19),
    i1 6 (.mov (.t 20))] [0, 3, 4, 5] []) (.reg [i1 21 (.mov (.t 3)),
    i1 22 (.load 6 true (.t 5)),
    i1 23 (.bslicr 95 6 [.t 22]),
    i1 24 (.app 95 6 96 (.t 21) (.t 23)),
    i1 3 (.mov (.t 24))] [0, 3, 4] []))) (.reg [i1 11 (.mov (.t 4)),
    i1 12 (.bin .add (.t 11) (.c (.int .i64 1))),
    i1 4 (.mov (.t 12))] [0, 3, 4] [])))))) (.seq (.reg [i1 25 (.mov (.t 3)),
    i1 2 (.mov (.t 25))] [2] []) (.ret))))
abbrev nr_law14_Tuples : Nat := 40
def C_law14_Tuples_1 (QF : AEnd → Store → Prop) (r0 : LE → Store → Prop) (v0 v3 v4 : AV) (S : Store) : Prop :=
  lnW S 1 v0 fun v9 =>
  biW .lss v4 v9 fun v10 =>
  cnW v10 (iaW 1 v0 v4 fun v16 =>
  ldW S 1 false v16 fun v17 =>
  caW PG S (.func (.func 63) [] []) [v17] (fun v18 S =>
  exW 0 v18 fun v19 =>
  exW 1 v18 fun v20 =>
  bfW 6 v19 fun v5 =>
  ldW S 6 true v5 fun v22 =>
  srW 6 [v22] fun v23 =>
  apW S 95 6 96 v3 v23 fun v24 S =>
  biW .add v4 (.int .i64 1) fun v12 =>
  rcW r0 [(0, v0), (3, v24), (4, v12)] S) (pqW QF))
  (rtW [.tmp v3] QF S)
def B_law14_Tuples (QF : AEnd → Store → Prop) (v0 : AV) (S : Store) : Prop :=
  LoopP (fun r0 l S => C_law14_Tuples_1 QF r0 (lget l 0) (lget l 3) (lget l 4) S) [(0, v0), (3, (.nils)), (4, (.int .i64 0))] S
theorem w_law14_Tuples {QF : AEnd → Store → Prop} {v0 : AV} {S : Store} (h : B_law14_Tuples QF v0 S) : ACalls PG nr_law14_Tuples [v0] S QF :=
  acalls_tf (F := tf_law14_Tuples) (by kernel_rfl) rfl (by kernel_rfl) h
def tf_tuple_Allowed : TFunc where
  n := 41
  args := 2
  res := [.tmp 4]
  code := .seq (.reg [i1 2 (.boxr 24 1 (.t 0)),
    i1 3 (.boxr 95 6 (.t 1)),
    i1 4 (.mov (.c (.int .i64 0)))] [2, 3] []) (.seq (.seq (.reg [i1 7 (.load 6 true (.t 3)),
    i1 8 (.call (.f 64) [.t 7]),
    i1 9 (.bin .eql (.t 8) (.c (.str ⟨#[]⟩)))] [2, 3, 9] []) (.cond (.t 9) (.seq (.reg [i1 4 (.mov (.c (.int .i64 1)))] [4] []) (.ret)) (.skip))) (.seq (.reg [i1 11 (.load 1 true (.t 2)),
    i1 12 (.faddr 0 (.t 3)),
    i1 13 (.faddr 0 (.t 12)),
    i1 14 (.load 1 false (.t 13)),
    i1 15 (.faddr 2 (.t 3)),
    i1 16 (.load 1 false (.t 15)),
    i1 17 (.call (.f 19) [.t 11, .t 14, .t 16]),
    i1 10 (.mov (.t 17)),
    i1 18 (.extr (.t 10) 0),
    i1 19 (.extr (.t 10) 1),
    .box2 5 43 [.str ⟨#[]⟩, .nils, .int .i64 0, .str ⟨#[]⟩, .str ⟨#[]⟩, .nils] 6 (.t 18),
    i1 6 (.mov (.t 19))] [2, 3, 5, 6] []) (.seq (.seq (.reg [i1 20 (.mov (.t 6)),
    i1 21 (.not (.t 20)),
    i1 22 (.mov (.t 21)),
    .grp 22 false [s1 23 (.faddr 0 (.t 2)), s1 24 (.load 1 false (.t 23)), s1 25 (.mkf (.func 66) [] [.t 3]), s1 26 (.call (.f 65) [.t 24, .t 25]), s1 27 (.not (.t 26))],
    i1 28 (.pick (.t 22) (.c (.bool true)) (.t 27))] [3, 5, 28] []) (.cond (.t 28) (.seq (.reg [i1 4 (.mov (.c (.int .i64 6)))] [4] []) (.ret)) (.skip))) (.seq (.seq (.reg [i1 29 (.faddr 1 (.t 5)),
    i1 30 (.load 1 false (.t 29)),
    i1 31 (.faddr 3 (.t 3)),
    i1 32 (.faddr 0 (.t 31)),
    i1 33 (.faddr 0 (.t 32)),
    i1 34 (.load 1 false (.t 33)),
    i1 35 (.faddr 3 (.t 3)),
    i1 36 (.faddr 2 (.t 35)),
    i1 37 (.load 1 false (.t 36)),
    i1 38 (.build [.str ⟨#[]⟩, .str ⟨#[]⟩] [(0, 1, .t 34), (1, 1, .t 37)]),
    i1 39 (.call (.f 67) [.t 30, .t 38]),
    i1 40 (.not (.t 39))] [40] []) (.cond (.t 40) (.seq (.reg [i1 4 (.mov (.c (.int .i64 10)))] [4] []) (.ret)) (.skip))) (.seq (.reg [i1 4 (.mov (.c (.int .i64 0)))] [4] []) (.ret))))))
abbrev nr_tuple_Allowed : Nat := 41
def C_tuple_Allowed_1 (QF : AEnd → Store → Prop) (v3 v5 v28 : AV) (S : Store) : Prop :=
  cnW v28 (rtW [.tmp (.int .i64 6)] QF S)
  (faW 1 v5 fun v29 =>
  ldW S 1 false v29 fun v30 =>
  faW 3 v3 fun v31 =>
  faW 0 v31 fun v32 =>
  faW 0 v32 fun v33 =>
  ldW S 1 false v33 fun v34 =>
  faW 3 v3 fun v35 =>
  faW 2 v35 fun v36 =>
  ldW S 1 false v36 fun v37 =>
  bdW [.str ⟨#[]⟩, .str ⟨#[]⟩] [(0, 1, v34), (1, 1, v37)] fun v38 =>
  caW PG S (.func (.func 67) [] []) [v30, v38] (fun v39 S =>
  ntW v39 fun v40 =>
  cnW v40 (rtW [.tmp (.int .i64 10)] QF S)
  (rtW [.tmp (.int .i64 0)] QF S)) (pqW QF))
def B_tuple_Allowed (QF : AEnd → Store → Prop) (v0 v1 : AV) (S : Store) : Prop :=
  brW 1 v0 fun v2 =>
  brW 6 v1 fun v3 =>
  ldW S 6 true v3 fun v7 =>
  caW PG S (.func (.func 64) [] []) [v7] (fun v8 S =>
  biW .eql v8 (.str ⟨#[]⟩) fun v9 =>
  cnW v9 (rtW [.tmp (.int .i64 1)] QF S)
  (ldW S 1 true v2 fun v11 =>
  faW 0 v3 fun v12 =>
  faW 0 v12 fun v13 =>
  ldW S 1 false v13 fun v14 =>
  faW 2 v3 fun v15 =>
  ldW S 1 false v15 fun v16 =>
  caW PG S (.func (.func 19) [] []) [v11, v14, v16] (fun v17 S =>
  exW 0 v17 fun v18 =>
  exW 1 v17 fun v19 =>
  bfW 6 v18 fun v5 =>
  ntW v19 fun v21 =>
  grW v21 false (faW 0 v2 fun v23 =>
  ldW S 1 false v23 fun v24 =>
  caW PG S (.func (.func 65) [] []) [v24, (.func (.func 66) [] [v3])] (fun v26 S =>
  ntW v26 fun v27 =>
  pkW v21 (.bool true) v27 fun v28 =>
  C_tuple_Allowed_1 QF v3 v5 v28 S) (pqW QF))
  (pkW v21 (.bool true) undefA fun v28 =>
  C_tuple_Allowed_1 QF v3 v5 v28 S)) (pqW QF))) (pqW QF)
theorem w_tuple_Allowed {QF : AEnd → Store → Prop} {v0 v1 : AV} {S : Store} (h : B_tuple_Allowed QF v0 v1 S) : ACalls PG nr_tuple_Allowed [v0, v1] S QF :=
  acalls_tf (F := tf_tuple_Allowed) (by kernel_rfl) rfl (by kernel_rfl) h
def tf_engine_search_ask : TFunc where
  n := 74
  args := 3
  res := [.tmp 6]
  code := .seq (.reg [i1 4 (.boxr 56 2 (.t 1)),
    i1 6 (.mov (.c (.bool false)))] [0, 2, 4] []) (.seq (.regl [0, 1, 2, 4, 6, 3, 5, 7, 8, 9, 10, 11, 12, 13] [i1 12 (.mov (.t 0)),
    i1 13 (.nilck (.t 12)),
    i1 14 (.faddr 0 (.t 13)),
    i1 16 (.faddr 0 (.t 4)),
    i1 18 (.mov (.t 2)),
    i1 15 (.load 1 true (.t 14)),
    i1 17 (.load 1 false (.t 16)),
    i1 19 (.call (.f 19) [.t 15, .t 17, .t 18]),
    i1 11 (.mov (.t 19)),
    i1 20 (.extr (.t 11) 0),
    i1 21 (.extr (.t 11) 1),
    i1 7 (.alloc 43 [.str ⟨#[]⟩, .nils, .int .i64 0, .str ⟨#[]⟩, .str ⟨#[]⟩, .nils]),
    i0 (.store 6 (.t 7) (.t 20)),
    i1 8 (.mov (.t 21))] [0, 2, 4, 7, 8] [7]) (.seq (.seq (.reg [i1 22 (.mov (.t 8)),
    i1 23 (.not (.t 22))] [0, 2, 4, 7, 23] []) (.cond (.t 23) (.seq (.reg [i1 6 (.mov (.c (.bool false)))] [6] []) (.ret)) (.skip))) (.seq (.reg [i1 24 (.mov (.t 0)),
    i1 25 (.nilck (.t 24)),
    i1 26 (.faddr 5 (.t 25)),
    i1 27 (.load 1 false (.t 26)),
    i1 28 (.bin .add (.t 27) (.c (.int .i64 1))),
    i1 29 (.nilck (.t 24)),
    i1 30 (.faddr 5 (.t 29)),
    i0 (.store 1 (.t 30) (.t 28))] [0, 2, 4, 7] []) (.seq (.seq (.regl [0, 1, 2, 4, 5, 6, 3, 7, 8, 9, 10, 11, 12, 13, 14, 15, 16] [i1 31 (.mov (.t 0)),
    i1 32 (.nilck (.t 31)),
    i1 33 (.faddr 5 (.t 32)),
    i1 35 (.mov (.t 0)),
    i1 36 (.nilck (.t 35)),
    i1 37 (.faddr 4 (.t 36)),
    i1 34 (.load 1 false (.t 33)),
    i1 38 (.load 1 false (.t 37)),
    i1 39 (.bin .gtr (.t 34) (.t 38)),
    i1 40 (.mov (.t 39)),
    .grp 40 false [s1 41 (.mov (.t 0)), s1 42 (.nilck (.t 41)), s1 43 (.faddr 6 (.t 42)), s1 44 (.load 1 false (.t 43)), s1 45 (.len 2 (.t 44)), s1 46 (.bin .eql (.t 45) (.c (.int .i64 50)))],
    i1 47 (.pick (.t 40) (.c (.bool true)) (.t 46))] [0, 2, 4, 7, 47] []) (.cond (.t 47) (.reg [i1 48 (.build [] []),
    i1 49 (.mki 101 (.t 48)),
    i0 (.panic (.t 49))] [0, 2, 4, 7] []) (.skip))) (.seq (.reg [i1 50 (.load 2 true (.t 4)),
    i1 51 (.mov (.t 2)),
    i1 52 (.build [.str ⟨#[]⟩, .str ⟨#[]⟩, .str ⟨#[]⟩] [(0, 2, .t 50), (2, 1, .t 51)]),
    .box2 9 98 [.str ⟨#[]⟩, .str ⟨#[]⟩, .str ⟨#[]⟩] 3 (.t 52)] [0, 7, 9] []) (.seq (.seq (.regl [0, 1, 2, 3, 4, 5] [i1 53 (.mov (.t 0)),
    i1 54 (.nilck (.t 53)),
    i1 55 (.faddr 6 (.t 54)),
    i1 56 (.load 1 false (.t 55)),
    i1 57 (.load 3 true (.t 9)),
    i1 58 (.lookup (true, [.str, .str, .str]) false (.bool false) (.t 56) (.t 57))] [0, 7, 9, 58] []) (.cond (.t 58) (.seq (.reg [i1 6 (.mov (.c (.bool false)))] [6] []) (.ret)) (.skip))) (.seq (.regl [0, 1, 2, 3, 4, 5] [i1 59 (.mov (.t 0)),
    i1 60 (.nilck (.t 59)),
    i1 61 (.faddr 6 (.t 60)),
    i1 62 (.load 1 false (.t 61)),
    i1 63 (.load 3 true (.t 9)),
    i0 (.mupd (true, [.str, .str, .str]) (.t 62) (.t 63) (.c (.bool true)))] [0, 7, 9] []) (.seq (.reg [i1 64 (.mov (.t 0)),
    i1 65 (.load 3 true (.t 9)),
    i1 66 (.load 6 true (.t 7)),
    i1 67 (.call (.f 68) [.t 64, .t 65, .t 66]),
    i1 10 (.mov (.t 67))] [0, 9, 10] []) (.seq (.regl [0, 1, 2, 3, 4, 5] [i1 68 (.mov (.t 0)),
    i1 69 (.nilck (.t 68)),
    i1 70 (.faddr 6 (.t 69)),
    i1 71 (.load 1 false (.t 70)),
    i1 72 (.load 3 true (.t 9)),
    i0 (.mdel (true, [.str, .str, .str]) (.t 71) (.t 72))] [10] []) (.seq (.reg [i1 73 (.mov (.t 10)),
    i1 6 (.mov (.t 73))] [6] []) (.ret)))))))))))
abbrev nr_engine_search_ask : Nat := 43
def C_engine_search_ask_1 (QF : AEnd → Store → Prop) (v0 v2 v4 v7 : AV) (S : Store) : Prop :=
  ldW S 2 true v4 fun v50 =>
  bdW [.str ⟨#[]⟩, .str ⟨#[]⟩, .str ⟨#[]⟩] [(0, 2, v50), (2, 1, v2)] fun v52 =>
  bfW 3 v52 fun v9 =>
  nkW v0 fun v54 =>
  faW 6 v54 fun v55 =>
  ldW S 1 false v55 fun v56 =>
  ldW S 3 true v9 fun v57 =>
  lkW S (true, [.str, .str, .str]) false (.bool false) v56 v57 fun v58 =>
  cnW v58 (rtW [.tmp (.bool false)] QF S)
  (nkW v0 fun v60 =>
  faW 6 v60 fun v61 =>
  ldW S 1 false v61 fun v62 =>
  ldW S 3 true v9 fun v63 =>
  muW S (true, [.str, .str, .str]) v62 v63 (.bool true) fun S =>
  ldW S 3 true v9 fun v65 =>
  ldW S 6 true v7 fun v66 =>
  caW PG S (.func (.func 68) [] []) [v0, v65, v66] (fun v67 S =>
  nkW v0 fun v69 =>
  faW 6 v69 fun v70 =>
  ldW S 1 false v70 fun v71 =>
  ldW S 3 true v9 fun v72 =>
  mdW S (true, [.str, .str, .str]) v71 v72 fun S =>
  rtW [.tmp v67] QF S) (pqW QF))
def B_engine_search_ask (QF : AEnd → Store → Prop) (v0 v1 v2 : AV) (S : Store) : Prop :=
  brW 2 v1 fun v4 =>
  nkW v0 fun v13 =>
  faW 0 v13 fun v14 =>
  faW 0 v4 fun v16 =>
  ldW S 1 true v14 fun v15 =>
  ldW S 1 false v16 fun v17 =>
  caW PG S (.func (.func 19) [] []) [v15, v17, v2] (fun v19 S =>
  exW 0 v19 fun v20 =>
  exW 1 v19 fun v21 =>
  alW S 43 [.str ⟨#[]⟩, .nils, .int .i64 0, .str ⟨#[]⟩, .str ⟨#[]⟩, .nils] fun v7 S =>
  stW S 6 v7 v20 fun S =>
  fzW S v7 fun v7 S =>
  ntW v21 fun v23 =>
  cnW v23 (rtW [.tmp (.bool false)] QF S)
  (nkW v0 fun v25 =>
  faW 5 v25 fun v26 =>
  ldW S 1 false v26 fun v27 =>
  biW .add v27 (.int .i64 1) fun v28 =>
  nkW v0 fun v29 =>
  faW 5 v29 fun v30 =>
  stW S 1 v30 v28 fun S =>
  nkW v0 fun v32 =>
  faW 5 v32 fun v33 =>
  nkW v0 fun v36 =>
  faW 4 v36 fun v37 =>
  ldW S 1 false v33 fun v34 =>
  ldW S 1 false v37 fun v38 =>
  biW .gtr v34 v38 fun v39 =>
  grW v39 false (nkW v0 fun v42 =>
  faW 6 v42 fun v43 =>
  ldW S 1 false v43 fun v44 =>
  lnW S 2 v44 fun v45 =>
  biW .eql v45 (.int .i64 50) fun v46 =>
  pkW v39 (.bool true) v46 fun v47 =>
  cnW v47 (bdW [] [] fun v48 =>
  paW S (.iface 101 v48) (pqW QF))
  (C_engine_search_ask_1 QF v0 v2 v4 v7 S))
  (pkW v39 (.bool true) undefA fun v47 =>
  cnW v47 (bdW [] [] fun v48 =>
  paW S (.iface 101 v48) (pqW QF))
  (C_engine_search_ask_1 QF v0 v2 v4 v7 S)))) (pqW QF)
theorem w_engine_search_ask {QF : AEnd → Store → Prop} {v0 v1 v2 : AV} {S : Store} (h : B_engine_search_ask QF v0 v1 v2 S) : ACalls PG nr_engine_search_ask [v0, v1, v2] S QF :=
  acalls_tf (F := tf_engine_search_ask) (by kernel_rfl) rfl (by kernel_rfl) h
def tf_rules_index_levels_1 : TFunc where
  n := 15
  args := 5
  res := [.tmp 8]
  code := .seq (.reg [i1 5 (.boxr 70 2 (.t 0)),
    i1 6 (.boxr 51 2 (.t 1)),
    i1 7 (.boxr 43 6 (.t 2)),
    i1 8 (.mov (.c (.int .i64 0)))] [3, 4, 5, 6, 7] []) (.seq (.regl [0, 1, 2, 3, 4, 5, 6] [i1 9 (.load 1 false (.t 4)),
    i1 10 (.load 2 true (.t 5)),
    i1 11 (.load 1 false (.t 3)),
    i1 12 (.load 2 true (.t 6)),
    i1 13 (.load 6 true (.t 7)),
    .one { d := some 14, o := .call (.f 45) [.t 11, .t 12, .t 13], x := [4, 5] },
    i0 (.mupd (true, [.int .i64, .int .i64]) (.t 9) (.t 10) (.t 14))] [] []) (.seq (.reg [i1 8 (.mov (.c (.int .i64 0)))] [8] []) (.ret)))
abbrev nr_rules_index_levels_1 : Nat := 44
def B_rules_index_levels_1 (QF : AEnd → Store → Prop) (v0 v1 v2 v3 v4 : AV) (S : Store) : Prop :=
  brW 2 v0 fun v5 =>
  brW 2 v1 fun v6 =>
  brW 6 v2 fun v7 =>
  ldW S 1 false v4 fun v9 =>
  ldW S 2 true v5 fun v10 =>
  ldW S 1 false v3 fun v11 =>
  ldW S 2 true v6 fun v12 =>
  ldW S 6 true v7 fun v13 =>
  caW PG S (.func (.func 45) [] []) [v11, v12, v13] (fun v14 S1 =>
  kpW [v4, v5] S S1 (
  muW S1 (true, [.int .i64, .int .i64]) v9 v10 v14 fun S =>
  rtW [.tmp (.int .i64 0)] QF S)) (pqW QF)
theorem w_rules_index_levels_1 {QF : AEnd → Store → Prop} {v0 v1 v2 v3 v4 : AV} {S : Store} (h : B_rules_index_levels_1 QF v0 v1 v2 v3 v4 S) : ACalls PG nr_rules_index_levels_1 [v0, v1, v2, v3, v4] S QF :=
  acalls_tf (F := tf_rules_index_levels_1) (by kernel_rfl) rfl (by kernel_rfl) h
def tf_rules_index_leans : TFunc where
  n := 50
  args := 3
  res := [.tmp 6]
  code := .seq (.reg [i1 3 (.boxr 63 1 (.t 0)),
    i1 4 (.boxr 51 2 (.t 1)),
    i1 5 (.boxr 43 6 (.t 2)),
    i1 6 (.mov (.c (.nils)))] [3, 4, 5] []) (.seq (.reg [i1 7 (.alloc 110 [.nils])] [3, 4, 5, 7] []) (.seq (.seq (.reg [i1 12 (.faddr 1 (.t 5)),
    i1 13 (.load 1 false (.t 12)),
    i1 14 (.len 1 (.t 13)),
    i1 15 (.mov (.c (.int .i64 0)))] [3, 4, 5, 7, 13, 14, 15] []) (.block 0 (.loop [3, 4, 5, 7, 13, 14, 15] (.seq (.reg [i1 16 (.bin .lss (.t 15) (.t 14))] [3, 4, 5, 7, 13, 14, 15, 16] []) (.seq (.cond (.t 16) (.skip) (.exit 0)) (.seq (.block 1 (.seq (.reg [i1 17 (.iaddr 2 (.t 13) (.t 15)),
    i1 18 (.load 2 true (.t 17)),
    .box2 9 53 [.str ⟨#[]⟩, .str ⟨#[]⟩] 2 (.t 18)] [3, 4, 5, 7, 9, 13, 14, 15] []) (.seq (.reg [i1 20 (.load 1 false (.t 3)),
    i1 21 (.faddr 0 (.t 9)),
    i1 22 (.load 1 false (.t 21)),
    i1 23 (.faddr 1 (.t 9)),
    i1 24 (.load 1 false (.t 23)),
    i1 25 (.call (.f 36) [.t 20, .t 22, .t 24]),
    i1 19 (.mov (.t 25)),
    i1 26 (.extr (.t 19) 0),
    i1 27 (.extr (.t 19) 1),
    .box2 10 70 [.int .i64 0, .int .i64 0] 2 (.t 26),
    i1 11 (.mov (.t 27))] [3, 4, 5, 7, 9, 10, 11, 13, 14, 15] []) (.seq (.reg [i1 28 (.mov (.t 11)),
    i1 29 (.mov (.t 28)),
    .grp 29 true [s1 30 (.faddr 1 (.t 9)), s1 31 (.load 1 false (.t 30)), s1 32 (.bin .neq (.t 31) (.c (.str ⟨#[]⟩)))],
    i1 33 (.pick (.t 29) (.t 32) (.c (.bool false)))] [3, 4, 5, 7, 10, 13, 14, 15, 33] []) (.cond (.t 33) (.reg [i1 34 (.load 1 false (.t 7)),
    i1 35 (.load 2 true (.t 10)),
    i1 36 (.build [.int .i64 0, .int .i64 0, .bool false] [(0, 2, .t 35), (2, 1, .c (.bool false))]),
    i1 37 (.bslicr 113 3 [.t 36]),
    i1 38 (.app 113 3 24 (.t 34) (.t 37)),
    i0 (.store 1 (.t 7) (.t 38))] [3, 4, 5, 7, 13, 14, 15] []) (.skip)))))) (.reg [i1 39 (.bin .add (.t 15) (.c (.int .i64 1))),
    i1 15 (.mov (.t 39))] [3, 4, 5, 7, 13, 14, 15] []))))))) (.seq (.seq (.reg [i1 40 (.faddr 1 (.t 5)),
    i1 41 (.load 1 false (.t 40)),
    i1 42 (.len 1 (.t 41)),
    i1 43 (.bin .gtr (.t 42) (.c (.int .i64 0)))] [3, 4, 5, 7, 43] []) (.cond (.t 43) (.seq (.reg [i1 44 (.load 1 false (.t 7)),
    i1 6 (.mov (.t 44))] [6] []) (.ret)) (.skip))) (.seq (.reg [i1 45 (.faddr 2 (.t 5)),
    i1 46 (.load 4 true (.t 45)),
    i1 47 (.mkf (.func 70) [] [.t 3, .t 4, .t 7]),
    i1 48 (.call (.f 69) [.t 46, .c (.bool false), .t 47])] [7] []) (.seq (.reg [i1 49 (.load 1 false (.t 7)),
    i1 6 (.mov (.t 49))] [6] []) (.ret))))))
abbrev nr_rules_index_leans : Nat := 45
def C_rules_index_leans_2 (QF : AEnd → Store → Prop) (r0 : LE → Store → Prop) (v3 v4 v5 v7 v10 v13 v14 v15 v33 : AV) (S : Store) : Prop :=
  cnW v33 (ldW S 1 false v7 fun v34 =>
  ldW S 2 true v10 fun v35 =>
  bdW [.int .i64 0, .int .i64 0, .bool false] [(0, 2, v35), (2, 1, (.bool false))] fun v36 =>
  srW 3 [v36] fun v37 =>
  apW S 113 3 24 v34 v37 fun v38 S =>
  stW S 1 v7 v38 fun S =>
  biW .add v15 (.int .i64 1) fun v39 =>
  rcW r0 [(3, v3), (4, v4), (5, v5), (7, v7), (13, v13), (14, v14), (15, v39)] S)
  (biW .add v15 (.int .i64 1) fun v39 =>
  rcW r0 [(3, v3), (4, v4), (5, v5), (7, v7), (13, v13), (14, v14), (15, v39)] S)
def C_rules_index_leans_1 (QF : AEnd → Store → Prop) (r0 : LE → Store → Prop) (v3 v4 v5 v7 v13 v14 v15 : AV) (S : Store) : Prop :=
  biW .lss v15 v14 fun v16 =>
  cnW v16 (iaW 2 v13 v15 fun v17 =>
  ldW S 2 true v17 fun v18 =>
  bfW 2 v18 fun v9 =>
  ldW S 1 false v3 fun v20 =>
  faW 0 v9 fun v21 =>
  ldW S 1 false v21 fun v22 =>
  faW 1 v9 fun v23 =>
  ldW S 1 false v23 fun v24 =>
  caW PG S (.func (.func 36) [] []) [v20, v22, v24] (fun v25 S =>
  exW 0 v25 fun v26 =>
  exW 1 v25 fun v27 =>
  bfW 2 v26 fun v10 =>
  grW v27 true (faW 1 v9 fun v30 =>
  ldW S 1 false v30 fun v31 =>
  biW .neq v31 (.str ⟨#[]⟩) fun v32 =>
  pkW v27 v32 (.bool false) fun v33 =>
  C_rules_index_leans_2 QF r0 v3 v4 v5 v7 v10 v13 v14 v15 v33 S)
  (pkW v27 undefA (.bool false) fun v33 =>
  C_rules_index_leans_2 QF r0 v3 v4 v5 v7 v10 v13 v14 v15 v33 S)) (pqW QF))
  (faW 1 v5 fun v40 =>
  ldW S 1 false v40 fun v41 =>
  lnW S 1 v41 fun v42 =>
  biW .gtr v42 (.int .i64 0) fun v43 =>
  cnW v43 (ldW S 1 false v7 fun v44 =>
  rtW [.tmp v44] QF S)
  (faW 2 v5 fun v45 =>
  ldW S 4 true v45 fun v46 =>
  caW PG S (.func (.func 69) [] []) [v46, (.bool false), (.func (.func 70) [] [v3, v4, v7])] (fun v48 S =>
  ldW S 1 false v7 fun v49 =>
  rtW [.tmp v49] QF S) (pqW QF)))
def B_rules_index_leans (QF : AEnd → Store → Prop) (v0 v1 v2 : AV) (S : Store) : Prop :=
  brW 1 v0 fun v3 =>
  brW 2 v1 fun v4 =>
  brW 6 v2 fun v5 =>
  alW S 110 [.nils] fun v7 S =>
  faW 1 v5 fun v12 =>
  ldW S 1 false v12 fun v13 =>
  lnW S 1 v13 fun v14 =>
  LoopP (fun r0 l S => C_rules_index_leans_1 QF r0 (lget l 3) (lget l 4) (lget l 5) (lget l 7) (lget l 13) (lget l 14) (lget l 15) S) [(3, v3), (4, v4), (5, v5), (7, v7), (13, v13), (14, v14), (15, (.int .i64 0))] S
theorem w_rules_index_leans {QF : AEnd → Store → Prop} {v0 v1 v2 : AV} {S : Store} (h : B_rules_index_leans QF v0 v1 v2 S) : ACalls PG nr_rules_index_leans [v0, v1, v2] S QF :=
  acalls_tf (F := tf_rules_index_leans) (by kernel_rfl) rfl (by kernel_rfl) h
def tf_rules_index_levels_2 : TFunc where
  n := 46
  args := 6
  res := [.tmp 9]
  code := .seq (.reg [i1 6 (.boxr 70 2 (.t 0)),
    i1 7 (.boxr 51 2 (.t 1)),
    i1 8 (.boxr 43 6 (.t 2)),
    i1 9 (.mov (.c (.int .i64 0)))] [3, 4, 5, 6] []) (.seq (.seq (.reg [i1 13 (.load 1 false (.t 3)),
    i1 14 (.load 2 true (.t 6)),
    i1 15 (.lookup (true, [.int .i64, .int .i64]) false (.nils) (.t 13) (.t 14)),
    i1 16 (.len 1 (.t 15)),
    i1 17 (.mov (.c (.int .i64 0)))] [3, 4, 5, 6, 15, 16, 17] []) (.block 0 (.loop [3, 4, 5, 6, 15, 16, 17] (.seq (.reg [i1 18 (.bin .lss (.t 17) (.t 16))] [3, 4, 5, 6, 15, 16, 17, 18] []) (.seq (.cond (.t 18) (.skip) (.exit 0)) (.seq (.block 1 (.seq (.reg [i1 19 (.iaddr 3 (.t 15) (.t 17)),
    i1 20 (.load 3 true (.t 19)),
    .box2 11 113 [.int .i64 0, .int .i64 0, .bool false] 3 (.t 20)] [3, 4, 5, 6, 11, 15, 16, 17] []) (.seq (.reg [i1 21 (.load 1 false (.t 4)),
    i1 22 (.faddr 0 (.t 11)),
    i1 23 (.load 2 true (.t 22)),
    i1 24 (.lookup (true, [.int .i64, .int .i64]) false (.int .i64 0) (.t 21) (.t 23)),
    i1 12 (.mov (.t 24))] [3, 4, 5, 6, 11, 12, 15, 16, 17] []) (.seq (.seq (.reg [i1 25 (.faddr 2 (.t 11)),
    i1 26 (.load 1 false (.t 25))] [3, 4, 5, 6, 12, 15, 16, 17, 26] []) (.cond (.t 26) (.reg [i1 27 (.mov (.t 12)),
    i1 28 (.bin .add (.t 27) (.c (.int .i64 1))),
    i1 12 (.mov (.t 28))] [3, 4, 5, 6, 12, 15, 16, 17] []) (.skip))) (.seq (.regl [3, 0, 1, 2, 4, 5, 6, 7, 8, 9, 10, 11, 12] [i1 32 (.mov (.t 12)),
    i1 29 (.load 1 false (.t 4)),
    i1 30 (.load 2 true (.t 6)),
    i1 31 (.lookup (true, [.int .i64, .int .i64]) false (.int .i64 0) (.t 29) (.t 30)),
    i1 33 (.bin .lss (.t 31) (.t 32)),
    i1 34 (.mov (.t 33)),
    .grp 34 true [s1 35 (.load 1 false (.t 4)), s1 36 (.load 2 true (.t 6)), s1 37 (.lookup (true, [.int .i64, .int .i64]) false (.int .i64 0) (.t 35) (.t 36)), s1 38 (.load 1 false (.t 3)), s1 39 (.len 2 (.t 38)), s1 40 (.bin .leq (.t 37) (.t 39))],
    i1 41 (.pick (.t 34) (.t 40) (.c (.bool false)))] [3, 4, 5, 6, 12, 15, 16, 17, 41] []) (.cond (.t 41) (.reg [i1 42 (.load 1 false (.t 4)),
    i1 43 (.load 2 true (.t 6)),
    i1 44 (.mov (.t 12)),
    i0 (.mupd (true, [.int .i64, .int .i64]) (.t 42) (.t 43) (.t 44)),
    i0 (.store 1 (.t 5) (.c (.bool true)))] [3, 4, 5, 6, 15, 16, 17] []) (.skip))))))) (.reg [i1 45 (.bin .add (.t 17) (.c (.int .i64 1))),
    i1 17 (.mov (.t 45))] [3, 4, 5, 6, 15, 16, 17] []))))))) (.seq (.reg [i1 9 (.mov (.c (.int .i64 0)))] [9] []) (.ret)))
abbrev nr_rules_index_levels_2 : Nat := 46
def C_rules_index_levels_2_3 (QF : AEnd → Store → Prop) (r0 : LE → Store → Prop) (v3 v4 v5 v6 v12 v15 v16 v17 v41 : AV) (S : Store) : Prop :=
  cnW v41 (ldW S 1 false v4 fun v42 =>
  ldW S 2 true v6 fun v43 =>
  muW S (true, [.int .i64, .int .i64]) v42 v43 v12 fun S =>
  stW S 1 v5 (.bool true) fun S =>
  biW .add v17 (.int .i64 1) fun v45 =>
  rcW r0 [(3, v3), (4, v4), (5, v5), (6, v6), (15, v15), (16, v16), (17, v45)] S)
  (biW .add v17 (.int .i64 1) fun v45 =>
  rcW r0 [(3, v3), (4, v4), (5, v5), (6, v6), (15, v15), (16, v16), (17, v45)] S)
def C_rules_index_levels_2_2 (QF : AEnd → Store → Prop) (r0 : LE → Store → Prop) (v3 v4 v5 v6 v12 v15 v16 v17 : AV) (S : Store) : Prop :=
  ldW S 1 false v4 fun v29 =>
  ldW S 2 true v6 fun v30 =>
  lkW S (true, [.int .i64, .int .i64]) false (.int .i64 0) v29 v30 fun v31 =>
  biW .lss v31 v12 fun v33 =>
  grW v33 true (ldW S 1 false v4 fun v35 =>
  ldW S 2 true v6 fun v36 =>
  lkW S (true, [.int .i64, .int .i64]) false (.int .i64 0) v35 v36 fun v37 =>
  ldW S 1 false v3 fun v38 =>
  lnW S 2 v38 fun v39 =>
  biW .leq v37 v39 fun v40 =>
  pkW v33 v40 (.bool false) fun v41 =>
  C_rules_index_levels_2_3 QF r0 v3 v4 v5 v6 v12 v15 v16 v17 v41 S)
  (pkW v33 undefA (.bool false) fun v41 =>
  C_rules_index_levels_2_3 QF r0 v3 v4 v5 v6 v12 v15 v16 v17 v41 S)
def C_rules_index_levels_2_1 (QF : AEnd → Store → Prop) (r0 : LE → Store → Prop) (v3 v4 v5 v6 v15 v16 v17 : AV) (S : Store) : Prop :=
  biW .lss v17 v16 fun v18 =>
  cnW v18 (iaW 3 v15 v17 fun v19 =>
  ldW S 3 true v19 fun v20 =>
  bfW 3 v20 fun v11 =>
  ldW S 1 false v4 fun v21 =>
  faW 0 v11 fun v22 =>
  ldW S 2 true v22 fun v23 =>
  lkW S (true, [.int .i64, .int .i64]) false (.int .i64 0) v21 v23 fun v24 =>
  faW 2 v11 fun v25 =>
  ldW S 1 false v25 fun v26 =>
  cnW v26 (biW .add v24 (.int .i64 1) fun v28 =>
  C_rules_index_levels_2_2 QF r0 v3 v4 v5 v6 v28 v15 v16 v17 S)
  (C_rules_index_levels_2_2 QF r0 v3 v4 v5 v6 v24 v15 v16 v17 S))
  (rtW [.tmp (.int .i64 0)] QF S)
def B_rules_index_levels_2 (QF : AEnd → Store → Prop) (v0 v1 v2 v3 v4 v5 : AV) (S : Store) : Prop :=
  brW 2 v0 fun v6 =>
  brW 2 v1 fun v7 =>
  brW 6 v2 fun v8 =>
  ldW S 1 false v3 fun v13 =>
  ldW S 2 true v6 fun v14 =>
  lkW S (true, [.int .i64, .int .i64]) false (.nils) v13 v14 fun v15 =>
  lnW S 1 v15 fun v16 =>
  LoopP (fun r0 l S => C_rules_index_levels_2_1 QF r0 (lget l 3) (lget l 4) (lget l 5) (lget l 6) (lget l 15) (lget l 16) (lget l 17) S) [(3, v3), (4, v4), (5, v5), (6, v6), (15, v15), (16, v16), (17, (.int .i64 0))] S
theorem w_rules_index_levels_2 {QF : AEnd → Store → Prop} {v0 v1 v2 v3 v4 v5 : AV} {S : Store} (h : B_rules_index_levels_2 QF v0 v1 v2 v3 v4 v5 S) : ACalls PG nr_rules_index_levels_2 [v0, v1, v2, v3, v4, v5] S QF :=
  acalls_tf (F := tf_rules_index_levels_2) (by kernel_rfl) rfl (by kernel_rfl) h
def tf_lang_May : TFunc where
  n := 22
  args := 1
  res := [.tmp 2]
  code := .seq (.reg [i1 1 (.boxr 24 1 (.t 0)),
    i1 2 (.mov (.c (.bool false)))] [1] []) (.seq (.seq (.reg [i1 5 (.faddr 0 (.t 1)),
    i1 6 (.load 1 false (.t 5)),
    i1 7 (.len 1 (.t 6)),
    i1 8 (.mov (.c (.int .i64 0)))] [6, 7, 8] []) (.block 0 (.loop [6, 7, 8] (.seq (.reg [i1 9 (.bin .lss (.t 8) (.t 7))] [6, 7, 8, 9] []) (.seq (.cond (.t 9) (.skip) (.exit 0)) (.seq (.block 1 (.seq (.reg [i1 10 (.iaddr 2 (.t 6) (.t 8)),
    i1 11 (.load 2 true (.t 10)),
    .box2 4 51 [.str ⟨#[]⟩, .nils] 2 (.t 11)] [4, 6, 7, 8] []) (.seq (.reg [i1 12 (.faddr 0 (.t 4)),
    i1 13 (.load 1 false (.t 12)),
    i1 14 (.call (.f 75) [.t 13]),
    i1 15 (.not (.t 14)),
    i1 16 (.mov (.t 15)),
    .grp 16 false [s1 17 (.faddr 1 (.t 4)), s1 18 (.load 1 false (.t 17)), s1 19 (.call (.f 76) [.t 18, .f 77])],
    i1 20 (.pick (.t 16) (.c (.bool true)) (.t 19))] [6, 7, 8, 20] []) (.cond (.t 20) (.seq (.reg [i1 2 (.mov (.c (.bool false)))] [2] []) (.ret)) (.skip))))) (.reg [i1 21 (.bin .add (.t 8) (.c (.int .i64 1))),
    i1 8 (.mov (.t 21))] [6, 7, 8] []))))))) (.seq (.reg [i1 2 (.mov (.c (.bool true)))] [2] []) (.ret)))
abbrev nr_lang_May : Nat := 50
def C_lang_May_1 (QF : AEnd → Store → Prop) (r0 : LE → Store → Prop) (v6 v7 v8 : AV) (S : Store) : Prop :=
  biW .lss v8 v7 fun v9 =>
  cnW v9 (iaW 2 v6 v8 fun v10 =>
  ldW S 2 true v10 fun v11 =>
  bfW 2 v11 fun v4 =>
  faW 0 v4 fun v12 =>
  ldW S 1 false v12 fun v13 =>
  caW PG S (.func (.func 75) [] []) [v13] (fun v14 S =>
  ntW v14 fun v15 =>
  grW v15 false (faW 1 v4 fun v17 =>
  ldW S 1 false v17 fun v18 =>
  caW PG S (.func (.func 76) [] []) [v18, (.func (.func 77) [] [])] (fun v19 S =>
  pkW v15 (.bool true) v19 fun v20 =>
  cnW v20 (rtW [.tmp (.bool false)] QF S)
  (biW .add v8 (.int .i64 1) fun v21 =>
  rcW r0 [(6, v6), (7, v7), (8, v21)] S)) (pqW QF))
  (pkW v15 (.bool true) undefA fun v20 =>
  cnW v20 (rtW [.tmp (.bool false)] QF S)
  (biW .add v8 (.int .i64 1) fun v21 =>
  rcW r0 [(6, v6), (7, v7), (8, v21)] S))) (pqW QF))
  (rtW [.tmp (.bool true)] QF S)
def B_lang_May (QF : AEnd → Store → Prop) (v0 : AV) (S : Store) : Prop :=
  brW 1 v0 fun v1 =>
  faW 0 v1 fun v5 =>
  ldW S 1 false v5 fun v6 =>
  lnW S 1 v6 fun v7 =>
  LoopP (fun r0 l S => C_lang_May_1 QF r0 (lget l 6) (lget l 7) (lget l 8) S) [(6, v6), (7, v7), (8, (.int .i64 0))] S
theorem w_lang_May {QF : AEnd → Store → Prop} {v0 : AV} {S : Store} (h : B_lang_May QF v0 S) : ACalls PG nr_lang_May [v0] S QF :=
  acalls_tf (F := tf_lang_May) (by kernel_rfl) rfl (by kernel_rfl) h
def tf_rules_sizes : TFunc where
  n := 54
  args := 1
  res := [.cell 2 3 true]
  code := .seq (.reg [i1 1 (.boxr 24 1 (.t 0)),
    i1 2 (.alloc 33 [.int .i64 0, .int .i64 0, .int .i64 0])] [1, 2] []) (.seq (.reg [i1 6 (.build [.int .i64 0, .int .i64 0, .int .i64 0] [(1, 1, .c (.int .i64 (-1))), (2, 1, .c (.int .i64 2))]),
    i1 3 (.alloc 33 [.int .i64 0, .int .i64 0, .int .i64 0]),
    i0 (.store 3 (.t 3) (.t 6))] [1, 2, 3] []) (.seq (.seq (.reg [i1 7 (.faddr 0 (.t 1)),
    i1 8 (.load 1 false (.t 7)),
    i1 9 (.len 1 (.t 8)),
    i1 10 (.bin .gtr (.t 9) (.c (.int .i64 16)))] [1, 2, 3, 10] []) (.cond (.t 10) (.seq (.reg [i1 11 (.load 3 true (.t 3)),
    i0 (.store 3 (.t 2) (.t 11))] [2] []) (.ret)) (.skip))) (.seq (.seq (.reg [i1 12 (.faddr 0 (.t 1)),
    i1 13 (.load 1 false (.t 12)),
    i1 14 (.len 1 (.t 13)),
    i1 15 (.mov (.c (.int .i64 0)))] [1, 2, 3, 14, 15] []) (.block 0 (.loop [1, 2, 3, 14, 15] (.seq (.reg [i1 16 (.bin .lss (.t 15) (.t 14))] [1, 2, 3, 14, 15, 16] []) (.seq (.cond (.t 16) (.skip) (.exit 0)) (.seq (.block 1 (.seq (.reg [i1 17 (.mov (.t 15)),
    i1 18 (.faddr 0 (.t 3)),
    i0 (.store 1 (.t 18) (.t 17))] [1, 2, 3, 14, 15] []) (.seq (.reg [i1 19 (.faddr 0 (.t 1)),
    i1 20 (.load 1 false (.t 19)),
    i1 21 (.faddr 0 (.t 3)),
    i1 22 (.load 1 false (.t 21)),
    i1 23 (.iaddr 2 (.t 20) (.t 22)),
    i1 24 (.faddr 1 (.t 23)),
    i1 25 (.load 1 false (.t 24)),
    i1 26 (.len 1 (.t 25)),
    i1 27 (.bin .gtr (.t 26) (.c (.int .i64 16)))] [1, 2, 3, 14, 15, 27] []) (.cond (.t 27) (.seq (.reg [i1 28 (.load 3 true (.t 3)),
    i0 (.store 3 (.t 2) (.t 28))] [2] []) (.ret)) (.skip))))) (.reg [i1 29 (.bin .add (.t 15) (.c (.int .i64 1))),
    i1 15 (.mov (.t 29))] [1, 2, 3, 14, 15] []))))))) (.seq (.reg [i1 30 (.faddr 2 (.t 3)),
    i0 (.store 1 (.t 30) (.c (.int .i64 7)))] [1, 2, 3] []) (.seq (.reg [i1 31 (.mkmap (false, [.str])),
    i1 4 (.mov (.t 31))] [1, 2, 3, 4] []) (.seq (.seq (.reg [i1 32 (.faddr 0 (.t 1)),
    i1 33 (.load 1 false (.t 32)),
    i1 34 (.len 1 (.t 33)),
    i1 35 (.mov (.c (.int .i64 0)))] [1, 2, 3, 4, 34, 35] []) (.block 2 (.loop [1, 2, 3, 4, 34, 35] (.seq (.reg [i1 36 (.bin .lss (.t 35) (.t 34))] [1, 2, 3, 4, 34, 35, 36] []) (.seq (.cond (.t 36) (.skip) (.exit 2)) (.seq (.block 3 (.seq (.reg [i1 37 (.mov (.t 35)),
    i1 38 (.faddr 0 (.t 3)),
    i0 (.store 1 (.t 38) (.t 37))] [1, 2, 3, 4, 34, 35] []) (.seq (.reg [i1 39 (.faddr 0 (.t 1)),
    i1 40 (.load 1 false (.t 39)),
    i1 41 (.faddr 0 (.t 3)),
    i1 42 (.load 1 false (.t 41)),
    i1 43 (.iaddr 2 (.t 40) (.t 42)),
    i1 44 (.faddr 0 (.t 43)),
    i1 45 (.load 1 false (.t 44)),
    i1 5 (.mov (.t 45))] [1, 2, 3, 4, 5, 34, 35] []) (.seq (.seq (.reg [i1 46 (.mov (.t 4)),
    i1 47 (.mov (.t 5)),
    i1 48 (.lookup (false, [.str]) false (.bool false) (.t 46) (.t 47))] [1, 2, 3, 4, 5, 34, 35, 48] []) (.cond (.t 48) (.seq (.reg [i1 49 (.load 3 true (.t 3)),
    i0 (.store 3 (.t 2) (.t 49))] [2] []) (.ret)) (.skip))) (.reg [i1 50 (.mov (.t 4)),
    i1 51 (.mov (.t 5)),
    i0 (.mupd (false, [.str]) (.t 50) (.t 51) (.c (.bool true)))] [1, 2, 3, 4, 34, 35] []))))) (.reg [i1 52 (.bin .add (.t 35) (.c (.int .i64 1))),
    i1 35 (.mov (.t 52))] [1, 2, 3, 4, 34, 35] []))))))) (.seq (.reg [i1 53 (.build [.int .i64 0, .int .i64 0, .int .i64 0] []),
    i0 (.store 3 (.t 2) (.t 53))] [2] []) (.ret))))))))
abbrev nr_rules_sizes : Nat := 51
def C_rules_sizes_2 (QF : AEnd → Store → Prop) (r0 : LE → Store → Prop) (v1 v2 v3 v4 v34 v35 : AV) (S : Store) : Prop :=
  biW .lss v35 v34 fun v36 =>
  cnW v36 (faW 0 v3 fun v38 =>
  stW S 1 v38 v35 fun S =>
  faW 0 v1 fun v39 =>
  ldW S 1 false v39 fun v40 =>
  faW 0 v3 fun v41 =>
  ldW S 1 false v41 fun v42 =>
  iaW 2 v40 v42 fun v43 =>
  faW 0 v43 fun v44 =>
  ldW S 1 false v44 fun v45 =>
  lkW S (false, [.str]) false (.bool false) v4 v45 fun v48 =>
  cnW v48 (ldW S 3 true v3 fun v49 =>
  stW S 3 v2 v49 fun S =>
  rtW [.cell v2 3 true] QF S)
  (muW S (false, [.str]) v4 v45 (.bool true) fun S =>
  biW .add v35 (.int .i64 1) fun v52 =>
  rcW r0 [(1, v1), (2, v2), (3, v3), (4, v4), (34, v34), (35, v52)] S))
  (bdW [.int .i64 0, .int .i64 0, .int .i64 0] [] fun v53 =>
  stW S 3 v2 v53 fun S =>
  rtW [.cell v2 3 true] QF S)
def C_rules_sizes_1 (QF : AEnd → Store → Prop) (r0 : LE → Store → Prop) (v1 v2 v3 v14 v15 : AV) (S : Store) : Prop :=
  biW .lss v15 v14 fun v16 =>
  cnW v16 (faW 0 v3 fun v18 =>
  stW S 1 v18 v15 fun S =>
  faW 0 v1 fun v19 =>
  ldW S 1 false v19 fun v20 =>
  faW 0 v3 fun v21 =>
  ldW S 1 false v21 fun v22 =>
  iaW 2 v20 v22 fun v23 =>
  faW 1 v23 fun v24 =>
  ldW S 1 false v24 fun v25 =>
  lnW S 1 v25 fun v26 =>
  biW .gtr v26 (.int .i64 16) fun v27 =>
  cnW v27 (ldW S 3 true v3 fun v28 =>
  stW S 3 v2 v28 fun S =>
  rtW [.cell v2 3 true] QF S)
  (biW .add v15 (.int .i64 1) fun v29 =>
  rcW r0 [(1, v1), (2, v2), (3, v3), (14, v14), (15, v29)] S))
  (faW 2 v3 fun v30 =>
  stW S 1 v30 (.int .i64 7) fun S =>
  mmW S (false, [.str]) fun v31 S =>
  faW 0 v1 fun v32 =>
  ldW S 1 false v32 fun v33 =>
  lnW S 1 v33 fun v34 =>
  LoopP (fun r0 l S => C_rules_sizes_2 QF r0 (lget l 1) (lget l 2) (lget l 3) (lget l 4) (lget l 34) (lget l 35) S) [(1, v1), (2, v2), (3, v3), (4, v31), (34, v34), (35, (.int .i64 0))] S)
def B_rules_sizes (QF : AEnd → Store → Prop) (v0 : AV) (S : Store) : Prop :=
  brW 1 v0 fun v1 =>
  alW S 33 [.int .i64 0, .int .i64 0, .int .i64 0] fun v2 S =>
  bdW [.int .i64 0, .int .i64 0, .int .i64 0] [(1, 1, (.int .i64 (-1))), (2, 1, (.int .i64 2))] fun v6 =>
  alW S 33 [.int .i64 0, .int .i64 0, .int .i64 0] fun v3 S =>
  stW S 3 v3 v6 fun S =>
  faW 0 v1 fun v7 =>
  ldW S 1 false v7 fun v8 =>
  lnW S 1 v8 fun v9 =>
  biW .gtr v9 (.int .i64 16) fun v10 =>
  cnW v10 (ldW S 3 true v3 fun v11 =>
  stW S 3 v2 v11 fun S =>
  rtW [.cell v2 3 true] QF S)
  (faW 0 v1 fun v12 =>
  ldW S 1 false v12 fun v13 =>
  lnW S 1 v13 fun v14 =>
  LoopP (fun r0 l S => C_rules_sizes_1 QF r0 (lget l 1) (lget l 2) (lget l 3) (lget l 14) (lget l 15) S) [(1, v1), (2, v2), (3, v3), (14, v14), (15, (.int .i64 0))] S)
theorem w_rules_sizes {QF : AEnd → Store → Prop} {v0 : AV} {S : Store} (h : B_rules_sizes QF v0 S) : ACalls PG nr_rules_sizes [v0] S QF :=
  acalls_tf (F := tf_rules_sizes) (by kernel_rfl) rfl (by kernel_rfl) h
def tf_rules_index_plain_1 : TFunc where
  n := 22
  args := 4
  res := [.tmp 7]
  code := .seq (.reg [i1 4 (.boxr 70 2 (.t 0)),
    i1 5 (.boxr 51 2 (.t 1)),
    i1 6 (.boxr 43 6 (.t 2)),
    i1 7 (.mov (.c (.int .i64 0)))] [3, 4, 5, 6] []) (.seq (.seq (.reg [i1 11 (.load 1 false (.t 3)),
    i1 12 (.faddr 0 (.t 5)),
    i1 13 (.load 1 false (.t 12)),
    i1 14 (.faddr 0 (.t 6)),
    i1 15 (.load 1 false (.t 14)),
    i1 16 (.call (.f 36) [.t 11, .t 13, .t 15]),
    i1 10 (.mov (.t 16)),
    i1 17 (.extr (.t 10) 0),
    i1 18 (.extr (.t 10) 1),
    .box2 8 70 [.int .i64 0, .int .i64 0] 2 (.t 17),
    i1 9 (.mov (.t 18))] [4, 8] []) (.seq (.reg [i1 19 (.load 2 true (.t 8)),
    i1 20 (.load 2 true (.t 4)),
    i1 21 (.eqp true (true, [.int .i64, .int .i64]) (.t 19) (.t 20))] [21] []) (.cond (.t 21) (.seq (.reg [i1 7 (.mov (.c (.int .i64 7)))] [7] []) (.ret)) (.skip)))) (.seq (.reg [i1 7 (.mov (.c (.int .i64 0)))] [7] []) (.ret)))
abbrev nr_rules_index_plain_1 : Nat := 52
def B_rules_index_plain_1 (QF : AEnd → Store → Prop) (v0 v1 v2 v3 : AV) (S : Store) : Prop :=
  brW 2 v0 fun v4 =>
  brW 2 v1 fun v5 =>
  brW 6 v2 fun v6 =>
  ldW S 1 false v3 fun v11 =>
  faW 0 v5 fun v12 =>
  ldW S 1 false v12 fun v13 =>
  faW 0 v6 fun v14 =>
  ldW S 1 false v14 fun v15 =>
  caW PG S (.func (.func 36) [] []) [v11, v13, v15] (fun v16 S =>
  exW 0 v16 fun v17 =>
  exW 1 v16 fun v18 =>
  bfW 2 v17 fun v8 =>
  ldW S 2 true v8 fun v19 =>
  ldW S 2 true v4 fun v20 =>
  eqW true (true, [.int .i64, .int .i64]) v19 v20 fun v21 =>
  cnW v21 (rtW [.tmp (.int .i64 7)] QF S)
  (rtW [.tmp (.int .i64 0)] QF S)) (pqW QF)
theorem w_rules_index_plain_1 {QF : AEnd → Store → Prop} {v0 v1 v2 v3 : AV} {S : Store} (h : B_rules_index_plain_1 QF v0 v1 v2 v3 S) : ACalls PG nr_rules_index_plain_1 [v0, v1, v2, v3] S QF :=
  acalls_tf (F := tf_rules_index_plain_1) (by kernel_rfl) rfl (by kernel_rfl) h
def tf_rules_index_plain_2 : TFunc where
  n := 13
  args := 4
  res := [.tmp 7]
  code := .seq (.reg [i1 4 (.boxr 70 2 (.t 0)),
    i1 5 (.boxr 51 2 (.t 1)),
    i1 6 (.boxr 43 6 (.t 2)),
    i1 7 (.mov (.c (.int .i64 0)))] [3, 5, 6] []) (.seq (.reg [i1 8 (.load 1 false (.t 3)),
    i1 9 (.faddr 0 (.t 5)),
    i1 10 (.load 1 false (.t 9)),
    i1 11 (.load 6 true (.t 6)),
    i1 12 (.call (.f 54) [.t 8, .t 10, .t 11]),
    i1 7 (.mov (.t 12))] [7] []) (.ret))
abbrev nr_rules_index_plain_2 : Nat := 53
def B_rules_index_plain_2 (QF : AEnd → Store → Prop) (v0 v1 v2 v3 : AV) (S : Store) : Prop :=
  brW 2 v0 fun v4 =>
  brW 2 v1 fun v5 =>
  brW 6 v2 fun v6 =>
  ldW S 1 false v3 fun v8 =>
  faW 0 v5 fun v9 =>
  ldW S 1 false v9 fun v10 =>
  ldW S 6 true v6 fun v11 =>
  caW PG S (.func (.func 54) [] []) [v8, v10, v11] (fun v12 S =>
  rtW [.tmp v12] QF S) (pqW QF)
theorem w_rules_index_plain_2 {QF : AEnd → Store → Prop} {v0 v1 v2 v3 : AV} {S : Store} (h : B_rules_index_plain_2 QF v0 v1 v2 v3 S) : ACalls PG nr_rules_index_plain_2 [v0, v1, v2, v3] S QF :=
  acalls_tf (F := tf_rules_index_plain_2) (by kernel_rfl) rfl (by kernel_rfl) h
end Go.HL
