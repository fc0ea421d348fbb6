/- A part of a proof. -/
import Derived.Test.YtadmdlpmikoghaaKbHlP
set_option maxRecDepth 100000
set_option linter.unusedVariables false
namespace Go.HL
def tf_law15_EngineBudget : TFunc where
  n := 112
  args := 7
  res := [.tmp 14]
  code := .seq (.reg [i1 7 (.boxr 24 1 (.t 0)),
    i1 9 (.boxr 56 2 (.t 2)),
    i1 11 (.boxr 56 2 (.t 4)),
    i1 14 (.mov (.c (.bool false)))] [1, 3, 5, 6, 7, 9, 11] []) (.seq (.reg [i1 26 (.call (.f 22) []),
    i1 15 (.mov (.t 26))] [1, 3, 5, 6, 7, 9, 11, 15] []) (.seq (.reg [i1 27 (.load 1 true (.t 7)),
    i1 28 (.mov (.t 1)),
    i1 29 (.call (.f 23) [.t 27, .t 28]),
    i1 16 (.mov (.t 29))] [1, 3, 5, 6, 7, 9, 11, 15, 16] []) (.seq (.seq (.reg [i1 30 (.mov (.t 15)),
    i1 31 (.not (.t 30)),
    i1 32 (.mov (.t 31)),
    .grp 32 false [s1 33 (.mov (.t 16)), s1 34 (.not (.t 33))],
    i1 35 (.pick (.t 32) (.c (.bool true)) (.t 34)),
    i1 36 (.mov (.t 35)),
    .grp 36 false [s1 37 (.mov (.t 5)), s1 38 (.bin .gtr (.t 37) (.c (.int .i64 2000)))],
    i1 39 (.pick (.t 36) (.c (.bool true)) (.t 38)),
    i1 40 (.mov (.t 39)),
    .grp 40 false [s1 41 (.mov (.t 6)), s1 42 (.bin .lss (.t 41) (.c (.int .i64 0)))],
    i1 43 (.pick (.t 40) (.c (.bool true)) (.t 42)),
    i1 44 (.mov (.t 43)),
    .grp 44 false [s1 45 (.mov (.t 6)), s1 46 (.bin .gtr (.t 45) (.c (.int .i64 2000)))],
    i1 47 (.pick (.t 44) (.c (.bool true)) (.t 46))] [1, 3, 5, 6, 7, 9, 11, 15, 47] []) (.cond (.t 47) (.seq (.reg [i1 48 (.mov (.t 15)),
    i1 14 (.mov (.t 48))] [14] []) (.ret)) (.skip))) (.seq (.reg [i1 50 (.load 1 true (.t 7)),
    i1 51 (.mov (.t 1)),
    i1 52 (.load 2 true (.t 9)),
    i1 53 (.mov (.t 3)),
    i1 54 (.load 2 true (.t 11)),
    i1 55 (.mov (.t 5)),
    i1 56 (.call (.f 24) [.t 50, .t 51, .t 52, .t 53, .t 54, .t 55]),
    i1 49 (.mov (.t 56)),
    i1 57 (.extr (.t 49) 0),
    i1 58 (.extr (.t 49) 1),
    i1 59 (.extr (.t 49) 2),
    i1 17 (.mov (.t 57)),
    i1 18 (.mov (.t 58)),
    i1 19 (.mov (.t 59))] [1, 3, 5, 6, 7, 9, 11, 17, 18, 19] []) (.seq (.seq (.reg [i1 60 (.mov (.t 19)),
    i1 61 (.bin .neq (.t 60) (.c (.int .i64 0)))] [1, 3, 5, 6, 7, 9, 11, 17, 18, 61] []) (.cond (.t 61) (.seq (.reg [i1 14 (.mov (.c (.bool true)))] [14] []) (.ret)) (.skip))) (.seq (.reg [i1 63 (.load 1 true (.t 7)),
    i1 64 (.mov (.t 1)),
    i1 65 (.load 2 true (.t 9)),
    i1 66 (.mov (.t 3)),
    i1 67 (.load 2 true (.t 11)),
    i1 68 (.mov (.t 18)),
    i1 69 (.mov (.t 6)),
    i1 70 (.bin .add (.t 68) (.t 69)),
    i1 71 (.call (.f 24) [.t 63, .t 64, .t 65, .t 66, .t 67, .t 70]),
    i1 62 (.mov (.t 71)),
    i1 72 (.extr (.t 62) 0),
    i1 73 (.extr (.t 62) 1),
    i1 74 (.extr (.t 62) 2),
    i1 20 (.mov (.t 72)),
    i1 21 (.mov (.t 73)),
    i1 22 (.mov (.t 74))] [1, 3, 5, 7, 9, 11, 17, 18, 20, 21, 22] []) (.seq (.reg [i1 76 (.load 1 true (.t 7)),
    i1 77 (.mov (.t 1)),
    i1 78 (.load 2 true (.t 9)),
    i1 79 (.mov (.t 3)),
    i1 80 (.load 2 true (.t 11)),
    i1 81 (.mov (.t 18)),
    i1 82 (.bin .sub (.t 81) (.c (.int .i64 1))),
    i1 83 (.call (.f 24) [.t 76, .t 77, .t 78, .t 79, .t 80, .t 82]),
    i1 75 (.mov (.t 83)),
    i1 84 (.extr (.t 75) 0),
    i1 85 (.extr (.t 75) 1),
    i1 86 (.extr (.t 75) 2),
    i1 23 (.mov (.t 84)),
    i1 24 (.mov (.t 85)),
    i1 25 (.mov (.t 86))] [5, 17, 18, 20, 21, 22, 25] []) (.seq (.reg [i1 87 (.mov (.t 17)),
    i1 88 (.mov (.t 20)),
    i1 89 (.eqp false (false, [.bool]) (.t 87) (.t 88)),
    i1 90 (.mov (.t 89)),
    .grp 90 true [s1 91 (.mov (.t 18)), s1 92 (.mov (.t 21)), s1 93 (.bin .eql (.t 91) (.t 92))],
    i1 94 (.pick (.t 90) (.t 93) (.c (.bool false))),
    i1 95 (.mov (.t 94)),
    .grp 95 true [s1 96 (.mov (.t 22)), s1 97 (.bin .eql (.t 96) (.c (.int .i64 0)))],
    i1 98 (.pick (.t 95) (.t 97) (.c (.bool false))),
    i1 99 (.mov (.t 98)),
    .grp 99 true [s1 100 (.mov (.t 18)), s1 101 (.bin .geq (.t 100) (.c (.int .i64 1)))],
    i1 102 (.pick (.t 99) (.t 101) (.c (.bool false))),
    i1 103 (.mov (.t 102)),
    .grp 103 true [s1 104 (.mov (.t 18)), s1 105 (.mov (.t 5)), s1 106 (.bin .leq (.t 104) (.t 105))],
    i1 107 (.pick (.t 103) (.t 106) (.c (.bool false))),
    i1 108 (.mov (.t 107)),
    .grp 108 true [s1 109 (.mov (.t 25)), s1 110 (.bin .eql (.t 109) (.c (.int .i64 12)))],
    i1 111 (.pick (.t 108) (.t 110) (.c (.bool false))),
    i1 14 (.mov (.t 111))] [14] []) (.ret)))))))))
abbrev nr_law15_EngineBudget : Nat := 9
def C_law15_EngineBudget_8 (QF : AEnd → Store → Prop) (v25 v107 : AV) (S : Store) : Prop :=
  grW v107 true (biW .eql v25 (.int .i64 12) fun v110 =>
  pkW v107 v110 (.bool false) fun v111 =>
  rtW [.tmp v111] QF S)
  (pkW v107 undefA (.bool false) fun v111 =>
  rtW [.tmp v111] QF S)
def C_law15_EngineBudget_7 (QF : AEnd → Store → Prop) (v5 v18 v25 v102 : AV) (S : Store) : Prop :=
  grW v102 true (biW .leq v18 v5 fun v106 =>
  pkW v102 v106 (.bool false) fun v107 =>
  C_law15_EngineBudget_8 QF v25 v107 S)
  (pkW v102 undefA (.bool false) fun v107 =>
  C_law15_EngineBudget_8 QF v25 v107 S)
def C_law15_EngineBudget_6 (QF : AEnd → Store → Prop) (v5 v18 v25 v98 : AV) (S : Store) : Prop :=
  grW v98 true (biW .geq v18 (.int .i64 1) fun v101 =>
  pkW v98 v101 (.bool false) fun v102 =>
  C_law15_EngineBudget_7 QF v5 v18 v25 v102 S)
  (pkW v98 undefA (.bool false) fun v102 =>
  C_law15_EngineBudget_7 QF v5 v18 v25 v102 S)
def C_law15_EngineBudget_5 (QF : AEnd → Store → Prop) (v5 v18 v22 v25 v94 : AV) (S : Store) : Prop :=
  grW v94 true (biW .eql v22 (.int .i64 0) fun v97 =>
  pkW v94 v97 (.bool false) fun v98 =>
  C_law15_EngineBudget_6 QF v5 v18 v25 v98 S)
  (pkW v94 undefA (.bool false) fun v98 =>
  C_law15_EngineBudget_6 QF v5 v18 v25 v98 S)
def C_law15_EngineBudget_4 (QF : AEnd → Store → Prop) (v1 v3 v5 v6 v7 v9 v11 v15 v47 : AV) (S : Store) : Prop :=
  cnW v47 (rtW [.tmp v15] QF S)
  (ldW S 1 true v7 fun v50 =>
  ldW S 2 true v9 fun v52 =>
  ldW S 2 true v11 fun v54 =>
  caW PG S (.func (.func 24) [] []) [v50, v1, v52, v3, v54, v5] (fun v56 S =>
  exW 0 v56 fun v57 =>
  exW 1 v56 fun v58 =>
  exW 2 v56 fun v59 =>
  biW .neq v59 (.int .i64 0) fun v61 =>
  cnW v61 (rtW [.tmp (.bool true)] QF S)
  (ldW S 1 true v7 fun v63 =>
  ldW S 2 true v9 fun v65 =>
  ldW S 2 true v11 fun v67 =>
  biW .add v58 v6 fun v70 =>
  caW PG S (.func (.func 24) [] []) [v63, v1, v65, v3, v67, v70] (fun v71 S =>
  exW 0 v71 fun v72 =>
  exW 1 v71 fun v73 =>
  exW 2 v71 fun v74 =>
  ldW S 1 true v7 fun v76 =>
  ldW S 2 true v9 fun v78 =>
  ldW S 2 true v11 fun v80 =>
  biW .sub v58 (.int .i64 1) fun v82 =>
  caW PG S (.func (.func 24) [] []) [v76, v1, v78, v3, v80, v82] (fun v83 S =>
  exW 0 v83 fun v84 =>
  exW 1 v83 fun v85 =>
  exW 2 v83 fun v86 =>
  eqW false (false, [.bool]) v57 v72 fun v89 =>
  grW v89 true (biW .eql v58 v73 fun v93 =>
  pkW v89 v93 (.bool false) fun v94 =>
  C_law15_EngineBudget_5 QF v5 v58 v74 v86 v94 S)
  (pkW v89 undefA (.bool false) fun v94 =>
  C_law15_EngineBudget_5 QF v5 v58 v74 v86 v94 S)) (pqW QF)) (pqW QF))) (pqW QF))
def C_law15_EngineBudget_3 (QF : AEnd → Store → Prop) (v1 v3 v5 v6 v7 v9 v11 v15 v43 : AV) (S : Store) : Prop :=
  grW v43 false (biW .gtr v6 (.int .i64 2000) fun v46 =>
  pkW v43 (.bool true) v46 fun v47 =>
  C_law15_EngineBudget_4 QF v1 v3 v5 v6 v7 v9 v11 v15 v47 S)
  (pkW v43 (.bool true) undefA fun v47 =>
  C_law15_EngineBudget_4 QF v1 v3 v5 v6 v7 v9 v11 v15 v47 S)
def C_law15_EngineBudget_2 (QF : AEnd → Store → Prop) (v1 v3 v5 v6 v7 v9 v11 v15 v39 : AV) (S : Store) : Prop :=
  grW v39 false (biW .lss v6 (.int .i64 0) fun v42 =>
  pkW v39 (.bool true) v42 fun v43 =>
  C_law15_EngineBudget_3 QF v1 v3 v5 v6 v7 v9 v11 v15 v43 S)
  (pkW v39 (.bool true) undefA fun v43 =>
  C_law15_EngineBudget_3 QF v1 v3 v5 v6 v7 v9 v11 v15 v43 S)
def C_law15_EngineBudget_1 (QF : AEnd → Store → Prop) (v1 v3 v5 v6 v7 v9 v11 v15 v35 : AV) (S : Store) : Prop :=
  grW v35 false (biW .gtr v5 (.int .i64 2000) fun v38 =>
  pkW v35 (.bool true) v38 fun v39 =>
  C_law15_EngineBudget_2 QF v1 v3 v5 v6 v7 v9 v11 v15 v39 S)
  (pkW v35 (.bool true) undefA fun v39 =>
  C_law15_EngineBudget_2 QF v1 v3 v5 v6 v7 v9 v11 v15 v39 S)
def B_law15_EngineBudget (QF : AEnd → Store → Prop) (v0 v1 v2 v3 v4 v5 v6 : AV) (S : Store) : Prop :=
  brW 1 v0 fun v7 =>
  brW 2 v2 fun v9 =>
  brW 2 v4 fun v11 =>
  caW PG S (.func (.func 22) [] []) [] (fun v26 S =>
  ldW S 1 true v7 fun v27 =>
  caW PG S (.func (.func 23) [] []) [v27, v1] (fun v29 S =>
  ntW v26 fun v31 =>
  grW v31 false (ntW v29 fun v34 =>
  pkW v31 (.bool true) v34 fun v35 =>
  C_law15_EngineBudget_1 QF v1 v3 v5 v6 v7 v9 v11 v26 v35 S)
  (pkW v31 (.bool true) undefA fun v35 =>
  C_law15_EngineBudget_1 QF v1 v3 v5 v6 v7 v9 v11 v26 v35 S)) (pqW QF)) (pqW QF)
theorem w_law15_EngineBudget {QF : AEnd → Store → Prop} {v0 v1 v2 v3 v4 v5 v6 : AV} {S : Store} (h : B_law15_EngineBudget QF v0 v1 v2 v3 v4 v5 v6 S) : ACalls PG nr_law15_EngineBudget [v0, v1, v2, v3, v4, v5, v6] S QF :=
  acalls_tf (F := tf_law15_EngineBudget) (by kernel_rfl) rfl (by kernel_rfl) h
end Go.HL
