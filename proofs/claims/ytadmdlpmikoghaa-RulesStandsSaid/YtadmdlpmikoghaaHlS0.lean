/- What functions do, as formulas, held against their code (printed by wip/py/gen2.py). -/
import Derived.Test.YtadmdlpmikoghaaHlP
set_option maxRecDepth 100000
set_option linter.unusedVariables false
namespace Go.HL
/-- concierge/conciergelaw12.RulesChecks -/
def tf_law12_RulesChecks : TFunc where
  n := 46
  args := 1
  res := [.tmp 2]
  code := .seq (.reg [i1 1 (.boxr 24 1 (.t 0)),
    i1 2 (.mov (.c (.bool false)))] [1] []) (.seq (.reg [i1 10 (.call (.f 11) []),
    i1 3 (.mov (.t 10))] [1, 3] []) (.seq (.reg [i1 11 (.load 1 true (.t 1)),
    i1 12 (.call (.f 12) [.t 11, .c (.int .i64 80)]),
    i1 4 (.mov (.t 12))] [1, 3, 4] []) (.seq (.seq (.reg [i1 13 (.mov (.t 3)),
    i1 14 (.not (.t 13)),
    i1 15 (.mov (.t 14)),
    .grp 15 false [s1 16 (.mov (.t 4)), s1 17 (.not (.t 16))],
    i1 18 (.pick (.t 15) (.c (.bool true)) (.t 17))] [1, 3, 18] []) (.cond (.t 18) (.seq (.reg [i1 19 (.mov (.t 3)),
    i1 2 (.mov (.t 19))] [2] []) (.ret)) (.skip))) (.seq (.reg [i1 21 (.load 1 true (.t 1)),
    i1 22 (.call (.f 13) [.t 21]),
    i1 20 (.mov (.t 22)),
    i1 23 (.extr (.t 20) 0),
    i1 24 (.extr (.t 20) 1),
    i1 5 (.mov (.t 23)),
    i1 6 (.mov (.t 24))] [1, 5, 6] []) (.seq (.reg [i1 26 (.load 1 true (.t 1)),
    i1 27 (.call (.f 14) [.t 26]),
    i1 25 (.mov (.t 27)),
    i1 28 (.extr (.t 25) 0),
    i1 29 (.extr (.t 25) 1),
    i1 7 (.mov (.t 28)),
    i1 8 (.mov (.t 29))] [1, 5, 6, 7, 8] []) (.seq (.reg [i1 30 (.mov (.t 5)),
    i1 31 (.mov (.t 7)),
    i1 32 (.call (.f 15) [.t 30, .t 31]),
    i1 9 (.mov (.t 32))] [1, 6, 8, 9] []) (.seq (.regl [0, 2, 1, 3, 4, 5, 6, 7, 8, 9, 10, 11, 12, 13] [i1 33 (.load 1 true (.t 1)),
    i1 35 (.load 1 true (.t 1)),
    .one { d := some 34, o := .call (.f 16) [.t 33], x := [1] },
    i1 36 (.call (.f 17) [.t 35]),
    i1 37 (.eqp false (true, [.int .i64, .int .i64, .int .i64]) (.t 34) (.t 36)),
    i1 38 (.mov (.t 37)),
    .grp 38 true [s1 39 (.mov (.t 9))],
    i1 40 (.pick (.t 38) (.t 39) (.c (.bool false))),
    i1 41 (.mov (.t 40)),
    .grp 41 true [s1 42 (.mov (.t 6)), s1 43 (.mov (.t 8)), s1 44 (.eqp false (false, [.bool]) (.t 42) (.t 43))],
    i1 45 (.pick (.t 41) (.t 44) (.c (.bool false))),
    i1 2 (.mov (.t 45))] [2] []) (.ret))))))))
abbrev nr_law12_RulesChecks : Nat := 3
def C_law12_RulesChecks_2 (QF : AEnd → Store → Prop) (v6 v8 v40 : AV) (S : Store) : Prop :=
  grW v40 true (eqW false (false, [.bool]) v6 v8 fun v44 =>
  pkW v40 v44 (.bool false) fun v45 =>
  rtW [.tmp v45] QF S)
  (pkW v40 undefA (.bool false) fun v45 =>
  rtW [.tmp v45] QF S)
def C_law12_RulesChecks_1 (QF : AEnd → Store → Prop) (v1 v3 v18 : AV) (S : Store) : Prop :=
  cnW v18 (rtW [.tmp v3] QF S)
  (ldW S 1 true v1 fun v21 =>
  caW PG S (.func (.func 13) [] []) [v21] (fun v22 S =>
  exW 0 v22 fun v23 =>
  exW 1 v22 fun v24 =>
  ldW S 1 true v1 fun v26 =>
  caW PG S (.func (.func 14) [] []) [v26] (fun v27 S =>
  exW 0 v27 fun v28 =>
  exW 1 v27 fun v29 =>
  caW PG S (.func (.func 15) [] []) [v23, v28] (fun v32 S =>
  ldW S 1 true v1 fun v33 =>
  ldW S 1 true v1 fun v35 =>
  caW PG S (.func (.func 16) [] []) [v33] (fun v34 S2 =>
  kpW [v1] S S2 (
  caW PG S2 (.func (.func 17) [] []) [v35] (fun v36 S =>
  eqW false (true, [.int .i64, .int .i64, .int .i64]) v34 v36 fun v37 =>
  grW v37 true (pkW v37 v32 (.bool false) fun v40 =>
  C_law12_RulesChecks_2 QF v24 v29 v40 S)
  (pkW v37 undefA (.bool false) fun v40 =>
  C_law12_RulesChecks_2 QF v24 v29 v40 S)) (pqW QF))) (pqW QF)) (pqW QF)) (pqW QF)) (pqW QF))
def B_law12_RulesChecks (QF : AEnd → Store → Prop) (v0 : AV) (S : Store) : Prop :=
  brW 1 v0 fun v1 =>
  caW PG S (.func (.func 11) [] []) [] (fun v10 S =>
  ldW S 1 true v1 fun v11 =>
  caW PG S (.func (.func 12) [] []) [v11, (.int .i64 80)] (fun v12 S =>
  ntW v10 fun v14 =>
  grW v14 false (ntW v12 fun v17 =>
  pkW v14 (.bool true) v17 fun v18 =>
  C_law12_RulesChecks_1 QF v1 v10 v18 S)
  (pkW v14 (.bool true) undefA fun v18 =>
  C_law12_RulesChecks_1 QF v1 v10 v18 S)) (pqW QF)) (pqW QF)
theorem w_law12_RulesChecks {QF : AEnd → Store → Prop} {v0 : AV} {S : Store} (h : B_law12_RulesChecks QF v0 S) : ACalls PG nr_law12_RulesChecks [v0] S QF :=
  acalls_tf (F := tf_law12_RulesChecks) (by kernel_rfl) rfl (by kernel_rfl) h

/-- concierge/conciergelaw12.RulesTexts -/
def tf_law12_RulesTexts : TFunc where
  n := 20
  args := 1
  res := [.tmp 2]
  code := .seq (.reg [i1 2 (.mov (.c (.bool false)))] [0] []) (.seq (.reg [i1 5 (.call (.f 11) []),
    i1 3 (.mov (.t 5))] [0, 3] []) (.seq (.seq (.reg [i1 6 (.mov (.t 0)),
    i1 7 (.len 0 (.t 6)),
    i1 8 (.bin .gtr (.t 7) (.c (.int .i64 600)))] [0, 3, 8] []) (.cond (.t 8) (.seq (.reg [i1 9 (.mov (.t 3)),
    i1 2 (.mov (.t 9))] [2] []) (.ret)) (.skip))) (.seq (.reg [i1 10 (.mov (.t 0)),
    i1 11 (.call (.f 18) [.t 10]),
    .box2 4 24 [.nils] 1 (.t 11)] [3, 4] []) (.seq (.regl [0, 1, 2, 4, 3, 5, 6, 7, 8] [i1 12 (.mov (.t 3)),
    i1 13 (.mov (.t 12)),
    .grp 13 true [s1 14 (.load 1 true (.t 4)), s1 16 (.load 1 true (.t 4)), { d := some 15, o := .call (.f 16) [.t 14], x := [4] }, s1 17 (.call (.f 17) [.t 16]), s1 18 (.eqp false (true, [.int .i64, .int .i64, .int .i64]) (.t 15) (.t 17))],
    i1 19 (.pick (.t 13) (.t 18) (.c (.bool false))),
    i1 2 (.mov (.t 19))] [2] []) (.ret)))))
abbrev nr_law12_RulesTexts : Nat := 4
def B_law12_RulesTexts (QF : AEnd → Store → Prop) (v0 : AV) (S : Store) : Prop :=
  caW PG S (.func (.func 11) [] []) [] (fun v5 S =>
  lnW S 0 v0 fun v7 =>
  biW .gtr v7 (.int .i64 600) fun v8 =>
  cnW v8 (rtW [.tmp v5] QF S)
  (caW PG S (.func (.func 18) [] []) [v0] (fun v11 S =>
  bfW 1 v11 fun v4 =>
  grW v5 true (ldW S 1 true v4 fun v14 =>
  ldW S 1 true v4 fun v16 =>
  caW PG S (.func (.func 16) [] []) [v14] (fun v15 S1 =>
  kpW [v4] S S1 (
  caW PG S1 (.func (.func 17) [] []) [v16] (fun v17 S =>
  eqW false (true, [.int .i64, .int .i64, .int .i64]) v15 v17 fun v18 =>
  pkW v5 v18 (.bool false) fun v19 =>
  rtW [.tmp v19] QF S) (pqW QF))) (pqW QF))
  (pkW v5 undefA (.bool false) fun v19 =>
  rtW [.tmp v19] QF S)) (pqW QF))) (pqW QF)
theorem w_law12_RulesTexts {QF : AEnd → Store → Prop} {v0 : AV} {S : Store} (h : B_law12_RulesTexts QF v0 S) : ACalls PG nr_law12_RulesTexts [v0] S QF :=
  acalls_tf (F := tf_law12_RulesTexts) (by kernel_rfl) rfl (by kernel_rfl) h

/-- concierge/conciergelaw12.RulesFinds -/
def tf_law12_RulesFinds : TFunc where
  n := 71
  args := 3
  res := [.tmp 6]
  code := .seq (.reg [i1 3 (.boxr 24 1 (.t 0)),
    i1 6 (.mov (.c (.bool false)))] [1, 2, 3] []) (.seq (.reg [i1 14 (.call (.f 11) []),
    i1 7 (.mov (.t 14))] [1, 2, 3, 7] []) (.seq (.reg [i1 15 (.load 1 true (.t 3)),
    i1 16 (.call (.f 12) [.t 15, .c (.int .i64 80)]),
    i1 8 (.mov (.t 16))] [1, 2, 3, 7, 8] []) (.seq (.seq (.reg [i1 17 (.mov (.t 7)),
    i1 18 (.not (.t 17)),
    i1 19 (.mov (.t 18)),
    .grp 19 false [s1 20 (.mov (.t 8)), s1 21 (.not (.t 20))],
    i1 22 (.pick (.t 19) (.c (.bool true)) (.t 21))] [1, 2, 3, 7, 22] []) (.cond (.t 22) (.seq (.reg [i1 23 (.mov (.t 7)),
    i1 6 (.mov (.t 23))] [6] []) (.ret)) (.skip))) (.seq (.reg [i1 25 (.load 1 true (.t 3)),
    i1 26 (.mov (.t 1)),
    i1 27 (.mov (.t 2)),
    i1 28 (.call (.f 19) [.t 25, .t 26, .t 27]),
    i1 24 (.mov (.t 28)),
    i1 29 (.extr (.t 24) 0),
    i1 30 (.extr (.t 24) 1),
    .box2 9 43 [.str ⟨#[]⟩, .nils, .int .i64 0, .str ⟨#[]⟩, .str ⟨#[]⟩, .nils] 6 (.t 29),
    i1 10 (.mov (.t 30))] [1, 2, 3, 9, 10] []) (.seq (.reg [i1 32 (.load 1 true (.t 3)),
    i1 33 (.mov (.t 1)),
    i1 34 (.mov (.t 2)),
    i1 35 (.call (.f 20) [.t 32, .t 33, .t 34]),
    i1 31 (.mov (.t 35)),
    i1 36 (.extr (.t 31) 0),
    i1 37 (.extr (.t 31) 1),
    .box2 11 43 [.str ⟨#[]⟩, .nils, .int .i64 0, .str ⟨#[]⟩, .str ⟨#[]⟩, .nils] 6 (.t 36),
    i1 12 (.mov (.t 37))] [9, 10, 11, 12] []) (.seq (.reg [i1 38 (.faddr 2 (.t 9)),
    i1 39 (.load 4 true (.t 38)),
    i1 40 (.faddr 2 (.t 11)),
    i1 41 (.load 4 true (.t 40)),
    i1 42 (.call (.f 21) [.t 39, .t 41]),
    i1 13 (.mov (.t 42))] [9, 10, 11, 12, 13] []) (.seq (.reg [i1 43 (.faddr 0 (.t 9)),
    i1 44 (.load 1 false (.t 43)),
    i1 45 (.faddr 0 (.t 11)),
    i1 46 (.load 1 false (.t 45)),
    i1 47 (.bin .eql (.t 44) (.t 46)),
    i1 48 (.mov (.t 47)),
    .grp 48 true [s1 49 (.faddr 1 (.t 9)), s1 50 (.load 1 false (.t 49)), s1 51 (.len 1 (.t 50)), s1 52 (.faddr 1 (.t 11)), s1 53 (.load 1 false (.t 52)), s1 54 (.len 1 (.t 53)), s1 55 (.bin .eql (.t 51) (.t 54))],
    i1 56 (.pick (.t 48) (.t 55) (.c (.bool false))),
    i1 57 (.mov (.t 56)),
    .grp 57 true [s1 58 (.mov (.t 10)), s1 59 (.mov (.t 12)), s1 60 (.eqp false (false, [.bool]) (.t 58) (.t 59))],
    i1 61 (.pick (.t 57) (.t 60) (.c (.bool false))),
    i1 62 (.mov (.t 61)),
    .grp 62 true [s1 63 (.faddr 1 (.t 9)), s1 64 (.load 1 false (.t 63)), s1 65 (.len 1 (.t 64)), s1 66 (.bin .gtr (.t 65) (.c (.int .i64 0))), s1 67 (.mov (.t 66))],
    .grp 67 false [s1 68 (.mov (.t 13))],
    .grp 62 true [s1 69 (.pick (.t 67) (.c (.bool true)) (.t 68))],
    i1 70 (.pick (.t 62) (.t 69) (.c (.bool false))),
    i1 6 (.mov (.t 70))] [6] []) (.ret))))))))
abbrev nr_law12_RulesFinds : Nat := 5
def C_law12_RulesFinds_5 (QF : AEnd → Store → Prop) (v62 v67 v68 : AV) (S : Store) : Prop :=
  grW v62 true (pkW v67 (.bool true) v68 fun v69 =>
  pkW v62 v69 (.bool false) fun v70 =>
  rtW [.tmp v70] QF S)
  (pkW v62 undefA (.bool false) fun v70 =>
  rtW [.tmp v70] QF S)
def C_law12_RulesFinds_4 (QF : AEnd → Store → Prop) (v13 v62 v67 : AV) (S : Store) : Prop :=
  grW v67 false (C_law12_RulesFinds_5 QF v62 v67 v13 S)
  (C_law12_RulesFinds_5 QF v62 v67 undefA S)
def C_law12_RulesFinds_3 (QF : AEnd → Store → Prop) (v9 v13 v61 : AV) (S : Store) : Prop :=
  grW v61 true (faW 1 v9 fun v63 =>
  ldW S 1 false v63 fun v64 =>
  lnW S 1 v64 fun v65 =>
  biW .gtr v65 (.int .i64 0) fun v66 =>
  C_law12_RulesFinds_4 QF v13 v61 v66 S)
  (C_law12_RulesFinds_4 QF v13 v61 undefA S)
def C_law12_RulesFinds_2 (QF : AEnd → Store → Prop) (v9 v10 v12 v13 v56 : AV) (S : Store) : Prop :=
  grW v56 true (eqW false (false, [.bool]) v10 v12 fun v60 =>
  pkW v56 v60 (.bool false) fun v61 =>
  C_law12_RulesFinds_3 QF v9 v13 v61 S)
  (pkW v56 undefA (.bool false) fun v61 =>
  C_law12_RulesFinds_3 QF v9 v13 v61 S)
def C_law12_RulesFinds_1 (QF : AEnd → Store → Prop) (v1 v2 v3 v7 v22 : AV) (S : Store) : Prop :=
  cnW v22 (rtW [.tmp v7] QF S)
  (ldW S 1 true v3 fun v25 =>
  caW PG S (.func (.func 19) [] []) [v25, v1, v2] (fun v28 S =>
  exW 0 v28 fun v29 =>
  exW 1 v28 fun v30 =>
  bfW 6 v29 fun v9 =>
  ldW S 1 true v3 fun v32 =>
  caW PG S (.func (.func 20) [] []) [v32, v1, v2] (fun v35 S =>
  exW 0 v35 fun v36 =>
  exW 1 v35 fun v37 =>
  bfW 6 v36 fun v11 =>
  faW 2 v9 fun v38 =>
  ldW S 4 true v38 fun v39 =>
  faW 2 v11 fun v40 =>
  ldW S 4 true v40 fun v41 =>
  caW PG S (.func (.func 21) [] []) [v39, v41] (fun v42 S =>
  faW 0 v9 fun v43 =>
  ldW S 1 false v43 fun v44 =>
  faW 0 v11 fun v45 =>
  ldW S 1 false v45 fun v46 =>
  biW .eql v44 v46 fun v47 =>
  grW v47 true (faW 1 v9 fun v49 =>
  ldW S 1 false v49 fun v50 =>
  lnW S 1 v50 fun v51 =>
  faW 1 v11 fun v52 =>
  ldW S 1 false v52 fun v53 =>
  lnW S 1 v53 fun v54 =>
  biW .eql v51 v54 fun v55 =>
  pkW v47 v55 (.bool false) fun v56 =>
  C_law12_RulesFinds_2 QF v9 v30 v37 v42 v56 S)
  (pkW v47 undefA (.bool false) fun v56 =>
  C_law12_RulesFinds_2 QF v9 v30 v37 v42 v56 S)) (pqW QF)) (pqW QF)) (pqW QF))
def B_law12_RulesFinds (QF : AEnd → Store → Prop) (v0 v1 v2 : AV) (S : Store) : Prop :=
  brW 1 v0 fun v3 =>
  caW PG S (.func (.func 11) [] []) [] (fun v14 S =>
  ldW S 1 true v3 fun v15 =>
  caW PG S (.func (.func 12) [] []) [v15, (.int .i64 80)] (fun v16 S =>
  ntW v14 fun v18 =>
  grW v18 false (ntW v16 fun v21 =>
  pkW v18 (.bool true) v21 fun v22 =>
  C_law12_RulesFinds_1 QF v1 v2 v3 v14 v22 S)
  (pkW v18 (.bool true) undefA fun v22 =>
  C_law12_RulesFinds_1 QF v1 v2 v3 v14 v22 S)) (pqW QF)) (pqW QF)
theorem w_law12_RulesFinds {QF : AEnd → Store → Prop} {v0 v1 v2 : AV} {S : Store} (h : B_law12_RulesFinds QF v0 v1 v2 S) : ACalls PG nr_law12_RulesFinds [v0, v1, v2] S QF :=
  acalls_tf (F := tf_law12_RulesFinds) (by kernel_rfl) rfl (by kernel_rfl) h

/-- concierge/conciergelaw12.RulesStands -/
def tf_law12_RulesStands : TFunc where
  n := 159
  args := 1
  res := [.tmp 2]
  code := .seq (.reg [i1 1 (.boxr 24 1 (.t 0)),
    i1 2 (.mov (.c (.bool false)))] [1] []) (.seq (.reg [i1 14 (.call (.f 11) []),
    i1 3 (.mov (.t 14))] [1, 3] []) (.seq (.reg [i1 15 (.load 1 true (.t 1)),
    i1 16 (.call (.f 12) [.t 15, .c (.int .i64 80)]),
    i1 4 (.mov (.t 16))] [1, 3, 4] []) (.seq (.seq (.reg [i1 17 (.mov (.t 3)),
    i1 18 (.not (.t 17)),
    i1 19 (.mov (.t 18)),
    .grp 19 false [s1 20 (.mov (.t 4)), s1 21 (.not (.t 20))],
    i1 22 (.pick (.t 19) (.c (.bool true)) (.t 21))] [1, 3, 22] []) (.cond (.t 22) (.seq (.reg [i1 23 (.mov (.t 3)),
    i1 2 (.mov (.t 23))] [2] []) (.ret)) (.skip))) (.seq (.reg [i1 25 (.load 1 true (.t 1)),
    i1 26 (.call (.f 13) [.t 25]),
    i1 24 (.mov (.t 26)),
    i1 27 (.extr (.t 24) 0),
    i1 28 (.extr (.t 24) 1),
    i1 5 (.mov (.t 27)),
    i1 6 (.mov (.t 28))] [1, 5, 6] []) (.seq (.reg [i1 29 (.load 1 true (.t 1)),
    i1 30 (.call (.f 16) [.t 29]),
    .box2 7 33 [.int .i64 0, .int .i64 0, .int .i64 0] 3 (.t 30)] [1, 5, 6, 7] []) (.seq (.seq (.reg [i1 31 (.mov (.t 6)),
    i1 32 (.faddr 2 (.t 7)),
    i1 33 (.load 1 false (.t 32)),
    i1 34 (.bin .eql (.t 33) (.c (.int .i64 0))),
    i1 35 (.eqp true (false, [.bool]) (.t 31) (.t 34))] [1, 5, 6, 35] []) (.cond (.t 35) (.seq (.reg [i1 2 (.mov (.c (.bool false)))] [2] []) (.ret)) (.skip))) (.seq (.seq (.reg [i1 36 (.mov (.t 6)),
    i1 37 (.not (.t 36))] [1, 5, 37] []) (.cond (.t 37) (.seq (.reg [i1 38 (.mov (.t 5)),
    i1 39 (.len 1 (.t 38)),
    i1 40 (.bin .eql (.t 39) (.c (.int .i64 0))),
    i1 2 (.mov (.t 40))] [2] []) (.ret)) (.skip))) (.seq (.seq (.reg [i1 8 (.mov (.c (.int .i64 0)))] [1, 5, 8] []) (.block 0 (.loop [1, 5, 8] (.seq (.seq (.reg [i1 41 (.mov (.t 8)),
    i1 42 (.mov (.t 5)),
    i1 43 (.len 1 (.t 42)),
    i1 44 (.bin .lss (.t 41) (.t 43))] [1, 5, 8, 44] []) (.cond (.t 44) (.skip) (.exit 0))) (.seq (.block 1 (.seq (.reg [i1 9 (.mov (.c (.int .i64 0)))] [1, 5, 8, 9] []) (.block 2 (.loop [1, 5, 8, 9] (.seq (.seq (.reg [i1 47 (.mov (.t 9)),
    i1 48 (.mov (.t 5)),
    i1 49 (.mov (.t 8)),
    i1 50 (.iaddr 1 (.t 48) (.t 49)),
    i1 51 (.load 1 false (.t 50)),
    i1 52 (.len 1 (.t 51)),
    i1 53 (.bin .lss (.t 47) (.t 52))] [1, 5, 8, 9, 53] []) (.cond (.t 53) (.skip) (.exit 2))) (.seq (.block 3 (.seq (.reg [i1 56 (.faddr 0 (.t 1)),
    i1 57 (.load 1 false (.t 56)),
    i1 58 (.mov (.t 8)),
    i1 59 (.iaddr 2 (.t 57) (.t 58)),
    i1 60 (.faddr 1 (.t 59)),
    i1 61 (.load 1 false (.t 60)),
    i1 62 (.mov (.t 9)),
    i1 63 (.iaddr 6 (.t 61) (.t 62)),
    i1 64 (.faddr 1 (.t 63)),
    i1 65 (.load 1 false (.t 64)),
    i1 10 (.mov (.t 65))] [1, 5, 8, 9, 10] []) (.seq (.seq (.reg [i1 11 (.mov (.c (.int .i64 0)))] [1, 5, 8, 9, 10, 11] []) (.block 4 (.loop [1, 5, 8, 9, 10, 11] (.seq (.seq (.reg [i1 66 (.mov (.t 11)),
    i1 67 (.mov (.t 10)),
    i1 68 (.len 1 (.t 67)),
    i1 69 (.bin .lss (.t 66) (.t 68))] [1, 5, 8, 9, 10, 11, 69] []) (.cond (.t 69) (.skip) (.exit 4))) (.seq (.block 5 (.seq (.reg [i1 12 (.mov (.c (.int .i64 0)))] [1, 5, 8, 9, 10, 11, 12] []) (.block 6 (.loop [1, 5, 8, 9, 10, 11, 12] (.seq (.seq (.reg [i1 72 (.mov (.t 12)),
    i1 73 (.faddr 0 (.t 1)),
    i1 74 (.load 1 false (.t 73)),
    i1 75 (.len 1 (.t 74)),
    i1 76 (.bin .lss (.t 72) (.t 75))] [1, 5, 8, 9, 10, 11, 12, 76] []) (.cond (.t 76) (.skip) (.exit 6))) (.seq (.block 7 (.seq (.reg [i1 13 (.mov (.c (.int .i64 0)))] [1, 5, 8, 9, 10, 11, 12, 13] []) (.block 8 (.loop [1, 5, 8, 9, 10, 11, 12, 13] (.seq (.seq (.reg [i1 79 (.mov (.t 13)),
    i1 80 (.faddr 0 (.t 1)),
    i1 81 (.load 1 false (.t 80)),
    i1 82 (.mov (.t 12)),
    i1 83 (.iaddr 2 (.t 81) (.t 82)),
    i1 84 (.faddr 1 (.t 83)),
    i1 85 (.load 1 false (.t 84)),
    i1 86 (.len 1 (.t 85)),
    i1 87 (.bin .lss (.t 79) (.t 86))] [1, 5, 8, 9, 10, 11, 12, 13, 87] []) (.cond (.t 87) (.skip) (.exit 8))) (.seq (.block 9 (.seq (.regl [0, 1, 2, 3, 4, 5, 6, 7, 9, 13, 14, 15, 16, 8, 10, 11, 12, 17, 18, 19, 20, 21, 23, 27, 31, 32, 33, 34, 22, 24, 25, 26, 28, 29, 30, 35, 36, 37, 38, 39, 40, 41, 43, 46, 47, 48, 50, 42, 44, 45, 49, 51, 52, 53, 54] [i1 90 (.mov (.t 10)),
    i1 91 (.mov (.t 11)),
    i1 92 (.iaddr 2 (.t 90) (.t 91)),
    i1 93 (.faddr 1 (.t 92)),
    i1 94 (.load 1 false (.t 93)),
    i1 95 (.bin .neq (.t 94) (.c (.str ⟨#[]⟩))),
    i1 96 (.mov (.t 95)),
    .grp 96 true [s1 97 (.faddr 0 (.t 1)), s1 99 (.mov (.t 12)), s1 103 (.mov (.t 10)), s1 104 (.mov (.t 11)), s1 105 (.iaddr 2 (.t 103) (.t 104)), s1 106 (.faddr 0 (.t 105)), s1 98 (.load 1 false (.t 97)), s1 100 (.iaddr 2 (.t 98) (.t 99)), s1 101 (.faddr 0 (.t 100)), s1 102 (.load 1 false (.t 101)), s1 107 (.load 1 false (.t 106)), s1 108 (.bin .eql (.t 102) (.t 107))],
    i1 109 (.pick (.t 96) (.t 108) (.c (.bool false))),
    i1 110 (.mov (.t 109)),
    .grp 110 true [s1 111 (.faddr 0 (.t 1)), s1 113 (.mov (.t 12)), s1 117 (.mov (.t 13)), s1 121 (.mov (.t 10)), s1 122 (.mov (.t 11)), s1 123 (.iaddr 2 (.t 121) (.t 122)), s1 124 (.faddr 1 (.t 123)), s1 112 (.load 1 false (.t 111)), s1 114 (.iaddr 2 (.t 112) (.t 113)), s1 115 (.faddr 1 (.t 114)), s1 116 (.load 1 false (.t 115)), s1 118 (.iaddr 6 (.t 116) (.t 117)), s1 119 (.faddr 0 (.t 118)), s1 120 (.load 1 false (.t 119)), s1 125 (.load 1 false (.t 124)), s1 126 (.bin .eql (.t 120) (.t 125))],
    i1 127 (.pick (.t 110) (.t 126) (.c (.bool false))),
    i1 128 (.mov (.t 127)),
    .grp 128 true [s1 129 (.mov (.t 5)), s1 130 (.mov (.t 12)), s1 131 (.iaddr 1 (.t 129) (.t 130)), s1 133 (.mov (.t 13)), s1 136 (.mov (.t 5)), s1 137 (.mov (.t 8)), s1 138 (.iaddr 1 (.t 136) (.t 137)), s1 140 (.mov (.t 9)), s1 132 (.load 1 false (.t 131)), s1 134 (.iaddr 1 (.t 132) (.t 133)), s1 135 (.load 1 false (.t 134)), s1 139 (.load 1 false (.t 138)), s1 141 (.iaddr 1 (.t 139) (.t 140)), s1 142 (.load 1 false (.t 141)), s1 143 (.bin .gtr (.t 135) (.t 142))],
    i1 144 (.pick (.t 128) (.t 143) (.c (.bool false)))] [1, 5, 8, 9, 10, 11, 12, 13, 144] []) (.cond (.t 144) (.seq (.reg [i1 2 (.mov (.c (.bool false)))] [2] []) (.ret)) (.skip)))) (.reg [i1 88 (.mov (.t 13)),
    i1 89 (.bin .add (.t 88) (.c (.int .i64 1))),
    i1 13 (.mov (.t 89))] [1, 5, 8, 9, 10, 11, 12, 13] []))))))) (.reg [i1 77 (.mov (.t 12)),
    i1 78 (.bin .add (.t 77) (.c (.int .i64 1))),
    i1 12 (.mov (.t 78))] [1, 5, 8, 9, 10, 11, 12] []))))))) (.reg [i1 70 (.mov (.t 11)),
    i1 71 (.bin .add (.t 70) (.c (.int .i64 1))),
    i1 11 (.mov (.t 71))] [1, 5, 8, 9, 10, 11] [])))))) (.seq (.reg [i1 145 (.mov (.t 5)),
    i1 146 (.mov (.t 8)),
    i1 147 (.iaddr 1 (.t 145) (.t 146)),
    i1 148 (.load 1 false (.t 147)),
    i1 149 (.mov (.t 9)),
    i1 150 (.iaddr 1 (.t 148) (.t 149)),
    i1 151 (.load 1 false (.t 150)),
    i1 152 (.bin .lss (.t 151) (.c (.int .i64 0)))] [1, 5, 8, 9, 152] []) (.cond (.t 152) (.seq (.reg [i1 2 (.mov (.c (.bool false)))] [2] []) (.ret)) (.skip)))))) (.reg [i1 54 (.mov (.t 9)),
    i1 55 (.bin .add (.t 54) (.c (.int .i64 1))),
    i1 9 (.mov (.t 55))] [1, 5, 8, 9] []))))))) (.reg [i1 45 (.mov (.t 8)),
    i1 46 (.bin .add (.t 45) (.c (.int .i64 1))),
    i1 8 (.mov (.t 46))] [1, 5, 8] [])))))) (.seq (.reg [i1 153 (.mov (.t 5)),
    i1 154 (.len 1 (.t 153)),
    i1 155 (.faddr 0 (.t 1)),
    i1 156 (.load 1 false (.t 155)),
    i1 157 (.len 1 (.t 156)),
    i1 158 (.bin .eql (.t 154) (.t 157)),
    i1 2 (.mov (.t 158))] [2] []) (.ret))))))))))
abbrev nr_law12_RulesStands : Nat := 6
def C_law12_RulesStands_9 (QF : AEnd → Store → Prop) (r0 : LE → Store → Prop) (r1 : LE → Store → Prop) (r2 : LE → Store → Prop) (r3 : LE → Store → Prop) (r4 : LE → Store → Prop) (v1 v5 v8 v9 v10 v11 v12 v13 v144 : AV) (S : Store) : Prop :=
  cnW v144 (rtW [.tmp (.bool false)] QF S)
  (biW .add v13 (.int .i64 1) fun v89 =>
  rcW r4 [(1, v1), (5, v5), (8, v8), (9, v9), (10, v10), (11, v11), (12, v12), (13, v89)] S)
def C_law12_RulesStands_8 (QF : AEnd → Store → Prop) (r0 : LE → Store → Prop) (r1 : LE → Store → Prop) (r2 : LE → Store → Prop) (r3 : LE → Store → Prop) (r4 : LE → Store → Prop) (v1 v5 v8 v9 v10 v11 v12 v13 v127 : AV) (S : Store) : Prop :=
  grW v127 true (iaW 1 v5 v12 fun v131 =>
  iaW 1 v5 v8 fun v138 =>
  ldW S 1 false v131 fun v132 =>
  iaW 1 v132 v13 fun v134 =>
  ldW S 1 false v134 fun v135 =>
  ldW S 1 false v138 fun v139 =>
  iaW 1 v139 v9 fun v141 =>
  ldW S 1 false v141 fun v142 =>
  biW .gtr v135 v142 fun v143 =>
  pkW v127 v143 (.bool false) fun v144 =>
  C_law12_RulesStands_9 QF r0 r1 r2 r3 r4 v1 v5 v8 v9 v10 v11 v12 v13 v144 S)
  (pkW v127 undefA (.bool false) fun v144 =>
  C_law12_RulesStands_9 QF r0 r1 r2 r3 r4 v1 v5 v8 v9 v10 v11 v12 v13 v144 S)
def C_law12_RulesStands_7 (QF : AEnd → Store → Prop) (r0 : LE → Store → Prop) (r1 : LE → Store → Prop) (r2 : LE → Store → Prop) (r3 : LE → Store → Prop) (r4 : LE → Store → Prop) (v1 v5 v8 v9 v10 v11 v12 v13 v109 : AV) (S : Store) : Prop :=
  grW v109 true (faW 0 v1 fun v111 =>
  iaW 2 v10 v11 fun v123 =>
  faW 1 v123 fun v124 =>
  ldW S 1 false v111 fun v112 =>
  iaW 2 v112 v12 fun v114 =>
  faW 1 v114 fun v115 =>
  ldW S 1 false v115 fun v116 =>
  iaW 6 v116 v13 fun v118 =>
  faW 0 v118 fun v119 =>
  ldW S 1 false v119 fun v120 =>
  ldW S 1 false v124 fun v125 =>
  biW .eql v120 v125 fun v126 =>
  pkW v109 v126 (.bool false) fun v127 =>
  C_law12_RulesStands_8 QF r0 r1 r2 r3 r4 v1 v5 v8 v9 v10 v11 v12 v13 v127 S)
  (pkW v109 undefA (.bool false) fun v127 =>
  C_law12_RulesStands_8 QF r0 r1 r2 r3 r4 v1 v5 v8 v9 v10 v11 v12 v13 v127 S)
def C_law12_RulesStands_6 (QF : AEnd → Store → Prop) (r0 : LE → Store → Prop) (r1 : LE → Store → Prop) (r2 : LE → Store → Prop) (r3 : LE → Store → Prop) (r4 : LE → Store → Prop) (v1 v5 v8 v9 v10 v11 v12 v13 : AV) (S : Store) : Prop :=
  faW 0 v1 fun v80 =>
  ldW S 1 false v80 fun v81 =>
  iaW 2 v81 v12 fun v83 =>
  faW 1 v83 fun v84 =>
  ldW S 1 false v84 fun v85 =>
  lnW S 1 v85 fun v86 =>
  biW .lss v13 v86 fun v87 =>
  cnW v87 (iaW 2 v10 v11 fun v92 =>
  faW 1 v92 fun v93 =>
  ldW S 1 false v93 fun v94 =>
  biW .neq v94 (.str ⟨#[]⟩) fun v95 =>
  grW v95 true (faW 0 v1 fun v97 =>
  iaW 2 v10 v11 fun v105 =>
  faW 0 v105 fun v106 =>
  ldW S 1 false v97 fun v98 =>
  iaW 2 v98 v12 fun v100 =>
  faW 0 v100 fun v101 =>
  ldW S 1 false v101 fun v102 =>
  ldW S 1 false v106 fun v107 =>
  biW .eql v102 v107 fun v108 =>
  pkW v95 v108 (.bool false) fun v109 =>
  C_law12_RulesStands_7 QF r0 r1 r2 r3 r4 v1 v5 v8 v9 v10 v11 v12 v13 v109 S)
  (pkW v95 undefA (.bool false) fun v109 =>
  C_law12_RulesStands_7 QF r0 r1 r2 r3 r4 v1 v5 v8 v9 v10 v11 v12 v13 v109 S))
  (biW .add v12 (.int .i64 1) fun v78 =>
  rcW r3 [(1, v1), (5, v5), (8, v8), (9, v9), (10, v10), (11, v11), (12, v78)] S)
def C_law12_RulesStands_5 (QF : AEnd → Store → Prop) (r0 : LE → Store → Prop) (r1 : LE → Store → Prop) (r2 : LE → Store → Prop) (r3 : LE → Store → Prop) (v1 v5 v8 v9 v10 v11 v12 : AV) (S : Store) : Prop :=
  faW 0 v1 fun v73 =>
  ldW S 1 false v73 fun v74 =>
  lnW S 1 v74 fun v75 =>
  biW .lss v12 v75 fun v76 =>
  cnW v76 (LoopP (fun r4 l S => C_law12_RulesStands_6 QF r0 r1 r2 r3 r4 (lget l 1) (lget l 5) (lget l 8) (lget l 9) (lget l 10) (lget l 11) (lget l 12) (lget l 13) S) [(1, v1), (5, v5), (8, v8), (9, v9), (10, v10), (11, v11), (12, v12), (13, (.int .i64 0))] S)
  (biW .add v11 (.int .i64 1) fun v71 =>
  rcW r2 [(1, v1), (5, v5), (8, v8), (9, v9), (10, v10), (11, v71)] S)
def C_law12_RulesStands_4 (QF : AEnd → Store → Prop) (r0 : LE → Store → Prop) (r1 : LE → Store → Prop) (r2 : LE → Store → Prop) (v1 v5 v8 v9 v10 v11 : AV) (S : Store) : Prop :=
  lnW S 1 v10 fun v68 =>
  biW .lss v11 v68 fun v69 =>
  cnW v69 (LoopP (fun r3 l S => C_law12_RulesStands_5 QF r0 r1 r2 r3 (lget l 1) (lget l 5) (lget l 8) (lget l 9) (lget l 10) (lget l 11) (lget l 12) S) [(1, v1), (5, v5), (8, v8), (9, v9), (10, v10), (11, v11), (12, (.int .i64 0))] S)
  (iaW 1 v5 v8 fun v147 =>
  ldW S 1 false v147 fun v148 =>
  iaW 1 v148 v9 fun v150 =>
  ldW S 1 false v150 fun v151 =>
  biW .lss v151 (.int .i64 0) fun v152 =>
  cnW v152 (rtW [.tmp (.bool false)] QF S)
  (biW .add v9 (.int .i64 1) fun v55 =>
  rcW r1 [(1, v1), (5, v5), (8, v8), (9, v55)] S))
def C_law12_RulesStands_3 (QF : AEnd → Store → Prop) (r0 : LE → Store → Prop) (r1 : LE → Store → Prop) (v1 v5 v8 v9 : AV) (S : Store) : Prop :=
  iaW 1 v5 v8 fun v50 =>
  ldW S 1 false v50 fun v51 =>
  lnW S 1 v51 fun v52 =>
  biW .lss v9 v52 fun v53 =>
  cnW v53 (faW 0 v1 fun v56 =>
  ldW S 1 false v56 fun v57 =>
  iaW 2 v57 v8 fun v59 =>
  faW 1 v59 fun v60 =>
  ldW S 1 false v60 fun v61 =>
  iaW 6 v61 v9 fun v63 =>
  faW 1 v63 fun v64 =>
  ldW S 1 false v64 fun v65 =>
  LoopP (fun r2 l S => C_law12_RulesStands_4 QF r0 r1 r2 (lget l 1) (lget l 5) (lget l 8) (lget l 9) (lget l 10) (lget l 11) S) [(1, v1), (5, v5), (8, v8), (9, v9), (10, v65), (11, (.int .i64 0))] S)
  (biW .add v8 (.int .i64 1) fun v46 =>
  rcW r0 [(1, v1), (5, v5), (8, v46)] S)
def C_law12_RulesStands_2 (QF : AEnd → Store → Prop) (r0 : LE → Store → Prop) (v1 v5 v8 : AV) (S : Store) : Prop :=
  lnW S 1 v5 fun v43 =>
  biW .lss v8 v43 fun v44 =>
  cnW v44 (LoopP (fun r1 l S => C_law12_RulesStands_3 QF r0 r1 (lget l 1) (lget l 5) (lget l 8) (lget l 9) S) [(1, v1), (5, v5), (8, v8), (9, (.int .i64 0))] S)
  (lnW S 1 v5 fun v154 =>
  faW 0 v1 fun v155 =>
  ldW S 1 false v155 fun v156 =>
  lnW S 1 v156 fun v157 =>
  biW .eql v154 v157 fun v158 =>
  rtW [.tmp v158] QF S)
def C_law12_RulesStands_1 (QF : AEnd → Store → Prop) (v1 v3 v22 : AV) (S : Store) : Prop :=
  cnW v22 (rtW [.tmp v3] QF S)
  (ldW S 1 true v1 fun v25 =>
  caW PG S (.func (.func 13) [] []) [v25] (fun v26 S =>
  exW 0 v26 fun v27 =>
  exW 1 v26 fun v28 =>
  ldW S 1 true v1 fun v29 =>
  caW PG S (.func (.func 16) [] []) [v29] (fun v30 S =>
  bfW 3 v30 fun v7 =>
  faW 2 v7 fun v32 =>
  ldW S 1 false v32 fun v33 =>
  biW .eql v33 (.int .i64 0) fun v34 =>
  eqW true (false, [.bool]) v28 v34 fun v35 =>
  cnW v35 (rtW [.tmp (.bool false)] QF S)
  (ntW v28 fun v37 =>
  cnW v37 (lnW S 1 v27 fun v39 =>
  biW .eql v39 (.int .i64 0) fun v40 =>
  rtW [.tmp v40] QF S)
  (LoopP (fun r0 l S => C_law12_RulesStands_2 QF r0 (lget l 1) (lget l 5) (lget l 8) S) [(1, v1), (5, v27), (8, (.int .i64 0))] S))) (pqW QF)) (pqW QF))
def B_law12_RulesStands (QF : AEnd → Store → Prop) (v0 : AV) (S : Store) : Prop :=
  brW 1 v0 fun v1 =>
  caW PG S (.func (.func 11) [] []) [] (fun v14 S =>
  ldW S 1 true v1 fun v15 =>
  caW PG S (.func (.func 12) [] []) [v15, (.int .i64 80)] (fun v16 S =>
  ntW v14 fun v18 =>
  grW v18 false (ntW v16 fun v21 =>
  pkW v18 (.bool true) v21 fun v22 =>
  C_law12_RulesStands_1 QF v1 v14 v22 S)
  (pkW v18 (.bool true) undefA fun v22 =>
  C_law12_RulesStands_1 QF v1 v14 v22 S)) (pqW QF)) (pqW QF)
theorem w_law12_RulesStands {QF : AEnd → Store → Prop} {v0 : AV} {S : Store} (h : B_law12_RulesStands QF v0 S) : ACalls PG nr_law12_RulesStands [v0] S QF :=
  acalls_tf (F := tf_law12_RulesStands) (by kernel_rfl) rfl (by kernel_rfl) h

/-- concierge/conciergelaw12.RulesOrder -/
def tf_law12_RulesOrder : TFunc where
  n := 80
  args := 2
  res := [.tmp 4]
  code := .seq (.reg [i1 2 (.boxr 24 1 (.t 0)),
    i1 4 (.mov (.c (.bool false)))] [1, 2] []) (.seq (.reg [i1 12 (.call (.f 11) []),
    i1 5 (.mov (.t 12))] [1, 2, 5] []) (.seq (.reg [i1 13 (.load 1 true (.t 2)),
    i1 14 (.call (.f 12) [.t 13, .c (.int .i64 80)]),
    i1 6 (.mov (.t 14))] [1, 2, 5, 6] []) (.seq (.seq (.reg [i1 15 (.mov (.t 5)),
    i1 16 (.not (.t 15)),
    i1 17 (.mov (.t 16)),
    .grp 17 false [s1 18 (.mov (.t 6)), s1 19 (.not (.t 18))],
    i1 20 (.pick (.t 17) (.c (.bool true)) (.t 19)),
    i1 21 (.mov (.t 20)),
    .grp 21 false [s1 22 (.faddr 0 (.t 2)), s1 23 (.load 1 false (.t 22)), s1 24 (.len 1 (.t 23)), s1 25 (.bin .eql (.t 24) (.c (.int .i64 0)))],
    i1 26 (.pick (.t 21) (.c (.bool true)) (.t 25)),
    i1 27 (.mov (.t 26)),
    .grp 27 false [s1 28 (.mov (.t 1)), s1 29 (.bin .lss (.t 28) (.c (.int .i64 0)))],
    i1 30 (.pick (.t 27) (.c (.bool true)) (.t 29)),
    i1 31 (.mov (.t 30)),
    .grp 31 false [s1 32 (.mov (.t 1)), s1 33 (.faddr 0 (.t 2)), s1 34 (.load 1 false (.t 33)), s1 35 (.len 1 (.t 34)), s1 36 (.bin .geq (.t 32) (.t 35))],
    i1 37 (.pick (.t 31) (.c (.bool true)) (.t 36))] [1, 2, 5, 37] []) (.cond (.t 37) (.seq (.reg [i1 38 (.mov (.t 5)),
    i1 4 (.mov (.t 38))] [4] []) (.ret)) (.skip))) (.seq (.regd [s1 39 (.faddr 0 (.t 2)), s1 40 (.load 1 false (.t 39)), s1 41 (.mov (.t 1)), s1 42 (.slicl 2 (.t 40) (some (.t 41)) none), { d := some 43, o := .app 51 2 40 (.c (.nils)) (.t 42), x := [44] }, s1 44 (.faddr 0 (.t 2)), s1 45 (.load 1 false (.t 44)), s1 46 (.mov (.t 1)), s1 47 (.slicl 2 (.t 45) none (some (.t 46))), s1 48 (.app 51 2 40 (.t 43) (.t 47)), s1 49 (.build [.nils] [(0, 1, .t 48)]), s1 7 (.alloc 24 [.nils]), s0 (.store 1 (.t 7) (.t 49))] (.go 0 (.go 2 (.go 5 (.go 7 (.go 1 (.go 3 (.go 6 (.go 8 (.alt 4 (.alt 9 (.go 10 (.go 11 (.go 12 .done))) (.go 11 (.go 9 (.go 10 (.go 12 .done))))) (.go 11 (.go 4 (.go 9 (.go 10 (.go 12 .done)))))))))))))) [1, 2, 7] [7]) (.seq (.reg [i1 51 (.load 1 true (.t 2)),
    i1 52 (.call (.f 13) [.t 51]),
    i1 50 (.mov (.t 52)),
    i1 53 (.extr (.t 50) 0),
    i1 54 (.extr (.t 50) 1),
    i1 8 (.mov (.t 53)),
    i1 9 (.mov (.t 54))] [1, 7, 8, 9] []) (.seq (.reg [i1 56 (.load 1 true (.t 7)),
    i1 57 (.call (.f 13) [.t 56]),
    i1 55 (.mov (.t 57)),
    i1 58 (.extr (.t 55) 0),
    i1 59 (.extr (.t 55) 1),
    i1 10 (.mov (.t 58)),
    i1 11 (.mov (.t 59))] [1, 8, 9, 10, 11] []) (.seq (.seq (.reg [i1 60 (.mov (.t 9)),
    i1 61 (.mov (.t 11)),
    i1 62 (.eqp true (false, [.bool]) (.t 60) (.t 61)),
    i1 63 (.mov (.t 62)),
    .grp 63 false [s1 64 (.mov (.t 9)), s1 65 (.not (.t 64))],
    i1 66 (.pick (.t 63) (.c (.bool true)) (.t 65))] [1, 8, 9, 10, 11, 66] []) (.cond (.t 66) (.seq (.reg [i1 67 (.mov (.t 9)),
    i1 68 (.mov (.t 11)),
    i1 69 (.eqp false (false, [.bool]) (.t 67) (.t 68)),
    i1 4 (.mov (.t 69))] [4] []) (.ret)) (.skip))) (.seq (.regl [0, 1, 2, 4, 5, 6, 8, 3, 7, 9, 10] [i1 70 (.mov (.t 8)),
    i1 71 (.mov (.t 1)),
    i1 72 (.slicl 1 (.t 70) (some (.t 71)) none),
    i1 74 (.mov (.t 8)),
    i1 75 (.mov (.t 1)),
    i1 76 (.slicl 1 (.t 74) none (some (.t 75))),
    i1 78 (.mov (.t 10)),
    i1 73 (.app 48 1 24 (.c (.nils)) (.t 72)),
    i1 77 (.app 48 1 24 (.t 73) (.t 76)),
    i1 79 (.call (.f 15) [.t 77, .t 78]),
    i1 4 (.mov (.t 79))] [4] []) (.ret)))))))))
abbrev nr_law12_RulesOrder : Nat := 7
def C_law12_RulesOrder_6 (QF : AEnd → Store → Prop) (v1 v8 v9 v10 v11 v66 : AV) (S : Store) : Prop :=
  cnW v66 (eqW false (false, [.bool]) v9 v11 fun v69 =>
  rtW [.tmp v69] QF S)
  (slW 1 v8 (some v1) none fun v72 =>
  slW 1 v8 none (some v1) fun v76 =>
  apW S 48 1 24 (.nils) v72 fun v73 S =>
  apW S 48 1 24 v73 v76 fun v77 S =>
  caW PG S (.func (.func 15) [] []) [v77, v10] (fun v79 S =>
  rtW [.tmp v79] QF S) (pqW QF))
def C_law12_RulesOrder_5 (QF : AEnd → Store → Prop) (v1 v2 v7 : AV) (S : Store) : Prop :=
  fzW S v7 fun v7 S =>
  ldW S 1 true v2 fun v51 =>
  caW PG S (.func (.func 13) [] []) [v51] (fun v52 S =>
  exW 0 v52 fun v53 =>
  exW 1 v52 fun v54 =>
  ldW S 1 true v7 fun v56 =>
  caW PG S (.func (.func 13) [] []) [v56] (fun v57 S =>
  exW 0 v57 fun v58 =>
  exW 1 v57 fun v59 =>
  eqW true (false, [.bool]) v54 v59 fun v62 =>
  grW v62 false (ntW v54 fun v65 =>
  pkW v62 (.bool true) v65 fun v66 =>
  C_law12_RulesOrder_6 QF v1 v53 v54 v58 v59 v66 S)
  (pkW v62 (.bool true) undefA fun v66 =>
  C_law12_RulesOrder_6 QF v1 v53 v54 v58 v59 v66 S)) (pqW QF)) (pqW QF)
def C_law12_RulesOrder_4 (QF : AEnd → Store → Prop) (v1 v2 v5 v37 : AV) (S : Store) : Prop :=
  cnW v37 (rtW [.tmp v5] QF S)
  (faW 0 v2 fun v39 =>
  faW 0 v2 fun v44 =>
  ldW S 1 false v39 fun v40 =>
  slW 2 v40 (some v1) none fun v42 =>
  ldW S 1 false v44 fun v45 =>
  slW 2 v45 none (some v1) fun v47 =>
  (apW S 51 2 40 (.nils) v42 fun v43 S3 =>
  kpW [v44] S S3 (
  (apW S3 51 2 40 v43 v47 fun v48 S =>
  bdW [.nils] [(0, 1, v48)] fun v49 =>
  alW S 24 [.nils] fun v7 S =>
  stW S 1 v7 v49 fun S =>
  C_law12_RulesOrder_5 QF v1 v2 v7 S) ∧ (alW S3 24 [.nils] fun v7 S =>
  apW S 51 2 40 v43 v47 fun v48 S =>
  bdW [.nils] [(0, 1, v48)] fun v49 =>
  stW S 1 v7 v49 fun S =>
  C_law12_RulesOrder_5 QF v1 v2 v7 S))) ∧ (alW S 24 [.nils] fun v7 S =>
  apW S 51 2 40 (.nils) v42 fun v43 S4 =>
  kpW [v44] S S4 (
  apW S4 51 2 40 v43 v47 fun v48 S =>
  bdW [.nils] [(0, 1, v48)] fun v49 =>
  stW S 1 v7 v49 fun S =>
  C_law12_RulesOrder_5 QF v1 v2 v7 S)))
def C_law12_RulesOrder_3 (QF : AEnd → Store → Prop) (v1 v2 v5 v30 : AV) (S : Store) : Prop :=
  grW v30 false (faW 0 v2 fun v33 =>
  ldW S 1 false v33 fun v34 =>
  lnW S 1 v34 fun v35 =>
  biW .geq v1 v35 fun v36 =>
  pkW v30 (.bool true) v36 fun v37 =>
  C_law12_RulesOrder_4 QF v1 v2 v5 v37 S)
  (pkW v30 (.bool true) undefA fun v37 =>
  C_law12_RulesOrder_4 QF v1 v2 v5 v37 S)
def C_law12_RulesOrder_2 (QF : AEnd → Store → Prop) (v1 v2 v5 v26 : AV) (S : Store) : Prop :=
  grW v26 false (biW .lss v1 (.int .i64 0) fun v29 =>
  pkW v26 (.bool true) v29 fun v30 =>
  C_law12_RulesOrder_3 QF v1 v2 v5 v30 S)
  (pkW v26 (.bool true) undefA fun v30 =>
  C_law12_RulesOrder_3 QF v1 v2 v5 v30 S)
def C_law12_RulesOrder_1 (QF : AEnd → Store → Prop) (v1 v2 v5 v20 : AV) (S : Store) : Prop :=
  grW v20 false (faW 0 v2 fun v22 =>
  ldW S 1 false v22 fun v23 =>
  lnW S 1 v23 fun v24 =>
  biW .eql v24 (.int .i64 0) fun v25 =>
  pkW v20 (.bool true) v25 fun v26 =>
  C_law12_RulesOrder_2 QF v1 v2 v5 v26 S)
  (pkW v20 (.bool true) undefA fun v26 =>
  C_law12_RulesOrder_2 QF v1 v2 v5 v26 S)
def B_law12_RulesOrder (QF : AEnd → Store → Prop) (v0 v1 : AV) (S : Store) : Prop :=
  brW 1 v0 fun v2 =>
  caW PG S (.func (.func 11) [] []) [] (fun v12 S =>
  ldW S 1 true v2 fun v13 =>
  caW PG S (.func (.func 12) [] []) [v13, (.int .i64 80)] (fun v14 S =>
  ntW v12 fun v16 =>
  grW v16 false (ntW v14 fun v19 =>
  pkW v16 (.bool true) v19 fun v20 =>
  C_law12_RulesOrder_1 QF v1 v2 v12 v20 S)
  (pkW v16 (.bool true) undefA fun v20 =>
  C_law12_RulesOrder_1 QF v1 v2 v12 v20 S)) (pqW QF)) (pqW QF)
theorem w_law12_RulesOrder {QF : AEnd → Store → Prop} {v0 v1 : AV} {S : Store} (h : B_law12_RulesOrder QF v0 v1 S) : ACalls PG nr_law12_RulesOrder [v0, v1] S QF :=
  acalls_tf (F := tf_law12_RulesOrder) (by kernel_rfl) rfl (by kernel_rfl) h

/-- concierge/conciergelaw12.RulesMore -/
def tf_law12_RulesMore : TFunc where
  n := 96
  args := 1
  res := [.tmp 2]
  code := .seq (.reg [i1 1 (.boxr 24 1 (.t 0)),
    i1 2 (.mov (.c (.bool false)))] [1] []) (.seq (.reg [i1 12 (.call (.f 11) []),
    i1 3 (.mov (.t 12))] [1, 3] []) (.seq (.reg [i1 13 (.load 1 true (.t 1)),
    i1 14 (.call (.f 12) [.t 13, .c (.int .i64 80)]),
    i1 4 (.mov (.t 14))] [1, 3, 4] []) (.seq (.seq (.reg [i1 15 (.mov (.t 3)),
    i1 16 (.not (.t 15)),
    i1 17 (.mov (.t 16)),
    .grp 17 false [s1 18 (.mov (.t 4)), s1 19 (.not (.t 18))],
    i1 20 (.pick (.t 17) (.c (.bool true)) (.t 19)),
    i1 21 (.mov (.t 20)),
    .grp 21 false [s1 22 (.faddr 0 (.t 1)), s1 23 (.load 1 false (.t 22)), s1 24 (.len 1 (.t 23)), s1 25 (.bin .geq (.t 24) (.c (.int .i64 16)))],
    i1 26 (.pick (.t 21) (.c (.bool true)) (.t 25))] [1, 3, 26] []) (.cond (.t 26) (.seq (.reg [i1 27 (.mov (.t 3)),
    i1 2 (.mov (.t 27))] [2] []) (.ret)) (.skip))) (.seq (.seq (.reg [i1 5 (.mov (.c (.int .i64 0)))] [1, 5] []) (.block 0 (.loop [1, 5] (.seq (.seq (.reg [i1 28 (.mov (.t 5)),
    i1 29 (.faddr 0 (.t 1)),
    i1 30 (.load 1 false (.t 29)),
    i1 31 (.len 1 (.t 30)),
    i1 32 (.bin .lss (.t 28) (.t 31))] [1, 5, 32] []) (.cond (.t 32) (.skip) (.exit 0))) (.seq (.block 1 (.seq (.reg [i1 35 (.faddr 0 (.t 1)),
    i1 36 (.load 1 false (.t 35)),
    i1 37 (.mov (.t 5)),
    i1 38 (.iaddr 2 (.t 36) (.t 37)),
    i1 39 (.faddr 0 (.t 38)),
    i1 40 (.load 1 false (.t 39)),
    i1 41 (.bin .eql (.t 40) (.c (.str ⟨#[122, 122]⟩)))] [1, 5, 41] []) (.cond (.t 41) (.seq (.reg [i1 2 (.mov (.c (.bool true)))] [2] []) (.ret)) (.skip)))) (.reg [i1 33 (.mov (.t 5)),
    i1 34 (.bin .add (.t 33) (.c (.int .i64 1))),
    i1 5 (.mov (.t 34))] [1, 5] [])))))) (.seq (.reg [i1 43 (.load 1 true (.t 1)),
    i1 44 (.call (.f 13) [.t 43]),
    i1 42 (.mov (.t 44)),
    i1 45 (.extr (.t 42) 0),
    i1 46 (.extr (.t 42) 1),
    i1 6 (.mov (.t 45)),
    i1 7 (.mov (.t 46))] [1, 6, 7] []) (.seq (.reg [i1 47 (.faddr 0 (.t 1)),
    i1 48 (.load 1 false (.t 47)),
    i1 49 (.app 51 2 40 (.c (.nils)) (.t 48)),
    i1 50 (.build [.str ⟨#[]⟩, .str ⟨#[]⟩] [(0, 1, .c (.str ⟨#[122, 122]⟩))]),
    i1 51 (.bslicr 53 2 [.t 50]),
    i1 52 (.build [.str ⟨#[]⟩, .nils, .int .i64 0, .str ⟨#[]⟩, .str ⟨#[]⟩, .nils] [(0, 1, .c (.str ⟨#[114]⟩)), (1, 1, .t 51)]),
    i1 53 (.bslicr 43 6 [.t 52]),
    i1 54 (.build [.str ⟨#[]⟩, .nils] [(0, 1, .c (.str ⟨#[122, 122]⟩)), (1, 1, .t 53)]),
    i1 55 (.bslicr 51 2 [.t 54]),
    i1 56 (.app 51 2 40 (.t 49) (.t 55)),
    i1 57 (.build [.nils] [(0, 1, .t 56)]),
    .box2 8 24 [.nils] 1 (.t 57)] [1, 6, 7, 8] []) (.seq (.reg [i1 59 (.load 1 true (.t 8)),
    i1 60 (.call (.f 13) [.t 59]),
    i1 58 (.mov (.t 60)),
    i1 61 (.extr (.t 58) 0),
    i1 62 (.extr (.t 58) 1),
    i1 9 (.mov (.t 61)),
    i1 10 (.mov (.t 62))] [1, 6, 7, 9, 10] []) (.seq (.seq (.reg [i1 63 (.mov (.t 7)),
    i1 64 (.not (.t 63))] [1, 6, 9, 10, 64] []) (.cond (.t 64) (.seq (.reg [i1 65 (.load 1 true (.t 1)),
    i1 66 (.call (.f 17) [.t 65]),
    .box2 11 33 [.int .i64 0, .int .i64 0, .int .i64 0] 3 (.t 66)] [10, 11] []) (.seq (.reg [i1 67 (.mov (.t 10)),
    i1 68 (.not (.t 67)),
    i1 69 (.mov (.t 68)),
    .grp 69 false [s1 70 (.faddr 2 (.t 11)), s1 71 (.load 1 false (.t 70)), s1 72 (.bin .eql (.t 71) (.c (.int .i64 1)))],
    i1 73 (.pick (.t 69) (.c (.bool true)) (.t 72)),
    i1 74 (.mov (.t 73)),
    .grp 74 false [s1 75 (.faddr 2 (.t 11)), s1 76 (.load 1 false (.t 75)), s1 77 (.bin .eql (.t 76) (.c (.int .i64 6)))],
    i1 78 (.pick (.t 74) (.c (.bool true)) (.t 77)),
    i1 2 (.mov (.t 78))] [2] []) (.ret))) (.skip))) (.seq (.reg [i1 79 (.mov (.t 10)),
    i1 80 (.mov (.t 79)),
    .grp 80 true [s1 81 (.mov (.t 9)), s1 82 (.len 1 (.t 81)), s1 83 (.mov (.t 6)), s1 84 (.len 1 (.t 83)), s1 85 (.bin .add (.t 84) (.c (.int .i64 1))), s1 86 (.bin .eql (.t 82) (.t 85))],
    i1 87 (.pick (.t 80) (.t 86) (.c (.bool false))),
    i1 88 (.mov (.t 87)),
    .grp 88 true [s1 89 (.mov (.t 9)), s1 90 (.mov (.t 6)), s1 91 (.len 1 (.t 90)), s1 92 (.slicl 1 (.t 89) none (some (.t 91))), s1 93 (.mov (.t 6)), s1 94 (.call (.f 15) [.t 92, .t 93])],
    i1 95 (.pick (.t 88) (.t 94) (.c (.bool false))),
    i1 2 (.mov (.t 95))] [2] []) (.ret))))))))))
abbrev nr_law12_RulesMore : Nat := 8
def C_law12_RulesMore_5 (QF : AEnd → Store → Prop) (v11 v73 : AV) (S : Store) : Prop :=
  grW v73 false (faW 2 v11 fun v75 =>
  ldW S 1 false v75 fun v76 =>
  biW .eql v76 (.int .i64 6) fun v77 =>
  pkW v73 (.bool true) v77 fun v78 =>
  rtW [.tmp v78] QF S)
  (pkW v73 (.bool true) undefA fun v78 =>
  rtW [.tmp v78] QF S)
def C_law12_RulesMore_4 (QF : AEnd → Store → Prop) (v6 v9 v87 : AV) (S : Store) : Prop :=
  grW v87 true (lnW S 1 v6 fun v91 =>
  slW 1 v9 none (some v91) fun v92 =>
  caW PG S (.func (.func 15) [] []) [v92, v6] (fun v94 S =>
  pkW v87 v94 (.bool false) fun v95 =>
  rtW [.tmp v95] QF S) (pqW QF))
  (pkW v87 undefA (.bool false) fun v95 =>
  rtW [.tmp v95] QF S)
def C_law12_RulesMore_3 (QF : AEnd → Store → Prop) (r0 : LE → Store → Prop) (v1 v5 : AV) (S : Store) : Prop :=
  faW 0 v1 fun v29 =>
  ldW S 1 false v29 fun v30 =>
  lnW S 1 v30 fun v31 =>
  biW .lss v5 v31 fun v32 =>
  cnW v32 (faW 0 v1 fun v35 =>
  ldW S 1 false v35 fun v36 =>
  iaW 2 v36 v5 fun v38 =>
  faW 0 v38 fun v39 =>
  ldW S 1 false v39 fun v40 =>
  biW .eql v40 (.str ⟨#[122, 122]⟩) fun v41 =>
  cnW v41 (rtW [.tmp (.bool true)] QF S)
  (biW .add v5 (.int .i64 1) fun v34 =>
  rcW r0 [(1, v1), (5, v34)] S))
  (ldW S 1 true v1 fun v43 =>
  caW PG S (.func (.func 13) [] []) [v43] (fun v44 S =>
  exW 0 v44 fun v45 =>
  exW 1 v44 fun v46 =>
  faW 0 v1 fun v47 =>
  ldW S 1 false v47 fun v48 =>
  apW S 51 2 40 (.nils) v48 fun v49 S =>
  bdW [.str ⟨#[]⟩, .str ⟨#[]⟩] [(0, 1, (.str ⟨#[122, 122]⟩))] fun v50 =>
  srW 2 [v50] fun v51 =>
  bdW [.str ⟨#[]⟩, .nils, .int .i64 0, .str ⟨#[]⟩, .str ⟨#[]⟩, .nils] [(0, 1, (.str ⟨#[114]⟩)), (1, 1, v51)] fun v52 =>
  srW 6 [v52] fun v53 =>
  bdW [.str ⟨#[]⟩, .nils] [(0, 1, (.str ⟨#[122, 122]⟩)), (1, 1, v53)] fun v54 =>
  srW 2 [v54] fun v55 =>
  apW S 51 2 40 v49 v55 fun v56 S =>
  bdW [.nils] [(0, 1, v56)] fun v57 =>
  bfW 1 v57 fun v8 =>
  ldW S 1 true v8 fun v59 =>
  caW PG S (.func (.func 13) [] []) [v59] (fun v60 S =>
  exW 0 v60 fun v61 =>
  exW 1 v60 fun v62 =>
  ntW v46 fun v64 =>
  cnW v64 (ldW S 1 true v1 fun v65 =>
  caW PG S (.func (.func 17) [] []) [v65] (fun v66 S =>
  bfW 3 v66 fun v11 =>
  ntW v62 fun v68 =>
  grW v68 false (faW 2 v11 fun v70 =>
  ldW S 1 false v70 fun v71 =>
  biW .eql v71 (.int .i64 1) fun v72 =>
  pkW v68 (.bool true) v72 fun v73 =>
  C_law12_RulesMore_5 QF v11 v73 S)
  (pkW v68 (.bool true) undefA fun v73 =>
  C_law12_RulesMore_5 QF v11 v73 S)) (pqW QF))
  (grW v62 true (lnW S 1 v61 fun v82 =>
  lnW S 1 v45 fun v84 =>
  biW .add v84 (.int .i64 1) fun v85 =>
  biW .eql v82 v85 fun v86 =>
  pkW v62 v86 (.bool false) fun v87 =>
  C_law12_RulesMore_4 QF v45 v61 v87 S)
  (pkW v62 undefA (.bool false) fun v87 =>
  C_law12_RulesMore_4 QF v45 v61 v87 S))) (pqW QF)) (pqW QF))
def C_law12_RulesMore_2 (QF : AEnd → Store → Prop) (v1 v3 v26 : AV) (S : Store) : Prop :=
  cnW v26 (rtW [.tmp v3] QF S)
  (LoopP (fun r0 l S => C_law12_RulesMore_3 QF r0 (lget l 1) (lget l 5) S) [(1, v1), (5, (.int .i64 0))] S)
def C_law12_RulesMore_1 (QF : AEnd → Store → Prop) (v1 v3 v20 : AV) (S : Store) : Prop :=
  grW v20 false (faW 0 v1 fun v22 =>
  ldW S 1 false v22 fun v23 =>
  lnW S 1 v23 fun v24 =>
  biW .geq v24 (.int .i64 16) fun v25 =>
  pkW v20 (.bool true) v25 fun v26 =>
  C_law12_RulesMore_2 QF v1 v3 v26 S)
  (pkW v20 (.bool true) undefA fun v26 =>
  C_law12_RulesMore_2 QF v1 v3 v26 S)
def B_law12_RulesMore (QF : AEnd → Store → Prop) (v0 : AV) (S : Store) : Prop :=
  brW 1 v0 fun v1 =>
  caW PG S (.func (.func 11) [] []) [] (fun v12 S =>
  ldW S 1 true v1 fun v13 =>
  caW PG S (.func (.func 12) [] []) [v13, (.int .i64 80)] (fun v14 S =>
  ntW v12 fun v16 =>
  grW v16 false (ntW v14 fun v19 =>
  pkW v16 (.bool true) v19 fun v20 =>
  C_law12_RulesMore_1 QF v1 v12 v20 S)
  (pkW v16 (.bool true) undefA fun v20 =>
  C_law12_RulesMore_1 QF v1 v12 v20 S)) (pqW QF)) (pqW QF)
theorem w_law12_RulesMore {QF : AEnd → Store → Prop} {v0 : AV} {S : Store} (h : B_law12_RulesMore QF v0 S) : ACalls PG nr_law12_RulesMore [v0] S QF :=
  acalls_tf (F := tf_law12_RulesMore) (by kernel_rfl) rfl (by kernel_rfl) h

/-- concierge/conciergelaw15.EngineBudget -/
def tf_law15_EngineBudget : TFunc where
  n := 112
  args := 7
  res := [.tmp 14]
  code := .seq (.reg [i1 7 (.boxr 24 1 (.t 0)),
    i1 9 (.boxr 56 2 (.t 2)),
    i1 11 (.boxr 56 2 (.t 4)),
    i1 14 (.mov (.c (.bool false)))] [1, 3, 5, 6, 7, 9, 11] []) (.seq (.reg [i1 26 (.call (.f 22) []),
    i1 15 (.mov (.t 26))] [1, 3, 5, 6, 7, 9, 11, 15] []) (.seq (.reg [i1 27 (.load 1 true (.t 7)),
    i1 28 (.mov (.t 1)),
    i1 29 (.call (.f 23) [.t 27, .t 28]),
    i1 16 (.mov (.t 29))] [1, 3, 5, 6, 7, 9, 11, 15, 16] []) (.seq (.seq (.reg [i1 30 (.mov (.t 15)),
    i1 31 (.not (.t 30)),
    i1 32 (.mov (.t 31)),
    .grp 32 false [s1 33 (.mov (.t 16)), s1 34 (.not (.t 33))],
    i1 35 (.pick (.t 32) (.c (.bool true)) (.t 34)),
    i1 36 (.mov (.t 35)),
    .grp 36 false [s1 37 (.mov (.t 5)), s1 38 (.bin .gtr (.t 37) (.c (.int .i64 2000)))],
    i1 39 (.pick (.t 36) (.c (.bool true)) (.t 38)),
    i1 40 (.mov (.t 39)),
    .grp 40 false [s1 41 (.mov (.t 6)), s1 42 (.bin .lss (.t 41) (.c (.int .i64 0)))],
    i1 43 (.pick (.t 40) (.c (.bool true)) (.t 42)),
    i1 44 (.mov (.t 43)),
    .grp 44 false [s1 45 (.mov (.t 6)), s1 46 (.bin .gtr (.t 45) (.c (.int .i64 2000)))],
    i1 47 (.pick (.t 44) (.c (.bool true)) (.t 46))] [1, 3, 5, 6, 7, 9, 11, 15, 47] []) (.cond (.t 47) (.seq (.reg [i1 48 (.mov (.t 15)),
    i1 14 (.mov (.t 48))] [14] []) (.ret)) (.skip))) (.seq (.reg [i1 50 (.load 1 true (.t 7)),
    i1 51 (.mov (.t 1)),
    i1 52 (.load 2 true (.t 9)),
    i1 53 (.mov (.t 3)),
    i1 54 (.load 2 true (.t 11)),
    i1 55 (.mov (.t 5)),
    i1 56 (.call (.f 24) [.t 50, .t 51, .t 52, .t 53, .t 54, .t 55]),
    i1 49 (.mov (.t 56)),
    i1 57 (.extr (.t 49) 0),
    i1 58 (.extr (.t 49) 1),
    i1 59 (.extr (.t 49) 2),
    i1 17 (.mov (.t 57)),
    i1 18 (.mov (.t 58)),
    i1 19 (.mov (.t 59))] [1, 3, 5, 6, 7, 9, 11, 17, 18, 19] []) (.seq (.seq (.reg [i1 60 (.mov (.t 19)),
    i1 61 (.bin .neq (.t 60) (.c (.int .i64 0)))] [1, 3, 5, 6, 7, 9, 11, 17, 18, 61] []) (.cond (.t 61) (.seq (.reg [i1 14 (.mov (.c (.bool true)))] [14] []) (.ret)) (.skip))) (.seq (.reg [i1 63 (.load 1 true (.t 7)),
    i1 64 (.mov (.t 1)),
    i1 65 (.load 2 true (.t 9)),
    i1 66 (.mov (.t 3)),
    i1 67 (.load 2 true (.t 11)),
    i1 68 (.mov (.t 18)),
    i1 69 (.mov (.t 6)),
    i1 70 (.bin .add (.t 68) (.t 69)),
    i1 71 (.call (.f 24) [.t 63, .t 64, .t 65, .t 66, .t 67, .t 70]),
    i1 62 (.mov (.t 71)),
    i1 72 (.extr (.t 62) 0),
    i1 73 (.extr (.t 62) 1),
    i1 74 (.extr (.t 62) 2),
    i1 20 (.mov (.t 72)),
    i1 21 (.mov (.t 73)),
    i1 22 (.mov (.t 74))] [1, 3, 5, 7, 9, 11, 17, 18, 20, 21, 22] []) (.seq (.reg [i1 76 (.load 1 true (.t 7)),
    i1 77 (.mov (.t 1)),
    i1 78 (.load 2 true (.t 9)),
    i1 79 (.mov (.t 3)),
    i1 80 (.load 2 true (.t 11)),
    i1 81 (.mov (.t 18)),
    i1 82 (.bin .sub (.t 81) (.c (.int .i64 1))),
    i1 83 (.call (.f 24) [.t 76, .t 77, .t 78, .t 79, .t 80, .t 82]),
    i1 75 (.mov (.t 83)),
    i1 84 (.extr (.t 75) 0),
    i1 85 (.extr (.t 75) 1),
    i1 86 (.extr (.t 75) 2),
    i1 23 (.mov (.t 84)),
    i1 24 (.mov (.t 85)),
    i1 25 (.mov (.t 86))] [5, 17, 18, 20, 21, 22, 25] []) (.seq (.reg [i1 87 (.mov (.t 17)),
    i1 88 (.mov (.t 20)),
    i1 89 (.eqp false (false, [.bool]) (.t 87) (.t 88)),
    i1 90 (.mov (.t 89)),
    .grp 90 true [s1 91 (.mov (.t 18)), s1 92 (.mov (.t 21)), s1 93 (.bin .eql (.t 91) (.t 92))],
    i1 94 (.pick (.t 90) (.t 93) (.c (.bool false))),
    i1 95 (.mov (.t 94)),
    .grp 95 true [s1 96 (.mov (.t 22)), s1 97 (.bin .eql (.t 96) (.c (.int .i64 0)))],
    i1 98 (.pick (.t 95) (.t 97) (.c (.bool false))),
    i1 99 (.mov (.t 98)),
    .grp 99 true [s1 100 (.mov (.t 18)), s1 101 (.bin .geq (.t 100) (.c (.int .i64 1)))],
    i1 102 (.pick (.t 99) (.t 101) (.c (.bool false))),
    i1 103 (.mov (.t 102)),
    .grp 103 true [s1 104 (.mov (.t 18)), s1 105 (.mov (.t 5)), s1 106 (.bin .leq (.t 104) (.t 105))],
    i1 107 (.pick (.t 103) (.t 106) (.c (.bool false))),
    i1 108 (.mov (.t 107)),
    .grp 108 true [s1 109 (.mov (.t 25)), s1 110 (.bin .eql (.t 109) (.c (.int .i64 12)))],
    i1 111 (.pick (.t 108) (.t 110) (.c (.bool false))),
    i1 14 (.mov (.t 111))] [14] []) (.ret)))))))))
abbrev nr_law15_EngineBudget : Nat := 9
def C_law15_EngineBudget_8 (QF : AEnd → Store → Prop) (v25 v107 : AV) (S : Store) : Prop :=
  grW v107 true (biW .eql v25 (.int .i64 12) fun v110 =>
  pkW v107 v110 (.bool false) fun v111 =>
  rtW [.tmp v111] QF S)
  (pkW v107 undefA (.bool false) fun v111 =>
  rtW [.tmp v111] QF S)
def C_law15_EngineBudget_7 (QF : AEnd → Store → Prop) (v5 v18 v25 v102 : AV) (S : Store) : Prop :=
  grW v102 true (biW .leq v18 v5 fun v106 =>
  pkW v102 v106 (.bool false) fun v107 =>
  C_law15_EngineBudget_8 QF v25 v107 S)
  (pkW v102 undefA (.bool false) fun v107 =>
  C_law15_EngineBudget_8 QF v25 v107 S)
def C_law15_EngineBudget_6 (QF : AEnd → Store → Prop) (v5 v18 v25 v98 : AV) (S : Store) : Prop :=
  grW v98 true (biW .geq v18 (.int .i64 1) fun v101 =>
  pkW v98 v101 (.bool false) fun v102 =>
  C_law15_EngineBudget_7 QF v5 v18 v25 v102 S)
  (pkW v98 undefA (.bool false) fun v102 =>
  C_law15_EngineBudget_7 QF v5 v18 v25 v102 S)
def C_law15_EngineBudget_5 (QF : AEnd → Store → Prop) (v5 v18 v22 v25 v94 : AV) (S : Store) : Prop :=
  grW v94 true (biW .eql v22 (.int .i64 0) fun v97 =>
  pkW v94 v97 (.bool false) fun v98 =>
  C_law15_EngineBudget_6 QF v5 v18 v25 v98 S)
  (pkW v94 undefA (.bool false) fun v98 =>
  C_law15_EngineBudget_6 QF v5 v18 v25 v98 S)
def C_law15_EngineBudget_4 (QF : AEnd → Store → Prop) (v1 v3 v5 v6 v7 v9 v11 v15 v47 : AV) (S : Store) : Prop :=
  cnW v47 (rtW [.tmp v15] QF S)
  (ldW S 1 true v7 fun v50 =>
  ldW S 2 true v9 fun v52 =>
  ldW S 2 true v11 fun v54 =>
  caW PG S (.func (.func 24) [] []) [v50, v1, v52, v3, v54, v5] (fun v56 S =>
  exW 0 v56 fun v57 =>
  exW 1 v56 fun v58 =>
  exW 2 v56 fun v59 =>
  biW .neq v59 (.int .i64 0) fun v61 =>
  cnW v61 (rtW [.tmp (.bool true)] QF S)
  (ldW S 1 true v7 fun v63 =>
  ldW S 2 true v9 fun v65 =>
  ldW S 2 true v11 fun v67 =>
  biW .add v58 v6 fun v70 =>
  caW PG S (.func (.func 24) [] []) [v63, v1, v65, v3, v67, v70] (fun v71 S =>
  exW 0 v71 fun v72 =>
  exW 1 v71 fun v73 =>
  exW 2 v71 fun v74 =>
  ldW S 1 true v7 fun v76 =>
  ldW S 2 true v9 fun v78 =>
  ldW S 2 true v11 fun v80 =>
  biW .sub v58 (.int .i64 1) fun v82 =>
  caW PG S (.func (.func 24) [] []) [v76, v1, v78, v3, v80, v82] (fun v83 S =>
  exW 0 v83 fun v84 =>
  exW 1 v83 fun v85 =>
  exW 2 v83 fun v86 =>
  eqW false (false, [.bool]) v57 v72 fun v89 =>
  grW v89 true (biW .eql v58 v73 fun v93 =>
  pkW v89 v93 (.bool false) fun v94 =>
  C_law15_EngineBudget_5 QF v5 v58 v74 v86 v94 S)
  (pkW v89 undefA (.bool false) fun v94 =>
  C_law15_EngineBudget_5 QF v5 v58 v74 v86 v94 S)) (pqW QF)) (pqW QF))) (pqW QF))
def C_law15_EngineBudget_3 (QF : AEnd → Store → Prop) (v1 v3 v5 v6 v7 v9 v11 v15 v43 : AV) (S : Store) : Prop :=
  grW v43 false (biW .gtr v6 (.int .i64 2000) fun v46 =>
  pkW v43 (.bool true) v46 fun v47 =>
  C_law15_EngineBudget_4 QF v1 v3 v5 v6 v7 v9 v11 v15 v47 S)
  (pkW v43 (.bool true) undefA fun v47 =>
  C_law15_EngineBudget_4 QF v1 v3 v5 v6 v7 v9 v11 v15 v47 S)
def C_law15_EngineBudget_2 (QF : AEnd → Store → Prop) (v1 v3 v5 v6 v7 v9 v11 v15 v39 : AV) (S : Store) : Prop :=
  grW v39 false (biW .lss v6 (.int .i64 0) fun v42 =>
  pkW v39 (.bool true) v42 fun v43 =>
  C_law15_EngineBudget_3 QF v1 v3 v5 v6 v7 v9 v11 v15 v43 S)
  (pkW v39 (.bool true) undefA fun v43 =>
  C_law15_EngineBudget_3 QF v1 v3 v5 v6 v7 v9 v11 v15 v43 S)
def C_law15_EngineBudget_1 (QF : AEnd → Store → Prop) (v1 v3 v5 v6 v7 v9 v11 v15 v35 : AV) (S : Store) : Prop :=
  grW v35 false (biW .gtr v5 (.int .i64 2000) fun v38 =>
  pkW v35 (.bool true) v38 fun v39 =>
  C_law15_EngineBudget_2 QF v1 v3 v5 v6 v7 v9 v11 v15 v39 S)
  (pkW v35 (.bool true) undefA fun v39 =>
  C_law15_EngineBudget_2 QF v1 v3 v5 v6 v7 v9 v11 v15 v39 S)
def B_law15_EngineBudget (QF : AEnd → Store → Prop) (v0 v1 v2 v3 v4 v5 v6 : AV) (S : Store) : Prop :=
  brW 1 v0 fun v7 =>
  brW 2 v2 fun v9 =>
  brW 2 v4 fun v11 =>
  caW PG S (.func (.func 22) [] []) [] (fun v26 S =>
  ldW S 1 true v7 fun v27 =>
  caW PG S (.func (.func 23) [] []) [v27, v1] (fun v29 S =>
  ntW v26 fun v31 =>
  grW v31 false (ntW v29 fun v34 =>
  pkW v31 (.bool true) v34 fun v35 =>
  C_law15_EngineBudget_1 QF v1 v3 v5 v6 v7 v9 v11 v26 v35 S)
  (pkW v31 (.bool true) undefA fun v35 =>
  C_law15_EngineBudget_1 QF v1 v3 v5 v6 v7 v9 v11 v26 v35 S)) (pqW QF)) (pqW QF)
theorem w_law15_EngineBudget {QF : AEnd → Store → Prop} {v0 v1 v2 v3 v4 v5 v6 : AV} {S : Store} (h : B_law15_EngineBudget QF v0 v1 v2 v3 v4 v5 v6 S) : ACalls PG nr_law15_EngineBudget [v0, v1, v2, v3, v4, v5, v6] S QF :=
  acalls_tf (F := tf_law15_EngineBudget) (by kernel_rfl) rfl (by kernel_rfl) h

/-- concierge/conciergelaw15.EngineOrder -/
def tf_law15_EngineOrder : TFunc where
  n := 82
  args := 6
  res := [.tmp 12]
  code := .seq (.reg [i1 6 (.boxr 24 1 (.t 0)),
    i1 8 (.boxr 56 2 (.t 2)),
    i1 10 (.boxr 56 2 (.t 4)),
    i1 12 (.mov (.c (.bool false)))] [1, 3, 5, 6, 8, 10] []) (.seq (.reg [i1 22 (.call (.f 22) []),
    i1 13 (.mov (.t 22))] [1, 3, 5, 6, 8, 10, 13] []) (.seq (.reg [i1 23 (.load 1 true (.t 6)),
    i1 24 (.mov (.t 1)),
    i1 25 (.call (.f 23) [.t 23, .t 24]),
    i1 14 (.mov (.t 25))] [1, 3, 5, 6, 8, 10, 13, 14] []) (.seq (.seq (.reg [i1 26 (.mov (.t 13)),
    i1 27 (.not (.t 26)),
    i1 28 (.mov (.t 27)),
    .grp 28 false [s1 29 (.mov (.t 14)), s1 30 (.not (.t 29))],
    i1 31 (.pick (.t 28) (.c (.bool true)) (.t 30)),
    i1 32 (.mov (.t 31)),
    .grp 32 false [s1 33 (.mov (.t 5)), s1 34 (.bin .lss (.t 33) (.c (.int .i64 0)))],
    i1 35 (.pick (.t 32) (.c (.bool true)) (.t 34)),
    i1 36 (.mov (.t 35)),
    .grp 36 false [s1 37 (.mov (.t 5)), s1 38 (.mov (.t 1)), s1 39 (.len 1 (.t 38)), s1 40 (.bin .geq (.t 37) (.t 39))],
    i1 41 (.pick (.t 36) (.c (.bool true)) (.t 40))] [1, 3, 5, 6, 8, 10, 13, 41] []) (.cond (.t 41) (.seq (.reg [i1 42 (.mov (.t 13)),
    i1 12 (.mov (.t 42))] [12] []) (.ret)) (.skip))) (.seq (.regl [0, 1, 2, 4, 5, 6, 3, 7, 8] [i1 43 (.mov (.t 1)),
    i1 44 (.mov (.t 5)),
    i1 45 (.slicl 6 (.t 43) (some (.t 44)) none),
    i1 47 (.mov (.t 1)),
    i1 48 (.mov (.t 5)),
    i1 49 (.slicl 6 (.t 47) none (some (.t 48))),
    i1 46 (.app 95 6 96 (.c (.nils)) (.t 45)),
    i1 50 (.app 95 6 96 (.t 46) (.t 49)),
    i1 15 (.mov (.t 50))] [1, 3, 6, 8, 10, 15] []) (.seq (.reg [i1 52 (.load 1 true (.t 6)),
    i1 53 (.mov (.t 1)),
    i1 54 (.load 2 true (.t 8)),
    i1 55 (.mov (.t 3)),
    i1 56 (.load 2 true (.t 10)),
    i1 57 (.call (.f 24) [.t 52, .t 53, .t 54, .t 55, .t 56, .c (.int .i64 2000)]),
    i1 51 (.mov (.t 57)),
    i1 58 (.extr (.t 51) 0),
    i1 59 (.extr (.t 51) 1),
    i1 60 (.extr (.t 51) 2),
    i1 16 (.mov (.t 58)),
    i1 17 (.mov (.t 59)),
    i1 18 (.mov (.t 60))] [3, 6, 8, 10, 15, 16, 18] []) (.seq (.reg [i1 62 (.load 1 true (.t 6)),
    i1 63 (.mov (.t 15)),
    i1 64 (.load 2 true (.t 8)),
    i1 65 (.mov (.t 3)),
    i1 66 (.load 2 true (.t 10)),
    i1 67 (.call (.f 24) [.t 62, .t 63, .t 64, .t 65, .t 66, .c (.int .i64 2000)]),
    i1 61 (.mov (.t 67)),
    i1 68 (.extr (.t 61) 0),
    i1 69 (.extr (.t 61) 1),
    i1 70 (.extr (.t 61) 2),
    i1 19 (.mov (.t 68)),
    i1 20 (.mov (.t 69)),
    i1 21 (.mov (.t 70))] [16, 18, 19, 21] []) (.seq (.reg [i1 71 (.mov (.t 18)),
    i1 72 (.bin .neq (.t 71) (.c (.int .i64 0))),
    i1 73 (.mov (.t 72)),
    .grp 73 false [s1 74 (.mov (.t 21)), s1 75 (.bin .neq (.t 74) (.c (.int .i64 0)))],
    i1 76 (.pick (.t 73) (.c (.bool true)) (.t 75)),
    i1 77 (.mov (.t 76)),
    .grp 77 false [s1 78 (.mov (.t 16)), s1 79 (.mov (.t 19)), s1 80 (.eqp false (false, [.bool]) (.t 78) (.t 79))],
    i1 81 (.pick (.t 77) (.c (.bool true)) (.t 80)),
    i1 12 (.mov (.t 81))] [12] []) (.ret))))))))
abbrev nr_law15_EngineOrder : Nat := 10
def C_law15_EngineOrder_4 (QF : AEnd → Store → Prop) (v16 v19 v76 : AV) (S : Store) : Prop :=
  grW v76 false (eqW false (false, [.bool]) v16 v19 fun v80 =>
  pkW v76 (.bool true) v80 fun v81 =>
  rtW [.tmp v81] QF S)
  (pkW v76 (.bool true) undefA fun v81 =>
  rtW [.tmp v81] QF S)
def C_law15_EngineOrder_3 (QF : AEnd → Store → Prop) (v1 v3 v5 v6 v8 v10 v13 v41 : AV) (S : Store) : Prop :=
  cnW v41 (rtW [.tmp v13] QF S)
  (slW 6 v1 (some v5) none fun v45 =>
  slW 6 v1 none (some v5) fun v49 =>
  apW S 95 6 96 (.nils) v45 fun v46 S =>
  apW S 95 6 96 v46 v49 fun v50 S =>
  ldW S 1 true v6 fun v52 =>
  ldW S 2 true v8 fun v54 =>
  ldW S 2 true v10 fun v56 =>
  caW PG S (.func (.func 24) [] []) [v52, v1, v54, v3, v56, (.int .i64 2000)] (fun v57 S =>
  exW 0 v57 fun v58 =>
  exW 1 v57 fun v59 =>
  exW 2 v57 fun v60 =>
  ldW S 1 true v6 fun v62 =>
  ldW S 2 true v8 fun v64 =>
  ldW S 2 true v10 fun v66 =>
  caW PG S (.func (.func 24) [] []) [v62, v50, v64, v3, v66, (.int .i64 2000)] (fun v67 S =>
  exW 0 v67 fun v68 =>
  exW 1 v67 fun v69 =>
  exW 2 v67 fun v70 =>
  biW .neq v60 (.int .i64 0) fun v72 =>
  grW v72 false (biW .neq v70 (.int .i64 0) fun v75 =>
  pkW v72 (.bool true) v75 fun v76 =>
  C_law15_EngineOrder_4 QF v58 v68 v76 S)
  (pkW v72 (.bool true) undefA fun v76 =>
  C_law15_EngineOrder_4 QF v58 v68 v76 S)) (pqW QF)) (pqW QF))
def C_law15_EngineOrder_2 (QF : AEnd → Store → Prop) (v1 v3 v5 v6 v8 v10 v13 v35 : AV) (S : Store) : Prop :=
  grW v35 false (lnW S 1 v1 fun v39 =>
  biW .geq v5 v39 fun v40 =>
  pkW v35 (.bool true) v40 fun v41 =>
  C_law15_EngineOrder_3 QF v1 v3 v5 v6 v8 v10 v13 v41 S)
  (pkW v35 (.bool true) undefA fun v41 =>
  C_law15_EngineOrder_3 QF v1 v3 v5 v6 v8 v10 v13 v41 S)
def C_law15_EngineOrder_1 (QF : AEnd → Store → Prop) (v1 v3 v5 v6 v8 v10 v13 v31 : AV) (S : Store) : Prop :=
  grW v31 false (biW .lss v5 (.int .i64 0) fun v34 =>
  pkW v31 (.bool true) v34 fun v35 =>
  C_law15_EngineOrder_2 QF v1 v3 v5 v6 v8 v10 v13 v35 S)
  (pkW v31 (.bool true) undefA fun v35 =>
  C_law15_EngineOrder_2 QF v1 v3 v5 v6 v8 v10 v13 v35 S)
def B_law15_EngineOrder (QF : AEnd → Store → Prop) (v0 v1 v2 v3 v4 v5 : AV) (S : Store) : Prop :=
  brW 1 v0 fun v6 =>
  brW 2 v2 fun v8 =>
  brW 2 v4 fun v10 =>
  caW PG S (.func (.func 22) [] []) [] (fun v22 S =>
  ldW S 1 true v6 fun v23 =>
  caW PG S (.func (.func 23) [] []) [v23, v1] (fun v25 S =>
  ntW v22 fun v27 =>
  grW v27 false (ntW v25 fun v30 =>
  pkW v27 (.bool true) v30 fun v31 =>
  C_law15_EngineOrder_1 QF v1 v3 v5 v6 v8 v10 v22 v31 S)
  (pkW v27 (.bool true) undefA fun v31 =>
  C_law15_EngineOrder_1 QF v1 v3 v5 v6 v8 v10 v22 v31 S)) (pqW QF)) (pqW QF)
theorem w_law15_EngineOrder {QF : AEnd → Store → Prop} {v0 v1 v2 v3 v4 v5 : AV} {S : Store} (h : B_law15_EngineOrder QF v0 v1 v2 v3 v4 v5 S) : ACalls PG nr_law15_EngineOrder [v0, v1, v2, v3, v4, v5] S QF :=
  acalls_tf (F := tf_law15_EngineOrder) (by kernel_rfl) rfl (by kernel_rfl) h
end Go.HL
