/- A part of a proof. -/
import Derived.Test.YtadmdlpmikoghaaKeHlP
set_option maxRecDepth 100000
set_option linter.unusedVariables false
namespace Go.HL
def tf_law15_EngineOrder : TFunc where
  n := 82
  args := 6
  res := [.tmp 12]
  code := .seq (.reg [i1 6 (.boxr 24 1 (.t 0)),
    i1 8 (.boxr 56 2 (.t 2)),
    i1 10 (.boxr 56 2 (.t 4)),
    i1 12 (.mov (.c (.bool false)))] [1, 3, 5, 6, 8, 10] []) (.seq (.reg [i1 22 (.call (.f 22) []),
    i1 13 (.mov (.t 22))] [1, 3, 5, 6, 8, 10, 13] []) (.seq (.reg [i1 23 (.load 1 true (.t 6)),
    i1 24 (.mov (.t 1)),
    i1 25 (.call (.f 23) [.t 23, .t 24]),
    i1 14 (.mov (.t 25))] [1, 3, 5, 6, 8, 10, 13, 14] []) (.seq (.seq (.reg [i1 26 (.mov (.t 13)),
    i1 27 (.not (.t 26)),
    i1 28 (.mov (.t 27)),
    .grp 28 false [s1 29 (.mov (.t 14)), s1 30 (.not (.t 29))],
    i1 31 (.pick (.t 28) (.c (.bool true)) (.t 30)),
    i1 32 (.mov (.t 31)),
    .grp 32 false [s1 33 (.mov (.t 5)), s1 34 (.bin .lss (.t 33) (.c (.int .i64 0)))],
    i1 35 (.pick (.t 32) (.c (.bool true)) (.t 34)),
    i1 36 (.mov (.t 35)),
    .grp 36 false [s1 37 (.mov (.t 5)), s1 38 (.mov (.t 1)), s1 39 (.len 1 (.t 38)), s1 40 (.bin .geq (.t 37) (.t 39))],
    i1 41 (.pick (.t 36) (.c (.bool true)) (.t 40))] [1, 3, 5, 6, 8, 10, 13, 41] []) (.cond (.t 41) (.seq (.reg [i1 42 (.mov (.t 13)),
    i1 12 (.mov (.t 42))] [12] []) (.ret)) (.skip))) (.seq (.regl [0, 1, 2, 4, 5, 6, 3, 7, 8] [i1 43 (.mov (.t 1)),
    i1 44 (.mov (.t 5)),
    i1 45 (.slicl 6 (.t 43) (some (.t 44)) none),
    i1 47 (.mov (.t 1)),
    i1 48 (.mov (.t 5)),
    i1 49 (.slicl 6 (.t 47) none (some (.t 48))),
    i1 46 (.app 95 6 96 (.c (.nils)) (.t 45)),
    i1 50 (.app 95 6 96 (.t 46) (.t 49)),
    i1 15 (.mov (.t 50))] [1, 3, 6, 8, 10, 15] []) (.seq (.reg [i1 52 (.load 1 true (.t 6)),
    i1 53 (.mov (.t 1)),
    i1 54 (.load 2 true (.t 8)),
    i1 55 (.mov (.t 3)),
    i1 56 (.load 2 true (.t 10)),
    i1 57 (.call (.f 24) [.t 52, .t 53, .t 54, .t 55, .t 56, .c (.int .i64 2000)]),
    i1 51 (.mov (.t 57)),
    i1 58 (.extr (.t 51) 0),
    i1 59 (.extr (.t 51) 1),
    i1 60 (.extr (.t 51) 2),
    i1 16 (.mov (.t 58)),
    i1 17 (.mov (.t 59)),
    i1 18 (.mov (.t 60))] [3, 6, 8, 10, 15, 16, 18] []) (.seq (.reg [i1 62 (.load 1 true (.t 6)),
    i1 63 (.mov (.t 15)),
    i1 64 (.load 2 true (.t 8)),
    i1 65 (.mov (.t 3)),
    i1 66 (.load 2 true (.t 10)),
    i1 67 (.call (.f 24) [.t 62, .t 63, .t 64, .t 65, .t 66, .c (.int .i64 2000)]),
    i1 61 (.mov (.t 67)),
    i1 68 (.extr (.t 61) 0),
    i1 69 (.extr (.t 61) 1),
    i1 70 (.extr (.t 61) 2),
    i1 19 (.mov (.t 68)),
    i1 20 (.mov (.t 69)),
    i1 21 (.mov (.t 70))] [16, 18, 19, 21] []) (.seq (.reg [i1 71 (.mov (.t 18)),
    i1 72 (.bin .neq (.t 71) (.c (.int .i64 0))),
    i1 73 (.mov (.t 72)),
    .grp 73 false [s1 74 (.mov (.t 21)), s1 75 (.bin .neq (.t 74) (.c (.int .i64 0)))],
    i1 76 (.pick (.t 73) (.c (.bool true)) (.t 75)),
    i1 77 (.mov (.t 76)),
    .grp 77 false [s1 78 (.mov (.t 16)), s1 79 (.mov (.t 19)), s1 80 (.eqp false (false, [.bool]) (.t 78) (.t 79))],
    i1 81 (.pick (.t 77) (.c (.bool true)) (.t 80)),
    i1 12 (.mov (.t 81))] [12] []) (.ret))))))))
abbrev nr_law15_EngineOrder : Nat := 10
def C_law15_EngineOrder_4 (QF : AEnd → Store → Prop) (v16 v19 v76 : AV) (S : Store) : Prop :=
  grW v76 false (eqW false (false, [.bool]) v16 v19 fun v80 =>
  pkW v76 (.bool true) v80 fun v81 =>
  rtW [.tmp v81] QF S)
  (pkW v76 (.bool true) undefA fun v81 =>
  rtW [.tmp v81] QF S)
def C_law15_EngineOrder_3 (QF : AEnd → Store → Prop) (v1 v3 v5 v6 v8 v10 v13 v41 : AV) (S : Store) : Prop :=
  cnW v41 (rtW [.tmp v13] QF S)
  (slW 6 v1 (some v5) none fun v45 =>
  slW 6 v1 none (some v5) fun v49 =>
  apW S 95 6 96 (.nils) v45 fun v46 S =>
  apW S 95 6 96 v46 v49 fun v50 S =>
  ldW S 1 true v6 fun v52 =>
  ldW S 2 true v8 fun v54 =>
  ldW S 2 true v10 fun v56 =>
  caW PG S (.func (.func 24) [] []) [v52, v1, v54, v3, v56, (.int .i64 2000)] (fun v57 S =>
  exW 0 v57 fun v58 =>
  exW 1 v57 fun v59 =>
  exW 2 v57 fun v60 =>
  ldW S 1 true v6 fun v62 =>
  ldW S 2 true v8 fun v64 =>
  ldW S 2 true v10 fun v66 =>
  caW PG S (.func (.func 24) [] []) [v62, v50, v64, v3, v66, (.int .i64 2000)] (fun v67 S =>
  exW 0 v67 fun v68 =>
  exW 1 v67 fun v69 =>
  exW 2 v67 fun v70 =>
  biW .neq v60 (.int .i64 0) fun v72 =>
  grW v72 false (biW .neq v70 (.int .i64 0) fun v75 =>
  pkW v72 (.bool true) v75 fun v76 =>
  C_law15_EngineOrder_4 QF v58 v68 v76 S)
  (pkW v72 (.bool true) undefA fun v76 =>
  C_law15_EngineOrder_4 QF v58 v68 v76 S)) (pqW QF)) (pqW QF))
def C_law15_EngineOrder_2 (QF : AEnd → Store → Prop) (v1 v3 v5 v6 v8 v10 v13 v35 : AV) (S : Store) : Prop :=
  grW v35 false (lnW S 1 v1 fun v39 =>
  biW .geq v5 v39 fun v40 =>
  pkW v35 (.bool true) v40 fun v41 =>
  C_law15_EngineOrder_3 QF v1 v3 v5 v6 v8 v10 v13 v41 S)
  (pkW v35 (.bool true) undefA fun v41 =>
  C_law15_EngineOrder_3 QF v1 v3 v5 v6 v8 v10 v13 v41 S)
def C_law15_EngineOrder_1 (QF : AEnd → Store → Prop) (v1 v3 v5 v6 v8 v10 v13 v31 : AV) (S : Store) : Prop :=
  grW v31 false (biW .lss v5 (.int .i64 0) fun v34 =>
  pkW v31 (.bool true) v34 fun v35 =>
  C_law15_EngineOrder_2 QF v1 v3 v5 v6 v8 v10 v13 v35 S)
  (pkW v31 (.bool true) undefA fun v35 =>
  C_law15_EngineOrder_2 QF v1 v3 v5 v6 v8 v10 v13 v35 S)
def B_law15_EngineOrder (QF : AEnd → Store → Prop) (v0 v1 v2 v3 v4 v5 : AV) (S : Store) : Prop :=
  brW 1 v0 fun v6 =>
  brW 2 v2 fun v8 =>
  brW 2 v4 fun v10 =>
  caW PG S (.func (.func 22) [] []) [] (fun v22 S =>
  ldW S 1 true v6 fun v23 =>
  caW PG S (.func (.func 23) [] []) [v23, v1] (fun v25 S =>
  ntW v22 fun v27 =>
  grW v27 false (ntW v25 fun v30 =>
  pkW v27 (.bool true) v30 fun v31 =>
  C_law15_EngineOrder_1 QF v1 v3 v5 v6 v8 v10 v22 v31 S)
  (pkW v27 (.bool true) undefA fun v31 =>
  C_law15_EngineOrder_1 QF v1 v3 v5 v6 v8 v10 v22 v31 S)) (pqW QF)) (pqW QF)
theorem w_law15_EngineOrder {QF : AEnd → Store → Prop} {v0 v1 v2 v3 v4 v5 : AV} {S : Store} (h : B_law15_EngineOrder QF v0 v1 v2 v3 v4 v5 S) : ACalls PG nr_law15_EngineOrder [v0, v1, v2, v3, v4, v5] S QF :=
  acalls_tf (F := tf_law15_EngineOrder) (by kernel_rfl) rfl (by kernel_rfl) h
end Go.HL
