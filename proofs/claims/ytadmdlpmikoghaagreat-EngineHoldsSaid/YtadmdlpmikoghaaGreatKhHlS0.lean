/- A part of a proof. -/
import Derived.Test.YtadmdlpmikoghaaGreatKhHlP
set_option maxRecDepth 100000
set_option linter.unusedVariables false
namespace Go.HL
def tf_law15_EngineHolds:TFunc where
  n:=56
  args:=6
  res:=[.tmp 12]
  code:=.seq (.reg [i1 6 (.boxr 24 1 (.t 0)),
    i1 8 (.boxr 27 2 (.t 2)),
    i1 10 (.boxr 27 2 (.t 4)),
    i1 12 (.mov (.c (.bool false)))] [1,3,5,6,8,10] []) (.seq (.reg [i1 18 (.call (.f 16) []),
    i1 13 (.mov (.t 18))] [1,3,5,6,8,10,13] []) (.seq (.reg [i1 19 (.load 1 true (.t 6)),
    i1 20 (.mov (.t 1)),
    i1 21 (.call (.f 17) [.t 19,.t 20]),
    i1 14 (.mov (.t 21))] [1,3,5,6,8,10,13,14] []) (.seq (.seq (.reg [i1 22 (.mov (.t 13)),
    i1 23 (.not (.t 22)),
    i1 24 (.mov (.t 23)),
    .grp 24 false [s1 25 (.mov (.t 14)),s1 26 (.not (.t 25))],
    i1 27 (.pick (.t 24) (.c (.bool true)) (.t 26)),
    i1 28 (.mov (.t 27)),
    .grp 28 false [s1 29 (.mov (.t 5)),s1 30 (.bin .gtr (.t 29) (.c (.int .i64 2000)))],
    i1 31 (.pick (.t 28) (.c (.bool true)) (.t 30))] [1,3,5,6,8,10,13,31] []) (.cond (.t 31) (.seq (.reg [i1 32 (.mov (.t 13)),
    i1 12 (.mov (.t 32))] [12] []) (.ret)) (.skip))) (.seq (.reg [i1 34 (.load 1 true (.t 6)),
    i1 35 (.mov (.t 1)),
    i1 36 (.load 2 true (.t 8)),
    i1 37 (.mov (.t 3)),
    i1 38 (.load 2 true (.t 10)),
    i1 39 (.mov (.t 5)),
    i1 40 (.call (.f 18) [.t 34,.t 35,.t 36,.t 37,.t 38,.t 39]),
    i1 33 (.mov (.t 40)),
    i1 41 (.extr (.t 33) 0),
    i1 42 (.extr (.t 33) 1),
    i1 43 (.extr (.t 33) 2),
    i1 15 (.mov (.t 41)),
    i1 16 (.mov (.t 42)),
    i1 17 (.mov (.t 43))] [1,3,6,8,10,15,17] []) (.seq (.reg [i1 44 (.mov (.t 17)),
    i1 45 (.bin .neq (.t 44) (.c (.int .i64 0))),
    i1 46 (.mov (.t 45)),
    .grp 46 false [s1 47 (.mov (.t 15)),s1 48 (.load 1 true (.t 6)),s1 49 (.mov (.t 1)),s1 50 (.load 2 true (.t 8)),s1 51 (.mov (.t 3)),s1 52 (.load 2 true (.t 10)),s1 53 (.call (.f 20) [.t 48,.t 49,.t 50,.t 51,.t 52]),s1 54 (.eqp false (false,[.bool]) (.t 47) (.t 53))],
    i1 55 (.pick (.t 46) (.c (.bool true)) (.t 54)),
    i1 12 (.mov (.t 55))] [12] []) (.ret))))))
abbrev nr_law15_EngineHolds:Nat:=4
def C_law15_EngineHolds_2 (QF:AEnd→Store→Prop) (v1 v3 v5 v6 v8 v10 v13 v31:AV) (S:Store):Prop:=
  cnW v31 (rtW [.tmp v13] QF S)
  (ldW S 1 true v6 fun v34=>
  ldW S 2 true v8 fun v36=>
  ldW S 2 true v10 fun v38=>
  caW PG S (.func (.func 18) [] []) [v34,v1,v36,v3,v38,v5] (fun v40 S=>
  exW 0 v40 fun v41=>
  exW 1 v40 fun v42=>
  exW 2 v40 fun v43=>
  biW .neq v43 (.int .i64 0) fun v45=>
  grW v45 false (ldW S 1 true v6 fun v48=>
  ldW S 2 true v8 fun v50=>
  ldW S 2 true v10 fun v52=>
  caW PG S (.func (.func 20) [] []) [v48,v1,v50,v3,v52] (fun v53 S=>
  eqW false (false,[.bool]) v41 v53 fun v54=>
  pkW v45 (.bool true) v54 fun v55=>
  rtW [.tmp v55] QF S) (pqW QF))
  (pkW v45 (.bool true) undefA fun v55=>
  rtW [.tmp v55] QF S)) (pqW QF))
def C_law15_EngineHolds_1 (QF:AEnd→Store→Prop) (v1 v3 v5 v6 v8 v10 v13 v27:AV) (S:Store):Prop:=
  grW v27 false (biW .gtr v5 (.int .i64 2000) fun v30=>
  pkW v27 (.bool true) v30 fun v31=>
  C_law15_EngineHolds_2 QF v1 v3 v5 v6 v8 v10 v13 v31 S)
  (pkW v27 (.bool true) undefA fun v31=>
  C_law15_EngineHolds_2 QF v1 v3 v5 v6 v8 v10 v13 v31 S)
def B_law15_EngineHolds (QF:AEnd→Store→Prop) (v0 v1 v2 v3 v4 v5:AV) (S:Store):Prop:=
  brW 1 v0 fun v6=>
  brW 2 v2 fun v8=>
  brW 2 v4 fun v10=>
  caW PG S (.func (.func 16) [] []) [] (fun v18 S=>
  ldW S 1 true v6 fun v19=>
  caW PG S (.func (.func 17) [] []) [v19,v1] (fun v21 S=>
  ntW v18 fun v23=>
  grW v23 false (ntW v21 fun v26=>
  pkW v23 (.bool true) v26 fun v27=>
  C_law15_EngineHolds_1 QF v1 v3 v5 v6 v8 v10 v18 v27 S)
  (pkW v23 (.bool true) undefA fun v27=>
  C_law15_EngineHolds_1 QF v1 v3 v5 v6 v8 v10 v18 v27 S)) (pqW QF)) (pqW QF)
theorem w_law15_EngineHolds {QF:AEnd→Store→Prop} {v0 v1 v2 v3 v4 v5:AV} {S:Store} (h:B_law15_EngineHolds QF v0 v1 v2 v3 v4 v5 S):ACalls PG nr_law15_EngineHolds [v0,v1,v2,v3,v4,v5] S QF:=
  acalls_tf (F:=tf_law15_EngineHolds) (by kernel_rfl) rfl (by kernel_rfl) h
end Go.HL
