/- A part of a proof. -/
import Derived.Test.YtadmdlpmikoghaaGreatKcHlP
set_option maxRecDepth 100000
set_option linter.unusedVariables false
namespace Go.HL
def tf_law15_EngineChecks:TFunc where
  n:=75
  args:=6
  res:=[.tmp 12]
  code:=.seq (.reg [i1 6 (.boxr 24 1 (.t 0)),
    i1 8 (.boxr 27 2 (.t 2)),
    i1 10 (.boxr 27 2 (.t 4)),
    i1 12 (.mov (.c (.bool false)))] [1,3,5,6,8,10] []) (.seq (.reg [i1 21 (.call (.f 16) []),
    i1 13 (.mov (.t 21))] [1,3,5,6,8,10,13] []) (.seq (.reg [i1 22 (.load 1 true (.t 6)),
    i1 23 (.mov (.t 1)),
    i1 24 (.call (.f 17) [.t 22,.t 23]),
    i1 14 (.mov (.t 24))] [1,3,5,6,8,10,13,14] []) (.seq (.seq (.reg [i1 25 (.mov (.t 13)),
    i1 26 (.not (.t 25)),
    i1 27 (.mov (.t 26)),
    .grp 27 false [s1 28 (.mov (.t 14)),s1 29 (.not (.t 28))],
    i1 30 (.pick (.t 27) (.c (.bool true)) (.t 29)),
    i1 31 (.mov (.t 30)),
    .grp 31 false [s1 32 (.mov (.t 5)),s1 33 (.bin .gtr (.t 32) (.c (.int .i64 2000))),s1 34 (.mov (.t 33))],
    .grp 34 true [s1 35 (.mov (.t 5)),s1 36 (.bin .leq (.t 35) (.c (.int .i64 100000)))],
    .grp 31 false [s1 37 (.pick (.t 34) (.t 36) (.c (.bool false)))],
    i1 38 (.pick (.t 31) (.c (.bool true)) (.t 37))] [1,3,5,6,8,10,13,38] []) (.cond (.t 38) (.seq (.reg [i1 39 (.mov (.t 13)),
    i1 12 (.mov (.t 39))] [12] []) (.ret)) (.skip))) (.seq (.reg [i1 41 (.load 1 true (.t 6)),
    i1 42 (.mov (.t 1)),
    i1 43 (.load 2 true (.t 8)),
    i1 44 (.mov (.t 3)),
    i1 45 (.load 2 true (.t 10)),
    i1 46 (.mov (.t 5)),
    i1 47 (.call (.f 18) [.t 41,.t 42,.t 43,.t 44,.t 45,.t 46]),
    i1 40 (.mov (.t 47)),
    i1 48 (.extr (.t 40) 0),
    i1 49 (.extr (.t 40) 1),
    i1 50 (.extr (.t 40) 2),
    i1 15 (.mov (.t 48)),
    i1 16 (.mov (.t 49)),
    i1 17 (.mov (.t 50))] [1,3,5,6,8,10,15,16,17] []) (.seq (.reg [i1 52 (.load 1 true (.t 6)),
    i1 53 (.mov (.t 1)),
    i1 54 (.load 2 true (.t 8)),
    i1 55 (.mov (.t 3)),
    i1 56 (.load 2 true (.t 10)),
    i1 57 (.mov (.t 5)),
    i1 58 (.call (.f 19) [.t 52,.t 53,.t 54,.t 55,.t 56,.t 57]),
    i1 51 (.mov (.t 58)),
    i1 59 (.extr (.t 51) 0),
    i1 60 (.extr (.t 51) 1),
    i1 61 (.extr (.t 51) 2),
    i1 18 (.mov (.t 59)),
    i1 19 (.mov (.t 60)),
    i1 20 (.mov (.t 61))] [15,16,17,18,19,20] []) (.seq (.reg [i1 62 (.mov (.t 15)),
    i1 63 (.mov (.t 18)),
    i1 64 (.eqp false (false,[.bool]) (.t 62) (.t 63)),
    i1 65 (.mov (.t 64)),
    .grp 65 true [s1 66 (.mov (.t 16)),s1 67 (.mov (.t 19)),s1 68 (.bin .eql (.t 66) (.t 67))],
    i1 69 (.pick (.t 65) (.t 68) (.c (.bool false))),
    i1 70 (.mov (.t 69)),
    .grp 70 true [s1 71 (.mov (.t 17)),s1 72 (.mov (.t 20)),s1 73 (.bin .eql (.t 71) (.t 72))],
    i1 74 (.pick (.t 70) (.t 73) (.c (.bool false))),
    i1 12 (.mov (.t 74))] [12] []) (.ret)))))))
abbrev nr_law15_EngineChecks:Nat:=3
def C_law15_EngineChecks_5 (QF:AEnd→Store→Prop) (v17 v20 v69:AV) (S:Store):Prop:=
  grW v69 true (biW .eql v17 v20 fun v73=>
  pkW v69 v73 (.bool false) fun v74=>
  rtW [.tmp v74] QF S)
  (pkW v69 undefA (.bool false) fun v74=>
  rtW [.tmp v74] QF S)
def C_law15_EngineChecks_4 (QF:AEnd→Store→Prop) (v1 v3 v5 v6 v8 v10 v13 v38:AV) (S:Store):Prop:=
  cnW v38 (rtW [.tmp v13] QF S)
  (ldW S 1 true v6 fun v41=>
  ldW S 2 true v8 fun v43=>
  ldW S 2 true v10 fun v45=>
  caW PG S (.func (.func 18) [] []) [v41,v1,v43,v3,v45,v5] (fun v47 S=>
  exW 0 v47 fun v48=>
  exW 1 v47 fun v49=>
  exW 2 v47 fun v50=>
  ldW S 1 true v6 fun v52=>
  ldW S 2 true v8 fun v54=>
  ldW S 2 true v10 fun v56=>
  caW PG S (.func (.func 19) [] []) [v52,v1,v54,v3,v56,v5] (fun v58 S=>
  exW 0 v58 fun v59=>
  exW 1 v58 fun v60=>
  exW 2 v58 fun v61=>
  eqW false (false,[.bool]) v48 v59 fun v64=>
  grW v64 true (biW .eql v49 v60 fun v68=>
  pkW v64 v68 (.bool false) fun v69=>
  C_law15_EngineChecks_5 QF v50 v61 v69 S)
  (pkW v64 undefA (.bool false) fun v69=>
  C_law15_EngineChecks_5 QF v50 v61 v69 S)) (pqW QF)) (pqW QF))
def C_law15_EngineChecks_3 (QF:AEnd→Store→Prop) (v1 v3 v5 v6 v8 v10 v13 v31 v34 v36:AV) (S:Store):Prop:=
  grW v31 false (pkW v34 v36 (.bool false) fun v37=>
  pkW v31 (.bool true) v37 fun v38=>
  C_law15_EngineChecks_4 QF v1 v3 v5 v6 v8 v10 v13 v38 S)
  (pkW v31 (.bool true) undefA fun v38=>
  C_law15_EngineChecks_4 QF v1 v3 v5 v6 v8 v10 v13 v38 S)
def C_law15_EngineChecks_2 (QF:AEnd→Store→Prop) (v1 v3 v5 v6 v8 v10 v13 v31 v34:AV) (S:Store):Prop:=
  grW v34 true (biW .leq v5 (.int .i64 100000) fun v36=>
  C_law15_EngineChecks_3 QF v1 v3 v5 v6 v8 v10 v13 v31 v34 v36 S)
  (C_law15_EngineChecks_3 QF v1 v3 v5 v6 v8 v10 v13 v31 v34 undefA S)
def C_law15_EngineChecks_1 (QF:AEnd→Store→Prop) (v1 v3 v5 v6 v8 v10 v13 v30:AV) (S:Store):Prop:=
  grW v30 false (biW .gtr v5 (.int .i64 2000) fun v33=>
  C_law15_EngineChecks_2 QF v1 v3 v5 v6 v8 v10 v13 v30 v33 S)
  (C_law15_EngineChecks_2 QF v1 v3 v5 v6 v8 v10 v13 v30 undefA S)
def B_law15_EngineChecks (QF:AEnd→Store→Prop) (v0 v1 v2 v3 v4 v5:AV) (S:Store):Prop:=
  brW 1 v0 fun v6=>
  brW 2 v2 fun v8=>
  brW 2 v4 fun v10=>
  caW PG S (.func (.func 16) [] []) [] (fun v21 S=>
  ldW S 1 true v6 fun v22=>
  caW PG S (.func (.func 17) [] []) [v22,v1] (fun v24 S=>
  ntW v21 fun v26=>
  grW v26 false (ntW v24 fun v29=>
  pkW v26 (.bool true) v29 fun v30=>
  C_law15_EngineChecks_1 QF v1 v3 v5 v6 v8 v10 v21 v30 S)
  (pkW v26 (.bool true) undefA fun v30=>
  C_law15_EngineChecks_1 QF v1 v3 v5 v6 v8 v10 v21 v30 S)) (pqW QF)) (pqW QF)
theorem w_law15_EngineChecks {QF:AEnd→Store→Prop} {v0 v1 v2 v3 v4 v5:AV} {S:Store} (h:B_law15_EngineChecks QF v0 v1 v2 v3 v4 v5 S):ACalls PG nr_law15_EngineChecks [v0,v1,v2,v3,v4,v5] S QF:=
  acalls_tf (F:=tf_law15_EngineChecks) (by kernel_rfl) rfl (by kernel_rfl) h
end Go.HL
