/- A part of a proof. -/
import Derived.Test.YtadmdlpmikoghaaKoHlP
set_option maxRecDepth 100000
set_option linter.unusedVariables false
namespace Go.HL
def tf_law12_RulesOrder : TFunc where
  n := 80
  args := 2
  res := [.tmp 4]
  code := .seq (.reg [i1 2 (.boxr 24 1 (.t 0)),
    i1 4 (.mov (.c (.bool false)))] [1, 2] []) (.seq (.reg [i1 12 (.call (.f 11) []),
    i1 5 (.mov (.t 12))] [1, 2, 5] []) (.seq (.reg [i1 13 (.load 1 true (.t 2)),
    i1 14 (.call (.f 12) [.t 13, .c (.int .i64 80)]),
    i1 6 (.mov (.t 14))] [1, 2, 5, 6] []) (.seq (.seq (.reg [i1 15 (.mov (.t 5)),
    i1 16 (.not (.t 15)),
    i1 17 (.mov (.t 16)),
    .grp 17 false [s1 18 (.mov (.t 6)), s1 19 (.not (.t 18))],
    i1 20 (.pick (.t 17) (.c (.bool true)) (.t 19)),
    i1 21 (.mov (.t 20)),
    .grp 21 false [s1 22 (.faddr 0 (.t 2)), s1 23 (.load 1 false (.t 22)), s1 24 (.len 1 (.t 23)), s1 25 (.bin .eql (.t 24) (.c (.int .i64 0)))],
    i1 26 (.pick (.t 21) (.c (.bool true)) (.t 25)),
    i1 27 (.mov (.t 26)),
    .grp 27 false [s1 28 (.mov (.t 1)), s1 29 (.bin .lss (.t 28) (.c (.int .i64 0)))],
    i1 30 (.pick (.t 27) (.c (.bool true)) (.t 29)),
    i1 31 (.mov (.t 30)),
    .grp 31 false [s1 32 (.mov (.t 1)), s1 33 (.faddr 0 (.t 2)), s1 34 (.load 1 false (.t 33)), s1 35 (.len 1 (.t 34)), s1 36 (.bin .geq (.t 32) (.t 35))],
    i1 37 (.pick (.t 31) (.c (.bool true)) (.t 36))] [1, 2, 5, 37] []) (.cond (.t 37) (.seq (.reg [i1 38 (.mov (.t 5)),
    i1 4 (.mov (.t 38))] [4] []) (.ret)) (.skip))) (.seq (.regd [s1 39 (.faddr 0 (.t 2)), s1 40 (.load 1 false (.t 39)), s1 41 (.mov (.t 1)), s1 42 (.slicl 2 (.t 40) (some (.t 41)) none), { d := some 43, o := .app 51 2 40 (.c (.nils)) (.t 42), x := [44] }, s1 44 (.faddr 0 (.t 2)), s1 45 (.load 1 false (.t 44)), s1 46 (.mov (.t 1)), s1 47 (.slicl 2 (.t 45) none (some (.t 46))), s1 48 (.app 51 2 40 (.t 43) (.t 47)), s1 49 (.build [.nils] [(0, 1, .t 48)]), s1 7 (.alloc 24 [.nils]), s0 (.store 1 (.t 7) (.t 49))] (.go 0 (.go 2 (.go 5 (.go 7 (.go 1 (.go 3 (.go 6 (.go 8 (.alt 4 (.alt 9 (.go 10 (.go 11 (.go 12 .done))) (.go 11 (.go 9 (.go 10 (.go 12 .done))))) (.go 11 (.go 4 (.go 9 (.go 10 (.go 12 .done)))))))))))))) [1, 2, 7] [7]) (.seq (.reg [i1 51 (.load 1 true (.t 2)),
    i1 52 (.call (.f 13) [.t 51]),
    i1 50 (.mov (.t 52)),
    i1 53 (.extr (.t 50) 0),
    i1 54 (.extr (.t 50) 1),
    i1 8 (.mov (.t 53)),
    i1 9 (.mov (.t 54))] [1, 7, 8, 9] []) (.seq (.reg [i1 56 (.load 1 true (.t 7)),
    i1 57 (.call (.f 13) [.t 56]),
    i1 55 (.mov (.t 57)),
    i1 58 (.extr (.t 55) 0),
    i1 59 (.extr (.t 55) 1),
    i1 10 (.mov (.t 58)),
    i1 11 (.mov (.t 59))] [1, 8, 9, 10, 11] []) (.seq (.seq (.reg [i1 60 (.mov (.t 9)),
    i1 61 (.mov (.t 11)),
    i1 62 (.eqp true (false, [.bool]) (.t 60) (.t 61)),
    i1 63 (.mov (.t 62)),
    .grp 63 false [s1 64 (.mov (.t 9)), s1 65 (.not (.t 64))],
    i1 66 (.pick (.t 63) (.c (.bool true)) (.t 65))] [1, 8, 9, 10, 11, 66] []) (.cond (.t 66) (.seq (.reg [i1 67 (.mov (.t 9)),
    i1 68 (.mov (.t 11)),
    i1 69 (.eqp false (false, [.bool]) (.t 67) (.t 68)),
    i1 4 (.mov (.t 69))] [4] []) (.ret)) (.skip))) (.seq (.regl [0, 1, 2, 4, 5, 6, 8, 3, 7, 9, 10] [i1 70 (.mov (.t 8)),
    i1 71 (.mov (.t 1)),
    i1 72 (.slicl 1 (.t 70) (some (.t 71)) none),
    i1 74 (.mov (.t 8)),
    i1 75 (.mov (.t 1)),
    i1 76 (.slicl 1 (.t 74) none (some (.t 75))),
    i1 78 (.mov (.t 10)),
    i1 73 (.app 48 1 24 (.c (.nils)) (.t 72)),
    i1 77 (.app 48 1 24 (.t 73) (.t 76)),
    i1 79 (.call (.f 15) [.t 77, .t 78]),
    i1 4 (.mov (.t 79))] [4] []) (.ret)))))))))
abbrev nr_law12_RulesOrder : Nat := 7
def C_law12_RulesOrder_6 (QF : AEnd → Store → Prop) (v1 v8 v9 v10 v11 v66 : AV) (S : Store) : Prop :=
  cnW v66 (eqW false (false, [.bool]) v9 v11 fun v69 =>
  rtW [.tmp v69] QF S)
  (slW 1 v8 (some v1) none fun v72 =>
  slW 1 v8 none (some v1) fun v76 =>
  apW S 48 1 24 (.nils) v72 fun v73 S =>
  apW S 48 1 24 v73 v76 fun v77 S =>
  caW PG S (.func (.func 15) [] []) [v77, v10] (fun v79 S =>
  rtW [.tmp v79] QF S) (pqW QF))
def C_law12_RulesOrder_5 (QF : AEnd → Store → Prop) (v1 v2 v7 : AV) (S : Store) : Prop :=
  fzW S v7 fun v7 S =>
  ldW S 1 true v2 fun v51 =>
  caW PG S (.func (.func 13) [] []) [v51] (fun v52 S =>
  exW 0 v52 fun v53 =>
  exW 1 v52 fun v54 =>
  ldW S 1 true v7 fun v56 =>
  caW PG S (.func (.func 13) [] []) [v56] (fun v57 S =>
  exW 0 v57 fun v58 =>
  exW 1 v57 fun v59 =>
  eqW true (false, [.bool]) v54 v59 fun v62 =>
  grW v62 false (ntW v54 fun v65 =>
  pkW v62 (.bool true) v65 fun v66 =>
  C_law12_RulesOrder_6 QF v1 v53 v54 v58 v59 v66 S)
  (pkW v62 (.bool true) undefA fun v66 =>
  C_law12_RulesOrder_6 QF v1 v53 v54 v58 v59 v66 S)) (pqW QF)) (pqW QF)
def C_law12_RulesOrder_4 (QF : AEnd → Store → Prop) (v1 v2 v5 v37 : AV) (S : Store) : Prop :=
  cnW v37 (rtW [.tmp v5] QF S)
  (faW 0 v2 fun v39 =>
  faW 0 v2 fun v44 =>
  ldW S 1 false v39 fun v40 =>
  slW 2 v40 (some v1) none fun v42 =>
  ldW S 1 false v44 fun v45 =>
  slW 2 v45 none (some v1) fun v47 =>
  (apW S 51 2 40 (.nils) v42 fun v43 S3 =>
  kpW [v44] S S3 (
  (apW S3 51 2 40 v43 v47 fun v48 S =>
  bdW [.nils] [(0, 1, v48)] fun v49 =>
  alW S 24 [.nils] fun v7 S =>
  stW S 1 v7 v49 fun S =>
  C_law12_RulesOrder_5 QF v1 v2 v7 S) ∧ (alW S3 24 [.nils] fun v7 S =>
  apW S 51 2 40 v43 v47 fun v48 S =>
  bdW [.nils] [(0, 1, v48)] fun v49 =>
  stW S 1 v7 v49 fun S =>
  C_law12_RulesOrder_5 QF v1 v2 v7 S))) ∧ (alW S 24 [.nils] fun v7 S =>
  apW S 51 2 40 (.nils) v42 fun v43 S4 =>
  kpW [v44] S S4 (
  apW S4 51 2 40 v43 v47 fun v48 S =>
  bdW [.nils] [(0, 1, v48)] fun v49 =>
  stW S 1 v7 v49 fun S =>
  C_law12_RulesOrder_5 QF v1 v2 v7 S)))
def C_law12_RulesOrder_3 (QF : AEnd → Store → Prop) (v1 v2 v5 v30 : AV) (S : Store) : Prop :=
  grW v30 false (faW 0 v2 fun v33 =>
  ldW S 1 false v33 fun v34 =>
  lnW S 1 v34 fun v35 =>
  biW .geq v1 v35 fun v36 =>
  pkW v30 (.bool true) v36 fun v37 =>
  C_law12_RulesOrder_4 QF v1 v2 v5 v37 S)
  (pkW v30 (.bool true) undefA fun v37 =>
  C_law12_RulesOrder_4 QF v1 v2 v5 v37 S)
def C_law12_RulesOrder_2 (QF : AEnd → Store → Prop) (v1 v2 v5 v26 : AV) (S : Store) : Prop :=
  grW v26 false (biW .lss v1 (.int .i64 0) fun v29 =>
  pkW v26 (.bool true) v29 fun v30 =>
  C_law12_RulesOrder_3 QF v1 v2 v5 v30 S)
  (pkW v26 (.bool true) undefA fun v30 =>
  C_law12_RulesOrder_3 QF v1 v2 v5 v30 S)
def C_law12_RulesOrder_1 (QF : AEnd → Store → Prop) (v1 v2 v5 v20 : AV) (S : Store) : Prop :=
  grW v20 false (faW 0 v2 fun v22 =>
  ldW S 1 false v22 fun v23 =>
  lnW S 1 v23 fun v24 =>
  biW .eql v24 (.int .i64 0) fun v25 =>
  pkW v20 (.bool true) v25 fun v26 =>
  C_law12_RulesOrder_2 QF v1 v2 v5 v26 S)
  (pkW v20 (.bool true) undefA fun v26 =>
  C_law12_RulesOrder_2 QF v1 v2 v5 v26 S)
def B_law12_RulesOrder (QF : AEnd → Store → Prop) (v0 v1 : AV) (S : Store) : Prop :=
  brW 1 v0 fun v2 =>
  caW PG S (.func (.func 11) [] []) [] (fun v12 S =>
  ldW S 1 true v2 fun v13 =>
  caW PG S (.func (.func 12) [] []) [v13, (.int .i64 80)] (fun v14 S =>
  ntW v12 fun v16 =>
  grW v16 false (ntW v14 fun v19 =>
  pkW v16 (.bool true) v19 fun v20 =>
  C_law12_RulesOrder_1 QF v1 v2 v12 v20 S)
  (pkW v16 (.bool true) undefA fun v20 =>
  C_law12_RulesOrder_1 QF v1 v2 v12 v20 S)) (pqW QF)) (pqW QF)
theorem w_law12_RulesOrder {QF : AEnd → Store → Prop} {v0 v1 : AV} {S : Store} (h : B_law12_RulesOrder QF v0 v1 S) : ACalls PG nr_law12_RulesOrder [v0, v1] S QF :=
  acalls_tf (F := tf_law12_RulesOrder) (by kernel_rfl) rfl (by kernel_rfl) h
end Go.HL
