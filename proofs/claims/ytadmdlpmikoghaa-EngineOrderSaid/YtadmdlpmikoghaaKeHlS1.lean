/- A part of a proof. -/
import Derived.Test.YtadmdlpmikoghaaKeHlP
set_option maxRecDepth 100000
set_option linter.unusedVariables false
namespace Go.HL
def tf_law11_Few : TFunc where
  n := 78
  args := 2
  res := [.tmp 4]
  code := .seq (.reg [i1 2 (.boxr 24 1 (.t 0)),
    i1 4 (.mov (.c (.bool false)))] [1, 2] []) (.seq (.reg [i1 9 (.mov (.t 1)),
    i1 10 (.faddr 0 (.t 2)),
    i1 11 (.load 1 false (.t 10)),
    i1 12 (.len 1 (.t 11)),
    i1 13 (.bin .sub (.t 9) (.t 12)),
    i1 5 (.mov (.t 13))] [1, 2, 5] []) (.seq (.seq (.reg [i1 6 (.mov (.c (.int .i64 0)))] [1, 2, 5, 6] []) (.block 0 (.loop [1, 2, 5, 6] (.seq (.seq (.reg [i1 14 (.mov (.t 6)),
    i1 15 (.faddr 0 (.t 2)),
    i1 16 (.load 1 false (.t 15)),
    i1 17 (.len 1 (.t 16)),
    i1 18 (.bin .lss (.t 14) (.t 17)),
    i1 19 (.mov (.t 18)),
    .grp 19 true [s1 20 (.mov (.t 5)), s1 21 (.bin .gtr (.t 20) (.c (.int .i64 0)))],
    i1 22 (.pick (.t 19) (.t 21) (.c (.bool false)))] [1, 2, 5, 6, 22] []) (.cond (.t 22) (.skip) (.exit 0))) (.seq (.block 1 (.seq (.seq (.reg [i1 25 (.faddr 0 (.t 2)),
    i1 26 (.load 1 false (.t 25)),
    i1 27 (.mov (.t 6)),
    i1 28 (.iaddr 2 (.t 26) (.t 27)),
    i1 29 (.faddr 0 (.t 28)),
    i1 30 (.load 1 false (.t 29)),
    i1 31 (.len 0 (.t 30)),
    i1 32 (.bin .gtr (.t 31) (.c (.int .i64 100)))] [1, 2, 5, 6, 32] []) (.cond (.t 32) (.seq (.reg [i1 4 (.mov (.c (.bool false)))] [4] []) (.ret)) (.skip))) (.seq (.reg [i1 7 (.mov (.c (.int .i64 0)))] [1, 2, 5, 6, 7] []) (.block 2 (.loop [1, 2, 5, 6, 7] (.seq (.seq (.reg [i1 33 (.mov (.t 7)),
    i1 34 (.faddr 0 (.t 2)),
    i1 35 (.load 1 false (.t 34)),
    i1 36 (.mov (.t 6)),
    i1 37 (.iaddr 2 (.t 35) (.t 36)),
    i1 38 (.faddr 1 (.t 37)),
    i1 39 (.load 1 false (.t 38)),
    i1 40 (.len 1 (.t 39)),
    i1 41 (.bin .lss (.t 33) (.t 40)),
    i1 42 (.mov (.t 41)),
    .grp 42 true [s1 43 (.mov (.t 5)), s1 44 (.bin .gtr (.t 43) (.c (.int .i64 0)))],
    i1 45 (.pick (.t 42) (.t 44) (.c (.bool false)))] [1, 2, 5, 6, 7, 45] []) (.cond (.t 45) (.skip) (.exit 2))) (.seq (.block 3 (.seq (.reg [i1 48 (.faddr 0 (.t 2)),
    i1 49 (.load 1 false (.t 48)),
    i1 50 (.mov (.t 6)),
    i1 51 (.iaddr 2 (.t 49) (.t 50)),
    i1 52 (.faddr 1 (.t 51)),
    i1 53 (.load 1 false (.t 52)),
    i1 54 (.mov (.t 7)),
    i1 55 (.iaddr 6 (.t 53) (.t 54)),
    i1 56 (.load 6 true (.t 55)),
    .box2 8 43 [.str ⟨#[]⟩, .nils, .int .i64 0, .str ⟨#[]⟩, .str ⟨#[]⟩, .nils] 6 (.t 56)] [1, 2, 5, 6, 7, 8] []) (.seq (.seq (.reg [i1 57 (.faddr 1 (.t 8)),
    i1 58 (.load 1 false (.t 57)),
    i1 59 (.len 1 (.t 58)),
    i1 60 (.mov (.t 1)),
    i1 61 (.bin .gtr (.t 59) (.t 60)),
    i1 62 (.mov (.t 61)),
    .grp 62 false [s1 63 (.faddr 0 (.t 8)), s1 64 (.load 1 false (.t 63)), s1 65 (.len 0 (.t 64)), s1 66 (.bin .gtr (.t 65) (.c (.int .i64 100)))],
    i1 67 (.pick (.t 62) (.c (.bool true)) (.t 66))] [1, 2, 5, 6, 7, 8, 67] []) (.cond (.t 67) (.seq (.reg [i1 4 (.mov (.c (.bool false)))] [4] []) (.ret)) (.skip))) (.reg [i1 68 (.faddr 2 (.t 8)),
    i1 69 (.load 4 true (.t 68)),
    i1 70 (.mov (.t 5)),
    i1 71 (.faddr 1 (.t 8)),
    i1 72 (.load 1 false (.t 71)),
    i1 73 (.len 1 (.t 72)),
    i1 74 (.bin .sub (.t 70) (.t 73)),
    i1 75 (.call (.f 25) [.t 69, .t 74]),
    i1 5 (.mov (.t 75))] [1, 2, 5, 6, 7] [])))) (.reg [i1 46 (.mov (.t 7)),
    i1 47 (.bin .add (.t 46) (.c (.int .i64 1))),
    i1 7 (.mov (.t 47))] [1, 2, 5, 6, 7] [])))))))) (.reg [i1 23 (.mov (.t 6)),
    i1 24 (.bin .add (.t 23) (.c (.int .i64 1))),
    i1 6 (.mov (.t 24))] [1, 2, 5, 6] [])))))) (.seq (.reg [i1 76 (.mov (.t 5)),
    i1 77 (.bin .gtr (.t 76) (.c (.int .i64 0))),
    i1 4 (.mov (.t 77))] [4] []) (.ret))))
abbrev nr_law11_Few : Nat := 12
def C_law11_Few_5 (QF : AEnd → Store → Prop) (r0 : LE → Store → Prop) (r1 : LE → Store → Prop) (v1 v2 v5 v6 v7 v8 v67 : AV) (S : Store) : Prop :=
  cnW v67 (rtW [.tmp (.bool false)] QF S)
  (faW 2 v8 fun v68 =>
  ldW S 4 true v68 fun v69 =>
  faW 1 v8 fun v71 =>
  ldW S 1 false v71 fun v72 =>
  lnW S 1 v72 fun v73 =>
  biW .sub v5 v73 fun v74 =>
  caW PG S (.func (.func 25) [] []) [v69, v74] (fun v75 S =>
  biW .add v7 (.int .i64 1) fun v47 =>
  rcW r1 [(1, v1), (2, v2), (5, v75), (6, v6), (7, v47)] S) (pqW QF))
def C_law11_Few_4 (QF : AEnd → Store → Prop) (r0 : LE → Store → Prop) (r1 : LE → Store → Prop) (v1 v2 v5 v6 v7 v45 : AV) (S : Store) : Prop :=
  cnW v45 (faW 0 v2 fun v48 =>
  ldW S 1 false v48 fun v49 =>
  iaW 2 v49 v6 fun v51 =>
  faW 1 v51 fun v52 =>
  ldW S 1 false v52 fun v53 =>
  iaW 6 v53 v7 fun v55 =>
  ldW S 6 true v55 fun v56 =>
  bfW 6 v56 fun v8 =>
  faW 1 v8 fun v57 =>
  ldW S 1 false v57 fun v58 =>
  lnW S 1 v58 fun v59 =>
  biW .gtr v59 v1 fun v61 =>
  grW v61 false (faW 0 v8 fun v63 =>
  ldW S 1 false v63 fun v64 =>
  lnW S 0 v64 fun v65 =>
  biW .gtr v65 (.int .i64 100) fun v66 =>
  pkW v61 (.bool true) v66 fun v67 =>
  C_law11_Few_5 QF r0 r1 v1 v2 v5 v6 v7 v8 v67 S)
  (pkW v61 (.bool true) undefA fun v67 =>
  C_law11_Few_5 QF r0 r1 v1 v2 v5 v6 v7 v8 v67 S))
  (biW .add v6 (.int .i64 1) fun v24 =>
  rcW r0 [(1, v1), (2, v2), (5, v5), (6, v24)] S)
def C_law11_Few_3 (QF : AEnd → Store → Prop) (r0 : LE → Store → Prop) (r1 : LE → Store → Prop) (v1 v2 v5 v6 v7 : AV) (S : Store) : Prop :=
  faW 0 v2 fun v34 =>
  ldW S 1 false v34 fun v35 =>
  iaW 2 v35 v6 fun v37 =>
  faW 1 v37 fun v38 =>
  ldW S 1 false v38 fun v39 =>
  lnW S 1 v39 fun v40 =>
  biW .lss v7 v40 fun v41 =>
  grW v41 true (biW .gtr v5 (.int .i64 0) fun v44 =>
  pkW v41 v44 (.bool false) fun v45 =>
  C_law11_Few_4 QF r0 r1 v1 v2 v5 v6 v7 v45 S)
  (pkW v41 undefA (.bool false) fun v45 =>
  C_law11_Few_4 QF r0 r1 v1 v2 v5 v6 v7 v45 S)
def C_law11_Few_2 (QF : AEnd → Store → Prop) (r0 : LE → Store → Prop) (v1 v2 v5 v6 v22 : AV) (S : Store) : Prop :=
  cnW v22 (faW 0 v2 fun v25 =>
  ldW S 1 false v25 fun v26 =>
  iaW 2 v26 v6 fun v28 =>
  faW 0 v28 fun v29 =>
  ldW S 1 false v29 fun v30 =>
  lnW S 0 v30 fun v31 =>
  biW .gtr v31 (.int .i64 100) fun v32 =>
  cnW v32 (rtW [.tmp (.bool false)] QF S)
  (LoopP (fun r1 l S => C_law11_Few_3 QF r0 r1 (lget l 1) (lget l 2) (lget l 5) (lget l 6) (lget l 7) S) [(1, v1), (2, v2), (5, v5), (6, v6), (7, (.int .i64 0))] S))
  (biW .gtr v5 (.int .i64 0) fun v77 =>
  rtW [.tmp v77] QF S)
def C_law11_Few_1 (QF : AEnd → Store → Prop) (r0 : LE → Store → Prop) (v1 v2 v5 v6 : AV) (S : Store) : Prop :=
  faW 0 v2 fun v15 =>
  ldW S 1 false v15 fun v16 =>
  lnW S 1 v16 fun v17 =>
  biW .lss v6 v17 fun v18 =>
  grW v18 true (biW .gtr v5 (.int .i64 0) fun v21 =>
  pkW v18 v21 (.bool false) fun v22 =>
  C_law11_Few_2 QF r0 v1 v2 v5 v6 v22 S)
  (pkW v18 undefA (.bool false) fun v22 =>
  C_law11_Few_2 QF r0 v1 v2 v5 v6 v22 S)
def B_law11_Few (QF : AEnd → Store → Prop) (v0 v1 : AV) (S : Store) : Prop :=
  brW 1 v0 fun v2 =>
  faW 0 v2 fun v10 =>
  ldW S 1 false v10 fun v11 =>
  lnW S 1 v11 fun v12 =>
  biW .sub v1 v12 fun v13 =>
  LoopP (fun r0 l S => C_law11_Few_1 QF r0 (lget l 1) (lget l 2) (lget l 5) (lget l 6) S) [(1, v1), (2, v2), (5, v13), (6, (.int .i64 0))] S
theorem w_law11_Few {QF : AEnd → Store → Prop} {v0 v1 : AV} {S : Store} (h : B_law11_Few QF v0 v1 S) : ACalls PG nr_law11_Few [v0, v1] S QF :=
  acalls_tf (F := tf_law11_Few) (by kernel_rfl) rfl (by kernel_rfl) h
def tf_rules_Check : TFunc where
  n := 23
  args := 1
  res := [.cell 2 3 true]
  code := .seq (.reg [i1 1 (.boxr 24 1 (.t 0)),
    i1 2 (.alloc 33 [.int .i64 0, .int .i64 0, .int .i64 0])] [1, 2] []) (.seq (.reg [i1 7 (.load 1 true (.t 1)),
    i1 8 (.call (.f 26) [.t 7]),
    i1 3 (.mov (.t 8))] [2, 3] []) (.seq (.seq (.reg [i1 9 (.mov (.t 3)),
    i1 10 (.call (.f 30) [.t 9]),
    .box2 4 33 [.int .i64 0, .int .i64 0, .int .i64 0] 3 (.t 10)] [2, 3, 4] []) (.seq (.reg [i1 11 (.faddr 2 (.t 4)),
    i1 12 (.load 1 false (.t 11)),
    i1 13 (.bin .neq (.t 12) (.c (.int .i64 0)))] [2, 3, 4, 13] []) (.cond (.t 13) (.seq (.reg [i1 14 (.load 3 true (.t 4)),
    i0 (.store 3 (.t 2) (.t 14))] [2] []) (.ret)) (.skip)))) (.seq (.reg [i1 16 (.mov (.t 3)),
    i1 17 (.call (.f 27) [.t 16]),
    i1 15 (.mov (.t 17)),
    i1 18 (.extr (.t 15) 0),
    i1 19 (.extr (.t 15) 1),
    i1 5 (.alloc 65 [.map none]),
    i1 6 (.alloc 3 [.int .i64 0]),
    i0 (.store 1 (.t 5) (.t 18)),
    i0 (.store 1 (.t 6) (.t 19))] [2, 3, 5, 6] [5, 6]) (.seq (.reg [i1 20 (.mov (.t 3)),
    i1 21 (.mkf (.func 32) [] [.t 5, .t 6]),
    i1 22 (.call (.f 31) [.t 20, .t 21]),
    i0 (.store 3 (.t 2) (.t 22))] [2] []) (.ret)))))
abbrev nr_rules_Check : Nat := 16
def B_rules_Check (QF : AEnd → Store → Prop) (v0 : AV) (S : Store) : Prop :=
  brW 1 v0 fun v1 =>
  alW S 33 [.int .i64 0, .int .i64 0, .int .i64 0] fun v2 S =>
  ldW S 1 true v1 fun v7 =>
  caW PG S (.func (.func 26) [] []) [v7] (fun v8 S =>
  caW PG S (.func (.func 30) [] []) [v8] (fun v10 S =>
  bfW 3 v10 fun v4 =>
  faW 2 v4 fun v11 =>
  ldW S 1 false v11 fun v12 =>
  biW .neq v12 (.int .i64 0) fun v13 =>
  cnW v13 (ldW S 3 true v4 fun v14 =>
  stW S 3 v2 v14 fun S =>
  rtW [.cell v2 3 true] QF S)
  (caW PG S (.func (.func 27) [] []) [v8] (fun v17 S =>
  exW 0 v17 fun v18 =>
  exW 1 v17 fun v19 =>
  alW S 65 [.map none] fun v5 S =>
  alW S 3 [.int .i64 0] fun v6 S =>
  stW S 1 v5 v18 fun S =>
  stW S 1 v6 v19 fun S =>
  fzW S v5 fun v5 S =>
  fzW S v6 fun v6 S =>
  caW PG S (.func (.func 31) [] []) [v8, (.func (.func 32) [] [v5, v6])] (fun v22 S =>
  stW S 3 v2 v22 fun S =>
  rtW [.cell v2 3 true] QF S) (pqW QF)) (pqW QF))) (pqW QF)) (pqW QF)
theorem w_rules_Check {QF : AEnd → Store → Prop} {v0 : AV} {S : Store} (h : B_rules_Check QF v0 S) : ACalls PG nr_rules_Check [v0] S QF :=
  acalls_tf (F := tf_rules_Check) (by kernel_rfl) rfl (by kernel_rfl) h
def tf_rules_Find : TFunc where
  n := 26
  args := 3
  res := [.cell 6 6 true, .tmp 7]
  code := .seq (.reg [i1 3 (.boxr 24 1 (.t 0)),
    i1 6 (.alloc 43 [.str ⟨#[]⟩, .nils, .int .i64 0, .str ⟨#[]⟩, .str ⟨#[]⟩, .nils]),
    i1 7 (.mov (.c (.bool false)))] [1, 2, 3, 6] []) (.seq (.reg [i1 11 (.load 1 true (.t 3)),
    i1 12 (.call (.f 26) [.t 11]),
    i1 8 (.mov (.t 12))] [1, 2, 6, 8] []) (.seq (.reg [i1 14 (.mov (.t 8)),
    i1 15 (.mov (.t 1)),
    i1 16 (.mov (.t 2)),
    i1 17 (.call (.f 36) [.t 14, .t 15, .t 16]),
    i1 13 (.mov (.t 17)),
    i1 18 (.extr (.t 13) 0),
    i1 19 (.extr (.t 13) 1),
    .box2 9 70 [.int .i64 0, .int .i64 0] 2 (.t 18),
    i1 10 (.mov (.t 19))] [6, 8, 9, 10] []) (.seq (.seq (.reg [i1 20 (.mov (.t 10)),
    i1 21 (.not (.t 20))] [6, 8, 9, 21] []) (.cond (.t 21) (.seq (.reg [i1 22 (.build [.str ⟨#[]⟩, .nils, .int .i64 0, .str ⟨#[]⟩, .str ⟨#[]⟩, .nils] []),
    i0 (.store 6 (.t 6) (.t 22)),
    i1 7 (.mov (.c (.bool false)))] [6, 7] []) (.ret)) (.skip))) (.seq (.reg [i1 23 (.mov (.t 8)),
    i1 24 (.load 2 true (.t 9)),
    i1 25 (.call (.f 37) [.t 23, .t 24]),
    i0 (.store 6 (.t 6) (.t 25)),
    i1 7 (.mov (.c (.bool true)))] [6, 7] []) (.ret)))))
abbrev nr_rules_Find : Nat := 19
def B_rules_Find (QF : AEnd → Store → Prop) (v0 v1 v2 : AV) (S : Store) : Prop :=
  brW 1 v0 fun v3 =>
  alW S 43 [.str ⟨#[]⟩, .nils, .int .i64 0, .str ⟨#[]⟩, .str ⟨#[]⟩, .nils] fun v6 S =>
  ldW S 1 true v3 fun v11 =>
  caW PG S (.func (.func 26) [] []) [v11] (fun v12 S =>
  caW PG S (.func (.func 36) [] []) [v12, v1, v2] (fun v17 S =>
  exW 0 v17 fun v18 =>
  exW 1 v17 fun v19 =>
  bfW 2 v18 fun v9 =>
  ntW v19 fun v21 =>
  cnW v21 (bdW [.str ⟨#[]⟩, .nils, .int .i64 0, .str ⟨#[]⟩, .str ⟨#[]⟩, .nils] [] fun v22 =>
  stW S 6 v6 v22 fun S =>
  rtW [.cell v6 6 true, .tmp (.bool false)] QF S)
  (ldW S 2 true v9 fun v24 =>
  caW PG S (.func (.func 37) [] []) [v12, v24] (fun v25 S =>
  stW S 6 v6 v25 fun S =>
  rtW [.cell v6 6 true, .tmp (.bool true)] QF S) (pqW QF))) (pqW QF)) (pqW QF)
theorem w_rules_Find {QF : AEnd → Store → Prop} {v0 v1 v2 : AV} {S : Store} (h : B_rules_Find QF v0 v1 v2 S) : ACalls PG nr_rules_Find [v0, v1, v2] S QF :=
  acalls_tf (F := tf_rules_Find) (by kernel_rfl) rfl (by kernel_rfl) h
def tf_law15_awake : TFunc where
  n := 47
  args := 0
  res := [.tmp 0]
  code := .seq (.reg [i1 0 (.mov (.c (.bool false)))] [] []) (.seq (.reg [i1 11 (.call (.f 35) [.c (.str ⟨#[116, 121, 112, 101, 32, 117, 115, 101, 114, 32, 116, 121, 112, 101, 32, 103, 32, 114, 101, 108, 97, 116, 105, 111, 110, 32, 109, 58, 32, 117, 115, 101, 114, 32, 124, 32, 103, 35, 109]⟩)]),
    i1 10 (.mov (.t 11)),
    i1 12 (.extr (.t 10) 0),
    i1 13 (.extr (.t 10) 1),
    i1 1 (.alloc 24 [.nils]),
    i1 2 (.alloc 77 [.int .i64 0, .int .i64 0, .int .i64 0]),
    i0 (.store 1 (.t 1) (.t 12)),
    i0 (.store 3 (.t 2) (.t 13))] [1] [1]) (.seq (.reg [i1 14 (.bslicr 9 1 [.c (.str ⟨#[103, 58, 49, 35, 109, 64, 103, 58, 49, 35, 109]⟩), .c (.str ⟨#[103, 58, 49, 35, 109, 64, 117, 115, 101, 114, 58, 97]⟩)]),
    i1 15 (.call (.f 40) [.t 14]),
    i1 3 (.mov (.t 15))] [1, 3] []) (.seq (.reg [i1 17 (.load 1 true (.t 1)),
    i1 18 (.mov (.t 3)),
    i1 19 (.build [.str ⟨#[]⟩, .str ⟨#[]⟩] [(0, 1, .c (.str ⟨#[103]⟩)), (1, 1, .c (.str ⟨#[49]⟩))]),
    i1 20 (.build [.str ⟨#[]⟩, .str ⟨#[]⟩] [(0, 1, .c (.str ⟨#[117, 115, 101, 114]⟩)), (1, 1, .c (.str ⟨#[97]⟩))]),
    i1 21 (.call (.f 24) [.t 17, .t 18, .t 19, .c (.str ⟨#[109]⟩), .t 20, .c (.int .i64 2)]),
    i1 16 (.mov (.t 21)),
    i1 22 (.extr (.t 16) 0),
    i1 23 (.extr (.t 16) 1),
    i1 24 (.extr (.t 16) 2),
    i1 4 (.mov (.t 22)),
    i1 5 (.mov (.t 23)),
    i1 6 (.mov (.t 24))] [1, 3, 4, 5, 6] []) (.seq (.reg [i1 26 (.load 1 true (.t 1)),
    i1 27 (.mov (.t 3)),
    i1 28 (.build [.str ⟨#[]⟩, .str ⟨#[]⟩] [(0, 1, .c (.str ⟨#[103]⟩)), (1, 1, .c (.str ⟨#[49]⟩))]),
    i1 29 (.build [.str ⟨#[]⟩, .str ⟨#[]⟩] [(0, 1, .c (.str ⟨#[117, 115, 101, 114]⟩)), (1, 1, .c (.str ⟨#[97]⟩))]),
    i1 30 (.call (.f 24) [.t 26, .t 27, .t 28, .c (.str ⟨#[109]⟩), .t 29, .c (.int .i64 1)]),
    i1 25 (.mov (.t 30)),
    i1 31 (.extr (.t 25) 0),
    i1 32 (.extr (.t 25) 1),
    i1 33 (.extr (.t 25) 2),
    i1 7 (.mov (.t 31)),
    i1 8 (.mov (.t 32)),
    i1 9 (.mov (.t 33))] [4, 5, 6, 9] []) (.seq (.reg [i1 34 (.mov (.t 4)),
    i1 35 (.mov (.t 34)),
    .grp 35 true [s1 36 (.mov (.t 5)), s1 37 (.bin .eql (.t 36) (.c (.int .i64 2)))],
    i1 38 (.pick (.t 35) (.t 37) (.c (.bool false))),
    i1 39 (.mov (.t 38)),
    .grp 39 true [s1 40 (.mov (.t 6)), s1 41 (.bin .eql (.t 40) (.c (.int .i64 0)))],
    i1 42 (.pick (.t 39) (.t 41) (.c (.bool false))),
    i1 43 (.mov (.t 42)),
    .grp 43 true [s1 44 (.mov (.t 9)), s1 45 (.bin .eql (.t 44) (.c (.int .i64 12)))],
    i1 46 (.pick (.t 43) (.t 45) (.c (.bool false))),
    i1 0 (.mov (.t 46))] [0] []) (.ret))))))
abbrev nr_law15_awake : Nat := 22
def C_law15_awake_2 (QF : AEnd → Store → Prop) (v9 v42 : AV) (S : Store) : Prop :=
  grW v42 true (biW .eql v9 (.int .i64 12) fun v45 =>
  pkW v42 v45 (.bool false) fun v46 =>
  rtW [.tmp v46] QF S)
  (pkW v42 undefA (.bool false) fun v46 =>
  rtW [.tmp v46] QF S)
def C_law15_awake_1 (QF : AEnd → Store → Prop) (v6 v9 v38 : AV) (S : Store) : Prop :=
  grW v38 true (biW .eql v6 (.int .i64 0) fun v41 =>
  pkW v38 v41 (.bool false) fun v42 =>
  C_law15_awake_2 QF v9 v42 S)
  (pkW v38 undefA (.bool false) fun v42 =>
  C_law15_awake_2 QF v9 v42 S)
def B_law15_awake (QF : AEnd → Store → Prop) (S : Store) : Prop :=
  caW PG S (.func (.func 35) [] []) [(.str ⟨#[116, 121, 112, 101, 32, 117, 115, 101, 114, 32, 116, 121, 112, 101, 32, 103, 32, 114, 101, 108, 97, 116, 105, 111, 110, 32, 109, 58, 32, 117, 115, 101, 114, 32, 124, 32, 103, 35, 109]⟩)] (fun v11 S =>
  exW 0 v11 fun v12 =>
  exW 1 v11 fun v13 =>
  alW S 24 [.nils] fun v1 S =>
  alW S 77 [.int .i64 0, .int .i64 0, .int .i64 0] fun v2 S =>
  stW S 1 v1 v12 fun S =>
  stW S 3 v2 v13 fun S =>
  fzW S v1 fun v1 S =>
  srW 1 [(.str ⟨#[103, 58, 49, 35, 109, 64, 103, 58, 49, 35, 109]⟩), (.str ⟨#[103, 58, 49, 35, 109, 64, 117, 115, 101, 114, 58, 97]⟩)] fun v14 =>
  caW PG S (.func (.func 40) [] []) [v14] (fun v15 S =>
  ldW S 1 true v1 fun v17 =>
  bdW [.str ⟨#[]⟩, .str ⟨#[]⟩] [(0, 1, (.str ⟨#[103]⟩)), (1, 1, (.str ⟨#[49]⟩))] fun v19 =>
  bdW [.str ⟨#[]⟩, .str ⟨#[]⟩] [(0, 1, (.str ⟨#[117, 115, 101, 114]⟩)), (1, 1, (.str ⟨#[97]⟩))] fun v20 =>
  caW PG S (.func (.func 24) [] []) [v17, v15, v19, (.str ⟨#[109]⟩), v20, (.int .i64 2)] (fun v21 S =>
  exW 0 v21 fun v22 =>
  exW 1 v21 fun v23 =>
  exW 2 v21 fun v24 =>
  ldW S 1 true v1 fun v26 =>
  bdW [.str ⟨#[]⟩, .str ⟨#[]⟩] [(0, 1, (.str ⟨#[103]⟩)), (1, 1, (.str ⟨#[49]⟩))] fun v28 =>
  bdW [.str ⟨#[]⟩, .str ⟨#[]⟩] [(0, 1, (.str ⟨#[117, 115, 101, 114]⟩)), (1, 1, (.str ⟨#[97]⟩))] fun v29 =>
  caW PG S (.func (.func 24) [] []) [v26, v15, v28, (.str ⟨#[109]⟩), v29, (.int .i64 1)] (fun v30 S =>
  exW 0 v30 fun v31 =>
  exW 1 v30 fun v32 =>
  exW 2 v30 fun v33 =>
  grW v22 true (biW .eql v23 (.int .i64 2) fun v37 =>
  pkW v22 v37 (.bool false) fun v38 =>
  C_law15_awake_1 QF v24 v33 v38 S)
  (pkW v22 undefA (.bool false) fun v38 =>
  C_law15_awake_1 QF v24 v33 v38 S)) (pqW QF)) (pqW QF)) (pqW QF)) (pqW QF)
theorem w_law15_awake {QF : AEnd → Store → Prop} {S : Store} (h : B_law15_awake QF S) : ACalls PG nr_law15_awake [] S QF :=
  acalls_tf (F := tf_law15_awake) (by kernel_rfl) rfl (by kernel_rfl) h
def tf_law14_Small : TFunc where
  n := 14
  args := 2
  res := [.tmp 4]
  code := .seq (.reg [i1 2 (.boxr 24 1 (.t 0)),
    i1 4 (.mov (.c (.bool false)))] [1, 2] []) (.seq (.reg [i1 6 (.load 1 true (.t 2)),
    i1 7 (.call (.f 12) [.t 6, .c (.int .i64 60)]),
    i1 5 (.mov (.t 7))] [1, 5] []) (.seq (.reg [i1 8 (.mov (.t 5)),
    i1 9 (.mov (.t 8)),
    .grp 9 true [s1 10 (.mov (.t 1)), s1 11 (.len 1 (.t 10)), s1 12 (.bin .leq (.t 11) (.c (.int .i64 30)))],
    i1 13 (.pick (.t 9) (.t 12) (.c (.bool false))),
    i1 4 (.mov (.t 13))] [4] []) (.ret)))
abbrev nr_law14_Small : Nat := 23
def B_law14_Small (QF : AEnd → Store → Prop) (v0 v1 : AV) (S : Store) : Prop :=
  brW 1 v0 fun v2 =>
  ldW S 1 true v2 fun v6 =>
  caW PG S (.func (.func 12) [] []) [v6, (.int .i64 60)] (fun v7 S =>
  grW v7 true (lnW S 1 v1 fun v11 =>
  biW .leq v11 (.int .i64 30) fun v12 =>
  pkW v7 v12 (.bool false) fun v13 =>
  rtW [.tmp v13] QF S)
  (pkW v7 undefA (.bool false) fun v13 =>
  rtW [.tmp v13] QF S)) (pqW QF)
theorem w_law14_Small {QF : AEnd → Store → Prop} {v0 v1 : AV} {S : Store} (h : B_law14_Small QF v0 v1 S) : ACalls PG nr_law14_Small [v0, v1] S QF :=
  acalls_tf (F := tf_law14_Small) (by kernel_rfl) rfl (by kernel_rfl) h
def tf_law11_weight : TFunc where
  n := 32
  args := 2
  res := [.tmp 4]
  code := .seq (.reg [i1 2 (.boxr 41 4 (.t 0)),
    i1 4 (.mov (.c (.int .i64 0)))] [1, 2] []) (.seq (.seq (.reg [i1 6 (.faddr 3 (.t 2)),
    i1 7 (.load 1 false (.t 6)),
    i1 8 (.len 1 (.t 7)),
    i1 9 (.mov (.t 1)),
    i1 10 (.bin .gtr (.t 8) (.t 9))] [1, 2, 10] []) (.cond (.t 10) (.seq (.reg [i1 4 (.mov (.c (.int .i64 0)))] [4] []) (.ret)) (.skip))) (.seq (.reg [i1 11 (.mov (.t 1)),
    i1 12 (.bin .sub (.t 11) (.c (.int .i64 1))),
    i1 1 (.mov (.t 12))] [1, 2] []) (.seq (.seq (.reg [i1 5 (.mov (.c (.int .i64 0)))] [1, 2, 5] []) (.block 0 (.loop [1, 2, 5] (.seq (.seq (.reg [i1 13 (.mov (.t 5)),
    i1 14 (.faddr 3 (.t 2)),
    i1 15 (.load 1 false (.t 14)),
    i1 16 (.len 1 (.t 15)),
    i1 17 (.bin .lss (.t 13) (.t 16)),
    i1 18 (.mov (.t 17)),
    .grp 18 true [s1 19 (.mov (.t 1)), s1 20 (.bin .gtr (.t 19) (.c (.int .i64 0)))],
    i1 21 (.pick (.t 18) (.t 20) (.c (.bool false)))] [1, 2, 5, 21] []) (.cond (.t 21) (.skip) (.exit 0))) (.seq (.block 1 (.reg [i1 24 (.faddr 3 (.t 2)),
    i1 25 (.load 1 false (.t 24)),
    i1 26 (.mov (.t 5)),
    i1 27 (.iaddr 4 (.t 25) (.t 26)),
    i1 28 (.load 4 true (.t 27)),
    i1 29 (.mov (.t 1)),
    i1 30 (.call (.f 25) [.t 28, .t 29]),
    i1 1 (.mov (.t 30))] [1, 2, 5] [])) (.reg [i1 22 (.mov (.t 5)),
    i1 23 (.bin .add (.t 22) (.c (.int .i64 1))),
    i1 5 (.mov (.t 23))] [1, 2, 5] [])))))) (.seq (.reg [i1 31 (.mov (.t 1)),
    i1 4 (.mov (.t 31))] [4] []) (.ret)))))
abbrev nr_law11_weight : Nat := 25
def C_law11_weight_2 (QF : AEnd → Store → Prop) (r0 : LE → Store → Prop) (v1 v2 v5 v21 : AV) (S : Store) : Prop :=
  cnW v21 (faW 3 v2 fun v24 =>
  ldW S 1 false v24 fun v25 =>
  iaW 4 v25 v5 fun v27 =>
  ldW S 4 true v27 fun v28 =>
  caW PG S (.func (.func 25) [] []) [v28, v1] (fun v30 S =>
  biW .add v5 (.int .i64 1) fun v23 =>
  rcW r0 [(1, v30), (2, v2), (5, v23)] S) (pqW QF))
  (rtW [.tmp v1] QF S)
def C_law11_weight_1 (QF : AEnd → Store → Prop) (r0 : LE → Store → Prop) (v1 v2 v5 : AV) (S : Store) : Prop :=
  faW 3 v2 fun v14 =>
  ldW S 1 false v14 fun v15 =>
  lnW S 1 v15 fun v16 =>
  biW .lss v5 v16 fun v17 =>
  grW v17 true (biW .gtr v1 (.int .i64 0) fun v20 =>
  pkW v17 v20 (.bool false) fun v21 =>
  C_law11_weight_2 QF r0 v1 v2 v5 v21 S)
  (pkW v17 undefA (.bool false) fun v21 =>
  C_law11_weight_2 QF r0 v1 v2 v5 v21 S)
def B_law11_weight (QF : AEnd → Store → Prop) (v0 v1 : AV) (S : Store) : Prop :=
  brW 4 v0 fun v2 =>
  faW 3 v2 fun v6 =>
  ldW S 1 false v6 fun v7 =>
  lnW S 1 v7 fun v8 =>
  biW .gtr v8 v1 fun v10 =>
  cnW v10 (rtW [.tmp (.int .i64 0)] QF S)
  (biW .sub v1 (.int .i64 1) fun v12 =>
  LoopP (fun r0 l S => C_law11_weight_1 QF r0 (lget l 1) (lget l 2) (lget l 5) S) [(1, v12), (2, v2), (5, (.int .i64 0))] S)
theorem w_law11_weight {QF : AEnd → Store → Prop} {v0 v1 : AV} {S : Store} (h : B_law11_weight QF v0 v1 S) : ACalls PG nr_law11_weight [v0, v1] S QF :=
  acalls_tf (F := tf_law11_weight) (by kernel_rfl) rfl (by kernel_rfl) h
end Go.HL
