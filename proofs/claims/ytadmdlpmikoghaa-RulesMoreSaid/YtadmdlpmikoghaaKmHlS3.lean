/- A part of a proof. -/
import Derived.Test.YtadmdlpmikoghaaKmHlP
set_option maxRecDepth 100000
set_option linter.unusedVariables false
namespace Go.HL
def tf_ref12_typ : TFunc where
  n := 22
  args := 2
  res := [.tmp 4]
  code := .seq (.reg [i1 2 (.boxr 24 1 (.t 0)),
    i1 4 (.mov (.c (.int .i64 0)))] [1, 2] []) (.seq (.seq (.reg [i1 5 (.mov (.c (.int .i64 0)))] [1, 2, 5] []) (.block 0 (.loop [1, 2, 5] (.seq (.seq (.reg [i1 6 (.mov (.t 5)),
    i1 7 (.faddr 0 (.t 2)),
    i1 8 (.load 1 false (.t 7)),
    i1 9 (.len 1 (.t 8)),
    i1 10 (.bin .lss (.t 6) (.t 9))] [1, 2, 5, 10] []) (.cond (.t 10) (.skip) (.exit 0))) (.seq (.block 1 (.seq (.reg [i1 13 (.faddr 0 (.t 2)),
    i1 14 (.load 1 false (.t 13)),
    i1 15 (.mov (.t 5)),
    i1 16 (.iaddr 2 (.t 14) (.t 15)),
    i1 17 (.faddr 0 (.t 16)),
    i1 18 (.load 1 false (.t 17)),
    i1 19 (.mov (.t 1)),
    i1 20 (.bin .eql (.t 18) (.t 19))] [1, 2, 5, 20] []) (.cond (.t 20) (.seq (.reg [i1 21 (.mov (.t 5)),
    i1 4 (.mov (.t 21))] [4] []) (.ret)) (.skip)))) (.reg [i1 11 (.mov (.t 5)),
    i1 12 (.bin .add (.t 11) (.c (.int .i64 1))),
    i1 5 (.mov (.t 12))] [1, 2, 5] [])))))) (.seq (.reg [i1 4 (.mov (.c (.int .i64 (-1))))] [4] []) (.ret)))
abbrev nr_ref12_typ : Nat := 38
def C_ref12_typ_1 (QF : AEnd → Store → Prop) (r0 : LE → Store → Prop) (v1 v2 v5 : AV) (S : Store) : Prop :=
  faW 0 v2 fun v7 =>
  ldW S 1 false v7 fun v8 =>
  lnW S 1 v8 fun v9 =>
  biW .lss v5 v9 fun v10 =>
  cnW v10 (faW 0 v2 fun v13 =>
  ldW S 1 false v13 fun v14 =>
  iaW 2 v14 v5 fun v16 =>
  faW 0 v16 fun v17 =>
  ldW S 1 false v17 fun v18 =>
  biW .eql v18 v1 fun v20 =>
  cnW v20 (rtW [.tmp v5] QF S)
  (biW .add v5 (.int .i64 1) fun v12 =>
  rcW r0 [(1, v1), (2, v2), (5, v12)] S))
  (rtW [.tmp (.int .i64 (-1))] QF S)
def B_ref12_typ (QF : AEnd → Store → Prop) (v0 v1 : AV) (S : Store) : Prop :=
  brW 1 v0 fun v2 =>
  LoopP (fun r0 l S => C_ref12_typ_1 QF r0 (lget l 1) (lget l 2) (lget l 5) S) [(1, v1), (2, v2), (5, (.int .i64 0))] S
theorem w_ref12_typ {QF : AEnd → Store → Prop} {v0 v1 : AV} {S : Store} (h : B_ref12_typ QF v0 v1 S) : ACalls PG nr_ref12_typ [v0, v1] S QF :=
  acalls_tf (F := tf_ref12_typ) (by kernel_rfl) rfl (by kernel_rfl) h
def tf_ref12_rel : TFunc where
  n := 34
  args := 3
  res := [.tmp 6]
  code := .seq (.reg [i1 3 (.boxr 24 1 (.t 0)),
    i1 6 (.mov (.c (.int .i64 0)))] [1, 2, 3] []) (.seq (.seq (.reg [i1 8 (.mov (.t 1)),
    i1 9 (.bin .lss (.t 8) (.c (.int .i64 0)))] [1, 2, 3, 9] []) (.cond (.t 9) (.seq (.reg [i1 6 (.mov (.c (.int .i64 (-1))))] [6] []) (.ret)) (.skip))) (.seq (.seq (.reg [i1 7 (.mov (.c (.int .i64 0)))] [1, 2, 3, 7] []) (.block 0 (.loop [1, 2, 3, 7] (.seq (.seq (.reg [i1 10 (.mov (.t 7)),
    i1 11 (.faddr 0 (.t 3)),
    i1 12 (.load 1 false (.t 11)),
    i1 13 (.mov (.t 1)),
    i1 14 (.iaddr 2 (.t 12) (.t 13)),
    i1 15 (.faddr 1 (.t 14)),
    i1 16 (.load 1 false (.t 15)),
    i1 17 (.len 1 (.t 16)),
    i1 18 (.bin .lss (.t 10) (.t 17))] [1, 2, 3, 7, 18] []) (.cond (.t 18) (.skip) (.exit 0))) (.seq (.block 1 (.seq (.reg [i1 21 (.faddr 0 (.t 3)),
    i1 22 (.load 1 false (.t 21)),
    i1 23 (.mov (.t 1)),
    i1 24 (.iaddr 2 (.t 22) (.t 23)),
    i1 25 (.faddr 1 (.t 24)),
    i1 26 (.load 1 false (.t 25)),
    i1 27 (.mov (.t 7)),
    i1 28 (.iaddr 6 (.t 26) (.t 27)),
    i1 29 (.faddr 0 (.t 28)),
    i1 30 (.load 1 false (.t 29)),
    i1 31 (.mov (.t 2)),
    i1 32 (.bin .eql (.t 30) (.t 31))] [1, 2, 3, 7, 32] []) (.cond (.t 32) (.seq (.reg [i1 33 (.mov (.t 7)),
    i1 6 (.mov (.t 33))] [6] []) (.ret)) (.skip)))) (.reg [i1 19 (.mov (.t 7)),
    i1 20 (.bin .add (.t 19) (.c (.int .i64 1))),
    i1 7 (.mov (.t 20))] [1, 2, 3, 7] [])))))) (.seq (.reg [i1 6 (.mov (.c (.int .i64 (-1))))] [6] []) (.ret))))
abbrev nr_ref12_rel : Nat := 39
def C_ref12_rel_1 (QF : AEnd → Store → Prop) (r0 : LE → Store → Prop) (v1 v2 v3 v7 : AV) (S : Store) : Prop :=
  faW 0 v3 fun v11 =>
  ldW S 1 false v11 fun v12 =>
  iaW 2 v12 v1 fun v14 =>
  faW 1 v14 fun v15 =>
  ldW S 1 false v15 fun v16 =>
  lnW S 1 v16 fun v17 =>
  biW .lss v7 v17 fun v18 =>
  cnW v18 (faW 0 v3 fun v21 =>
  ldW S 1 false v21 fun v22 =>
  iaW 2 v22 v1 fun v24 =>
  faW 1 v24 fun v25 =>
  ldW S 1 false v25 fun v26 =>
  iaW 6 v26 v7 fun v28 =>
  faW 0 v28 fun v29 =>
  ldW S 1 false v29 fun v30 =>
  biW .eql v30 v2 fun v32 =>
  cnW v32 (rtW [.tmp v7] QF S)
  (biW .add v7 (.int .i64 1) fun v20 =>
  rcW r0 [(1, v1), (2, v2), (3, v3), (7, v20)] S))
  (rtW [.tmp (.int .i64 (-1))] QF S)
def B_ref12_rel (QF : AEnd → Store → Prop) (v0 v1 v2 : AV) (S : Store) : Prop :=
  brW 1 v0 fun v3 =>
  biW .lss v1 (.int .i64 0) fun v9 =>
  cnW v9 (rtW [.tmp (.int .i64 (-1))] QF S)
  (LoopP (fun r0 l S => C_ref12_rel_1 QF r0 (lget l 1) (lget l 2) (lget l 3) (lget l 7) S) [(1, v1), (2, v2), (3, v3), (7, (.int .i64 0))] S)
theorem w_ref12_rel {QF : AEnd → Store → Prop} {v0 v1 v2 : AV} {S : Store} (h : B_ref12_rel QF v0 v1 v2 S) : ACalls PG nr_ref12_rel [v0, v1, v2] S QF :=
  acalls_tf (F := tf_ref12_rel) (by kernel_rfl) rfl (by kernel_rfl) h
def tf_rules_index_levels_1 : TFunc where
  n := 15
  args := 5
  res := [.tmp 8]
  code := .seq (.reg [i1 5 (.boxr 70 2 (.t 0)),
    i1 6 (.boxr 51 2 (.t 1)),
    i1 7 (.boxr 43 6 (.t 2)),
    i1 8 (.mov (.c (.int .i64 0)))] [3, 4, 5, 6, 7] []) (.seq (.regl [0, 1, 2, 3, 4, 5, 6] [i1 9 (.load 1 false (.t 4)),
    i1 10 (.load 2 true (.t 5)),
    i1 11 (.load 1 false (.t 3)),
    i1 12 (.load 2 true (.t 6)),
    i1 13 (.load 6 true (.t 7)),
    .one { d := some 14, o := .call (.f 45) [.t 11, .t 12, .t 13], x := [4, 5] },
    i0 (.mupd (true, [.int .i64, .int .i64]) (.t 9) (.t 10) (.t 14))] [] []) (.seq (.reg [i1 8 (.mov (.c (.int .i64 0)))] [8] []) (.ret)))
abbrev nr_rules_index_levels_1 : Nat := 44
def B_rules_index_levels_1 (QF : AEnd → Store → Prop) (v0 v1 v2 v3 v4 : AV) (S : Store) : Prop :=
  brW 2 v0 fun v5 =>
  brW 2 v1 fun v6 =>
  brW 6 v2 fun v7 =>
  ldW S 1 false v4 fun v9 =>
  ldW S 2 true v5 fun v10 =>
  ldW S 1 false v3 fun v11 =>
  ldW S 2 true v6 fun v12 =>
  ldW S 6 true v7 fun v13 =>
  caW PG S (.func (.func 45) [] []) [v11, v12, v13] (fun v14 S1 =>
  kpW [v4, v5] S S1 (
  muW S1 (true, [.int .i64, .int .i64]) v9 v10 v14 fun S =>
  rtW [.tmp (.int .i64 0)] QF S)) (pqW QF)
theorem w_rules_index_levels_1 {QF : AEnd → Store → Prop} {v0 v1 v2 v3 v4 : AV} {S : Store} (h : B_rules_index_levels_1 QF v0 v1 v2 v3 v4 S) : ACalls PG nr_rules_index_levels_1 [v0, v1, v2, v3, v4] S QF :=
  acalls_tf (F := tf_rules_index_levels_1) (by kernel_rfl) rfl (by kernel_rfl) h
def tf_rules_index_leans : TFunc where
  n := 50
  args := 3
  res := [.tmp 6]
  code := .seq (.reg [i1 3 (.boxr 63 1 (.t 0)),
    i1 4 (.boxr 51 2 (.t 1)),
    i1 5 (.boxr 43 6 (.t 2)),
    i1 6 (.mov (.c (.nils)))] [3, 4, 5] []) (.seq (.reg [i1 7 (.alloc 110 [.nils])] [3, 4, 5, 7] []) (.seq (.seq (.reg [i1 12 (.faddr 1 (.t 5)),
    i1 13 (.load 1 false (.t 12)),
    i1 14 (.len 1 (.t 13)),
    i1 15 (.mov (.c (.int .i64 0)))] [3, 4, 5, 7, 13, 14, 15] []) (.block 0 (.loop [3, 4, 5, 7, 13, 14, 15] (.seq (.reg [i1 16 (.bin .lss (.t 15) (.t 14))] [3, 4, 5, 7, 13, 14, 15, 16] []) (.seq (.cond (.t 16) (.skip) (.exit 0)) (.seq (.block 1 (.seq (.reg [i1 17 (.iaddr 2 (.t 13) (.t 15)),
    i1 18 (.load 2 true (.t 17)),
    .box2 9 53 [.str ⟨#[]⟩, .str ⟨#[]⟩] 2 (.t 18)] [3, 4, 5, 7, 9, 13, 14, 15] []) (.seq (.reg [i1 20 (.load 1 false (.t 3)),
    i1 21 (.faddr 0 (.t 9)),
    i1 22 (.load 1 false (.t 21)),
    i1 23 (.faddr 1 (.t 9)),
    i1 24 (.load 1 false (.t 23)),
    i1 25 (.call (.f 36) [.t 20, .t 22, .t 24]),
    i1 19 (.mov (.t 25)),
    i1 26 (.extr (.t 19) 0),
    i1 27 (.extr (.t 19) 1),
    .box2 10 70 [.int .i64 0, .int .i64 0] 2 (.t 26),
    i1 11 (.mov (.t 27))] [3, 4, 5, 7, 9, 10, 11, 13, 14, 15] []) (.seq (.reg [i1 28 (.mov (.t 11)),
    i1 29 (.mov (.t 28)),
    .grp 29 true [s1 30 (.faddr 1 (.t 9)), s1 31 (.load 1 false (.t 30)), s1 32 (.bin .neq (.t 31) (.c (.str ⟨#[]⟩)))],
    i1 33 (.pick (.t 29) (.t 32) (.c (.bool false)))] [3, 4, 5, 7, 10, 13, 14, 15, 33] []) (.cond (.t 33) (.reg [i1 34 (.load 1 false (.t 7)),
    i1 35 (.load 2 true (.t 10)),
    i1 36 (.build [.int .i64 0, .int .i64 0, .bool false] [(0, 2, .t 35), (2, 1, .c (.bool false))]),
    i1 37 (.bslicr 113 3 [.t 36]),
    i1 38 (.app 113 3 24 (.t 34) (.t 37)),
    i0 (.store 1 (.t 7) (.t 38))] [3, 4, 5, 7, 13, 14, 15] []) (.skip)))))) (.reg [i1 39 (.bin .add (.t 15) (.c (.int .i64 1))),
    i1 15 (.mov (.t 39))] [3, 4, 5, 7, 13, 14, 15] []))))))) (.seq (.seq (.reg [i1 40 (.faddr 1 (.t 5)),
    i1 41 (.load 1 false (.t 40)),
    i1 42 (.len 1 (.t 41)),
    i1 43 (.bin .gtr (.t 42) (.c (.int .i64 0)))] [3, 4, 5, 7, 43] []) (.cond (.t 43) (.seq (.reg [i1 44 (.load 1 false (.t 7)),
    i1 6 (.mov (.t 44))] [6] []) (.ret)) (.skip))) (.seq (.reg [i1 45 (.faddr 2 (.t 5)),
    i1 46 (.load 4 true (.t 45)),
    i1 47 (.mkf (.func 70) [] [.t 3, .t 4, .t 7]),
    i1 48 (.call (.f 69) [.t 46, .c (.bool false), .t 47])] [7] []) (.seq (.reg [i1 49 (.load 1 false (.t 7)),
    i1 6 (.mov (.t 49))] [6] []) (.ret))))))
abbrev nr_rules_index_leans : Nat := 45
def C_rules_index_leans_2 (QF : AEnd → Store → Prop) (r0 : LE → Store → Prop) (v3 v4 v5 v7 v10 v13 v14 v15 v33 : AV) (S : Store) : Prop :=
  cnW v33 (ldW S 1 false v7 fun v34 =>
  ldW S 2 true v10 fun v35 =>
  bdW [.int .i64 0, .int .i64 0, .bool false] [(0, 2, v35), (2, 1, (.bool false))] fun v36 =>
  srW 3 [v36] fun v37 =>
  apW S 113 3 24 v34 v37 fun v38 S =>
  stW S 1 v7 v38 fun S =>
  biW .add v15 (.int .i64 1) fun v39 =>
  rcW r0 [(3, v3), (4, v4), (5, v5), (7, v7), (13, v13), (14, v14), (15, v39)] S)
  (biW .add v15 (.int .i64 1) fun v39 =>
  rcW r0 [(3, v3), (4, v4), (5, v5), (7, v7), (13, v13), (14, v14), (15, v39)] S)
def C_rules_index_leans_1 (QF : AEnd → Store → Prop) (r0 : LE → Store → Prop) (v3 v4 v5 v7 v13 v14 v15 : AV) (S : Store) : Prop :=
  biW .lss v15 v14 fun v16 =>
  cnW v16 (iaW 2 v13 v15 fun v17 =>
  ldW S 2 true v17 fun v18 =>
  bfW 2 v18 fun v9 =>
  ldW S 1 false v3 fun v20 =>
  faW 0 v9 fun v21 =>
  ldW S 1 false v21 fun v22 =>
  faW 1 v9 fun v23 =>
  ldW S 1 false v23 fun v24 =>
  caW PG S (.func (.func 36) [] []) [v20, v22, v24] (fun v25 S =>
  exW 0 v25 fun v26 =>
  exW 1 v25 fun v27 =>
  bfW 2 v26 fun v10 =>
  grW v27 true (faW 1 v9 fun v30 =>
  ldW S 1 false v30 fun v31 =>
  biW .neq v31 (.str ⟨#[]⟩) fun v32 =>
  pkW v27 v32 (.bool false) fun v33 =>
  C_rules_index_leans_2 QF r0 v3 v4 v5 v7 v10 v13 v14 v15 v33 S)
  (pkW v27 undefA (.bool false) fun v33 =>
  C_rules_index_leans_2 QF r0 v3 v4 v5 v7 v10 v13 v14 v15 v33 S)) (pqW QF))
  (faW 1 v5 fun v40 =>
  ldW S 1 false v40 fun v41 =>
  lnW S 1 v41 fun v42 =>
  biW .gtr v42 (.int .i64 0) fun v43 =>
  cnW v43 (ldW S 1 false v7 fun v44 =>
  rtW [.tmp v44] QF S)
  (faW 2 v5 fun v45 =>
  ldW S 4 true v45 fun v46 =>
  caW PG S (.func (.func 69) [] []) [v46, (.bool false), (.func (.func 70) [] [v3, v4, v7])] (fun v48 S =>
  ldW S 1 false v7 fun v49 =>
  rtW [.tmp v49] QF S) (pqW QF)))
def B_rules_index_leans (QF : AEnd → Store → Prop) (v0 v1 v2 : AV) (S : Store) : Prop :=
  brW 1 v0 fun v3 =>
  brW 2 v1 fun v4 =>
  brW 6 v2 fun v5 =>
  alW S 110 [.nils] fun v7 S =>
  faW 1 v5 fun v12 =>
  ldW S 1 false v12 fun v13 =>
  lnW S 1 v13 fun v14 =>
  LoopP (fun r0 l S => C_rules_index_leans_1 QF r0 (lget l 3) (lget l 4) (lget l 5) (lget l 7) (lget l 13) (lget l 14) (lget l 15) S) [(3, v3), (4, v4), (5, v5), (7, v7), (13, v13), (14, v14), (15, (.int .i64 0))] S
theorem w_rules_index_leans {QF : AEnd → Store → Prop} {v0 v1 v2 : AV} {S : Store} (h : B_rules_index_leans QF v0 v1 v2 S) : ACalls PG nr_rules_index_leans [v0, v1, v2] S QF :=
  acalls_tf (F := tf_rules_index_leans) (by kernel_rfl) rfl (by kernel_rfl) h
def tf_rules_index_levels_2 : TFunc where
  n := 46
  args := 6
  res := [.tmp 9]
  code := .seq (.reg [i1 6 (.boxr 70 2 (.t 0)),
    i1 7 (.boxr 51 2 (.t 1)),
    i1 8 (.boxr 43 6 (.t 2)),
    i1 9 (.mov (.c (.int .i64 0)))] [3, 4, 5, 6] []) (.seq (.seq (.reg [i1 13 (.load 1 false (.t 3)),
    i1 14 (.load 2 true (.t 6)),
    i1 15 (.lookup (true, [.int .i64, .int .i64]) false (.nils) (.t 13) (.t 14)),
    i1 16 (.len 1 (.t 15)),
    i1 17 (.mov (.c (.int .i64 0)))] [3, 4, 5, 6, 15, 16, 17] []) (.block 0 (.loop [3, 4, 5, 6, 15, 16, 17] (.seq (.reg [i1 18 (.bin .lss (.t 17) (.t 16))] [3, 4, 5, 6, 15, 16, 17, 18] []) (.seq (.cond (.t 18) (.skip) (.exit 0)) (.seq (.block 1 (.seq (.reg [i1 19 (.iaddr 3 (.t 15) (.t 17)),
    i1 20 (.load 3 true (.t 19)),
    .box2 11 113 [.int .i64 0, .int .i64 0, .bool false] 3 (.t 20)] [3, 4, 5, 6, 11, 15, 16, 17] []) (.seq (.reg [i1 21 (.load 1 false (.t 4)),
    i1 22 (.faddr 0 (.t 11)),
    i1 23 (.load 2 true (.t 22)),
    i1 24 (.lookup (true, [.int .i64, .int .i64]) false (.int .i64 0) (.t 21) (.t 23)),
    i1 12 (.mov (.t 24))] [3, 4, 5, 6, 11, 12, 15, 16, 17] []) (.seq (.seq (.reg [i1 25 (.faddr 2 (.t 11)),
    i1 26 (.load 1 false (.t 25))] [3, 4, 5, 6, 12, 15, 16, 17, 26] []) (.cond (.t 26) (.reg [i1 27 (.mov (.t 12)),
    i1 28 (.bin .add (.t 27) (.c (.int .i64 1))),
    i1 12 (.mov (.t 28))] [3, 4, 5, 6, 12, 15, 16, 17] []) (.skip))) (.seq (.regl [3, 0, 1, 2, 4, 5, 6, 7, 8, 9, 10, 11, 12] [i1 32 (.mov (.t 12)),
    i1 29 (.load 1 false (.t 4)),
    i1 30 (.load 2 true (.t 6)),
    i1 31 (.lookup (true, [.int .i64, .int .i64]) false (.int .i64 0) (.t 29) (.t 30)),
    i1 33 (.bin .lss (.t 31) (.t 32)),
    i1 34 (.mov (.t 33)),
    .grp 34 true [s1 35 (.load 1 false (.t 4)), s1 36 (.load 2 true (.t 6)), s1 37 (.lookup (true, [.int .i64, .int .i64]) false (.int .i64 0) (.t 35) (.t 36)), s1 38 (.load 1 false (.t 3)), s1 39 (.len 2 (.t 38)), s1 40 (.bin .leq (.t 37) (.t 39))],
    i1 41 (.pick (.t 34) (.t 40) (.c (.bool false)))] [3, 4, 5, 6, 12, 15, 16, 17, 41] []) (.cond (.t 41) (.reg [i1 42 (.load 1 false (.t 4)),
    i1 43 (.load 2 true (.t 6)),
    i1 44 (.mov (.t 12)),
    i0 (.mupd (true, [.int .i64, .int .i64]) (.t 42) (.t 43) (.t 44)),
    i0 (.store 1 (.t 5) (.c (.bool true)))] [3, 4, 5, 6, 15, 16, 17] []) (.skip))))))) (.reg [i1 45 (.bin .add (.t 17) (.c (.int .i64 1))),
    i1 17 (.mov (.t 45))] [3, 4, 5, 6, 15, 16, 17] []))))))) (.seq (.reg [i1 9 (.mov (.c (.int .i64 0)))] [9] []) (.ret)))
abbrev nr_rules_index_levels_2 : Nat := 46
def C_rules_index_levels_2_3 (QF : AEnd → Store → Prop) (r0 : LE → Store → Prop) (v3 v4 v5 v6 v12 v15 v16 v17 v41 : AV) (S : Store) : Prop :=
  cnW v41 (ldW S 1 false v4 fun v42 =>
  ldW S 2 true v6 fun v43 =>
  muW S (true, [.int .i64, .int .i64]) v42 v43 v12 fun S =>
  stW S 1 v5 (.bool true) fun S =>
  biW .add v17 (.int .i64 1) fun v45 =>
  rcW r0 [(3, v3), (4, v4), (5, v5), (6, v6), (15, v15), (16, v16), (17, v45)] S)
  (biW .add v17 (.int .i64 1) fun v45 =>
  rcW r0 [(3, v3), (4, v4), (5, v5), (6, v6), (15, v15), (16, v16), (17, v45)] S)
def C_rules_index_levels_2_2 (QF : AEnd → Store → Prop) (r0 : LE → Store → Prop) (v3 v4 v5 v6 v12 v15 v16 v17 : AV) (S : Store) : Prop :=
  ldW S 1 false v4 fun v29 =>
  ldW S 2 true v6 fun v30 =>
  lkW S (true, [.int .i64, .int .i64]) false (.int .i64 0) v29 v30 fun v31 =>
  biW .lss v31 v12 fun v33 =>
  grW v33 true (ldW S 1 false v4 fun v35 =>
  ldW S 2 true v6 fun v36 =>
  lkW S (true, [.int .i64, .int .i64]) false (.int .i64 0) v35 v36 fun v37 =>
  ldW S 1 false v3 fun v38 =>
  lnW S 2 v38 fun v39 =>
  biW .leq v37 v39 fun v40 =>
  pkW v33 v40 (.bool false) fun v41 =>
  C_rules_index_levels_2_3 QF r0 v3 v4 v5 v6 v12 v15 v16 v17 v41 S)
  (pkW v33 undefA (.bool false) fun v41 =>
  C_rules_index_levels_2_3 QF r0 v3 v4 v5 v6 v12 v15 v16 v17 v41 S)
def C_rules_index_levels_2_1 (QF : AEnd → Store → Prop) (r0 : LE → Store → Prop) (v3 v4 v5 v6 v15 v16 v17 : AV) (S : Store) : Prop :=
  biW .lss v17 v16 fun v18 =>
  cnW v18 (iaW 3 v15 v17 fun v19 =>
  ldW S 3 true v19 fun v20 =>
  bfW 3 v20 fun v11 =>
  ldW S 1 false v4 fun v21 =>
  faW 0 v11 fun v22 =>
  ldW S 2 true v22 fun v23 =>
  lkW S (true, [.int .i64, .int .i64]) false (.int .i64 0) v21 v23 fun v24 =>
  faW 2 v11 fun v25 =>
  ldW S 1 false v25 fun v26 =>
  cnW v26 (biW .add v24 (.int .i64 1) fun v28 =>
  C_rules_index_levels_2_2 QF r0 v3 v4 v5 v6 v28 v15 v16 v17 S)
  (C_rules_index_levels_2_2 QF r0 v3 v4 v5 v6 v24 v15 v16 v17 S))
  (rtW [.tmp (.int .i64 0)] QF S)
def B_rules_index_levels_2 (QF : AEnd → Store → Prop) (v0 v1 v2 v3 v4 v5 : AV) (S : Store) : Prop :=
  brW 2 v0 fun v6 =>
  brW 2 v1 fun v7 =>
  brW 6 v2 fun v8 =>
  ldW S 1 false v3 fun v13 =>
  ldW S 2 true v6 fun v14 =>
  lkW S (true, [.int .i64, .int .i64]) false (.nils) v13 v14 fun v15 =>
  lnW S 1 v15 fun v16 =>
  LoopP (fun r0 l S => C_rules_index_levels_2_1 QF r0 (lget l 3) (lget l 4) (lget l 5) (lget l 6) (lget l 15) (lget l 16) (lget l 17) S) [(3, v3), (4, v4), (5, v5), (6, v6), (15, v15), (16, v16), (17, (.int .i64 0))] S
theorem w_rules_index_levels_2 {QF : AEnd → Store → Prop} {v0 v1 v2 v3 v4 v5 : AV} {S : Store} (h : B_rules_index_levels_2 QF v0 v1 v2 v3 v4 v5 S) : ACalls PG nr_rules_index_levels_2 [v0, v1, v2, v3, v4, v5] S QF :=
  acalls_tf (F := tf_rules_index_levels_2) (by kernel_rfl) rfl (by kernel_rfl) h
def tf_math_bits_Mul : TFunc where
  n := 30
  args := 2
  res := [.tmp 4, .tmp 5]
  code := .seq (.reg [i1 4 (.mov (.c (.int .u64 0))),
    i1 5 (.mov (.c (.int .u64 0)))] [0, 1] []) (.seq (.cond (.c (.bool false)) (.seq (.reg [i1 11 (.mov (.t 0)),
    i1 12 (.conv .u32 (.t 11)),
    i1 13 (.mov (.t 1)),
    i1 14 (.conv .u32 (.t 13)),
    i1 15 (.call (.f 72) [.t 12, .t 14]),
    i1 10 (.mov (.t 15)),
    i1 16 (.extr (.t 10) 0),
    i1 17 (.extr (.t 10) 1),
    i1 6 (.mov (.t 16)),
    i1 7 (.mov (.t 17))] [6, 7] []) (.seq (.reg [i1 18 (.mov (.t 6)),
    i1 19 (.conv .u64 (.t 18)),
    i1 20 (.mov (.t 7)),
    i1 21 (.conv .u64 (.t 20)),
    i1 4 (.mov (.t 19)),
    i1 5 (.mov (.t 21))] [4, 5] []) (.ret))) (.skip)) (.seq (.reg [i1 23 (.mov (.t 0)),
    i1 24 (.mov (.t 1)),
    i1 25 (.call (.f 73) [.t 23, .t 24]),
    i1 22 (.mov (.t 25)),
    i1 26 (.extr (.t 22) 0),
    i1 27 (.extr (.t 22) 1),
    i1 8 (.mov (.t 26)),
    i1 9 (.mov (.t 27))] [8, 9] []) (.seq (.reg [i1 28 (.mov (.t 8)),
    i1 29 (.mov (.t 9)),
    i1 4 (.mov (.t 28)),
    i1 5 (.mov (.t 29))] [4, 5] []) (.ret))))
abbrev nr_math_bits_Mul : Nat := 47
def B_math_bits_Mul (QF : AEnd → Store → Prop) (v0 v1 : AV) (S : Store) : Prop :=
  cnW (.bool false) (cvW .u32 v0 fun v12 =>
  cvW .u32 v1 fun v14 =>
  caW PG S (.func (.func 72) [] []) [v12, v14] (fun v15 S =>
  exW 0 v15 fun v16 =>
  exW 1 v15 fun v17 =>
  cvW .u64 v16 fun v19 =>
  cvW .u64 v17 fun v21 =>
  rtW [.tmp v19, .tmp v21] QF S) (pqW QF))
  (caW PG S (.func (.func 73) [] []) [v0, v1] (fun v25 S =>
  exW 0 v25 fun v26 =>
  exW 1 v25 fun v27 =>
  rtW [.tmp v26, .tmp v27] QF S) (pqW QF))
theorem w_math_bits_Mul {QF : AEnd → Store → Prop} {v0 v1 : AV} {S : Store} (h : B_math_bits_Mul QF v0 v1 S) : ACalls PG nr_math_bits_Mul [v0, v1] S QF :=
  acalls_tf (F := tf_math_bits_Mul) (by kernel_rfl) rfl (by kernel_rfl) h
def tf_ref12_rows : TFunc where
  n := 45
  args := 1
  res := [.tmp 2]
  code := .seq (.reg [i1 1 (.boxr 24 1 (.t 0)),
    i1 2 (.mov (.c (.nils)))] [1] []) (.seq (.reg [i1 3 (.mov (.c (.nils)))] [1, 3] []) (.seq (.seq (.reg [i1 4 (.mov (.c (.int .i64 0)))] [1, 3, 4] []) (.block 0 (.loop [1, 3, 4] (.seq (.seq (.reg [i1 7 (.mov (.t 4)),
    i1 8 (.faddr 0 (.t 1)),
    i1 9 (.load 1 false (.t 8)),
    i1 10 (.len 1 (.t 9)),
    i1 11 (.bin .lss (.t 7) (.t 10))] [1, 3, 4, 11] []) (.cond (.t 11) (.skip) (.exit 0))) (.seq (.block 1 (.seq (.reg [i1 5 (.mov (.c (.int .i64 0)))] [1, 3, 4, 5] []) (.block 2 (.loop [1, 3, 4, 5] (.seq (.seq (.reg [i1 14 (.mov (.t 5)),
    i1 15 (.faddr 0 (.t 1)),
    i1 16 (.load 1 false (.t 15)),
    i1 17 (.mov (.t 4)),
    i1 18 (.iaddr 2 (.t 16) (.t 17)),
    i1 19 (.faddr 1 (.t 18)),
    i1 20 (.load 1 false (.t 19)),
    i1 21 (.len 1 (.t 20)),
    i1 22 (.bin .lss (.t 14) (.t 21))] [1, 3, 4, 5, 22] []) (.cond (.t 22) (.skip) (.exit 2))) (.seq (.block 3 (.seq (.regl [1, 2, 4, 8, 0, 3, 5, 6, 7, 9, 10, 11, 12] [i1 26 (.mov (.t 4)),
    i1 27 (.faddr 0 (.t 1)),
    i1 29 (.mov (.t 4)),
    i1 33 (.mov (.t 5)),
    i1 25 (.load 1 true (.t 1)),
    i1 28 (.load 1 false (.t 27)),
    i1 30 (.iaddr 2 (.t 28) (.t 29)),
    i1 31 (.faddr 1 (.t 30)),
    i1 32 (.load 1 false (.t 31)),
    i1 34 (.iaddr 6 (.t 32) (.t 33)),
    i1 35 (.load 6 true (.t 34)),
    i1 36 (.call (.f 74) [.t 25, .t 26, .t 35]),
    i1 6 (.mov (.t 36))] [1, 3, 4, 5, 6] []) (.reg [i1 37 (.mov (.t 3)),
    i1 38 (.mov (.t 4)),
    i1 39 (.mov (.t 5)),
    i1 40 (.mov (.t 6)),
    i1 41 (.build [.int .i64 0, .int .i64 0, .nils] [(0, 1, .t 38), (1, 1, .t 39), (2, 1, .t 40)]),
    i1 42 (.bslicr 153 3 [.t 41]),
    i1 43 (.app 153 3 40 (.t 37) (.t 42)),
    i1 3 (.mov (.t 43))] [1, 3, 4, 5] []))) (.reg [i1 23 (.mov (.t 5)),
    i1 24 (.bin .add (.t 23) (.c (.int .i64 1))),
    i1 5 (.mov (.t 24))] [1, 3, 4, 5] []))))))) (.reg [i1 12 (.mov (.t 4)),
    i1 13 (.bin .add (.t 12) (.c (.int .i64 1))),
    i1 4 (.mov (.t 13))] [1, 3, 4] [])))))) (.seq (.reg [i1 44 (.mov (.t 3)),
    i1 2 (.mov (.t 44))] [2] []) (.ret))))
abbrev nr_ref12_rows : Nat := 48
def C_ref12_rows_2 (QF : AEnd → Store → Prop) (r0 : LE → Store → Prop) (r1 : LE → Store → Prop) (v1 v3 v4 v5 : AV) (S : Store) : Prop :=
  faW 0 v1 fun v15 =>
  ldW S 1 false v15 fun v16 =>
  iaW 2 v16 v4 fun v18 =>
  faW 1 v18 fun v19 =>
  ldW S 1 false v19 fun v20 =>
  lnW S 1 v20 fun v21 =>
  biW .lss v5 v21 fun v22 =>
  cnW v22 (faW 0 v1 fun v27 =>
  ldW S 1 true v1 fun v25 =>
  ldW S 1 false v27 fun v28 =>
  iaW 2 v28 v4 fun v30 =>
  faW 1 v30 fun v31 =>
  ldW S 1 false v31 fun v32 =>
  iaW 6 v32 v5 fun v34 =>
  ldW S 6 true v34 fun v35 =>
  caW PG S (.func (.func 74) [] []) [v25, v4, v35] (fun v36 S =>
  bdW [.int .i64 0, .int .i64 0, .nils] [(0, 1, v4), (1, 1, v5), (2, 1, v36)] fun v41 =>
  srW 3 [v41] fun v42 =>
  apW S 153 3 40 v3 v42 fun v43 S =>
  biW .add v5 (.int .i64 1) fun v24 =>
  rcW r1 [(1, v1), (3, v43), (4, v4), (5, v24)] S) (pqW QF))
  (biW .add v4 (.int .i64 1) fun v13 =>
  rcW r0 [(1, v1), (3, v3), (4, v13)] S)
def C_ref12_rows_1 (QF : AEnd → Store → Prop) (r0 : LE → Store → Prop) (v1 v3 v4 : AV) (S : Store) : Prop :=
  faW 0 v1 fun v8 =>
  ldW S 1 false v8 fun v9 =>
  lnW S 1 v9 fun v10 =>
  biW .lss v4 v10 fun v11 =>
  cnW v11 (LoopP (fun r1 l S => C_ref12_rows_2 QF r0 r1 (lget l 1) (lget l 3) (lget l 4) (lget l 5) S) [(1, v1), (3, v3), (4, v4), (5, (.int .i64 0))] S)
  (rtW [.tmp v3] QF S)
def B_ref12_rows (QF : AEnd → Store → Prop) (v0 : AV) (S : Store) : Prop :=
  brW 1 v0 fun v1 =>
  LoopP (fun r0 l S => C_ref12_rows_1 QF r0 (lget l 1) (lget l 3) (lget l 4) S) [(1, v1), (3, (.nils)), (4, (.int .i64 0))] S
theorem w_ref12_rows {QF : AEnd → Store → Prop} {v0 : AV} {S : Store} (h : B_ref12_rows QF v0 S) : ACalls PG nr_ref12_rows [v0] S QF :=
  acalls_tf (F := tf_ref12_rows) (by kernel_rfl) rfl (by kernel_rfl) h
def tf_ref12_raised : TFunc where
  n := 88
  args := 2
  res := [.tmp 4]
  code := .seq (.reg [i1 4 (.mov (.c (.bool false)))] [0, 1] []) (.seq (.reg [i1 5 (.mov (.c (.bool false)))] [0, 1, 5] []) (.seq (.seq (.reg [i1 6 (.mov (.c (.int .i64 0)))] [0, 1, 5, 6] []) (.block 0 (.loop [0, 1, 5, 6] (.seq (.seq (.reg [i1 12 (.mov (.t 6)),
    i1 13 (.mov (.t 0)),
    i1 14 (.len 1 (.t 13)),
    i1 15 (.bin .lss (.t 12) (.t 14))] [0, 1, 5, 6, 15] []) (.cond (.t 15) (.skip) (.exit 0))) (.seq (.block 1 (.seq (.reg [i1 18 (.mov (.t 0)),
    i1 19 (.mov (.t 6)),
    i1 20 (.iaddr 3 (.t 18) (.t 19)),
    i1 21 (.faddr 0 (.t 20)),
    i1 22 (.load 1 false (.t 21)),
    i1 7 (.mov (.t 22))] [0, 1, 5, 6, 7] []) (.seq (.reg [i1 23 (.mov (.t 0)),
    i1 24 (.mov (.t 6)),
    i1 25 (.iaddr 3 (.t 23) (.t 24)),
    i1 26 (.faddr 1 (.t 25)),
    i1 27 (.load 1 false (.t 26)),
    i1 8 (.mov (.t 27))] [0, 1, 5, 6, 7, 8] []) (.seq (.reg [i1 9 (.mov (.c (.int .i64 0)))] [0, 1, 5, 6, 7, 8, 9] []) (.block 2 (.loop [0, 1, 5, 6, 7, 8, 9] (.seq (.seq (.reg [i1 28 (.mov (.t 9)),
    i1 29 (.mov (.t 0)),
    i1 30 (.mov (.t 6)),
    i1 31 (.iaddr 3 (.t 29) (.t 30)),
    i1 32 (.faddr 2 (.t 31)),
    i1 33 (.load 1 false (.t 32)),
    i1 34 (.len 1 (.t 33)),
    i1 35 (.bin .lss (.t 28) (.t 34))] [0, 1, 5, 6, 7, 8, 9, 35] []) (.cond (.t 35) (.skip) (.exit 2))) (.seq (.block 3 (.seq (.reg [i1 38 (.mov (.t 0)),
    i1 39 (.mov (.t 6)),
    i1 40 (.iaddr 3 (.t 38) (.t 39)),
    i1 41 (.faddr 2 (.t 40)),
    i1 42 (.load 1 false (.t 41)),
    i1 43 (.mov (.t 9)),
    i1 44 (.iaddr 3 (.t 42) (.t 43)),
    i1 45 (.load 3 true (.t 44)),
    .box2 10 155 [.int .i64 0, .int .i64 0, .bool false] 3 (.t 45)] [0, 1, 5, 6, 7, 8, 9, 10] []) (.seq (.regl [0, 1, 5, 2, 3, 4, 6, 7, 8, 9] [i1 46 (.mov (.t 1)),
    i1 47 (.faddr 0 (.t 10)),
    i1 51 (.faddr 1 (.t 10)),
    i1 48 (.load 1 false (.t 47)),
    i1 49 (.iaddr 1 (.t 46) (.t 48)),
    i1 50 (.load 1 false (.t 49)),
    i1 52 (.load 1 false (.t 51)),
    i1 53 (.iaddr 1 (.t 50) (.t 52)),
    i1 54 (.load 1 false (.t 53)),
    i1 11 (.mov (.t 54))] [0, 1, 5, 6, 7, 8, 9, 10, 11] []) (.seq (.seq (.reg [i1 55 (.faddr 2 (.t 10)),
    i1 56 (.load 1 false (.t 55))] [0, 1, 5, 6, 7, 8, 9, 11, 56] []) (.cond (.t 56) (.reg [i1 57 (.mov (.t 11)),
    i1 58 (.bin .add (.t 57) (.c (.int .i64 1))),
    i1 11 (.mov (.t 58))] [0, 1, 5, 6, 7, 8, 9, 11] []) (.skip))) (.seq (.reg [i1 59 (.mov (.t 1)),
    i1 60 (.mov (.t 7)),
    i1 61 (.iaddr 1 (.t 59) (.t 60)),
    i1 62 (.load 1 false (.t 61)),
    i1 63 (.mov (.t 8)),
    i1 64 (.iaddr 1 (.t 62) (.t 63)),
    i1 65 (.load 1 false (.t 64)),
    i1 66 (.mov (.t 11)),
    i1 67 (.bin .lss (.t 65) (.t 66)),
    i1 68 (.mov (.t 67)),
    .grp 68 true [s1 69 (.mov (.t 1)), s1 70 (.mov (.t 7)), s1 71 (.iaddr 1 (.t 69) (.t 70)), s1 72 (.load 1 false (.t 71)), s1 73 (.mov (.t 8)), s1 74 (.iaddr 1 (.t 72) (.t 73)), s1 75 (.load 1 false (.t 74)), s1 76 (.mov (.t 0)), s1 77 (.len 1 (.t 76)), s1 78 (.bin .leq (.t 75) (.t 77))],
    i1 79 (.pick (.t 68) (.t 78) (.c (.bool false)))] [0, 1, 5, 6, 7, 8, 9, 11, 79] []) (.cond (.t 79) (.seq (.reg [i1 80 (.mov (.t 1)),
    i1 81 (.mov (.t 7)),
    i1 82 (.iaddr 1 (.t 80) (.t 81)),
    i1 83 (.load 1 false (.t 82)),
    i1 84 (.mov (.t 8)),
    i1 85 (.mov (.t 11)),
    i1 86 (.iaddr 1 (.t 83) (.t 84)),
    i0 (.store 1 (.t 86) (.t 85))] [0, 1, 6, 7, 8, 9] []) (.reg [i1 5 (.mov (.c (.bool true)))] [0, 1, 5, 6, 7, 8, 9] [])) (.skip))))))) (.reg [i1 36 (.mov (.t 9)),
    i1 37 (.bin .add (.t 36) (.c (.int .i64 1))),
    i1 9 (.mov (.t 37))] [0, 1, 5, 6, 7, 8, 9] []))))))))) (.reg [i1 16 (.mov (.t 6)),
    i1 17 (.bin .add (.t 16) (.c (.int .i64 1))),
    i1 6 (.mov (.t 17))] [0, 1, 5, 6] [])))))) (.seq (.reg [i1 87 (.mov (.t 5)),
    i1 4 (.mov (.t 87))] [4] []) (.ret))))
abbrev nr_ref12_raised : Nat := 49
def C_ref12_raised_4 (QF : AEnd → Store → Prop) (r0 : LE → Store → Prop) (r1 : LE → Store → Prop) (v0 v1 v5 v6 v7 v8 v9 v11 v79 : AV) (S : Store) : Prop :=
  cnW v79 (iaW 1 v1 v7 fun v82 =>
  ldW S 1 false v82 fun v83 =>
  iaW 1 v83 v8 fun v86 =>
  stW S 1 v86 v11 fun S =>
  biW .add v9 (.int .i64 1) fun v37 =>
  rcW r1 [(0, v0), (1, v1), (5, (.bool true)), (6, v6), (7, v7), (8, v8), (9, v37)] S)
  (biW .add v9 (.int .i64 1) fun v37 =>
  rcW r1 [(0, v0), (1, v1), (5, v5), (6, v6), (7, v7), (8, v8), (9, v37)] S)
def C_ref12_raised_3 (QF : AEnd → Store → Prop) (r0 : LE → Store → Prop) (r1 : LE → Store → Prop) (v0 v1 v5 v6 v7 v8 v9 v11 : AV) (S : Store) : Prop :=
  iaW 1 v1 v7 fun v61 =>
  ldW S 1 false v61 fun v62 =>
  iaW 1 v62 v8 fun v64 =>
  ldW S 1 false v64 fun v65 =>
  biW .lss v65 v11 fun v67 =>
  grW v67 true (iaW 1 v1 v7 fun v71 =>
  ldW S 1 false v71 fun v72 =>
  iaW 1 v72 v8 fun v74 =>
  ldW S 1 false v74 fun v75 =>
  lnW S 1 v0 fun v77 =>
  biW .leq v75 v77 fun v78 =>
  pkW v67 v78 (.bool false) fun v79 =>
  C_ref12_raised_4 QF r0 r1 v0 v1 v5 v6 v7 v8 v9 v11 v79 S)
  (pkW v67 undefA (.bool false) fun v79 =>
  C_ref12_raised_4 QF r0 r1 v0 v1 v5 v6 v7 v8 v9 v11 v79 S)
def C_ref12_raised_2 (QF : AEnd → Store → Prop) (r0 : LE → Store → Prop) (r1 : LE → Store → Prop) (v0 v1 v5 v6 v7 v8 v9 : AV) (S : Store) : Prop :=
  iaW 3 v0 v6 fun v31 =>
  faW 2 v31 fun v32 =>
  ldW S 1 false v32 fun v33 =>
  lnW S 1 v33 fun v34 =>
  biW .lss v9 v34 fun v35 =>
  cnW v35 (iaW 3 v0 v6 fun v40 =>
  faW 2 v40 fun v41 =>
  ldW S 1 false v41 fun v42 =>
  iaW 3 v42 v9 fun v44 =>
  ldW S 3 true v44 fun v45 =>
  bfW 3 v45 fun v10 =>
  faW 0 v10 fun v47 =>
  faW 1 v10 fun v51 =>
  ldW S 1 false v47 fun v48 =>
  iaW 1 v1 v48 fun v49 =>
  ldW S 1 false v49 fun v50 =>
  ldW S 1 false v51 fun v52 =>
  iaW 1 v50 v52 fun v53 =>
  ldW S 1 false v53 fun v54 =>
  faW 2 v10 fun v55 =>
  ldW S 1 false v55 fun v56 =>
  cnW v56 (biW .add v54 (.int .i64 1) fun v58 =>
  C_ref12_raised_3 QF r0 r1 v0 v1 v5 v6 v7 v8 v9 v58 S)
  (C_ref12_raised_3 QF r0 r1 v0 v1 v5 v6 v7 v8 v9 v54 S))
  (biW .add v6 (.int .i64 1) fun v17 =>
  rcW r0 [(0, v0), (1, v1), (5, v5), (6, v17)] S)
def C_ref12_raised_1 (QF : AEnd → Store → Prop) (r0 : LE → Store → Prop) (v0 v1 v5 v6 : AV) (S : Store) : Prop :=
  lnW S 1 v0 fun v14 =>
  biW .lss v6 v14 fun v15 =>
  cnW v15 (iaW 3 v0 v6 fun v20 =>
  faW 0 v20 fun v21 =>
  ldW S 1 false v21 fun v22 =>
  iaW 3 v0 v6 fun v25 =>
  faW 1 v25 fun v26 =>
  ldW S 1 false v26 fun v27 =>
  LoopP (fun r1 l S => C_ref12_raised_2 QF r0 r1 (lget l 0) (lget l 1) (lget l 5) (lget l 6) (lget l 7) (lget l 8) (lget l 9) S) [(0, v0), (1, v1), (5, v5), (6, v6), (7, v22), (8, v27), (9, (.int .i64 0))] S)
  (rtW [.tmp v5] QF S)
def B_ref12_raised (QF : AEnd → Store → Prop) (v0 v1 : AV) (S : Store) : Prop :=
  LoopP (fun r0 l S => C_ref12_raised_1 QF r0 (lget l 0) (lget l 1) (lget l 5) (lget l 6) S) [(0, v0), (1, v1), (5, (.bool false)), (6, (.int .i64 0))] S
theorem w_ref12_raised {QF : AEnd → Store → Prop} {v0 v1 : AV} {S : Store} (h : B_ref12_raised QF v0 v1 S) : ACalls PG nr_ref12_raised [v0, v1] S QF :=
  acalls_tf (F := tf_ref12_raised) (by kernel_rfl) rfl (by kernel_rfl) h
def tf_lang_May : TFunc where
  n := 22
  args := 1
  res := [.tmp 2]
  code := .seq (.reg [i1 1 (.boxr 24 1 (.t 0)),
    i1 2 (.mov (.c (.bool false)))] [1] []) (.seq (.seq (.reg [i1 5 (.faddr 0 (.t 1)),
    i1 6 (.load 1 false (.t 5)),
    i1 7 (.len 1 (.t 6)),
    i1 8 (.mov (.c (.int .i64 0)))] [6, 7, 8] []) (.block 0 (.loop [6, 7, 8] (.seq (.reg [i1 9 (.bin .lss (.t 8) (.t 7))] [6, 7, 8, 9] []) (.seq (.cond (.t 9) (.skip) (.exit 0)) (.seq (.block 1 (.seq (.reg [i1 10 (.iaddr 2 (.t 6) (.t 8)),
    i1 11 (.load 2 true (.t 10)),
    .box2 4 51 [.str ⟨#[]⟩, .nils] 2 (.t 11)] [4, 6, 7, 8] []) (.seq (.reg [i1 12 (.faddr 0 (.t 4)),
    i1 13 (.load 1 false (.t 12)),
    i1 14 (.call (.f 75) [.t 13]),
    i1 15 (.not (.t 14)),
    i1 16 (.mov (.t 15)),
    .grp 16 false [s1 17 (.faddr 1 (.t 4)), s1 18 (.load 1 false (.t 17)), s1 19 (.call (.f 76) [.t 18, .f 77])],
    i1 20 (.pick (.t 16) (.c (.bool true)) (.t 19))] [6, 7, 8, 20] []) (.cond (.t 20) (.seq (.reg [i1 2 (.mov (.c (.bool false)))] [2] []) (.ret)) (.skip))))) (.reg [i1 21 (.bin .add (.t 8) (.c (.int .i64 1))),
    i1 8 (.mov (.t 21))] [6, 7, 8] []))))))) (.seq (.reg [i1 2 (.mov (.c (.bool true)))] [2] []) (.ret)))
abbrev nr_lang_May : Nat := 50
def C_lang_May_1 (QF : AEnd → Store → Prop) (r0 : LE → Store → Prop) (v6 v7 v8 : AV) (S : Store) : Prop :=
  biW .lss v8 v7 fun v9 =>
  cnW v9 (iaW 2 v6 v8 fun v10 =>
  ldW S 2 true v10 fun v11 =>
  bfW 2 v11 fun v4 =>
  faW 0 v4 fun v12 =>
  ldW S 1 false v12 fun v13 =>
  caW PG S (.func (.func 75) [] []) [v13] (fun v14 S =>
  ntW v14 fun v15 =>
  grW v15 false (faW 1 v4 fun v17 =>
  ldW S 1 false v17 fun v18 =>
  caW PG S (.func (.func 76) [] []) [v18, (.func (.func 77) [] [])] (fun v19 S =>
  pkW v15 (.bool true) v19 fun v20 =>
  cnW v20 (rtW [.tmp (.bool false)] QF S)
  (biW .add v8 (.int .i64 1) fun v21 =>
  rcW r0 [(6, v6), (7, v7), (8, v21)] S)) (pqW QF))
  (pkW v15 (.bool true) undefA fun v20 =>
  cnW v20 (rtW [.tmp (.bool false)] QF S)
  (biW .add v8 (.int .i64 1) fun v21 =>
  rcW r0 [(6, v6), (7, v7), (8, v21)] S))) (pqW QF))
  (rtW [.tmp (.bool true)] QF S)
def B_lang_May (QF : AEnd → Store → Prop) (v0 : AV) (S : Store) : Prop :=
  brW 1 v0 fun v1 =>
  faW 0 v1 fun v5 =>
  ldW S 1 false v5 fun v6 =>
  lnW S 1 v6 fun v7 =>
  LoopP (fun r0 l S => C_lang_May_1 QF r0 (lget l 6) (lget l 7) (lget l 8) S) [(6, v6), (7, v7), (8, (.int .i64 0))] S
theorem w_lang_May {QF : AEnd → Store → Prop} {v0 : AV} {S : Store} (h : B_lang_May QF v0 S) : ACalls PG nr_lang_May [v0] S QF :=
  acalls_tf (F := tf_lang_May) (by kernel_rfl) rfl (by kernel_rfl) h
def tf_rules_sizes : TFunc where
  n := 54
  args := 1
  res := [.cell 2 3 true]
  code := .seq (.reg [i1 1 (.boxr 24 1 (.t 0)),
    i1 2 (.alloc 33 [.int .i64 0, .int .i64 0, .int .i64 0])] [1, 2] []) (.seq (.reg [i1 6 (.build [.int .i64 0, .int .i64 0, .int .i64 0] [(1, 1, .c (.int .i64 (-1))), (2, 1, .c (.int .i64 2))]),
    i1 3 (.alloc 33 [.int .i64 0, .int .i64 0, .int .i64 0]),
    i0 (.store 3 (.t 3) (.t 6))] [1, 2, 3] []) (.seq (.seq (.reg [i1 7 (.faddr 0 (.t 1)),
    i1 8 (.load 1 false (.t 7)),
    i1 9 (.len 1 (.t 8)),
    i1 10 (.bin .gtr (.t 9) (.c (.int .i64 16)))] [1, 2, 3, 10] []) (.cond (.t 10) (.seq (.reg [i1 11 (.load 3 true (.t 3)),
    i0 (.store 3 (.t 2) (.t 11))] [2] []) (.ret)) (.skip))) (.seq (.seq (.reg [i1 12 (.faddr 0 (.t 1)),
    i1 13 (.load 1 false (.t 12)),
    i1 14 (.len 1 (.t 13)),
    i1 15 (.mov (.c (.int .i64 0)))] [1, 2, 3, 14, 15] []) (.block 0 (.loop [1, 2, 3, 14, 15] (.seq (.reg [i1 16 (.bin .lss (.t 15) (.t 14))] [1, 2, 3, 14, 15, 16] []) (.seq (.cond (.t 16) (.skip) (.exit 0)) (.seq (.block 1 (.seq (.reg [i1 17 (.mov (.t 15)),
    i1 18 (.faddr 0 (.t 3)),
    i0 (.store 1 (.t 18) (.t 17))] [1, 2, 3, 14, 15] []) (.seq (.reg [i1 19 (.faddr 0 (.t 1)),
    i1 20 (.load 1 false (.t 19)),
    i1 21 (.faddr 0 (.t 3)),
    i1 22 (.load 1 false (.t 21)),
    i1 23 (.iaddr 2 (.t 20) (.t 22)),
    i1 24 (.faddr 1 (.t 23)),
    i1 25 (.load 1 false (.t 24)),
    i1 26 (.len 1 (.t 25)),
    i1 27 (.bin .gtr (.t 26) (.c (.int .i64 16)))] [1, 2, 3, 14, 15, 27] []) (.cond (.t 27) (.seq (.reg [i1 28 (.load 3 true (.t 3)),
    i0 (.store 3 (.t 2) (.t 28))] [2] []) (.ret)) (.skip))))) (.reg [i1 29 (.bin .add (.t 15) (.c (.int .i64 1))),
    i1 15 (.mov (.t 29))] [1, 2, 3, 14, 15] []))))))) (.seq (.reg [i1 30 (.faddr 2 (.t 3)),
    i0 (.store 1 (.t 30) (.c (.int .i64 7)))] [1, 2, 3] []) (.seq (.reg [i1 31 (.mkmap (false, [.str])),
    i1 4 (.mov (.t 31))] [1, 2, 3, 4] []) (.seq (.seq (.reg [i1 32 (.faddr 0 (.t 1)),
    i1 33 (.load 1 false (.t 32)),
    i1 34 (.len 1 (.t 33)),
    i1 35 (.mov (.c (.int .i64 0)))] [1, 2, 3, 4, 34, 35] []) (.block 2 (.loop [1, 2, 3, 4, 34, 35] (.seq (.reg [i1 36 (.bin .lss (.t 35) (.t 34))] [1, 2, 3, 4, 34, 35, 36] []) (.seq (.cond (.t 36) (.skip) (.exit 2)) (.seq (.block 3 (.seq (.reg [i1 37 (.mov (.t 35)),
    i1 38 (.faddr 0 (.t 3)),
    i0 (.store 1 (.t 38) (.t 37))] [1, 2, 3, 4, 34, 35] []) (.seq (.reg [i1 39 (.faddr 0 (.t 1)),
    i1 40 (.load 1 false (.t 39)),
    i1 41 (.faddr 0 (.t 3)),
    i1 42 (.load 1 false (.t 41)),
    i1 43 (.iaddr 2 (.t 40) (.t 42)),
    i1 44 (.faddr 0 (.t 43)),
    i1 45 (.load 1 false (.t 44)),
    i1 5 (.mov (.t 45))] [1, 2, 3, 4, 5, 34, 35] []) (.seq (.seq (.reg [i1 46 (.mov (.t 4)),
    i1 47 (.mov (.t 5)),
    i1 48 (.lookup (false, [.str]) false (.bool false) (.t 46) (.t 47))] [1, 2, 3, 4, 5, 34, 35, 48] []) (.cond (.t 48) (.seq (.reg [i1 49 (.load 3 true (.t 3)),
    i0 (.store 3 (.t 2) (.t 49))] [2] []) (.ret)) (.skip))) (.reg [i1 50 (.mov (.t 4)),
    i1 51 (.mov (.t 5)),
    i0 (.mupd (false, [.str]) (.t 50) (.t 51) (.c (.bool true)))] [1, 2, 3, 4, 34, 35] []))))) (.reg [i1 52 (.bin .add (.t 35) (.c (.int .i64 1))),
    i1 35 (.mov (.t 52))] [1, 2, 3, 4, 34, 35] []))))))) (.seq (.reg [i1 53 (.build [.int .i64 0, .int .i64 0, .int .i64 0] []),
    i0 (.store 3 (.t 2) (.t 53))] [2] []) (.ret))))))))
abbrev nr_rules_sizes : Nat := 51
def C_rules_sizes_2 (QF : AEnd → Store → Prop) (r0 : LE → Store → Prop) (v1 v2 v3 v4 v34 v35 : AV) (S : Store) : Prop :=
  biW .lss v35 v34 fun v36 =>
  cnW v36 (faW 0 v3 fun v38 =>
  stW S 1 v38 v35 fun S =>
  faW 0 v1 fun v39 =>
  ldW S 1 false v39 fun v40 =>
  faW 0 v3 fun v41 =>
  ldW S 1 false v41 fun v42 =>
  iaW 2 v40 v42 fun v43 =>
  faW 0 v43 fun v44 =>
  ldW S 1 false v44 fun v45 =>
  lkW S (false, [.str]) false (.bool false) v4 v45 fun v48 =>
  cnW v48 (ldW S 3 true v3 fun v49 =>
  stW S 3 v2 v49 fun S =>
  rtW [.cell v2 3 true] QF S)
  (muW S (false, [.str]) v4 v45 (.bool true) fun S =>
  biW .add v35 (.int .i64 1) fun v52 =>
  rcW r0 [(1, v1), (2, v2), (3, v3), (4, v4), (34, v34), (35, v52)] S))
  (bdW [.int .i64 0, .int .i64 0, .int .i64 0] [] fun v53 =>
  stW S 3 v2 v53 fun S =>
  rtW [.cell v2 3 true] QF S)
def C_rules_sizes_1 (QF : AEnd → Store → Prop) (r0 : LE → Store → Prop) (v1 v2 v3 v14 v15 : AV) (S : Store) : Prop :=
  biW .lss v15 v14 fun v16 =>
  cnW v16 (faW 0 v3 fun v18 =>
  stW S 1 v18 v15 fun S =>
  faW 0 v1 fun v19 =>
  ldW S 1 false v19 fun v20 =>
  faW 0 v3 fun v21 =>
  ldW S 1 false v21 fun v22 =>
  iaW 2 v20 v22 fun v23 =>
  faW 1 v23 fun v24 =>
  ldW S 1 false v24 fun v25 =>
  lnW S 1 v25 fun v26 =>
  biW .gtr v26 (.int .i64 16) fun v27 =>
  cnW v27 (ldW S 3 true v3 fun v28 =>
  stW S 3 v2 v28 fun S =>
  rtW [.cell v2 3 true] QF S)
  (biW .add v15 (.int .i64 1) fun v29 =>
  rcW r0 [(1, v1), (2, v2), (3, v3), (14, v14), (15, v29)] S))
  (faW 2 v3 fun v30 =>
  stW S 1 v30 (.int .i64 7) fun S =>
  mmW S (false, [.str]) fun v31 S =>
  faW 0 v1 fun v32 =>
  ldW S 1 false v32 fun v33 =>
  lnW S 1 v33 fun v34 =>
  LoopP (fun r0 l S => C_rules_sizes_2 QF r0 (lget l 1) (lget l 2) (lget l 3) (lget l 4) (lget l 34) (lget l 35) S) [(1, v1), (2, v2), (3, v3), (4, v31), (34, v34), (35, (.int .i64 0))] S)
def B_rules_sizes (QF : AEnd → Store → Prop) (v0 : AV) (S : Store) : Prop :=
  brW 1 v0 fun v1 =>
  alW S 33 [.int .i64 0, .int .i64 0, .int .i64 0] fun v2 S =>
  bdW [.int .i64 0, .int .i64 0, .int .i64 0] [(1, 1, (.int .i64 (-1))), (2, 1, (.int .i64 2))] fun v6 =>
  alW S 33 [.int .i64 0, .int .i64 0, .int .i64 0] fun v3 S =>
  stW S 3 v3 v6 fun S =>
  faW 0 v1 fun v7 =>
  ldW S 1 false v7 fun v8 =>
  lnW S 1 v8 fun v9 =>
  biW .gtr v9 (.int .i64 16) fun v10 =>
  cnW v10 (ldW S 3 true v3 fun v11 =>
  stW S 3 v2 v11 fun S =>
  rtW [.cell v2 3 true] QF S)
  (faW 0 v1 fun v12 =>
  ldW S 1 false v12 fun v13 =>
  lnW S 1 v13 fun v14 =>
  LoopP (fun r0 l S => C_rules_sizes_1 QF r0 (lget l 1) (lget l 2) (lget l 3) (lget l 14) (lget l 15) S) [(1, v1), (2, v2), (3, v3), (14, v14), (15, (.int .i64 0))] S)
theorem w_rules_sizes {QF : AEnd → Store → Prop} {v0 : AV} {S : Store} (h : B_rules_sizes QF v0 S) : ACalls PG nr_rules_sizes [v0] S QF :=
  acalls_tf (F := tf_rules_sizes) (by kernel_rfl) rfl (by kernel_rfl) h
def tf_rules_index_plain_1 : TFunc where
  n := 22
  args := 4
  res := [.tmp 7]
  code := .seq (.reg [i1 4 (.boxr 70 2 (.t 0)),
    i1 5 (.boxr 51 2 (.t 1)),
    i1 6 (.boxr 43 6 (.t 2)),
    i1 7 (.mov (.c (.int .i64 0)))] [3, 4, 5, 6] []) (.seq (.seq (.reg [i1 11 (.load 1 false (.t 3)),
    i1 12 (.faddr 0 (.t 5)),
    i1 13 (.load 1 false (.t 12)),
    i1 14 (.faddr 0 (.t 6)),
    i1 15 (.load 1 false (.t 14)),
    i1 16 (.call (.f 36) [.t 11, .t 13, .t 15]),
    i1 10 (.mov (.t 16)),
    i1 17 (.extr (.t 10) 0),
    i1 18 (.extr (.t 10) 1),
    .box2 8 70 [.int .i64 0, .int .i64 0] 2 (.t 17),
    i1 9 (.mov (.t 18))] [4, 8] []) (.seq (.reg [i1 19 (.load 2 true (.t 8)),
    i1 20 (.load 2 true (.t 4)),
    i1 21 (.eqp true (true, [.int .i64, .int .i64]) (.t 19) (.t 20))] [21] []) (.cond (.t 21) (.seq (.reg [i1 7 (.mov (.c (.int .i64 7)))] [7] []) (.ret)) (.skip)))) (.seq (.reg [i1 7 (.mov (.c (.int .i64 0)))] [7] []) (.ret)))
abbrev nr_rules_index_plain_1 : Nat := 52
def B_rules_index_plain_1 (QF : AEnd → Store → Prop) (v0 v1 v2 v3 : AV) (S : Store) : Prop :=
  brW 2 v0 fun v4 =>
  brW 2 v1 fun v5 =>
  brW 6 v2 fun v6 =>
  ldW S 1 false v3 fun v11 =>
  faW 0 v5 fun v12 =>
  ldW S 1 false v12 fun v13 =>
  faW 0 v6 fun v14 =>
  ldW S 1 false v14 fun v15 =>
  caW PG S (.func (.func 36) [] []) [v11, v13, v15] (fun v16 S =>
  exW 0 v16 fun v17 =>
  exW 1 v16 fun v18 =>
  bfW 2 v17 fun v8 =>
  ldW S 2 true v8 fun v19 =>
  ldW S 2 true v4 fun v20 =>
  eqW true (true, [.int .i64, .int .i64]) v19 v20 fun v21 =>
  cnW v21 (rtW [.tmp (.int .i64 7)] QF S)
  (rtW [.tmp (.int .i64 0)] QF S)) (pqW QF)
theorem w_rules_index_plain_1 {QF : AEnd → Store → Prop} {v0 v1 v2 v3 : AV} {S : Store} (h : B_rules_index_plain_1 QF v0 v1 v2 v3 S) : ACalls PG nr_rules_index_plain_1 [v0, v1, v2, v3] S QF :=
  acalls_tf (F := tf_rules_index_plain_1) (by kernel_rfl) rfl (by kernel_rfl) h
def tf_rules_index_plain_2 : TFunc where
  n := 13
  args := 4
  res := [.tmp 7]
  code := .seq (.reg [i1 4 (.boxr 70 2 (.t 0)),
    i1 5 (.boxr 51 2 (.t 1)),
    i1 6 (.boxr 43 6 (.t 2)),
    i1 7 (.mov (.c (.int .i64 0)))] [3, 5, 6] []) (.seq (.reg [i1 8 (.load 1 false (.t 3)),
    i1 9 (.faddr 0 (.t 5)),
    i1 10 (.load 1 false (.t 9)),
    i1 11 (.load 6 true (.t 6)),
    i1 12 (.call (.f 54) [.t 8, .t 10, .t 11]),
    i1 7 (.mov (.t 12))] [7] []) (.ret))
abbrev nr_rules_index_plain_2 : Nat := 53
def B_rules_index_plain_2 (QF : AEnd → Store → Prop) (v0 v1 v2 v3 : AV) (S : Store) : Prop :=
  brW 2 v0 fun v4 =>
  brW 2 v1 fun v5 =>
  brW 6 v2 fun v6 =>
  ldW S 1 false v3 fun v8 =>
  faW 0 v5 fun v9 =>
  ldW S 1 false v9 fun v10 =>
  ldW S 6 true v6 fun v11 =>
  caW PG S (.func (.func 54) [] []) [v8, v10, v11] (fun v12 S =>
  rtW [.tmp v12] QF S) (pqW QF)
theorem w_rules_index_plain_2 {QF : AEnd → Store → Prop} {v0 v1 v2 v3 : AV} {S : Store} (h : B_rules_index_plain_2 QF v0 v1 v2 v3 S) : ACalls PG nr_rules_index_plain_2 [v0, v1, v2, v3] S QF :=
  acalls_tf (F := tf_rules_index_plain_2) (by kernel_rfl) rfl (by kernel_rfl) h
end Go.HL
