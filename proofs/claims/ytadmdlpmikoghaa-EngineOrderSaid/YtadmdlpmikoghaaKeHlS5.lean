/- A part of a proof. -/
import Derived.Test.YtadmdlpmikoghaaKeHlP
set_option maxRecDepth 100000
set_option linter.unusedVariables false
namespace Go.HL
def tf_rules_index_over : TFunc where
  n := 39
  args := 3
  res := [.tmp 6]
  code := .seq (.reg [i1 4 (.boxr 43 6 (.t 1)),
    i1 6 (.mov (.c (.nils)))] [0, 2, 4] []) (.seq (.reg [i1 7 (.mov (.c (.nils)))] [0, 2, 4, 7] []) (.seq (.seq (.reg [i1 12 (.faddr 1 (.t 4)),
    i1 13 (.load 1 false (.t 12)),
    i1 14 (.len 1 (.t 13)),
    i1 15 (.mov (.c (.int .i64 0)))] [0, 2, 7, 13, 14, 15] []) (.block 0 (.loop [0, 2, 7, 13, 14, 15] (.seq (.reg [i1 16 (.bin .lss (.t 15) (.t 14))] [0, 2, 7, 13, 14, 15, 16] []) (.seq (.cond (.t 16) (.skip) (.exit 0)) (.seq (.block 1 (.seq (.reg [i1 17 (.iaddr 2 (.t 13) (.t 15)),
    i1 18 (.load 2 true (.t 17)),
    .box2 9 53 [.str ⟨#[]⟩, .str ⟨#[]⟩] 2 (.t 18)] [0, 2, 7, 9, 13, 14, 15] []) (.seq (.reg [i1 20 (.mov (.t 0)),
    i1 21 (.faddr 0 (.t 9)),
    i1 22 (.load 1 false (.t 21)),
    i1 23 (.mov (.t 2)),
    i1 24 (.call (.f 36) [.t 20, .t 22, .t 23]),
    i1 19 (.mov (.t 24)),
    i1 25 (.extr (.t 19) 0),
    i1 26 (.extr (.t 19) 1),
    .box2 10 70 [.int .i64 0, .int .i64 0] 2 (.t 25),
    i1 11 (.mov (.t 26))] [0, 2, 7, 9, 10, 11, 13, 14, 15] []) (.seq (.reg [i1 27 (.mov (.t 11)),
    i1 28 (.mov (.t 27)),
    .grp 28 true [s1 29 (.faddr 1 (.t 9)), s1 30 (.load 1 false (.t 29)), s1 31 (.bin .eql (.t 30) (.c (.str ⟨#[]⟩)))],
    i1 32 (.pick (.t 28) (.t 31) (.c (.bool false)))] [0, 2, 7, 10, 13, 14, 15, 32] []) (.cond (.t 32) (.reg [i1 33 (.mov (.t 7)),
    i1 34 (.load 2 true (.t 10)),
    i1 35 (.bslicr 70 2 [.t 34]),
    i1 36 (.app 70 2 16 (.t 33) (.t 35)),
    i1 7 (.mov (.t 36))] [0, 2, 7, 13, 14, 15] []) (.skip)))))) (.reg [i1 37 (.bin .add (.t 15) (.c (.int .i64 1))),
    i1 15 (.mov (.t 37))] [0, 2, 7, 13, 14, 15] []))))))) (.seq (.reg [i1 38 (.mov (.t 7)),
    i1 6 (.mov (.t 38))] [6] []) (.ret))))
abbrev nr_rules_index_over : Nat := 71
def C_rules_index_over_2 (QF : AEnd → Store → Prop) (r0 : LE → Store → Prop) (v0 v2 v7 v10 v13 v14 v15 v32 : AV) (S : Store) : Prop :=
  cnW v32 (ldW S 2 true v10 fun v34 =>
  srW 2 [v34] fun v35 =>
  apW S 70 2 16 v7 v35 fun v36 S =>
  biW .add v15 (.int .i64 1) fun v37 =>
  rcW r0 [(0, v0), (2, v2), (7, v36), (13, v13), (14, v14), (15, v37)] S)
  (biW .add v15 (.int .i64 1) fun v37 =>
  rcW r0 [(0, v0), (2, v2), (7, v7), (13, v13), (14, v14), (15, v37)] S)
def C_rules_index_over_1 (QF : AEnd → Store → Prop) (r0 : LE → Store → Prop) (v0 v2 v7 v13 v14 v15 : AV) (S : Store) : Prop :=
  biW .lss v15 v14 fun v16 =>
  cnW v16 (iaW 2 v13 v15 fun v17 =>
  ldW S 2 true v17 fun v18 =>
  bfW 2 v18 fun v9 =>
  faW 0 v9 fun v21 =>
  ldW S 1 false v21 fun v22 =>
  caW PG S (.func (.func 36) [] []) [v0, v22, v2] (fun v24 S =>
  exW 0 v24 fun v25 =>
  exW 1 v24 fun v26 =>
  bfW 2 v25 fun v10 =>
  grW v26 true (faW 1 v9 fun v29 =>
  ldW S 1 false v29 fun v30 =>
  biW .eql v30 (.str ⟨#[]⟩) fun v31 =>
  pkW v26 v31 (.bool false) fun v32 =>
  C_rules_index_over_2 QF r0 v0 v2 v7 v10 v13 v14 v15 v32 S)
  (pkW v26 undefA (.bool false) fun v32 =>
  C_rules_index_over_2 QF r0 v0 v2 v7 v10 v13 v14 v15 v32 S)) (pqW QF))
  (rtW [.tmp v7] QF S)
def B_rules_index_over (QF : AEnd → Store → Prop) (v0 v1 v2 : AV) (S : Store) : Prop :=
  brW 6 v1 fun v4 =>
  faW 1 v4 fun v12 =>
  ldW S 1 false v12 fun v13 =>
  lnW S 1 v13 fun v14 =>
  LoopP (fun r0 l S => C_rules_index_over_1 QF r0 (lget l 0) (lget l 2) (lget l 7) (lget l 13) (lget l 14) (lget l 15) S) [(0, v0), (2, v2), (7, (.nils)), (13, v13), (14, v14), (15, (.int .i64 0))] S
theorem w_rules_index_over {QF : AEnd → Store → Prop} {v0 v1 v2 : AV} {S : Store} (h : B_rules_index_over QF v0 v1 v2 S) : ACalls PG nr_rules_index_over [v0, v1, v2] S QF :=
  acalls_tf (F := tf_rules_index_over) (by kernel_rfl) rfl (by kernel_rfl) h
def tf_names_Name : TFunc where
  n := 15
  args := 1
  res := [.tmp 2]
  code := .seq (.reg [i1 2 (.mov (.c (.bool false)))] [0] []) (.seq (.seq (.reg [i1 3 (.mov (.t 0))] [0, 3] []) (.block 0 (.seq (.seq (.reg [i1 5 (.bin .eql (.t 3) (.c (.str ⟨#[116, 121, 112, 101]⟩))),
    i1 4 (.mov (.t 5))] [0, 3, 4] []) (.cond (.t 4) (.skip) (.seq (.reg [i1 6 (.bin .eql (.t 3) (.c (.str ⟨#[114, 101, 108, 97, 116, 105, 111, 110]⟩))),
    i1 4 (.mov (.t 6))] [0, 3, 4] []) (.cond (.t 4) (.skip) (.reg [i1 7 (.bin .eql (.t 3) (.c (.str ⟨#[100, 101, 102, 105, 110, 101]⟩))),
    i1 4 (.mov (.t 7))] [0, 4] []))))) (.cond (.t 4) (.seq (.reg [i1 2 (.mov (.c (.bool false)))] [2] []) (.ret)) (.skip))))) (.seq (.reg [i1 8 (.mov (.t 0)),
    i1 9 (.call (.f 100) [.t 8, .c (.int .i64 16), .f 101]),
    i1 10 (.mov (.t 9)),
    .grp 10 true [s1 11 (.mov (.t 0)), s1 12 (.idxs (.t 11) (.c (.int .i64 0))), s1 13 (.call (.f 102) [.t 12])],
    i1 14 (.pick (.t 10) (.t 13) (.c (.bool false))),
    i1 2 (.mov (.t 14))] [2] []) (.ret)))
abbrev nr_names_Name : Nat := 75
def C_names_Name_1 (QF : AEnd → Store → Prop) (v0 v4 : AV) (S : Store) : Prop :=
  cnW v4 (rtW [.tmp (.bool false)] QF S)
  (caW PG S (.func (.func 100) [] []) [v0, (.int .i64 16), (.func (.func 101) [] [])] (fun v9 S =>
  grW v9 true (isW v0 (.int .i64 0) fun v12 =>
  caW PG S (.func (.func 102) [] []) [v12] (fun v13 S =>
  pkW v9 v13 (.bool false) fun v14 =>
  rtW [.tmp v14] QF S) (pqW QF))
  (pkW v9 undefA (.bool false) fun v14 =>
  rtW [.tmp v14] QF S)) (pqW QF))
def B_names_Name (QF : AEnd → Store → Prop) (v0 : AV) (S : Store) : Prop :=
  biW .eql v0 (.str ⟨#[116, 121, 112, 101]⟩) fun v5 =>
  cnW v5 (C_names_Name_1 QF v0 v5 S)
  (biW .eql v0 (.str ⟨#[114, 101, 108, 97, 116, 105, 111, 110]⟩) fun v6 =>
  cnW v6 (C_names_Name_1 QF v0 v6 S)
  (biW .eql v0 (.str ⟨#[100, 101, 102, 105, 110, 101]⟩) fun v7 =>
  C_names_Name_1 QF v0 v7 S))
theorem w_names_Name {QF : AEnd → Store → Prop} {v0 : AV} {S : Store} (h : B_names_Name QF v0 S) : ACalls PG nr_names_Name [v0] S QF :=
  acalls_tf (F := tf_names_Name) (by kernel_rfl) rfl (by kernel_rfl) h
def tf_slices_ContainsFunc_Rel : TFunc where
  n := 9
  args := 2
  res := [.tmp 4]
  code := .seq (.reg [i1 4 (.mov (.c (.bool false)))] [0, 1] []) (.seq (.reg [i1 5 (.mov (.t 0)),
    i1 6 (.mov (.t 1)),
    i1 7 (.call (.f 104) [.t 5, .t 6]),
    i1 8 (.bin .geq (.t 7) (.c (.int .i64 0))),
    i1 4 (.mov (.t 8))] [4] []) (.ret))
abbrev nr_slices_ContainsFunc_Rel : Nat := 76
def B_slices_ContainsFunc_Rel (QF : AEnd → Store → Prop) (v0 v1 : AV) (S : Store) : Prop :=
  caW PG S (.func (.func 104) [] []) [v0, v1] (fun v7 S =>
  biW .geq v7 (.int .i64 0) fun v8 =>
  rtW [.tmp v8] QF S) (pqW QF)
theorem w_slices_ContainsFunc_Rel {QF : AEnd → Store → Prop} {v0 v1 : AV} {S : Store} (h : B_slices_ContainsFunc_Rel QF v0 v1 S) : ACalls PG nr_slices_ContainsFunc_Rel [v0, v1] S QF :=
  acalls_tf (F := tf_slices_ContainsFunc_Rel) (by kernel_rfl) rfl (by kernel_rfl) h
def tf_lang_May_1 : TFunc where
  n := 6
  args := 1
  res := [.tmp 2]
  code := .seq (.reg [i1 1 (.boxr 43 6 (.t 0)),
    i1 2 (.mov (.c (.bool false)))] [1] []) (.seq (.reg [i1 3 (.load 6 true (.t 1)),
    i1 4 (.call (.f 78) [.t 3]),
    i1 5 (.not (.t 4)),
    i1 2 (.mov (.t 5))] [2] []) (.ret))
abbrev nr_lang_May_1 : Nat := 77
def B_lang_May_1 (QF : AEnd → Store → Prop) (v0 : AV) (S : Store) : Prop :=
  brW 6 v0 fun v1 =>
  ldW S 6 true v1 fun v3 =>
  caW PG S (.func (.func 78) [] []) [v3] (fun v4 S =>
  ntW v4 fun v5 =>
  rtW [.tmp v5] QF S) (pqW QF)
theorem w_lang_May_1 {QF : AEnd → Store → Prop} {v0 : AV} {S : Store} (h : B_lang_May_1 QF v0 S) : ACalls PG nr_lang_May_1 [v0] S QF :=
  acalls_tf (F := tf_lang_May_1) (by kernel_rfl) rfl (by kernel_rfl) h
def tf_lang_rel : TFunc where
  n := 24
  args := 1
  res := [.tmp 2]
  code := .seq (.reg [i1 1 (.boxr 43 6 (.t 0)),
    i1 2 (.mov (.c (.bool false)))] [1] []) (.seq (.seq (.reg [i1 3 (.faddr 1 (.t 1)),
    i1 4 (.load 1 false (.t 3)),
    i1 5 (.len 1 (.t 4)),
    i1 6 (.bin .eql (.t 5) (.c (.int .i64 0)))] [1, 6] []) (.cond (.t 6) (.seq (.reg [i1 7 (.faddr 0 (.t 1)),
    i1 8 (.load 1 false (.t 7)),
    i1 9 (.call (.f 75) [.t 8]),
    i1 10 (.mov (.t 9)),
    .grp 10 true [s1 11 (.faddr 2 (.t 1)), s1 12 (.load 4 true (.t 11)), s1 13 (.call (.f 105) [.t 12, .c (.int .i64 12)])],
    i1 14 (.pick (.t 10) (.t 13) (.c (.bool false))),
    i1 2 (.mov (.t 14))] [2] []) (.ret)) (.skip))) (.seq (.reg [i1 15 (.faddr 0 (.t 1)),
    i1 16 (.load 1 false (.t 15)),
    i1 17 (.call (.f 75) [.t 16]),
    i1 18 (.mov (.t 17)),
    .grp 18 true [s1 19 (.faddr 1 (.t 1)), s1 20 (.load 1 false (.t 19)), s1 21 (.call (.f 106) [.t 20, .f 107]), s1 22 (.not (.t 21))],
    i1 23 (.pick (.t 18) (.t 22) (.c (.bool false))),
    i1 2 (.mov (.t 23))] [2] []) (.ret)))
abbrev nr_lang_rel : Nat := 78
def B_lang_rel (QF : AEnd → Store → Prop) (v0 : AV) (S : Store) : Prop :=
  brW 6 v0 fun v1 =>
  faW 1 v1 fun v3 =>
  ldW S 1 false v3 fun v4 =>
  lnW S 1 v4 fun v5 =>
  biW .eql v5 (.int .i64 0) fun v6 =>
  cnW v6 (faW 0 v1 fun v7 =>
  ldW S 1 false v7 fun v8 =>
  caW PG S (.func (.func 75) [] []) [v8] (fun v9 S =>
  grW v9 true (faW 2 v1 fun v11 =>
  ldW S 4 true v11 fun v12 =>
  caW PG S (.func (.func 105) [] []) [v12, (.int .i64 12)] (fun v13 S =>
  pkW v9 v13 (.bool false) fun v14 =>
  rtW [.tmp v14] QF S) (pqW QF))
  (pkW v9 undefA (.bool false) fun v14 =>
  rtW [.tmp v14] QF S)) (pqW QF))
  (faW 0 v1 fun v15 =>
  ldW S 1 false v15 fun v16 =>
  caW PG S (.func (.func 75) [] []) [v16] (fun v17 S =>
  grW v17 true (faW 1 v1 fun v19 =>
  ldW S 1 false v19 fun v20 =>
  caW PG S (.func (.func 106) [] []) [v20, (.func (.func 107) [] [])] (fun v21 S =>
  ntW v21 fun v22 =>
  pkW v17 v22 (.bool false) fun v23 =>
  rtW [.tmp v23] QF S) (pqW QF))
  (pkW v17 undefA (.bool false) fun v23 =>
  rtW [.tmp v23] QF S)) (pqW QF))
theorem w_lang_rel {QF : AEnd → Store → Prop} {v0 : AV} {S : Store} (h : B_lang_rel QF v0 S) : ACalls PG nr_lang_rel [v0] S QF :=
  acalls_tf (F := tf_lang_rel) (by kernel_rfl) rfl (by kernel_rfl) h
def tf_rules_index_names_1 : TFunc where
  n := 14
  args := 5
  res := [.tmp 7]
  code := .seq (.reg [i1 5 (.boxr 41 4 (.t 0)),
    i1 7 (.mov (.c (.bool false)))] [2, 3, 4, 5] []) (.seq (.reg [i1 8 (.load 1 false (.t 2)),
    i1 9 (.load 1 false (.t 3)),
    i1 10 (.load 4 true (.t 5)),
    i1 11 (.call (.f 80) [.t 8, .t 9, .t 10]),
    i0 (.store 1 (.t 4) (.t 11))] [4] []) (.seq (.reg [i1 12 (.load 1 false (.t 4)),
    i1 13 (.bin .eql (.t 12) (.c (.int .i64 0))),
    i1 7 (.mov (.t 13))] [7] []) (.ret)))
abbrev nr_rules_index_names_1 : Nat := 79
def B_rules_index_names_1 (QF : AEnd → Store → Prop) (v0 v1 v2 v3 v4 : AV) (S : Store) : Prop :=
  brW 4 v0 fun v5 =>
  ldW S 1 false v2 fun v8 =>
  ldW S 1 false v3 fun v9 =>
  ldW S 4 true v5 fun v10 =>
  caW PG S (.func (.func 80) [] []) [v8, v9, v10] (fun v11 S =>
  stW S 1 v4 v11 fun S =>
  ldW S 1 false v4 fun v12 =>
  biW .eql v12 (.int .i64 0) fun v13 =>
  rtW [.tmp v13] QF S) (pqW QF)
theorem w_rules_index_names_1 {QF : AEnd → Store → Prop} {v0 v1 v2 v3 v4 : AV} {S : Store} (h : B_rules_index_names_1 QF v0 v1 v2 v3 v4 S) : ACalls PG nr_rules_index_names_1 [v0, v1, v2, v3, v4] S QF :=
  acalls_tf (F := tf_rules_index_names_1) (by kernel_rfl) rfl (by kernel_rfl) h
def tf_rules_index_atom : TFunc where
  n := 41
  args := 3
  res := [.tmp 6]
  code := .seq (.reg [i1 5 (.boxr 41 4 (.t 2)),
    i1 6 (.mov (.c (.int .i64 0)))] [0, 1, 5] []) (.seq (.reg [i1 10 (.mov (.t 0)),
    i1 11 (.mov (.t 1)),
    i1 12 (.faddr 1 (.t 5)),
    i1 13 (.load 1 false (.t 12)),
    i1 14 (.call (.f 36) [.t 10, .t 11, .t 13]),
    i1 9 (.mov (.t 14)),
    i1 15 (.extr (.t 9) 0),
    i1 16 (.extr (.t 9) 1),
    .box2 7 70 [.int .i64 0, .int .i64 0] 2 (.t 15),
    i1 8 (.mov (.t 16))] [0, 5, 7, 8] []) (.seq (.block 0 (.seq (.reg [i1 18 (.mov (.t 8)),
    i1 19 (.not (.t 18)),
    i1 17 (.mov (.t 19))] [0, 5, 7, 17] []) (.cond (.t 17) (.seq (.reg [i1 6 (.mov (.c (.int .i64 6)))] [6] []) (.ret)) (.seq (.reg [i1 21 (.faddr 0 (.t 5)),
    i1 22 (.load 1 false (.t 21)),
    i1 23 (.bin .eql (.t 22) (.c (.int .i64 0))),
    i1 20 (.mov (.t 23))] [0, 5, 7, 20] []) (.cond (.t 20) (.seq (.reg [i1 6 (.mov (.c (.int .i64 0)))] [6] []) (.ret)) (.seq (.reg [i1 25 (.mov (.t 0)),
    i1 26 (.load 2 true (.t 7)),
    i1 27 (.call (.f 37) [.t 25, .t 26]),
    i1 28 (.field 1 1 false (.t 27)),
    i1 29 (.len 1 (.t 28)),
    i1 30 (.bin .eql (.t 29) (.c (.int .i64 0))),
    i1 24 (.mov (.t 30))] [0, 5, 7, 24] []) (.cond (.t 24) (.seq (.reg [i1 6 (.mov (.c (.int .i64 10)))] [6] []) (.ret)) (.seq (.regl [0, 1, 4, 2, 5, 3, 6, 7, 8, 9] [i1 32 (.mov (.t 0)),
    i1 33 (.mov (.t 0)),
    i1 36 (.faddr 2 (.t 5)),
    i1 34 (.load 2 true (.t 7)),
    i1 37 (.load 1 false (.t 36)),
    .one { d := some 35, o := .call (.f 37) [.t 33, .t 34], x := [36] },
    i1 38 (.call (.f 71) [.t 32, .t 35, .t 37]),
    i1 39 (.len 1 (.t 38)),
    i1 40 (.bin .eql (.t 39) (.c (.int .i64 0))),
    i1 31 (.mov (.t 40))] [31] []) (.cond (.t 31) (.seq (.reg [i1 6 (.mov (.c (.int .i64 6)))] [6] []) (.ret)) (.skip)))))))))) (.seq (.reg [i1 6 (.mov (.c (.int .i64 0)))] [6] []) (.ret))))
abbrev nr_rules_index_atom : Nat := 80
def B_rules_index_atom (QF : AEnd → Store → Prop) (v0 v1 v2 : AV) (S : Store) : Prop :=
  brW 4 v2 fun v5 =>
  faW 1 v5 fun v12 =>
  ldW S 1 false v12 fun v13 =>
  caW PG S (.func (.func 36) [] []) [v0, v1, v13] (fun v14 S =>
  exW 0 v14 fun v15 =>
  exW 1 v14 fun v16 =>
  bfW 2 v15 fun v7 =>
  ntW v16 fun v19 =>
  cnW v19 (rtW [.tmp (.int .i64 6)] QF S)
  (faW 0 v5 fun v21 =>
  ldW S 1 false v21 fun v22 =>
  biW .eql v22 (.int .i64 0) fun v23 =>
  cnW v23 (rtW [.tmp (.int .i64 0)] QF S)
  (ldW S 2 true v7 fun v26 =>
  caW PG S (.func (.func 37) [] []) [v0, v26] (fun v27 S =>
  fdW 1 1 false v27 fun v28 =>
  lnW S 1 v28 fun v29 =>
  biW .eql v29 (.int .i64 0) fun v30 =>
  cnW v30 (rtW [.tmp (.int .i64 10)] QF S)
  (faW 2 v5 fun v36 =>
  ldW S 2 true v7 fun v34 =>
  ldW S 1 false v36 fun v37 =>
  caW PG S (.func (.func 37) [] []) [v0, v34] (fun v35 S1 =>
  kpW [v36] S S1 (
  caW PG S1 (.func (.func 71) [] []) [v0, v35, v37] (fun v38 S =>
  lnW S 1 v38 fun v39 =>
  biW .eql v39 (.int .i64 0) fun v40 =>
  cnW v40 (rtW [.tmp (.int .i64 6)] QF S)
  (rtW [.tmp (.int .i64 0)] QF S)) (pqW QF))) (pqW QF))) (pqW QF)))) (pqW QF)
theorem w_rules_index_atom {QF : AEnd → Store → Prop} {v0 v1 v2 : AV} {S : Store} (h : B_rules_index_atom QF v0 v1 v2 S) : ACalls PG nr_rules_index_atom [v0, v1, v2] S QF :=
  acalls_tf (F := tf_rules_index_atom) (by kernel_rfl) rfl (by kernel_rfl) h
def tf_ref10_Name : TFunc where
  n := 59
  args := 1
  res := [.tmp 2]
  code := .seq (.reg [i1 2 (.mov (.c (.bool false)))] [0] []) (.seq (.seq (.reg [i1 6 (.mov (.t 0)),
    i1 7 (.len 0 (.t 6)),
    i1 8 (.bin .eql (.t 7) (.c (.int .i64 0))),
    i1 9 (.mov (.t 8)),
    .grp 9 false [s1 10 (.mov (.t 0)), s1 11 (.len 0 (.t 10)), s1 12 (.bin .gtr (.t 11) (.c (.int .i64 16)))],
    i1 13 (.pick (.t 9) (.c (.bool true)) (.t 12)),
    i1 14 (.mov (.t 13)),
    .grp 14 false [s1 15 (.mov (.t 0)), s1 16 (.bin .eql (.t 15) (.c (.str ⟨#[116, 121, 112, 101]⟩)))],
    i1 17 (.pick (.t 14) (.c (.bool true)) (.t 16)),
    i1 18 (.mov (.t 17)),
    .grp 18 false [s1 19 (.mov (.t 0)), s1 20 (.bin .eql (.t 19) (.c (.str ⟨#[114, 101, 108, 97, 116, 105, 111, 110]⟩)))],
    i1 21 (.pick (.t 18) (.c (.bool true)) (.t 20)),
    i1 22 (.mov (.t 21)),
    .grp 22 false [s1 23 (.mov (.t 0)), s1 24 (.bin .eql (.t 23) (.c (.str ⟨#[100, 101, 102, 105, 110, 101]⟩)))],
    i1 25 (.pick (.t 22) (.c (.bool true)) (.t 24))] [0, 25] []) (.cond (.t 25) (.seq (.reg [i1 2 (.mov (.c (.bool false)))] [2] []) (.ret)) (.skip))) (.seq (.seq (.reg [i1 3 (.mov (.c (.int .i64 0)))] [0, 3] []) (.block 0 (.loop [0, 3] (.seq (.seq (.reg [i1 26 (.mov (.t 3)),
    i1 27 (.mov (.t 0)),
    i1 28 (.len 0 (.t 27)),
    i1 29 (.bin .lss (.t 26) (.t 28))] [0, 3, 29] []) (.cond (.t 29) (.skip) (.exit 0))) (.seq (.block 1 (.seq (.reg [i1 32 (.mov (.t 0)),
    i1 33 (.mov (.t 3)),
    i1 34 (.idxs (.t 32) (.t 33)),
    i1 4 (.mov (.t 34))] [0, 3, 4] []) (.seq (.reg [i1 35 (.mov (.t 4)),
    i1 36 (.bin .geq (.t 35) (.c (.int .u8 97))),
    i1 37 (.mov (.t 36)),
    .grp 37 true [s1 38 (.mov (.t 4)), s1 39 (.bin .leq (.t 38) (.c (.int .u8 122)))],
    i1 40 (.pick (.t 37) (.t 39) (.c (.bool false))),
    i1 5 (.mov (.t 40))] [0, 3, 4, 5] []) (.seq (.reg [i1 41 (.mov (.t 5)),
    i1 42 (.not (.t 41)),
    i1 43 (.mov (.t 42)),
    .grp 43 true [s1 44 (.mov (.t 3)), s1 45 (.bin .eql (.t 44) (.c (.int .i64 0))), s1 46 (.mov (.t 45))],
    .grp 46 false [s1 47 (.mov (.t 4)), s1 48 (.bin .neq (.t 47) (.c (.int .u8 95))), s1 49 (.mov (.t 48))],
    .grp 49 true [s1 50 (.mov (.t 4)), s1 51 (.bin .lss (.t 50) (.c (.int .u8 48))), s1 52 (.mov (.t 51))],
    .grp 52 false [s1 53 (.mov (.t 4)), s1 54 (.bin .gtr (.t 53) (.c (.int .u8 57)))],
    .grp 49 true [s1 55 (.pick (.t 52) (.c (.bool true)) (.t 54))],
    .grp 46 false [s1 56 (.pick (.t 49) (.t 55) (.c (.bool false)))],
    .grp 43 true [s1 57 (.pick (.t 46) (.c (.bool true)) (.t 56))],
    i1 58 (.pick (.t 43) (.t 57) (.c (.bool false)))] [0, 3, 58] []) (.cond (.t 58) (.seq (.reg [i1 2 (.mov (.c (.bool false)))] [2] []) (.ret)) (.skip)))))) (.reg [i1 30 (.mov (.t 3)),
    i1 31 (.bin .add (.t 30) (.c (.int .i64 1))),
    i1 3 (.mov (.t 31))] [0, 3] [])))))) (.seq (.reg [i1 2 (.mov (.c (.bool true)))] [2] []) (.ret))))
abbrev nr_ref10_Name : Nat := 81
def C_ref10_Name_12 (QF : AEnd → Store → Prop) (r0 : LE → Store → Prop) (v0 v3 v43 v46 v56 : AV) (S : Store) : Prop :=
  grW v43 true (pkW v46 (.bool true) v56 fun v57 =>
  pkW v43 v57 (.bool false) fun v58 =>
  cnW v58 (rtW [.tmp (.bool false)] QF S)
  (biW .add v3 (.int .i64 1) fun v31 =>
  rcW r0 [(0, v0), (3, v31)] S))
  (pkW v43 undefA (.bool false) fun v58 =>
  cnW v58 (rtW [.tmp (.bool false)] QF S)
  (biW .add v3 (.int .i64 1) fun v31 =>
  rcW r0 [(0, v0), (3, v31)] S))
def C_ref10_Name_11 (QF : AEnd → Store → Prop) (r0 : LE → Store → Prop) (v0 v3 v43 v46 v49 v55 : AV) (S : Store) : Prop :=
  grW v46 false (pkW v49 v55 (.bool false) fun v56 =>
  C_ref10_Name_12 QF r0 v0 v3 v43 v46 v56 S)
  (C_ref10_Name_12 QF r0 v0 v3 v43 v46 undefA S)
def C_ref10_Name_10 (QF : AEnd → Store → Prop) (r0 : LE → Store → Prop) (v0 v3 v43 v46 v49 v52 v54 : AV) (S : Store) : Prop :=
  grW v49 true (pkW v52 (.bool true) v54 fun v55 =>
  C_ref10_Name_11 QF r0 v0 v3 v43 v46 v49 v55 S)
  (C_ref10_Name_11 QF r0 v0 v3 v43 v46 v49 undefA S)
def C_ref10_Name_9 (QF : AEnd → Store → Prop) (r0 : LE → Store → Prop) (v0 v3 v4 v43 v46 v49 v52 : AV) (S : Store) : Prop :=
  grW v52 false (biW .gtr v4 (.int .u8 57) fun v54 =>
  C_ref10_Name_10 QF r0 v0 v3 v43 v46 v49 v52 v54 S)
  (C_ref10_Name_10 QF r0 v0 v3 v43 v46 v49 v52 undefA S)
def C_ref10_Name_8 (QF : AEnd → Store → Prop) (r0 : LE → Store → Prop) (v0 v3 v4 v43 v46 v49 : AV) (S : Store) : Prop :=
  grW v49 true (biW .lss v4 (.int .u8 48) fun v51 =>
  C_ref10_Name_9 QF r0 v0 v3 v4 v43 v46 v49 v51 S)
  (C_ref10_Name_9 QF r0 v0 v3 v4 v43 v46 v49 undefA S)
def C_ref10_Name_7 (QF : AEnd → Store → Prop) (r0 : LE → Store → Prop) (v0 v3 v4 v43 v46 : AV) (S : Store) : Prop :=
  grW v46 false (biW .neq v4 (.int .u8 95) fun v48 =>
  C_ref10_Name_8 QF r0 v0 v3 v4 v43 v46 v48 S)
  (C_ref10_Name_8 QF r0 v0 v3 v4 v43 v46 undefA S)
def C_ref10_Name_6 (QF : AEnd → Store → Prop) (r0 : LE → Store → Prop) (v0 v3 v4 v40 : AV) (S : Store) : Prop :=
  ntW v40 fun v42 =>
  grW v42 true (biW .eql v3 (.int .i64 0) fun v45 =>
  C_ref10_Name_7 QF r0 v0 v3 v4 v42 v45 S)
  (C_ref10_Name_7 QF r0 v0 v3 v4 v42 undefA S)
def C_ref10_Name_5 (QF : AEnd → Store → Prop) (r0 : LE → Store → Prop) (v0 v3 : AV) (S : Store) : Prop :=
  lnW S 0 v0 fun v28 =>
  biW .lss v3 v28 fun v29 =>
  cnW v29 (isW v0 v3 fun v34 =>
  biW .geq v34 (.int .u8 97) fun v36 =>
  grW v36 true (biW .leq v34 (.int .u8 122) fun v39 =>
  pkW v36 v39 (.bool false) fun v40 =>
  C_ref10_Name_6 QF r0 v0 v3 v34 v40 S)
  (pkW v36 undefA (.bool false) fun v40 =>
  C_ref10_Name_6 QF r0 v0 v3 v34 v40 S))
  (rtW [.tmp (.bool true)] QF S)
def C_ref10_Name_4 (QF : AEnd → Store → Prop) (v0 v25 : AV) (S : Store) : Prop :=
  cnW v25 (rtW [.tmp (.bool false)] QF S)
  (LoopP (fun r0 l S => C_ref10_Name_5 QF r0 (lget l 0) (lget l 3) S) [(0, v0), (3, (.int .i64 0))] S)
def C_ref10_Name_3 (QF : AEnd → Store → Prop) (v0 v21 : AV) (S : Store) : Prop :=
  grW v21 false (biW .eql v0 (.str ⟨#[100, 101, 102, 105, 110, 101]⟩) fun v24 =>
  pkW v21 (.bool true) v24 fun v25 =>
  C_ref10_Name_4 QF v0 v25 S)
  (pkW v21 (.bool true) undefA fun v25 =>
  C_ref10_Name_4 QF v0 v25 S)
def C_ref10_Name_2 (QF : AEnd → Store → Prop) (v0 v17 : AV) (S : Store) : Prop :=
  grW v17 false (biW .eql v0 (.str ⟨#[114, 101, 108, 97, 116, 105, 111, 110]⟩) fun v20 =>
  pkW v17 (.bool true) v20 fun v21 =>
  C_ref10_Name_3 QF v0 v21 S)
  (pkW v17 (.bool true) undefA fun v21 =>
  C_ref10_Name_3 QF v0 v21 S)
def C_ref10_Name_1 (QF : AEnd → Store → Prop) (v0 v13 : AV) (S : Store) : Prop :=
  grW v13 false (biW .eql v0 (.str ⟨#[116, 121, 112, 101]⟩) fun v16 =>
  pkW v13 (.bool true) v16 fun v17 =>
  C_ref10_Name_2 QF v0 v17 S)
  (pkW v13 (.bool true) undefA fun v17 =>
  C_ref10_Name_2 QF v0 v17 S)
def B_ref10_Name (QF : AEnd → Store → Prop) (v0 : AV) (S : Store) : Prop :=
  lnW S 0 v0 fun v7 =>
  biW .eql v7 (.int .i64 0) fun v8 =>
  grW v8 false (lnW S 0 v0 fun v11 =>
  biW .gtr v11 (.int .i64 16) fun v12 =>
  pkW v8 (.bool true) v12 fun v13 =>
  C_ref10_Name_1 QF v0 v13 S)
  (pkW v8 (.bool true) undefA fun v13 =>
  C_ref10_Name_1 QF v0 v13 S)
theorem w_ref10_Name {QF : AEnd → Store → Prop} {v0 : AV} {S : Store} (h : B_ref10_Name QF v0 S) : ACalls PG nr_ref10_Name [v0] S QF :=
  acalls_tf (F := tf_ref10_Name) (by kernel_rfl) rfl (by kernel_rfl) h
def tf_ref11_word : TFunc where
  n := 45
  args := 1
  res := [.tmp 2]
  code := .seq (.reg [i1 2 (.mov (.c (.int .i64 0)))] [0] []) (.seq (.reg [i1 3 (.mov (.c (.int .i64 0)))] [0, 3] []) (.seq (.block 0 (.loop [0, 3] (.seq (.seq (.reg [i1 4 (.mov (.t 3)),
    i1 5 (.mov (.t 0)),
    i1 6 (.len 0 (.t 5)),
    i1 7 (.bin .lss (.t 4) (.t 6)),
    i1 8 (.mov (.t 7)),
    .grp 8 true [s1 9 (.mov (.t 0)), s1 10 (.mov (.t 3)), s1 11 (.idxs (.t 9) (.t 10)), s1 12 (.bin .geq (.t 11) (.c (.int .u8 97))), s1 13 (.mov (.t 12))],
    .grp 13 true [s1 14 (.mov (.t 0)), s1 15 (.mov (.t 3)), s1 16 (.idxs (.t 14) (.t 15)), s1 17 (.bin .leq (.t 16) (.c (.int .u8 122)))],
    .grp 8 true [s1 18 (.pick (.t 13) (.t 17) (.c (.bool false))), s1 19 (.mov (.t 18))],
    .grp 19 false [s1 20 (.mov (.t 3)), s1 21 (.bin .gtr (.t 20) (.c (.int .i64 0))), s1 22 (.mov (.t 21))],
    .grp 22 true [s1 23 (.mov (.t 0)), s1 24 (.mov (.t 3)), s1 25 (.idxs (.t 23) (.t 24)), s1 26 (.bin .eql (.t 25) (.c (.int .u8 95))), s1 27 (.mov (.t 26))],
    .grp 27 false [s1 28 (.mov (.t 0)), s1 29 (.mov (.t 3)), s1 30 (.idxs (.t 28) (.t 29)), s1 31 (.bin .geq (.t 30) (.c (.int .u8 48))), s1 32 (.mov (.t 31))],
    .grp 32 true [s1 33 (.mov (.t 0)), s1 34 (.mov (.t 3)), s1 35 (.idxs (.t 33) (.t 34)), s1 36 (.bin .leq (.t 35) (.c (.int .u8 57)))],
    .grp 27 false [s1 37 (.pick (.t 32) (.t 36) (.c (.bool false)))],
    .grp 22 true [s1 38 (.pick (.t 27) (.c (.bool true)) (.t 37))],
    .grp 19 false [s1 39 (.pick (.t 22) (.t 38) (.c (.bool false)))],
    .grp 8 true [s1 40 (.pick (.t 19) (.c (.bool true)) (.t 39))],
    i1 41 (.pick (.t 8) (.t 40) (.c (.bool false)))] [0, 3, 41] []) (.cond (.t 41) (.skip) (.exit 0))) (.block 1 (.reg [i1 42 (.mov (.t 3)),
    i1 43 (.bin .add (.t 42) (.c (.int .i64 1))),
    i1 3 (.mov (.t 43))] [0, 3] []))))) (.seq (.reg [i1 44 (.mov (.t 3)),
    i1 2 (.mov (.t 44))] [2] []) (.ret))))
abbrev nr_ref11_word : Nat := 84
def C_ref11_word_11 (QF : AEnd → Store → Prop) (r0 : LE → Store → Prop) (v0 v3 v8 v19 v39 : AV) (S : Store) : Prop :=
  grW v8 true (pkW v19 (.bool true) v39 fun v40 =>
  pkW v8 v40 (.bool false) fun v41 =>
  cnW v41 (biW .add v3 (.int .i64 1) fun v43 =>
  rcW r0 [(0, v0), (3, v43)] S)
  (rtW [.tmp v3] QF S))
  (pkW v8 undefA (.bool false) fun v41 =>
  cnW v41 (biW .add v3 (.int .i64 1) fun v43 =>
  rcW r0 [(0, v0), (3, v43)] S)
  (rtW [.tmp v3] QF S))
def C_ref11_word_10 (QF : AEnd → Store → Prop) (r0 : LE → Store → Prop) (v0 v3 v8 v19 v22 v38 : AV) (S : Store) : Prop :=
  grW v19 false (pkW v22 v38 (.bool false) fun v39 =>
  C_ref11_word_11 QF r0 v0 v3 v8 v19 v39 S)
  (C_ref11_word_11 QF r0 v0 v3 v8 v19 undefA S)
def C_ref11_word_9 (QF : AEnd → Store → Prop) (r0 : LE → Store → Prop) (v0 v3 v8 v19 v22 v27 v37 : AV) (S : Store) : Prop :=
  grW v22 true (pkW v27 (.bool true) v37 fun v38 =>
  C_ref11_word_10 QF r0 v0 v3 v8 v19 v22 v38 S)
  (C_ref11_word_10 QF r0 v0 v3 v8 v19 v22 undefA S)
def C_ref11_word_8 (QF : AEnd → Store → Prop) (r0 : LE → Store → Prop) (v0 v3 v8 v19 v22 v27 v32 v36 : AV) (S : Store) : Prop :=
  grW v27 false (pkW v32 v36 (.bool false) fun v37 =>
  C_ref11_word_9 QF r0 v0 v3 v8 v19 v22 v27 v37 S)
  (C_ref11_word_9 QF r0 v0 v3 v8 v19 v22 v27 undefA S)
def C_ref11_word_7 (QF : AEnd → Store → Prop) (r0 : LE → Store → Prop) (v0 v3 v8 v19 v22 v27 v32 : AV) (S : Store) : Prop :=
  grW v32 true (isW v0 v3 fun v35 =>
  biW .leq v35 (.int .u8 57) fun v36 =>
  C_ref11_word_8 QF r0 v0 v3 v8 v19 v22 v27 v32 v36 S)
  (C_ref11_word_8 QF r0 v0 v3 v8 v19 v22 v27 v32 undefA S)
def C_ref11_word_6 (QF : AEnd → Store → Prop) (r0 : LE → Store → Prop) (v0 v3 v8 v19 v22 v27 : AV) (S : Store) : Prop :=
  grW v27 false (isW v0 v3 fun v30 =>
  biW .geq v30 (.int .u8 48) fun v31 =>
  C_ref11_word_7 QF r0 v0 v3 v8 v19 v22 v27 v31 S)
  (C_ref11_word_7 QF r0 v0 v3 v8 v19 v22 v27 undefA S)
def C_ref11_word_5 (QF : AEnd → Store → Prop) (r0 : LE → Store → Prop) (v0 v3 v8 v19 v22 : AV) (S : Store) : Prop :=
  grW v22 true (isW v0 v3 fun v25 =>
  biW .eql v25 (.int .u8 95) fun v26 =>
  C_ref11_word_6 QF r0 v0 v3 v8 v19 v22 v26 S)
  (C_ref11_word_6 QF r0 v0 v3 v8 v19 v22 undefA S)
def C_ref11_word_4 (QF : AEnd → Store → Prop) (r0 : LE → Store → Prop) (v0 v3 v8 v19 : AV) (S : Store) : Prop :=
  grW v19 false (biW .gtr v3 (.int .i64 0) fun v21 =>
  C_ref11_word_5 QF r0 v0 v3 v8 v19 v21 S)
  (C_ref11_word_5 QF r0 v0 v3 v8 v19 undefA S)
def C_ref11_word_3 (QF : AEnd → Store → Prop) (r0 : LE → Store → Prop) (v0 v3 v8 v13 v17 : AV) (S : Store) : Prop :=
  grW v8 true (pkW v13 v17 (.bool false) fun v18 =>
  C_ref11_word_4 QF r0 v0 v3 v8 v18 S)
  (C_ref11_word_4 QF r0 v0 v3 v8 undefA S)
def C_ref11_word_2 (QF : AEnd → Store → Prop) (r0 : LE → Store → Prop) (v0 v3 v8 v13 : AV) (S : Store) : Prop :=
  grW v13 true (isW v0 v3 fun v16 =>
  biW .leq v16 (.int .u8 122) fun v17 =>
  C_ref11_word_3 QF r0 v0 v3 v8 v13 v17 S)
  (C_ref11_word_3 QF r0 v0 v3 v8 v13 undefA S)
def C_ref11_word_1 (QF : AEnd → Store → Prop) (r0 : LE → Store → Prop) (v0 v3 : AV) (S : Store) : Prop :=
  lnW S 0 v0 fun v6 =>
  biW .lss v3 v6 fun v7 =>
  grW v7 true (isW v0 v3 fun v11 =>
  biW .geq v11 (.int .u8 97) fun v12 =>
  C_ref11_word_2 QF r0 v0 v3 v7 v12 S)
  (C_ref11_word_2 QF r0 v0 v3 v7 undefA S)
def B_ref11_word (QF : AEnd → Store → Prop) (v0 : AV) (S : Store) : Prop :=
  LoopP (fun r0 l S => C_ref11_word_1 QF r0 (lget l 0) (lget l 3) S) [(0, v0), (3, (.int .i64 0))] S
theorem w_ref11_word {QF : AEnd → Store → Prop} {v0 : AV} {S : Store} (h : B_ref11_word QF v0 S) : ACalls PG nr_ref11_word [v0] S QF :=
  acalls_tf (F := tf_ref11_word) (by kernel_rfl) rfl (by kernel_rfl) h
def tf_ref11_sign : TFunc where
  n := 21
  args := 1
  res := [.tmp 2]
  code := .seq (.reg [i1 2 (.mov (.c (.str ⟨#[]⟩)))] [0] []) (.seq (.reg [i1 3 (.mov (.c (.str ⟨#[58, 124, 35, 43, 45, 38, 46, 40, 41]⟩)))] [0, 3] []) (.seq (.seq (.reg [i1 4 (.mov (.c (.int .i64 0)))] [0, 3, 4] []) (.block 0 (.loop [0, 3, 4] (.seq (.seq (.reg [i1 5 (.mov (.t 4)),
    i1 6 (.mov (.t 3)),
    i1 7 (.len 0 (.t 6)),
    i1 8 (.bin .lss (.t 5) (.t 7))] [0, 3, 4, 8] []) (.cond (.t 8) (.skip) (.exit 0))) (.seq (.block 1 (.seq (.reg [i1 11 (.mov (.t 3)),
    i1 12 (.mov (.t 4)),
    i1 13 (.idxs (.t 11) (.t 12)),
    i1 14 (.mov (.t 0)),
    i1 15 (.bin .eql (.t 13) (.t 14))] [0, 3, 4, 15] []) (.cond (.t 15) (.seq (.reg [i1 16 (.mov (.t 3)),
    i1 17 (.mov (.t 4)),
    i1 18 (.mov (.t 4)),
    i1 19 (.bin .add (.t 18) (.c (.int .i64 1))),
    i1 20 (.slics (.t 16) (some (.t 17)) (some (.t 19))),
    i1 2 (.mov (.t 20))] [2] []) (.ret)) (.skip)))) (.reg [i1 9 (.mov (.t 4)),
    i1 10 (.bin .add (.t 9) (.c (.int .i64 1))),
    i1 4 (.mov (.t 10))] [0, 3, 4] [])))))) (.seq (.reg [i1 2 (.mov (.c (.str ⟨#[63]⟩)))] [2] []) (.ret))))
abbrev nr_ref11_sign : Nat := 85
def C_ref11_sign_1 (QF : AEnd → Store → Prop) (r0 : LE → Store → Prop) (v0 v3 v4 : AV) (S : Store) : Prop :=
  lnW S 0 v3 fun v7 =>
  biW .lss v4 v7 fun v8 =>
  cnW v8 (isW v3 v4 fun v13 =>
  biW .eql v13 v0 fun v15 =>
  cnW v15 (biW .add v4 (.int .i64 1) fun v19 =>
  ssW v3 (some v4) (some v19) fun v20 =>
  rtW [.tmp v20] QF S)
  (biW .add v4 (.int .i64 1) fun v10 =>
  rcW r0 [(0, v0), (3, v3), (4, v10)] S))
  (rtW [.tmp (.str ⟨#[63]⟩)] QF S)
def B_ref11_sign (QF : AEnd → Store → Prop) (v0 : AV) (S : Store) : Prop :=
  LoopP (fun r0 l S => C_ref11_sign_1 QF r0 (lget l 0) (lget l 3) (lget l 4) S) [(0, v0), (3, (.str ⟨#[58, 124, 35, 43, 45, 38, 46, 40, 41]⟩)), (4, (.int .i64 0))] S
theorem w_ref11_sign {QF : AEnd → Store → Prop} {v0 : AV} {S : Store} (h : B_ref11_sign QF v0 S) : ACalls PG nr_ref11_sign [v0] S QF :=
  acalls_tf (F := tf_ref11_sign) (by kernel_rfl) rfl (by kernel_rfl) h
def tf_ref11_Reader_must : TFunc where
  n := 14
  args := 2
  res := []
  code := .seq (.reg [i1 5 (.mov (.t 0)),
    i1 6 (.mov (.t 1)),
    i1 7 (.call (.f 58) [.t 5, .t 6]),
    i1 4 (.mov (.t 7))] [0, 4] []) (.seq (.reg [i1 8 (.mov (.t 4)),
    i1 9 (.not (.t 8))] [0, 9] []) (.cond (.t 9) (.reg [i1 10 (.mov (.t 0)),
    i1 11 (.mov (.t 0)),
    i1 12 (.call (.f 61) [.t 11]),
    i1 13 (.call (.f 62) [.t 10, .t 12, .c (.int .i64 8)])] [] []) (.skip)))
abbrev nr_ref11_Reader_must : Nat := 86
def B_ref11_Reader_must (QF : AEnd → Store → Prop) (v0 v1 : AV) (S : Store) : Prop :=
  caW PG S (.func (.func 58) [] []) [v0, v1] (fun v7 S =>
  ntW v7 fun v9 =>
  cnW v9 (caW PG S (.func (.func 61) [] []) [v0] (fun v12 S =>
  caW PG S (.func (.func 62) [] []) [v0, v12, (.int .i64 8)] (fun v13 S =>
  rtW [] QF S) (pqW QF)) (pqW QF))
  (rtW [] QF S)) (pqW QF)
theorem w_ref11_Reader_must {QF : AEnd → Store → Prop} {v0 v1 : AV} {S : Store} (h : B_ref11_Reader_must QF v0 v1 S) : ACalls PG nr_ref11_Reader_must [v0, v1] S QF :=
  acalls_tf (F := tf_ref11_Reader_must) (by kernel_rfl) rfl (by kernel_rfl) h
def tf_ref11_Reader_ref : TFunc where
  n := 13
  args := 1
  res := [.cell 2 2 true]
  code := .seq (.reg [i1 2 (.alloc 53 [.str ⟨#[]⟩, .str ⟨#[]⟩])] [0, 2] []) (.seq (.reg [i1 4 (.mov (.t 0)),
    i1 5 (.call (.f 59) [.t 4]),
    i1 6 (.build [.str ⟨#[]⟩, .str ⟨#[]⟩] [(0, 1, .t 5)]),
    i1 3 (.alloc 53 [.str ⟨#[]⟩, .str ⟨#[]⟩]),
    i0 (.store 2 (.t 3) (.t 6))] [0, 2, 3] []) (.seq (.seq (.reg [i1 7 (.mov (.t 0)),
    i1 8 (.call (.f 58) [.t 7, .c (.str ⟨#[35]⟩)])] [0, 2, 3, 8] []) (.cond (.t 8) (.reg [i1 9 (.mov (.t 0)),
    i1 10 (.call (.f 59) [.t 9]),
    i1 11 (.faddr 1 (.t 3)),
    i0 (.store 1 (.t 11) (.t 10))] [2, 3] []) (.skip))) (.seq (.reg [i1 12 (.load 2 true (.t 3)),
    i0 (.store 2 (.t 2) (.t 12))] [2] [2]) (.ret))))
abbrev nr_ref11_Reader_ref : Nat := 87
def C_ref11_Reader_ref_1 (QF : AEnd → Store → Prop) (v2 v3 : AV) (S : Store) : Prop :=
  ldW S 2 true v3 fun v12 =>
  stW S 2 v2 v12 fun S =>
  fzW S v2 fun v2 S =>
  rtW [.cell v2 2 true] QF S
def B_ref11_Reader_ref (QF : AEnd → Store → Prop) (v0 : AV) (S : Store) : Prop :=
  alW S 53 [.str ⟨#[]⟩, .str ⟨#[]⟩] fun v2 S =>
  caW PG S (.func (.func 59) [] []) [v0] (fun v5 S =>
  bdW [.str ⟨#[]⟩, .str ⟨#[]⟩] [(0, 1, v5)] fun v6 =>
  alW S 53 [.str ⟨#[]⟩, .str ⟨#[]⟩] fun v3 S =>
  stW S 2 v3 v6 fun S =>
  caW PG S (.func (.func 58) [] []) [v0, (.str ⟨#[35]⟩)] (fun v8 S =>
  cnW v8 (caW PG S (.func (.func 59) [] []) [v0] (fun v10 S =>
  faW 1 v3 fun v11 =>
  stW S 1 v11 v10 fun S =>
  C_ref11_Reader_ref_1 QF v2 v3 S) (pqW QF))
  (C_ref11_Reader_ref_1 QF v2 v3 S)) (pqW QF)) (pqW QF)
theorem w_ref11_Reader_ref {QF : AEnd → Store → Prop} {v0 : AV} {S : Store} (h : B_ref11_Reader_ref QF v0 S) : ACalls PG nr_ref11_Reader_ref [v0] S QF :=
  acalls_tf (F := tf_ref11_Reader_ref) (by kernel_rfl) rfl (by kernel_rfl) h
end Go.HL
