/- A part of a proof. -/
import Derived.Test.YtadmdlpmikoghaaKeHlP
set_option maxRecDepth 100000
set_option linter.unusedVariables false
namespace Go.HL
def tf_ref11_Reader_expr : TFunc where
  n := 48
  args := 1
  res := [.cell 2 4 true]
  code := .seq (.reg [i1 2 (.alloc 41 [.int .i64 0, .str ⟨#[]⟩, .str ⟨#[]⟩, .nils])] [0, 2] []) (.seq (.reg [i1 7 (.mov (.t 0)),
    i1 8 (.call (.f 110) [.t 7]),
    i1 3 (.alloc 41 [.int .i64 0, .str ⟨#[]⟩, .str ⟨#[]⟩, .nils]),
    i0 (.store 4 (.t 3) (.t 8))] [0, 2, 3] []) (.seq (.block 0 (.loop [0, 2, 3] (.seq (.seq (.reg [i1 9 (.mov (.t 0)),
    i1 10 (.nilck (.t 9)),
    i1 11 (.faddr 3 (.t 10)),
    i1 12 (.faddr 2 (.t 11)),
    i1 13 (.load 1 false (.t 12)),
    i1 14 (.bin .eql (.t 13) (.c (.int .i64 0))),
    i1 15 (.mov (.t 14)),
    .grp 15 true [s1 16 (.mov (.t 0)), s1 17 (.call (.f 61) [.t 16]), s1 18 (.field 0 1 false (.t 17)), s1 19 (.bin .eql (.t 18) (.c (.str ⟨#[43]⟩))), s1 20 (.mov (.t 19))],
    .grp 20 false [s1 21 (.mov (.t 0)), s1 22 (.call (.f 61) [.t 21]), s1 23 (.field 0 1 false (.t 22)), s1 24 (.bin .eql (.t 23) (.c (.str ⟨#[45]⟩)))],
    .grp 15 true [s1 25 (.pick (.t 20) (.c (.bool true)) (.t 24))],
    i1 26 (.pick (.t 15) (.t 25) (.c (.bool false)))] [0, 2, 3, 26] []) (.cond (.t 26) (.skip) (.exit 0))) (.block 1 (.seq (.reg [i1 27 (.mov (.t 0)),
    i1 28 (.call (.f 61) [.t 27]),
    .box2 4 130 [.str ⟨#[]⟩, .int .i64 0, .int .i64 0] 3 (.t 28)] [0, 2, 3, 4] []) (.seq (.reg [i1 5 (.mov (.c (.int .i64 2)))] [0, 2, 3, 4, 5] []) (.seq (.seq (.reg [i1 29 (.faddr 0 (.t 4)),
    i1 30 (.load 1 false (.t 29)),
    i1 31 (.bin .eql (.t 30) (.c (.str ⟨#[45]⟩)))] [0, 2, 3, 4, 5, 31] []) (.cond (.t 31) (.reg [i1 5 (.mov (.c (.int .i64 4)))] [0, 2, 3, 4, 5] []) (.skip))) (.seq (.reg [i1 32 (.mov (.t 0)),
    i1 33 (.nilck (.t 32)),
    i1 34 (.faddr 1 (.t 33)),
    i1 35 (.load 1 false (.t 34)),
    i1 36 (.bin .add (.t 35) (.c (.int .i64 1))),
    i1 37 (.nilck (.t 32)),
    i1 38 (.faddr 1 (.t 37)),
    i0 (.store 1 (.t 38) (.t 36))] [0, 2, 3, 4, 5] []) (.seq (.reg [i1 39 (.mov (.t 0)),
    i1 40 (.call (.f 110) [.t 39]),
    .box2 6 41 [.int .i64 0, .str ⟨#[]⟩, .str ⟨#[]⟩, .nils] 4 (.t 40)] [0, 2, 3, 4, 5, 6] []) (.reg [i1 41 (.mov (.t 0)),
    i1 42 (.mov (.t 5)),
    i1 43 (.load 3 true (.t 4)),
    i1 44 (.load 4 true (.t 3)),
    i1 45 (.load 4 true (.t 6)),
    i1 46 (.call (.f 111) [.t 41, .t 42, .t 43, .t 44, .t 45]),
    i0 (.store 4 (.t 3) (.t 46))] [0, 2, 3] [])))))))))) (.seq (.reg [i1 47 (.load 4 true (.t 3)),
    i0 (.store 4 (.t 2) (.t 47))] [2] [2]) (.ret))))
abbrev nr_ref11_Reader_expr : Nat := 88
def C_ref11_Reader_expr_5 (QF : AEnd → Store → Prop) (r0 : LE → Store → Prop) (v0 v2 v3 v4 v5 : AV) (S : Store) : Prop :=
  nkW v0 fun v33 =>
  faW 1 v33 fun v34 =>
  ldW S 1 false v34 fun v35 =>
  biW .add v35 (.int .i64 1) fun v36 =>
  nkW v0 fun v37 =>
  faW 1 v37 fun v38 =>
  stW S 1 v38 v36 fun S =>
  caW PG S (.func (.func 110) [] []) [v0] (fun v40 S =>
  bfW 4 v40 fun v6 =>
  ldW S 3 true v4 fun v43 =>
  ldW S 4 true v3 fun v44 =>
  ldW S 4 true v6 fun v45 =>
  caW PG S (.func (.func 111) [] []) [v0, v5, v43, v44, v45] (fun v46 S =>
  stW S 4 v3 v46 fun S =>
  rcW r0 [(0, v0), (2, v2), (3, v3)] S) (pqW QF)) (pqW QF)
def C_ref11_Reader_expr_4 (QF : AEnd → Store → Prop) (r0 : LE → Store → Prop) (v0 v2 v3 v26 : AV) (S : Store) : Prop :=
  cnW v26 (caW PG S (.func (.func 61) [] []) [v0] (fun v28 S =>
  bfW 3 v28 fun v4 =>
  faW 0 v4 fun v29 =>
  ldW S 1 false v29 fun v30 =>
  biW .eql v30 (.str ⟨#[45]⟩) fun v31 =>
  cnW v31 (C_ref11_Reader_expr_5 QF r0 v0 v2 v3 v4 (.int .i64 4) S)
  (C_ref11_Reader_expr_5 QF r0 v0 v2 v3 v4 (.int .i64 2) S)) (pqW QF))
  (ldW S 4 true v3 fun v47 =>
  stW S 4 v2 v47 fun S =>
  fzW S v2 fun v2 S =>
  rtW [.cell v2 4 true] QF S)
def C_ref11_Reader_expr_3 (QF : AEnd → Store → Prop) (r0 : LE → Store → Prop) (v0 v2 v3 v15 v20 v24 : AV) (S : Store) : Prop :=
  grW v15 true (pkW v20 (.bool true) v24 fun v25 =>
  pkW v15 v25 (.bool false) fun v26 =>
  C_ref11_Reader_expr_4 QF r0 v0 v2 v3 v26 S)
  (pkW v15 undefA (.bool false) fun v26 =>
  C_ref11_Reader_expr_4 QF r0 v0 v2 v3 v26 S)
def C_ref11_Reader_expr_2 (QF : AEnd → Store → Prop) (r0 : LE → Store → Prop) (v0 v2 v3 v15 v20 : AV) (S : Store) : Prop :=
  grW v20 false (caW PG S (.func (.func 61) [] []) [v0] (fun v22 S =>
  fdW 0 1 false v22 fun v23 =>
  biW .eql v23 (.str ⟨#[45]⟩) fun v24 =>
  C_ref11_Reader_expr_3 QF r0 v0 v2 v3 v15 v20 v24 S) (pqW QF))
  (C_ref11_Reader_expr_3 QF r0 v0 v2 v3 v15 v20 undefA S)
def C_ref11_Reader_expr_1 (QF : AEnd → Store → Prop) (r0 : LE → Store → Prop) (v0 v2 v3 : AV) (S : Store) : Prop :=
  nkW v0 fun v10 =>
  faW 3 v10 fun v11 =>
  faW 2 v11 fun v12 =>
  ldW S 1 false v12 fun v13 =>
  biW .eql v13 (.int .i64 0) fun v14 =>
  grW v14 true (caW PG S (.func (.func 61) [] []) [v0] (fun v17 S =>
  fdW 0 1 false v17 fun v18 =>
  biW .eql v18 (.str ⟨#[43]⟩) fun v19 =>
  C_ref11_Reader_expr_2 QF r0 v0 v2 v3 v14 v19 S) (pqW QF))
  (C_ref11_Reader_expr_2 QF r0 v0 v2 v3 v14 undefA S)
def B_ref11_Reader_expr (QF : AEnd → Store → Prop) (v0 : AV) (S : Store) : Prop :=
  alW S 41 [.int .i64 0, .str ⟨#[]⟩, .str ⟨#[]⟩, .nils] fun v2 S =>
  caW PG S (.func (.func 110) [] []) [v0] (fun v8 S =>
  alW S 41 [.int .i64 0, .str ⟨#[]⟩, .str ⟨#[]⟩, .nils] fun v3 S =>
  stW S 4 v3 v8 fun S =>
  LoopP (fun r0 l S => C_ref11_Reader_expr_1 QF r0 (lget l 0) (lget l 2) (lget l 3) S) [(0, v0), (2, v2), (3, v3)] S) (pqW QF)
theorem w_ref11_Reader_expr {QF : AEnd → Store → Prop} {v0 : AV} {S : Store} (h : B_ref11_Reader_expr QF v0 S) : ACalls PG nr_ref11_Reader_expr [v0] S QF :=
  acalls_tf (F := tf_ref11_Reader_expr) (by kernel_rfl) rfl (by kernel_rfl) h
def tf_ref10_cut : TFunc where
  n := 27
  args := 2
  res := [.tmp 4, .tmp 5, .tmp 6]
  code := .seq (.reg [i1 4 (.mov (.c (.str ⟨#[]⟩))),
    i1 5 (.mov (.c (.str ⟨#[]⟩))),
    i1 6 (.mov (.c (.bool false)))] [0, 1] []) (.seq (.seq (.reg [i1 7 (.mov (.c (.int .i64 0)))] [0, 1, 7] []) (.block 0 (.loop [0, 1, 7] (.seq (.seq (.reg [i1 8 (.mov (.t 7)),
    i1 9 (.mov (.t 0)),
    i1 10 (.len 0 (.t 9)),
    i1 11 (.bin .lss (.t 8) (.t 10))] [0, 1, 7, 11] []) (.cond (.t 11) (.skip) (.exit 0))) (.seq (.block 1 (.seq (.reg [i1 14 (.mov (.t 0)),
    i1 15 (.mov (.t 7)),
    i1 16 (.idxs (.t 14) (.t 15)),
    i1 17 (.mov (.t 1)),
    i1 18 (.bin .eql (.t 16) (.t 17))] [0, 1, 7, 18] []) (.cond (.t 18) (.seq (.regl [0, 1, 2, 3, 4, 5, 6, 7, 8, 9] [i1 19 (.mov (.t 0)),
    i1 20 (.mov (.t 7)),
    i1 21 (.slics (.t 19) none (some (.t 20))),
    i1 22 (.mov (.t 0)),
    i1 23 (.mov (.t 7)),
    i1 24 (.bin .add (.t 23) (.c (.int .i64 1))),
    i1 25 (.slics (.t 22) (some (.t 24)) none),
    i1 4 (.mov (.t 21)),
    i1 5 (.mov (.t 25)),
    i1 6 (.mov (.c (.bool true)))] [4, 5, 6] []) (.ret)) (.skip)))) (.reg [i1 12 (.mov (.t 7)),
    i1 13 (.bin .add (.t 12) (.c (.int .i64 1))),
    i1 7 (.mov (.t 13))] [0, 1, 7] [])))))) (.seq (.reg [i1 26 (.mov (.t 0)),
    i1 4 (.mov (.t 26)),
    i1 5 (.mov (.c (.str ⟨#[]⟩))),
    i1 6 (.mov (.c (.bool false)))] [4, 5, 6] []) (.ret)))
abbrev nr_ref10_cut : Nat := 89
def C_ref10_cut_1 (QF : AEnd → Store → Prop) (r0 : LE → Store → Prop) (v0 v1 v7 : AV) (S : Store) : Prop :=
  lnW S 0 v0 fun v10 =>
  biW .lss v7 v10 fun v11 =>
  cnW v11 (isW v0 v7 fun v16 =>
  biW .eql v16 v1 fun v18 =>
  cnW v18 (ssW v0 none (some v7) fun v21 =>
  biW .add v7 (.int .i64 1) fun v24 =>
  ssW v0 (some v24) none fun v25 =>
  rtW [.tmp v21, .tmp v25, .tmp (.bool true)] QF S)
  (biW .add v7 (.int .i64 1) fun v13 =>
  rcW r0 [(0, v0), (1, v1), (7, v13)] S))
  (rtW [.tmp v0, .tmp (.str ⟨#[]⟩), .tmp (.bool false)] QF S)
def B_ref10_cut (QF : AEnd → Store → Prop) (v0 v1 : AV) (S : Store) : Prop :=
  LoopP (fun r0 l S => C_ref10_cut_1 QF r0 (lget l 0) (lget l 1) (lget l 7) S) [(0, v0), (1, v1), (7, (.int .i64 0))] S
theorem w_ref10_cut {QF : AEnd → Store → Prop} {v0 v1 : AV} {S : Store} (h : B_ref10_cut QF v0 v1 S) : ACalls PG nr_ref10_cut [v0, v1] S QF :=
  acalls_tf (F := tf_ref10_cut) (by kernel_rfl) rfl (by kernel_rfl) h
def tf_ref10_Object : TFunc where
  n := 33
  args := 1
  res := [.cell 2 2 true, .tmp 3]
  code := .seq (.reg [i1 2 (.alloc 56 [.str ⟨#[]⟩, .str ⟨#[]⟩]),
    i1 3 (.mov (.c (.bool false)))] [0, 2] []) (.seq (.reg [i1 10 (.mov (.t 0)),
    i1 11 (.call (.f 89) [.t 10, .c (.int .u8 58)]),
    i1 9 (.mov (.t 11)),
    i1 12 (.extr (.t 9) 0),
    i1 13 (.extr (.t 9) 1),
    i1 14 (.extr (.t 9) 2),
    i1 4 (.mov (.t 12)),
    i1 5 (.mov (.t 13)),
    i1 6 (.mov (.t 14))] [2, 4, 5, 6] []) (.seq (.reg [i1 15 (.mov (.t 4)),
    i1 16 (.call (.f 81) [.t 15]),
    i1 7 (.mov (.t 16))] [2, 4, 5, 6, 7] []) (.seq (.reg [i1 17 (.mov (.t 5)),
    i1 18 (.call (.f 112) [.t 17]),
    i1 8 (.mov (.t 18))] [2, 4, 5, 6, 7, 8] []) (.seq (.seq (.reg [i1 19 (.mov (.t 6)),
    i1 20 (.not (.t 19)),
    i1 21 (.mov (.t 20)),
    .grp 21 false [s1 22 (.mov (.t 7)), s1 23 (.not (.t 22))],
    i1 24 (.pick (.t 21) (.c (.bool true)) (.t 23)),
    i1 25 (.mov (.t 24)),
    .grp 25 false [s1 26 (.mov (.t 8)), s1 27 (.not (.t 26))],
    i1 28 (.pick (.t 25) (.c (.bool true)) (.t 27))] [2, 4, 5, 28] []) (.cond (.t 28) (.seq (.reg [i1 29 (.build [.str ⟨#[]⟩, .str ⟨#[]⟩] []),
    i0 (.store 2 (.t 2) (.t 29)),
    i1 3 (.mov (.c (.bool false)))] [2, 3] []) (.ret)) (.skip))) (.seq (.reg [i1 30 (.mov (.t 4)),
    i1 31 (.mov (.t 5)),
    i1 32 (.build [.str ⟨#[]⟩, .str ⟨#[]⟩] [(0, 1, .t 30), (1, 1, .t 31)]),
    i0 (.store 2 (.t 2) (.t 32)),
    i1 3 (.mov (.c (.bool true)))] [2, 3] []) (.ret))))))
abbrev nr_ref10_Object : Nat := 90
def C_ref10_Object_2 (QF : AEnd → Store → Prop) (v2 v4 v5 v28 : AV) (S : Store) : Prop :=
  cnW v28 (bdW [.str ⟨#[]⟩, .str ⟨#[]⟩] [] fun v29 =>
  stW S 2 v2 v29 fun S =>
  rtW [.cell v2 2 true, .tmp (.bool false)] QF S)
  (bdW [.str ⟨#[]⟩, .str ⟨#[]⟩] [(0, 1, v4), (1, 1, v5)] fun v32 =>
  stW S 2 v2 v32 fun S =>
  rtW [.cell v2 2 true, .tmp (.bool true)] QF S)
def C_ref10_Object_1 (QF : AEnd → Store → Prop) (v2 v4 v5 v8 v24 : AV) (S : Store) : Prop :=
  grW v24 false (ntW v8 fun v27 =>
  pkW v24 (.bool true) v27 fun v28 =>
  C_ref10_Object_2 QF v2 v4 v5 v28 S)
  (pkW v24 (.bool true) undefA fun v28 =>
  C_ref10_Object_2 QF v2 v4 v5 v28 S)
def B_ref10_Object (QF : AEnd → Store → Prop) (v0 : AV) (S : Store) : Prop :=
  alW S 56 [.str ⟨#[]⟩, .str ⟨#[]⟩] fun v2 S =>
  caW PG S (.func (.func 89) [] []) [v0, (.int .u8 58)] (fun v11 S =>
  exW 0 v11 fun v12 =>
  exW 1 v11 fun v13 =>
  exW 2 v11 fun v14 =>
  caW PG S (.func (.func 81) [] []) [v12] (fun v16 S =>
  caW PG S (.func (.func 112) [] []) [v13] (fun v18 S =>
  ntW v14 fun v20 =>
  grW v20 false (ntW v16 fun v23 =>
  pkW v20 (.bool true) v23 fun v24 =>
  C_ref10_Object_1 QF v2 v12 v13 v18 v24 S)
  (pkW v20 (.bool true) undefA fun v24 =>
  C_ref10_Object_1 QF v2 v12 v13 v18 v24 S)) (pqW QF)) (pqW QF)) (pqW QF)
theorem w_ref10_Object {QF : AEnd → Store → Prop} {v0 : AV} {S : Store} (h : B_ref10_Object QF v0 S) : ACalls PG nr_ref10_Object [v0] S QF :=
  acalls_tf (F := tf_ref10_Object) (by kernel_rfl) rfl (by kernel_rfl) h
def tf_ref10_Subject : TFunc where
  n := 36
  args := 1
  res := [.cell 2 3 true, .tmp 3]
  code := .seq (.reg [i1 2 (.alloc 93 [.str ⟨#[]⟩, .str ⟨#[]⟩, .str ⟨#[]⟩]),
    i1 3 (.mov (.c (.bool false)))] [0, 2] []) (.seq (.reg [i1 11 (.mov (.t 0)),
    i1 12 (.call (.f 89) [.t 11, .c (.int .u8 35)]),
    i1 10 (.mov (.t 12)),
    i1 13 (.extr (.t 10) 0),
    i1 14 (.extr (.t 10) 1),
    i1 15 (.extr (.t 10) 2),
    i1 4 (.mov (.t 13)),
    i1 5 (.mov (.t 14)),
    i1 6 (.mov (.t 15))] [2, 4, 5, 6] []) (.seq (.reg [i1 17 (.mov (.t 4)),
    i1 18 (.call (.f 90) [.t 17]),
    i1 16 (.mov (.t 18)),
    i1 19 (.extr (.t 16) 0),
    i1 20 (.extr (.t 16) 1),
    .box2 7 56 [.str ⟨#[]⟩, .str ⟨#[]⟩] 2 (.t 19),
    i1 8 (.mov (.t 20))] [2, 5, 6, 7, 8] []) (.seq (.reg [i1 21 (.mov (.t 5)),
    i1 22 (.call (.f 81) [.t 21]),
    i1 9 (.mov (.t 22))] [2, 5, 6, 7, 8, 9] []) (.seq (.seq (.reg [i1 23 (.mov (.t 8)),
    i1 24 (.not (.t 23)),
    i1 25 (.mov (.t 24)),
    .grp 25 false [s1 26 (.mov (.t 6)), s1 27 (.mov (.t 26))],
    .grp 27 true [s1 28 (.mov (.t 9)), s1 29 (.not (.t 28))],
    .grp 25 false [s1 30 (.pick (.t 27) (.t 29) (.c (.bool false)))],
    i1 31 (.pick (.t 25) (.c (.bool true)) (.t 30))] [2, 5, 7, 31] []) (.cond (.t 31) (.seq (.reg [i1 32 (.build [.str ⟨#[]⟩, .str ⟨#[]⟩, .str ⟨#[]⟩] []),
    i0 (.store 3 (.t 2) (.t 32)),
    i1 3 (.mov (.c (.bool false)))] [2, 3] []) (.ret)) (.skip))) (.seq (.reg [i1 33 (.load 2 true (.t 7)),
    i1 34 (.mov (.t 5)),
    i1 35 (.build [.str ⟨#[]⟩, .str ⟨#[]⟩, .str ⟨#[]⟩] [(0, 2, .t 33), (2, 1, .t 34)]),
    i0 (.store 3 (.t 2) (.t 35)),
    i1 3 (.mov (.c (.bool true)))] [2, 3] []) (.ret))))))
abbrev nr_ref10_Subject : Nat := 91
def C_ref10_Subject_3 (QF : AEnd → Store → Prop) (v2 v5 v7 v31 : AV) (S : Store) : Prop :=
  cnW v31 (bdW [.str ⟨#[]⟩, .str ⟨#[]⟩, .str ⟨#[]⟩] [] fun v32 =>
  stW S 3 v2 v32 fun S =>
  rtW [.cell v2 3 true, .tmp (.bool false)] QF S)
  (ldW S 2 true v7 fun v33 =>
  bdW [.str ⟨#[]⟩, .str ⟨#[]⟩, .str ⟨#[]⟩] [(0, 2, v33), (2, 1, v5)] fun v35 =>
  stW S 3 v2 v35 fun S =>
  rtW [.cell v2 3 true, .tmp (.bool true)] QF S)
def C_ref10_Subject_2 (QF : AEnd → Store → Prop) (v2 v5 v7 v25 v27 v29 : AV) (S : Store) : Prop :=
  grW v25 false (pkW v27 v29 (.bool false) fun v30 =>
  pkW v25 (.bool true) v30 fun v31 =>
  C_ref10_Subject_3 QF v2 v5 v7 v31 S)
  (pkW v25 (.bool true) undefA fun v31 =>
  C_ref10_Subject_3 QF v2 v5 v7 v31 S)
def C_ref10_Subject_1 (QF : AEnd → Store → Prop) (v2 v5 v7 v9 v25 v27 : AV) (S : Store) : Prop :=
  grW v27 true (ntW v9 fun v29 =>
  C_ref10_Subject_2 QF v2 v5 v7 v25 v27 v29 S)
  (C_ref10_Subject_2 QF v2 v5 v7 v25 v27 undefA S)
def B_ref10_Subject (QF : AEnd → Store → Prop) (v0 : AV) (S : Store) : Prop :=
  alW S 93 [.str ⟨#[]⟩, .str ⟨#[]⟩, .str ⟨#[]⟩] fun v2 S =>
  caW PG S (.func (.func 89) [] []) [v0, (.int .u8 35)] (fun v12 S =>
  exW 0 v12 fun v13 =>
  exW 1 v12 fun v14 =>
  exW 2 v12 fun v15 =>
  caW PG S (.func (.func 90) [] []) [v13] (fun v18 S =>
  exW 0 v18 fun v19 =>
  exW 1 v18 fun v20 =>
  bfW 2 v19 fun v7 =>
  caW PG S (.func (.func 81) [] []) [v14] (fun v22 S =>
  ntW v20 fun v24 =>
  grW v24 false (C_ref10_Subject_1 QF v2 v14 v7 v22 v24 v15 S)
  (C_ref10_Subject_1 QF v2 v14 v7 v22 v24 undefA S)) (pqW QF)) (pqW QF)) (pqW QF)
theorem w_ref10_Subject {QF : AEnd → Store → Prop} {v0 : AV} {S : Store} (h : B_ref10_Subject QF v0 S) : ACalls PG nr_ref10_Subject [v0] S QF :=
  acalls_tf (F := tf_ref10_Subject) (by kernel_rfl) rfl (by kernel_rfl) h
def tf_names_ShowObject : TFunc where
  n := 19
  args := 1
  res := [.tmp 2]
  code := .seq (.reg [i1 1 (.boxr 56 2 (.t 0)),
    i1 2 (.mov (.c (.str ⟨#[]⟩)))] [1] []) (.seq (.seq (.reg [i1 3 (.faddr 0 (.t 1)),
    i1 4 (.load 1 false (.t 3)),
    i1 5 (.call (.f 75) [.t 4]),
    i1 6 (.not (.t 5)),
    i1 7 (.mov (.t 6)),
    .grp 7 false [s1 8 (.faddr 1 (.t 1)), s1 9 (.load 1 false (.t 8)), s1 10 (.call (.f 113) [.t 9]), s1 11 (.not (.t 10))],
    i1 12 (.pick (.t 7) (.c (.bool true)) (.t 11))] [1, 12] []) (.cond (.t 12) (.seq (.reg [i1 2 (.mov (.c (.str ⟨#[]⟩)))] [2] []) (.ret)) (.skip))) (.seq (.reg [i1 13 (.faddr 0 (.t 1)),
    i1 14 (.load 1 false (.t 13)),
    i1 15 (.bin .add (.t 14) (.c (.str ⟨#[58]⟩))),
    i1 16 (.faddr 1 (.t 1)),
    i1 17 (.load 1 false (.t 16)),
    i1 18 (.bin .add (.t 15) (.t 17)),
    i1 2 (.mov (.t 18))] [2] []) (.ret)))
abbrev nr_names_ShowObject : Nat := 92
def C_names_ShowObject_1 (QF : AEnd → Store → Prop) (v1 v12 : AV) (S : Store) : Prop :=
  cnW v12 (rtW [.tmp (.str ⟨#[]⟩)] QF S)
  (faW 0 v1 fun v13 =>
  ldW S 1 false v13 fun v14 =>
  biW .add v14 (.str ⟨#[58]⟩) fun v15 =>
  faW 1 v1 fun v16 =>
  ldW S 1 false v16 fun v17 =>
  biW .add v15 v17 fun v18 =>
  rtW [.tmp v18] QF S)
def B_names_ShowObject (QF : AEnd → Store → Prop) (v0 : AV) (S : Store) : Prop :=
  brW 2 v0 fun v1 =>
  faW 0 v1 fun v3 =>
  ldW S 1 false v3 fun v4 =>
  caW PG S (.func (.func 75) [] []) [v4] (fun v5 S =>
  ntW v5 fun v6 =>
  grW v6 false (faW 1 v1 fun v8 =>
  ldW S 1 false v8 fun v9 =>
  caW PG S (.func (.func 113) [] []) [v9] (fun v10 S =>
  ntW v10 fun v11 =>
  pkW v6 (.bool true) v11 fun v12 =>
  C_names_ShowObject_1 QF v1 v12 S) (pqW QF))
  (pkW v6 (.bool true) undefA fun v12 =>
  C_names_ShowObject_1 QF v1 v12 S)) (pqW QF)
theorem w_names_ShowObject {QF : AEnd → Store → Prop} {v0 : AV} {S : Store} (h : B_names_ShowObject QF v0 S) : ACalls PG nr_names_ShowObject [v0] S QF :=
  acalls_tf (F := tf_names_ShowObject) (by kernel_rfl) rfl (by kernel_rfl) h
def tf_names_ShowSubject : TFunc where
  n := 26
  args := 1
  res := [.tmp 2]
  code := .seq (.reg [i1 1 (.boxr 93 3 (.t 0)),
    i1 2 (.mov (.c (.str ⟨#[]⟩)))] [1] []) (.seq (.reg [i1 4 (.faddr 0 (.t 1)),
    i1 5 (.load 2 true (.t 4)),
    i1 6 (.call (.f 92) [.t 5]),
    i1 3 (.mov (.t 6))] [1, 3] []) (.seq (.block 0 (.seq (.reg [i1 8 (.mov (.t 3)),
    i1 9 (.bin .eql (.t 8) (.c (.str ⟨#[]⟩))),
    i1 10 (.mov (.t 9)),
    .grp 10 false [s1 11 (.faddr 2 (.t 1)), s1 12 (.load 1 false (.t 11)), s1 13 (.bin .eql (.t 12) (.c (.str ⟨#[]⟩)))],
    i1 14 (.pick (.t 10) (.c (.bool true)) (.t 13)),
    i1 7 (.mov (.t 14))] [1, 3, 7] []) (.cond (.t 7) (.seq (.reg [i1 15 (.mov (.t 3)),
    i1 2 (.mov (.t 15))] [2] []) (.ret)) (.seq (.reg [i1 17 (.faddr 2 (.t 1)),
    i1 18 (.load 1 false (.t 17)),
    i1 19 (.call (.f 75) [.t 18]),
    i1 20 (.not (.t 19)),
    i1 16 (.mov (.t 20))] [1, 3, 16] []) (.cond (.t 16) (.seq (.reg [i1 2 (.mov (.c (.str ⟨#[]⟩)))] [2] []) (.ret)) (.skip)))))) (.seq (.reg [i1 21 (.mov (.t 3)),
    i1 22 (.bin .add (.t 21) (.c (.str ⟨#[35]⟩))),
    i1 23 (.faddr 2 (.t 1)),
    i1 24 (.load 1 false (.t 23)),
    i1 25 (.bin .add (.t 22) (.t 24)),
    i1 2 (.mov (.t 25))] [2] []) (.ret))))
abbrev nr_names_ShowSubject : Nat := 93
def C_names_ShowSubject_1 (QF : AEnd → Store → Prop) (v1 v3 v14 : AV) (S : Store) : Prop :=
  cnW v14 (rtW [.tmp v3] QF S)
  (faW 2 v1 fun v17 =>
  ldW S 1 false v17 fun v18 =>
  caW PG S (.func (.func 75) [] []) [v18] (fun v19 S =>
  ntW v19 fun v20 =>
  cnW v20 (rtW [.tmp (.str ⟨#[]⟩)] QF S)
  (biW .add v3 (.str ⟨#[35]⟩) fun v22 =>
  faW 2 v1 fun v23 =>
  ldW S 1 false v23 fun v24 =>
  biW .add v22 v24 fun v25 =>
  rtW [.tmp v25] QF S)) (pqW QF))
def B_names_ShowSubject (QF : AEnd → Store → Prop) (v0 : AV) (S : Store) : Prop :=
  brW 3 v0 fun v1 =>
  faW 0 v1 fun v4 =>
  ldW S 2 true v4 fun v5 =>
  caW PG S (.func (.func 92) [] []) [v5] (fun v6 S =>
  biW .eql v6 (.str ⟨#[]⟩) fun v9 =>
  grW v9 false (faW 2 v1 fun v11 =>
  ldW S 1 false v11 fun v12 =>
  biW .eql v12 (.str ⟨#[]⟩) fun v13 =>
  pkW v9 (.bool true) v13 fun v14 =>
  C_names_ShowSubject_1 QF v1 v6 v14 S)
  (pkW v9 (.bool true) undefA fun v14 =>
  C_names_ShowSubject_1 QF v1 v6 v14 S)) (pqW QF)
theorem w_names_ShowSubject {QF : AEnd → Store → Prop} {v0 : AV} {S : Store} (h : B_names_ShowSubject QF v0 S) : ACalls PG nr_names_ShowSubject [v0] S QF :=
  acalls_tf (F := tf_names_ShowSubject) (by kernel_rfl) rfl (by kernel_rfl) h
def tf_slices_IndexFunc_Type : TFunc where
  n := 19
  args := 2
  res := [.tmp 4]
  code := .seq (.reg [i1 4 (.mov (.c (.int .i64 0)))] [0, 1] []) (.seq (.seq (.reg [i1 6 (.mov (.t 0)),
    i1 7 (.len 1 (.t 6)),
    i1 8 (.mov (.c (.int .i64 0)))] [0, 1, 7, 8] []) (.block 0 (.loop [0, 1, 7, 8] (.seq (.reg [i1 9 (.bin .lss (.t 8) (.t 7))] [0, 1, 7, 8, 9] []) (.seq (.cond (.t 9) (.skip) (.exit 0)) (.seq (.block 1 (.seq (.reg [i1 10 (.mov (.t 8)),
    i1 5 (.mov (.t 10))] [0, 1, 5, 7, 8] []) (.seq (.reg [i1 11 (.mov (.t 1)),
    i1 12 (.mov (.t 0)),
    i1 13 (.mov (.t 5)),
    i1 14 (.iaddr 2 (.t 12) (.t 13)),
    i1 15 (.load 2 true (.t 14)),
    i1 16 (.call (.t 11) [.t 15])] [0, 1, 5, 7, 8, 16] []) (.cond (.t 16) (.seq (.reg [i1 17 (.mov (.t 5)),
    i1 4 (.mov (.t 17))] [4] []) (.ret)) (.skip))))) (.reg [i1 18 (.bin .add (.t 8) (.c (.int .i64 1))),
    i1 8 (.mov (.t 18))] [0, 1, 7, 8] []))))))) (.seq (.reg [i1 4 (.mov (.c (.int .i64 (-1))))] [4] []) (.ret)))
abbrev nr_slices_IndexFunc_Type : Nat := 94
def C_slices_IndexFunc_Type_1 (QF : AEnd → Store → Prop) (r0 : LE → Store → Prop) (v0 v1 v7 v8 : AV) (S : Store) : Prop :=
  biW .lss v8 v7 fun v9 =>
  cnW v9 (iaW 2 v0 v8 fun v14 =>
  ldW S 2 true v14 fun v15 =>
  caW PG S v1 [v15] (fun v16 S =>
  cnW v16 (rtW [.tmp v8] QF S)
  (biW .add v8 (.int .i64 1) fun v18 =>
  rcW r0 [(0, v0), (1, v1), (7, v7), (8, v18)] S)) (pqW QF))
  (rtW [.tmp (.int .i64 (-1))] QF S)
def B_slices_IndexFunc_Type (QF : AEnd → Store → Prop) (v0 v1 : AV) (S : Store) : Prop :=
  lnW S 1 v0 fun v7 =>
  LoopP (fun r0 l S => C_slices_IndexFunc_Type_1 QF r0 (lget l 0) (lget l 1) (lget l 7) (lget l 8) S) [(0, v0), (1, v1), (7, v7), (8, (.int .i64 0))] S
theorem w_slices_IndexFunc_Type {QF : AEnd → Store → Prop} {v0 v1 : AV} {S : Store} (h : B_slices_IndexFunc_Type QF v0 v1 S) : ACalls PG nr_slices_IndexFunc_Type [v0, v1] S QF :=
  acalls_tf (F := tf_slices_IndexFunc_Type) (by kernel_rfl) rfl (by kernel_rfl) h
def tf_slices_Index_Ref : TFunc where
  n := 19
  args := 2
  res := [.tmp 4]
  code := .seq (.reg [i1 3 (.boxr 53 2 (.t 1)),
    i1 4 (.mov (.c (.int .i64 0)))] [0, 3] []) (.seq (.seq (.reg [i1 6 (.mov (.t 0)),
    i1 7 (.len 1 (.t 6)),
    i1 8 (.mov (.c (.int .i64 0)))] [0, 3, 7, 8] []) (.block 0 (.loop [0, 3, 7, 8] (.seq (.reg [i1 9 (.bin .lss (.t 8) (.t 7))] [0, 3, 7, 8, 9] []) (.seq (.cond (.t 9) (.skip) (.exit 0)) (.seq (.block 1 (.seq (.reg [i1 10 (.mov (.t 8)),
    i1 5 (.mov (.t 10))] [0, 3, 5, 7, 8] []) (.seq (.regl [1, 2, 3, 0, 4, 5] [i1 12 (.mov (.t 0)),
    i1 13 (.mov (.t 5)),
    i1 14 (.iaddr 2 (.t 12) (.t 13)),
    i1 11 (.load 2 true (.t 3)),
    i1 15 (.load 2 true (.t 14)),
    i1 16 (.eqp false (true, [.str, .str]) (.t 11) (.t 15))] [0, 3, 5, 7, 8, 16] []) (.cond (.t 16) (.seq (.reg [i1 17 (.mov (.t 5)),
    i1 4 (.mov (.t 17))] [4] []) (.ret)) (.skip))))) (.reg [i1 18 (.bin .add (.t 8) (.c (.int .i64 1))),
    i1 8 (.mov (.t 18))] [0, 3, 7, 8] []))))))) (.seq (.reg [i1 4 (.mov (.c (.int .i64 (-1))))] [4] []) (.ret)))
abbrev nr_slices_Index_Ref : Nat := 95
def C_slices_Index_Ref_1 (QF : AEnd → Store → Prop) (r0 : LE → Store → Prop) (v0 v3 v7 v8 : AV) (S : Store) : Prop :=
  biW .lss v8 v7 fun v9 =>
  cnW v9 (iaW 2 v0 v8 fun v14 =>
  ldW S 2 true v3 fun v11 =>
  ldW S 2 true v14 fun v15 =>
  eqW false (true, [.str, .str]) v11 v15 fun v16 =>
  cnW v16 (rtW [.tmp v8] QF S)
  (biW .add v8 (.int .i64 1) fun v18 =>
  rcW r0 [(0, v0), (3, v3), (7, v7), (8, v18)] S))
  (rtW [.tmp (.int .i64 (-1))] QF S)
def B_slices_Index_Ref (QF : AEnd → Store → Prop) (v0 v1 : AV) (S : Store) : Prop :=
  brW 2 v1 fun v3 =>
  lnW S 1 v0 fun v7 =>
  LoopP (fun r0 l S => C_slices_Index_Ref_1 QF r0 (lget l 0) (lget l 3) (lget l 7) (lget l 8) S) [(0, v0), (3, v3), (7, v7), (8, (.int .i64 0))] S
theorem w_slices_Index_Ref {QF : AEnd → Store → Prop} {v0 v1 : AV} {S : Store} (h : B_slices_Index_Ref QF v0 v1 S) : ACalls PG nr_slices_Index_Ref [v0, v1] S QF :=
  acalls_tf (F := tf_slices_Index_Ref) (by kernel_rfl) rfl (by kernel_rfl) h
def tf_engine_search_expr : TFunc where
  n := 82
  args := 3
  res := [.tmp 6]
  code := .seq (.reg [i1 3 (.boxr 87 1 (.t 0)),
    i1 4 (.boxr 56 2 (.t 1)),
    i1 5 (.boxr 41 4 (.t 2)),
    i1 6 (.mov (.c (.bool false)))] [3, 4, 5] []) (.seq (.seq (.reg [i1 7 (.faddr 0 (.t 5)),
    i1 8 (.load 1 false (.t 7))] [3, 4, 5, 8] []) (.block 0 (.seq (.reg [i1 10 (.bin .eql (.t 8) (.c (.int .i64 0))),
    i1 9 (.mov (.t 10))] [3, 4, 5, 8, 9] []) (.cond (.t 9) (.seq (.reg [i1 11 (.load 1 false (.t 3)),
    i1 12 (.load 2 true (.t 4)),
    i1 13 (.faddr 1 (.t 5)),
    i1 14 (.load 1 false (.t 13)),
    i1 15 (.call (.f 43) [.t 11, .t 12, .t 14]),
    i1 6 (.mov (.t 15))] [6] []) (.ret)) (.seq (.reg [i1 17 (.bin .eql (.t 8) (.c (.int .i64 1))),
    i1 16 (.mov (.t 17))] [3, 4, 5, 8, 16] []) (.cond (.t 16) (.seq (.regl [5, 9, 0, 1, 2, 3, 4, 6, 7, 8, 10, 11] [i1 23 (.faddr 1 (.t 5)),
    i1 27 (.mkf (.func 114) [] [.t 3, .t 5]),
    i1 18 (.load 1 false (.t 3)),
    i1 19 (.nilck (.t 18)),
    i1 20 (.faddr 1 (.t 19)),
    i1 21 (.load 1 false (.t 20)),
    i1 22 (.load 2 true (.t 4)),
    i1 24 (.load 1 false (.t 23)),
    i1 25 (.build [.str ⟨#[]⟩, .str ⟨#[]⟩, .str ⟨#[]⟩] [(0, 2, .t 22), (2, 1, .t 24)]),
    i1 26 (.lookup (true, [.str, .str, .str]) false (.nils) (.t 21) (.t 25)),
    i1 28 (.call (.f 97) [.t 26, .t 27]),
    i1 6 (.mov (.t 28))] [6] []) (.ret)) (.seq (.reg [i1 30 (.bin .eql (.t 8) (.c (.int .i64 2))),
    i1 29 (.mov (.t 30))] [3, 4, 5, 8, 29] []) (.cond (.t 29) (.seq (.regl [2, 0, 1, 3, 4, 5, 6, 7, 10, 8, 9, 11, 12, 13, 14, 15, 16] [i1 33 (.faddr 3 (.t 5)),
    i1 31 (.load 1 false (.t 3)),
    i1 32 (.load 2 true (.t 4)),
    i1 34 (.load 1 false (.t 33)),
    i1 35 (.iaddr 4 (.t 34) (.c (.int .i64 0))),
    i1 36 (.load 4 true (.t 35)),
    i1 37 (.call (.f 96) [.t 31, .t 32, .t 36]),
    i1 38 (.mov (.t 37)),
    .grp 38 false [s1 41 (.faddr 3 (.t 5)), s1 39 (.load 1 false (.t 3)), s1 40 (.load 2 true (.t 4)), s1 42 (.load 1 false (.t 41)), s1 43 (.iaddr 4 (.t 42) (.c (.int .i64 1))), s1 44 (.load 4 true (.t 43)), s1 45 (.call (.f 96) [.t 39, .t 40, .t 44])],
    i1 46 (.pick (.t 38) (.c (.bool true)) (.t 45)),
    i1 6 (.mov (.t 46))] [6] []) (.ret)) (.seq (.reg [i1 48 (.bin .eql (.t 8) (.c (.int .i64 3))),
    i1 47 (.mov (.t 48))] [3, 4, 5, 47] []) (.cond (.t 47) (.seq (.regl [2, 0, 1, 3, 4, 5, 6, 7, 10, 8, 9, 11, 12, 13, 14, 15, 16] [i1 51 (.faddr 3 (.t 5)),
    i1 49 (.load 1 false (.t 3)),
    i1 50 (.load 2 true (.t 4)),
    i1 52 (.load 1 false (.t 51)),
    i1 53 (.iaddr 4 (.t 52) (.c (.int .i64 0))),
    i1 54 (.load 4 true (.t 53)),
    i1 55 (.call (.f 96) [.t 49, .t 50, .t 54]),
    i1 56 (.mov (.t 55)),
    .grp 56 true [s1 59 (.faddr 3 (.t 5)), s1 57 (.load 1 false (.t 3)), s1 58 (.load 2 true (.t 4)), s1 60 (.load 1 false (.t 59)), s1 61 (.iaddr 4 (.t 60) (.c (.int .i64 1))), s1 62 (.load 4 true (.t 61)), s1 63 (.call (.f 96) [.t 57, .t 58, .t 62])],
    i1 64 (.pick (.t 56) (.t 63) (.c (.bool false))),
    i1 6 (.mov (.t 64))] [6] []) (.ret)) (.skip))))))))))) (.seq (.regl [2, 0, 1, 3, 4, 5, 6, 7, 10, 8, 9, 11, 12, 13, 14, 15, 16, 17] [i1 67 (.faddr 3 (.t 5)),
    i1 65 (.load 1 false (.t 3)),
    i1 66 (.load 2 true (.t 4)),
    i1 68 (.load 1 false (.t 67)),
    i1 69 (.iaddr 4 (.t 68) (.c (.int .i64 0))),
    i1 70 (.load 4 true (.t 69)),
    i1 71 (.call (.f 96) [.t 65, .t 66, .t 70]),
    i1 72 (.mov (.t 71)),
    .grp 72 true [s1 75 (.faddr 3 (.t 5)), s1 73 (.load 1 false (.t 3)), s1 74 (.load 2 true (.t 4)), s1 76 (.load 1 false (.t 75)), s1 77 (.iaddr 4 (.t 76) (.c (.int .i64 1))), s1 78 (.load 4 true (.t 77)), s1 79 (.call (.f 96) [.t 73, .t 74, .t 78]), s1 80 (.not (.t 79))],
    i1 81 (.pick (.t 72) (.t 80) (.c (.bool false))),
    i1 6 (.mov (.t 81))] [6] []) (.ret)))
abbrev nr_engine_search_expr : Nat := 96
def B_engine_search_expr (QF : AEnd → Store → Prop) (v0 v1 v2 : AV) (S : Store) : Prop :=
  brW 1 v0 fun v3 =>
  brW 2 v1 fun v4 =>
  brW 4 v2 fun v5 =>
  faW 0 v5 fun v7 =>
  ldW S 1 false v7 fun v8 =>
  biW .eql v8 (.int .i64 0) fun v10 =>
  cnW v10 (ldW S 1 false v3 fun v11 =>
  ldW S 2 true v4 fun v12 =>
  faW 1 v5 fun v13 =>
  ldW S 1 false v13 fun v14 =>
  caW PG S (.func (.func 43) [] []) [v11, v12, v14] (fun v15 S =>
  rtW [.tmp v15] QF S) (pqW QF))
  (biW .eql v8 (.int .i64 1) fun v17 =>
  cnW v17 (faW 1 v5 fun v23 =>
  ldW S 1 false v3 fun v18 =>
  nkW v18 fun v19 =>
  faW 1 v19 fun v20 =>
  ldW S 1 false v20 fun v21 =>
  ldW S 2 true v4 fun v22 =>
  ldW S 1 false v23 fun v24 =>
  bdW [.str ⟨#[]⟩, .str ⟨#[]⟩, .str ⟨#[]⟩] [(0, 2, v22), (2, 1, v24)] fun v25 =>
  lkW S (true, [.str, .str, .str]) false (.nils) v21 v25 fun v26 =>
  caW PG S (.func (.func 97) [] []) [v26, (.func (.func 114) [] [v3, v5])] (fun v28 S =>
  rtW [.tmp v28] QF S) (pqW QF))
  (biW .eql v8 (.int .i64 2) fun v30 =>
  cnW v30 (faW 3 v5 fun v33 =>
  ldW S 1 false v3 fun v31 =>
  ldW S 2 true v4 fun v32 =>
  ldW S 1 false v33 fun v34 =>
  iaW 4 v34 (.int .i64 0) fun v35 =>
  ldW S 4 true v35 fun v36 =>
  caW PG S (.func (.func 96) [] []) [v31, v32, v36] (fun v37 S =>
  grW v37 false (faW 3 v5 fun v41 =>
  ldW S 1 false v3 fun v39 =>
  ldW S 2 true v4 fun v40 =>
  ldW S 1 false v41 fun v42 =>
  iaW 4 v42 (.int .i64 1) fun v43 =>
  ldW S 4 true v43 fun v44 =>
  caW PG S (.func (.func 96) [] []) [v39, v40, v44] (fun v45 S =>
  pkW v37 (.bool true) v45 fun v46 =>
  rtW [.tmp v46] QF S) (pqW QF))
  (pkW v37 (.bool true) undefA fun v46 =>
  rtW [.tmp v46] QF S)) (pqW QF))
  (biW .eql v8 (.int .i64 3) fun v48 =>
  cnW v48 (faW 3 v5 fun v51 =>
  ldW S 1 false v3 fun v49 =>
  ldW S 2 true v4 fun v50 =>
  ldW S 1 false v51 fun v52 =>
  iaW 4 v52 (.int .i64 0) fun v53 =>
  ldW S 4 true v53 fun v54 =>
  caW PG S (.func (.func 96) [] []) [v49, v50, v54] (fun v55 S =>
  grW v55 true (faW 3 v5 fun v59 =>
  ldW S 1 false v3 fun v57 =>
  ldW S 2 true v4 fun v58 =>
  ldW S 1 false v59 fun v60 =>
  iaW 4 v60 (.int .i64 1) fun v61 =>
  ldW S 4 true v61 fun v62 =>
  caW PG S (.func (.func 96) [] []) [v57, v58, v62] (fun v63 S =>
  pkW v55 v63 (.bool false) fun v64 =>
  rtW [.tmp v64] QF S) (pqW QF))
  (pkW v55 undefA (.bool false) fun v64 =>
  rtW [.tmp v64] QF S)) (pqW QF))
  (faW 3 v5 fun v67 =>
  ldW S 1 false v3 fun v65 =>
  ldW S 2 true v4 fun v66 =>
  ldW S 1 false v67 fun v68 =>
  iaW 4 v68 (.int .i64 0) fun v69 =>
  ldW S 4 true v69 fun v70 =>
  caW PG S (.func (.func 96) [] []) [v65, v66, v70] (fun v71 S =>
  grW v71 true (faW 3 v5 fun v75 =>
  ldW S 1 false v3 fun v73 =>
  ldW S 2 true v4 fun v74 =>
  ldW S 1 false v75 fun v76 =>
  iaW 4 v76 (.int .i64 1) fun v77 =>
  ldW S 4 true v77 fun v78 =>
  caW PG S (.func (.func 96) [] []) [v73, v74, v78] (fun v79 S =>
  ntW v79 fun v80 =>
  pkW v71 v80 (.bool false) fun v81 =>
  rtW [.tmp v81] QF S) (pqW QF))
  (pkW v71 undefA (.bool false) fun v81 =>
  rtW [.tmp v81] QF S)) (pqW QF)))))
theorem w_engine_search_expr {QF : AEnd → Store → Prop} {v0 v1 v2 : AV} {S : Store} (h : B_engine_search_expr QF v0 v1 v2 S) : ACalls PG nr_engine_search_expr [v0, v1, v2] S QF :=
  acalls_tf (F := tf_engine_search_expr) (by kernel_rfl) rfl (by kernel_rfl) h
def tf_slices_ContainsFunc_Subject : TFunc where
  n := 9
  args := 2
  res := [.tmp 4]
  code := .seq (.reg [i1 4 (.mov (.c (.bool false)))] [0, 1] []) (.seq (.reg [i1 5 (.mov (.t 0)),
    i1 6 (.mov (.t 1)),
    i1 7 (.call (.f 115) [.t 5, .t 6]),
    i1 8 (.bin .geq (.t 7) (.c (.int .i64 0))),
    i1 4 (.mov (.t 8))] [4] []) (.ret))
abbrev nr_slices_ContainsFunc_Subject : Nat := 97
def B_slices_ContainsFunc_Subject (QF : AEnd → Store → Prop) (v0 v1 : AV) (S : Store) : Prop :=
  caW PG S (.func (.func 115) [] []) [v0, v1] (fun v7 S =>
  biW .geq v7 (.int .i64 0) fun v8 =>
  rtW [.tmp v8] QF S) (pqW QF)
theorem w_slices_ContainsFunc_Subject {QF : AEnd → Store → Prop} {v0 v1 : AV} {S : Store} (h : B_slices_ContainsFunc_Subject QF v0 v1 S) : ACalls PG nr_slices_ContainsFunc_Subject [v0, v1] S QF :=
  acalls_tf (F := tf_slices_ContainsFunc_Subject) (by kernel_rfl) rfl (by kernel_rfl) h
def tf_engine_search_stands_1 : TFunc where
  n := 20
  args := 2
  res := [.tmp 3]
  code := .seq (.reg [i1 2 (.boxr 93 3 (.t 0)),
    i1 3 (.mov (.c (.bool false)))] [1, 2] []) (.seq (.seq (.reg [i1 4 (.faddr 2 (.t 2)),
    i1 5 (.load 1 false (.t 4)),
    i1 6 (.bin .eql (.t 5) (.c (.str ⟨#[]⟩)))] [1, 2, 6] []) (.cond (.t 6) (.seq (.regl [0, 1, 2, 3, 4, 5, 6, 7] [i1 7 (.faddr 0 (.t 2)),
    i1 8 (.load 2 true (.t 7)),
    i1 9 (.load 1 false (.t 1)),
    i1 10 (.nilck (.t 9)),
    i1 11 (.faddr 2 (.t 10)),
    i1 12 (.load 2 true (.t 11)),
    i1 13 (.eqp false (true, [.str, .str]) (.t 8) (.t 12)),
    i1 3 (.mov (.t 13))] [3] []) (.ret)) (.skip))) (.seq (.reg [i1 14 (.load 1 false (.t 1)),
    i1 15 (.faddr 0 (.t 2)),
    i1 16 (.load 2 true (.t 15)),
    i1 17 (.faddr 2 (.t 2)),
    i1 18 (.load 1 false (.t 17)),
    i1 19 (.call (.f 43) [.t 14, .t 16, .t 18]),
    i1 3 (.mov (.t 19))] [3] []) (.ret)))
abbrev nr_engine_search_stands_1 : Nat := 98
def B_engine_search_stands_1 (QF : AEnd → Store → Prop) (v0 v1 : AV) (S : Store) : Prop :=
  brW 3 v0 fun v2 =>
  faW 2 v2 fun v4 =>
  ldW S 1 false v4 fun v5 =>
  biW .eql v5 (.str ⟨#[]⟩) fun v6 =>
  cnW v6 (faW 0 v2 fun v7 =>
  ldW S 2 true v7 fun v8 =>
  ldW S 1 false v1 fun v9 =>
  nkW v9 fun v10 =>
  faW 2 v10 fun v11 =>
  ldW S 2 true v11 fun v12 =>
  eqW false (true, [.str, .str]) v8 v12 fun v13 =>
  rtW [.tmp v13] QF S)
  (ldW S 1 false v1 fun v14 =>
  faW 0 v2 fun v15 =>
  ldW S 2 true v15 fun v16 =>
  faW 2 v2 fun v17 =>
  ldW S 1 false v17 fun v18 =>
  caW PG S (.func (.func 43) [] []) [v14, v16, v18] (fun v19 S =>
  rtW [.tmp v19] QF S) (pqW QF))
theorem w_engine_search_stands_1 {QF : AEnd → Store → Prop} {v0 v1 : AV} {S : Store} (h : B_engine_search_stands_1 QF v0 v1 S) : ACalls PG nr_engine_search_stands_1 [v0, v1] S QF :=
  acalls_tf (F := tf_engine_search_stands_1) (by kernel_rfl) rfl (by kernel_rfl) h
def tf_names_only : TFunc where
  n := 29
  args := 3
  res := [.tmp 6]
  code := .seq (.reg [i1 6 (.mov (.c (.bool false)))] [0, 1, 2] []) (.seq (.seq (.reg [i1 8 (.mov (.t 0)),
    i1 9 (.len 0 (.t 8)),
    i1 10 (.mov (.c (.int .i64 0)))] [0, 1, 2, 9, 10] []) (.block 0 (.loop [0, 1, 2, 9, 10] (.seq (.reg [i1 11 (.bin .lss (.t 10) (.t 9))] [0, 1, 2, 9, 10, 11] []) (.seq (.cond (.t 11) (.skip) (.exit 0)) (.seq (.block 1 (.seq (.reg [i1 12 (.mov (.t 10)),
    i1 7 (.mov (.t 12))] [0, 1, 2, 7, 9, 10] []) (.seq (.reg [i1 13 (.mov (.t 2)),
    i1 14 (.mov (.t 0)),
    i1 15 (.mov (.t 7)),
    i1 16 (.idxs (.t 14) (.t 15)),
    i1 17 (.call (.t 13) [.t 16]),
    i1 18 (.not (.t 17))] [0, 1, 2, 9, 10, 18] []) (.cond (.t 18) (.seq (.reg [i1 6 (.mov (.c (.bool false)))] [6] []) (.ret)) (.skip))))) (.reg [i1 19 (.bin .add (.t 10) (.c (.int .i64 1))),
    i1 10 (.mov (.t 19))] [0, 1, 2, 9, 10] []))))))) (.seq (.reg [i1 20 (.mov (.t 0)),
    i1 21 (.len 0 (.t 20)),
    i1 22 (.bin .gtr (.t 21) (.c (.int .i64 0))),
    i1 23 (.mov (.t 22)),
    .grp 23 true [s1 24 (.mov (.t 0)), s1 25 (.len 0 (.t 24)), s1 26 (.mov (.t 1)), s1 27 (.bin .leq (.t 25) (.t 26))],
    i1 28 (.pick (.t 23) (.t 27) (.c (.bool false))),
    i1 6 (.mov (.t 28))] [6] []) (.ret)))
abbrev nr_names_only : Nat := 100
def C_names_only_1 (QF : AEnd → Store → Prop) (r0 : LE → Store → Prop) (v0 v1 v2 v9 v10 : AV) (S : Store) : Prop :=
  biW .lss v10 v9 fun v11 =>
  cnW v11 (isW v0 v10 fun v16 =>
  caW PG S v2 [v16] (fun v17 S =>
  ntW v17 fun v18 =>
  cnW v18 (rtW [.tmp (.bool false)] QF S)
  (biW .add v10 (.int .i64 1) fun v19 =>
  rcW r0 [(0, v0), (1, v1), (2, v2), (9, v9), (10, v19)] S)) (pqW QF))
  (lnW S 0 v0 fun v21 =>
  biW .gtr v21 (.int .i64 0) fun v22 =>
  grW v22 true (lnW S 0 v0 fun v25 =>
  biW .leq v25 v1 fun v27 =>
  pkW v22 v27 (.bool false) fun v28 =>
  rtW [.tmp v28] QF S)
  (pkW v22 undefA (.bool false) fun v28 =>
  rtW [.tmp v28] QF S))
def B_names_only (QF : AEnd → Store → Prop) (v0 v1 v2 : AV) (S : Store) : Prop :=
  lnW S 0 v0 fun v9 =>
  LoopP (fun r0 l S => C_names_only_1 QF r0 (lget l 0) (lget l 1) (lget l 2) (lget l 9) (lget l 10) S) [(0, v0), (1, v1), (2, v2), (9, v9), (10, (.int .i64 0))] S
theorem w_names_only {QF : AEnd → Store → Prop} {v0 v1 v2 : AV} {S : Store} (h : B_names_only QF v0 v1 v2 S) : ACalls PG nr_names_only [v0, v1, v2] S QF :=
  acalls_tf (F := tf_names_only) (by kernel_rfl) rfl (by kernel_rfl) h
def tf_names_Name_1 : TFunc where
  n := 13
  args := 1
  res := [.tmp 2]
  code := .seq (.reg [i1 2 (.mov (.c (.bool false)))] [0] []) (.seq (.reg [i1 3 (.mov (.t 0)),
    i1 4 (.call (.f 102) [.t 3]),
    i1 5 (.mov (.t 4)),
    .grp 5 false [s1 6 (.mov (.t 0)), s1 7 (.call (.f 103) [.t 6])],
    i1 8 (.pick (.t 5) (.c (.bool true)) (.t 7)),
    i1 9 (.mov (.t 8)),
    .grp 9 false [s1 10 (.mov (.t 0)), s1 11 (.bin .eql (.t 10) (.c (.int .u8 95)))],
    i1 12 (.pick (.t 9) (.c (.bool true)) (.t 11)),
    i1 2 (.mov (.t 12))] [2] []) (.ret))
abbrev nr_names_Name_1 : Nat := 101
def C_names_Name_1_1 (QF : AEnd → Store → Prop) (v0 v8 : AV) (S : Store) : Prop :=
  grW v8 false (biW .eql v0 (.int .u8 95) fun v11 =>
  pkW v8 (.bool true) v11 fun v12 =>
  rtW [.tmp v12] QF S)
  (pkW v8 (.bool true) undefA fun v12 =>
  rtW [.tmp v12] QF S)
def B_names_Name_1 (QF : AEnd → Store → Prop) (v0 : AV) (S : Store) : Prop :=
  caW PG S (.func (.func 102) [] []) [v0] (fun v4 S =>
  grW v4 false (caW PG S (.func (.func 103) [] []) [v0] (fun v7 S =>
  pkW v4 (.bool true) v7 fun v8 =>
  C_names_Name_1_1 QF v0 v8 S) (pqW QF))
  (pkW v4 (.bool true) undefA fun v8 =>
  C_names_Name_1_1 QF v0 v8 S)) (pqW QF)
theorem w_names_Name_1 {QF : AEnd → Store → Prop} {v0 : AV} {S : Store} (h : B_names_Name_1 QF v0 S) : ACalls PG nr_names_Name_1 [v0] S QF :=
  acalls_tf (F := tf_names_Name_1) (by kernel_rfl) rfl (by kernel_rfl) h
def tf_names_small : TFunc where
  n := 9
  args := 1
  res := [.tmp 2]
  code := .seq (.reg [i1 2 (.mov (.c (.bool false)))] [0] []) (.seq (.reg [i1 3 (.mov (.t 0)),
    i1 4 (.bin .geq (.t 3) (.c (.int .u8 97))),
    i1 5 (.mov (.t 4)),
    .grp 5 true [s1 6 (.mov (.t 0)), s1 7 (.bin .leq (.t 6) (.c (.int .u8 122)))],
    i1 8 (.pick (.t 5) (.t 7) (.c (.bool false))),
    i1 2 (.mov (.t 8))] [2] []) (.ret))
abbrev nr_names_small : Nat := 102
def B_names_small (QF : AEnd → Store → Prop) (v0 : AV) (S : Store) : Prop :=
  biW .geq v0 (.int .u8 97) fun v4 =>
  grW v4 true (biW .leq v0 (.int .u8 122) fun v7 =>
  pkW v4 v7 (.bool false) fun v8 =>
  rtW [.tmp v8] QF S)
  (pkW v4 undefA (.bool false) fun v8 =>
  rtW [.tmp v8] QF S)
theorem w_names_small {QF : AEnd → Store → Prop} {v0 : AV} {S : Store} (h : B_names_small QF v0 S) : ACalls PG nr_names_small [v0] S QF :=
  acalls_tf (F := tf_names_small) (by kernel_rfl) rfl (by kernel_rfl) h
def tf_names_digit : TFunc where
  n := 9
  args := 1
  res := [.tmp 2]
  code := .seq (.reg [i1 2 (.mov (.c (.bool false)))] [0] []) (.seq (.reg [i1 3 (.mov (.t 0)),
    i1 4 (.bin .geq (.t 3) (.c (.int .u8 48))),
    i1 5 (.mov (.t 4)),
    .grp 5 true [s1 6 (.mov (.t 0)), s1 7 (.bin .leq (.t 6) (.c (.int .u8 57)))],
    i1 8 (.pick (.t 5) (.t 7) (.c (.bool false))),
    i1 2 (.mov (.t 8))] [2] []) (.ret))
abbrev nr_names_digit : Nat := 103
def B_names_digit (QF : AEnd → Store → Prop) (v0 : AV) (S : Store) : Prop :=
  biW .geq v0 (.int .u8 48) fun v4 =>
  grW v4 true (biW .leq v0 (.int .u8 57) fun v7 =>
  pkW v4 v7 (.bool false) fun v8 =>
  rtW [.tmp v8] QF S)
  (pkW v4 undefA (.bool false) fun v8 =>
  rtW [.tmp v8] QF S)
theorem w_names_digit {QF : AEnd → Store → Prop} {v0 : AV} {S : Store} (h : B_names_digit QF v0 S) : ACalls PG nr_names_digit [v0] S QF :=
  acalls_tf (F := tf_names_digit) (by kernel_rfl) rfl (by kernel_rfl) h
def tf_slices_IndexFunc_Rel : TFunc where
  n := 19
  args := 2
  res := [.tmp 4]
  code := .seq (.reg [i1 4 (.mov (.c (.int .i64 0)))] [0, 1] []) (.seq (.seq (.reg [i1 6 (.mov (.t 0)),
    i1 7 (.len 1 (.t 6)),
    i1 8 (.mov (.c (.int .i64 0)))] [0, 1, 7, 8] []) (.block 0 (.loop [0, 1, 7, 8] (.seq (.reg [i1 9 (.bin .lss (.t 8) (.t 7))] [0, 1, 7, 8, 9] []) (.seq (.cond (.t 9) (.skip) (.exit 0)) (.seq (.block 1 (.seq (.reg [i1 10 (.mov (.t 8)),
    i1 5 (.mov (.t 10))] [0, 1, 5, 7, 8] []) (.seq (.reg [i1 11 (.mov (.t 1)),
    i1 12 (.mov (.t 0)),
    i1 13 (.mov (.t 5)),
    i1 14 (.iaddr 6 (.t 12) (.t 13)),
    i1 15 (.load 6 true (.t 14)),
    i1 16 (.call (.t 11) [.t 15])] [0, 1, 5, 7, 8, 16] []) (.cond (.t 16) (.seq (.reg [i1 17 (.mov (.t 5)),
    i1 4 (.mov (.t 17))] [4] []) (.ret)) (.skip))))) (.reg [i1 18 (.bin .add (.t 8) (.c (.int .i64 1))),
    i1 8 (.mov (.t 18))] [0, 1, 7, 8] []))))))) (.seq (.reg [i1 4 (.mov (.c (.int .i64 (-1))))] [4] []) (.ret)))
abbrev nr_slices_IndexFunc_Rel : Nat := 104
def C_slices_IndexFunc_Rel_1 (QF : AEnd → Store → Prop) (r0 : LE → Store → Prop) (v0 v1 v7 v8 : AV) (S : Store) : Prop :=
  biW .lss v8 v7 fun v9 =>
  cnW v9 (iaW 6 v0 v8 fun v14 =>
  ldW S 6 true v14 fun v15 =>
  caW PG S v1 [v15] (fun v16 S =>
  cnW v16 (rtW [.tmp v8] QF S)
  (biW .add v8 (.int .i64 1) fun v18 =>
  rcW r0 [(0, v0), (1, v1), (7, v7), (8, v18)] S)) (pqW QF))
  (rtW [.tmp (.int .i64 (-1))] QF S)
def B_slices_IndexFunc_Rel (QF : AEnd → Store → Prop) (v0 v1 : AV) (S : Store) : Prop :=
  lnW S 1 v0 fun v7 =>
  LoopP (fun r0 l S => C_slices_IndexFunc_Rel_1 QF r0 (lget l 0) (lget l 1) (lget l 7) (lget l 8) S) [(0, v0), (1, v1), (7, v7), (8, (.int .i64 0))] S
theorem w_slices_IndexFunc_Rel {QF : AEnd → Store → Prop} {v0 v1 : AV} {S : Store} (h : B_slices_IndexFunc_Rel QF v0 v1 S) : ACalls PG nr_slices_IndexFunc_Rel [v0, v1] S QF :=
  acalls_tf (F := tf_slices_IndexFunc_Rel) (by kernel_rfl) rfl (by kernel_rfl) h
def tf_lang_may : TFunc where
  n := 67
  args := 2
  res := [.tmp 4]
  code := .seq (.reg [i1 2 (.boxr 41 4 (.t 0)),
    i1 4 (.mov (.c (.bool false)))] [1, 2] []) (.seq (.block 0 (.seq (.reg [i1 6 (.mov (.t 1)),
    i1 7 (.bin .eql (.t 6) (.c (.int .i64 0))),
    i1 5 (.mov (.t 7))] [1, 2, 5] []) (.cond (.t 5) (.seq (.reg [i1 4 (.mov (.c (.bool false)))] [4] []) (.ret)) (.seq (.reg [i1 9 (.faddr 0 (.t 2)),
    i1 10 (.load 1 false (.t 9)),
    i1 11 (.bin .eql (.t 10) (.c (.int .i64 0))),
    i1 8 (.mov (.t 11))] [1, 2, 8] []) (.cond (.t 8) (.seq (.reg [i1 12 (.faddr 1 (.t 2)),
    i1 13 (.load 1 false (.t 12)),
    i1 14 (.call (.f 75) [.t 13]),
    i1 15 (.mov (.t 14)),
    .grp 15 true [s1 16 (.faddr 3 (.t 2)), s1 17 (.load 1 false (.t 16)), s1 18 (.len 1 (.t 17)), s1 19 (.bin .eql (.t 18) (.c (.int .i64 0)))],
    i1 20 (.pick (.t 15) (.t 19) (.c (.bool false))),
    i1 4 (.mov (.t 20))] [4] []) (.ret)) (.seq (.reg [i1 22 (.faddr 0 (.t 2)),
    i1 23 (.load 1 false (.t 22)),
    i1 24 (.bin .eql (.t 23) (.c (.int .i64 1))),
    i1 21 (.mov (.t 24))] [1, 2, 21] []) (.cond (.t 21) (.seq (.reg [i1 25 (.faddr 1 (.t 2)),
    i1 26 (.load 1 false (.t 25)),
    i1 27 (.call (.f 75) [.t 26]),
    i1 28 (.mov (.t 27)),
    .grp 28 true [s1 29 (.faddr 2 (.t 2)), s1 30 (.load 1 false (.t 29)), s1 31 (.call (.f 75) [.t 30])],
    i1 32 (.pick (.t 28) (.t 31) (.c (.bool false))),
    i1 33 (.mov (.t 32)),
    .grp 33 true [s1 34 (.faddr 3 (.t 2)), s1 35 (.load 1 false (.t 34)), s1 36 (.len 1 (.t 35)), s1 37 (.bin .eql (.t 36) (.c (.int .i64 0)))],
    i1 38 (.pick (.t 33) (.t 37) (.c (.bool false))),
    i1 4 (.mov (.t 38))] [4] []) (.ret)) (.skip)))))))) (.seq (.reg [i1 39 (.faddr 0 (.t 2)),
    i1 40 (.load 1 false (.t 39)),
    i1 41 (.call (.f 116) [.t 40]),
    i1 42 (.bin .neq (.t 41) (.c (.str ⟨#[]⟩))),
    i1 43 (.mov (.t 42)),
    .grp 43 true [s1 44 (.faddr 3 (.t 2)), s1 45 (.load 1 false (.t 44)), s1 46 (.len 1 (.t 45)), s1 47 (.bin .eql (.t 46) (.c (.int .i64 2)))],
    i1 48 (.pick (.t 43) (.t 47) (.c (.bool false))),
    i1 49 (.mov (.t 48)),
    .grp 49 true [s1 50 (.faddr 3 (.t 2)), s1 51 (.load 1 false (.t 50)), s1 52 (.iaddr 4 (.t 51) (.c (.int .i64 0))), s1 53 (.load 4 true (.t 52)), s1 54 (.mov (.t 1)), s1 55 (.bin .sub (.t 54) (.c (.int .i64 1))), s1 56 (.call (.f 105) [.t 53, .t 55])],
    i1 57 (.pick (.t 49) (.t 56) (.c (.bool false))),
    i1 58 (.mov (.t 57)),
    .grp 58 true [s1 59 (.faddr 3 (.t 2)), s1 60 (.load 1 false (.t 59)), s1 61 (.iaddr 4 (.t 60) (.c (.int .i64 1))), s1 62 (.load 4 true (.t 61)), s1 63 (.mov (.t 1)), s1 64 (.bin .sub (.t 63) (.c (.int .i64 1))), s1 65 (.call (.f 105) [.t 62, .t 64])],
    i1 66 (.pick (.t 58) (.t 65) (.c (.bool false))),
    i1 4 (.mov (.t 66))] [4] []) (.ret)))
abbrev nr_lang_may : Nat := 105
def C_lang_may_3 (QF : AEnd → Store → Prop) (v2 v32 : AV) (S : Store) : Prop :=
  grW v32 true (faW 3 v2 fun v34 =>
  ldW S 1 false v34 fun v35 =>
  lnW S 1 v35 fun v36 =>
  biW .eql v36 (.int .i64 0) fun v37 =>
  pkW v32 v37 (.bool false) fun v38 =>
  rtW [.tmp v38] QF S)
  (pkW v32 undefA (.bool false) fun v38 =>
  rtW [.tmp v38] QF S)
def C_lang_may_2 (QF : AEnd → Store → Prop) (v1 v2 v57 : AV) (S : Store) : Prop :=
  grW v57 true (faW 3 v2 fun v59 =>
  ldW S 1 false v59 fun v60 =>
  iaW 4 v60 (.int .i64 1) fun v61 =>
  ldW S 4 true v61 fun v62 =>
  biW .sub v1 (.int .i64 1) fun v64 =>
  caW PG S (.func (.func 105) [] []) [v62, v64] (fun v65 S =>
  pkW v57 v65 (.bool false) fun v66 =>
  rtW [.tmp v66] QF S) (pqW QF))
  (pkW v57 undefA (.bool false) fun v66 =>
  rtW [.tmp v66] QF S)
def C_lang_may_1 (QF : AEnd → Store → Prop) (v1 v2 v48 : AV) (S : Store) : Prop :=
  grW v48 true (faW 3 v2 fun v50 =>
  ldW S 1 false v50 fun v51 =>
  iaW 4 v51 (.int .i64 0) fun v52 =>
  ldW S 4 true v52 fun v53 =>
  biW .sub v1 (.int .i64 1) fun v55 =>
  caW PG S (.func (.func 105) [] []) [v53, v55] (fun v56 S =>
  pkW v48 v56 (.bool false) fun v57 =>
  C_lang_may_2 QF v1 v2 v57 S) (pqW QF))
  (pkW v48 undefA (.bool false) fun v57 =>
  C_lang_may_2 QF v1 v2 v57 S)
def B_lang_may (QF : AEnd → Store → Prop) (v0 v1 : AV) (S : Store) : Prop :=
  brW 4 v0 fun v2 =>
  biW .eql v1 (.int .i64 0) fun v7 =>
  cnW v7 (rtW [.tmp (.bool false)] QF S)
  (faW 0 v2 fun v9 =>
  ldW S 1 false v9 fun v10 =>
  biW .eql v10 (.int .i64 0) fun v11 =>
  cnW v11 (faW 1 v2 fun v12 =>
  ldW S 1 false v12 fun v13 =>
  caW PG S (.func (.func 75) [] []) [v13] (fun v14 S =>
  grW v14 true (faW 3 v2 fun v16 =>
  ldW S 1 false v16 fun v17 =>
  lnW S 1 v17 fun v18 =>
  biW .eql v18 (.int .i64 0) fun v19 =>
  pkW v14 v19 (.bool false) fun v20 =>
  rtW [.tmp v20] QF S)
  (pkW v14 undefA (.bool false) fun v20 =>
  rtW [.tmp v20] QF S)) (pqW QF))
  (faW 0 v2 fun v22 =>
  ldW S 1 false v22 fun v23 =>
  biW .eql v23 (.int .i64 1) fun v24 =>
  cnW v24 (faW 1 v2 fun v25 =>
  ldW S 1 false v25 fun v26 =>
  caW PG S (.func (.func 75) [] []) [v26] (fun v27 S =>
  grW v27 true (faW 2 v2 fun v29 =>
  ldW S 1 false v29 fun v30 =>
  caW PG S (.func (.func 75) [] []) [v30] (fun v31 S =>
  pkW v27 v31 (.bool false) fun v32 =>
  C_lang_may_3 QF v2 v32 S) (pqW QF))
  (pkW v27 undefA (.bool false) fun v32 =>
  C_lang_may_3 QF v2 v32 S)) (pqW QF))
  (faW 0 v2 fun v39 =>
  ldW S 1 false v39 fun v40 =>
  caW PG S (.func (.func 116) [] []) [v40] (fun v41 S =>
  biW .neq v41 (.str ⟨#[]⟩) fun v42 =>
  grW v42 true (faW 3 v2 fun v44 =>
  ldW S 1 false v44 fun v45 =>
  lnW S 1 v45 fun v46 =>
  biW .eql v46 (.int .i64 2) fun v47 =>
  pkW v42 v47 (.bool false) fun v48 =>
  C_lang_may_1 QF v1 v2 v48 S)
  (pkW v42 undefA (.bool false) fun v48 =>
  C_lang_may_1 QF v1 v2 v48 S)) (pqW QF))))
theorem w_lang_may {QF : AEnd → Store → Prop} {v0 v1 : AV} {S : Store} (h : B_lang_may QF v0 v1 S) : ACalls PG nr_lang_may [v0, v1] S QF :=
  acalls_tf (F := tf_lang_may) (by kernel_rfl) rfl (by kernel_rfl) h
def tf_slices_ContainsFunc_Ref : TFunc where
  n := 9
  args := 2
  res := [.tmp 4]
  code := .seq (.reg [i1 4 (.mov (.c (.bool false)))] [0, 1] []) (.seq (.reg [i1 5 (.mov (.t 0)),
    i1 6 (.mov (.t 1)),
    i1 7 (.call (.f 117) [.t 5, .t 6]),
    i1 8 (.bin .geq (.t 7) (.c (.int .i64 0))),
    i1 4 (.mov (.t 8))] [4] []) (.ret))
abbrev nr_slices_ContainsFunc_Ref : Nat := 106
def B_slices_ContainsFunc_Ref (QF : AEnd → Store → Prop) (v0 v1 : AV) (S : Store) : Prop :=
  caW PG S (.func (.func 117) [] []) [v0, v1] (fun v7 S =>
  biW .geq v7 (.int .i64 0) fun v8 =>
  rtW [.tmp v8] QF S) (pqW QF)
theorem w_slices_ContainsFunc_Ref {QF : AEnd → Store → Prop} {v0 v1 : AV} {S : Store} (h : B_slices_ContainsFunc_Ref QF v0 v1 S) : ACalls PG nr_slices_ContainsFunc_Ref [v0, v1] S QF :=
  acalls_tf (F := tf_slices_ContainsFunc_Ref) (by kernel_rfl) rfl (by kernel_rfl) h
def tf_lang_rel_1 : TFunc where
  n := 6
  args := 1
  res := [.tmp 2]
  code := .seq (.reg [i1 1 (.boxr 53 2 (.t 0)),
    i1 2 (.mov (.c (.bool false)))] [1] []) (.seq (.reg [i1 3 (.load 2 true (.t 1)),
    i1 4 (.call (.f 108) [.t 3]),
    i1 5 (.not (.t 4)),
    i1 2 (.mov (.t 5))] [2] []) (.ret))
abbrev nr_lang_rel_1 : Nat := 107
def B_lang_rel_1 (QF : AEnd → Store → Prop) (v0 : AV) (S : Store) : Prop :=
  brW 2 v0 fun v1 =>
  ldW S 2 true v1 fun v3 =>
  caW PG S (.func (.func 108) [] []) [v3] (fun v4 S =>
  ntW v4 fun v5 =>
  rtW [.tmp v5] QF S) (pqW QF)
theorem w_lang_rel_1 {QF : AEnd → Store → Prop} {v0 : AV} {S : Store} (h : B_lang_rel_1 QF v0 S) : ACalls PG nr_lang_rel_1 [v0] S QF :=
  acalls_tf (F := tf_lang_rel_1) (by kernel_rfl) rfl (by kernel_rfl) h
end Go.HL
