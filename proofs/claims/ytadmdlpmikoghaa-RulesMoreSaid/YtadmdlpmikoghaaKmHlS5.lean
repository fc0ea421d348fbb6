/- A part of a proof. -/
import Derived.Test.YtadmdlpmikoghaaKmHlP
set_option maxRecDepth 100000
set_option linter.unusedVariables false
namespace Go.HL
def tf_rules_index_over : TFunc where
  n := 39
  args := 3
  res := [.tmp 6]
  code := .seq (.reg [i1 4 (.boxr 43 6 (.t 1)),
    i1 6 (.mov (.c (.nils)))] [0, 2, 4] []) (.seq (.reg [i1 7 (.mov (.c (.nils)))] [0, 2, 4, 7] []) (.seq (.seq (.reg [i1 12 (.faddr 1 (.t 4)),
    i1 13 (.load 1 false (.t 12)),
    i1 14 (.len 1 (.t 13)),
    i1 15 (.mov (.c (.int .i64 0)))] [0, 2, 7, 13, 14, 15] []) (.block 0 (.loop [0, 2, 7, 13, 14, 15] (.seq (.reg [i1 16 (.bin .lss (.t 15) (.t 14))] [0, 2, 7, 13, 14, 15, 16] []) (.seq (.cond (.t 16) (.skip) (.exit 0)) (.seq (.block 1 (.seq (.reg [i1 17 (.iaddr 2 (.t 13) (.t 15)),
    i1 18 (.load 2 true (.t 17)),
    .box2 9 53 [.str ⟨#[]⟩, .str ⟨#[]⟩] 2 (.t 18)] [0, 2, 7, 9, 13, 14, 15] []) (.seq (.reg [i1 20 (.mov (.t 0)),
    i1 21 (.faddr 0 (.t 9)),
    i1 22 (.load 1 false (.t 21)),
    i1 23 (.mov (.t 2)),
    i1 24 (.call (.f 36) [.t 20, .t 22, .t 23]),
    i1 19 (.mov (.t 24)),
    i1 25 (.extr (.t 19) 0),
    i1 26 (.extr (.t 19) 1),
    .box2 10 70 [.int .i64 0, .int .i64 0] 2 (.t 25),
    i1 11 (.mov (.t 26))] [0, 2, 7, 9, 10, 11, 13, 14, 15] []) (.seq (.reg [i1 27 (.mov (.t 11)),
    i1 28 (.mov (.t 27)),
    .grp 28 true [s1 29 (.faddr 1 (.t 9)), s1 30 (.load 1 false (.t 29)), s1 31 (.bin .eql (.t 30) (.c (.str ⟨#[]⟩)))],
    i1 32 (.pick (.t 28) (.t 31) (.c (.bool false)))] [0, 2, 7, 10, 13, 14, 15, 32] []) (.cond (.t 32) (.reg [i1 33 (.mov (.t 7)),
    i1 34 (.load 2 true (.t 10)),
    i1 35 (.bslicr 70 2 [.t 34]),
    i1 36 (.app 70 2 16 (.t 33) (.t 35)),
    i1 7 (.mov (.t 36))] [0, 2, 7, 13, 14, 15] []) (.skip)))))) (.reg [i1 37 (.bin .add (.t 15) (.c (.int .i64 1))),
    i1 15 (.mov (.t 37))] [0, 2, 7, 13, 14, 15] []))))))) (.seq (.reg [i1 38 (.mov (.t 7)),
    i1 6 (.mov (.t 38))] [6] []) (.ret))))
abbrev nr_rules_index_over : Nat := 71
def C_rules_index_over_2 (QF : AEnd → Store → Prop) (r0 : LE → Store → Prop) (v0 v2 v7 v10 v13 v14 v15 v32 : AV) (S : Store) : Prop :=
  cnW v32 (ldW S 2 true v10 fun v34 =>
  srW 2 [v34] fun v35 =>
  apW S 70 2 16 v7 v35 fun v36 S =>
  biW .add v15 (.int .i64 1) fun v37 =>
  rcW r0 [(0, v0), (2, v2), (7, v36), (13, v13), (14, v14), (15, v37)] S)
  (biW .add v15 (.int .i64 1) fun v37 =>
  rcW r0 [(0, v0), (2, v2), (7, v7), (13, v13), (14, v14), (15, v37)] S)
def C_rules_index_over_1 (QF : AEnd → Store → Prop) (r0 : LE → Store → Prop) (v0 v2 v7 v13 v14 v15 : AV) (S : Store) : Prop :=
  biW .lss v15 v14 fun v16 =>
  cnW v16 (iaW 2 v13 v15 fun v17 =>
  ldW S 2 true v17 fun v18 =>
  bfW 2 v18 fun v9 =>
  faW 0 v9 fun v21 =>
  ldW S 1 false v21 fun v22 =>
  caW PG S (.func (.func 36) [] []) [v0, v22, v2] (fun v24 S =>
  exW 0 v24 fun v25 =>
  exW 1 v24 fun v26 =>
  bfW 2 v25 fun v10 =>
  grW v26 true (faW 1 v9 fun v29 =>
  ldW S 1 false v29 fun v30 =>
  biW .eql v30 (.str ⟨#[]⟩) fun v31 =>
  pkW v26 v31 (.bool false) fun v32 =>
  C_rules_index_over_2 QF r0 v0 v2 v7 v10 v13 v14 v15 v32 S)
  (pkW v26 undefA (.bool false) fun v32 =>
  C_rules_index_over_2 QF r0 v0 v2 v7 v10 v13 v14 v15 v32 S)) (pqW QF))
  (rtW [.tmp v7] QF S)
def B_rules_index_over (QF : AEnd → Store → Prop) (v0 v1 v2 : AV) (S : Store) : Prop :=
  brW 6 v1 fun v4 =>
  faW 1 v4 fun v12 =>
  ldW S 1 false v12 fun v13 =>
  lnW S 1 v13 fun v14 =>
  LoopP (fun r0 l S => C_rules_index_over_1 QF r0 (lget l 0) (lget l 2) (lget l 7) (lget l 13) (lget l 14) (lget l 15) S) [(0, v0), (2, v2), (7, (.nils)), (13, v13), (14, v14), (15, (.int .i64 0))] S
theorem w_rules_index_over {QF : AEnd → Store → Prop} {v0 v1 v2 : AV} {S : Store} (h : B_rules_index_over QF v0 v1 v2 S) : ACalls PG nr_rules_index_over [v0, v1, v2] S QF :=
  acalls_tf (F := tf_rules_index_over) (by kernel_rfl) rfl (by kernel_rfl) h
def tf_math_bits_Mul64 : TFunc where
  n := 51
  args := 2
  res := [.tmp 4, .tmp 5]
  code := .seq (.reg [i1 4 (.mov (.c (.int .u64 0))),
    i1 5 (.mov (.c (.int .u64 0)))] [0, 1] []) (.seq (.reg [i1 14 (.mov (.t 0)),
    i1 15 (.bin .and (.t 14) (.c (.int .u64 4294967295))),
    i1 6 (.mov (.t 15))] [0, 1, 6] []) (.seq (.reg [i1 16 (.mov (.t 0)),
    i1 17 (.bin .shr (.t 16) (.c (.int .u64 32))),
    i1 7 (.mov (.t 17))] [0, 1, 6, 7] []) (.seq (.reg [i1 18 (.mov (.t 1)),
    i1 19 (.bin .and (.t 18) (.c (.int .u64 4294967295))),
    i1 8 (.mov (.t 19))] [0, 1, 6, 7, 8] []) (.seq (.reg [i1 20 (.mov (.t 1)),
    i1 21 (.bin .shr (.t 20) (.c (.int .u64 32))),
    i1 9 (.mov (.t 21))] [0, 1, 6, 7, 8, 9] []) (.seq (.reg [i1 22 (.mov (.t 6)),
    i1 23 (.mov (.t 8)),
    i1 24 (.bin .mul (.t 22) (.t 23)),
    i1 10 (.mov (.t 24))] [0, 1, 6, 7, 8, 9, 10] []) (.seq (.reg [i1 25 (.mov (.t 7)),
    i1 26 (.mov (.t 8)),
    i1 27 (.bin .mul (.t 25) (.t 26)),
    i1 28 (.mov (.t 10)),
    i1 29 (.bin .shr (.t 28) (.c (.int .u64 32))),
    i1 30 (.bin .add (.t 27) (.t 29)),
    i1 11 (.mov (.t 30))] [0, 1, 6, 7, 9, 11] []) (.seq (.reg [i1 31 (.mov (.t 11)),
    i1 32 (.bin .and (.t 31) (.c (.int .u64 4294967295))),
    i1 12 (.mov (.t 32))] [0, 1, 6, 7, 9, 11, 12] []) (.seq (.reg [i1 33 (.mov (.t 11)),
    i1 34 (.bin .shr (.t 33) (.c (.int .u64 32))),
    i1 13 (.mov (.t 34))] [0, 1, 6, 7, 9, 12, 13] []) (.seq (.reg [i1 35 (.mov (.t 12)),
    i1 36 (.mov (.t 6)),
    i1 37 (.mov (.t 9)),
    i1 38 (.bin .mul (.t 36) (.t 37)),
    i1 39 (.bin .add (.t 35) (.t 38)),
    i1 12 (.mov (.t 39))] [0, 1, 7, 9, 12, 13] []) (.seq (.reg [i1 40 (.mov (.t 7)),
    i1 41 (.mov (.t 9)),
    i1 42 (.bin .mul (.t 40) (.t 41)),
    i1 43 (.mov (.t 13)),
    i1 44 (.bin .add (.t 42) (.t 43)),
    i1 45 (.mov (.t 12)),
    i1 46 (.bin .shr (.t 45) (.c (.int .u64 32))),
    i1 47 (.bin .add (.t 44) (.t 46)),
    i1 4 (.mov (.t 47))] [0, 1, 4] []) (.seq (.reg [i1 48 (.mov (.t 0)),
    i1 49 (.mov (.t 1)),
    i1 50 (.bin .mul (.t 48) (.t 49)),
    i1 5 (.mov (.t 50))] [4, 5] []) (.ret))))))))))))
abbrev nr_math_bits_Mul64 : Nat := 73
def B_math_bits_Mul64 (QF : AEnd → Store → Prop) (v0 v1 : AV) (S : Store) : Prop :=
  biW .and v0 (.int .u64 4294967295) fun v15 =>
  biW .shr v0 (.int .u64 32) fun v17 =>
  biW .and v1 (.int .u64 4294967295) fun v19 =>
  biW .shr v1 (.int .u64 32) fun v21 =>
  biW .mul v15 v19 fun v24 =>
  biW .mul v17 v19 fun v27 =>
  biW .shr v24 (.int .u64 32) fun v29 =>
  biW .add v27 v29 fun v30 =>
  biW .and v30 (.int .u64 4294967295) fun v32 =>
  biW .shr v30 (.int .u64 32) fun v34 =>
  biW .mul v15 v21 fun v38 =>
  biW .add v32 v38 fun v39 =>
  biW .mul v17 v21 fun v42 =>
  biW .add v42 v34 fun v44 =>
  biW .shr v39 (.int .u64 32) fun v46 =>
  biW .add v44 v46 fun v47 =>
  biW .mul v0 v1 fun v50 =>
  rtW [.tmp v47, .tmp v50] QF S
theorem w_math_bits_Mul64 {QF : AEnd → Store → Prop} {v0 v1 : AV} {S : Store} (h : B_math_bits_Mul64 QF v0 v1 S) : ACalls PG nr_math_bits_Mul64 [v0, v1] S QF :=
  acalls_tf (F := tf_math_bits_Mul64) (by kernel_rfl) rfl (by kernel_rfl) h
def tf_ref12_all : TFunc where
  n := 56
  args := 3
  res := [.tmp 6]
  code := .seq (.reg [i1 3 (.boxr 24 1 (.t 0)),
    i1 5 (.boxr 43 6 (.t 2)),
    i1 6 (.mov (.c (.nils)))] [1, 3, 5] []) (.seq (.seq (.reg [i1 10 (.faddr 1 (.t 5)),
    i1 11 (.load 1 false (.t 10)),
    i1 12 (.len 1 (.t 11)),
    i1 13 (.bin .eql (.t 12) (.c (.int .i64 0)))] [1, 3, 5, 13] []) (.cond (.t 13) (.seq (.reg [i1 14 (.load 1 true (.t 3)),
    i1 15 (.mov (.t 1)),
    i1 16 (.faddr 2 (.t 5)),
    i1 17 (.load 4 true (.t 16)),
    i1 18 (.call (.f 99) [.t 14, .t 15, .t 17, .c (.bool false)]),
    i1 6 (.mov (.t 18))] [6] []) (.ret)) (.skip))) (.seq (.reg [i1 7 (.mov (.c (.nils)))] [3, 5, 7] []) (.seq (.seq (.reg [i1 8 (.mov (.c (.int .i64 0)))] [3, 5, 7, 8] []) (.block 0 (.loop [3, 5, 7, 8] (.seq (.seq (.reg [i1 19 (.mov (.t 8)),
    i1 20 (.faddr 1 (.t 5)),
    i1 21 (.load 1 false (.t 20)),
    i1 22 (.len 1 (.t 21)),
    i1 23 (.bin .lss (.t 19) (.t 22))] [3, 5, 7, 8, 23] []) (.cond (.t 23) (.skip) (.exit 0))) (.seq (.block 1 (.seq (.reg [i1 26 (.faddr 1 (.t 5)),
    i1 27 (.load 1 false (.t 26)),
    i1 28 (.mov (.t 8)),
    i1 29 (.iaddr 2 (.t 27) (.t 28)),
    i1 30 (.faddr 1 (.t 29)),
    i1 31 (.load 1 false (.t 30)),
    i1 32 (.bin .neq (.t 31) (.c (.str ⟨#[]⟩)))] [3, 5, 7, 8, 32] []) (.cond (.t 32) (.seq (.regl [1, 3, 0, 2, 4, 5, 6, 7, 8] [i1 34 (.faddr 1 (.t 5)),
    i1 36 (.mov (.t 8)),
    i1 33 (.load 1 true (.t 3)),
    i1 35 (.load 1 false (.t 34)),
    i1 37 (.iaddr 2 (.t 35) (.t 36)),
    i1 38 (.faddr 0 (.t 37)),
    i1 39 (.load 1 false (.t 38)),
    i1 40 (.call (.f 38) [.t 33, .t 39]),
    i1 9 (.mov (.t 40))] [3, 5, 7, 8, 9] []) (.regl [0, 1, 3, 4, 6, 2, 5, 7, 8, 9, 10, 11, 12, 13, 14] [i1 41 (.mov (.t 7)),
    i1 42 (.mov (.t 9)),
    i1 44 (.mov (.t 9)),
    i1 45 (.faddr 1 (.t 5)),
    i1 47 (.mov (.t 8)),
    i1 43 (.load 1 true (.t 3)),
    i1 46 (.load 1 false (.t 45)),
    i1 48 (.iaddr 2 (.t 46) (.t 47)),
    i1 49 (.faddr 1 (.t 48)),
    i1 50 (.load 1 false (.t 49)),
    i1 51 (.call (.f 39) [.t 43, .t 44, .t 50]),
    i1 52 (.build [.int .i64 0, .int .i64 0, .bool false] [(0, 1, .t 42), (1, 1, .t 51)]),
    i1 53 (.bslicr 155 3 [.t 52]),
    i1 54 (.app 155 3 24 (.t 41) (.t 53)),
    i1 7 (.mov (.t 54))] [3, 5, 7, 8] [])) (.skip)))) (.reg [i1 24 (.mov (.t 8)),
    i1 25 (.bin .add (.t 24) (.c (.int .i64 1))),
    i1 8 (.mov (.t 25))] [3, 5, 7, 8] [])))))) (.seq (.reg [i1 55 (.mov (.t 7)),
    i1 6 (.mov (.t 55))] [6] []) (.ret)))))
abbrev nr_ref12_all : Nat := 74
def C_ref12_all_1 (QF : AEnd → Store → Prop) (r0 : LE → Store → Prop) (v3 v5 v7 v8 : AV) (S : Store) : Prop :=
  faW 1 v5 fun v20 =>
  ldW S 1 false v20 fun v21 =>
  lnW S 1 v21 fun v22 =>
  biW .lss v8 v22 fun v23 =>
  cnW v23 (faW 1 v5 fun v26 =>
  ldW S 1 false v26 fun v27 =>
  iaW 2 v27 v8 fun v29 =>
  faW 1 v29 fun v30 =>
  ldW S 1 false v30 fun v31 =>
  biW .neq v31 (.str ⟨#[]⟩) fun v32 =>
  cnW v32 (faW 1 v5 fun v34 =>
  ldW S 1 true v3 fun v33 =>
  ldW S 1 false v34 fun v35 =>
  iaW 2 v35 v8 fun v37 =>
  faW 0 v37 fun v38 =>
  ldW S 1 false v38 fun v39 =>
  caW PG S (.func (.func 38) [] []) [v33, v39] (fun v40 S =>
  faW 1 v5 fun v45 =>
  ldW S 1 true v3 fun v43 =>
  ldW S 1 false v45 fun v46 =>
  iaW 2 v46 v8 fun v48 =>
  faW 1 v48 fun v49 =>
  ldW S 1 false v49 fun v50 =>
  caW PG S (.func (.func 39) [] []) [v43, v40, v50] (fun v51 S =>
  bdW [.int .i64 0, .int .i64 0, .bool false] [(0, 1, v40), (1, 1, v51)] fun v52 =>
  srW 3 [v52] fun v53 =>
  apW S 155 3 24 v7 v53 fun v54 S =>
  biW .add v8 (.int .i64 1) fun v25 =>
  rcW r0 [(3, v3), (5, v5), (7, v54), (8, v25)] S) (pqW QF)) (pqW QF))
  (biW .add v8 (.int .i64 1) fun v25 =>
  rcW r0 [(3, v3), (5, v5), (7, v7), (8, v25)] S))
  (rtW [.tmp v7] QF S)
def B_ref12_all (QF : AEnd → Store → Prop) (v0 v1 v2 : AV) (S : Store) : Prop :=
  brW 1 v0 fun v3 =>
  brW 6 v2 fun v5 =>
  faW 1 v5 fun v10 =>
  ldW S 1 false v10 fun v11 =>
  lnW S 1 v11 fun v12 =>
  biW .eql v12 (.int .i64 0) fun v13 =>
  cnW v13 (ldW S 1 true v3 fun v14 =>
  faW 2 v5 fun v16 =>
  ldW S 4 true v16 fun v17 =>
  caW PG S (.func (.func 99) [] []) [v14, v1, v17, (.bool false)] (fun v18 S =>
  rtW [.tmp v18] QF S) (pqW QF))
  (LoopP (fun r0 l S => C_ref12_all_1 QF r0 (lget l 3) (lget l 5) (lget l 7) (lget l 8) S) [(3, v3), (5, v5), (7, (.nils)), (8, (.int .i64 0))] S)
theorem w_ref12_all {QF : AEnd → Store → Prop} {v0 v1 v2 : AV} {S : Store} (h : B_ref12_all QF v0 v1 v2 S) : ACalls PG nr_ref12_all [v0, v1, v2] S QF :=
  acalls_tf (F := tf_ref12_all) (by kernel_rfl) rfl (by kernel_rfl) h
def tf_names_Name : TFunc where
  n := 15
  args := 1
  res := [.tmp 2]
  code := .seq (.reg [i1 2 (.mov (.c (.bool false)))] [0] []) (.seq (.seq (.reg [i1 3 (.mov (.t 0))] [0, 3] []) (.block 0 (.seq (.seq (.reg [i1 5 (.bin .eql (.t 3) (.c (.str ⟨#[116, 121, 112, 101]⟩))),
    i1 4 (.mov (.t 5))] [0, 3, 4] []) (.cond (.t 4) (.skip) (.seq (.reg [i1 6 (.bin .eql (.t 3) (.c (.str ⟨#[114, 101, 108, 97, 116, 105, 111, 110]⟩))),
    i1 4 (.mov (.t 6))] [0, 3, 4] []) (.cond (.t 4) (.skip) (.reg [i1 7 (.bin .eql (.t 3) (.c (.str ⟨#[100, 101, 102, 105, 110, 101]⟩))),
    i1 4 (.mov (.t 7))] [0, 4] []))))) (.cond (.t 4) (.seq (.reg [i1 2 (.mov (.c (.bool false)))] [2] []) (.ret)) (.skip))))) (.seq (.reg [i1 8 (.mov (.t 0)),
    i1 9 (.call (.f 100) [.t 8, .c (.int .i64 16), .f 101]),
    i1 10 (.mov (.t 9)),
    .grp 10 true [s1 11 (.mov (.t 0)), s1 12 (.idxs (.t 11) (.c (.int .i64 0))), s1 13 (.call (.f 102) [.t 12])],
    i1 14 (.pick (.t 10) (.t 13) (.c (.bool false))),
    i1 2 (.mov (.t 14))] [2] []) (.ret)))
abbrev nr_names_Name : Nat := 75
def C_names_Name_1 (QF : AEnd → Store → Prop) (v0 v4 : AV) (S : Store) : Prop :=
  cnW v4 (rtW [.tmp (.bool false)] QF S)
  (caW PG S (.func (.func 100) [] []) [v0, (.int .i64 16), (.func (.func 101) [] [])] (fun v9 S =>
  grW v9 true (isW v0 (.int .i64 0) fun v12 =>
  caW PG S (.func (.func 102) [] []) [v12] (fun v13 S =>
  pkW v9 v13 (.bool false) fun v14 =>
  rtW [.tmp v14] QF S) (pqW QF))
  (pkW v9 undefA (.bool false) fun v14 =>
  rtW [.tmp v14] QF S)) (pqW QF))
def B_names_Name (QF : AEnd → Store → Prop) (v0 : AV) (S : Store) : Prop :=
  biW .eql v0 (.str ⟨#[116, 121, 112, 101]⟩) fun v5 =>
  cnW v5 (C_names_Name_1 QF v0 v5 S)
  (biW .eql v0 (.str ⟨#[114, 101, 108, 97, 116, 105, 111, 110]⟩) fun v6 =>
  cnW v6 (C_names_Name_1 QF v0 v6 S)
  (biW .eql v0 (.str ⟨#[100, 101, 102, 105, 110, 101]⟩) fun v7 =>
  C_names_Name_1 QF v0 v7 S))
theorem w_names_Name {QF : AEnd → Store → Prop} {v0 : AV} {S : Store} (h : B_names_Name QF v0 S) : ACalls PG nr_names_Name [v0] S QF :=
  acalls_tf (F := tf_names_Name) (by kernel_rfl) rfl (by kernel_rfl) h
def tf_slices_ContainsFunc_Rel : TFunc where
  n := 9
  args := 2
  res := [.tmp 4]
  code := .seq (.reg [i1 4 (.mov (.c (.bool false)))] [0, 1] []) (.seq (.reg [i1 5 (.mov (.t 0)),
    i1 6 (.mov (.t 1)),
    i1 7 (.call (.f 104) [.t 5, .t 6]),
    i1 8 (.bin .geq (.t 7) (.c (.int .i64 0))),
    i1 4 (.mov (.t 8))] [4] []) (.ret))
abbrev nr_slices_ContainsFunc_Rel : Nat := 76
def B_slices_ContainsFunc_Rel (QF : AEnd → Store → Prop) (v0 v1 : AV) (S : Store) : Prop :=
  caW PG S (.func (.func 104) [] []) [v0, v1] (fun v7 S =>
  biW .geq v7 (.int .i64 0) fun v8 =>
  rtW [.tmp v8] QF S) (pqW QF)
theorem w_slices_ContainsFunc_Rel {QF : AEnd → Store → Prop} {v0 v1 : AV} {S : Store} (h : B_slices_ContainsFunc_Rel QF v0 v1 S) : ACalls PG nr_slices_ContainsFunc_Rel [v0, v1] S QF :=
  acalls_tf (F := tf_slices_ContainsFunc_Rel) (by kernel_rfl) rfl (by kernel_rfl) h
def tf_lang_May_1 : TFunc where
  n := 6
  args := 1
  res := [.tmp 2]
  code := .seq (.reg [i1 1 (.boxr 43 6 (.t 0)),
    i1 2 (.mov (.c (.bool false)))] [1] []) (.seq (.reg [i1 3 (.load 6 true (.t 1)),
    i1 4 (.call (.f 78) [.t 3]),
    i1 5 (.not (.t 4)),
    i1 2 (.mov (.t 5))] [2] []) (.ret))
abbrev nr_lang_May_1 : Nat := 77
def B_lang_May_1 (QF : AEnd → Store → Prop) (v0 : AV) (S : Store) : Prop :=
  brW 6 v0 fun v1 =>
  ldW S 6 true v1 fun v3 =>
  caW PG S (.func (.func 78) [] []) [v3] (fun v4 S =>
  ntW v4 fun v5 =>
  rtW [.tmp v5] QF S) (pqW QF)
theorem w_lang_May_1 {QF : AEnd → Store → Prop} {v0 : AV} {S : Store} (h : B_lang_May_1 QF v0 S) : ACalls PG nr_lang_May_1 [v0] S QF :=
  acalls_tf (F := tf_lang_May_1) (by kernel_rfl) rfl (by kernel_rfl) h
def tf_lang_rel : TFunc where
  n := 24
  args := 1
  res := [.tmp 2]
  code := .seq (.reg [i1 1 (.boxr 43 6 (.t 0)),
    i1 2 (.mov (.c (.bool false)))] [1] []) (.seq (.seq (.reg [i1 3 (.faddr 1 (.t 1)),
    i1 4 (.load 1 false (.t 3)),
    i1 5 (.len 1 (.t 4)),
    i1 6 (.bin .eql (.t 5) (.c (.int .i64 0)))] [1, 6] []) (.cond (.t 6) (.seq (.reg [i1 7 (.faddr 0 (.t 1)),
    i1 8 (.load 1 false (.t 7)),
    i1 9 (.call (.f 75) [.t 8]),
    i1 10 (.mov (.t 9)),
    .grp 10 true [s1 11 (.faddr 2 (.t 1)), s1 12 (.load 4 true (.t 11)), s1 13 (.call (.f 105) [.t 12, .c (.int .i64 12)])],
    i1 14 (.pick (.t 10) (.t 13) (.c (.bool false))),
    i1 2 (.mov (.t 14))] [2] []) (.ret)) (.skip))) (.seq (.reg [i1 15 (.faddr 0 (.t 1)),
    i1 16 (.load 1 false (.t 15)),
    i1 17 (.call (.f 75) [.t 16]),
    i1 18 (.mov (.t 17)),
    .grp 18 true [s1 19 (.faddr 1 (.t 1)), s1 20 (.load 1 false (.t 19)), s1 21 (.call (.f 106) [.t 20, .f 107]), s1 22 (.not (.t 21))],
    i1 23 (.pick (.t 18) (.t 22) (.c (.bool false))),
    i1 2 (.mov (.t 23))] [2] []) (.ret)))
abbrev nr_lang_rel : Nat := 78
def B_lang_rel (QF : AEnd → Store → Prop) (v0 : AV) (S : Store) : Prop :=
  brW 6 v0 fun v1 =>
  faW 1 v1 fun v3 =>
  ldW S 1 false v3 fun v4 =>
  lnW S 1 v4 fun v5 =>
  biW .eql v5 (.int .i64 0) fun v6 =>
  cnW v6 (faW 0 v1 fun v7 =>
  ldW S 1 false v7 fun v8 =>
  caW PG S (.func (.func 75) [] []) [v8] (fun v9 S =>
  grW v9 true (faW 2 v1 fun v11 =>
  ldW S 4 true v11 fun v12 =>
  caW PG S (.func (.func 105) [] []) [v12, (.int .i64 12)] (fun v13 S =>
  pkW v9 v13 (.bool false) fun v14 =>
  rtW [.tmp v14] QF S) (pqW QF))
  (pkW v9 undefA (.bool false) fun v14 =>
  rtW [.tmp v14] QF S)) (pqW QF))
  (faW 0 v1 fun v15 =>
  ldW S 1 false v15 fun v16 =>
  caW PG S (.func (.func 75) [] []) [v16] (fun v17 S =>
  grW v17 true (faW 1 v1 fun v19 =>
  ldW S 1 false v19 fun v20 =>
  caW PG S (.func (.func 106) [] []) [v20, (.func (.func 107) [] [])] (fun v21 S =>
  ntW v21 fun v22 =>
  pkW v17 v22 (.bool false) fun v23 =>
  rtW [.tmp v23] QF S) (pqW QF))
  (pkW v17 undefA (.bool false) fun v23 =>
  rtW [.tmp v23] QF S)) (pqW QF))
theorem w_lang_rel {QF : AEnd → Store → Prop} {v0 : AV} {S : Store} (h : B_lang_rel QF v0 S) : ACalls PG nr_lang_rel [v0] S QF :=
  acalls_tf (F := tf_lang_rel) (by kernel_rfl) rfl (by kernel_rfl) h
def tf_rules_index_names_1 : TFunc where
  n := 14
  args := 5
  res := [.tmp 7]
  code := .seq (.reg [i1 5 (.boxr 41 4 (.t 0)),
    i1 7 (.mov (.c (.bool false)))] [2, 3, 4, 5] []) (.seq (.reg [i1 8 (.load 1 false (.t 2)),
    i1 9 (.load 1 false (.t 3)),
    i1 10 (.load 4 true (.t 5)),
    i1 11 (.call (.f 80) [.t 8, .t 9, .t 10]),
    i0 (.store 1 (.t 4) (.t 11))] [4] []) (.seq (.reg [i1 12 (.load 1 false (.t 4)),
    i1 13 (.bin .eql (.t 12) (.c (.int .i64 0))),
    i1 7 (.mov (.t 13))] [7] []) (.ret)))
abbrev nr_rules_index_names_1 : Nat := 79
def B_rules_index_names_1 (QF : AEnd → Store → Prop) (v0 v1 v2 v3 v4 : AV) (S : Store) : Prop :=
  brW 4 v0 fun v5 =>
  ldW S 1 false v2 fun v8 =>
  ldW S 1 false v3 fun v9 =>
  ldW S 4 true v5 fun v10 =>
  caW PG S (.func (.func 80) [] []) [v8, v9, v10] (fun v11 S =>
  stW S 1 v4 v11 fun S =>
  ldW S 1 false v4 fun v12 =>
  biW .eql v12 (.int .i64 0) fun v13 =>
  rtW [.tmp v13] QF S) (pqW QF)
theorem w_rules_index_names_1 {QF : AEnd → Store → Prop} {v0 v1 v2 v3 v4 : AV} {S : Store} (h : B_rules_index_names_1 QF v0 v1 v2 v3 v4 S) : ACalls PG nr_rules_index_names_1 [v0, v1, v2, v3, v4] S QF :=
  acalls_tf (F := tf_rules_index_names_1) (by kernel_rfl) rfl (by kernel_rfl) h
def tf_rules_index_atom : TFunc where
  n := 41
  args := 3
  res := [.tmp 6]
  code := .seq (.reg [i1 5 (.boxr 41 4 (.t 2)),
    i1 6 (.mov (.c (.int .i64 0)))] [0, 1, 5] []) (.seq (.reg [i1 10 (.mov (.t 0)),
    i1 11 (.mov (.t 1)),
    i1 12 (.faddr 1 (.t 5)),
    i1 13 (.load 1 false (.t 12)),
    i1 14 (.call (.f 36) [.t 10, .t 11, .t 13]),
    i1 9 (.mov (.t 14)),
    i1 15 (.extr (.t 9) 0),
    i1 16 (.extr (.t 9) 1),
    .box2 7 70 [.int .i64 0, .int .i64 0] 2 (.t 15),
    i1 8 (.mov (.t 16))] [0, 5, 7, 8] []) (.seq (.block 0 (.seq (.reg [i1 18 (.mov (.t 8)),
    i1 19 (.not (.t 18)),
    i1 17 (.mov (.t 19))] [0, 5, 7, 17] []) (.cond (.t 17) (.seq (.reg [i1 6 (.mov (.c (.int .i64 6)))] [6] []) (.ret)) (.seq (.reg [i1 21 (.faddr 0 (.t 5)),
    i1 22 (.load 1 false (.t 21)),
    i1 23 (.bin .eql (.t 22) (.c (.int .i64 0))),
    i1 20 (.mov (.t 23))] [0, 5, 7, 20] []) (.cond (.t 20) (.seq (.reg [i1 6 (.mov (.c (.int .i64 0)))] [6] []) (.ret)) (.seq (.reg [i1 25 (.mov (.t 0)),
    i1 26 (.load 2 true (.t 7)),
    i1 27 (.call (.f 37) [.t 25, .t 26]),
    i1 28 (.field 1 1 false (.t 27)),
    i1 29 (.len 1 (.t 28)),
    i1 30 (.bin .eql (.t 29) (.c (.int .i64 0))),
    i1 24 (.mov (.t 30))] [0, 5, 7, 24] []) (.cond (.t 24) (.seq (.reg [i1 6 (.mov (.c (.int .i64 10)))] [6] []) (.ret)) (.seq (.regl [0, 1, 4, 2, 5, 3, 6, 7, 8, 9] [i1 32 (.mov (.t 0)),
    i1 33 (.mov (.t 0)),
    i1 36 (.faddr 2 (.t 5)),
    i1 34 (.load 2 true (.t 7)),
    i1 37 (.load 1 false (.t 36)),
    .one { d := some 35, o := .call (.f 37) [.t 33, .t 34], x := [36] },
    i1 38 (.call (.f 71) [.t 32, .t 35, .t 37]),
    i1 39 (.len 1 (.t 38)),
    i1 40 (.bin .eql (.t 39) (.c (.int .i64 0))),
    i1 31 (.mov (.t 40))] [31] []) (.cond (.t 31) (.seq (.reg [i1 6 (.mov (.c (.int .i64 6)))] [6] []) (.ret)) (.skip)))))))))) (.seq (.reg [i1 6 (.mov (.c (.int .i64 0)))] [6] []) (.ret))))
abbrev nr_rules_index_atom : Nat := 80
def B_rules_index_atom (QF : AEnd → Store → Prop) (v0 v1 v2 : AV) (S : Store) : Prop :=
  brW 4 v2 fun v5 =>
  faW 1 v5 fun v12 =>
  ldW S 1 false v12 fun v13 =>
  caW PG S (.func (.func 36) [] []) [v0, v1, v13] (fun v14 S =>
  exW 0 v14 fun v15 =>
  exW 1 v14 fun v16 =>
  bfW 2 v15 fun v7 =>
  ntW v16 fun v19 =>
  cnW v19 (rtW [.tmp (.int .i64 6)] QF S)
  (faW 0 v5 fun v21 =>
  ldW S 1 false v21 fun v22 =>
  biW .eql v22 (.int .i64 0) fun v23 =>
  cnW v23 (rtW [.tmp (.int .i64 0)] QF S)
  (ldW S 2 true v7 fun v26 =>
  caW PG S (.func (.func 37) [] []) [v0, v26] (fun v27 S =>
  fdW 1 1 false v27 fun v28 =>
  lnW S 1 v28 fun v29 =>
  biW .eql v29 (.int .i64 0) fun v30 =>
  cnW v30 (rtW [.tmp (.int .i64 10)] QF S)
  (faW 2 v5 fun v36 =>
  ldW S 2 true v7 fun v34 =>
  ldW S 1 false v36 fun v37 =>
  caW PG S (.func (.func 37) [] []) [v0, v34] (fun v35 S1 =>
  kpW [v36] S S1 (
  caW PG S1 (.func (.func 71) [] []) [v0, v35, v37] (fun v38 S =>
  lnW S 1 v38 fun v39 =>
  biW .eql v39 (.int .i64 0) fun v40 =>
  cnW v40 (rtW [.tmp (.int .i64 6)] QF S)
  (rtW [.tmp (.int .i64 0)] QF S)) (pqW QF))) (pqW QF))) (pqW QF)))) (pqW QF)
theorem w_rules_index_atom {QF : AEnd → Store → Prop} {v0 v1 v2 : AV} {S : Store} (h : B_rules_index_atom QF v0 v1 v2 S) : ACalls PG nr_rules_index_atom [v0, v1, v2] S QF :=
  acalls_tf (F := tf_rules_index_atom) (by kernel_rfl) rfl (by kernel_rfl) h
def tf_ref10_Name : TFunc where
  n := 59
  args := 1
  res := [.tmp 2]
  code := .seq (.reg [i1 2 (.mov (.c (.bool false)))] [0] []) (.seq (.seq (.reg [i1 6 (.mov (.t 0)),
    i1 7 (.len 0 (.t 6)),
    i1 8 (.bin .eql (.t 7) (.c (.int .i64 0))),
    i1 9 (.mov (.t 8)),
    .grp 9 false [s1 10 (.mov (.t 0)), s1 11 (.len 0 (.t 10)), s1 12 (.bin .gtr (.t 11) (.c (.int .i64 16)))],
    i1 13 (.pick (.t 9) (.c (.bool true)) (.t 12)),
    i1 14 (.mov (.t 13)),
    .grp 14 false [s1 15 (.mov (.t 0)), s1 16 (.bin .eql (.t 15) (.c (.str ⟨#[116, 121, 112, 101]⟩)))],
    i1 17 (.pick (.t 14) (.c (.bool true)) (.t 16)),
    i1 18 (.mov (.t 17)),
    .grp 18 false [s1 19 (.mov (.t 0)), s1 20 (.bin .eql (.t 19) (.c (.str ⟨#[114, 101, 108, 97, 116, 105, 111, 110]⟩)))],
    i1 21 (.pick (.t 18) (.c (.bool true)) (.t 20)),
    i1 22 (.mov (.t 21)),
    .grp 22 false [s1 23 (.mov (.t 0)), s1 24 (.bin .eql (.t 23) (.c (.str ⟨#[100, 101, 102, 105, 110, 101]⟩)))],
    i1 25 (.pick (.t 22) (.c (.bool true)) (.t 24))] [0, 25] []) (.cond (.t 25) (.seq (.reg [i1 2 (.mov (.c (.bool false)))] [2] []) (.ret)) (.skip))) (.seq (.seq (.reg [i1 3 (.mov (.c (.int .i64 0)))] [0, 3] []) (.block 0 (.loop [0, 3] (.seq (.seq (.reg [i1 26 (.mov (.t 3)),
    i1 27 (.mov (.t 0)),
    i1 28 (.len 0 (.t 27)),
    i1 29 (.bin .lss (.t 26) (.t 28))] [0, 3, 29] []) (.cond (.t 29) (.skip) (.exit 0))) (.seq (.block 1 (.seq (.reg [i1 32 (.mov (.t 0)),
    i1 33 (.mov (.t 3)),
    i1 34 (.idxs (.t 32) (.t 33)),
    i1 4 (.mov (.t 34))] [0, 3, 4] []) (.seq (.reg [i1 35 (.mov (.t 4)),
    i1 36 (.bin .geq (.t 35) (.c (.int .u8 97))),
    i1 37 (.mov (.t 36)),
    .grp 37 true [s1 38 (.mov (.t 4)), s1 39 (.bin .leq (.t 38) (.c (.int .u8 122)))],
    i1 40 (.pick (.t 37) (.t 39) (.c (.bool false))),
    i1 5 (.mov (.t 40))] [0, 3, 4, 5] []) (.seq (.reg [i1 41 (.mov (.t 5)),
    i1 42 (.not (.t 41)),
    i1 43 (.mov (.t 42)),
    .grp 43 true [s1 44 (.mov (.t 3)), s1 45 (.bin .eql (.t 44) (.c (.int .i64 0))), s1 46 (.mov (.t 45))],
    .grp 46 false [s1 47 (.mov (.t 4)), s1 48 (.bin .neq (.t 47) (.c (.int .u8 95))), s1 49 (.mov (.t 48))],
    .grp 49 true [s1 50 (.mov (.t 4)), s1 51 (.bin .lss (.t 50) (.c (.int .u8 48))), s1 52 (.mov (.t 51))],
    .grp 52 false [s1 53 (.mov (.t 4)), s1 54 (.bin .gtr (.t 53) (.c (.int .u8 57)))],
    .grp 49 true [s1 55 (.pick (.t 52) (.c (.bool true)) (.t 54))],
    .grp 46 false [s1 56 (.pick (.t 49) (.t 55) (.c (.bool false)))],
    .grp 43 true [s1 57 (.pick (.t 46) (.c (.bool true)) (.t 56))],
    i1 58 (.pick (.t 43) (.t 57) (.c (.bool false)))] [0, 3, 58] []) (.cond (.t 58) (.seq (.reg [i1 2 (.mov (.c (.bool false)))] [2] []) (.ret)) (.skip)))))) (.reg [i1 30 (.mov (.t 3)),
    i1 31 (.bin .add (.t 30) (.c (.int .i64 1))),
    i1 3 (.mov (.t 31))] [0, 3] [])))))) (.seq (.reg [i1 2 (.mov (.c (.bool true)))] [2] []) (.ret))))
abbrev nr_ref10_Name : Nat := 81
def C_ref10_Name_12 (QF : AEnd → Store → Prop) (r0 : LE → Store → Prop) (v0 v3 v43 v46 v56 : AV) (S : Store) : Prop :=
  grW v43 true (pkW v46 (.bool true) v56 fun v57 =>
  pkW v43 v57 (.bool false) fun v58 =>
  cnW v58 (rtW [.tmp (.bool false)] QF S)
  (biW .add v3 (.int .i64 1) fun v31 =>
  rcW r0 [(0, v0), (3, v31)] S))
  (pkW v43 undefA (.bool false) fun v58 =>
  cnW v58 (rtW [.tmp (.bool false)] QF S)
  (biW .add v3 (.int .i64 1) fun v31 =>
  rcW r0 [(0, v0), (3, v31)] S))
def C_ref10_Name_11 (QF : AEnd → Store → Prop) (r0 : LE → Store → Prop) (v0 v3 v43 v46 v49 v55 : AV) (S : Store) : Prop :=
  grW v46 false (pkW v49 v55 (.bool false) fun v56 =>
  C_ref10_Name_12 QF r0 v0 v3 v43 v46 v56 S)
  (C_ref10_Name_12 QF r0 v0 v3 v43 v46 undefA S)
def C_ref10_Name_10 (QF : AEnd → Store → Prop) (r0 : LE → Store → Prop) (v0 v3 v43 v46 v49 v52 v54 : AV) (S : Store) : Prop :=
  grW v49 true (pkW v52 (.bool true) v54 fun v55 =>
  C_ref10_Name_11 QF r0 v0 v3 v43 v46 v49 v55 S)
  (C_ref10_Name_11 QF r0 v0 v3 v43 v46 v49 undefA S)
def C_ref10_Name_9 (QF : AEnd → Store → Prop) (r0 : LE → Store → Prop) (v0 v3 v4 v43 v46 v49 v52 : AV) (S : Store) : Prop :=
  grW v52 false (biW .gtr v4 (.int .u8 57) fun v54 =>
  C_ref10_Name_10 QF r0 v0 v3 v43 v46 v49 v52 v54 S)
  (C_ref10_Name_10 QF r0 v0 v3 v43 v46 v49 v52 undefA S)
def C_ref10_Name_8 (QF : AEnd → Store → Prop) (r0 : LE → Store → Prop) (v0 v3 v4 v43 v46 v49 : AV) (S : Store) : Prop :=
  grW v49 true (biW .lss v4 (.int .u8 48) fun v51 =>
  C_ref10_Name_9 QF r0 v0 v3 v4 v43 v46 v49 v51 S)
  (C_ref10_Name_9 QF r0 v0 v3 v4 v43 v46 v49 undefA S)
def C_ref10_Name_7 (QF : AEnd → Store → Prop) (r0 : LE → Store → Prop) (v0 v3 v4 v43 v46 : AV) (S : Store) : Prop :=
  grW v46 false (biW .neq v4 (.int .u8 95) fun v48 =>
  C_ref10_Name_8 QF r0 v0 v3 v4 v43 v46 v48 S)
  (C_ref10_Name_8 QF r0 v0 v3 v4 v43 v46 undefA S)
def C_ref10_Name_6 (QF : AEnd → Store → Prop) (r0 : LE → Store → Prop) (v0 v3 v4 v40 : AV) (S : Store) : Prop :=
  ntW v40 fun v42 =>
  grW v42 true (biW .eql v3 (.int .i64 0) fun v45 =>
  C_ref10_Name_7 QF r0 v0 v3 v4 v42 v45 S)
  (C_ref10_Name_7 QF r0 v0 v3 v4 v42 undefA S)
def C_ref10_Name_5 (QF : AEnd → Store → Prop) (r0 : LE → Store → Prop) (v0 v3 : AV) (S : Store) : Prop :=
  lnW S 0 v0 fun v28 =>
  biW .lss v3 v28 fun v29 =>
  cnW v29 (isW v0 v3 fun v34 =>
  biW .geq v34 (.int .u8 97) fun v36 =>
  grW v36 true (biW .leq v34 (.int .u8 122) fun v39 =>
  pkW v36 v39 (.bool false) fun v40 =>
  C_ref10_Name_6 QF r0 v0 v3 v34 v40 S)
  (pkW v36 undefA (.bool false) fun v40 =>
  C_ref10_Name_6 QF r0 v0 v3 v34 v40 S))
  (rtW [.tmp (.bool true)] QF S)
def C_ref10_Name_4 (QF : AEnd → Store → Prop) (v0 v25 : AV) (S : Store) : Prop :=
  cnW v25 (rtW [.tmp (.bool false)] QF S)
  (LoopP (fun r0 l S => C_ref10_Name_5 QF r0 (lget l 0) (lget l 3) S) [(0, v0), (3, (.int .i64 0))] S)
def C_ref10_Name_3 (QF : AEnd → Store → Prop) (v0 v21 : AV) (S : Store) : Prop :=
  grW v21 false (biW .eql v0 (.str ⟨#[100, 101, 102, 105, 110, 101]⟩) fun v24 =>
  pkW v21 (.bool true) v24 fun v25 =>
  C_ref10_Name_4 QF v0 v25 S)
  (pkW v21 (.bool true) undefA fun v25 =>
  C_ref10_Name_4 QF v0 v25 S)
def C_ref10_Name_2 (QF : AEnd → Store → Prop) (v0 v17 : AV) (S : Store) : Prop :=
  grW v17 false (biW .eql v0 (.str ⟨#[114, 101, 108, 97, 116, 105, 111, 110]⟩) fun v20 =>
  pkW v17 (.bool true) v20 fun v21 =>
  C_ref10_Name_3 QF v0 v21 S)
  (pkW v17 (.bool true) undefA fun v21 =>
  C_ref10_Name_3 QF v0 v21 S)
def C_ref10_Name_1 (QF : AEnd → Store → Prop) (v0 v13 : AV) (S : Store) : Prop :=
  grW v13 false (biW .eql v0 (.str ⟨#[116, 121, 112, 101]⟩) fun v16 =>
  pkW v13 (.bool true) v16 fun v17 =>
  C_ref10_Name_2 QF v0 v17 S)
  (pkW v13 (.bool true) undefA fun v17 =>
  C_ref10_Name_2 QF v0 v17 S)
def B_ref10_Name (QF : AEnd → Store → Prop) (v0 : AV) (S : Store) : Prop :=
  lnW S 0 v0 fun v7 =>
  biW .eql v7 (.int .i64 0) fun v8 =>
  grW v8 false (lnW S 0 v0 fun v11 =>
  biW .gtr v11 (.int .i64 16) fun v12 =>
  pkW v8 (.bool true) v12 fun v13 =>
  C_ref10_Name_1 QF v0 v13 S)
  (pkW v8 (.bool true) undefA fun v13 =>
  C_ref10_Name_1 QF v0 v13 S)
theorem w_ref10_Name {QF : AEnd → Store → Prop} {v0 : AV} {S : Store} (h : B_ref10_Name QF v0 S) : ACalls PG nr_ref10_Name [v0] S QF :=
  acalls_tf (F := tf_ref10_Name) (by kernel_rfl) rfl (by kernel_rfl) h
def tf_ref11_mayRel : TFunc where
  n := 57
  args := 1
  res := [.tmp 2]
  code := .seq (.reg [i1 1 (.boxr 43 6 (.t 0)),
    i1 2 (.mov (.c (.bool false)))] [1] []) (.seq (.reg [i1 7 (.faddr 0 (.t 1)),
    i1 8 (.load 1 false (.t 7)),
    i1 9 (.call (.f 81) [.t 8]),
    i1 3 (.mov (.t 9))] [1, 3] []) (.seq (.seq (.reg [i1 10 (.mov (.t 3)),
    i1 11 (.not (.t 10))] [1, 11] []) (.cond (.t 11) (.seq (.reg [i1 2 (.mov (.c (.bool false)))] [2] []) (.ret)) (.skip))) (.seq (.seq (.reg [i1 4 (.mov (.c (.int .i64 0)))] [1, 4] []) (.block 0 (.loop [1, 4] (.seq (.seq (.reg [i1 12 (.mov (.t 4)),
    i1 13 (.faddr 1 (.t 1)),
    i1 14 (.load 1 false (.t 13)),
    i1 15 (.len 1 (.t 14)),
    i1 16 (.bin .lss (.t 12) (.t 15))] [1, 4, 16] []) (.cond (.t 16) (.skip) (.exit 0))) (.seq (.block 1 (.seq (.reg [i1 19 (.faddr 1 (.t 1)),
    i1 20 (.load 1 false (.t 19)),
    i1 21 (.mov (.t 4)),
    i1 22 (.iaddr 2 (.t 20) (.t 21)),
    i1 23 (.faddr 0 (.t 22)),
    i1 24 (.load 1 false (.t 23)),
    i1 25 (.call (.f 81) [.t 24]),
    i1 5 (.mov (.t 25))] [1, 4, 5] []) (.seq (.reg [i1 26 (.faddr 1 (.t 1)),
    i1 27 (.load 1 false (.t 26)),
    i1 28 (.mov (.t 4)),
    i1 29 (.iaddr 2 (.t 27) (.t 28)),
    i1 30 (.faddr 1 (.t 29)),
    i1 31 (.load 1 false (.t 30)),
    i1 32 (.call (.f 81) [.t 31]),
    i1 6 (.mov (.t 32))] [1, 4, 5, 6] []) (.seq (.reg [i1 33 (.mov (.t 5)),
    i1 34 (.not (.t 33)),
    i1 35 (.mov (.t 34)),
    .grp 35 false [s1 36 (.faddr 1 (.t 1)), s1 37 (.load 1 false (.t 36)), s1 38 (.mov (.t 4)), s1 39 (.iaddr 2 (.t 37) (.t 38)), s1 40 (.faddr 1 (.t 39)), s1 41 (.load 1 false (.t 40)), s1 42 (.bin .neq (.t 41) (.c (.str ⟨#[]⟩))), s1 43 (.mov (.t 42))],
    .grp 43 true [s1 44 (.mov (.t 6)), s1 45 (.not (.t 44))],
    .grp 35 false [s1 46 (.pick (.t 43) (.t 45) (.c (.bool false)))],
    i1 47 (.pick (.t 35) (.c (.bool true)) (.t 46))] [1, 4, 47] []) (.cond (.t 47) (.seq (.reg [i1 2 (.mov (.c (.bool false)))] [2] []) (.ret)) (.skip)))))) (.reg [i1 17 (.mov (.t 4)),
    i1 18 (.bin .add (.t 17) (.c (.int .i64 1))),
    i1 4 (.mov (.t 18))] [1, 4] [])))))) (.seq (.reg [i1 48 (.faddr 1 (.t 1)),
    i1 49 (.load 1 false (.t 48)),
    i1 50 (.len 1 (.t 49)),
    i1 51 (.bin .gtr (.t 50) (.c (.int .i64 0))),
    i1 52 (.mov (.t 51)),
    .grp 52 false [s1 53 (.faddr 2 (.t 1)), s1 54 (.load 4 true (.t 53)), s1 55 (.call (.f 109) [.t 54, .c (.int .i64 12)])],
    i1 56 (.pick (.t 52) (.c (.bool true)) (.t 55)),
    i1 2 (.mov (.t 56))] [2] []) (.ret)))))
abbrev nr_ref11_mayRel : Nat := 82
def C_ref11_mayRel_3 (QF : AEnd → Store → Prop) (r0 : LE → Store → Prop) (v1 v4 v35 v43 v45 : AV) (S : Store) : Prop :=
  grW v35 false (pkW v43 v45 (.bool false) fun v46 =>
  pkW v35 (.bool true) v46 fun v47 =>
  cnW v47 (rtW [.tmp (.bool false)] QF S)
  (biW .add v4 (.int .i64 1) fun v18 =>
  rcW r0 [(1, v1), (4, v18)] S))
  (pkW v35 (.bool true) undefA fun v47 =>
  cnW v47 (rtW [.tmp (.bool false)] QF S)
  (biW .add v4 (.int .i64 1) fun v18 =>
  rcW r0 [(1, v1), (4, v18)] S))
def C_ref11_mayRel_2 (QF : AEnd → Store → Prop) (r0 : LE → Store → Prop) (v1 v4 v6 v35 v43 : AV) (S : Store) : Prop :=
  grW v43 true (ntW v6 fun v45 =>
  C_ref11_mayRel_3 QF r0 v1 v4 v35 v43 v45 S)
  (C_ref11_mayRel_3 QF r0 v1 v4 v35 v43 undefA S)
def C_ref11_mayRel_1 (QF : AEnd → Store → Prop) (r0 : LE → Store → Prop) (v1 v4 : AV) (S : Store) : Prop :=
  faW 1 v1 fun v13 =>
  ldW S 1 false v13 fun v14 =>
  lnW S 1 v14 fun v15 =>
  biW .lss v4 v15 fun v16 =>
  cnW v16 (faW 1 v1 fun v19 =>
  ldW S 1 false v19 fun v20 =>
  iaW 2 v20 v4 fun v22 =>
  faW 0 v22 fun v23 =>
  ldW S 1 false v23 fun v24 =>
  caW PG S (.func (.func 81) [] []) [v24] (fun v25 S =>
  faW 1 v1 fun v26 =>
  ldW S 1 false v26 fun v27 =>
  iaW 2 v27 v4 fun v29 =>
  faW 1 v29 fun v30 =>
  ldW S 1 false v30 fun v31 =>
  caW PG S (.func (.func 81) [] []) [v31] (fun v32 S =>
  ntW v25 fun v34 =>
  grW v34 false (faW 1 v1 fun v36 =>
  ldW S 1 false v36 fun v37 =>
  iaW 2 v37 v4 fun v39 =>
  faW 1 v39 fun v40 =>
  ldW S 1 false v40 fun v41 =>
  biW .neq v41 (.str ⟨#[]⟩) fun v42 =>
  C_ref11_mayRel_2 QF r0 v1 v4 v32 v34 v42 S)
  (C_ref11_mayRel_2 QF r0 v1 v4 v32 v34 undefA S)) (pqW QF)) (pqW QF))
  (faW 1 v1 fun v48 =>
  ldW S 1 false v48 fun v49 =>
  lnW S 1 v49 fun v50 =>
  biW .gtr v50 (.int .i64 0) fun v51 =>
  grW v51 false (faW 2 v1 fun v53 =>
  ldW S 4 true v53 fun v54 =>
  caW PG S (.func (.func 109) [] []) [v54, (.int .i64 12)] (fun v55 S =>
  pkW v51 (.bool true) v55 fun v56 =>
  rtW [.tmp v56] QF S) (pqW QF))
  (pkW v51 (.bool true) undefA fun v56 =>
  rtW [.tmp v56] QF S))
def B_ref11_mayRel (QF : AEnd → Store → Prop) (v0 : AV) (S : Store) : Prop :=
  brW 6 v0 fun v1 =>
  faW 0 v1 fun v7 =>
  ldW S 1 false v7 fun v8 =>
  caW PG S (.func (.func 81) [] []) [v8] (fun v9 S =>
  ntW v9 fun v11 =>
  cnW v11 (rtW [.tmp (.bool false)] QF S)
  (LoopP (fun r0 l S => C_ref11_mayRel_1 QF r0 (lget l 1) (lget l 4) S) [(1, v1), (4, (.int .i64 0))] S)) (pqW QF)
theorem w_ref11_mayRel {QF : AEnd → Store → Prop} {v0 : AV} {S : Store} (h : B_ref11_mayRel QF v0 S) : ACalls PG nr_ref11_mayRel [v0] S QF :=
  acalls_tf (F := tf_ref11_mayRel) (by kernel_rfl) rfl (by kernel_rfl) h
def tf_ref12_expr : TFunc where
  n := 85
  args := 3
  res := [.tmp 6]
  code := .seq (.reg [i1 3 (.boxr 24 1 (.t 0)),
    i1 5 (.boxr 41 4 (.t 2)),
    i1 6 (.mov (.c (.int .i64 0)))] [1, 3, 5] []) (.seq (.seq (.reg [i1 7 (.mov (.c (.int .i64 0)))] [1, 3, 5, 7] []) (.block 0 (.loop [1, 3, 5, 7] (.seq (.seq (.reg [i1 13 (.mov (.t 7)),
    i1 14 (.faddr 3 (.t 5)),
    i1 15 (.load 1 false (.t 14)),
    i1 16 (.len 1 (.t 15)),
    i1 17 (.bin .lss (.t 13) (.t 16))] [1, 3, 5, 7, 17] []) (.cond (.t 17) (.skip) (.exit 0))) (.seq (.block 1 (.seq (.regl [1, 2, 4, 0, 3, 5, 6, 7, 8] [i1 21 (.mov (.t 1)),
    i1 22 (.faddr 3 (.t 5)),
    i1 24 (.mov (.t 7)),
    i1 20 (.load 1 true (.t 3)),
    i1 23 (.load 1 false (.t 22)),
    i1 25 (.iaddr 4 (.t 23) (.t 24)),
    i1 26 (.load 4 true (.t 25)),
    i1 27 (.call (.f 83) [.t 20, .t 21, .t 26]),
    i1 8 (.mov (.t 27))] [1, 3, 5, 7, 8] []) (.seq (.reg [i1 28 (.mov (.t 8)),
    i1 29 (.bin .neq (.t 28) (.c (.int .i64 0)))] [1, 3, 5, 7, 8, 29] []) (.cond (.t 29) (.seq (.reg [i1 30 (.mov (.t 8)),
    i1 6 (.mov (.t 30))] [6] []) (.ret)) (.skip))))) (.reg [i1 18 (.mov (.t 7)),
    i1 19 (.bin .add (.t 18) (.c (.int .i64 1))),
    i1 7 (.mov (.t 19))] [1, 3, 5, 7] [])))))) (.seq (.seq (.reg [i1 31 (.faddr 3 (.t 5)),
    i1 32 (.load 1 false (.t 31)),
    i1 33 (.len 1 (.t 32)),
    i1 34 (.bin .gtr (.t 33) (.c (.int .i64 0)))] [1, 3, 5, 34] []) (.cond (.t 34) (.seq (.reg [i1 6 (.mov (.c (.int .i64 0)))] [6] []) (.ret)) (.skip))) (.seq (.reg [i1 35 (.load 1 true (.t 3)),
    i1 36 (.mov (.t 1)),
    i1 37 (.faddr 1 (.t 5)),
    i1 38 (.load 1 false (.t 37)),
    i1 39 (.call (.f 39) [.t 35, .t 36, .t 38]),
    i1 9 (.mov (.t 39))] [1, 3, 5, 9] []) (.seq (.seq (.reg [i1 40 (.mov (.t 9)),
    i1 41 (.bin .lss (.t 40) (.c (.int .i64 0)))] [1, 3, 5, 9, 41] []) (.cond (.t 41) (.seq (.reg [i1 6 (.mov (.c (.int .i64 6)))] [6] []) (.ret)) (.skip))) (.seq (.seq (.reg [i1 42 (.faddr 0 (.t 5)),
    i1 43 (.load 1 false (.t 42)),
    i1 44 (.bin .eql (.t 43) (.c (.int .i64 0)))] [1, 3, 5, 9, 44] []) (.cond (.t 44) (.seq (.reg [i1 6 (.mov (.c (.int .i64 0)))] [6] []) (.ret)) (.skip))) (.seq (.reg [i1 45 (.faddr 0 (.t 3)),
    i1 46 (.load 1 false (.t 45)),
    i1 47 (.mov (.t 1)),
    i1 48 (.iaddr 2 (.t 46) (.t 47)),
    i1 49 (.faddr 1 (.t 48)),
    i1 50 (.load 1 false (.t 49)),
    i1 51 (.mov (.t 9)),
    i1 52 (.iaddr 6 (.t 50) (.t 51)),
    i1 53 (.faddr 1 (.t 52)),
    i1 54 (.load 1 false (.t 53)),
    i1 10 (.mov (.t 54))] [3, 5, 10] []) (.seq (.seq (.reg [i1 55 (.mov (.t 10)),
    i1 56 (.len 1 (.t 55)),
    i1 57 (.bin .eql (.t 56) (.c (.int .i64 0)))] [3, 5, 10, 57] []) (.cond (.t 57) (.seq (.reg [i1 6 (.mov (.c (.int .i64 10)))] [6] []) (.ret)) (.skip))) (.seq (.seq (.reg [i1 11 (.mov (.c (.int .i64 0)))] [3, 5, 10, 11] []) (.block 2 (.loop [3, 5, 10, 11] (.seq (.seq (.reg [i1 58 (.mov (.t 11)),
    i1 59 (.mov (.t 10)),
    i1 60 (.len 1 (.t 59)),
    i1 61 (.bin .lss (.t 58) (.t 60))] [3, 5, 10, 11, 61] []) (.cond (.t 61) (.skip) (.exit 2))) (.seq (.block 3 (.seq (.regl [2, 3, 4, 5, 8, 0, 1, 6, 9, 7, 10, 11] [i1 66 (.mov (.t 10)),
    i1 67 (.mov (.t 11)),
    i1 68 (.iaddr 2 (.t 66) (.t 67)),
    i1 69 (.faddr 0 (.t 68)),
    i1 72 (.faddr 2 (.t 5)),
    i1 64 (.load 1 true (.t 3)),
    i1 65 (.load 1 true (.t 3)),
    i1 70 (.load 1 false (.t 69)),
    i1 73 (.load 1 false (.t 72)),
    .one { d := some 71, o := .call (.f 38) [.t 65, .t 70], x := [3, 72] },
    i1 74 (.call (.f 39) [.t 64, .t 71, .t 73]),
    i1 12 (.mov (.t 74))] [3, 5, 10, 11, 12] []) (.seq (.reg [i1 75 (.mov (.t 10)),
    i1 76 (.mov (.t 11)),
    i1 77 (.iaddr 2 (.t 75) (.t 76)),
    i1 78 (.faddr 1 (.t 77)),
    i1 79 (.load 1 false (.t 78)),
    i1 80 (.bin .eql (.t 79) (.c (.str ⟨#[]⟩))),
    i1 81 (.mov (.t 80)),
    .grp 81 true [s1 82 (.mov (.t 12)), s1 83 (.bin .geq (.t 82) (.c (.int .i64 0)))],
    i1 84 (.pick (.t 81) (.t 83) (.c (.bool false)))] [3, 5, 10, 11, 84] []) (.cond (.t 84) (.seq (.reg [i1 6 (.mov (.c (.int .i64 0)))] [6] []) (.ret)) (.skip))))) (.reg [i1 62 (.mov (.t 11)),
    i1 63 (.bin .add (.t 62) (.c (.int .i64 1))),
    i1 11 (.mov (.t 63))] [3, 5, 10, 11] [])))))) (.seq (.reg [i1 6 (.mov (.c (.int .i64 6)))] [6] []) (.ret))))))))))
abbrev nr_ref12_expr : Nat := 83
def C_ref12_expr_2 (QF : AEnd → Store → Prop) (r0 : LE → Store → Prop) (v3 v5 v10 v11 : AV) (S : Store) : Prop :=
  lnW S 1 v10 fun v60 =>
  biW .lss v11 v60 fun v61 =>
  cnW v61 (iaW 2 v10 v11 fun v68 =>
  faW 0 v68 fun v69 =>
  faW 2 v5 fun v72 =>
  ldW S 1 true v3 fun v64 =>
  ldW S 1 true v3 fun v65 =>
  ldW S 1 false v69 fun v70 =>
  ldW S 1 false v72 fun v73 =>
  caW PG S (.func (.func 38) [] []) [v65, v70] (fun v71 S1 =>
  kpW [v3, v72] S S1 (
  caW PG S1 (.func (.func 39) [] []) [v64, v71, v73] (fun v74 S =>
  iaW 2 v10 v11 fun v77 =>
  faW 1 v77 fun v78 =>
  ldW S 1 false v78 fun v79 =>
  biW .eql v79 (.str ⟨#[]⟩) fun v80 =>
  grW v80 true (biW .geq v74 (.int .i64 0) fun v83 =>
  pkW v80 v83 (.bool false) fun v84 =>
  cnW v84 (rtW [.tmp (.int .i64 0)] QF S)
  (biW .add v11 (.int .i64 1) fun v63 =>
  rcW r0 [(3, v3), (5, v5), (10, v10), (11, v63)] S))
  (pkW v80 undefA (.bool false) fun v84 =>
  cnW v84 (rtW [.tmp (.int .i64 0)] QF S)
  (biW .add v11 (.int .i64 1) fun v63 =>
  rcW r0 [(3, v3), (5, v5), (10, v10), (11, v63)] S))) (pqW QF))) (pqW QF))
  (rtW [.tmp (.int .i64 6)] QF S)
def C_ref12_expr_1 (QF : AEnd → Store → Prop) (r0 : LE → Store → Prop) (v1 v3 v5 v7 : AV) (S : Store) : Prop :=
  faW 3 v5 fun v14 =>
  ldW S 1 false v14 fun v15 =>
  lnW S 1 v15 fun v16 =>
  biW .lss v7 v16 fun v17 =>
  cnW v17 (faW 3 v5 fun v22 =>
  ldW S 1 true v3 fun v20 =>
  ldW S 1 false v22 fun v23 =>
  iaW 4 v23 v7 fun v25 =>
  ldW S 4 true v25 fun v26 =>
  caW PG S (.func (.func 83) [] []) [v20, v1, v26] (fun v27 S =>
  biW .neq v27 (.int .i64 0) fun v29 =>
  cnW v29 (rtW [.tmp v27] QF S)
  (biW .add v7 (.int .i64 1) fun v19 =>
  rcW r0 [(1, v1), (3, v3), (5, v5), (7, v19)] S)) (pqW QF))
  (faW 3 v5 fun v31 =>
  ldW S 1 false v31 fun v32 =>
  lnW S 1 v32 fun v33 =>
  biW .gtr v33 (.int .i64 0) fun v34 =>
  cnW v34 (rtW [.tmp (.int .i64 0)] QF S)
  (ldW S 1 true v3 fun v35 =>
  faW 1 v5 fun v37 =>
  ldW S 1 false v37 fun v38 =>
  caW PG S (.func (.func 39) [] []) [v35, v1, v38] (fun v39 S =>
  biW .lss v39 (.int .i64 0) fun v41 =>
  cnW v41 (rtW [.tmp (.int .i64 6)] QF S)
  (faW 0 v5 fun v42 =>
  ldW S 1 false v42 fun v43 =>
  biW .eql v43 (.int .i64 0) fun v44 =>
  cnW v44 (rtW [.tmp (.int .i64 0)] QF S)
  (faW 0 v3 fun v45 =>
  ldW S 1 false v45 fun v46 =>
  iaW 2 v46 v1 fun v48 =>
  faW 1 v48 fun v49 =>
  ldW S 1 false v49 fun v50 =>
  iaW 6 v50 v39 fun v52 =>
  faW 1 v52 fun v53 =>
  ldW S 1 false v53 fun v54 =>
  lnW S 1 v54 fun v56 =>
  biW .eql v56 (.int .i64 0) fun v57 =>
  cnW v57 (rtW [.tmp (.int .i64 10)] QF S)
  (LoopP (fun r0 l S => C_ref12_expr_2 QF r0 (lget l 3) (lget l 5) (lget l 10) (lget l 11) S) [(3, v3), (5, v5), (10, v54), (11, (.int .i64 0))] S)))) (pqW QF)))
def B_ref12_expr (QF : AEnd → Store → Prop) (v0 v1 v2 : AV) (S : Store) : Prop :=
  brW 1 v0 fun v3 =>
  brW 4 v2 fun v5 =>
  LoopP (fun r0 l S => C_ref12_expr_1 QF r0 (lget l 1) (lget l 3) (lget l 5) (lget l 7) S) [(1, v1), (3, v3), (5, v5), (7, (.int .i64 0))] S
theorem w_ref12_expr {QF : AEnd → Store → Prop} {v0 v1 v2 : AV} {S : Store} (h : B_ref12_expr QF v0 v1 v2 S) : ACalls PG nr_ref12_expr [v0, v1, v2] S QF :=
  acalls_tf (F := tf_ref12_expr) (by kernel_rfl) rfl (by kernel_rfl) h
def tf_ref11_word : TFunc where
  n := 45
  args := 1
  res := [.tmp 2]
  code := .seq (.reg [i1 2 (.mov (.c (.int .i64 0)))] [0] []) (.seq (.reg [i1 3 (.mov (.c (.int .i64 0)))] [0, 3] []) (.seq (.block 0 (.loop [0, 3] (.seq (.seq (.reg [i1 4 (.mov (.t 3)),
    i1 5 (.mov (.t 0)),
    i1 6 (.len 0 (.t 5)),
    i1 7 (.bin .lss (.t 4) (.t 6)),
    i1 8 (.mov (.t 7)),
    .grp 8 true [s1 9 (.mov (.t 0)), s1 10 (.mov (.t 3)), s1 11 (.idxs (.t 9) (.t 10)), s1 12 (.bin .geq (.t 11) (.c (.int .u8 97))), s1 13 (.mov (.t 12))],
    .grp 13 true [s1 14 (.mov (.t 0)), s1 15 (.mov (.t 3)), s1 16 (.idxs (.t 14) (.t 15)), s1 17 (.bin .leq (.t 16) (.c (.int .u8 122)))],
    .grp 8 true [s1 18 (.pick (.t 13) (.t 17) (.c (.bool false))), s1 19 (.mov (.t 18))],
    .grp 19 false [s1 20 (.mov (.t 3)), s1 21 (.bin .gtr (.t 20) (.c (.int .i64 0))), s1 22 (.mov (.t 21))],
    .grp 22 true [s1 23 (.mov (.t 0)), s1 24 (.mov (.t 3)), s1 25 (.idxs (.t 23) (.t 24)), s1 26 (.bin .eql (.t 25) (.c (.int .u8 95))), s1 27 (.mov (.t 26))],
    .grp 27 false [s1 28 (.mov (.t 0)), s1 29 (.mov (.t 3)), s1 30 (.idxs (.t 28) (.t 29)), s1 31 (.bin .geq (.t 30) (.c (.int .u8 48))), s1 32 (.mov (.t 31))],
    .grp 32 true [s1 33 (.mov (.t 0)), s1 34 (.mov (.t 3)), s1 35 (.idxs (.t 33) (.t 34)), s1 36 (.bin .leq (.t 35) (.c (.int .u8 57)))],
    .grp 27 false [s1 37 (.pick (.t 32) (.t 36) (.c (.bool false)))],
    .grp 22 true [s1 38 (.pick (.t 27) (.c (.bool true)) (.t 37))],
    .grp 19 false [s1 39 (.pick (.t 22) (.t 38) (.c (.bool false)))],
    .grp 8 true [s1 40 (.pick (.t 19) (.c (.bool true)) (.t 39))],
    i1 41 (.pick (.t 8) (.t 40) (.c (.bool false)))] [0, 3, 41] []) (.cond (.t 41) (.skip) (.exit 0))) (.block 1 (.reg [i1 42 (.mov (.t 3)),
    i1 43 (.bin .add (.t 42) (.c (.int .i64 1))),
    i1 3 (.mov (.t 43))] [0, 3] []))))) (.seq (.reg [i1 44 (.mov (.t 3)),
    i1 2 (.mov (.t 44))] [2] []) (.ret))))
abbrev nr_ref11_word : Nat := 84
def C_ref11_word_11 (QF : AEnd → Store → Prop) (r0 : LE → Store → Prop) (v0 v3 v8 v19 v39 : AV) (S : Store) : Prop :=
  grW v8 true (pkW v19 (.bool true) v39 fun v40 =>
  pkW v8 v40 (.bool false) fun v41 =>
  cnW v41 (biW .add v3 (.int .i64 1) fun v43 =>
  rcW r0 [(0, v0), (3, v43)] S)
  (rtW [.tmp v3] QF S))
  (pkW v8 undefA (.bool false) fun v41 =>
  cnW v41 (biW .add v3 (.int .i64 1) fun v43 =>
  rcW r0 [(0, v0), (3, v43)] S)
  (rtW [.tmp v3] QF S))
def C_ref11_word_10 (QF : AEnd → Store → Prop) (r0 : LE → Store → Prop) (v0 v3 v8 v19 v22 v38 : AV) (S : Store) : Prop :=
  grW v19 false (pkW v22 v38 (.bool false) fun v39 =>
  C_ref11_word_11 QF r0 v0 v3 v8 v19 v39 S)
  (C_ref11_word_11 QF r0 v0 v3 v8 v19 undefA S)
def C_ref11_word_9 (QF : AEnd → Store → Prop) (r0 : LE → Store → Prop) (v0 v3 v8 v19 v22 v27 v37 : AV) (S : Store) : Prop :=
  grW v22 true (pkW v27 (.bool true) v37 fun v38 =>
  C_ref11_word_10 QF r0 v0 v3 v8 v19 v22 v38 S)
  (C_ref11_word_10 QF r0 v0 v3 v8 v19 v22 undefA S)
def C_ref11_word_8 (QF : AEnd → Store → Prop) (r0 : LE → Store → Prop) (v0 v3 v8 v19 v22 v27 v32 v36 : AV) (S : Store) : Prop :=
  grW v27 false (pkW v32 v36 (.bool false) fun v37 =>
  C_ref11_word_9 QF r0 v0 v3 v8 v19 v22 v27 v37 S)
  (C_ref11_word_9 QF r0 v0 v3 v8 v19 v22 v27 undefA S)
def C_ref11_word_7 (QF : AEnd → Store → Prop) (r0 : LE → Store → Prop) (v0 v3 v8 v19 v22 v27 v32 : AV) (S : Store) : Prop :=
  grW v32 true (isW v0 v3 fun v35 =>
  biW .leq v35 (.int .u8 57) fun v36 =>
  C_ref11_word_8 QF r0 v0 v3 v8 v19 v22 v27 v32 v36 S)
  (C_ref11_word_8 QF r0 v0 v3 v8 v19 v22 v27 v32 undefA S)
def C_ref11_word_6 (QF : AEnd → Store → Prop) (r0 : LE → Store → Prop) (v0 v3 v8 v19 v22 v27 : AV) (S : Store) : Prop :=
  grW v27 false (isW v0 v3 fun v30 =>
  biW .geq v30 (.int .u8 48) fun v31 =>
  C_ref11_word_7 QF r0 v0 v3 v8 v19 v22 v27 v31 S)
  (C_ref11_word_7 QF r0 v0 v3 v8 v19 v22 v27 undefA S)
def C_ref11_word_5 (QF : AEnd → Store → Prop) (r0 : LE → Store → Prop) (v0 v3 v8 v19 v22 : AV) (S : Store) : Prop :=
  grW v22 true (isW v0 v3 fun v25 =>
  biW .eql v25 (.int .u8 95) fun v26 =>
  C_ref11_word_6 QF r0 v0 v3 v8 v19 v22 v26 S)
  (C_ref11_word_6 QF r0 v0 v3 v8 v19 v22 undefA S)
def C_ref11_word_4 (QF : AEnd → Store → Prop) (r0 : LE → Store → Prop) (v0 v3 v8 v19 : AV) (S : Store) : Prop :=
  grW v19 false (biW .gtr v3 (.int .i64 0) fun v21 =>
  C_ref11_word_5 QF r0 v0 v3 v8 v19 v21 S)
  (C_ref11_word_5 QF r0 v0 v3 v8 v19 undefA S)
def C_ref11_word_3 (QF : AEnd → Store → Prop) (r0 : LE → Store → Prop) (v0 v3 v8 v13 v17 : AV) (S : Store) : Prop :=
  grW v8 true (pkW v13 v17 (.bool false) fun v18 =>
  C_ref11_word_4 QF r0 v0 v3 v8 v18 S)
  (C_ref11_word_4 QF r0 v0 v3 v8 undefA S)
def C_ref11_word_2 (QF : AEnd → Store → Prop) (r0 : LE → Store → Prop) (v0 v3 v8 v13 : AV) (S : Store) : Prop :=
  grW v13 true (isW v0 v3 fun v16 =>
  biW .leq v16 (.int .u8 122) fun v17 =>
  C_ref11_word_3 QF r0 v0 v3 v8 v13 v17 S)
  (C_ref11_word_3 QF r0 v0 v3 v8 v13 undefA S)
def C_ref11_word_1 (QF : AEnd → Store → Prop) (r0 : LE → Store → Prop) (v0 v3 : AV) (S : Store) : Prop :=
  lnW S 0 v0 fun v6 =>
  biW .lss v3 v6 fun v7 =>
  grW v7 true (isW v0 v3 fun v11 =>
  biW .geq v11 (.int .u8 97) fun v12 =>
  C_ref11_word_2 QF r0 v0 v3 v7 v12 S)
  (C_ref11_word_2 QF r0 v0 v3 v7 undefA S)
def B_ref11_word (QF : AEnd → Store → Prop) (v0 : AV) (S : Store) : Prop :=
  LoopP (fun r0 l S => C_ref11_word_1 QF r0 (lget l 0) (lget l 3) S) [(0, v0), (3, (.int .i64 0))] S
theorem w_ref11_word {QF : AEnd → Store → Prop} {v0 : AV} {S : Store} (h : B_ref11_word QF v0 S) : ACalls PG nr_ref11_word [v0] S QF :=
  acalls_tf (F := tf_ref11_word) (by kernel_rfl) rfl (by kernel_rfl) h
def tf_ref11_sign : TFunc where
  n := 21
  args := 1
  res := [.tmp 2]
  code := .seq (.reg [i1 2 (.mov (.c (.str ⟨#[]⟩)))] [0] []) (.seq (.reg [i1 3 (.mov (.c (.str ⟨#[58, 124, 35, 43, 45, 38, 46, 40, 41]⟩)))] [0, 3] []) (.seq (.seq (.reg [i1 4 (.mov (.c (.int .i64 0)))] [0, 3, 4] []) (.block 0 (.loop [0, 3, 4] (.seq (.seq (.reg [i1 5 (.mov (.t 4)),
    i1 6 (.mov (.t 3)),
    i1 7 (.len 0 (.t 6)),
    i1 8 (.bin .lss (.t 5) (.t 7))] [0, 3, 4, 8] []) (.cond (.t 8) (.skip) (.exit 0))) (.seq (.block 1 (.seq (.reg [i1 11 (.mov (.t 3)),
    i1 12 (.mov (.t 4)),
    i1 13 (.idxs (.t 11) (.t 12)),
    i1 14 (.mov (.t 0)),
    i1 15 (.bin .eql (.t 13) (.t 14))] [0, 3, 4, 15] []) (.cond (.t 15) (.seq (.reg [i1 16 (.mov (.t 3)),
    i1 17 (.mov (.t 4)),
    i1 18 (.mov (.t 4)),
    i1 19 (.bin .add (.t 18) (.c (.int .i64 1))),
    i1 20 (.slics (.t 16) (some (.t 17)) (some (.t 19))),
    i1 2 (.mov (.t 20))] [2] []) (.ret)) (.skip)))) (.reg [i1 9 (.mov (.t 4)),
    i1 10 (.bin .add (.t 9) (.c (.int .i64 1))),
    i1 4 (.mov (.t 10))] [0, 3, 4] [])))))) (.seq (.reg [i1 2 (.mov (.c (.str ⟨#[63]⟩)))] [2] []) (.ret))))
abbrev nr_ref11_sign : Nat := 85
def C_ref11_sign_1 (QF : AEnd → Store → Prop) (r0 : LE → Store → Prop) (v0 v3 v4 : AV) (S : Store) : Prop :=
  lnW S 0 v3 fun v7 =>
  biW .lss v4 v7 fun v8 =>
  cnW v8 (isW v3 v4 fun v13 =>
  biW .eql v13 v0 fun v15 =>
  cnW v15 (biW .add v4 (.int .i64 1) fun v19 =>
  ssW v3 (some v4) (some v19) fun v20 =>
  rtW [.tmp v20] QF S)
  (biW .add v4 (.int .i64 1) fun v10 =>
  rcW r0 [(0, v0), (3, v3), (4, v10)] S))
  (rtW [.tmp (.str ⟨#[63]⟩)] QF S)
def B_ref11_sign (QF : AEnd → Store → Prop) (v0 : AV) (S : Store) : Prop :=
  LoopP (fun r0 l S => C_ref11_sign_1 QF r0 (lget l 0) (lget l 3) (lget l 4) S) [(0, v0), (3, (.str ⟨#[58, 124, 35, 43, 45, 38, 46, 40, 41]⟩)), (4, (.int .i64 0))] S
theorem w_ref11_sign {QF : AEnd → Store → Prop} {v0 : AV} {S : Store} (h : B_ref11_sign QF v0 S) : ACalls PG nr_ref11_sign [v0] S QF :=
  acalls_tf (F := tf_ref11_sign) (by kernel_rfl) rfl (by kernel_rfl) h
def tf_ref11_Reader_must : TFunc where
  n := 14
  args := 2
  res := []
  code := .seq (.reg [i1 5 (.mov (.t 0)),
    i1 6 (.mov (.t 1)),
    i1 7 (.call (.f 58) [.t 5, .t 6]),
    i1 4 (.mov (.t 7))] [0, 4] []) (.seq (.reg [i1 8 (.mov (.t 4)),
    i1 9 (.not (.t 8))] [0, 9] []) (.cond (.t 9) (.reg [i1 10 (.mov (.t 0)),
    i1 11 (.mov (.t 0)),
    i1 12 (.call (.f 61) [.t 11]),
    i1 13 (.call (.f 62) [.t 10, .t 12, .c (.int .i64 8)])] [] []) (.skip)))
abbrev nr_ref11_Reader_must : Nat := 86
def B_ref11_Reader_must (QF : AEnd → Store → Prop) (v0 v1 : AV) (S : Store) : Prop :=
  caW PG S (.func (.func 58) [] []) [v0, v1] (fun v7 S =>
  ntW v7 fun v9 =>
  cnW v9 (caW PG S (.func (.func 61) [] []) [v0] (fun v12 S =>
  caW PG S (.func (.func 62) [] []) [v0, v12, (.int .i64 8)] (fun v13 S =>
  rtW [] QF S) (pqW QF)) (pqW QF))
  (rtW [] QF S)) (pqW QF)
theorem w_ref11_Reader_must {QF : AEnd → Store → Prop} {v0 v1 : AV} {S : Store} (h : B_ref11_Reader_must QF v0 v1 S) : ACalls PG nr_ref11_Reader_must [v0, v1] S QF :=
  acalls_tf (F := tf_ref11_Reader_must) (by kernel_rfl) rfl (by kernel_rfl) h
def tf_ref11_Reader_ref : TFunc where
  n := 13
  args := 1
  res := [.cell 2 2 true]
  code := .seq (.reg [i1 2 (.alloc 53 [.str ⟨#[]⟩, .str ⟨#[]⟩])] [0, 2] []) (.seq (.reg [i1 4 (.mov (.t 0)),
    i1 5 (.call (.f 59) [.t 4]),
    i1 6 (.build [.str ⟨#[]⟩, .str ⟨#[]⟩] [(0, 1, .t 5)]),
    i1 3 (.alloc 53 [.str ⟨#[]⟩, .str ⟨#[]⟩]),
    i0 (.store 2 (.t 3) (.t 6))] [0, 2, 3] []) (.seq (.seq (.reg [i1 7 (.mov (.t 0)),
    i1 8 (.call (.f 58) [.t 7, .c (.str ⟨#[35]⟩)])] [0, 2, 3, 8] []) (.cond (.t 8) (.reg [i1 9 (.mov (.t 0)),
    i1 10 (.call (.f 59) [.t 9]),
    i1 11 (.faddr 1 (.t 3)),
    i0 (.store 1 (.t 11) (.t 10))] [2, 3] []) (.skip))) (.seq (.reg [i1 12 (.load 2 true (.t 3)),
    i0 (.store 2 (.t 2) (.t 12))] [2] [2]) (.ret))))
abbrev nr_ref11_Reader_ref : Nat := 87
def C_ref11_Reader_ref_1 (QF : AEnd → Store → Prop) (v2 v3 : AV) (S : Store) : Prop :=
  ldW S 2 true v3 fun v12 =>
  stW S 2 v2 v12 fun S =>
  fzW S v2 fun v2 S =>
  rtW [.cell v2 2 true] QF S
def B_ref11_Reader_ref (QF : AEnd → Store → Prop) (v0 : AV) (S : Store) : Prop :=
  alW S 53 [.str ⟨#[]⟩, .str ⟨#[]⟩] fun v2 S =>
  caW PG S (.func (.func 59) [] []) [v0] (fun v5 S =>
  bdW [.str ⟨#[]⟩, .str ⟨#[]⟩] [(0, 1, v5)] fun v6 =>
  alW S 53 [.str ⟨#[]⟩, .str ⟨#[]⟩] fun v3 S =>
  stW S 2 v3 v6 fun S =>
  caW PG S (.func (.func 58) [] []) [v0, (.str ⟨#[35]⟩)] (fun v8 S =>
  cnW v8 (caW PG S (.func (.func 59) [] []) [v0] (fun v10 S =>
  faW 1 v3 fun v11 =>
  stW S 1 v11 v10 fun S =>
  C_ref11_Reader_ref_1 QF v2 v3 S) (pqW QF))
  (C_ref11_Reader_ref_1 QF v2 v3 S)) (pqW QF)) (pqW QF)
theorem w_ref11_Reader_ref {QF : AEnd → Store → Prop} {v0 : AV} {S : Store} (h : B_ref11_Reader_ref QF v0 S) : ACalls PG nr_ref11_Reader_ref [v0] S QF :=
  acalls_tf (F := tf_ref11_Reader_ref) (by kernel_rfl) rfl (by kernel_rfl) h
end Go.HL
