/- A part of a proof. -/
import Derived.Test.YtadmdlpmikoghaaKmHlP
set_option maxRecDepth 100000
set_option linter.unusedVariables false
namespace Go.HL
def tf_ref11_Reader_expr : TFunc where
  n := 48
  args := 1
  res := [.cell 2 4 true]
  code := .seq (.reg [i1 2 (.alloc 41 [.int .i64 0, .str ⟨#[]⟩, .str ⟨#[]⟩, .nils])] [0, 2] []) (.seq (.reg [i1 7 (.mov (.t 0)),
    i1 8 (.call (.f 110) [.t 7]),
    i1 3 (.alloc 41 [.int .i64 0, .str ⟨#[]⟩, .str ⟨#[]⟩, .nils]),
    i0 (.store 4 (.t 3) (.t 8))] [0, 2, 3] []) (.seq (.block 0 (.loop [0, 2, 3] (.seq (.seq (.reg [i1 9 (.mov (.t 0)),
    i1 10 (.nilck (.t 9)),
    i1 11 (.faddr 3 (.t 10)),
    i1 12 (.faddr 2 (.t 11)),
    i1 13 (.load 1 false (.t 12)),
    i1 14 (.bin .eql (.t 13) (.c (.int .i64 0))),
    i1 15 (.mov (.t 14)),
    .grp 15 true [s1 16 (.mov (.t 0)), s1 17 (.call (.f 61) [.t 16]), s1 18 (.field 0 1 false (.t 17)), s1 19 (.bin .eql (.t 18) (.c (.str ⟨#[43]⟩))), s1 20 (.mov (.t 19))],
    .grp 20 false [s1 21 (.mov (.t 0)), s1 22 (.call (.f 61) [.t 21]), s1 23 (.field 0 1 false (.t 22)), s1 24 (.bin .eql (.t 23) (.c (.str ⟨#[45]⟩)))],
    .grp 15 true [s1 25 (.pick (.t 20) (.c (.bool true)) (.t 24))],
    i1 26 (.pick (.t 15) (.t 25) (.c (.bool false)))] [0, 2, 3, 26] []) (.cond (.t 26) (.skip) (.exit 0))) (.block 1 (.seq (.reg [i1 27 (.mov (.t 0)),
    i1 28 (.call (.f 61) [.t 27]),
    .box2 4 130 [.str ⟨#[]⟩, .int .i64 0, .int .i64 0] 3 (.t 28)] [0, 2, 3, 4] []) (.seq (.reg [i1 5 (.mov (.c (.int .i64 2)))] [0, 2, 3, 4, 5] []) (.seq (.seq (.reg [i1 29 (.faddr 0 (.t 4)),
    i1 30 (.load 1 false (.t 29)),
    i1 31 (.bin .eql (.t 30) (.c (.str ⟨#[45]⟩)))] [0, 2, 3, 4, 5, 31] []) (.cond (.t 31) (.reg [i1 5 (.mov (.c (.int .i64 4)))] [0, 2, 3, 4, 5] []) (.skip))) (.seq (.reg [i1 32 (.mov (.t 0)),
    i1 33 (.nilck (.t 32)),
    i1 34 (.faddr 1 (.t 33)),
    i1 35 (.load 1 false (.t 34)),
    i1 36 (.bin .add (.t 35) (.c (.int .i64 1))),
    i1 37 (.nilck (.t 32)),
    i1 38 (.faddr 1 (.t 37)),
    i0 (.store 1 (.t 38) (.t 36))] [0, 2, 3, 4, 5] []) (.seq (.reg [i1 39 (.mov (.t 0)),
    i1 40 (.call (.f 110) [.t 39]),
    .box2 6 41 [.int .i64 0, .str ⟨#[]⟩, .str ⟨#[]⟩, .nils] 4 (.t 40)] [0, 2, 3, 4, 5, 6] []) (.reg [i1 41 (.mov (.t 0)),
    i1 42 (.mov (.t 5)),
    i1 43 (.load 3 true (.t 4)),
    i1 44 (.load 4 true (.t 3)),
    i1 45 (.load 4 true (.t 6)),
    i1 46 (.call (.f 111) [.t 41, .t 42, .t 43, .t 44, .t 45]),
    i0 (.store 4 (.t 3) (.t 46))] [0, 2, 3] [])))))))))) (.seq (.reg [i1 47 (.load 4 true (.t 3)),
    i0 (.store 4 (.t 2) (.t 47))] [2] [2]) (.ret))))
abbrev nr_ref11_Reader_expr : Nat := 88
def C_ref11_Reader_expr_5 (QF : AEnd → Store → Prop) (r0 : LE → Store → Prop) (v0 v2 v3 v4 v5 : AV) (S : Store) : Prop :=
  nkW v0 fun v33 =>
  faW 1 v33 fun v34 =>
  ldW S 1 false v34 fun v35 =>
  biW .add v35 (.int .i64 1) fun v36 =>
  nkW v0 fun v37 =>
  faW 1 v37 fun v38 =>
  stW S 1 v38 v36 fun S =>
  caW PG S (.func (.func 110) [] []) [v0] (fun v40 S =>
  bfW 4 v40 fun v6 =>
  ldW S 3 true v4 fun v43 =>
  ldW S 4 true v3 fun v44 =>
  ldW S 4 true v6 fun v45 =>
  caW PG S (.func (.func 111) [] []) [v0, v5, v43, v44, v45] (fun v46 S =>
  stW S 4 v3 v46 fun S =>
  rcW r0 [(0, v0), (2, v2), (3, v3)] S) (pqW QF)) (pqW QF)
def C_ref11_Reader_expr_4 (QF : AEnd → Store → Prop) (r0 : LE → Store → Prop) (v0 v2 v3 v26 : AV) (S : Store) : Prop :=
  cnW v26 (caW PG S (.func (.func 61) [] []) [v0] (fun v28 S =>
  bfW 3 v28 fun v4 =>
  faW 0 v4 fun v29 =>
  ldW S 1 false v29 fun v30 =>
  biW .eql v30 (.str ⟨#[45]⟩) fun v31 =>
  cnW v31 (C_ref11_Reader_expr_5 QF r0 v0 v2 v3 v4 (.int .i64 4) S)
  (C_ref11_Reader_expr_5 QF r0 v0 v2 v3 v4 (.int .i64 2) S)) (pqW QF))
  (ldW S 4 true v3 fun v47 =>
  stW S 4 v2 v47 fun S =>
  fzW S v2 fun v2 S =>
  rtW [.cell v2 4 true] QF S)
def C_ref11_Reader_expr_3 (QF : AEnd → Store → Prop) (r0 : LE → Store → Prop) (v0 v2 v3 v15 v20 v24 : AV) (S : Store) : Prop :=
  grW v15 true (pkW v20 (.bool true) v24 fun v25 =>
  pkW v15 v25 (.bool false) fun v26 =>
  C_ref11_Reader_expr_4 QF r0 v0 v2 v3 v26 S)
  (pkW v15 undefA (.bool false) fun v26 =>
  C_ref11_Reader_expr_4 QF r0 v0 v2 v3 v26 S)
def C_ref11_Reader_expr_2 (QF : AEnd → Store → Prop) (r0 : LE → Store → Prop) (v0 v2 v3 v15 v20 : AV) (S : Store) : Prop :=
  grW v20 false (caW PG S (.func (.func 61) [] []) [v0] (fun v22 S =>
  fdW 0 1 false v22 fun v23 =>
  biW .eql v23 (.str ⟨#[45]⟩) fun v24 =>
  C_ref11_Reader_expr_3 QF r0 v0 v2 v3 v15 v20 v24 S) (pqW QF))
  (C_ref11_Reader_expr_3 QF r0 v0 v2 v3 v15 v20 undefA S)
def C_ref11_Reader_expr_1 (QF : AEnd → Store → Prop) (r0 : LE → Store → Prop) (v0 v2 v3 : AV) (S : Store) : Prop :=
  nkW v0 fun v10 =>
  faW 3 v10 fun v11 =>
  faW 2 v11 fun v12 =>
  ldW S 1 false v12 fun v13 =>
  biW .eql v13 (.int .i64 0) fun v14 =>
  grW v14 true (caW PG S (.func (.func 61) [] []) [v0] (fun v17 S =>
  fdW 0 1 false v17 fun v18 =>
  biW .eql v18 (.str ⟨#[43]⟩) fun v19 =>
  C_ref11_Reader_expr_2 QF r0 v0 v2 v3 v14 v19 S) (pqW QF))
  (C_ref11_Reader_expr_2 QF r0 v0 v2 v3 v14 undefA S)
def B_ref11_Reader_expr (QF : AEnd → Store → Prop) (v0 : AV) (S : Store) : Prop :=
  alW S 41 [.int .i64 0, .str ⟨#[]⟩, .str ⟨#[]⟩, .nils] fun v2 S =>
  caW PG S (.func (.func 110) [] []) [v0] (fun v8 S =>
  alW S 41 [.int .i64 0, .str ⟨#[]⟩, .str ⟨#[]⟩, .nils] fun v3 S =>
  stW S 4 v3 v8 fun S =>
  LoopP (fun r0 l S => C_ref11_Reader_expr_1 QF r0 (lget l 0) (lget l 2) (lget l 3) S) [(0, v0), (2, v2), (3, v3)] S) (pqW QF)
theorem w_ref11_Reader_expr {QF : AEnd → Store → Prop} {v0 : AV} {S : Store} (h : B_ref11_Reader_expr QF v0 S) : ACalls PG nr_ref11_Reader_expr [v0] S QF :=
  acalls_tf (F := tf_ref11_Reader_expr) (by kernel_rfl) rfl (by kernel_rfl) h
def tf_ref12_leans : TFunc where
  n := 111
  args := 4
  res := [.tmp 8]
  code := .seq (.reg [i1 4 (.boxr 24 1 (.t 0)),
    i1 6 (.boxr 41 4 (.t 2)),
    i1 8 (.mov (.c (.nils)))] [1, 3, 4, 6] []) (.seq (.reg [i1 9 (.mov (.c (.nils)))] [1, 3, 4, 6, 9] []) (.seq (.seq (.reg [i1 10 (.mov (.c (.int .i64 0)))] [1, 3, 4, 6, 9, 10] []) (.block 0 (.loop [1, 3, 4, 6, 9, 10] (.seq (.seq (.reg [i1 16 (.mov (.t 10)),
    i1 17 (.faddr 3 (.t 6)),
    i1 18 (.load 1 false (.t 17)),
    i1 19 (.len 1 (.t 18)),
    i1 20 (.bin .lss (.t 16) (.t 19))] [1, 3, 4, 6, 9, 10, 20] []) (.cond (.t 20) (.skip) (.exit 0))) (.seq (.block 1 (.regl [0, 2, 3, 5, 8, 9, 10, 1, 4, 6, 7, 11, 12, 13, 14, 15, 16, 17, 18, 19, 20] [i1 23 (.mov (.t 9)),
    i1 25 (.mov (.t 1)),
    i1 26 (.faddr 3 (.t 6)),
    i1 28 (.mov (.t 10)),
    i1 31 (.mov (.t 3)),
    i1 32 (.mov (.t 31)),
    .grp 32 false [s1 33 (.faddr 0 (.t 6))],
    i1 24 (.load 1 true (.t 4)),
    i1 27 (.load 1 false (.t 26)),
    i1 29 (.iaddr 4 (.t 27) (.t 28)),
    i1 30 (.load 4 true (.t 29)),
    .grp 32 false [s1 34 (.load 1 false (.t 33)), s1 35 (.bin .eql (.t 34) (.c (.int .i64 4))), s1 36 (.mov (.t 35))],
    .grp 36 true [s1 37 (.mov (.t 10)), s1 38 (.bin .eql (.t 37) (.c (.int .i64 1)))],
    .grp 32 false [s1 39 (.pick (.t 36) (.t 38) (.c (.bool false)))],
    i1 40 (.pick (.t 32) (.c (.bool true)) (.t 39)),
    i1 41 (.call (.f 99) [.t 24, .t 25, .t 30, .t 40]),
    i1 42 (.app 155 3 24 (.t 23) (.t 41)),
    i1 9 (.mov (.t 42))] [1, 3, 4, 6, 9, 10] [])) (.reg [i1 21 (.mov (.t 10)),
    i1 22 (.bin .add (.t 21) (.c (.int .i64 1))),
    i1 10 (.mov (.t 22))] [1, 3, 4, 6, 9, 10] [])))))) (.seq (.seq (.reg [i1 43 (.faddr 3 (.t 6)),
    i1 44 (.load 1 false (.t 43)),
    i1 45 (.len 1 (.t 44)),
    i1 46 (.bin .gtr (.t 45) (.c (.int .i64 0)))] [1, 3, 4, 6, 9, 46] []) (.cond (.t 46) (.seq (.reg [i1 47 (.mov (.t 9)),
    i1 8 (.mov (.t 47))] [8] []) (.ret)) (.skip))) (.seq (.reg [i1 48 (.load 1 true (.t 4)),
    i1 49 (.mov (.t 1)),
    i1 50 (.faddr 1 (.t 6)),
    i1 51 (.load 1 false (.t 50)),
    i1 52 (.call (.f 39) [.t 48, .t 49, .t 51]),
    i1 11 (.mov (.t 52))] [1, 3, 4, 6, 9, 11] []) (.seq (.reg [i1 53 (.mov (.t 9)),
    i1 54 (.mov (.t 1)),
    i1 55 (.mov (.t 11)),
    i1 56 (.mov (.t 3)),
    i1 57 (.build [.int .i64 0, .int .i64 0, .bool false] [(0, 1, .t 54), (1, 1, .t 55), (2, 1, .t 56)]),
    i1 58 (.bslicr 155 3 [.t 57]),
    i1 59 (.app 155 3 24 (.t 53) (.t 58)),
    i1 9 (.mov (.t 59))] [1, 3, 4, 6, 9, 11] []) (.seq (.reg [i1 60 (.faddr 0 (.t 4)),
    i1 61 (.load 1 false (.t 60)),
    i1 62 (.mov (.t 1)),
    i1 63 (.iaddr 2 (.t 61) (.t 62)),
    i1 64 (.faddr 1 (.t 63)),
    i1 65 (.load 1 false (.t 64)),
    i1 66 (.mov (.t 11)),
    i1 67 (.iaddr 6 (.t 65) (.t 66)),
    i1 68 (.faddr 1 (.t 67)),
    i1 69 (.load 1 false (.t 68)),
    i1 12 (.mov (.t 69))] [3, 4, 6, 9, 12] []) (.seq (.seq (.reg [i1 13 (.mov (.c (.int .i64 0)))] [3, 4, 6, 9, 12, 13] []) (.block 2 (.loop [3, 4, 6, 9, 12, 13] (.seq (.seq (.reg [i1 70 (.mov (.t 13)),
    i1 71 (.mov (.t 12)),
    i1 72 (.len 1 (.t 71)),
    i1 73 (.bin .lss (.t 70) (.t 72)),
    i1 74 (.mov (.t 73)),
    .grp 74 true [s1 75 (.faddr 0 (.t 6)), s1 76 (.load 1 false (.t 75)), s1 77 (.bin .eql (.t 76) (.c (.int .i64 1)))],
    i1 78 (.pick (.t 74) (.t 77) (.c (.bool false)))] [3, 4, 6, 9, 12, 13, 78] []) (.cond (.t 78) (.skip) (.exit 2))) (.seq (.block 3 (.seq (.regl [1, 2, 3, 4, 0, 5, 6, 7] [i1 82 (.mov (.t 12)),
    i1 83 (.mov (.t 13)),
    i1 84 (.iaddr 2 (.t 82) (.t 83)),
    i1 85 (.faddr 0 (.t 84)),
    i1 81 (.load 1 true (.t 4)),
    i1 86 (.load 1 false (.t 85)),
    i1 87 (.call (.f 38) [.t 81, .t 86]),
    i1 14 (.mov (.t 87))] [3, 4, 6, 9, 12, 13, 14] []) (.seq (.reg [i1 88 (.load 1 true (.t 4)),
    i1 89 (.mov (.t 14)),
    i1 90 (.faddr 2 (.t 6)),
    i1 91 (.load 1 false (.t 90)),
    i1 92 (.call (.f 39) [.t 88, .t 89, .t 91]),
    i1 15 (.mov (.t 92))] [3, 4, 6, 9, 12, 13, 14, 15] []) (.seq (.reg [i1 93 (.mov (.t 12)),
    i1 94 (.mov (.t 13)),
    i1 95 (.iaddr 2 (.t 93) (.t 94)),
    i1 96 (.faddr 1 (.t 95)),
    i1 97 (.load 1 false (.t 96)),
    i1 98 (.bin .eql (.t 97) (.c (.str ⟨#[]⟩))),
    i1 99 (.mov (.t 98)),
    .grp 99 true [s1 100 (.mov (.t 15)), s1 101 (.bin .geq (.t 100) (.c (.int .i64 0)))],
    i1 102 (.pick (.t 99) (.t 101) (.c (.bool false)))] [3, 4, 6, 9, 12, 13, 14, 15, 102] []) (.cond (.t 102) (.reg [i1 103 (.mov (.t 9)),
    i1 104 (.mov (.t 14)),
    i1 105 (.mov (.t 15)),
    i1 106 (.mov (.t 3)),
    i1 107 (.build [.int .i64 0, .int .i64 0, .bool false] [(0, 1, .t 104), (1, 1, .t 105), (2, 1, .t 106)]),
    i1 108 (.bslicr 155 3 [.t 107]),
    i1 109 (.app 155 3 24 (.t 103) (.t 108)),
    i1 9 (.mov (.t 109))] [3, 4, 6, 9, 12, 13] []) (.skip)))))) (.reg [i1 79 (.mov (.t 13)),
    i1 80 (.bin .add (.t 79) (.c (.int .i64 1))),
    i1 13 (.mov (.t 80))] [3, 4, 6, 9, 12, 13] [])))))) (.seq (.reg [i1 110 (.mov (.t 9)),
    i1 8 (.mov (.t 110))] [8] []) (.ret)))))))))
abbrev nr_ref12_leans : Nat := 99
def C_ref12_leans_8 (QF : AEnd → Store → Prop) (r0 : LE → Store → Prop) (v1 v3 v4 v6 v10 v23 v24 v25 v30 v40 : AV) (S : Store) : Prop :=
  caW PG S (.func (.func 99) [] []) [v24, v25, v30, v40] (fun v41 S =>
  apW S 155 3 24 v23 v41 fun v42 S =>
  biW .add v10 (.int .i64 1) fun v22 =>
  rcW r0 [(1, v1), (3, v3), (4, v4), (6, v6), (9, v42), (10, v22)] S) (pqW QF)
def C_ref12_leans_7 (QF : AEnd → Store → Prop) (r0 : LE → Store → Prop) (v1 v3 v4 v6 v10 v23 v24 v25 v30 v32 v36 v38 : AV) (S : Store) : Prop :=
  grW v32 false (pkW v36 v38 (.bool false) fun v39 =>
  pkW v32 (.bool true) v39 fun v40 =>
  C_ref12_leans_8 QF r0 v1 v3 v4 v6 v10 v23 v24 v25 v30 v40 S)
  (pkW v32 (.bool true) undefA fun v40 =>
  C_ref12_leans_8 QF r0 v1 v3 v4 v6 v10 v23 v24 v25 v30 v40 S)
def C_ref12_leans_6 (QF : AEnd → Store → Prop) (r0 : LE → Store → Prop) (v1 v3 v4 v6 v10 v23 v24 v25 v30 v32 v36 : AV) (S : Store) : Prop :=
  grW v36 true (biW .eql v10 (.int .i64 1) fun v38 =>
  C_ref12_leans_7 QF r0 v1 v3 v4 v6 v10 v23 v24 v25 v30 v32 v36 v38 S)
  (C_ref12_leans_7 QF r0 v1 v3 v4 v6 v10 v23 v24 v25 v30 v32 v36 undefA S)
def C_ref12_leans_5 (QF : AEnd → Store → Prop) (r0 : LE → Store → Prop) (v1 v3 v4 v6 v10 v23 v25 v26 v28 v32 v33 : AV) (S : Store) : Prop :=
  ldW S 1 true v4 fun v24 =>
  ldW S 1 false v26 fun v27 =>
  iaW 4 v27 v28 fun v29 =>
  ldW S 4 true v29 fun v30 =>
  grW v32 false (ldW S 1 false v33 fun v34 =>
  biW .eql v34 (.int .i64 4) fun v35 =>
  C_ref12_leans_6 QF r0 v1 v3 v4 v6 v10 v23 v24 v25 v30 v32 v35 S)
  (C_ref12_leans_6 QF r0 v1 v3 v4 v6 v10 v23 v24 v25 v30 v32 undefA S)
def C_ref12_leans_4 (QF : AEnd → Store → Prop) (r0 : LE → Store → Prop) (v3 v4 v6 v9 v12 v13 v14 v15 v102 : AV) (S : Store) : Prop :=
  cnW v102 (bdW [.int .i64 0, .int .i64 0, .bool false] [(0, 1, v14), (1, 1, v15), (2, 1, v3)] fun v107 =>
  srW 3 [v107] fun v108 =>
  apW S 155 3 24 v9 v108 fun v109 S =>
  biW .add v13 (.int .i64 1) fun v80 =>
  rcW r0 [(3, v3), (4, v4), (6, v6), (9, v109), (12, v12), (13, v80)] S)
  (biW .add v13 (.int .i64 1) fun v80 =>
  rcW r0 [(3, v3), (4, v4), (6, v6), (9, v9), (12, v12), (13, v80)] S)
def C_ref12_leans_3 (QF : AEnd → Store → Prop) (r0 : LE → Store → Prop) (v3 v4 v6 v9 v12 v13 v78 : AV) (S : Store) : Prop :=
  cnW v78 (iaW 2 v12 v13 fun v84 =>
  faW 0 v84 fun v85 =>
  ldW S 1 true v4 fun v81 =>
  ldW S 1 false v85 fun v86 =>
  caW PG S (.func (.func 38) [] []) [v81, v86] (fun v87 S =>
  ldW S 1 true v4 fun v88 =>
  faW 2 v6 fun v90 =>
  ldW S 1 false v90 fun v91 =>
  caW PG S (.func (.func 39) [] []) [v88, v87, v91] (fun v92 S =>
  iaW 2 v12 v13 fun v95 =>
  faW 1 v95 fun v96 =>
  ldW S 1 false v96 fun v97 =>
  biW .eql v97 (.str ⟨#[]⟩) fun v98 =>
  grW v98 true (biW .geq v92 (.int .i64 0) fun v101 =>
  pkW v98 v101 (.bool false) fun v102 =>
  C_ref12_leans_4 QF r0 v3 v4 v6 v9 v12 v13 v87 v92 v102 S)
  (pkW v98 undefA (.bool false) fun v102 =>
  C_ref12_leans_4 QF r0 v3 v4 v6 v9 v12 v13 v87 v92 v102 S)) (pqW QF)) (pqW QF))
  (rtW [.tmp v9] QF S)
def C_ref12_leans_2 (QF : AEnd → Store → Prop) (r0 : LE → Store → Prop) (v3 v4 v6 v9 v12 v13 : AV) (S : Store) : Prop :=
  lnW S 1 v12 fun v72 =>
  biW .lss v13 v72 fun v73 =>
  grW v73 true (faW 0 v6 fun v75 =>
  ldW S 1 false v75 fun v76 =>
  biW .eql v76 (.int .i64 1) fun v77 =>
  pkW v73 v77 (.bool false) fun v78 =>
  C_ref12_leans_3 QF r0 v3 v4 v6 v9 v12 v13 v78 S)
  (pkW v73 undefA (.bool false) fun v78 =>
  C_ref12_leans_3 QF r0 v3 v4 v6 v9 v12 v13 v78 S)
def C_ref12_leans_1 (QF : AEnd → Store → Prop) (r0 : LE → Store → Prop) (v1 v3 v4 v6 v9 v10 : AV) (S : Store) : Prop :=
  faW 3 v6 fun v17 =>
  ldW S 1 false v17 fun v18 =>
  lnW S 1 v18 fun v19 =>
  biW .lss v10 v19 fun v20 =>
  cnW v20 (faW 3 v6 fun v26 =>
  grW v3 false (faW 0 v6 fun v33 =>
  C_ref12_leans_5 QF r0 v1 v3 v4 v6 v10 v9 v1 v26 v10 v3 v33 S)
  (C_ref12_leans_5 QF r0 v1 v3 v4 v6 v10 v9 v1 v26 v10 v3 undefA S))
  (faW 3 v6 fun v43 =>
  ldW S 1 false v43 fun v44 =>
  lnW S 1 v44 fun v45 =>
  biW .gtr v45 (.int .i64 0) fun v46 =>
  cnW v46 (rtW [.tmp v9] QF S)
  (ldW S 1 true v4 fun v48 =>
  faW 1 v6 fun v50 =>
  ldW S 1 false v50 fun v51 =>
  caW PG S (.func (.func 39) [] []) [v48, v1, v51] (fun v52 S =>
  bdW [.int .i64 0, .int .i64 0, .bool false] [(0, 1, v1), (1, 1, v52), (2, 1, v3)] fun v57 =>
  srW 3 [v57] fun v58 =>
  apW S 155 3 24 v9 v58 fun v59 S =>
  faW 0 v4 fun v60 =>
  ldW S 1 false v60 fun v61 =>
  iaW 2 v61 v1 fun v63 =>
  faW 1 v63 fun v64 =>
  ldW S 1 false v64 fun v65 =>
  iaW 6 v65 v52 fun v67 =>
  faW 1 v67 fun v68 =>
  ldW S 1 false v68 fun v69 =>
  LoopP (fun r0 l S => C_ref12_leans_2 QF r0 (lget l 3) (lget l 4) (lget l 6) (lget l 9) (lget l 12) (lget l 13) S) [(3, v3), (4, v4), (6, v6), (9, v59), (12, v69), (13, (.int .i64 0))] S) (pqW QF)))
def B_ref12_leans (QF : AEnd → Store → Prop) (v0 v1 v2 v3 : AV) (S : Store) : Prop :=
  brW 1 v0 fun v4 =>
  brW 4 v2 fun v6 =>
  LoopP (fun r0 l S => C_ref12_leans_1 QF r0 (lget l 1) (lget l 3) (lget l 4) (lget l 6) (lget l 9) (lget l 10) S) [(1, v1), (3, v3), (4, v4), (6, v6), (9, (.nils)), (10, (.int .i64 0))] S
theorem w_ref12_leans {QF : AEnd → Store → Prop} {v0 v1 v2 v3 : AV} {S : Store} (h : B_ref12_leans QF v0 v1 v2 v3 S) : ACalls PG nr_ref12_leans [v0, v1, v2, v3] S QF :=
  acalls_tf (F := tf_ref12_leans) (by kernel_rfl) rfl (by kernel_rfl) h
def tf_names_only : TFunc where
  n := 29
  args := 3
  res := [.tmp 6]
  code := .seq (.reg [i1 6 (.mov (.c (.bool false)))] [0, 1, 2] []) (.seq (.seq (.reg [i1 8 (.mov (.t 0)),
    i1 9 (.len 0 (.t 8)),
    i1 10 (.mov (.c (.int .i64 0)))] [0, 1, 2, 9, 10] []) (.block 0 (.loop [0, 1, 2, 9, 10] (.seq (.reg [i1 11 (.bin .lss (.t 10) (.t 9))] [0, 1, 2, 9, 10, 11] []) (.seq (.cond (.t 11) (.skip) (.exit 0)) (.seq (.block 1 (.seq (.reg [i1 12 (.mov (.t 10)),
    i1 7 (.mov (.t 12))] [0, 1, 2, 7, 9, 10] []) (.seq (.reg [i1 13 (.mov (.t 2)),
    i1 14 (.mov (.t 0)),
    i1 15 (.mov (.t 7)),
    i1 16 (.idxs (.t 14) (.t 15)),
    i1 17 (.call (.t 13) [.t 16]),
    i1 18 (.not (.t 17))] [0, 1, 2, 9, 10, 18] []) (.cond (.t 18) (.seq (.reg [i1 6 (.mov (.c (.bool false)))] [6] []) (.ret)) (.skip))))) (.reg [i1 19 (.bin .add (.t 10) (.c (.int .i64 1))),
    i1 10 (.mov (.t 19))] [0, 1, 2, 9, 10] []))))))) (.seq (.reg [i1 20 (.mov (.t 0)),
    i1 21 (.len 0 (.t 20)),
    i1 22 (.bin .gtr (.t 21) (.c (.int .i64 0))),
    i1 23 (.mov (.t 22)),
    .grp 23 true [s1 24 (.mov (.t 0)), s1 25 (.len 0 (.t 24)), s1 26 (.mov (.t 1)), s1 27 (.bin .leq (.t 25) (.t 26))],
    i1 28 (.pick (.t 23) (.t 27) (.c (.bool false))),
    i1 6 (.mov (.t 28))] [6] []) (.ret)))
abbrev nr_names_only : Nat := 100
def C_names_only_1 (QF : AEnd → Store → Prop) (r0 : LE → Store → Prop) (v0 v1 v2 v9 v10 : AV) (S : Store) : Prop :=
  biW .lss v10 v9 fun v11 =>
  cnW v11 (isW v0 v10 fun v16 =>
  caW PG S v2 [v16] (fun v17 S =>
  ntW v17 fun v18 =>
  cnW v18 (rtW [.tmp (.bool false)] QF S)
  (biW .add v10 (.int .i64 1) fun v19 =>
  rcW r0 [(0, v0), (1, v1), (2, v2), (9, v9), (10, v19)] S)) (pqW QF))
  (lnW S 0 v0 fun v21 =>
  biW .gtr v21 (.int .i64 0) fun v22 =>
  grW v22 true (lnW S 0 v0 fun v25 =>
  biW .leq v25 v1 fun v27 =>
  pkW v22 v27 (.bool false) fun v28 =>
  rtW [.tmp v28] QF S)
  (pkW v22 undefA (.bool false) fun v28 =>
  rtW [.tmp v28] QF S))
def B_names_only (QF : AEnd → Store → Prop) (v0 v1 v2 : AV) (S : Store) : Prop :=
  lnW S 0 v0 fun v9 =>
  LoopP (fun r0 l S => C_names_only_1 QF r0 (lget l 0) (lget l 1) (lget l 2) (lget l 9) (lget l 10) S) [(0, v0), (1, v1), (2, v2), (9, v9), (10, (.int .i64 0))] S
theorem w_names_only {QF : AEnd → Store → Prop} {v0 v1 v2 : AV} {S : Store} (h : B_names_only QF v0 v1 v2 S) : ACalls PG nr_names_only [v0, v1, v2] S QF :=
  acalls_tf (F := tf_names_only) (by kernel_rfl) rfl (by kernel_rfl) h
def tf_names_Name_1 : TFunc where
  n := 13
  args := 1
  res := [.tmp 2]
  code := .seq (.reg [i1 2 (.mov (.c (.bool false)))] [0] []) (.seq (.reg [i1 3 (.mov (.t 0)),
    i1 4 (.call (.f 102) [.t 3]),
    i1 5 (.mov (.t 4)),
    .grp 5 false [s1 6 (.mov (.t 0)), s1 7 (.call (.f 103) [.t 6])],
    i1 8 (.pick (.t 5) (.c (.bool true)) (.t 7)),
    i1 9 (.mov (.t 8)),
    .grp 9 false [s1 10 (.mov (.t 0)), s1 11 (.bin .eql (.t 10) (.c (.int .u8 95)))],
    i1 12 (.pick (.t 9) (.c (.bool true)) (.t 11)),
    i1 2 (.mov (.t 12))] [2] []) (.ret))
abbrev nr_names_Name_1 : Nat := 101
def C_names_Name_1_1 (QF : AEnd → Store → Prop) (v0 v8 : AV) (S : Store) : Prop :=
  grW v8 false (biW .eql v0 (.int .u8 95) fun v11 =>
  pkW v8 (.bool true) v11 fun v12 =>
  rtW [.tmp v12] QF S)
  (pkW v8 (.bool true) undefA fun v12 =>
  rtW [.tmp v12] QF S)
def B_names_Name_1 (QF : AEnd → Store → Prop) (v0 : AV) (S : Store) : Prop :=
  caW PG S (.func (.func 102) [] []) [v0] (fun v4 S =>
  grW v4 false (caW PG S (.func (.func 103) [] []) [v0] (fun v7 S =>
  pkW v4 (.bool true) v7 fun v8 =>
  C_names_Name_1_1 QF v0 v8 S) (pqW QF))
  (pkW v4 (.bool true) undefA fun v8 =>
  C_names_Name_1_1 QF v0 v8 S)) (pqW QF)
theorem w_names_Name_1 {QF : AEnd → Store → Prop} {v0 : AV} {S : Store} (h : B_names_Name_1 QF v0 S) : ACalls PG nr_names_Name_1 [v0] S QF :=
  acalls_tf (F := tf_names_Name_1) (by kernel_rfl) rfl (by kernel_rfl) h
def tf_names_small : TFunc where
  n := 9
  args := 1
  res := [.tmp 2]
  code := .seq (.reg [i1 2 (.mov (.c (.bool false)))] [0] []) (.seq (.reg [i1 3 (.mov (.t 0)),
    i1 4 (.bin .geq (.t 3) (.c (.int .u8 97))),
    i1 5 (.mov (.t 4)),
    .grp 5 true [s1 6 (.mov (.t 0)), s1 7 (.bin .leq (.t 6) (.c (.int .u8 122)))],
    i1 8 (.pick (.t 5) (.t 7) (.c (.bool false))),
    i1 2 (.mov (.t 8))] [2] []) (.ret))
abbrev nr_names_small : Nat := 102
def B_names_small (QF : AEnd → Store → Prop) (v0 : AV) (S : Store) : Prop :=
  biW .geq v0 (.int .u8 97) fun v4 =>
  grW v4 true (biW .leq v0 (.int .u8 122) fun v7 =>
  pkW v4 v7 (.bool false) fun v8 =>
  rtW [.tmp v8] QF S)
  (pkW v4 undefA (.bool false) fun v8 =>
  rtW [.tmp v8] QF S)
theorem w_names_small {QF : AEnd → Store → Prop} {v0 : AV} {S : Store} (h : B_names_small QF v0 S) : ACalls PG nr_names_small [v0] S QF :=
  acalls_tf (F := tf_names_small) (by kernel_rfl) rfl (by kernel_rfl) h
def tf_names_digit : TFunc where
  n := 9
  args := 1
  res := [.tmp 2]
  code := .seq (.reg [i1 2 (.mov (.c (.bool false)))] [0] []) (.seq (.reg [i1 3 (.mov (.t 0)),
    i1 4 (.bin .geq (.t 3) (.c (.int .u8 48))),
    i1 5 (.mov (.t 4)),
    .grp 5 true [s1 6 (.mov (.t 0)), s1 7 (.bin .leq (.t 6) (.c (.int .u8 57)))],
    i1 8 (.pick (.t 5) (.t 7) (.c (.bool false))),
    i1 2 (.mov (.t 8))] [2] []) (.ret))
abbrev nr_names_digit : Nat := 103
def B_names_digit (QF : AEnd → Store → Prop) (v0 : AV) (S : Store) : Prop :=
  biW .geq v0 (.int .u8 48) fun v4 =>
  grW v4 true (biW .leq v0 (.int .u8 57) fun v7 =>
  pkW v4 v7 (.bool false) fun v8 =>
  rtW [.tmp v8] QF S)
  (pkW v4 undefA (.bool false) fun v8 =>
  rtW [.tmp v8] QF S)
theorem w_names_digit {QF : AEnd → Store → Prop} {v0 : AV} {S : Store} (h : B_names_digit QF v0 S) : ACalls PG nr_names_digit [v0] S QF :=
  acalls_tf (F := tf_names_digit) (by kernel_rfl) rfl (by kernel_rfl) h
def tf_slices_IndexFunc_Rel : TFunc where
  n := 19
  args := 2
  res := [.tmp 4]
  code := .seq (.reg [i1 4 (.mov (.c (.int .i64 0)))] [0, 1] []) (.seq (.seq (.reg [i1 6 (.mov (.t 0)),
    i1 7 (.len 1 (.t 6)),
    i1 8 (.mov (.c (.int .i64 0)))] [0, 1, 7, 8] []) (.block 0 (.loop [0, 1, 7, 8] (.seq (.reg [i1 9 (.bin .lss (.t 8) (.t 7))] [0, 1, 7, 8, 9] []) (.seq (.cond (.t 9) (.skip) (.exit 0)) (.seq (.block 1 (.seq (.reg [i1 10 (.mov (.t 8)),
    i1 5 (.mov (.t 10))] [0, 1, 5, 7, 8] []) (.seq (.reg [i1 11 (.mov (.t 1)),
    i1 12 (.mov (.t 0)),
    i1 13 (.mov (.t 5)),
    i1 14 (.iaddr 6 (.t 12) (.t 13)),
    i1 15 (.load 6 true (.t 14)),
    i1 16 (.call (.t 11) [.t 15])] [0, 1, 5, 7, 8, 16] []) (.cond (.t 16) (.seq (.reg [i1 17 (.mov (.t 5)),
    i1 4 (.mov (.t 17))] [4] []) (.ret)) (.skip))))) (.reg [i1 18 (.bin .add (.t 8) (.c (.int .i64 1))),
    i1 8 (.mov (.t 18))] [0, 1, 7, 8] []))))))) (.seq (.reg [i1 4 (.mov (.c (.int .i64 (-1))))] [4] []) (.ret)))
abbrev nr_slices_IndexFunc_Rel : Nat := 104
def C_slices_IndexFunc_Rel_1 (QF : AEnd → Store → Prop) (r0 : LE → Store → Prop) (v0 v1 v7 v8 : AV) (S : Store) : Prop :=
  biW .lss v8 v7 fun v9 =>
  cnW v9 (iaW 6 v0 v8 fun v14 =>
  ldW S 6 true v14 fun v15 =>
  caW PG S v1 [v15] (fun v16 S =>
  cnW v16 (rtW [.tmp v8] QF S)
  (biW .add v8 (.int .i64 1) fun v18 =>
  rcW r0 [(0, v0), (1, v1), (7, v7), (8, v18)] S)) (pqW QF))
  (rtW [.tmp (.int .i64 (-1))] QF S)
def B_slices_IndexFunc_Rel (QF : AEnd → Store → Prop) (v0 v1 : AV) (S : Store) : Prop :=
  lnW S 1 v0 fun v7 =>
  LoopP (fun r0 l S => C_slices_IndexFunc_Rel_1 QF r0 (lget l 0) (lget l 1) (lget l 7) (lget l 8) S) [(0, v0), (1, v1), (7, v7), (8, (.int .i64 0))] S
theorem w_slices_IndexFunc_Rel {QF : AEnd → Store → Prop} {v0 v1 : AV} {S : Store} (h : B_slices_IndexFunc_Rel QF v0 v1 S) : ACalls PG nr_slices_IndexFunc_Rel [v0, v1] S QF :=
  acalls_tf (F := tf_slices_IndexFunc_Rel) (by kernel_rfl) rfl (by kernel_rfl) h
def tf_lang_may : TFunc where
  n := 67
  args := 2
  res := [.tmp 4]
  code := .seq (.reg [i1 2 (.boxr 41 4 (.t 0)),
    i1 4 (.mov (.c (.bool false)))] [1, 2] []) (.seq (.block 0 (.seq (.reg [i1 6 (.mov (.t 1)),
    i1 7 (.bin .eql (.t 6) (.c (.int .i64 0))),
    i1 5 (.mov (.t 7))] [1, 2, 5] []) (.cond (.t 5) (.seq (.reg [i1 4 (.mov (.c (.bool false)))] [4] []) (.ret)) (.seq (.reg [i1 9 (.faddr 0 (.t 2)),
    i1 10 (.load 1 false (.t 9)),
    i1 11 (.bin .eql (.t 10) (.c (.int .i64 0))),
    i1 8 (.mov (.t 11))] [1, 2, 8] []) (.cond (.t 8) (.seq (.reg [i1 12 (.faddr 1 (.t 2)),
    i1 13 (.load 1 false (.t 12)),
    i1 14 (.call (.f 75) [.t 13]),
    i1 15 (.mov (.t 14)),
    .grp 15 true [s1 16 (.faddr 3 (.t 2)), s1 17 (.load 1 false (.t 16)), s1 18 (.len 1 (.t 17)), s1 19 (.bin .eql (.t 18) (.c (.int .i64 0)))],
    i1 20 (.pick (.t 15) (.t 19) (.c (.bool false))),
    i1 4 (.mov (.t 20))] [4] []) (.ret)) (.seq (.reg [i1 22 (.faddr 0 (.t 2)),
    i1 23 (.load 1 false (.t 22)),
    i1 24 (.bin .eql (.t 23) (.c (.int .i64 1))),
    i1 21 (.mov (.t 24))] [1, 2, 21] []) (.cond (.t 21) (.seq (.reg [i1 25 (.faddr 1 (.t 2)),
    i1 26 (.load 1 false (.t 25)),
    i1 27 (.call (.f 75) [.t 26]),
    i1 28 (.mov (.t 27)),
    .grp 28 true [s1 29 (.faddr 2 (.t 2)), s1 30 (.load 1 false (.t 29)), s1 31 (.call (.f 75) [.t 30])],
    i1 32 (.pick (.t 28) (.t 31) (.c (.bool false))),
    i1 33 (.mov (.t 32)),
    .grp 33 true [s1 34 (.faddr 3 (.t 2)), s1 35 (.load 1 false (.t 34)), s1 36 (.len 1 (.t 35)), s1 37 (.bin .eql (.t 36) (.c (.int .i64 0)))],
    i1 38 (.pick (.t 33) (.t 37) (.c (.bool false))),
    i1 4 (.mov (.t 38))] [4] []) (.ret)) (.skip)))))))) (.seq (.reg [i1 39 (.faddr 0 (.t 2)),
    i1 40 (.load 1 false (.t 39)),
    i1 41 (.call (.f 116) [.t 40]),
    i1 42 (.bin .neq (.t 41) (.c (.str ⟨#[]⟩))),
    i1 43 (.mov (.t 42)),
    .grp 43 true [s1 44 (.faddr 3 (.t 2)), s1 45 (.load 1 false (.t 44)), s1 46 (.len 1 (.t 45)), s1 47 (.bin .eql (.t 46) (.c (.int .i64 2)))],
    i1 48 (.pick (.t 43) (.t 47) (.c (.bool false))),
    i1 49 (.mov (.t 48)),
    .grp 49 true [s1 50 (.faddr 3 (.t 2)), s1 51 (.load 1 false (.t 50)), s1 52 (.iaddr 4 (.t 51) (.c (.int .i64 0))), s1 53 (.load 4 true (.t 52)), s1 54 (.mov (.t 1)), s1 55 (.bin .sub (.t 54) (.c (.int .i64 1))), s1 56 (.call (.f 105) [.t 53, .t 55])],
    i1 57 (.pick (.t 49) (.t 56) (.c (.bool false))),
    i1 58 (.mov (.t 57)),
    .grp 58 true [s1 59 (.faddr 3 (.t 2)), s1 60 (.load 1 false (.t 59)), s1 61 (.iaddr 4 (.t 60) (.c (.int .i64 1))), s1 62 (.load 4 true (.t 61)), s1 63 (.mov (.t 1)), s1 64 (.bin .sub (.t 63) (.c (.int .i64 1))), s1 65 (.call (.f 105) [.t 62, .t 64])],
    i1 66 (.pick (.t 58) (.t 65) (.c (.bool false))),
    i1 4 (.mov (.t 66))] [4] []) (.ret)))
abbrev nr_lang_may : Nat := 105
def C_lang_may_3 (QF : AEnd → Store → Prop) (v2 v32 : AV) (S : Store) : Prop :=
  grW v32 true (faW 3 v2 fun v34 =>
  ldW S 1 false v34 fun v35 =>
  lnW S 1 v35 fun v36 =>
  biW .eql v36 (.int .i64 0) fun v37 =>
  pkW v32 v37 (.bool false) fun v38 =>
  rtW [.tmp v38] QF S)
  (pkW v32 undefA (.bool false) fun v38 =>
  rtW [.tmp v38] QF S)
def C_lang_may_2 (QF : AEnd → Store → Prop) (v1 v2 v57 : AV) (S : Store) : Prop :=
  grW v57 true (faW 3 v2 fun v59 =>
  ldW S 1 false v59 fun v60 =>
  iaW 4 v60 (.int .i64 1) fun v61 =>
  ldW S 4 true v61 fun v62 =>
  biW .sub v1 (.int .i64 1) fun v64 =>
  caW PG S (.func (.func 105) [] []) [v62, v64] (fun v65 S =>
  pkW v57 v65 (.bool false) fun v66 =>
  rtW [.tmp v66] QF S) (pqW QF))
  (pkW v57 undefA (.bool false) fun v66 =>
  rtW [.tmp v66] QF S)
def C_lang_may_1 (QF : AEnd → Store → Prop) (v1 v2 v48 : AV) (S : Store) : Prop :=
  grW v48 true (faW 3 v2 fun v50 =>
  ldW S 1 false v50 fun v51 =>
  iaW 4 v51 (.int .i64 0) fun v52 =>
  ldW S 4 true v52 fun v53 =>
  biW .sub v1 (.int .i64 1) fun v55 =>
  caW PG S (.func (.func 105) [] []) [v53, v55] (fun v56 S =>
  pkW v48 v56 (.bool false) fun v57 =>
  C_lang_may_2 QF v1 v2 v57 S) (pqW QF))
  (pkW v48 undefA (.bool false) fun v57 =>
  C_lang_may_2 QF v1 v2 v57 S)
def B_lang_may (QF : AEnd → Store → Prop) (v0 v1 : AV) (S : Store) : Prop :=
  brW 4 v0 fun v2 =>
  biW .eql v1 (.int .i64 0) fun v7 =>
  cnW v7 (rtW [.tmp (.bool false)] QF S)
  (faW 0 v2 fun v9 =>
  ldW S 1 false v9 fun v10 =>
  biW .eql v10 (.int .i64 0) fun v11 =>
  cnW v11 (faW 1 v2 fun v12 =>
  ldW S 1 false v12 fun v13 =>
  caW PG S (.func (.func 75) [] []) [v13] (fun v14 S =>
  grW v14 true (faW 3 v2 fun v16 =>
  ldW S 1 false v16 fun v17 =>
  lnW S 1 v17 fun v18 =>
  biW .eql v18 (.int .i64 0) fun v19 =>
  pkW v14 v19 (.bool false) fun v20 =>
  rtW [.tmp v20] QF S)
  (pkW v14 undefA (.bool false) fun v20 =>
  rtW [.tmp v20] QF S)) (pqW QF))
  (faW 0 v2 fun v22 =>
  ldW S 1 false v22 fun v23 =>
  biW .eql v23 (.int .i64 1) fun v24 =>
  cnW v24 (faW 1 v2 fun v25 =>
  ldW S 1 false v25 fun v26 =>
  caW PG S (.func (.func 75) [] []) [v26] (fun v27 S =>
  grW v27 true (faW 2 v2 fun v29 =>
  ldW S 1 false v29 fun v30 =>
  caW PG S (.func (.func 75) [] []) [v30] (fun v31 S =>
  pkW v27 v31 (.bool false) fun v32 =>
  C_lang_may_3 QF v2 v32 S) (pqW QF))
  (pkW v27 undefA (.bool false) fun v32 =>
  C_lang_may_3 QF v2 v32 S)) (pqW QF))
  (faW 0 v2 fun v39 =>
  ldW S 1 false v39 fun v40 =>
  caW PG S (.func (.func 116) [] []) [v40] (fun v41 S =>
  biW .neq v41 (.str ⟨#[]⟩) fun v42 =>
  grW v42 true (faW 3 v2 fun v44 =>
  ldW S 1 false v44 fun v45 =>
  lnW S 1 v45 fun v46 =>
  biW .eql v46 (.int .i64 2) fun v47 =>
  pkW v42 v47 (.bool false) fun v48 =>
  C_lang_may_1 QF v1 v2 v48 S)
  (pkW v42 undefA (.bool false) fun v48 =>
  C_lang_may_1 QF v1 v2 v48 S)) (pqW QF))))
theorem w_lang_may {QF : AEnd → Store → Prop} {v0 v1 : AV} {S : Store} (h : B_lang_may QF v0 v1 S) : ACalls PG nr_lang_may [v0, v1] S QF :=
  acalls_tf (F := tf_lang_may) (by kernel_rfl) rfl (by kernel_rfl) h
def tf_slices_ContainsFunc_Ref : TFunc where
  n := 9
  args := 2
  res := [.tmp 4]
  code := .seq (.reg [i1 4 (.mov (.c (.bool false)))] [0, 1] []) (.seq (.reg [i1 5 (.mov (.t 0)),
    i1 6 (.mov (.t 1)),
    i1 7 (.call (.f 117) [.t 5, .t 6]),
    i1 8 (.bin .geq (.t 7) (.c (.int .i64 0))),
    i1 4 (.mov (.t 8))] [4] []) (.ret))
abbrev nr_slices_ContainsFunc_Ref : Nat := 106
def B_slices_ContainsFunc_Ref (QF : AEnd → Store → Prop) (v0 v1 : AV) (S : Store) : Prop :=
  caW PG S (.func (.func 117) [] []) [v0, v1] (fun v7 S =>
  biW .geq v7 (.int .i64 0) fun v8 =>
  rtW [.tmp v8] QF S) (pqW QF)
theorem w_slices_ContainsFunc_Ref {QF : AEnd → Store → Prop} {v0 v1 : AV} {S : Store} (h : B_slices_ContainsFunc_Ref QF v0 v1 S) : ACalls PG nr_slices_ContainsFunc_Ref [v0, v1] S QF :=
  acalls_tf (F := tf_slices_ContainsFunc_Ref) (by kernel_rfl) rfl (by kernel_rfl) h
def tf_lang_rel_1 : TFunc where
  n := 6
  args := 1
  res := [.tmp 2]
  code := .seq (.reg [i1 1 (.boxr 53 2 (.t 0)),
    i1 2 (.mov (.c (.bool false)))] [1] []) (.seq (.reg [i1 3 (.load 2 true (.t 1)),
    i1 4 (.call (.f 108) [.t 3]),
    i1 5 (.not (.t 4)),
    i1 2 (.mov (.t 5))] [2] []) (.ret))
abbrev nr_lang_rel_1 : Nat := 107
def B_lang_rel_1 (QF : AEnd → Store → Prop) (v0 : AV) (S : Store) : Prop :=
  brW 2 v0 fun v1 =>
  ldW S 2 true v1 fun v3 =>
  caW PG S (.func (.func 108) [] []) [v3] (fun v4 S =>
  ntW v4 fun v5 =>
  rtW [.tmp v5] QF S) (pqW QF)
theorem w_lang_rel_1 {QF : AEnd → Store → Prop} {v0 : AV} {S : Store} (h : B_lang_rel_1 QF v0 S) : ACalls PG nr_lang_rel_1 [v0] S QF :=
  acalls_tf (F := tf_lang_rel_1) (by kernel_rfl) rfl (by kernel_rfl) h
end Go.HL
