/- A part of a proof. -/
import Derived.Test.YtadmdlpmikoghaaKmHlP
set_option maxRecDepth 100000
set_option linter.unusedVariables false
namespace Go.HL
def tf_lang_ref : TFunc where
  n := 16
  args := 1
  res := [.tmp 2]
  code := .seq (.reg [i1 1 (.boxr 53 2 (.t 0)),
    i1 2 (.mov (.c (.bool false)))] [1] []) (.seq (.reg [i1 3 (.faddr 0 (.t 1)),
    i1 4 (.load 1 false (.t 3)),
    i1 5 (.call (.f 75) [.t 4]),
    i1 6 (.mov (.t 5)),
    .grp 6 true [s1 7 (.faddr 1 (.t 1)), s1 8 (.load 1 false (.t 7)), s1 9 (.bin .eql (.t 8) (.c (.str ⟨#[]⟩))), s1 10 (.mov (.t 9))],
    .grp 10 false [s1 11 (.faddr 1 (.t 1)), s1 12 (.load 1 false (.t 11)), s1 13 (.call (.f 75) [.t 12])],
    .grp 6 true [s1 14 (.pick (.t 10) (.c (.bool true)) (.t 13))],
    i1 15 (.pick (.t 6) (.t 14) (.c (.bool false))),
    i1 2 (.mov (.t 15))] [2] []) (.ret))
abbrev nr_lang_ref : Nat := 108
def C_lang_ref_2 (QF : AEnd → Store → Prop) (v6 v10 v13 : AV) (S : Store) : Prop :=
  grW v6 true (pkW v10 (.bool true) v13 fun v14 =>
  pkW v6 v14 (.bool false) fun v15 =>
  rtW [.tmp v15] QF S)
  (pkW v6 undefA (.bool false) fun v15 =>
  rtW [.tmp v15] QF S)
def C_lang_ref_1 (QF : AEnd → Store → Prop) (v1 v6 v10 : AV) (S : Store) : Prop :=
  grW v10 false (faW 1 v1 fun v11 =>
  ldW S 1 false v11 fun v12 =>
  caW PG S (.func (.func 75) [] []) [v12] (fun v13 S =>
  C_lang_ref_2 QF v6 v10 v13 S) (pqW QF))
  (C_lang_ref_2 QF v6 v10 undefA S)
def B_lang_ref (QF : AEnd → Store → Prop) (v0 : AV) (S : Store) : Prop :=
  brW 2 v0 fun v1 =>
  faW 0 v1 fun v3 =>
  ldW S 1 false v3 fun v4 =>
  caW PG S (.func (.func 75) [] []) [v4] (fun v5 S =>
  grW v5 true (faW 1 v1 fun v7 =>
  ldW S 1 false v7 fun v8 =>
  biW .eql v8 (.str ⟨#[]⟩) fun v9 =>
  C_lang_ref_1 QF v1 v5 v9 S)
  (C_lang_ref_1 QF v1 v5 undefA S)) (pqW QF)
theorem w_lang_ref {QF : AEnd → Store → Prop} {v0 : AV} {S : Store} (h : B_lang_ref QF v0 S) : ACalls PG nr_lang_ref [v0] S QF :=
  acalls_tf (F := tf_lang_ref) (by kernel_rfl) rfl (by kernel_rfl) h
def tf_ref11_MayExpr : TFunc where
  n := 63
  args := 2
  res := [.tmp 4]
  code := .seq (.reg [i1 2 (.boxr 41 4 (.t 0)),
    i1 4 (.mov (.c (.bool false)))] [1, 2] []) (.seq (.seq (.reg [i1 7 (.mov (.t 1)),
    i1 8 (.bin .eql (.t 7) (.c (.int .i64 0))),
    i1 9 (.mov (.t 8)),
    .grp 9 false [s1 10 (.faddr 0 (.t 2)), s1 11 (.load 1 false (.t 10)), s1 12 (.bin .lss (.t 11) (.c (.int .i64 0)))],
    i1 13 (.pick (.t 9) (.c (.bool true)) (.t 12)),
    i1 14 (.mov (.t 13)),
    .grp 14 false [s1 15 (.faddr 0 (.t 2)), s1 16 (.load 1 false (.t 15)), s1 17 (.bin .gtr (.t 16) (.c (.int .i64 4)))],
    i1 18 (.pick (.t 14) (.c (.bool true)) (.t 17))] [1, 2, 18] []) (.cond (.t 18) (.seq (.reg [i1 4 (.mov (.c (.bool false)))] [4] []) (.ret)) (.skip))) (.seq (.seq (.reg [i1 19 (.faddr 0 (.t 2)),
    i1 20 (.load 1 false (.t 19)),
    i1 21 (.bin .leq (.t 20) (.c (.int .i64 1)))] [1, 2, 21] []) (.cond (.t 21) (.seq (.reg [i1 22 (.faddr 1 (.t 2)),
    i1 23 (.load 1 false (.t 22)),
    i1 24 (.call (.f 81) [.t 23]),
    i1 5 (.mov (.t 24))] [2, 5] []) (.seq (.reg [i1 25 (.faddr 2 (.t 2)),
    i1 26 (.load 1 false (.t 25)),
    i1 27 (.call (.f 81) [.t 26]),
    i1 6 (.mov (.t 27))] [2, 5, 6] []) (.seq (.reg [i1 28 (.mov (.t 5)),
    i1 29 (.mov (.t 28)),
    .grp 29 true [s1 30 (.faddr 3 (.t 2)), s1 31 (.load 1 false (.t 30)), s1 32 (.len 1 (.t 31)), s1 33 (.bin .eql (.t 32) (.c (.int .i64 0)))],
    i1 34 (.pick (.t 29) (.t 33) (.c (.bool false))),
    i1 35 (.mov (.t 34)),
    .grp 35 true [s1 36 (.faddr 0 (.t 2)), s1 37 (.load 1 false (.t 36)), s1 38 (.bin .eql (.t 37) (.c (.int .i64 0))), s1 39 (.mov (.t 38))],
    .grp 39 false [s1 40 (.mov (.t 6))],
    .grp 35 true [s1 41 (.pick (.t 39) (.c (.bool true)) (.t 40))],
    i1 42 (.pick (.t 35) (.t 41) (.c (.bool false))),
    i1 4 (.mov (.t 42))] [4] []) (.ret)))) (.skip))) (.seq (.seq (.reg [i1 43 (.faddr 3 (.t 2)),
    i1 44 (.load 1 false (.t 43)),
    i1 45 (.len 1 (.t 44)),
    i1 46 (.bin .neq (.t 45) (.c (.int .i64 2)))] [1, 2, 46] []) (.cond (.t 46) (.seq (.reg [i1 4 (.mov (.c (.bool false)))] [4] []) (.ret)) (.skip))) (.seq (.reg [i1 47 (.faddr 3 (.t 2)),
    i1 48 (.load 1 false (.t 47)),
    i1 49 (.iaddr 4 (.t 48) (.c (.int .i64 0))),
    i1 50 (.load 4 true (.t 49)),
    i1 51 (.mov (.t 1)),
    i1 52 (.bin .sub (.t 51) (.c (.int .i64 1))),
    i1 53 (.call (.f 109) [.t 50, .t 52]),
    i1 54 (.mov (.t 53)),
    .grp 54 true [s1 55 (.faddr 3 (.t 2)), s1 56 (.load 1 false (.t 55)), s1 57 (.iaddr 4 (.t 56) (.c (.int .i64 1))), s1 58 (.load 4 true (.t 57)), s1 59 (.mov (.t 1)), s1 60 (.bin .sub (.t 59) (.c (.int .i64 1))), s1 61 (.call (.f 109) [.t 58, .t 60])],
    i1 62 (.pick (.t 54) (.t 61) (.c (.bool false))),
    i1 4 (.mov (.t 62))] [4] []) (.ret)))))
abbrev nr_ref11_MayExpr : Nat := 109
def C_ref11_MayExpr_5 (QF : AEnd → Store → Prop) (v35 v39 v40 : AV) (S : Store) : Prop :=
  grW v35 true (pkW v39 (.bool true) v40 fun v41 =>
  pkW v35 v41 (.bool false) fun v42 =>
  rtW [.tmp v42] QF S)
  (pkW v35 undefA (.bool false) fun v42 =>
  rtW [.tmp v42] QF S)
def C_ref11_MayExpr_4 (QF : AEnd → Store → Prop) (v6 v35 v39 : AV) (S : Store) : Prop :=
  grW v39 false (C_ref11_MayExpr_5 QF v35 v39 v6 S)
  (C_ref11_MayExpr_5 QF v35 v39 undefA S)
def C_ref11_MayExpr_3 (QF : AEnd → Store → Prop) (v2 v6 v34 : AV) (S : Store) : Prop :=
  grW v34 true (faW 0 v2 fun v36 =>
  ldW S 1 false v36 fun v37 =>
  biW .eql v37 (.int .i64 0) fun v38 =>
  C_ref11_MayExpr_4 QF v6 v34 v38 S)
  (C_ref11_MayExpr_4 QF v6 v34 undefA S)
def C_ref11_MayExpr_2 (QF : AEnd → Store → Prop) (v1 v2 v18 : AV) (S : Store) : Prop :=
  cnW v18 (rtW [.tmp (.bool false)] QF S)
  (faW 0 v2 fun v19 =>
  ldW S 1 false v19 fun v20 =>
  biW .leq v20 (.int .i64 1) fun v21 =>
  cnW v21 (faW 1 v2 fun v22 =>
  ldW S 1 false v22 fun v23 =>
  caW PG S (.func (.func 81) [] []) [v23] (fun v24 S =>
  faW 2 v2 fun v25 =>
  ldW S 1 false v25 fun v26 =>
  caW PG S (.func (.func 81) [] []) [v26] (fun v27 S =>
  grW v24 true (faW 3 v2 fun v30 =>
  ldW S 1 false v30 fun v31 =>
  lnW S 1 v31 fun v32 =>
  biW .eql v32 (.int .i64 0) fun v33 =>
  pkW v24 v33 (.bool false) fun v34 =>
  C_ref11_MayExpr_3 QF v2 v27 v34 S)
  (pkW v24 undefA (.bool false) fun v34 =>
  C_ref11_MayExpr_3 QF v2 v27 v34 S)) (pqW QF)) (pqW QF))
  (faW 3 v2 fun v43 =>
  ldW S 1 false v43 fun v44 =>
  lnW S 1 v44 fun v45 =>
  biW .neq v45 (.int .i64 2) fun v46 =>
  cnW v46 (rtW [.tmp (.bool false)] QF S)
  (faW 3 v2 fun v47 =>
  ldW S 1 false v47 fun v48 =>
  iaW 4 v48 (.int .i64 0) fun v49 =>
  ldW S 4 true v49 fun v50 =>
  biW .sub v1 (.int .i64 1) fun v52 =>
  caW PG S (.func (.func 109) [] []) [v50, v52] (fun v53 S =>
  grW v53 true (faW 3 v2 fun v55 =>
  ldW S 1 false v55 fun v56 =>
  iaW 4 v56 (.int .i64 1) fun v57 =>
  ldW S 4 true v57 fun v58 =>
  biW .sub v1 (.int .i64 1) fun v60 =>
  caW PG S (.func (.func 109) [] []) [v58, v60] (fun v61 S =>
  pkW v53 v61 (.bool false) fun v62 =>
  rtW [.tmp v62] QF S) (pqW QF))
  (pkW v53 undefA (.bool false) fun v62 =>
  rtW [.tmp v62] QF S)) (pqW QF))))
def C_ref11_MayExpr_1 (QF : AEnd → Store → Prop) (v1 v2 v13 : AV) (S : Store) : Prop :=
  grW v13 false (faW 0 v2 fun v15 =>
  ldW S 1 false v15 fun v16 =>
  biW .gtr v16 (.int .i64 4) fun v17 =>
  pkW v13 (.bool true) v17 fun v18 =>
  C_ref11_MayExpr_2 QF v1 v2 v18 S)
  (pkW v13 (.bool true) undefA fun v18 =>
  C_ref11_MayExpr_2 QF v1 v2 v18 S)
def B_ref11_MayExpr (QF : AEnd → Store → Prop) (v0 v1 : AV) (S : Store) : Prop :=
  brW 4 v0 fun v2 =>
  biW .eql v1 (.int .i64 0) fun v8 =>
  grW v8 false (faW 0 v2 fun v10 =>
  ldW S 1 false v10 fun v11 =>
  biW .lss v11 (.int .i64 0) fun v12 =>
  pkW v8 (.bool true) v12 fun v13 =>
  C_ref11_MayExpr_1 QF v1 v2 v13 S)
  (pkW v8 (.bool true) undefA fun v13 =>
  C_ref11_MayExpr_1 QF v1 v2 v13 S)
theorem w_ref11_MayExpr {QF : AEnd → Store → Prop} {v0 v1 : AV} {S : Store} (h : B_ref11_MayExpr QF v0 v1 S) : ACalls PG nr_ref11_MayExpr [v0, v1] S QF :=
  acalls_tf (F := tf_ref11_MayExpr) (by kernel_rfl) rfl (by kernel_rfl) h
def tf_ref11_Reader_term : TFunc where
  n := 37
  args := 1
  res := [.cell 2 4 true]
  code := .seq (.reg [i1 2 (.alloc 41 [.int .i64 0, .str ⟨#[]⟩, .str ⟨#[]⟩, .nils])] [0, 2] []) (.seq (.reg [i1 6 (.mov (.t 0)),
    i1 7 (.call (.f 118) [.t 6]),
    i1 3 (.alloc 41 [.int .i64 0, .str ⟨#[]⟩, .str ⟨#[]⟩, .nils]),
    i0 (.store 4 (.t 3) (.t 7))] [0, 2, 3] []) (.seq (.block 0 (.loop [0, 2, 3] (.seq (.seq (.reg [i1 8 (.mov (.t 0)),
    i1 9 (.nilck (.t 8)),
    i1 10 (.faddr 3 (.t 9)),
    i1 11 (.faddr 2 (.t 10)),
    i1 12 (.load 1 false (.t 11)),
    i1 13 (.bin .eql (.t 12) (.c (.int .i64 0))),
    i1 14 (.mov (.t 13)),
    .grp 14 true [s1 15 (.mov (.t 0)), s1 16 (.call (.f 61) [.t 15]), s1 17 (.field 0 1 false (.t 16)), s1 18 (.bin .eql (.t 17) (.c (.str ⟨#[38]⟩)))],
    i1 19 (.pick (.t 14) (.t 18) (.c (.bool false)))] [0, 2, 3, 19] []) (.cond (.t 19) (.skip) (.exit 0))) (.block 1 (.seq (.reg [i1 20 (.mov (.t 0)),
    i1 21 (.call (.f 61) [.t 20]),
    .box2 4 130 [.str ⟨#[]⟩, .int .i64 0, .int .i64 0] 3 (.t 21)] [0, 2, 3, 4] []) (.seq (.reg [i1 22 (.mov (.t 0)),
    i1 23 (.nilck (.t 22)),
    i1 24 (.faddr 1 (.t 23)),
    i1 25 (.load 1 false (.t 24)),
    i1 26 (.bin .add (.t 25) (.c (.int .i64 1))),
    i1 27 (.nilck (.t 22)),
    i1 28 (.faddr 1 (.t 27)),
    i0 (.store 1 (.t 28) (.t 26))] [0, 2, 3, 4] []) (.seq (.reg [i1 29 (.mov (.t 0)),
    i1 30 (.call (.f 118) [.t 29]),
    .box2 5 41 [.int .i64 0, .str ⟨#[]⟩, .str ⟨#[]⟩, .nils] 4 (.t 30)] [0, 2, 3, 4, 5] []) (.reg [i1 31 (.mov (.t 0)),
    i1 32 (.load 3 true (.t 4)),
    i1 33 (.load 4 true (.t 3)),
    i1 34 (.load 4 true (.t 5)),
    i1 35 (.call (.f 111) [.t 31, .c (.int .i64 3), .t 32, .t 33, .t 34]),
    i0 (.store 4 (.t 3) (.t 35))] [0, 2, 3] [])))))))) (.seq (.reg [i1 36 (.load 4 true (.t 3)),
    i0 (.store 4 (.t 2) (.t 36))] [2] [2]) (.ret))))
abbrev nr_ref11_Reader_term : Nat := 110
def C_ref11_Reader_term_2 (QF : AEnd → Store → Prop) (r0 : LE → Store → Prop) (v0 v2 v3 v19 : AV) (S : Store) : Prop :=
  cnW v19 (caW PG S (.func (.func 61) [] []) [v0] (fun v21 S =>
  bfW 3 v21 fun v4 =>
  nkW v0 fun v23 =>
  faW 1 v23 fun v24 =>
  ldW S 1 false v24 fun v25 =>
  biW .add v25 (.int .i64 1) fun v26 =>
  nkW v0 fun v27 =>
  faW 1 v27 fun v28 =>
  stW S 1 v28 v26 fun S =>
  caW PG S (.func (.func 118) [] []) [v0] (fun v30 S =>
  bfW 4 v30 fun v5 =>
  ldW S 3 true v4 fun v32 =>
  ldW S 4 true v3 fun v33 =>
  ldW S 4 true v5 fun v34 =>
  caW PG S (.func (.func 111) [] []) [v0, (.int .i64 3), v32, v33, v34] (fun v35 S =>
  stW S 4 v3 v35 fun S =>
  rcW r0 [(0, v0), (2, v2), (3, v3)] S) (pqW QF)) (pqW QF)) (pqW QF))
  (ldW S 4 true v3 fun v36 =>
  stW S 4 v2 v36 fun S =>
  fzW S v2 fun v2 S =>
  rtW [.cell v2 4 true] QF S)
def C_ref11_Reader_term_1 (QF : AEnd → Store → Prop) (r0 : LE → Store → Prop) (v0 v2 v3 : AV) (S : Store) : Prop :=
  nkW v0 fun v9 =>
  faW 3 v9 fun v10 =>
  faW 2 v10 fun v11 =>
  ldW S 1 false v11 fun v12 =>
  biW .eql v12 (.int .i64 0) fun v13 =>
  grW v13 true (caW PG S (.func (.func 61) [] []) [v0] (fun v16 S =>
  fdW 0 1 false v16 fun v17 =>
  biW .eql v17 (.str ⟨#[38]⟩) fun v18 =>
  pkW v13 v18 (.bool false) fun v19 =>
  C_ref11_Reader_term_2 QF r0 v0 v2 v3 v19 S) (pqW QF))
  (pkW v13 undefA (.bool false) fun v19 =>
  C_ref11_Reader_term_2 QF r0 v0 v2 v3 v19 S)
def B_ref11_Reader_term (QF : AEnd → Store → Prop) (v0 : AV) (S : Store) : Prop :=
  alW S 41 [.int .i64 0, .str ⟨#[]⟩, .str ⟨#[]⟩, .nils] fun v2 S =>
  caW PG S (.func (.func 118) [] []) [v0] (fun v7 S =>
  alW S 41 [.int .i64 0, .str ⟨#[]⟩, .str ⟨#[]⟩, .nils] fun v3 S =>
  stW S 4 v3 v7 fun S =>
  LoopP (fun r0 l S => C_ref11_Reader_term_1 QF r0 (lget l 0) (lget l 2) (lget l 3) S) [(0, v0), (2, v2), (3, v3)] S) (pqW QF)
theorem w_ref11_Reader_term {QF : AEnd → Store → Prop} {v0 : AV} {S : Store} (h : B_ref11_Reader_term QF v0 S) : ACalls PG nr_ref11_Reader_term [v0] S QF :=
  acalls_tf (F := tf_ref11_Reader_term) (by kernel_rfl) rfl (by kernel_rfl) h
def tf_ref11_Reader_two : TFunc where
  n := 32
  args := 5
  res := [.cell 10 4 true]
  code := .seq (.reg [i1 7 (.boxr 130 3 (.t 2)),
    i1 8 (.boxr 41 4 (.t 3)),
    i1 9 (.boxr 41 4 (.t 4)),
    i1 10 (.alloc 41 [.int .i64 0, .str ⟨#[]⟩, .str ⟨#[]⟩, .nils])] [0, 1, 7, 8, 9, 10] []) (.seq (.reg [i1 12 (.mov (.t 1)),
    i1 13 (.load 4 true (.t 8)),
    i1 14 (.load 4 true (.t 9)),
    i1 15 (.bslicr 41 4 [.t 13, .t 14]),
    i1 16 (.build [.int .i64 0, .str ⟨#[]⟩, .str ⟨#[]⟩, .nils] [(0, 1, .t 12), (3, 1, .t 15)]),
    .box2 11 41 [.int .i64 0, .str ⟨#[]⟩, .str ⟨#[]⟩, .nils] 4 (.t 16)] [0, 7, 10, 11] []) (.seq (.seq (.reg [i1 17 (.mov (.t 0)),
    i1 18 (.nilck (.t 17)),
    i1 19 (.faddr 3 (.t 18)),
    i1 20 (.faddr 2 (.t 19)),
    i1 21 (.load 1 false (.t 20)),
    i1 22 (.bin .eql (.t 21) (.c (.int .i64 0))),
    i1 23 (.mov (.t 22)),
    .grp 23 true [s1 24 (.load 4 true (.t 11)), s1 25 (.call (.f 119) [.t 24]), s1 26 (.bin .gtr (.t 25) (.c (.int .i64 12)))],
    i1 27 (.pick (.t 23) (.t 26) (.c (.bool false)))] [0, 7, 10, 11, 27] []) (.cond (.t 27) (.reg [i1 28 (.mov (.t 0)),
    i1 29 (.load 3 true (.t 7)),
    i1 30 (.call (.f 62) [.t 28, .t 29, .c (.int .i64 9)])] [10, 11] []) (.skip))) (.seq (.reg [i1 31 (.load 4 true (.t 11)),
    i0 (.store 4 (.t 10) (.t 31))] [10] [10]) (.ret))))
abbrev nr_ref11_Reader_two : Nat := 111
def C_ref11_Reader_two_2 (QF : AEnd → Store → Prop) (v10 v11 : AV) (S : Store) : Prop :=
  ldW S 4 true v11 fun v31 =>
  stW S 4 v10 v31 fun S =>
  fzW S v10 fun v10 S =>
  rtW [.cell v10 4 true] QF S
def C_ref11_Reader_two_1 (QF : AEnd → Store → Prop) (v0 v7 v10 v11 v27 : AV) (S : Store) : Prop :=
  cnW v27 (ldW S 3 true v7 fun v29 =>
  caW PG S (.func (.func 62) [] []) [v0, v29, (.int .i64 9)] (fun v30 S =>
  C_ref11_Reader_two_2 QF v10 v11 S) (pqW QF))
  (C_ref11_Reader_two_2 QF v10 v11 S)
def B_ref11_Reader_two (QF : AEnd → Store → Prop) (v0 v1 v2 v3 v4 : AV) (S : Store) : Prop :=
  brW 3 v2 fun v7 =>
  brW 4 v3 fun v8 =>
  brW 4 v4 fun v9 =>
  alW S 41 [.int .i64 0, .str ⟨#[]⟩, .str ⟨#[]⟩, .nils] fun v10 S =>
  ldW S 4 true v8 fun v13 =>
  ldW S 4 true v9 fun v14 =>
  srW 4 [v13, v14] fun v15 =>
  bdW [.int .i64 0, .str ⟨#[]⟩, .str ⟨#[]⟩, .nils] [(0, 1, v1), (3, 1, v15)] fun v16 =>
  bfW 4 v16 fun v11 =>
  nkW v0 fun v18 =>
  faW 3 v18 fun v19 =>
  faW 2 v19 fun v20 =>
  ldW S 1 false v20 fun v21 =>
  biW .eql v21 (.int .i64 0) fun v22 =>
  grW v22 true (ldW S 4 true v11 fun v24 =>
  caW PG S (.func (.func 119) [] []) [v24] (fun v25 S =>
  biW .gtr v25 (.int .i64 12) fun v26 =>
  pkW v22 v26 (.bool false) fun v27 =>
  C_ref11_Reader_two_1 QF v0 v7 v10 v11 v27 S) (pqW QF))
  (pkW v22 undefA (.bool false) fun v27 =>
  C_ref11_Reader_two_1 QF v0 v7 v10 v11 v27 S)
theorem w_ref11_Reader_two {QF : AEnd → Store → Prop} {v0 v1 v2 v3 v4 : AV} {S : Store} (h : B_ref11_Reader_two QF v0 v1 v2 v3 v4 S) : ACalls PG nr_ref11_Reader_two [v0, v1, v2, v3, v4] S QF :=
  acalls_tf (F := tf_ref11_Reader_two) (by kernel_rfl) rfl (by kernel_rfl) h
def tf_lang_sign : TFunc where
  n := 10
  args := 1
  res := [.tmp 2]
  code := .seq (.reg [i1 2 (.mov (.c (.str ⟨#[]⟩)))] [0] []) (.seq (.seq (.reg [i1 3 (.mov (.t 0))] [3] []) (.block 0 (.seq (.reg [i1 5 (.bin .eql (.t 3) (.c (.int .i64 2))),
    i1 4 (.mov (.t 5))] [3, 4] []) (.cond (.t 4) (.seq (.reg [i1 2 (.mov (.c (.str ⟨#[32, 43, 32]⟩)))] [2] []) (.ret)) (.seq (.reg [i1 7 (.bin .eql (.t 3) (.c (.int .i64 3))),
    i1 6 (.mov (.t 7))] [3, 6] []) (.cond (.t 6) (.seq (.reg [i1 2 (.mov (.c (.str ⟨#[32, 38, 32]⟩)))] [2] []) (.ret)) (.seq (.reg [i1 9 (.bin .eql (.t 3) (.c (.int .i64 4))),
    i1 8 (.mov (.t 9))] [8] []) (.cond (.t 8) (.seq (.reg [i1 2 (.mov (.c (.str ⟨#[32, 45, 32]⟩)))] [2] []) (.ret)) (.skip))))))))) (.seq (.reg [i1 2 (.mov (.c (.str ⟨#[]⟩)))] [2] []) (.ret)))
abbrev nr_lang_sign : Nat := 116
def B_lang_sign (QF : AEnd → Store → Prop) (v0 : AV) (S : Store) : Prop :=
  biW .eql v0 (.int .i64 2) fun v5 =>
  cnW v5 (rtW [.tmp (.str ⟨#[32, 43, 32]⟩)] QF S)
  (biW .eql v0 (.int .i64 3) fun v7 =>
  cnW v7 (rtW [.tmp (.str ⟨#[32, 38, 32]⟩)] QF S)
  (biW .eql v0 (.int .i64 4) fun v9 =>
  cnW v9 (rtW [.tmp (.str ⟨#[32, 45, 32]⟩)] QF S)
  (rtW [.tmp (.str ⟨#[]⟩)] QF S)))
theorem w_lang_sign {QF : AEnd → Store → Prop} {v0 : AV} {S : Store} (h : B_lang_sign QF v0 S) : ACalls PG nr_lang_sign [v0] S QF :=
  acalls_tf (F := tf_lang_sign) (by kernel_rfl) rfl (by kernel_rfl) h
def tf_slices_IndexFunc_Ref : TFunc where
  n := 19
  args := 2
  res := [.tmp 4]
  code := .seq (.reg [i1 4 (.mov (.c (.int .i64 0)))] [0, 1] []) (.seq (.seq (.reg [i1 6 (.mov (.t 0)),
    i1 7 (.len 1 (.t 6)),
    i1 8 (.mov (.c (.int .i64 0)))] [0, 1, 7, 8] []) (.block 0 (.loop [0, 1, 7, 8] (.seq (.reg [i1 9 (.bin .lss (.t 8) (.t 7))] [0, 1, 7, 8, 9] []) (.seq (.cond (.t 9) (.skip) (.exit 0)) (.seq (.block 1 (.seq (.reg [i1 10 (.mov (.t 8)),
    i1 5 (.mov (.t 10))] [0, 1, 5, 7, 8] []) (.seq (.reg [i1 11 (.mov (.t 1)),
    i1 12 (.mov (.t 0)),
    i1 13 (.mov (.t 5)),
    i1 14 (.iaddr 2 (.t 12) (.t 13)),
    i1 15 (.load 2 true (.t 14)),
    i1 16 (.call (.t 11) [.t 15])] [0, 1, 5, 7, 8, 16] []) (.cond (.t 16) (.seq (.reg [i1 17 (.mov (.t 5)),
    i1 4 (.mov (.t 17))] [4] []) (.ret)) (.skip))))) (.reg [i1 18 (.bin .add (.t 8) (.c (.int .i64 1))),
    i1 8 (.mov (.t 18))] [0, 1, 7, 8] []))))))) (.seq (.reg [i1 4 (.mov (.c (.int .i64 (-1))))] [4] []) (.ret)))
abbrev nr_slices_IndexFunc_Ref : Nat := 117
def C_slices_IndexFunc_Ref_1 (QF : AEnd → Store → Prop) (r0 : LE → Store → Prop) (v0 v1 v7 v8 : AV) (S : Store) : Prop :=
  biW .lss v8 v7 fun v9 =>
  cnW v9 (iaW 2 v0 v8 fun v14 =>
  ldW S 2 true v14 fun v15 =>
  caW PG S v1 [v15] (fun v16 S =>
  cnW v16 (rtW [.tmp v8] QF S)
  (biW .add v8 (.int .i64 1) fun v18 =>
  rcW r0 [(0, v0), (1, v1), (7, v7), (8, v18)] S)) (pqW QF))
  (rtW [.tmp (.int .i64 (-1))] QF S)
def B_slices_IndexFunc_Ref (QF : AEnd → Store → Prop) (v0 v1 : AV) (S : Store) : Prop :=
  lnW S 1 v0 fun v7 =>
  LoopP (fun r0 l S => C_slices_IndexFunc_Ref_1 QF r0 (lget l 0) (lget l 1) (lget l 7) (lget l 8) S) [(0, v0), (1, v1), (7, v7), (8, (.int .i64 0))] S
theorem w_slices_IndexFunc_Ref {QF : AEnd → Store → Prop} {v0 v1 : AV} {S : Store} (h : B_slices_IndexFunc_Ref QF v0 v1 S) : ACalls PG nr_slices_IndexFunc_Ref [v0, v1] S QF :=
  acalls_tf (F := tf_slices_IndexFunc_Ref) (by kernel_rfl) rfl (by kernel_rfl) h
def tf_ref11_Reader_atom : TFunc where
  n := 50
  args := 1
  res := [.cell 2 4 true]
  code := .seq (.reg [i1 2 (.alloc 41 [.int .i64 0, .str ⟨#[]⟩, .str ⟨#[]⟩, .nils])] [0, 2] []) (.seq (.reg [i1 7 (.mov (.t 0)),
    i1 8 (.call (.f 61) [.t 7]),
    .box2 3 130 [.str ⟨#[]⟩, .int .i64 0, .int .i64 0] 3 (.t 8)] [0, 2, 3] []) (.seq (.seq (.reg [i1 9 (.mov (.t 0)),
    i1 10 (.call (.f 58) [.t 9, .c (.str ⟨#[40]⟩)])] [0, 2, 3, 10] []) (.cond (.t 10) (.seq (.reg [i1 11 (.mov (.t 0)),
    i1 12 (.nilck (.t 11)),
    i1 13 (.faddr 2 (.t 12)),
    i1 14 (.load 1 false (.t 13)),
    i1 15 (.bin .add (.t 14) (.c (.int .i64 1))),
    i1 16 (.nilck (.t 11)),
    i1 17 (.faddr 2 (.t 16)),
    i0 (.store 1 (.t 17) (.t 15))] [0, 2, 3] []) (.seq (.seq (.reg [i1 18 (.mov (.t 0)),
    i1 19 (.nilck (.t 18)),
    i1 20 (.faddr 2 (.t 19)),
    i1 21 (.load 1 false (.t 20)),
    i1 22 (.bin .gtr (.t 21) (.c (.int .i64 12)))] [0, 2, 3, 22] []) (.cond (.t 22) (.seq (.reg [i1 23 (.mov (.t 0)),
    i1 24 (.load 3 true (.t 3)),
    i1 25 (.call (.f 62) [.t 23, .t 24, .c (.int .i64 9)])] [2] []) (.seq (.reg [i1 26 (.build [.int .i64 0, .str ⟨#[]⟩, .str ⟨#[]⟩, .nils] []),
    i0 (.store 4 (.t 2) (.t 26))] [2] []) (.ret))) (.skip))) (.seq (.reg [i1 27 (.mov (.t 0)),
    i1 28 (.call (.f 88) [.t 27]),
    .box2 4 41 [.int .i64 0, .str ⟨#[]⟩, .str ⟨#[]⟩, .nils] 4 (.t 28)] [0, 2, 4] []) (.seq (.reg [i1 29 (.mov (.t 0)),
    i1 30 (.call (.f 86) [.t 29, .c (.str ⟨#[41]⟩)])] [0, 2, 4] []) (.seq (.reg [i1 31 (.mov (.t 0)),
    i1 32 (.nilck (.t 31)),
    i1 33 (.faddr 2 (.t 32)),
    i1 34 (.load 1 false (.t 33)),
    i1 35 (.bin .sub (.t 34) (.c (.int .i64 1))),
    i1 36 (.nilck (.t 31)),
    i1 37 (.faddr 2 (.t 36)),
    i0 (.store 1 (.t 37) (.t 35))] [2, 4] []) (.seq (.reg [i1 38 (.load 4 true (.t 4)),
    i0 (.store 4 (.t 2) (.t 38))] [2] []) (.ret))))))) (.skip))) (.seq (.reg [i1 39 (.mov (.t 0)),
    i1 40 (.call (.f 59) [.t 39]),
    i1 5 (.mov (.t 40))] [0, 2, 5] []) (.seq (.seq (.reg [i1 41 (.mov (.t 0)),
    i1 42 (.call (.f 58) [.t 41, .c (.str ⟨#[46]⟩)])] [0, 2, 5, 42] []) (.cond (.t 42) (.seq (.reg [i1 43 (.mov (.t 0)),
    i1 44 (.call (.f 59) [.t 43]),
    i1 6 (.mov (.t 44))] [2, 5, 6] []) (.seq (.reg [i1 45 (.mov (.t 5)),
    i1 46 (.mov (.t 6)),
    i1 47 (.build [.int .i64 0, .str ⟨#[]⟩, .str ⟨#[]⟩, .nils] [(0, 1, .c (.int .i64 1)), (1, 1, .t 45), (2, 1, .t 46)]),
    i0 (.store 4 (.t 2) (.t 47))] [2] []) (.ret))) (.skip))) (.seq (.reg [i1 48 (.mov (.t 5)),
    i1 49 (.build [.int .i64 0, .str ⟨#[]⟩, .str ⟨#[]⟩, .nils] [(0, 1, .c (.int .i64 0)), (1, 1, .t 48)]),
    i0 (.store 4 (.t 2) (.t 49))] [2] []) (.ret))))))
abbrev nr_ref11_Reader_atom : Nat := 118
def B_ref11_Reader_atom (QF : AEnd → Store → Prop) (v0 : AV) (S : Store) : Prop :=
  alW S 41 [.int .i64 0, .str ⟨#[]⟩, .str ⟨#[]⟩, .nils] fun v2 S =>
  caW PG S (.func (.func 61) [] []) [v0] (fun v8 S =>
  bfW 3 v8 fun v3 =>
  caW PG S (.func (.func 58) [] []) [v0, (.str ⟨#[40]⟩)] (fun v10 S =>
  cnW v10 (nkW v0 fun v12 =>
  faW 2 v12 fun v13 =>
  ldW S 1 false v13 fun v14 =>
  biW .add v14 (.int .i64 1) fun v15 =>
  nkW v0 fun v16 =>
  faW 2 v16 fun v17 =>
  stW S 1 v17 v15 fun S =>
  nkW v0 fun v19 =>
  faW 2 v19 fun v20 =>
  ldW S 1 false v20 fun v21 =>
  biW .gtr v21 (.int .i64 12) fun v22 =>
  cnW v22 (ldW S 3 true v3 fun v24 =>
  caW PG S (.func (.func 62) [] []) [v0, v24, (.int .i64 9)] (fun v25 S =>
  bdW [.int .i64 0, .str ⟨#[]⟩, .str ⟨#[]⟩, .nils] [] fun v26 =>
  stW S 4 v2 v26 fun S =>
  rtW [.cell v2 4 true] QF S) (pqW QF))
  (caW PG S (.func (.func 88) [] []) [v0] (fun v28 S =>
  bfW 4 v28 fun v4 =>
  caW PG S (.func (.func 86) [] []) [v0, (.str ⟨#[41]⟩)] (fun v30 S =>
  nkW v0 fun v32 =>
  faW 2 v32 fun v33 =>
  ldW S 1 false v33 fun v34 =>
  biW .sub v34 (.int .i64 1) fun v35 =>
  nkW v0 fun v36 =>
  faW 2 v36 fun v37 =>
  stW S 1 v37 v35 fun S =>
  ldW S 4 true v4 fun v38 =>
  stW S 4 v2 v38 fun S =>
  rtW [.cell v2 4 true] QF S) (pqW QF)) (pqW QF)))
  (caW PG S (.func (.func 59) [] []) [v0] (fun v40 S =>
  caW PG S (.func (.func 58) [] []) [v0, (.str ⟨#[46]⟩)] (fun v42 S =>
  cnW v42 (caW PG S (.func (.func 59) [] []) [v0] (fun v44 S =>
  bdW [.int .i64 0, .str ⟨#[]⟩, .str ⟨#[]⟩, .nils] [(0, 1, (.int .i64 1)), (1, 1, v40), (2, 1, v44)] fun v47 =>
  stW S 4 v2 v47 fun S =>
  rtW [.cell v2 4 true] QF S) (pqW QF))
  (bdW [.int .i64 0, .str ⟨#[]⟩, .str ⟨#[]⟩, .nils] [(0, 1, (.int .i64 0)), (1, 1, v40)] fun v49 =>
  stW S 4 v2 v49 fun S =>
  rtW [.cell v2 4 true] QF S)) (pqW QF)) (pqW QF))) (pqW QF)) (pqW QF)
theorem w_ref11_Reader_atom {QF : AEnd → Store → Prop} {v0 : AV} {S : Store} (h : B_ref11_Reader_atom QF v0 S) : ACalls PG nr_ref11_Reader_atom [v0] S QF :=
  acalls_tf (F := tf_ref11_Reader_atom) (by kernel_rfl) rfl (by kernel_rfl) h
def tf_ref11_Height : TFunc where
  n := 25
  args := 1
  res := [.tmp 2]
  code := .seq (.reg [i1 1 (.boxr 41 4 (.t 0)),
    i1 2 (.mov (.c (.int .i64 0)))] [1] []) (.seq (.reg [i1 3 (.mov (.c (.int .i64 0)))] [1, 3] []) (.seq (.seq (.reg [i1 4 (.mov (.c (.int .i64 0)))] [1, 3, 4] []) (.block 0 (.loop [1, 3, 4] (.seq (.seq (.reg [i1 6 (.mov (.t 4)),
    i1 7 (.faddr 3 (.t 1)),
    i1 8 (.load 1 false (.t 7)),
    i1 9 (.len 1 (.t 8)),
    i1 10 (.bin .lss (.t 6) (.t 9))] [1, 3, 4, 10] []) (.cond (.t 10) (.skip) (.exit 0))) (.seq (.block 1 (.seq (.reg [i1 13 (.faddr 3 (.t 1)),
    i1 14 (.load 1 false (.t 13)),
    i1 15 (.mov (.t 4)),
    i1 16 (.iaddr 4 (.t 14) (.t 15)),
    i1 17 (.load 4 true (.t 16)),
    i1 18 (.call (.f 119) [.t 17]),
    i1 5 (.mov (.t 18))] [1, 3, 4, 5] []) (.seq (.reg [i1 19 (.mov (.t 5)),
    i1 20 (.mov (.t 3)),
    i1 21 (.bin .gtr (.t 19) (.t 20))] [1, 3, 4, 5, 21] []) (.cond (.t 21) (.reg [i1 22 (.mov (.t 5)),
    i1 3 (.mov (.t 22))] [1, 3, 4] []) (.skip))))) (.reg [i1 11 (.mov (.t 4)),
    i1 12 (.bin .add (.t 11) (.c (.int .i64 1))),
    i1 4 (.mov (.t 12))] [1, 3, 4] [])))))) (.seq (.reg [i1 23 (.mov (.t 3)),
    i1 24 (.bin .add (.t 23) (.c (.int .i64 1))),
    i1 2 (.mov (.t 24))] [2] []) (.ret))))
abbrev nr_ref11_Height : Nat := 119
def C_ref11_Height_1 (QF : AEnd → Store → Prop) (r0 : LE → Store → Prop) (v1 v3 v4 : AV) (S : Store) : Prop :=
  faW 3 v1 fun v7 =>
  ldW S 1 false v7 fun v8 =>
  lnW S 1 v8 fun v9 =>
  biW .lss v4 v9 fun v10 =>
  cnW v10 (faW 3 v1 fun v13 =>
  ldW S 1 false v13 fun v14 =>
  iaW 4 v14 v4 fun v16 =>
  ldW S 4 true v16 fun v17 =>
  caW PG S (.func (.func 119) [] []) [v17] (fun v18 S =>
  biW .gtr v18 v3 fun v21 =>
  cnW v21 (biW .add v4 (.int .i64 1) fun v12 =>
  rcW r0 [(1, v1), (3, v18), (4, v12)] S)
  (biW .add v4 (.int .i64 1) fun v12 =>
  rcW r0 [(1, v1), (3, v3), (4, v12)] S)) (pqW QF))
  (biW .add v3 (.int .i64 1) fun v24 =>
  rtW [.tmp v24] QF S)
def B_ref11_Height (QF : AEnd → Store → Prop) (v0 : AV) (S : Store) : Prop :=
  brW 4 v0 fun v1 =>
  LoopP (fun r0 l S => C_ref11_Height_1 QF r0 (lget l 1) (lget l 3) (lget l 4) S) [(1, v1), (3, (.int .i64 0)), (4, (.int .i64 0))] S
theorem w_ref11_Height {QF : AEnd → Store → Prop} {v0 : AV} {S : Store} (h : B_ref11_Height QF v0 S) : ACalls PG nr_ref11_Height [v0] S QF :=
  acalls_tf (F := tf_ref11_Height) (by kernel_rfl) rfl (by kernel_rfl) h
end Go.HL
