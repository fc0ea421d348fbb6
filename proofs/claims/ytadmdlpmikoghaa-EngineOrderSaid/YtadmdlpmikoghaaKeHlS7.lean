/- A part of a proof. -/
import Derived.Test.YtadmdlpmikoghaaKeHlP
set_option maxRecDepth 100000
set_option linter.unusedVariables false
namespace Go.HL
def tf_lang_ref : TFunc where
  n := 16
  args := 1
  res := [.tmp 2]
  code := .seq (.reg [i1 1 (.boxr 53 2 (.t 0)),
    i1 2 (.mov (.c (.bool false)))] [1] []) (.seq (.reg [i1 3 (.faddr 0 (.t 1)),
    i1 4 (.load 1 false (.t 3)),
    i1 5 (.call (.f 75) [.t 4]),
    i1 6 (.mov (.t 5)),
    .grp 6 true [s1 7 (.faddr 1 (.t 1)), s1 8 (.load 1 false (.t 7)), s1 9 (.bin .eql (.t 8) (.c (.str ⟨#[]⟩))), s1 10 (.mov (.t 9))],
    .grp 10 false [s1 11 (.faddr 1 (.t 1)), s1 12 (.load 1 false (.t 11)), s1 13 (.call (.f 75) [.t 12])],
    .grp 6 true [s1 14 (.pick (.t 10) (.c (.bool true)) (.t 13))],
    i1 15 (.pick (.t 6) (.t 14) (.c (.bool false))),
    i1 2 (.mov (.t 15))] [2] []) (.ret))
abbrev nr_lang_ref : Nat := 108
def C_lang_ref_2 (QF : AEnd → Store → Prop) (v6 v10 v13 : AV) (S : Store) : Prop :=
  grW v6 true (pkW v10 (.bool true) v13 fun v14 =>
  pkW v6 v14 (.bool false) fun v15 =>
  rtW [.tmp v15] QF S)
  (pkW v6 undefA (.bool false) fun v15 =>
  rtW [.tmp v15] QF S)
def C_lang_ref_1 (QF : AEnd → Store → Prop) (v1 v6 v10 : AV) (S : Store) : Prop :=
  grW v10 false (faW 1 v1 fun v11 =>
  ldW S 1 false v11 fun v12 =>
  caW PG S (.func (.func 75) [] []) [v12] (fun v13 S =>
  C_lang_ref_2 QF v6 v10 v13 S) (pqW QF))
  (C_lang_ref_2 QF v6 v10 undefA S)
def B_lang_ref (QF : AEnd → Store → Prop) (v0 : AV) (S : Store) : Prop :=
  brW 2 v0 fun v1 =>
  faW 0 v1 fun v3 =>
  ldW S 1 false v3 fun v4 =>
  caW PG S (.func (.func 75) [] []) [v4] (fun v5 S =>
  grW v5 true (faW 1 v1 fun v7 =>
  ldW S 1 false v7 fun v8 =>
  biW .eql v8 (.str ⟨#[]⟩) fun v9 =>
  C_lang_ref_1 QF v1 v5 v9 S)
  (C_lang_ref_1 QF v1 v5 undefA S)) (pqW QF)
theorem w_lang_ref {QF : AEnd → Store → Prop} {v0 : AV} {S : Store} (h : B_lang_ref QF v0 S) : ACalls PG nr_lang_ref [v0] S QF :=
  acalls_tf (F := tf_lang_ref) (by kernel_rfl) rfl (by kernel_rfl) h
def tf_ref11_Reader_term : TFunc where
  n := 37
  args := 1
  res := [.cell 2 4 true]
  code := .seq (.reg [i1 2 (.alloc 41 [.int .i64 0, .str ⟨#[]⟩, .str ⟨#[]⟩, .nils])] [0, 2] []) (.seq (.reg [i1 6 (.mov (.t 0)),
    i1 7 (.call (.f 118) [.t 6]),
    i1 3 (.alloc 41 [.int .i64 0, .str ⟨#[]⟩, .str ⟨#[]⟩, .nils]),
    i0 (.store 4 (.t 3) (.t 7))] [0, 2, 3] []) (.seq (.block 0 (.loop [0, 2, 3] (.seq (.seq (.reg [i1 8 (.mov (.t 0)),
    i1 9 (.nilck (.t 8)),
    i1 10 (.faddr 3 (.t 9)),
    i1 11 (.faddr 2 (.t 10)),
    i1 12 (.load 1 false (.t 11)),
    i1 13 (.bin .eql (.t 12) (.c (.int .i64 0))),
    i1 14 (.mov (.t 13)),
    .grp 14 true [s1 15 (.mov (.t 0)), s1 16 (.call (.f 61) [.t 15]), s1 17 (.field 0 1 false (.t 16)), s1 18 (.bin .eql (.t 17) (.c (.str ⟨#[38]⟩)))],
    i1 19 (.pick (.t 14) (.t 18) (.c (.bool false)))] [0, 2, 3, 19] []) (.cond (.t 19) (.skip) (.exit 0))) (.block 1 (.seq (.reg [i1 20 (.mov (.t 0)),
    i1 21 (.call (.f 61) [.t 20]),
    .box2 4 130 [.str ⟨#[]⟩, .int .i64 0, .int .i64 0] 3 (.t 21)] [0, 2, 3, 4] []) (.seq (.reg [i1 22 (.mov (.t 0)),
    i1 23 (.nilck (.t 22)),
    i1 24 (.faddr 1 (.t 23)),
    i1 25 (.load 1 false (.t 24)),
    i1 26 (.bin .add (.t 25) (.c (.int .i64 1))),
    i1 27 (.nilck (.t 22)),
    i1 28 (.faddr 1 (.t 27)),
    i0 (.store 1 (.t 28) (.t 26))] [0, 2, 3, 4] []) (.seq (.reg [i1 29 (.mov (.t 0)),
    i1 30 (.call (.f 118) [.t 29]),
    .box2 5 41 [.int .i64 0, .str ⟨#[]⟩, .str ⟨#[]⟩, .nils] 4 (.t 30)] [0, 2, 3, 4, 5] []) (.reg [i1 31 (.mov (.t 0)),
    i1 32 (.load 3 true (.t 4)),
    i1 33 (.load 4 true (.t 3)),
    i1 34 (.load 4 true (.t 5)),
    i1 35 (.call (.f 111) [.t 31, .c (.int .i64 3), .t 32, .t 33, .t 34]),
    i0 (.store 4 (.t 3) (.t 35))] [0, 2, 3] [])))))))) (.seq (.reg [i1 36 (.load 4 true (.t 3)),
    i0 (.store 4 (.t 2) (.t 36))] [2] [2]) (.ret))))
abbrev nr_ref11_Reader_term : Nat := 110
def C_ref11_Reader_term_2 (QF : AEnd → Store → Prop) (r0 : LE → Store → Prop) (v0 v2 v3 v19 : AV) (S : Store) : Prop :=
  cnW v19 (caW PG S (.func (.func 61) [] []) [v0] (fun v21 S =>
  bfW 3 v21 fun v4 =>
  nkW v0 fun v23 =>
  faW 1 v23 fun v24 =>
  ldW S 1 false v24 fun v25 =>
  biW .add v25 (.int .i64 1) fun v26 =>
  nkW v0 fun v27 =>
  faW 1 v27 fun v28 =>
  stW S 1 v28 v26 fun S =>
  caW PG S (.func (.func 118) [] []) [v0] (fun v30 S =>
  bfW 4 v30 fun v5 =>
  ldW S 3 true v4 fun v32 =>
  ldW S 4 true v3 fun v33 =>
  ldW S 4 true v5 fun v34 =>
  caW PG S (.func (.func 111) [] []) [v0, (.int .i64 3), v32, v33, v34] (fun v35 S =>
  stW S 4 v3 v35 fun S =>
  rcW r0 [(0, v0), (2, v2), (3, v3)] S) (pqW QF)) (pqW QF)) (pqW QF))
  (ldW S 4 true v3 fun v36 =>
  stW S 4 v2 v36 fun S =>
  fzW S v2 fun v2 S =>
  rtW [.cell v2 4 true] QF S)
def C_ref11_Reader_term_1 (QF : AEnd → Store → Prop) (r0 : LE → Store → Prop) (v0 v2 v3 : AV) (S : Store) : Prop :=
  nkW v0 fun v9 =>
  faW 3 v9 fun v10 =>
  faW 2 v10 fun v11 =>
  ldW S 1 false v11 fun v12 =>
  biW .eql v12 (.int .i64 0) fun v13 =>
  grW v13 true (caW PG S (.func (.func 61) [] []) [v0] (fun v16 S =>
  fdW 0 1 false v16 fun v17 =>
  biW .eql v17 (.str ⟨#[38]⟩) fun v18 =>
  pkW v13 v18 (.bool false) fun v19 =>
  C_ref11_Reader_term_2 QF r0 v0 v2 v3 v19 S) (pqW QF))
  (pkW v13 undefA (.bool false) fun v19 =>
  C_ref11_Reader_term_2 QF r0 v0 v2 v3 v19 S)
def B_ref11_Reader_term (QF : AEnd → Store → Prop) (v0 : AV) (S : Store) : Prop :=
  alW S 41 [.int .i64 0, .str ⟨#[]⟩, .str ⟨#[]⟩, .nils] fun v2 S =>
  caW PG S (.func (.func 118) [] []) [v0] (fun v7 S =>
  alW S 41 [.int .i64 0, .str ⟨#[]⟩, .str ⟨#[]⟩, .nils] fun v3 S =>
  stW S 4 v3 v7 fun S =>
  LoopP (fun r0 l S => C_ref11_Reader_term_1 QF r0 (lget l 0) (lget l 2) (lget l 3) S) [(0, v0), (2, v2), (3, v3)] S) (pqW QF)
theorem w_ref11_Reader_term {QF : AEnd → Store → Prop} {v0 : AV} {S : Store} (h : B_ref11_Reader_term QF v0 S) : ACalls PG nr_ref11_Reader_term [v0] S QF :=
  acalls_tf (F := tf_ref11_Reader_term) (by kernel_rfl) rfl (by kernel_rfl) h
def tf_ref11_Reader_two : TFunc where
  n := 32
  args := 5
  res := [.cell 10 4 true]
  code := .seq (.reg [i1 7 (.boxr 130 3 (.t 2)),
    i1 8 (.boxr 41 4 (.t 3)),
    i1 9 (.boxr 41 4 (.t 4)),
    i1 10 (.alloc 41 [.int .i64 0, .str ⟨#[]⟩, .str ⟨#[]⟩, .nils])] [0, 1, 7, 8, 9, 10] []) (.seq (.reg [i1 12 (.mov (.t 1)),
    i1 13 (.load 4 true (.t 8)),
    i1 14 (.load 4 true (.t 9)),
    i1 15 (.bslicr 41 4 [.t 13, .t 14]),
    i1 16 (.build [.int .i64 0, .str ⟨#[]⟩, .str ⟨#[]⟩, .nils] [(0, 1, .t 12), (3, 1, .t 15)]),
    .box2 11 41 [.int .i64 0, .str ⟨#[]⟩, .str ⟨#[]⟩, .nils] 4 (.t 16)] [0, 7, 10, 11] []) (.seq (.seq (.reg [i1 17 (.mov (.t 0)),
    i1 18 (.nilck (.t 17)),
    i1 19 (.faddr 3 (.t 18)),
    i1 20 (.faddr 2 (.t 19)),
    i1 21 (.load 1 false (.t 20)),
    i1 22 (.bin .eql (.t 21) (.c (.int .i64 0))),
    i1 23 (.mov (.t 22)),
    .grp 23 true [s1 24 (.load 4 true (.t 11)), s1 25 (.call (.f 119) [.t 24]), s1 26 (.bin .gtr (.t 25) (.c (.int .i64 12)))],
    i1 27 (.pick (.t 23) (.t 26) (.c (.bool false)))] [0, 7, 10, 11, 27] []) (.cond (.t 27) (.reg [i1 28 (.mov (.t 0)),
    i1 29 (.load 3 true (.t 7)),
    i1 30 (.call (.f 62) [.t 28, .t 29, .c (.int .i64 9)])] [10, 11] []) (.skip))) (.seq (.reg [i1 31 (.load 4 true (.t 11)),
    i0 (.store 4 (.t 10) (.t 31))] [10] [10]) (.ret))))
abbrev nr_ref11_Reader_two : Nat := 111
def C_ref11_Reader_two_2 (QF : AEnd → Store → Prop) (v10 v11 : AV) (S : Store) : Prop :=
  ldW S 4 true v11 fun v31 =>
  stW S 4 v10 v31 fun S =>
  fzW S v10 fun v10 S =>
  rtW [.cell v10 4 true] QF S
def C_ref11_Reader_two_1 (QF : AEnd → Store → Prop) (v0 v7 v10 v11 v27 : AV) (S : Store) : Prop :=
  cnW v27 (ldW S 3 true v7 fun v29 =>
  caW PG S (.func (.func 62) [] []) [v0, v29, (.int .i64 9)] (fun v30 S =>
  C_ref11_Reader_two_2 QF v10 v11 S) (pqW QF))
  (C_ref11_Reader_two_2 QF v10 v11 S)
def B_ref11_Reader_two (QF : AEnd → Store → Prop) (v0 v1 v2 v3 v4 : AV) (S : Store) : Prop :=
  brW 3 v2 fun v7 =>
  brW 4 v3 fun v8 =>
  brW 4 v4 fun v9 =>
  alW S 41 [.int .i64 0, .str ⟨#[]⟩, .str ⟨#[]⟩, .nils] fun v10 S =>
  ldW S 4 true v8 fun v13 =>
  ldW S 4 true v9 fun v14 =>
  srW 4 [v13, v14] fun v15 =>
  bdW [.int .i64 0, .str ⟨#[]⟩, .str ⟨#[]⟩, .nils] [(0, 1, v1), (3, 1, v15)] fun v16 =>
  bfW 4 v16 fun v11 =>
  nkW v0 fun v18 =>
  faW 3 v18 fun v19 =>
  faW 2 v19 fun v20 =>
  ldW S 1 false v20 fun v21 =>
  biW .eql v21 (.int .i64 0) fun v22 =>
  grW v22 true (ldW S 4 true v11 fun v24 =>
  caW PG S (.func (.func 119) [] []) [v24] (fun v25 S =>
  biW .gtr v25 (.int .i64 12) fun v26 =>
  pkW v22 v26 (.bool false) fun v27 =>
  C_ref11_Reader_two_1 QF v0 v7 v10 v11 v27 S) (pqW QF))
  (pkW v22 undefA (.bool false) fun v27 =>
  C_ref11_Reader_two_1 QF v0 v7 v10 v11 v27 S)
theorem w_ref11_Reader_two {QF : AEnd → Store → Prop} {v0 v1 v2 v3 v4 : AV} {S : Store} (h : B_ref11_Reader_two QF v0 v1 v2 v3 v4 S) : ACalls PG nr_ref11_Reader_two [v0, v1, v2, v3, v4] S QF :=
  acalls_tf (F := tf_ref11_Reader_two) (by kernel_rfl) rfl (by kernel_rfl) h
def tf_ref10_ID : TFunc where
  n := 62
  args := 1
  res := [.tmp 2]
  code := .seq (.reg [i1 2 (.mov (.c (.bool false)))] [0] []) (.seq (.seq (.reg [i1 7 (.mov (.t 0)),
    i1 8 (.len 0 (.t 7)),
    i1 9 (.bin .eql (.t 8) (.c (.int .i64 0))),
    i1 10 (.mov (.t 9)),
    .grp 10 false [s1 11 (.mov (.t 0)), s1 12 (.len 0 (.t 11)), s1 13 (.bin .gtr (.t 12) (.c (.int .i64 24)))],
    i1 14 (.pick (.t 10) (.c (.bool true)) (.t 13))] [0, 14] []) (.cond (.t 14) (.seq (.reg [i1 2 (.mov (.c (.bool false)))] [2] []) (.ret)) (.skip))) (.seq (.seq (.reg [i1 3 (.mov (.c (.int .i64 0)))] [0, 3] []) (.block 0 (.loop [0, 3] (.seq (.seq (.reg [i1 15 (.mov (.t 3)),
    i1 16 (.mov (.t 0)),
    i1 17 (.len 0 (.t 16)),
    i1 18 (.bin .lss (.t 15) (.t 17))] [0, 3, 18] []) (.cond (.t 18) (.skip) (.exit 0))) (.seq (.block 1 (.seq (.reg [i1 21 (.mov (.t 0)),
    i1 22 (.mov (.t 3)),
    i1 23 (.idxs (.t 21) (.t 22)),
    i1 4 (.mov (.t 23))] [0, 3, 4] []) (.seq (.reg [i1 24 (.mov (.t 4)),
    i1 25 (.bin .geq (.t 24) (.c (.int .u8 97))),
    i1 26 (.mov (.t 25)),
    .grp 26 true [s1 27 (.mov (.t 4)), s1 28 (.bin .leq (.t 27) (.c (.int .u8 122)))],
    i1 29 (.pick (.t 26) (.t 28) (.c (.bool false))),
    i1 30 (.mov (.t 29)),
    .grp 30 false [s1 31 (.mov (.t 4)), s1 32 (.bin .geq (.t 31) (.c (.int .u8 65))), s1 33 (.mov (.t 32))],
    .grp 33 true [s1 34 (.mov (.t 4)), s1 35 (.bin .leq (.t 34) (.c (.int .u8 90)))],
    .grp 30 false [s1 36 (.pick (.t 33) (.t 35) (.c (.bool false)))],
    i1 37 (.pick (.t 30) (.c (.bool true)) (.t 36)),
    i1 5 (.mov (.t 37))] [0, 3, 4, 5] []) (.seq (.reg [i1 38 (.mov (.t 4)),
    i1 39 (.bin .geq (.t 38) (.c (.int .u8 48))),
    i1 40 (.mov (.t 39)),
    .grp 40 true [s1 41 (.mov (.t 4)), s1 42 (.bin .leq (.t 41) (.c (.int .u8 57)))],
    i1 43 (.pick (.t 40) (.t 42) (.c (.bool false))),
    i1 6 (.mov (.t 43))] [0, 3, 4, 5, 6] []) (.seq (.reg [i1 44 (.mov (.t 5)),
    i1 45 (.not (.t 44)),
    i1 46 (.mov (.t 45)),
    .grp 46 true [s1 47 (.mov (.t 6)), s1 48 (.not (.t 47))],
    i1 49 (.pick (.t 46) (.t 48) (.c (.bool false))),
    i1 50 (.mov (.t 49)),
    .grp 50 true [s1 51 (.mov (.t 4)), s1 52 (.bin .neq (.t 51) (.c (.int .u8 95)))],
    i1 53 (.pick (.t 50) (.t 52) (.c (.bool false))),
    i1 54 (.mov (.t 53)),
    .grp 54 true [s1 55 (.mov (.t 4)), s1 56 (.bin .neq (.t 55) (.c (.int .u8 46)))],
    i1 57 (.pick (.t 54) (.t 56) (.c (.bool false))),
    i1 58 (.mov (.t 57)),
    .grp 58 true [s1 59 (.mov (.t 4)), s1 60 (.bin .neq (.t 59) (.c (.int .u8 45)))],
    i1 61 (.pick (.t 58) (.t 60) (.c (.bool false)))] [0, 3, 61] []) (.cond (.t 61) (.seq (.reg [i1 2 (.mov (.c (.bool false)))] [2] []) (.ret)) (.skip))))))) (.reg [i1 19 (.mov (.t 3)),
    i1 20 (.bin .add (.t 19) (.c (.int .i64 1))),
    i1 3 (.mov (.t 20))] [0, 3] [])))))) (.seq (.reg [i1 2 (.mov (.c (.bool true)))] [2] []) (.ret))))
abbrev nr_ref10_ID : Nat := 112
def C_ref10_ID_10 (QF : AEnd → Store → Prop) (r0 : LE → Store → Prop) (v0 v3 v4 v57 : AV) (S : Store) : Prop :=
  grW v57 true (biW .neq v4 (.int .u8 45) fun v60 =>
  pkW v57 v60 (.bool false) fun v61 =>
  cnW v61 (rtW [.tmp (.bool false)] QF S)
  (biW .add v3 (.int .i64 1) fun v20 =>
  rcW r0 [(0, v0), (3, v20)] S))
  (pkW v57 undefA (.bool false) fun v61 =>
  cnW v61 (rtW [.tmp (.bool false)] QF S)
  (biW .add v3 (.int .i64 1) fun v20 =>
  rcW r0 [(0, v0), (3, v20)] S))
def C_ref10_ID_9 (QF : AEnd → Store → Prop) (r0 : LE → Store → Prop) (v0 v3 v4 v53 : AV) (S : Store) : Prop :=
  grW v53 true (biW .neq v4 (.int .u8 46) fun v56 =>
  pkW v53 v56 (.bool false) fun v57 =>
  C_ref10_ID_10 QF r0 v0 v3 v4 v57 S)
  (pkW v53 undefA (.bool false) fun v57 =>
  C_ref10_ID_10 QF r0 v0 v3 v4 v57 S)
def C_ref10_ID_8 (QF : AEnd → Store → Prop) (r0 : LE → Store → Prop) (v0 v3 v4 v49 : AV) (S : Store) : Prop :=
  grW v49 true (biW .neq v4 (.int .u8 95) fun v52 =>
  pkW v49 v52 (.bool false) fun v53 =>
  C_ref10_ID_9 QF r0 v0 v3 v4 v53 S)
  (pkW v49 undefA (.bool false) fun v53 =>
  C_ref10_ID_9 QF r0 v0 v3 v4 v53 S)
def C_ref10_ID_7 (QF : AEnd → Store → Prop) (r0 : LE → Store → Prop) (v0 v3 v4 v5 v43 : AV) (S : Store) : Prop :=
  ntW v5 fun v45 =>
  grW v45 true (ntW v43 fun v48 =>
  pkW v45 v48 (.bool false) fun v49 =>
  C_ref10_ID_8 QF r0 v0 v3 v4 v49 S)
  (pkW v45 undefA (.bool false) fun v49 =>
  C_ref10_ID_8 QF r0 v0 v3 v4 v49 S)
def C_ref10_ID_6 (QF : AEnd → Store → Prop) (r0 : LE → Store → Prop) (v0 v3 v4 v37 : AV) (S : Store) : Prop :=
  biW .geq v4 (.int .u8 48) fun v39 =>
  grW v39 true (biW .leq v4 (.int .u8 57) fun v42 =>
  pkW v39 v42 (.bool false) fun v43 =>
  C_ref10_ID_7 QF r0 v0 v3 v4 v37 v43 S)
  (pkW v39 undefA (.bool false) fun v43 =>
  C_ref10_ID_7 QF r0 v0 v3 v4 v37 v43 S)
def C_ref10_ID_5 (QF : AEnd → Store → Prop) (r0 : LE → Store → Prop) (v0 v3 v4 v30 v33 v35 : AV) (S : Store) : Prop :=
  grW v30 false (pkW v33 v35 (.bool false) fun v36 =>
  pkW v30 (.bool true) v36 fun v37 =>
  C_ref10_ID_6 QF r0 v0 v3 v4 v37 S)
  (pkW v30 (.bool true) undefA fun v37 =>
  C_ref10_ID_6 QF r0 v0 v3 v4 v37 S)
def C_ref10_ID_4 (QF : AEnd → Store → Prop) (r0 : LE → Store → Prop) (v0 v3 v4 v30 v33 : AV) (S : Store) : Prop :=
  grW v33 true (biW .leq v4 (.int .u8 90) fun v35 =>
  C_ref10_ID_5 QF r0 v0 v3 v4 v30 v33 v35 S)
  (C_ref10_ID_5 QF r0 v0 v3 v4 v30 v33 undefA S)
def C_ref10_ID_3 (QF : AEnd → Store → Prop) (r0 : LE → Store → Prop) (v0 v3 v4 v29 : AV) (S : Store) : Prop :=
  grW v29 false (biW .geq v4 (.int .u8 65) fun v32 =>
  C_ref10_ID_4 QF r0 v0 v3 v4 v29 v32 S)
  (C_ref10_ID_4 QF r0 v0 v3 v4 v29 undefA S)
def C_ref10_ID_2 (QF : AEnd → Store → Prop) (r0 : LE → Store → Prop) (v0 v3 : AV) (S : Store) : Prop :=
  lnW S 0 v0 fun v17 =>
  biW .lss v3 v17 fun v18 =>
  cnW v18 (isW v0 v3 fun v23 =>
  biW .geq v23 (.int .u8 97) fun v25 =>
  grW v25 true (biW .leq v23 (.int .u8 122) fun v28 =>
  pkW v25 v28 (.bool false) fun v29 =>
  C_ref10_ID_3 QF r0 v0 v3 v23 v29 S)
  (pkW v25 undefA (.bool false) fun v29 =>
  C_ref10_ID_3 QF r0 v0 v3 v23 v29 S))
  (rtW [.tmp (.bool true)] QF S)
def C_ref10_ID_1 (QF : AEnd → Store → Prop) (v0 v14 : AV) (S : Store) : Prop :=
  cnW v14 (rtW [.tmp (.bool false)] QF S)
  (LoopP (fun r0 l S => C_ref10_ID_2 QF r0 (lget l 0) (lget l 3) S) [(0, v0), (3, (.int .i64 0))] S)
def B_ref10_ID (QF : AEnd → Store → Prop) (v0 : AV) (S : Store) : Prop :=
  lnW S 0 v0 fun v8 =>
  biW .eql v8 (.int .i64 0) fun v9 =>
  grW v9 false (lnW S 0 v0 fun v12 =>
  biW .gtr v12 (.int .i64 24) fun v13 =>
  pkW v9 (.bool true) v13 fun v14 =>
  C_ref10_ID_1 QF v0 v14 S)
  (pkW v9 (.bool true) undefA fun v14 =>
  C_ref10_ID_1 QF v0 v14 S)
theorem w_ref10_ID {QF : AEnd → Store → Prop} {v0 : AV} {S : Store} (h : B_ref10_ID QF v0 S) : ACalls PG nr_ref10_ID [v0] S QF :=
  acalls_tf (F := tf_ref10_ID) (by kernel_rfl) rfl (by kernel_rfl) h
def tf_names_ID : TFunc where
  n := 5
  args := 1
  res := [.tmp 2]
  code := .seq (.reg [i1 2 (.mov (.c (.bool false)))] [0] []) (.seq (.reg [i1 3 (.mov (.t 0)),
    i1 4 (.call (.f 100) [.t 3, .c (.int .i64 24), .f 120]),
    i1 2 (.mov (.t 4))] [2] []) (.ret))
abbrev nr_names_ID : Nat := 113
def B_names_ID (QF : AEnd → Store → Prop) (v0 : AV) (S : Store) : Prop :=
  caW PG S (.func (.func 100) [] []) [v0, (.int .i64 24), (.func (.func 120) [] [])] (fun v4 S =>
  rtW [.tmp v4] QF S) (pqW QF)
theorem w_names_ID {QF : AEnd → Store → Prop} {v0 : AV} {S : Store} (h : B_names_ID QF v0 S) : ACalls PG nr_names_ID [v0] S QF :=
  acalls_tf (F := tf_names_ID) (by kernel_rfl) rfl (by kernel_rfl) h
def tf_engine_search_expr_1 : TFunc where
  n := 16
  args := 3
  res := [.tmp 4]
  code := .seq (.reg [i1 3 (.boxr 93 3 (.t 0)),
    i1 4 (.mov (.c (.bool false)))] [1, 2, 3] []) (.seq (.reg [i1 5 (.faddr 2 (.t 3)),
    i1 6 (.load 1 false (.t 5)),
    i1 7 (.bin .eql (.t 6) (.c (.str ⟨#[]⟩))),
    i1 8 (.mov (.t 7)),
    .grp 8 true [s1 9 (.load 1 false (.t 1)), s1 10 (.faddr 0 (.t 3)), s1 11 (.load 2 true (.t 10)), s1 12 (.faddr 2 (.t 2)), s1 13 (.load 1 false (.t 12)), s1 14 (.call (.f 43) [.t 9, .t 11, .t 13])],
    i1 15 (.pick (.t 8) (.t 14) (.c (.bool false))),
    i1 4 (.mov (.t 15))] [4] []) (.ret))
abbrev nr_engine_search_expr_1 : Nat := 114
def B_engine_search_expr_1 (QF : AEnd → Store → Prop) (v0 v1 v2 : AV) (S : Store) : Prop :=
  brW 3 v0 fun v3 =>
  faW 2 v3 fun v5 =>
  ldW S 1 false v5 fun v6 =>
  biW .eql v6 (.str ⟨#[]⟩) fun v7 =>
  grW v7 true (ldW S 1 false v1 fun v9 =>
  faW 0 v3 fun v10 =>
  ldW S 2 true v10 fun v11 =>
  faW 2 v2 fun v12 =>
  ldW S 1 false v12 fun v13 =>
  caW PG S (.func (.func 43) [] []) [v9, v11, v13] (fun v14 S =>
  pkW v7 v14 (.bool false) fun v15 =>
  rtW [.tmp v15] QF S) (pqW QF))
  (pkW v7 undefA (.bool false) fun v15 =>
  rtW [.tmp v15] QF S)
theorem w_engine_search_expr_1 {QF : AEnd → Store → Prop} {v0 v1 v2 : AV} {S : Store} (h : B_engine_search_expr_1 QF v0 v1 v2 S) : ACalls PG nr_engine_search_expr_1 [v0, v1, v2] S QF :=
  acalls_tf (F := tf_engine_search_expr_1) (by kernel_rfl) rfl (by kernel_rfl) h
def tf_slices_IndexFunc_Subject : TFunc where
  n := 19
  args := 2
  res := [.tmp 4]
  code := .seq (.reg [i1 4 (.mov (.c (.int .i64 0)))] [0, 1] []) (.seq (.seq (.reg [i1 6 (.mov (.t 0)),
    i1 7 (.len 1 (.t 6)),
    i1 8 (.mov (.c (.int .i64 0)))] [0, 1, 7, 8] []) (.block 0 (.loop [0, 1, 7, 8] (.seq (.reg [i1 9 (.bin .lss (.t 8) (.t 7))] [0, 1, 7, 8, 9] []) (.seq (.cond (.t 9) (.skip) (.exit 0)) (.seq (.block 1 (.seq (.reg [i1 10 (.mov (.t 8)),
    i1 5 (.mov (.t 10))] [0, 1, 5, 7, 8] []) (.seq (.reg [i1 11 (.mov (.t 1)),
    i1 12 (.mov (.t 0)),
    i1 13 (.mov (.t 5)),
    i1 14 (.iaddr 3 (.t 12) (.t 13)),
    i1 15 (.load 3 true (.t 14)),
    i1 16 (.call (.t 11) [.t 15])] [0, 1, 5, 7, 8, 16] []) (.cond (.t 16) (.seq (.reg [i1 17 (.mov (.t 5)),
    i1 4 (.mov (.t 17))] [4] []) (.ret)) (.skip))))) (.reg [i1 18 (.bin .add (.t 8) (.c (.int .i64 1))),
    i1 8 (.mov (.t 18))] [0, 1, 7, 8] []))))))) (.seq (.reg [i1 4 (.mov (.c (.int .i64 (-1))))] [4] []) (.ret)))
abbrev nr_slices_IndexFunc_Subject : Nat := 115
def C_slices_IndexFunc_Subject_1 (QF : AEnd → Store → Prop) (r0 : LE → Store → Prop) (v0 v1 v7 v8 : AV) (S : Store) : Prop :=
  biW .lss v8 v7 fun v9 =>
  cnW v9 (iaW 3 v0 v8 fun v14 =>
  ldW S 3 true v14 fun v15 =>
  caW PG S v1 [v15] (fun v16 S =>
  cnW v16 (rtW [.tmp v8] QF S)
  (biW .add v8 (.int .i64 1) fun v18 =>
  rcW r0 [(0, v0), (1, v1), (7, v7), (8, v18)] S)) (pqW QF))
  (rtW [.tmp (.int .i64 (-1))] QF S)
def B_slices_IndexFunc_Subject (QF : AEnd → Store → Prop) (v0 v1 : AV) (S : Store) : Prop :=
  lnW S 1 v0 fun v7 =>
  LoopP (fun r0 l S => C_slices_IndexFunc_Subject_1 QF r0 (lget l 0) (lget l 1) (lget l 7) (lget l 8) S) [(0, v0), (1, v1), (7, v7), (8, (.int .i64 0))] S
theorem w_slices_IndexFunc_Subject {QF : AEnd → Store → Prop} {v0 v1 : AV} {S : Store} (h : B_slices_IndexFunc_Subject QF v0 v1 S) : ACalls PG nr_slices_IndexFunc_Subject [v0, v1] S QF :=
  acalls_tf (F := tf_slices_IndexFunc_Subject) (by kernel_rfl) rfl (by kernel_rfl) h
def tf_lang_sign : TFunc where
  n := 10
  args := 1
  res := [.tmp 2]
  code := .seq (.reg [i1 2 (.mov (.c (.str ⟨#[]⟩)))] [0] []) (.seq (.seq (.reg [i1 3 (.mov (.t 0))] [3] []) (.block 0 (.seq (.reg [i1 5 (.bin .eql (.t 3) (.c (.int .i64 2))),
    i1 4 (.mov (.t 5))] [3, 4] []) (.cond (.t 4) (.seq (.reg [i1 2 (.mov (.c (.str ⟨#[32, 43, 32]⟩)))] [2] []) (.ret)) (.seq (.reg [i1 7 (.bin .eql (.t 3) (.c (.int .i64 3))),
    i1 6 (.mov (.t 7))] [3, 6] []) (.cond (.t 6) (.seq (.reg [i1 2 (.mov (.c (.str ⟨#[32, 38, 32]⟩)))] [2] []) (.ret)) (.seq (.reg [i1 9 (.bin .eql (.t 3) (.c (.int .i64 4))),
    i1 8 (.mov (.t 9))] [8] []) (.cond (.t 8) (.seq (.reg [i1 2 (.mov (.c (.str ⟨#[32, 45, 32]⟩)))] [2] []) (.ret)) (.skip))))))))) (.seq (.reg [i1 2 (.mov (.c (.str ⟨#[]⟩)))] [2] []) (.ret)))
abbrev nr_lang_sign : Nat := 116
def B_lang_sign (QF : AEnd → Store → Prop) (v0 : AV) (S : Store) : Prop :=
  biW .eql v0 (.int .i64 2) fun v5 =>
  cnW v5 (rtW [.tmp (.str ⟨#[32, 43, 32]⟩)] QF S)
  (biW .eql v0 (.int .i64 3) fun v7 =>
  cnW v7 (rtW [.tmp (.str ⟨#[32, 38, 32]⟩)] QF S)
  (biW .eql v0 (.int .i64 4) fun v9 =>
  cnW v9 (rtW [.tmp (.str ⟨#[32, 45, 32]⟩)] QF S)
  (rtW [.tmp (.str ⟨#[]⟩)] QF S)))
theorem w_lang_sign {QF : AEnd → Store → Prop} {v0 : AV} {S : Store} (h : B_lang_sign QF v0 S) : ACalls PG nr_lang_sign [v0] S QF :=
  acalls_tf (F := tf_lang_sign) (by kernel_rfl) rfl (by kernel_rfl) h
def tf_slices_IndexFunc_Ref : TFunc where
  n := 19
  args := 2
  res := [.tmp 4]
  code := .seq (.reg [i1 4 (.mov (.c (.int .i64 0)))] [0, 1] []) (.seq (.seq (.reg [i1 6 (.mov (.t 0)),
    i1 7 (.len 1 (.t 6)),
    i1 8 (.mov (.c (.int .i64 0)))] [0, 1, 7, 8] []) (.block 0 (.loop [0, 1, 7, 8] (.seq (.reg [i1 9 (.bin .lss (.t 8) (.t 7))] [0, 1, 7, 8, 9] []) (.seq (.cond (.t 9) (.skip) (.exit 0)) (.seq (.block 1 (.seq (.reg [i1 10 (.mov (.t 8)),
    i1 5 (.mov (.t 10))] [0, 1, 5, 7, 8] []) (.seq (.reg [i1 11 (.mov (.t 1)),
    i1 12 (.mov (.t 0)),
    i1 13 (.mov (.t 5)),
    i1 14 (.iaddr 2 (.t 12) (.t 13)),
    i1 15 (.load 2 true (.t 14)),
    i1 16 (.call (.t 11) [.t 15])] [0, 1, 5, 7, 8, 16] []) (.cond (.t 16) (.seq (.reg [i1 17 (.mov (.t 5)),
    i1 4 (.mov (.t 17))] [4] []) (.ret)) (.skip))))) (.reg [i1 18 (.bin .add (.t 8) (.c (.int .i64 1))),
    i1 8 (.mov (.t 18))] [0, 1, 7, 8] []))))))) (.seq (.reg [i1 4 (.mov (.c (.int .i64 (-1))))] [4] []) (.ret)))
abbrev nr_slices_IndexFunc_Ref : Nat := 117
def C_slices_IndexFunc_Ref_1 (QF : AEnd → Store → Prop) (r0 : LE → Store → Prop) (v0 v1 v7 v8 : AV) (S : Store) : Prop :=
  biW .lss v8 v7 fun v9 =>
  cnW v9 (iaW 2 v0 v8 fun v14 =>
  ldW S 2 true v14 fun v15 =>
  caW PG S v1 [v15] (fun v16 S =>
  cnW v16 (rtW [.tmp v8] QF S)
  (biW .add v8 (.int .i64 1) fun v18 =>
  rcW r0 [(0, v0), (1, v1), (7, v7), (8, v18)] S)) (pqW QF))
  (rtW [.tmp (.int .i64 (-1))] QF S)
def B_slices_IndexFunc_Ref (QF : AEnd → Store → Prop) (v0 v1 : AV) (S : Store) : Prop :=
  lnW S 1 v0 fun v7 =>
  LoopP (fun r0 l S => C_slices_IndexFunc_Ref_1 QF r0 (lget l 0) (lget l 1) (lget l 7) (lget l 8) S) [(0, v0), (1, v1), (7, v7), (8, (.int .i64 0))] S
theorem w_slices_IndexFunc_Ref {QF : AEnd → Store → Prop} {v0 v1 : AV} {S : Store} (h : B_slices_IndexFunc_Ref QF v0 v1 S) : ACalls PG nr_slices_IndexFunc_Ref [v0, v1] S QF :=
  acalls_tf (F := tf_slices_IndexFunc_Ref) (by kernel_rfl) rfl (by kernel_rfl) h
def tf_ref11_Reader_atom : TFunc where
  n := 50
  args := 1
  res := [.cell 2 4 true]
  code := .seq (.reg [i1 2 (.alloc 41 [.int .i64 0, .str ⟨#[]⟩, .str ⟨#[]⟩, .nils])] [0, 2] []) (.seq (.reg [i1 7 (.mov (.t 0)),
    i1 8 (.call (.f 61) [.t 7]),
    .box2 3 130 [.str ⟨#[]⟩, .int .i64 0, .int .i64 0] 3 (.t 8)] [0, 2, 3] []) (.seq (.seq (.reg [i1 9 (.mov (.t 0)),
    i1 10 (.call (.f 58) [.t 9, .c (.str ⟨#[40]⟩)])] [0, 2, 3, 10] []) (.cond (.t 10) (.seq (.reg [i1 11 (.mov (.t 0)),
    i1 12 (.nilck (.t 11)),
    i1 13 (.faddr 2 (.t 12)),
    i1 14 (.load 1 false (.t 13)),
    i1 15 (.bin .add (.t 14) (.c (.int .i64 1))),
    i1 16 (.nilck (.t 11)),
    i1 17 (.faddr 2 (.t 16)),
    i0 (.store 1 (.t 17) (.t 15))] [0, 2, 3] []) (.seq (.seq (.reg [i1 18 (.mov (.t 0)),
    i1 19 (.nilck (.t 18)),
    i1 20 (.faddr 2 (.t 19)),
    i1 21 (.load 1 false (.t 20)),
    i1 22 (.bin .gtr (.t 21) (.c (.int .i64 12)))] [0, 2, 3, 22] []) (.cond (.t 22) (.seq (.reg [i1 23 (.mov (.t 0)),
    i1 24 (.load 3 true (.t 3)),
    i1 25 (.call (.f 62) [.t 23, .t 24, .c (.int .i64 9)])] [2] []) (.seq (.reg [i1 26 (.build [.int .i64 0, .str ⟨#[]⟩, .str ⟨#[]⟩, .nils] []),
    i0 (.store 4 (.t 2) (.t 26))] [2] []) (.ret))) (.skip))) (.seq (.reg [i1 27 (.mov (.t 0)),
    i1 28 (.call (.f 88) [.t 27]),
    .box2 4 41 [.int .i64 0, .str ⟨#[]⟩, .str ⟨#[]⟩, .nils] 4 (.t 28)] [0, 2, 4] []) (.seq (.reg [i1 29 (.mov (.t 0)),
    i1 30 (.call (.f 86) [.t 29, .c (.str ⟨#[41]⟩)])] [0, 2, 4] []) (.seq (.reg [i1 31 (.mov (.t 0)),
    i1 32 (.nilck (.t 31)),
    i1 33 (.faddr 2 (.t 32)),
    i1 34 (.load 1 false (.t 33)),
    i1 35 (.bin .sub (.t 34) (.c (.int .i64 1))),
    i1 36 (.nilck (.t 31)),
    i1 37 (.faddr 2 (.t 36)),
    i0 (.store 1 (.t 37) (.t 35))] [2, 4] []) (.seq (.reg [i1 38 (.load 4 true (.t 4)),
    i0 (.store 4 (.t 2) (.t 38))] [2] []) (.ret))))))) (.skip))) (.seq (.reg [i1 39 (.mov (.t 0)),
    i1 40 (.call (.f 59) [.t 39]),
    i1 5 (.mov (.t 40))] [0, 2, 5] []) (.seq (.seq (.reg [i1 41 (.mov (.t 0)),
    i1 42 (.call (.f 58) [.t 41, .c (.str ⟨#[46]⟩)])] [0, 2, 5, 42] []) (.cond (.t 42) (.seq (.reg [i1 43 (.mov (.t 0)),
    i1 44 (.call (.f 59) [.t 43]),
    i1 6 (.mov (.t 44))] [2, 5, 6] []) (.seq (.reg [i1 45 (.mov (.t 5)),
    i1 46 (.mov (.t 6)),
    i1 47 (.build [.int .i64 0, .str ⟨#[]⟩, .str ⟨#[]⟩, .nils] [(0, 1, .c (.int .i64 1)), (1, 1, .t 45), (2, 1, .t 46)]),
    i0 (.store 4 (.t 2) (.t 47))] [2] []) (.ret))) (.skip))) (.seq (.reg [i1 48 (.mov (.t 5)),
    i1 49 (.build [.int .i64 0, .str ⟨#[]⟩, .str ⟨#[]⟩, .nils] [(0, 1, .c (.int .i64 0)), (1, 1, .t 48)]),
    i0 (.store 4 (.t 2) (.t 49))] [2] []) (.ret))))))
abbrev nr_ref11_Reader_atom : Nat := 118
def B_ref11_Reader_atom (QF : AEnd → Store → Prop) (v0 : AV) (S : Store) : Prop :=
  alW S 41 [.int .i64 0, .str ⟨#[]⟩, .str ⟨#[]⟩, .nils] fun v2 S =>
  caW PG S (.func (.func 61) [] []) [v0] (fun v8 S =>
  bfW 3 v8 fun v3 =>
  caW PG S (.func (.func 58) [] []) [v0, (.str ⟨#[40]⟩)] (fun v10 S =>
  cnW v10 (nkW v0 fun v12 =>
  faW 2 v12 fun v13 =>
  ldW S 1 false v13 fun v14 =>
  biW .add v14 (.int .i64 1) fun v15 =>
  nkW v0 fun v16 =>
  faW 2 v16 fun v17 =>
  stW S 1 v17 v15 fun S =>
  nkW v0 fun v19 =>
  faW 2 v19 fun v20 =>
  ldW S 1 false v20 fun v21 =>
  biW .gtr v21 (.int .i64 12) fun v22 =>
  cnW v22 (ldW S 3 true v3 fun v24 =>
  caW PG S (.func (.func 62) [] []) [v0, v24, (.int .i64 9)] (fun v25 S =>
  bdW [.int .i64 0, .str ⟨#[]⟩, .str ⟨#[]⟩, .nils] [] fun v26 =>
  stW S 4 v2 v26 fun S =>
  rtW [.cell v2 4 true] QF S) (pqW QF))
  (caW PG S (.func (.func 88) [] []) [v0] (fun v28 S =>
  bfW 4 v28 fun v4 =>
  caW PG S (.func (.func 86) [] []) [v0, (.str ⟨#[41]⟩)] (fun v30 S =>
  nkW v0 fun v32 =>
  faW 2 v32 fun v33 =>
  ldW S 1 false v33 fun v34 =>
  biW .sub v34 (.int .i64 1) fun v35 =>
  nkW v0 fun v36 =>
  faW 2 v36 fun v37 =>
  stW S 1 v37 v35 fun S =>
  ldW S 4 true v4 fun v38 =>
  stW S 4 v2 v38 fun S =>
  rtW [.cell v2 4 true] QF S) (pqW QF)) (pqW QF)))
  (caW PG S (.func (.func 59) [] []) [v0] (fun v40 S =>
  caW PG S (.func (.func 58) [] []) [v0, (.str ⟨#[46]⟩)] (fun v42 S =>
  cnW v42 (caW PG S (.func (.func 59) [] []) [v0] (fun v44 S =>
  bdW [.int .i64 0, .str ⟨#[]⟩, .str ⟨#[]⟩, .nils] [(0, 1, (.int .i64 1)), (1, 1, v40), (2, 1, v44)] fun v47 =>
  stW S 4 v2 v47 fun S =>
  rtW [.cell v2 4 true] QF S) (pqW QF))
  (bdW [.int .i64 0, .str ⟨#[]⟩, .str ⟨#[]⟩, .nils] [(0, 1, (.int .i64 0)), (1, 1, v40)] fun v49 =>
  stW S 4 v2 v49 fun S =>
  rtW [.cell v2 4 true] QF S)) (pqW QF)) (pqW QF))) (pqW QF)) (pqW QF)
theorem w_ref11_Reader_atom {QF : AEnd → Store → Prop} {v0 : AV} {S : Store} (h : B_ref11_Reader_atom QF v0 S) : ACalls PG nr_ref11_Reader_atom [v0] S QF :=
  acalls_tf (F := tf_ref11_Reader_atom) (by kernel_rfl) rfl (by kernel_rfl) h
def tf_ref11_Height : TFunc where
  n := 25
  args := 1
  res := [.tmp 2]
  code := .seq (.reg [i1 1 (.boxr 41 4 (.t 0)),
    i1 2 (.mov (.c (.int .i64 0)))] [1] []) (.seq (.reg [i1 3 (.mov (.c (.int .i64 0)))] [1, 3] []) (.seq (.seq (.reg [i1 4 (.mov (.c (.int .i64 0)))] [1, 3, 4] []) (.block 0 (.loop [1, 3, 4] (.seq (.seq (.reg [i1 6 (.mov (.t 4)),
    i1 7 (.faddr 3 (.t 1)),
    i1 8 (.load 1 false (.t 7)),
    i1 9 (.len 1 (.t 8)),
    i1 10 (.bin .lss (.t 6) (.t 9))] [1, 3, 4, 10] []) (.cond (.t 10) (.skip) (.exit 0))) (.seq (.block 1 (.seq (.reg [i1 13 (.faddr 3 (.t 1)),
    i1 14 (.load 1 false (.t 13)),
    i1 15 (.mov (.t 4)),
    i1 16 (.iaddr 4 (.t 14) (.t 15)),
    i1 17 (.load 4 true (.t 16)),
    i1 18 (.call (.f 119) [.t 17]),
    i1 5 (.mov (.t 18))] [1, 3, 4, 5] []) (.seq (.reg [i1 19 (.mov (.t 5)),
    i1 20 (.mov (.t 3)),
    i1 21 (.bin .gtr (.t 19) (.t 20))] [1, 3, 4, 5, 21] []) (.cond (.t 21) (.reg [i1 22 (.mov (.t 5)),
    i1 3 (.mov (.t 22))] [1, 3, 4] []) (.skip))))) (.reg [i1 11 (.mov (.t 4)),
    i1 12 (.bin .add (.t 11) (.c (.int .i64 1))),
    i1 4 (.mov (.t 12))] [1, 3, 4] [])))))) (.seq (.reg [i1 23 (.mov (.t 3)),
    i1 24 (.bin .add (.t 23) (.c (.int .i64 1))),
    i1 2 (.mov (.t 24))] [2] []) (.ret))))
abbrev nr_ref11_Height : Nat := 119
def C_ref11_Height_1 (QF : AEnd → Store → Prop) (r0 : LE → Store → Prop) (v1 v3 v4 : AV) (S : Store) : Prop :=
  faW 3 v1 fun v7 =>
  ldW S 1 false v7 fun v8 =>
  lnW S 1 v8 fun v9 =>
  biW .lss v4 v9 fun v10 =>
  cnW v10 (faW 3 v1 fun v13 =>
  ldW S 1 false v13 fun v14 =>
  iaW 4 v14 v4 fun v16 =>
  ldW S 4 true v16 fun v17 =>
  caW PG S (.func (.func 119) [] []) [v17] (fun v18 S =>
  biW .gtr v18 v3 fun v21 =>
  cnW v21 (biW .add v4 (.int .i64 1) fun v12 =>
  rcW r0 [(1, v1), (3, v18), (4, v12)] S)
  (biW .add v4 (.int .i64 1) fun v12 =>
  rcW r0 [(1, v1), (3, v3), (4, v12)] S)) (pqW QF))
  (biW .add v3 (.int .i64 1) fun v24 =>
  rtW [.tmp v24] QF S)
def B_ref11_Height (QF : AEnd → Store → Prop) (v0 : AV) (S : Store) : Prop :=
  brW 4 v0 fun v1 =>
  LoopP (fun r0 l S => C_ref11_Height_1 QF r0 (lget l 1) (lget l 3) (lget l 4) S) [(1, v1), (3, (.int .i64 0)), (4, (.int .i64 0))] S
theorem w_ref11_Height {QF : AEnd → Store → Prop} {v0 : AV} {S : Store} (h : B_ref11_Height QF v0 S) : ACalls PG nr_ref11_Height [v0] S QF :=
  acalls_tf (F := tf_ref11_Height) (by kernel_rfl) rfl (by kernel_rfl) h
def tf_names_ID_1 : TFunc where
  n := 18
  args := 1
  res := [.tmp 2]
  code := .seq (.reg [i1 2 (.mov (.c (.bool false)))] [0] []) (.seq (.reg [i1 3 (.mov (.t 0)),
    i1 4 (.call (.f 102) [.t 3]),
    i1 5 (.mov (.t 4)),
    .grp 5 false [s1 6 (.mov (.t 0)), s1 7 (.call (.f 121) [.t 6])],
    i1 8 (.pick (.t 5) (.c (.bool true)) (.t 7)),
    i1 9 (.mov (.t 8)),
    .grp 9 false [s1 10 (.mov (.t 0)), s1 11 (.call (.f 103) [.t 10])],
    i1 12 (.pick (.t 9) (.c (.bool true)) (.t 11)),
    i1 13 (.mov (.t 12)),
    .grp 13 false [s1 14 (.mov (.t 0)), s1 15 (.call (.f 122) [.c (.str ⟨#[95, 46, 45]⟩), .t 14]), s1 16 (.bin .geq (.t 15) (.c (.int .i64 0)))],
    i1 17 (.pick (.t 13) (.c (.bool true)) (.t 16)),
    i1 2 (.mov (.t 17))] [2] []) (.ret))
abbrev nr_names_ID_1 : Nat := 120
def C_names_ID_1_2 (QF : AEnd → Store → Prop) (v0 v12 : AV) (S : Store) : Prop :=
  grW v12 false (caW PG S (.func (.func 122) [] []) [(.str ⟨#[95, 46, 45]⟩), v0] (fun v15 S =>
  biW .geq v15 (.int .i64 0) fun v16 =>
  pkW v12 (.bool true) v16 fun v17 =>
  rtW [.tmp v17] QF S) (pqW QF))
  (pkW v12 (.bool true) undefA fun v17 =>
  rtW [.tmp v17] QF S)
def C_names_ID_1_1 (QF : AEnd → Store → Prop) (v0 v8 : AV) (S : Store) : Prop :=
  grW v8 false (caW PG S (.func (.func 103) [] []) [v0] (fun v11 S =>
  pkW v8 (.bool true) v11 fun v12 =>
  C_names_ID_1_2 QF v0 v12 S) (pqW QF))
  (pkW v8 (.bool true) undefA fun v12 =>
  C_names_ID_1_2 QF v0 v12 S)
def B_names_ID_1 (QF : AEnd → Store → Prop) (v0 : AV) (S : Store) : Prop :=
  caW PG S (.func (.func 102) [] []) [v0] (fun v4 S =>
  grW v4 false (caW PG S (.func (.func 121) [] []) [v0] (fun v7 S =>
  pkW v4 (.bool true) v7 fun v8 =>
  C_names_ID_1_1 QF v0 v8 S) (pqW QF))
  (pkW v4 (.bool true) undefA fun v8 =>
  C_names_ID_1_1 QF v0 v8 S)) (pqW QF)
theorem w_names_ID_1 {QF : AEnd → Store → Prop} {v0 : AV} {S : Store} (h : B_names_ID_1 QF v0 S) : ACalls PG nr_names_ID_1 [v0] S QF :=
  acalls_tf (F := tf_names_ID_1) (by kernel_rfl) rfl (by kernel_rfl) h
def tf_names_great : TFunc where
  n := 9
  args := 1
  res := [.tmp 2]
  code := .seq (.reg [i1 2 (.mov (.c (.bool false)))] [0] []) (.seq (.reg [i1 3 (.mov (.t 0)),
    i1 4 (.bin .geq (.t 3) (.c (.int .u8 65))),
    i1 5 (.mov (.t 4)),
    .grp 5 true [s1 6 (.mov (.t 0)), s1 7 (.bin .leq (.t 6) (.c (.int .u8 90)))],
    i1 8 (.pick (.t 5) (.t 7) (.c (.bool false))),
    i1 2 (.mov (.t 8))] [2] []) (.ret))
abbrev nr_names_great : Nat := 121
def B_names_great (QF : AEnd → Store → Prop) (v0 : AV) (S : Store) : Prop :=
  biW .geq v0 (.int .u8 65) fun v4 =>
  grW v4 true (biW .leq v0 (.int .u8 90) fun v7 =>
  pkW v4 v7 (.bool false) fun v8 =>
  rtW [.tmp v8] QF S)
  (pkW v4 undefA (.bool false) fun v8 =>
  rtW [.tmp v8] QF S)
theorem w_names_great {QF : AEnd → Store → Prop} {v0 : AV} {S : Store} (h : B_names_great QF v0 S) : ACalls PG nr_names_great [v0] S QF :=
  acalls_tf (F := tf_names_great) (by kernel_rfl) rfl (by kernel_rfl) h
def tf_strings_IndexByte : TFunc where
  n := 8
  args := 2
  res := [.tmp 4]
  code := .seq (.reg [i1 4 (.mov (.c (.int .i64 0)))] [0, 1] []) (.seq (.reg [i1 5 (.mov (.t 0)),
    i1 6 (.mov (.t 1)),
    i1 7 (.call (.f 123) [.t 5, .t 6]),
    i1 4 (.mov (.t 7))] [4] []) (.ret))
abbrev nr_strings_IndexByte : Nat := 122
def B_strings_IndexByte (QF : AEnd → Store → Prop) (v0 v1 : AV) (S : Store) : Prop :=
  caW PG S (.func (.func 123) [] []) [v0, v1] (fun v7 S =>
  rtW [.tmp v7] QF S) (pqW QF)
theorem w_strings_IndexByte {QF : AEnd → Store → Prop} {v0 v1 : AV} {S : Store} (h : B_strings_IndexByte QF v0 v1 S) : ACalls PG nr_strings_IndexByte [v0, v1] S QF :=
  acalls_tf (F := tf_strings_IndexByte) (by kernel_rfl) rfl (by kernel_rfl) h
def tf_internal_stringslite_IndexByte : TFunc where
  n := 8
  args := 2
  res := [.tmp 4]
  code := .seq (.reg [i1 4 (.mov (.c (.int .i64 0)))] [0, 1] []) (.seq (.reg [i1 5 (.mov (.t 0)),
    i1 6 (.mov (.t 1)),
    i1 7 (.call (.f 124) [.t 5, .t 6]),
    i1 4 (.mov (.t 7))] [4] []) (.ret))
abbrev nr_internal_stringslite_IndexByte : Nat := 123
def B_internal_stringslite_IndexByte (QF : AEnd → Store → Prop) (v0 v1 : AV) (S : Store) : Prop :=
  caW PG S (.func (.func 124) [] []) [v0, v1] (fun v7 S =>
  rtW [.tmp v7] QF S) (pqW QF)
theorem w_internal_stringslite_IndexByte {QF : AEnd → Store → Prop} {v0 v1 : AV} {S : Store} (h : B_internal_stringslite_IndexByte QF v0 v1 S) : ACalls PG nr_internal_stringslite_IndexByte [v0, v1] S QF :=
  acalls_tf (F := tf_internal_stringslite_IndexByte) (by kernel_rfl) rfl (by kernel_rfl) h
end Go.HL
