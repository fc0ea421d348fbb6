/- A part of a proof. -/
import Derived.Test.YtadmdlpmikoghaaKeHlP
set_option maxRecDepth 100000
set_option linter.unusedVariables false
namespace Go.HL
def tf_rules_index_names : TFunc where
  n := 61
  args := 3
  res := [.tmp 6]
  code := .seq (.reg [i1 3 (.boxr 63 1 (.t 0)),
    i1 4 (.boxr 9 1 (.t 1)),
    i1 5 (.boxr 43 6 (.t 2)),
    i1 6 (.mov (.c (.int .i64 0)))] [3, 4, 5] []) (.seq (.reg [i1 7 (.alloc 31 [.int .i64 0]),
    i0 (.store 1 (.t 7) (.c (.int .i64 0)))] [3, 4, 5, 7] []) (.seq (.seq (.reg [i1 14 (.faddr 1 (.t 5)),
    i1 15 (.load 1 false (.t 14)),
    i1 16 (.len 1 (.t 15)),
    i1 17 (.mov (.c (.int .i64 0)))] [3, 4, 5, 7, 15, 16, 17] []) (.block 0 (.loop [3, 4, 5, 7, 15, 16, 17] (.seq (.reg [i1 18 (.bin .lss (.t 17) (.t 16))] [3, 4, 5, 7, 15, 16, 17, 18] []) (.seq (.cond (.t 18) (.skip) (.exit 0)) (.seq (.block 1 (.seq (.reg [i1 19 (.iaddr 2 (.t 15) (.t 17)),
    i1 20 (.load 2 true (.t 19)),
    .box2 9 53 [.str ⟨#[]⟩, .str ⟨#[]⟩] 2 (.t 20)] [3, 4, 5, 7, 9, 15, 16, 17] []) (.seq (.regl [4, 0, 1, 2, 3, 5, 6, 7, 8, 9, 10, 11] [i1 26 (.faddr 0 (.t 9)),
    i1 22 (.load 1 false (.t 3)),
    i1 23 (.nilck (.t 22)),
    i1 24 (.faddr 1 (.t 23)),
    i1 25 (.load 1 false (.t 24)),
    i1 27 (.load 1 false (.t 26)),
    i1 28 (.lookup (false, [.str]) true (.int .i64 0) (.t 25) (.t 27)),
    i1 21 (.mov (.t 28)),
    i1 29 (.extr (.t 21) 0),
    i1 30 (.extr (.t 21) 1),
    i1 10 (.mov (.t 29)),
    i1 11 (.mov (.t 30))] [3, 4, 5, 7, 9, 11, 15, 16, 17] []) (.seq (.reg [i1 32 (.load 1 false (.t 3)),
    i1 33 (.faddr 0 (.t 9)),
    i1 34 (.load 1 false (.t 33)),
    i1 35 (.faddr 1 (.t 9)),
    i1 36 (.load 1 false (.t 35)),
    i1 37 (.call (.f 36) [.t 32, .t 34, .t 36]),
    i1 31 (.mov (.t 37)),
    i1 38 (.extr (.t 31) 0),
    i1 39 (.extr (.t 31) 1),
    .box2 12 70 [.int .i64 0, .int .i64 0] 2 (.t 38),
    i1 13 (.mov (.t 39))] [3, 4, 5, 7, 9, 11, 13, 15, 16, 17] []) (.seq (.reg [i1 40 (.mov (.t 11)),
    i1 41 (.not (.t 40)),
    i1 42 (.mov (.t 41)),
    .grp 42 false [s1 43 (.faddr 1 (.t 9)), s1 44 (.load 1 false (.t 43)), s1 45 (.bin .neq (.t 44) (.c (.str ⟨#[]⟩))), s1 46 (.mov (.t 45))],
    .grp 46 true [s1 47 (.mov (.t 13)), s1 48 (.not (.t 47))],
    .grp 42 false [s1 49 (.pick (.t 46) (.t 48) (.c (.bool false)))],
    i1 50 (.pick (.t 42) (.c (.bool true)) (.t 49))] [3, 4, 5, 7, 15, 16, 17, 50] []) (.cond (.t 50) (.seq (.reg [i1 6 (.mov (.c (.int .i64 6)))] [6] []) (.ret)) (.skip))))))) (.reg [i1 51 (.bin .add (.t 17) (.c (.int .i64 1))),
    i1 17 (.mov (.t 51))] [3, 4, 5, 7, 15, 16, 17] []))))))) (.seq (.seq (.reg [i1 52 (.faddr 1 (.t 5)),
    i1 53 (.load 1 false (.t 52)),
    i1 54 (.len 1 (.t 53)),
    i1 55 (.bin .eql (.t 54) (.c (.int .i64 0)))] [3, 4, 5, 7, 55] []) (.cond (.t 55) (.reg [i1 56 (.faddr 2 (.t 5)),
    i1 57 (.load 4 true (.t 56)),
    i1 58 (.mkf (.func 79) [] [.t 3, .t 4, .t 7]),
    i1 59 (.call (.f 69) [.t 57, .c (.bool false), .t 58])] [7] []) (.skip))) (.seq (.reg [i1 60 (.load 1 false (.t 7)),
    i1 6 (.mov (.t 60))] [6] []) (.ret)))))
abbrev nr_rules_index_names : Nat := 54
def C_rules_index_names_4 (QF : AEnd → Store → Prop) (r0 : LE → Store → Prop) (v3 v4 v5 v7 v15 v16 v17 v50 : AV) (S : Store) : Prop :=
  cnW v50 (rtW [.tmp (.int .i64 6)] QF S)
  (biW .add v17 (.int .i64 1) fun v51 =>
  rcW r0 [(3, v3), (4, v4), (5, v5), (7, v7), (15, v15), (16, v16), (17, v51)] S)
def C_rules_index_names_3 (QF : AEnd → Store → Prop) (r0 : LE → Store → Prop) (v3 v4 v5 v7 v15 v16 v17 v42 v46 v48 : AV) (S : Store) : Prop :=
  grW v42 false (pkW v46 v48 (.bool false) fun v49 =>
  pkW v42 (.bool true) v49 fun v50 =>
  C_rules_index_names_4 QF r0 v3 v4 v5 v7 v15 v16 v17 v50 S)
  (pkW v42 (.bool true) undefA fun v50 =>
  C_rules_index_names_4 QF r0 v3 v4 v5 v7 v15 v16 v17 v50 S)
def C_rules_index_names_2 (QF : AEnd → Store → Prop) (r0 : LE → Store → Prop) (v3 v4 v5 v7 v13 v15 v16 v17 v42 v46 : AV) (S : Store) : Prop :=
  grW v46 true (ntW v13 fun v48 =>
  C_rules_index_names_3 QF r0 v3 v4 v5 v7 v15 v16 v17 v42 v46 v48 S)
  (C_rules_index_names_3 QF r0 v3 v4 v5 v7 v15 v16 v17 v42 v46 undefA S)
def C_rules_index_names_1 (QF : AEnd → Store → Prop) (r0 : LE → Store → Prop) (v3 v4 v5 v7 v15 v16 v17 : AV) (S : Store) : Prop :=
  biW .lss v17 v16 fun v18 =>
  cnW v18 (iaW 2 v15 v17 fun v19 =>
  ldW S 2 true v19 fun v20 =>
  bfW 2 v20 fun v9 =>
  faW 0 v9 fun v26 =>
  ldW S 1 false v3 fun v22 =>
  nkW v22 fun v23 =>
  faW 1 v23 fun v24 =>
  ldW S 1 false v24 fun v25 =>
  ldW S 1 false v26 fun v27 =>
  lkW S (false, [.str]) true (.int .i64 0) v25 v27 fun v28 =>
  exW 0 v28 fun v29 =>
  exW 1 v28 fun v30 =>
  ldW S 1 false v3 fun v32 =>
  faW 0 v9 fun v33 =>
  ldW S 1 false v33 fun v34 =>
  faW 1 v9 fun v35 =>
  ldW S 1 false v35 fun v36 =>
  caW PG S (.func (.func 36) [] []) [v32, v34, v36] (fun v37 S =>
  exW 0 v37 fun v38 =>
  exW 1 v37 fun v39 =>
  bfW 2 v38 fun v12 =>
  ntW v30 fun v41 =>
  grW v41 false (faW 1 v9 fun v43 =>
  ldW S 1 false v43 fun v44 =>
  biW .neq v44 (.str ⟨#[]⟩) fun v45 =>
  C_rules_index_names_2 QF r0 v3 v4 v5 v7 v39 v15 v16 v17 v41 v45 S)
  (C_rules_index_names_2 QF r0 v3 v4 v5 v7 v39 v15 v16 v17 v41 undefA S)) (pqW QF))
  (faW 1 v5 fun v52 =>
  ldW S 1 false v52 fun v53 =>
  lnW S 1 v53 fun v54 =>
  biW .eql v54 (.int .i64 0) fun v55 =>
  cnW v55 (faW 2 v5 fun v56 =>
  ldW S 4 true v56 fun v57 =>
  caW PG S (.func (.func 69) [] []) [v57, (.bool false), (.func (.func 79) [] [v3, v4, v7])] (fun v59 S =>
  ldW S 1 false v7 fun v60 =>
  rtW [.tmp v60] QF S) (pqW QF))
  (ldW S 1 false v7 fun v60 =>
  rtW [.tmp v60] QF S))
def B_rules_index_names (QF : AEnd → Store → Prop) (v0 v1 v2 : AV) (S : Store) : Prop :=
  brW 1 v0 fun v3 =>
  brW 1 v1 fun v4 =>
  brW 6 v2 fun v5 =>
  alW S 31 [.int .i64 0] fun v7 S =>
  stW S 1 v7 (.int .i64 0) fun S =>
  faW 1 v5 fun v14 =>
  ldW S 1 false v14 fun v15 =>
  lnW S 1 v15 fun v16 =>
  LoopP (fun r0 l S => C_rules_index_names_1 QF r0 (lget l 3) (lget l 4) (lget l 5) (lget l 7) (lget l 15) (lget l 16) (lget l 17) S) [(3, v3), (4, v4), (5, v5), (7, v7), (15, v15), (16, v16), (17, (.int .i64 0))] S
theorem w_rules_index_names {QF : AEnd → Store → Prop} {v0 v1 v2 : AV} {S : Store} (h : B_rules_index_names QF v0 v1 v2 S) : ACalls PG nr_rules_index_names [v0, v1, v2] S QF :=
  acalls_tf (F := tf_rules_index_names) (by kernel_rfl) rfl (by kernel_rfl) h
def tf_ref11_Tokens : TFunc where
  n := 71
  args := 1
  res := [.tmp 2]
  code := .seq (.reg [i1 2 (.mov (.c (.nils)))] [0] []) (.seq (.reg [i1 3 (.mov (.c (.nils)))] [0, 3] []) (.seq (.reg [i1 4 (.mov (.c (.int .i64 1)))] [0, 3, 4] []) (.seq (.reg [i1 5 (.mov (.c (.int .i64 1)))] [0, 3, 4, 5] []) (.seq (.reg [i1 6 (.mov (.c (.int .i64 0)))] [0, 3, 4, 5, 6] []) (.seq (.block 0 (.loop [0, 3, 4, 5, 6] (.seq (.seq (.reg [i1 10 (.mov (.t 6)),
    i1 11 (.mov (.t 0)),
    i1 12 (.len 0 (.t 11)),
    i1 13 (.bin .lss (.t 10) (.t 12))] [0, 3, 4, 5, 6, 13] []) (.cond (.t 13) (.skip) (.exit 0))) (.block 1 (.seq (.reg [i1 14 (.mov (.t 0)),
    i1 15 (.mov (.t 6)),
    i1 16 (.idxs (.t 14) (.t 15)),
    i1 7 (.mov (.t 16))] [0, 3, 4, 5, 6, 7] []) (.seq (.seq (.reg [i1 17 (.mov (.t 7)),
    i1 18 (.bin .eql (.t 17) (.c (.int .u8 32))),
    i1 19 (.mov (.t 18)),
    .grp 19 false [s1 20 (.mov (.t 7)), s1 21 (.bin .eql (.t 20) (.c (.int .u8 9)))],
    i1 22 (.pick (.t 19) (.c (.bool true)) (.t 21)),
    i1 23 (.mov (.t 22)),
    .grp 23 false [s1 24 (.mov (.t 7)), s1 25 (.bin .eql (.t 24) (.c (.int .u8 10)))],
    i1 26 (.pick (.t 23) (.c (.bool true)) (.t 25))] [0, 3, 4, 5, 6, 7, 26] []) (.cond (.t 26) (.seq (.reg [i1 27 (.mov (.t 5)),
    i1 28 (.bin .add (.t 27) (.c (.int .i64 1))),
    i1 5 (.mov (.t 28))] [0, 3, 4, 5, 6, 7] []) (.seq (.seq (.reg [i1 29 (.mov (.t 7)),
    i1 30 (.bin .eql (.t 29) (.c (.int .u8 10)))] [0, 3, 4, 5, 6, 30] []) (.cond (.t 30) (.seq (.reg [i1 31 (.mov (.t 4)),
    i1 32 (.bin .add (.t 31) (.c (.int .i64 1))),
    i1 4 (.mov (.t 32))] [0, 3, 4, 6] []) (.reg [i1 5 (.mov (.c (.int .i64 1)))] [0, 3, 4, 5, 6] [])) (.skip))) (.seq (.reg [i1 33 (.mov (.t 6)),
    i1 34 (.bin .add (.t 33) (.c (.int .i64 1))),
    i1 6 (.mov (.t 34))] [0, 3, 4, 5, 6] []) (.exit 1)))) (.skip))) (.seq (.reg [i1 35 (.mov (.t 0)),
    i1 36 (.mov (.t 6)),
    i1 37 (.slics (.t 35) (some (.t 36)) none),
    i1 38 (.call (.f 84) [.t 37]),
    i1 8 (.mov (.t 38))] [0, 3, 4, 5, 6, 7, 8] []) (.seq (.reg [i1 39 (.mov (.t 0)),
    i1 40 (.mov (.t 6)),
    i1 41 (.mov (.t 6)),
    i1 42 (.mov (.t 8)),
    i1 43 (.bin .add (.t 41) (.t 42)),
    i1 44 (.slics (.t 39) (some (.t 40)) (some (.t 43))),
    i1 9 (.mov (.t 44))] [0, 3, 4, 5, 6, 7, 8, 9] []) (.seq (.seq (.reg [i1 45 (.mov (.t 8)),
    i1 46 (.bin .eql (.t 45) (.c (.int .i64 0)))] [0, 3, 4, 5, 6, 7, 8, 9, 46] []) (.cond (.t 46) (.seq (.reg [i1 47 (.mov (.t 7)),
    i1 48 (.call (.f 85) [.t 47]),
    i1 9 (.mov (.t 48))] [0, 3, 4, 5, 6, 9] []) (.reg [i1 8 (.mov (.c (.int .i64 1)))] [0, 3, 4, 5, 6, 8, 9] [])) (.skip))) (.seq (.reg [i1 49 (.mov (.t 3)),
    i1 50 (.mov (.t 9)),
    i1 51 (.mov (.t 4)),
    i1 52 (.mov (.t 5)),
    i1 53 (.build [.str ⟨#[]⟩, .int .i64 0, .int .i64 0] [(0, 1, .t 50), (1, 1, .t 51), (2, 1, .t 52)]),
    i1 54 (.bslicr 130 3 [.t 53]),
    i1 55 (.app 130 3 32 (.t 49) (.t 54)),
    i1 3 (.mov (.t 55))] [0, 3, 4, 5, 6, 8, 9] []) (.seq (.seq (.reg [i1 56 (.mov (.t 9)),
    i1 57 (.bin .eql (.t 56) (.c (.str ⟨#[63]⟩)))] [0, 3, 4, 5, 6, 8, 57] []) (.cond (.t 57) (.seq (.reg [i1 58 (.mov (.t 3)),
    i1 2 (.mov (.t 58))] [2] []) (.ret)) (.skip))) (.seq (.reg [i1 59 (.mov (.t 6)),
    i1 60 (.mov (.t 8)),
    i1 61 (.bin .add (.t 59) (.t 60)),
    i1 6 (.mov (.t 61))] [0, 3, 4, 5, 6, 8] []) (.reg [i1 62 (.mov (.t 5)),
    i1 63 (.mov (.t 8)),
    i1 64 (.bin .add (.t 62) (.t 63)),
    i1 5 (.mov (.t 64))] [0, 3, 4, 5, 6] []))))))))))))) (.seq (.reg [i1 65 (.mov (.t 3)),
    i1 66 (.mov (.t 4)),
    i1 67 (.mov (.t 5)),
    i1 68 (.build [.str ⟨#[]⟩, .int .i64 0, .int .i64 0] [(1, 1, .t 66), (2, 1, .t 67)]),
    i1 69 (.bslicr 130 3 [.t 68]),
    i1 70 (.app 130 3 32 (.t 65) (.t 69)),
    i1 2 (.mov (.t 70))] [2] []) (.ret)))))))
abbrev nr_ref11_Tokens : Nat := 57
def C_ref11_Tokens_4 (QF : AEnd → Store → Prop) (r0 : LE → Store → Prop) (v0 v3 v4 v5 v6 v8 v9 : AV) (S : Store) : Prop :=
  bdW [.str ⟨#[]⟩, .int .i64 0, .int .i64 0] [(0, 1, v9), (1, 1, v4), (2, 1, v5)] fun v53 =>
  srW 3 [v53] fun v54 =>
  apW S 130 3 32 v3 v54 fun v55 S =>
  biW .eql v9 (.str ⟨#[63]⟩) fun v57 =>
  cnW v57 (rtW [.tmp v55] QF S)
  (biW .add v6 v8 fun v61 =>
  biW .add v5 v8 fun v64 =>
  rcW r0 [(0, v0), (3, v55), (4, v4), (5, v64), (6, v61)] S)
def C_ref11_Tokens_3 (QF : AEnd → Store → Prop) (r0 : LE → Store → Prop) (v0 v3 v4 v5 v6 v7 v26 : AV) (S : Store) : Prop :=
  cnW v26 (biW .add v5 (.int .i64 1) fun v28 =>
  biW .eql v7 (.int .u8 10) fun v30 =>
  cnW v30 (biW .add v4 (.int .i64 1) fun v32 =>
  biW .add v6 (.int .i64 1) fun v34 =>
  rcW r0 [(0, v0), (3, v3), (4, v32), (5, (.int .i64 1)), (6, v34)] S)
  (biW .add v6 (.int .i64 1) fun v34 =>
  rcW r0 [(0, v0), (3, v3), (4, v4), (5, v28), (6, v34)] S))
  (ssW v0 (some v6) none fun v37 =>
  caW PG S (.func (.func 84) [] []) [v37] (fun v38 S =>
  biW .add v6 v38 fun v43 =>
  ssW v0 (some v6) (some v43) fun v44 =>
  biW .eql v38 (.int .i64 0) fun v46 =>
  cnW v46 (caW PG S (.func (.func 85) [] []) [v7] (fun v48 S =>
  C_ref11_Tokens_4 QF r0 v0 v3 v4 v5 v6 (.int .i64 1) v48 S) (pqW QF))
  (C_ref11_Tokens_4 QF r0 v0 v3 v4 v5 v6 v38 v44 S)) (pqW QF))
def C_ref11_Tokens_2 (QF : AEnd → Store → Prop) (r0 : LE → Store → Prop) (v0 v3 v4 v5 v6 v7 v22 : AV) (S : Store) : Prop :=
  grW v22 false (biW .eql v7 (.int .u8 10) fun v25 =>
  pkW v22 (.bool true) v25 fun v26 =>
  C_ref11_Tokens_3 QF r0 v0 v3 v4 v5 v6 v7 v26 S)
  (pkW v22 (.bool true) undefA fun v26 =>
  C_ref11_Tokens_3 QF r0 v0 v3 v4 v5 v6 v7 v26 S)
def C_ref11_Tokens_1 (QF : AEnd → Store → Prop) (r0 : LE → Store → Prop) (v0 v3 v4 v5 v6 : AV) (S : Store) : Prop :=
  lnW S 0 v0 fun v12 =>
  biW .lss v6 v12 fun v13 =>
  cnW v13 (isW v0 v6 fun v16 =>
  biW .eql v16 (.int .u8 32) fun v18 =>
  grW v18 false (biW .eql v16 (.int .u8 9) fun v21 =>
  pkW v18 (.bool true) v21 fun v22 =>
  C_ref11_Tokens_2 QF r0 v0 v3 v4 v5 v6 v16 v22 S)
  (pkW v18 (.bool true) undefA fun v22 =>
  C_ref11_Tokens_2 QF r0 v0 v3 v4 v5 v6 v16 v22 S))
  (bdW [.str ⟨#[]⟩, .int .i64 0, .int .i64 0] [(1, 1, v4), (2, 1, v5)] fun v68 =>
  srW 3 [v68] fun v69 =>
  apW S 130 3 32 v3 v69 fun v70 S =>
  rtW [.tmp v70] QF S)
def B_ref11_Tokens (QF : AEnd → Store → Prop) (v0 : AV) (S : Store) : Prop :=
  LoopP (fun r0 l S => C_ref11_Tokens_1 QF r0 (lget l 0) (lget l 3) (lget l 4) (lget l 5) (lget l 6) S) [(0, v0), (3, (.nils)), (4, (.int .i64 1)), (5, (.int .i64 1)), (6, (.int .i64 0))] S
theorem w_ref11_Tokens {QF : AEnd → Store → Prop} {v0 : AV} {S : Store} (h : B_ref11_Tokens QF v0 S) : ACalls PG nr_ref11_Tokens [v0] S QF :=
  acalls_tf (F := tf_ref11_Tokens) (by kernel_rfl) rfl (by kernel_rfl) h
def tf_ref11_Reader_is : TFunc where
  n := 33
  args := 2
  res := [.tmp 4]
  code := .seq (.reg [i1 4 (.mov (.c (.bool false)))] [0, 1] []) (.seq (.seq (.regl [0, 1, 2, 3, 4, 5, 6, 7, 8, 9, 11, 12, 13, 18, 10, 14, 15, 16, 17, 19, 20] [i1 5 (.mov (.t 0)),
    i1 6 (.nilck (.t 5)),
    i1 7 (.faddr 3 (.t 6)),
    i1 8 (.faddr 2 (.t 7)),
    i1 9 (.load 1 false (.t 8)),
    i1 10 (.bin .neq (.t 9) (.c (.int .i64 0))),
    i1 11 (.mov (.t 10)),
    .grp 11 false [s1 12 (.mov (.t 0)), s1 13 (.nilck (.t 12)), s1 14 (.faddr 0 (.t 13)), s1 16 (.mov (.t 0)), s1 17 (.nilck (.t 16)), s1 18 (.faddr 1 (.t 17)), s1 23 (.mov (.t 1)), s1 15 (.load 1 false (.t 14)), s1 19 (.load 1 false (.t 18)), s1 20 (.iaddr 3 (.t 15) (.t 19)), s1 21 (.faddr 0 (.t 20)), s1 22 (.load 1 false (.t 21)), s1 24 (.bin .neq (.t 22) (.t 23))],
    i1 25 (.pick (.t 11) (.c (.bool true)) (.t 24))] [0, 25] []) (.cond (.t 25) (.seq (.reg [i1 4 (.mov (.c (.bool false)))] [4] []) (.ret)) (.skip))) (.seq (.reg [i1 26 (.mov (.t 0)),
    i1 27 (.nilck (.t 26)),
    i1 28 (.faddr 1 (.t 27)),
    i1 29 (.load 1 false (.t 28)),
    i1 30 (.bin .add (.t 29) (.c (.int .i64 1))),
    i1 31 (.nilck (.t 26)),
    i1 32 (.faddr 1 (.t 31)),
    i0 (.store 1 (.t 32) (.t 30))] [] []) (.seq (.reg [i1 4 (.mov (.c (.bool true)))] [4] []) (.ret))))
abbrev nr_ref11_Reader_is : Nat := 58
def C_ref11_Reader_is_1 (QF : AEnd → Store → Prop) (v0 v25 : AV) (S : Store) : Prop :=
  cnW v25 (rtW [.tmp (.bool false)] QF S)
  (nkW v0 fun v27 =>
  faW 1 v27 fun v28 =>
  ldW S 1 false v28 fun v29 =>
  biW .add v29 (.int .i64 1) fun v30 =>
  nkW v0 fun v31 =>
  faW 1 v31 fun v32 =>
  stW S 1 v32 v30 fun S =>
  rtW [.tmp (.bool true)] QF S)
def B_ref11_Reader_is (QF : AEnd → Store → Prop) (v0 v1 : AV) (S : Store) : Prop :=
  nkW v0 fun v6 =>
  faW 3 v6 fun v7 =>
  faW 2 v7 fun v8 =>
  ldW S 1 false v8 fun v9 =>
  biW .neq v9 (.int .i64 0) fun v10 =>
  grW v10 false (nkW v0 fun v13 =>
  faW 0 v13 fun v14 =>
  nkW v0 fun v17 =>
  faW 1 v17 fun v18 =>
  ldW S 1 false v14 fun v15 =>
  ldW S 1 false v18 fun v19 =>
  iaW 3 v15 v19 fun v20 =>
  faW 0 v20 fun v21 =>
  ldW S 1 false v21 fun v22 =>
  biW .neq v22 v1 fun v24 =>
  pkW v10 (.bool true) v24 fun v25 =>
  C_ref11_Reader_is_1 QF v0 v25 S)
  (pkW v10 (.bool true) undefA fun v25 =>
  C_ref11_Reader_is_1 QF v0 v25 S)
theorem w_ref11_Reader_is {QF : AEnd → Store → Prop} {v0 v1 : AV} {S : Store} (h : B_ref11_Reader_is QF v0 v1 S) : ACalls PG nr_ref11_Reader_is [v0, v1] S QF :=
  acalls_tf (F := tf_ref11_Reader_is) (by kernel_rfl) rfl (by kernel_rfl) h
def tf_ref11_Reader_name : TFunc where
  n := 32
  args := 1
  res := [.tmp 2]
  code := .seq (.reg [i1 2 (.mov (.c (.str ⟨#[]⟩)))] [0] []) (.seq (.reg [i1 5 (.mov (.t 0)),
    i1 6 (.call (.f 61) [.t 5]),
    .box2 3 130 [.str ⟨#[]⟩, .int .i64 0, .int .i64 0] 3 (.t 6)] [0, 3] []) (.seq (.reg [i1 7 (.faddr 0 (.t 3)),
    i1 8 (.load 1 false (.t 7)),
    i1 9 (.call (.f 81) [.t 8]),
    i1 4 (.mov (.t 9))] [0, 3, 4] []) (.seq (.seq (.reg [i1 10 (.mov (.t 4)),
    i1 11 (.not (.t 10)),
    i1 12 (.mov (.t 11)),
    .grp 12 false [s1 13 (.mov (.t 0)), s1 14 (.nilck (.t 13)), s1 15 (.faddr 3 (.t 14)), s1 16 (.faddr 2 (.t 15)), s1 17 (.load 1 false (.t 16)), s1 18 (.bin .neq (.t 17) (.c (.int .i64 0)))],
    i1 19 (.pick (.t 12) (.c (.bool true)) (.t 18))] [0, 3, 19] []) (.cond (.t 19) (.seq (.reg [i1 20 (.mov (.t 0)),
    i1 21 (.load 3 true (.t 3)),
    i1 22 (.call (.f 62) [.t 20, .t 21, .c (.int .i64 8)])] [] []) (.seq (.reg [i1 2 (.mov (.c (.str ⟨#[]⟩)))] [2] []) (.ret))) (.skip))) (.seq (.reg [i1 23 (.mov (.t 0)),
    i1 24 (.nilck (.t 23)),
    i1 25 (.faddr 1 (.t 24)),
    i1 26 (.load 1 false (.t 25)),
    i1 27 (.bin .add (.t 26) (.c (.int .i64 1))),
    i1 28 (.nilck (.t 23)),
    i1 29 (.faddr 1 (.t 28)),
    i0 (.store 1 (.t 29) (.t 27))] [3] []) (.seq (.reg [i1 30 (.faddr 0 (.t 3)),
    i1 31 (.load 1 false (.t 30)),
    i1 2 (.mov (.t 31))] [2] []) (.ret))))))
abbrev nr_ref11_Reader_name : Nat := 59
def C_ref11_Reader_name_1 (QF : AEnd → Store → Prop) (v0 v3 v19 : AV) (S : Store) : Prop :=
  cnW v19 (ldW S 3 true v3 fun v21 =>
  caW PG S (.func (.func 62) [] []) [v0, v21, (.int .i64 8)] (fun v22 S =>
  rtW [.tmp (.str ⟨#[]⟩)] QF S) (pqW QF))
  (nkW v0 fun v24 =>
  faW 1 v24 fun v25 =>
  ldW S 1 false v25 fun v26 =>
  biW .add v26 (.int .i64 1) fun v27 =>
  nkW v0 fun v28 =>
  faW 1 v28 fun v29 =>
  stW S 1 v29 v27 fun S =>
  faW 0 v3 fun v30 =>
  ldW S 1 false v30 fun v31 =>
  rtW [.tmp v31] QF S)
def B_ref11_Reader_name (QF : AEnd → Store → Prop) (v0 : AV) (S : Store) : Prop :=
  caW PG S (.func (.func 61) [] []) [v0] (fun v6 S =>
  bfW 3 v6 fun v3 =>
  faW 0 v3 fun v7 =>
  ldW S 1 false v7 fun v8 =>
  caW PG S (.func (.func 81) [] []) [v8] (fun v9 S =>
  ntW v9 fun v11 =>
  grW v11 false (nkW v0 fun v14 =>
  faW 3 v14 fun v15 =>
  faW 2 v15 fun v16 =>
  ldW S 1 false v16 fun v17 =>
  biW .neq v17 (.int .i64 0) fun v18 =>
  pkW v11 (.bool true) v18 fun v19 =>
  C_ref11_Reader_name_1 QF v0 v3 v19 S)
  (pkW v11 (.bool true) undefA fun v19 =>
  C_ref11_Reader_name_1 QF v0 v3 v19 S)) (pqW QF)) (pqW QF)
theorem w_ref11_Reader_name {QF : AEnd → Store → Prop} {v0 : AV} {S : Store} (h : B_ref11_Reader_name QF v0 S) : ACalls PG nr_ref11_Reader_name [v0] S QF :=
  acalls_tf (F := tf_ref11_Reader_name) (by kernel_rfl) rfl (by kernel_rfl) h
def tf_ref11_Reader_rel : TFunc where
  n := 42
  args := 1
  res := [.cell 2 6 true, .tmp 3]
  code := .seq (.reg [i1 2 (.alloc 43 [.str ⟨#[]⟩, .nils, .int .i64 0, .str ⟨#[]⟩, .str ⟨#[]⟩, .nils]),
    i1 3 (.mov (.c (.bool false)))] [0, 2] []) (.seq (.reg [i1 5 (.build [.str ⟨#[]⟩, .nils, .int .i64 0, .str ⟨#[]⟩, .str ⟨#[]⟩, .nils] []),
    i1 4 (.alloc 43 [.str ⟨#[]⟩, .nils, .int .i64 0, .str ⟨#[]⟩, .str ⟨#[]⟩, .nils]),
    i0 (.store 6 (.t 4) (.t 5))] [0, 2, 4] []) (.seq (.seq (.reg [i1 6 (.mov (.t 0)),
    i1 7 (.call (.f 58) [.t 6, .c (.str ⟨#[114, 101, 108, 97, 116, 105, 111, 110]⟩)])] [0, 2, 4, 7] []) (.cond (.t 7) (.seq (.reg [i1 8 (.mov (.t 0)),
    i1 9 (.call (.f 59) [.t 8]),
    i1 10 (.faddr 0 (.t 4)),
    i0 (.store 1 (.t 10) (.t 9))] [0, 2, 4] []) (.seq (.reg [i1 11 (.mov (.t 0)),
    i1 12 (.call (.f 86) [.t 11, .c (.str ⟨#[58]⟩)])] [0, 2, 4] []) (.seq (.regl [0, 2, 1, 3, 4, 5, 6, 7] [i1 13 (.faddr 1 (.t 4)),
    i1 15 (.mov (.t 0)),
    i1 14 (.load 1 false (.t 13)),
    .one { d := some 16, o := .call (.f 87) [.t 15], x := [13] },
    i1 17 (.bslicr 53 2 [.t 16]),
    i1 18 (.app 53 2 32 (.t 14) (.t 17)),
    i1 19 (.faddr 1 (.t 4)),
    i0 (.store 1 (.t 19) (.t 18))] [0, 2, 4] []) (.seq (.block 0 (.loop [0, 2, 4] (.seq (.seq (.reg [i1 20 (.mov (.t 0)),
    i1 21 (.call (.f 58) [.t 20, .c (.str ⟨#[124]⟩)])] [0, 2, 4, 21] []) (.cond (.t 21) (.skip) (.exit 0))) (.block 1 (.regl [0, 2, 1, 3, 4, 5, 6, 7] [i1 22 (.faddr 1 (.t 4)),
    i1 24 (.mov (.t 0)),
    i1 23 (.load 1 false (.t 22)),
    .one { d := some 25, o := .call (.f 87) [.t 24], x := [22] },
    i1 26 (.bslicr 53 2 [.t 25]),
    i1 27 (.app 53 2 32 (.t 23) (.t 26)),
    i1 28 (.faddr 1 (.t 4)),
    i0 (.store 1 (.t 28) (.t 27))] [0, 2, 4] []))))) (.seq (.reg [i1 29 (.load 6 true (.t 4)),
    i0 (.store 6 (.t 2) (.t 29)),
    i1 3 (.mov (.c (.bool true)))] [2, 3] []) (.ret)))))) (.skip))) (.seq (.seq (.reg [i1 30 (.mov (.t 0)),
    i1 31 (.call (.f 58) [.t 30, .c (.str ⟨#[100, 101, 102, 105, 110, 101]⟩)])] [0, 2, 4, 31] []) (.cond (.t 31) (.seq (.reg [i1 32 (.mov (.t 0)),
    i1 33 (.call (.f 59) [.t 32]),
    i1 34 (.faddr 0 (.t 4)),
    i0 (.store 1 (.t 34) (.t 33))] [0, 2, 4] []) (.seq (.reg [i1 35 (.mov (.t 0)),
    i1 36 (.call (.f 86) [.t 35, .c (.str ⟨#[58]⟩)])] [0, 2, 4] []) (.seq (.reg [i1 37 (.mov (.t 0)),
    i1 38 (.call (.f 88) [.t 37]),
    i1 39 (.faddr 2 (.t 4)),
    i0 (.store 4 (.t 39) (.t 38))] [2, 4] []) (.seq (.reg [i1 40 (.load 6 true (.t 4)),
    i0 (.store 6 (.t 2) (.t 40)),
    i1 3 (.mov (.c (.bool true)))] [2, 3] []) (.ret))))) (.skip))) (.seq (.reg [i1 41 (.load 6 true (.t 4)),
    i0 (.store 6 (.t 2) (.t 41)),
    i1 3 (.mov (.c (.bool false)))] [2, 3] []) (.ret)))))
abbrev nr_ref11_Reader_rel : Nat := 60
def C_ref11_Reader_rel_1 (QF : AEnd → Store → Prop) (r0 : LE → Store → Prop) (v0 v2 v4 : AV) (S : Store) : Prop :=
  caW PG S (.func (.func 58) [] []) [v0, (.str ⟨#[124]⟩)] (fun v21 S =>
  cnW v21 (faW 1 v4 fun v22 =>
  ldW S 1 false v22 fun v23 =>
  caW PG S (.func (.func 87) [] []) [v0] (fun v25 S2 =>
  kpW [v22] S S2 (
  srW 2 [v25] fun v26 =>
  apW S2 53 2 32 v23 v26 fun v27 S =>
  faW 1 v4 fun v28 =>
  stW S 1 v28 v27 fun S =>
  rcW r0 [(0, v0), (2, v2), (4, v4)] S)) (pqW QF))
  (ldW S 6 true v4 fun v29 =>
  stW S 6 v2 v29 fun S =>
  rtW [.cell v2 6 true, .tmp (.bool true)] QF S)) (pqW QF)
def B_ref11_Reader_rel (QF : AEnd → Store → Prop) (v0 : AV) (S : Store) : Prop :=
  alW S 43 [.str ⟨#[]⟩, .nils, .int .i64 0, .str ⟨#[]⟩, .str ⟨#[]⟩, .nils] fun v2 S =>
  bdW [.str ⟨#[]⟩, .nils, .int .i64 0, .str ⟨#[]⟩, .str ⟨#[]⟩, .nils] [] fun v5 =>
  alW S 43 [.str ⟨#[]⟩, .nils, .int .i64 0, .str ⟨#[]⟩, .str ⟨#[]⟩, .nils] fun v4 S =>
  stW S 6 v4 v5 fun S =>
  caW PG S (.func (.func 58) [] []) [v0, (.str ⟨#[114, 101, 108, 97, 116, 105, 111, 110]⟩)] (fun v7 S =>
  cnW v7 (caW PG S (.func (.func 59) [] []) [v0] (fun v9 S =>
  faW 0 v4 fun v10 =>
  stW S 1 v10 v9 fun S =>
  caW PG S (.func (.func 86) [] []) [v0, (.str ⟨#[58]⟩)] (fun v12 S =>
  faW 1 v4 fun v13 =>
  ldW S 1 false v13 fun v14 =>
  caW PG S (.func (.func 87) [] []) [v0] (fun v16 S1 =>
  kpW [v13] S S1 (
  srW 2 [v16] fun v17 =>
  apW S1 53 2 32 v14 v17 fun v18 S =>
  faW 1 v4 fun v19 =>
  stW S 1 v19 v18 fun S =>
  LoopP (fun r0 l S => C_ref11_Reader_rel_1 QF r0 (lget l 0) (lget l 2) (lget l 4) S) [(0, v0), (2, v2), (4, v4)] S)) (pqW QF)) (pqW QF)) (pqW QF))
  (caW PG S (.func (.func 58) [] []) [v0, (.str ⟨#[100, 101, 102, 105, 110, 101]⟩)] (fun v31 S =>
  cnW v31 (caW PG S (.func (.func 59) [] []) [v0] (fun v33 S =>
  faW 0 v4 fun v34 =>
  stW S 1 v34 v33 fun S =>
  caW PG S (.func (.func 86) [] []) [v0, (.str ⟨#[58]⟩)] (fun v36 S =>
  caW PG S (.func (.func 88) [] []) [v0] (fun v38 S =>
  faW 2 v4 fun v39 =>
  stW S 4 v39 v38 fun S =>
  ldW S 6 true v4 fun v40 =>
  stW S 6 v2 v40 fun S =>
  rtW [.cell v2 6 true, .tmp (.bool true)] QF S) (pqW QF)) (pqW QF)) (pqW QF))
  (ldW S 6 true v4 fun v41 =>
  stW S 6 v2 v41 fun S =>
  rtW [.cell v2 6 true, .tmp (.bool false)] QF S)) (pqW QF))) (pqW QF)
theorem w_ref11_Reader_rel {QF : AEnd → Store → Prop} {v0 : AV} {S : Store} (h : B_ref11_Reader_rel QF v0 S) : ACalls PG nr_ref11_Reader_rel [v0] S QF :=
  acalls_tf (F := tf_ref11_Reader_rel) (by kernel_rfl) rfl (by kernel_rfl) h
def tf_ref11_Reader_next : TFunc where
  n := 13
  args := 1
  res := [.cell 2 3 true]
  code := .seq (.reg [i1 2 (.alloc 130 [.str ⟨#[]⟩, .int .i64 0, .int .i64 0])] [0, 2] []) (.seq (.regl [0, 1, 2, 4, 5, 6, 3, 7, 8, 9, 10] [i1 3 (.mov (.t 0)),
    i1 4 (.nilck (.t 3)),
    i1 5 (.faddr 0 (.t 4)),
    i1 7 (.mov (.t 0)),
    i1 8 (.nilck (.t 7)),
    i1 9 (.faddr 1 (.t 8)),
    i1 6 (.load 1 false (.t 5)),
    i1 10 (.load 1 false (.t 9)),
    i1 11 (.iaddr 3 (.t 6) (.t 10)),
    i1 12 (.load 3 true (.t 11)),
    i0 (.store 3 (.t 2) (.t 12))] [2] [2]) (.ret))
abbrev nr_ref11_Reader_next : Nat := 61
def B_ref11_Reader_next (QF : AEnd → Store → Prop) (v0 : AV) (S : Store) : Prop :=
  alW S 130 [.str ⟨#[]⟩, .int .i64 0, .int .i64 0] fun v2 S =>
  nkW v0 fun v4 =>
  faW 0 v4 fun v5 =>
  nkW v0 fun v8 =>
  faW 1 v8 fun v9 =>
  ldW S 1 false v5 fun v6 =>
  ldW S 1 false v9 fun v10 =>
  iaW 3 v6 v10 fun v11 =>
  ldW S 3 true v11 fun v12 =>
  stW S 3 v2 v12 fun S =>
  fzW S v2 fun v2 S =>
  rtW [.cell v2 3 true] QF S
theorem w_ref11_Reader_next {QF : AEnd → Store → Prop} {v0 : AV} {S : Store} (h : B_ref11_Reader_next QF v0 S) : ACalls PG nr_ref11_Reader_next [v0] S QF :=
  acalls_tf (F := tf_ref11_Reader_next) (by kernel_rfl) rfl (by kernel_rfl) h
def tf_ref11_Reader_fail : TFunc where
  n := 21
  args := 3
  res := []
  code := .seq (.reg [i1 4 (.boxr 130 3 (.t 1))] [0, 2, 4] []) (.seq (.reg [i1 6 (.mov (.t 0)),
    i1 7 (.nilck (.t 6)),
    i1 8 (.faddr 3 (.t 7)),
    i1 9 (.faddr 2 (.t 8)),
    i1 10 (.load 1 false (.t 9)),
    i1 11 (.bin .eql (.t 10) (.c (.int .i64 0)))] [0, 2, 4, 11] []) (.cond (.t 11) (.reg [i1 12 (.mov (.t 0)),
    i1 13 (.faddr 1 (.t 4)),
    i1 14 (.load 1 false (.t 13)),
    i1 15 (.faddr 2 (.t 4)),
    i1 16 (.load 1 false (.t 15)),
    i1 17 (.mov (.t 2)),
    i1 18 (.build [.int .i64 0, .int .i64 0, .int .i64 0] [(0, 1, .t 14), (1, 1, .t 16), (2, 1, .t 17)]),
    i1 19 (.nilck (.t 12)),
    i1 20 (.faddr 3 (.t 19)),
    i0 (.store 3 (.t 20) (.t 18))] [] []) (.skip)))
abbrev nr_ref11_Reader_fail : Nat := 62
def B_ref11_Reader_fail (QF : AEnd → Store → Prop) (v0 v1 v2 : AV) (S : Store) : Prop :=
  brW 3 v1 fun v4 =>
  nkW v0 fun v7 =>
  faW 3 v7 fun v8 =>
  faW 2 v8 fun v9 =>
  ldW S 1 false v9 fun v10 =>
  biW .eql v10 (.int .i64 0) fun v11 =>
  cnW v11 (faW 1 v4 fun v13 =>
  ldW S 1 false v13 fun v14 =>
  faW 2 v4 fun v15 =>
  ldW S 1 false v15 fun v16 =>
  bdW [.int .i64 0, .int .i64 0, .int .i64 0] [(0, 1, v14), (1, 1, v16), (2, 1, v2)] fun v18 =>
  nkW v0 fun v19 =>
  faW 3 v19 fun v20 =>
  stW S 3 v20 v18 fun S =>
  rtW [] QF S)
  (rtW [] QF S)
theorem w_ref11_Reader_fail {QF : AEnd → Store → Prop} {v0 v1 v2 : AV} {S : Store} (h : B_ref11_Reader_fail QF v0 v1 v2 S) : ACalls PG nr_ref11_Reader_fail [v0, v1, v2] S QF :=
  acalls_tf (F := tf_ref11_Reader_fail) (by kernel_rfl) rfl (by kernel_rfl) h
def tf_ref10_Tuple : TFunc where
  n := 62
  args := 1
  res := [.cell 2 6 true, .tmp 3]
  code := .seq (.reg [i1 2 (.alloc 95 [.str ⟨#[]⟩, .str ⟨#[]⟩, .str ⟨#[]⟩, .str ⟨#[]⟩, .str ⟨#[]⟩, .str ⟨#[]⟩]),
    i1 3 (.mov (.c (.bool false)))] [0, 2] []) (.seq (.reg [i1 16 (.mov (.t 0)),
    i1 17 (.call (.f 89) [.t 16, .c (.int .u8 64)]),
    i1 15 (.mov (.t 17)),
    i1 18 (.extr (.t 15) 0),
    i1 19 (.extr (.t 15) 1),
    i1 20 (.extr (.t 15) 2),
    i1 4 (.mov (.t 18)),
    i1 5 (.mov (.t 19)),
    i1 6 (.mov (.t 20))] [2, 4, 5, 6] []) (.seq (.reg [i1 22 (.mov (.t 4)),
    i1 23 (.call (.f 89) [.t 22, .c (.int .u8 35)]),
    i1 21 (.mov (.t 23)),
    i1 24 (.extr (.t 21) 0),
    i1 25 (.extr (.t 21) 1),
    i1 26 (.extr (.t 21) 2),
    i1 7 (.mov (.t 24)),
    i1 8 (.mov (.t 25)),
    i1 9 (.mov (.t 26))] [2, 5, 6, 7, 8, 9] []) (.seq (.reg [i1 28 (.mov (.t 7)),
    i1 29 (.call (.f 90) [.t 28]),
    i1 27 (.mov (.t 29)),
    i1 30 (.extr (.t 27) 0),
    i1 31 (.extr (.t 27) 1),
    .box2 10 56 [.str ⟨#[]⟩, .str ⟨#[]⟩] 2 (.t 30),
    i1 11 (.mov (.t 31))] [2, 5, 6, 8, 9, 10, 11] []) (.seq (.reg [i1 33 (.mov (.t 5)),
    i1 34 (.call (.f 91) [.t 33]),
    i1 32 (.mov (.t 34)),
    i1 35 (.extr (.t 32) 0),
    i1 36 (.extr (.t 32) 1),
    .box2 12 93 [.str ⟨#[]⟩, .str ⟨#[]⟩, .str ⟨#[]⟩] 3 (.t 35),
    i1 13 (.mov (.t 36))] [2, 6, 8, 9, 10, 11, 12, 13] []) (.seq (.reg [i1 37 (.mov (.t 8)),
    i1 38 (.call (.f 81) [.t 37]),
    i1 14 (.mov (.t 38))] [2, 6, 8, 9, 10, 11, 12, 13, 14] []) (.seq (.seq (.reg [i1 39 (.mov (.t 6)),
    i1 40 (.not (.t 39)),
    i1 41 (.mov (.t 40)),
    .grp 41 false [s1 42 (.mov (.t 9)), s1 43 (.not (.t 42))],
    i1 44 (.pick (.t 41) (.c (.bool true)) (.t 43)),
    i1 45 (.mov (.t 44)),
    .grp 45 false [s1 46 (.mov (.t 11)), s1 47 (.not (.t 46))],
    i1 48 (.pick (.t 45) (.c (.bool true)) (.t 47)),
    i1 49 (.mov (.t 48)),
    .grp 49 false [s1 50 (.mov (.t 13)), s1 51 (.not (.t 50))],
    i1 52 (.pick (.t 49) (.c (.bool true)) (.t 51)),
    i1 53 (.mov (.t 52)),
    .grp 53 false [s1 54 (.mov (.t 14)), s1 55 (.not (.t 54))],
    i1 56 (.pick (.t 53) (.c (.bool true)) (.t 55))] [2, 8, 10, 12, 56] []) (.cond (.t 56) (.seq (.reg [i1 57 (.build [.str ⟨#[]⟩, .str ⟨#[]⟩, .str ⟨#[]⟩, .str ⟨#[]⟩, .str ⟨#[]⟩, .str ⟨#[]⟩] []),
    i0 (.store 6 (.t 2) (.t 57)),
    i1 3 (.mov (.c (.bool false)))] [2, 3] []) (.ret)) (.skip))) (.seq (.reg [i1 58 (.load 2 true (.t 10)),
    i1 59 (.mov (.t 8)),
    i1 60 (.load 3 true (.t 12)),
    i1 61 (.build [.str ⟨#[]⟩, .str ⟨#[]⟩, .str ⟨#[]⟩, .str ⟨#[]⟩, .str ⟨#[]⟩, .str ⟨#[]⟩] [(0, 2, .t 58), (2, 1, .t 59), (3, 3, .t 60)]),
    i0 (.store 6 (.t 2) (.t 61)),
    i1 3 (.mov (.c (.bool true)))] [2, 3] []) (.ret))))))))
abbrev nr_ref10_Tuple : Nat := 63
def C_ref10_Tuple_4 (QF : AEnd → Store → Prop) (v2 v8 v10 v12 v56 : AV) (S : Store) : Prop :=
  cnW v56 (bdW [.str ⟨#[]⟩, .str ⟨#[]⟩, .str ⟨#[]⟩, .str ⟨#[]⟩, .str ⟨#[]⟩, .str ⟨#[]⟩] [] fun v57 =>
  stW S 6 v2 v57 fun S =>
  rtW [.cell v2 6 true, .tmp (.bool false)] QF S)
  (ldW S 2 true v10 fun v58 =>
  ldW S 3 true v12 fun v60 =>
  bdW [.str ⟨#[]⟩, .str ⟨#[]⟩, .str ⟨#[]⟩, .str ⟨#[]⟩, .str ⟨#[]⟩, .str ⟨#[]⟩] [(0, 2, v58), (2, 1, v8), (3, 3, v60)] fun v61 =>
  stW S 6 v2 v61 fun S =>
  rtW [.cell v2 6 true, .tmp (.bool true)] QF S)
def C_ref10_Tuple_3 (QF : AEnd → Store → Prop) (v2 v8 v10 v12 v14 v52 : AV) (S : Store) : Prop :=
  grW v52 false (ntW v14 fun v55 =>
  pkW v52 (.bool true) v55 fun v56 =>
  C_ref10_Tuple_4 QF v2 v8 v10 v12 v56 S)
  (pkW v52 (.bool true) undefA fun v56 =>
  C_ref10_Tuple_4 QF v2 v8 v10 v12 v56 S)
def C_ref10_Tuple_2 (QF : AEnd → Store → Prop) (v2 v8 v10 v12 v13 v14 v48 : AV) (S : Store) : Prop :=
  grW v48 false (ntW v13 fun v51 =>
  pkW v48 (.bool true) v51 fun v52 =>
  C_ref10_Tuple_3 QF v2 v8 v10 v12 v14 v52 S)
  (pkW v48 (.bool true) undefA fun v52 =>
  C_ref10_Tuple_3 QF v2 v8 v10 v12 v14 v52 S)
def C_ref10_Tuple_1 (QF : AEnd → Store → Prop) (v2 v8 v10 v11 v12 v13 v14 v44 : AV) (S : Store) : Prop :=
  grW v44 false (ntW v11 fun v47 =>
  pkW v44 (.bool true) v47 fun v48 =>
  C_ref10_Tuple_2 QF v2 v8 v10 v12 v13 v14 v48 S)
  (pkW v44 (.bool true) undefA fun v48 =>
  C_ref10_Tuple_2 QF v2 v8 v10 v12 v13 v14 v48 S)
def B_ref10_Tuple (QF : AEnd → Store → Prop) (v0 : AV) (S : Store) : Prop :=
  alW S 95 [.str ⟨#[]⟩, .str ⟨#[]⟩, .str ⟨#[]⟩, .str ⟨#[]⟩, .str ⟨#[]⟩, .str ⟨#[]⟩] fun v2 S =>
  caW PG S (.func (.func 89) [] []) [v0, (.int .u8 64)] (fun v17 S =>
  exW 0 v17 fun v18 =>
  exW 1 v17 fun v19 =>
  exW 2 v17 fun v20 =>
  caW PG S (.func (.func 89) [] []) [v18, (.int .u8 35)] (fun v23 S =>
  exW 0 v23 fun v24 =>
  exW 1 v23 fun v25 =>
  exW 2 v23 fun v26 =>
  caW PG S (.func (.func 90) [] []) [v24] (fun v29 S =>
  exW 0 v29 fun v30 =>
  exW 1 v29 fun v31 =>
  bfW 2 v30 fun v10 =>
  caW PG S (.func (.func 91) [] []) [v19] (fun v34 S =>
  exW 0 v34 fun v35 =>
  exW 1 v34 fun v36 =>
  bfW 3 v35 fun v12 =>
  caW PG S (.func (.func 81) [] []) [v25] (fun v38 S =>
  ntW v20 fun v40 =>
  grW v40 false (ntW v26 fun v43 =>
  pkW v40 (.bool true) v43 fun v44 =>
  C_ref10_Tuple_1 QF v2 v25 v10 v31 v12 v36 v38 v44 S)
  (pkW v40 (.bool true) undefA fun v44 =>
  C_ref10_Tuple_1 QF v2 v25 v10 v31 v12 v36 v38 v44 S)) (pqW QF)) (pqW QF)) (pqW QF)) (pqW QF)) (pqW QF)
theorem w_ref10_Tuple {QF : AEnd → Store → Prop} {v0 : AV} {S : Store} (h : B_ref10_Tuple QF v0 S) : ACalls PG nr_ref10_Tuple [v0] S QF :=
  acalls_tf (F := tf_ref10_Tuple) (by kernel_rfl) rfl (by kernel_rfl) h
def tf_names_ShowTuple : TFunc where
  n := 31
  args := 1
  res := [.tmp 2]
  code := .seq (.reg [i1 1 (.boxr 95 6 (.t 0)),
    i1 2 (.mov (.c (.str ⟨#[]⟩)))] [1] []) (.seq (.regl [0, 3, 1, 4, 2, 5, 6, 7] [i1 5 (.faddr 0 (.t 1)),
    i1 8 (.faddr 3 (.t 1)),
    i1 6 (.load 2 true (.t 5)),
    i1 9 (.load 3 true (.t 8)),
    .one { d := some 7, o := .call (.f 92) [.t 6], x := [8] },
    i1 10 (.call (.f 93) [.t 9]),
    i1 3 (.mov (.t 7)),
    i1 4 (.mov (.t 10))] [1, 3, 4] []) (.seq (.seq (.reg [i1 11 (.mov (.t 3)),
    i1 12 (.bin .eql (.t 11) (.c (.str ⟨#[]⟩))),
    i1 13 (.mov (.t 12)),
    .grp 13 false [s1 14 (.mov (.t 4)), s1 15 (.bin .eql (.t 14) (.c (.str ⟨#[]⟩)))],
    i1 16 (.pick (.t 13) (.c (.bool true)) (.t 15)),
    i1 17 (.mov (.t 16)),
    .grp 17 false [s1 18 (.faddr 2 (.t 1)), s1 19 (.load 1 false (.t 18)), s1 20 (.call (.f 75) [.t 19]), s1 21 (.not (.t 20))],
    i1 22 (.pick (.t 17) (.c (.bool true)) (.t 21))] [1, 3, 4, 22] []) (.cond (.t 22) (.seq (.reg [i1 2 (.mov (.c (.str ⟨#[]⟩)))] [2] []) (.ret)) (.skip))) (.seq (.reg [i1 23 (.mov (.t 3)),
    i1 24 (.bin .add (.t 23) (.c (.str ⟨#[35]⟩))),
    i1 25 (.faddr 2 (.t 1)),
    i1 26 (.load 1 false (.t 25)),
    i1 27 (.bin .add (.t 24) (.t 26)),
    i1 28 (.bin .add (.t 27) (.c (.str ⟨#[64]⟩))),
    i1 29 (.mov (.t 4)),
    i1 30 (.bin .add (.t 28) (.t 29)),
    i1 2 (.mov (.t 30))] [2] []) (.ret))))
abbrev nr_names_ShowTuple : Nat := 64
def C_names_ShowTuple_2 (QF : AEnd → Store → Prop) (v1 v3 v4 v22 : AV) (S : Store) : Prop :=
  cnW v22 (rtW [.tmp (.str ⟨#[]⟩)] QF S)
  (biW .add v3 (.str ⟨#[35]⟩) fun v24 =>
  faW 2 v1 fun v25 =>
  ldW S 1 false v25 fun v26 =>
  biW .add v24 v26 fun v27 =>
  biW .add v27 (.str ⟨#[64]⟩) fun v28 =>
  biW .add v28 v4 fun v30 =>
  rtW [.tmp v30] QF S)
def C_names_ShowTuple_1 (QF : AEnd → Store → Prop) (v1 v3 v4 v16 : AV) (S : Store) : Prop :=
  grW v16 false (faW 2 v1 fun v18 =>
  ldW S 1 false v18 fun v19 =>
  caW PG S (.func (.func 75) [] []) [v19] (fun v20 S =>
  ntW v20 fun v21 =>
  pkW v16 (.bool true) v21 fun v22 =>
  C_names_ShowTuple_2 QF v1 v3 v4 v22 S) (pqW QF))
  (pkW v16 (.bool true) undefA fun v22 =>
  C_names_ShowTuple_2 QF v1 v3 v4 v22 S)
def B_names_ShowTuple (QF : AEnd → Store → Prop) (v0 : AV) (S : Store) : Prop :=
  brW 6 v0 fun v1 =>
  faW 0 v1 fun v5 =>
  faW 3 v1 fun v8 =>
  ldW S 2 true v5 fun v6 =>
  ldW S 3 true v8 fun v9 =>
  caW PG S (.func (.func 92) [] []) [v6] (fun v7 S1 =>
  kpW [v8] S S1 (
  caW PG S1 (.func (.func 93) [] []) [v9] (fun v10 S =>
  biW .eql v7 (.str ⟨#[]⟩) fun v12 =>
  grW v12 false (biW .eql v10 (.str ⟨#[]⟩) fun v15 =>
  pkW v12 (.bool true) v15 fun v16 =>
  C_names_ShowTuple_1 QF v1 v7 v10 v16 S)
  (pkW v12 (.bool true) undefA fun v16 =>
  C_names_ShowTuple_1 QF v1 v7 v10 v16 S)) (pqW QF))) (pqW QF)
theorem w_names_ShowTuple {QF : AEnd → Store → Prop} {v0 : AV} {S : Store} (h : B_names_ShowTuple QF v0 S) : ACalls PG nr_names_ShowTuple [v0] S QF :=
  acalls_tf (F := tf_names_ShowTuple) (by kernel_rfl) rfl (by kernel_rfl) h
def tf_slices_ContainsFunc_Type : TFunc where
  n := 9
  args := 2
  res := [.tmp 4]
  code := .seq (.reg [i1 4 (.mov (.c (.bool false)))] [0, 1] []) (.seq (.reg [i1 5 (.mov (.t 0)),
    i1 6 (.mov (.t 1)),
    i1 7 (.call (.f 94) [.t 5, .t 6]),
    i1 8 (.bin .geq (.t 7) (.c (.int .i64 0))),
    i1 4 (.mov (.t 8))] [4] []) (.ret))
abbrev nr_slices_ContainsFunc_Type : Nat := 65
def B_slices_ContainsFunc_Type (QF : AEnd → Store → Prop) (v0 v1 : AV) (S : Store) : Prop :=
  caW PG S (.func (.func 94) [] []) [v0, v1] (fun v7 S =>
  biW .geq v7 (.int .i64 0) fun v8 =>
  rtW [.tmp v8] QF S) (pqW QF)
theorem w_slices_ContainsFunc_Type {QF : AEnd → Store → Prop} {v0 v1 : AV} {S : Store} (h : B_slices_ContainsFunc_Type QF v0 v1 S) : ACalls PG nr_slices_ContainsFunc_Type [v0, v1] S QF :=
  acalls_tf (F := tf_slices_ContainsFunc_Type) (by kernel_rfl) rfl (by kernel_rfl) h
def tf_tuple_Allowed_1 : TFunc where
  n := 11
  args := 2
  res := [.tmp 3]
  code := .seq (.reg [i1 2 (.boxr 51 2 (.t 0)),
    i1 3 (.mov (.c (.bool false)))] [1, 2] []) (.seq (.reg [i1 4 (.faddr 0 (.t 2)),
    i1 5 (.load 1 false (.t 4)),
    i1 6 (.faddr 3 (.t 1)),
    i1 7 (.faddr 0 (.t 6)),
    i1 8 (.faddr 0 (.t 7)),
    i1 9 (.load 1 false (.t 8)),
    i1 10 (.bin .eql (.t 5) (.t 9)),
    i1 3 (.mov (.t 10))] [3] []) (.ret))
abbrev nr_tuple_Allowed_1 : Nat := 66
def B_tuple_Allowed_1 (QF : AEnd → Store → Prop) (v0 v1 : AV) (S : Store) : Prop :=
  brW 2 v0 fun v2 =>
  faW 0 v2 fun v4 =>
  ldW S 1 false v4 fun v5 =>
  faW 3 v1 fun v6 =>
  faW 0 v6 fun v7 =>
  faW 0 v7 fun v8 =>
  ldW S 1 false v8 fun v9 =>
  biW .eql v5 v9 fun v10 =>
  rtW [.tmp v10] QF S
theorem w_tuple_Allowed_1 {QF : AEnd → Store → Prop} {v0 v1 : AV} {S : Store} (h : B_tuple_Allowed_1 QF v0 v1 S) : ACalls PG nr_tuple_Allowed_1 [v0, v1] S QF :=
  acalls_tf (F := tf_tuple_Allowed_1) (by kernel_rfl) rfl (by kernel_rfl) h
def tf_slices_Contains_Ref : TFunc where
  n := 9
  args := 2
  res := [.tmp 4]
  code := .seq (.reg [i1 3 (.boxr 53 2 (.t 1)),
    i1 4 (.mov (.c (.bool false)))] [0, 3] []) (.seq (.reg [i1 5 (.mov (.t 0)),
    i1 6 (.load 2 true (.t 3)),
    i1 7 (.call (.f 95) [.t 5, .t 6]),
    i1 8 (.bin .geq (.t 7) (.c (.int .i64 0))),
    i1 4 (.mov (.t 8))] [4] []) (.ret))
abbrev nr_slices_Contains_Ref : Nat := 67
def B_slices_Contains_Ref (QF : AEnd → Store → Prop) (v0 v1 : AV) (S : Store) : Prop :=
  brW 2 v1 fun v3 =>
  ldW S 2 true v3 fun v6 =>
  caW PG S (.func (.func 95) [] []) [v0, v6] (fun v7 S =>
  biW .geq v7 (.int .i64 0) fun v8 =>
  rtW [.tmp v8] QF S) (pqW QF)
theorem w_slices_Contains_Ref {QF : AEnd → Store → Prop} {v0 v1 : AV} {S : Store} (h : B_slices_Contains_Ref QF v0 v1 S) : ACalls PG nr_slices_Contains_Ref [v0, v1] S QF :=
  acalls_tf (F := tf_slices_Contains_Ref) (by kernel_rfl) rfl (by kernel_rfl) h
def tf_engine_search_stands : TFunc where
  n := 25
  args := 3
  res := [.tmp 6]
  code := .seq (.reg [i1 3 (.boxr 87 1 (.t 0)),
    i1 4 (.boxr 98 3 (.t 1)),
    i1 5 (.boxr 43 6 (.t 2)),
    i1 6 (.mov (.c (.bool false)))] [3, 4, 5] []) (.seq (.seq (.reg [i1 7 (.faddr 1 (.t 5)),
    i1 8 (.load 1 false (.t 7)),
    i1 9 (.len 1 (.t 8)),
    i1 10 (.bin .eql (.t 9) (.c (.int .i64 0)))] [3, 4, 5, 10] []) (.cond (.t 10) (.seq (.reg [i1 11 (.load 1 false (.t 3)),
    i1 12 (.faddr 0 (.t 4)),
    i1 13 (.load 2 true (.t 12)),
    i1 14 (.faddr 2 (.t 5)),
    i1 15 (.load 4 true (.t 14)),
    i1 16 (.call (.f 96) [.t 11, .t 13, .t 15]),
    i1 6 (.mov (.t 16))] [6] []) (.ret)) (.skip))) (.seq (.regl [6, 0, 1, 2, 3, 4, 5, 7, 8] [i1 23 (.mkf (.func 98) [] [.t 3]),
    i1 17 (.load 1 false (.t 3)),
    i1 18 (.nilck (.t 17)),
    i1 19 (.faddr 1 (.t 18)),
    i1 20 (.load 1 false (.t 19)),
    i1 21 (.load 3 true (.t 4)),
    i1 22 (.lookup (true, [.str, .str, .str]) false (.nils) (.t 20) (.t 21)),
    i1 24 (.call (.f 97) [.t 22, .t 23]),
    i1 6 (.mov (.t 24))] [6] []) (.ret)))
abbrev nr_engine_search_stands : Nat := 68
def B_engine_search_stands (QF : AEnd → Store → Prop) (v0 v1 v2 : AV) (S : Store) : Prop :=
  brW 1 v0 fun v3 =>
  brW 3 v1 fun v4 =>
  brW 6 v2 fun v5 =>
  faW 1 v5 fun v7 =>
  ldW S 1 false v7 fun v8 =>
  lnW S 1 v8 fun v9 =>
  biW .eql v9 (.int .i64 0) fun v10 =>
  cnW v10 (ldW S 1 false v3 fun v11 =>
  faW 0 v4 fun v12 =>
  ldW S 2 true v12 fun v13 =>
  faW 2 v5 fun v14 =>
  ldW S 4 true v14 fun v15 =>
  caW PG S (.func (.func 96) [] []) [v11, v13, v15] (fun v16 S =>
  rtW [.tmp v16] QF S) (pqW QF))
  (ldW S 1 false v3 fun v17 =>
  nkW v17 fun v18 =>
  faW 1 v18 fun v19 =>
  ldW S 1 false v19 fun v20 =>
  ldW S 3 true v4 fun v21 =>
  lkW S (true, [.str, .str, .str]) false (.nils) v20 v21 fun v22 =>
  caW PG S (.func (.func 97) [] []) [v22, (.func (.func 98) [] [v3])] (fun v24 S =>
  rtW [.tmp v24] QF S) (pqW QF))
theorem w_engine_search_stands {QF : AEnd → Store → Prop} {v0 v1 v2 : AV} {S : Store} (h : B_engine_search_stands QF v0 v1 v2 S) : ACalls PG nr_engine_search_stands [v0, v1, v2] S QF :=
  acalls_tf (F := tf_engine_search_stands) (by kernel_rfl) rfl (by kernel_rfl) h
def tf_rules_atoms : TFunc where
  n := 42
  args := 3
  res := [.tmp 6]
  code := .seq (.reg [i1 3 (.boxr 41 4 (.t 0)),
    i1 6 (.mov (.c (.bool false)))] [1, 2, 3] []) (.seq (.seq (.reg [i1 9 (.faddr 3 (.t 3)),
    i1 10 (.load 1 false (.t 9)),
    i1 11 (.len 1 (.t 10)),
    i1 12 (.mov (.c (.int .i64 0)))] [1, 2, 3, 10, 11, 12] []) (.block 0 (.loop [1, 2, 3, 10, 11, 12] (.seq (.reg [i1 13 (.bin .lss (.t 12) (.t 11))] [1, 2, 3, 10, 11, 12, 13] []) (.seq (.cond (.t 13) (.skip) (.exit 0)) (.seq (.block 1 (.seq (.reg [i1 14 (.mov (.t 12)),
    i1 15 (.iaddr 4 (.t 10) (.t 12)),
    i1 16 (.load 4 true (.t 15)),
    i1 8 (.alloc 41 [.int .i64 0, .str ⟨#[]⟩, .str ⟨#[]⟩, .nils]),
    i1 7 (.mov (.t 14)),
    i0 (.store 4 (.t 8) (.t 16))] [1, 2, 3, 7, 8, 10, 11, 12] [8]) (.seq (.reg [i1 17 (.load 4 true (.t 8)),
    i1 18 (.mov (.t 1)),
    i1 19 (.mov (.t 18)),
    .grp 19 false [s1 20 (.faddr 0 (.t 3)), s1 21 (.load 1 false (.t 20)), s1 22 (.bin .eql (.t 21) (.c (.int .i64 4))), s1 23 (.mov (.t 22))],
    .grp 23 true [s1 24 (.mov (.t 7)), s1 25 (.bin .eql (.t 24) (.c (.int .i64 1)))],
    .grp 19 false [s1 26 (.pick (.t 23) (.t 25) (.c (.bool false)))],
    i1 27 (.pick (.t 19) (.c (.bool true)) (.t 26)),
    i1 28 (.mov (.t 2)),
    i1 29 (.call (.f 69) [.t 17, .t 27, .t 28]),
    i1 30 (.not (.t 29))] [1, 2, 3, 10, 11, 12, 30] []) (.cond (.t 30) (.seq (.reg [i1 6 (.mov (.c (.bool false)))] [6] []) (.ret)) (.skip))))) (.reg [i1 31 (.bin .add (.t 12) (.c (.int .i64 1))),
    i1 12 (.mov (.t 31))] [1, 2, 3, 10, 11, 12] []))))))) (.seq (.reg [i1 32 (.faddr 3 (.t 3)),
    i1 33 (.load 1 false (.t 32)),
    i1 34 (.len 1 (.t 33)),
    i1 35 (.bin .gtr (.t 34) (.c (.int .i64 0))),
    i1 36 (.mov (.t 35)),
    .grp 36 false [s1 37 (.mov (.t 2)), s1 38 (.load 4 true (.t 3)), s1 39 (.mov (.t 1)), s1 40 (.call (.t 37) [.t 38, .t 39])],
    i1 41 (.pick (.t 36) (.c (.bool true)) (.t 40)),
    i1 6 (.mov (.t 41))] [6] []) (.ret)))
abbrev nr_rules_atoms : Nat := 69
def C_rules_atoms_4 (QF : AEnd → Store → Prop) (r0 : LE → Store → Prop) (v1 v2 v3 v10 v11 v12 v17 v27 : AV) (S : Store) : Prop :=
  caW PG S (.func (.func 69) [] []) [v17, v27, v2] (fun v29 S =>
  ntW v29 fun v30 =>
  cnW v30 (rtW [.tmp (.bool false)] QF S)
  (biW .add v12 (.int .i64 1) fun v31 =>
  rcW r0 [(1, v1), (2, v2), (3, v3), (10, v10), (11, v11), (12, v31)] S)) (pqW QF)
def C_rules_atoms_3 (QF : AEnd → Store → Prop) (r0 : LE → Store → Prop) (v1 v2 v3 v10 v11 v12 v17 v19 v23 v25 : AV) (S : Store) : Prop :=
  grW v19 false (pkW v23 v25 (.bool false) fun v26 =>
  pkW v19 (.bool true) v26 fun v27 =>
  C_rules_atoms_4 QF r0 v1 v2 v3 v10 v11 v12 v17 v27 S)
  (pkW v19 (.bool true) undefA fun v27 =>
  C_rules_atoms_4 QF r0 v1 v2 v3 v10 v11 v12 v17 v27 S)
def C_rules_atoms_2 (QF : AEnd → Store → Prop) (r0 : LE → Store → Prop) (v1 v2 v3 v7 v10 v11 v12 v17 v19 v23 : AV) (S : Store) : Prop :=
  grW v23 true (biW .eql v7 (.int .i64 1) fun v25 =>
  C_rules_atoms_3 QF r0 v1 v2 v3 v10 v11 v12 v17 v19 v23 v25 S)
  (C_rules_atoms_3 QF r0 v1 v2 v3 v10 v11 v12 v17 v19 v23 undefA S)
def C_rules_atoms_1 (QF : AEnd → Store → Prop) (r0 : LE → Store → Prop) (v1 v2 v3 v10 v11 v12 : AV) (S : Store) : Prop :=
  biW .lss v12 v11 fun v13 =>
  cnW v13 (iaW 4 v10 v12 fun v15 =>
  ldW S 4 true v15 fun v16 =>
  alW S 41 [.int .i64 0, .str ⟨#[]⟩, .str ⟨#[]⟩, .nils] fun v8 S =>
  stW S 4 v8 v16 fun S =>
  fzW S v8 fun v8 S =>
  ldW S 4 true v8 fun v17 =>
  grW v1 false (faW 0 v3 fun v20 =>
  ldW S 1 false v20 fun v21 =>
  biW .eql v21 (.int .i64 4) fun v22 =>
  C_rules_atoms_2 QF r0 v1 v2 v3 v12 v10 v11 v12 v17 v1 v22 S)
  (C_rules_atoms_2 QF r0 v1 v2 v3 v12 v10 v11 v12 v17 v1 undefA S))
  (faW 3 v3 fun v32 =>
  ldW S 1 false v32 fun v33 =>
  lnW S 1 v33 fun v34 =>
  biW .gtr v34 (.int .i64 0) fun v35 =>
  grW v35 false (ldW S 4 true v3 fun v38 =>
  caW PG S v2 [v38, v1] (fun v40 S =>
  pkW v35 (.bool true) v40 fun v41 =>
  rtW [.tmp v41] QF S) (pqW QF))
  (pkW v35 (.bool true) undefA fun v41 =>
  rtW [.tmp v41] QF S))
def B_rules_atoms (QF : AEnd → Store → Prop) (v0 v1 v2 : AV) (S : Store) : Prop :=
  brW 4 v0 fun v3 =>
  faW 3 v3 fun v9 =>
  ldW S 1 false v9 fun v10 =>
  lnW S 1 v10 fun v11 =>
  LoopP (fun r0 l S => C_rules_atoms_1 QF r0 (lget l 1) (lget l 2) (lget l 3) (lget l 10) (lget l 11) (lget l 12) S) [(1, v1), (2, v2), (3, v3), (10, v10), (11, v11), (12, (.int .i64 0))] S
theorem w_rules_atoms {QF : AEnd → Store → Prop} {v0 v1 v2 : AV} {S : Store} (h : B_rules_atoms QF v0 v1 v2 S) : ACalls PG nr_rules_atoms [v0, v1, v2] S QF :=
  acalls_tf (F := tf_rules_atoms) (by kernel_rfl) rfl (by kernel_rfl) h
def tf_rules_index_leans_1 : TFunc where
  n := 49
  args := 5
  res := [.tmp 7]
  code := .seq (.reg [i1 5 (.boxr 41 4 (.t 0)),
    i1 7 (.mov (.c (.bool false)))] [1, 2, 3, 4, 5] []) (.seq (.reg [i1 13 (.load 1 false (.t 2)),
    i1 14 (.faddr 0 (.t 3)),
    i1 15 (.load 1 false (.t 14)),
    i1 16 (.faddr 1 (.t 5)),
    i1 17 (.load 1 false (.t 16)),
    i1 18 (.call (.f 36) [.t 13, .t 15, .t 17]),
    i1 12 (.mov (.t 18)),
    i1 19 (.extr (.t 12) 0),
    i1 20 (.extr (.t 12) 1),
    .box2 8 70 [.int .i64 0, .int .i64 0] 2 (.t 19),
    i1 9 (.mov (.t 20))] [1, 2, 4, 5, 8] []) (.seq (.reg [i1 21 (.load 1 false (.t 4)),
    i1 22 (.load 2 true (.t 8)),
    i1 23 (.mov (.t 1)),
    i1 24 (.build [.int .i64 0, .int .i64 0, .bool false] [(0, 2, .t 22), (2, 1, .t 23)]),
    i1 25 (.bslicr 113 3 [.t 24]),
    i1 26 (.app 113 3 24 (.t 21) (.t 25)),
    i0 (.store 1 (.t 4) (.t 26))] [1, 2, 4, 5, 8] []) (.seq (.seq (.reg [i1 27 (.faddr 0 (.t 5)),
    i1 28 (.load 1 false (.t 27)),
    i1 29 (.bin .eql (.t 28) (.c (.int .i64 1)))] [1, 2, 4, 5, 8, 29] []) (.cond (.t 29) (.seq (.regl [4, 8, 0, 1, 2, 5, 3, 6, 7] [i1 34 (.faddr 2 (.t 5)),
    i1 38 (.mov (.c (.int .i64 0))),
    i1 30 (.load 1 false (.t 2)),
    i1 31 (.load 1 false (.t 2)),
    i1 32 (.load 2 true (.t 8)),
    i1 35 (.load 1 false (.t 34)),
    .one { d := some 33, o := .call (.f 37) [.t 31, .t 32], x := [2, 34] },
    i1 36 (.call (.f 71) [.t 30, .t 33, .t 35]),
    i1 37 (.len 1 (.t 36))] [1, 4, 36, 37, 38] []) (.block 0 (.loop [1, 4, 36, 37, 38] (.seq (.reg [i1 39 (.bin .lss (.t 38) (.t 37))] [1, 4, 36, 37, 38, 39] []) (.seq (.cond (.t 39) (.skip) (.exit 0)) (.seq (.block 1 (.seq (.reg [i1 40 (.iaddr 2 (.t 36) (.t 38)),
    i1 41 (.load 2 true (.t 40)),
    .box2 11 70 [.int .i64 0, .int .i64 0] 2 (.t 41)] [1, 4, 11, 36, 37, 38] []) (.reg [i1 42 (.load 1 false (.t 4)),
    i1 43 (.load 2 true (.t 11)),
    i1 44 (.mov (.t 1)),
    i1 45 (.build [.int .i64 0, .int .i64 0, .bool false] [(0, 2, .t 43), (2, 1, .t 44)]),
    i1 46 (.bslicr 113 3 [.t 45]),
    i1 47 (.app 113 3 24 (.t 42) (.t 46)),
    i0 (.store 1 (.t 4) (.t 47))] [1, 4, 36, 37, 38] []))) (.reg [i1 48 (.bin .add (.t 38) (.c (.int .i64 1))),
    i1 38 (.mov (.t 48))] [1, 4, 36, 37, 38] []))))))) (.skip))) (.seq (.reg [i1 7 (.mov (.c (.bool true)))] [7] []) (.ret)))))
abbrev nr_rules_index_leans_1 : Nat := 70
def C_rules_index_leans_1_1 (QF : AEnd → Store → Prop) (r0 : LE → Store → Prop) (v1 v4 v36 v37 v38 : AV) (S : Store) : Prop :=
  biW .lss v38 v37 fun v39 =>
  cnW v39 (iaW 2 v36 v38 fun v40 =>
  ldW S 2 true v40 fun v41 =>
  bfW 2 v41 fun v11 =>
  ldW S 1 false v4 fun v42 =>
  ldW S 2 true v11 fun v43 =>
  bdW [.int .i64 0, .int .i64 0, .bool false] [(0, 2, v43), (2, 1, v1)] fun v45 =>
  srW 3 [v45] fun v46 =>
  apW S 113 3 24 v42 v46 fun v47 S =>
  stW S 1 v4 v47 fun S =>
  biW .add v38 (.int .i64 1) fun v48 =>
  rcW r0 [(1, v1), (4, v4), (36, v36), (37, v37), (38, v48)] S)
  (rtW [.tmp (.bool true)] QF S)
def B_rules_index_leans_1 (QF : AEnd → Store → Prop) (v0 v1 v2 v3 v4 : AV) (S : Store) : Prop :=
  brW 4 v0 fun v5 =>
  ldW S 1 false v2 fun v13 =>
  faW 0 v3 fun v14 =>
  ldW S 1 false v14 fun v15 =>
  faW 1 v5 fun v16 =>
  ldW S 1 false v16 fun v17 =>
  caW PG S (.func (.func 36) [] []) [v13, v15, v17] (fun v18 S =>
  exW 0 v18 fun v19 =>
  exW 1 v18 fun v20 =>
  bfW 2 v19 fun v8 =>
  ldW S 1 false v4 fun v21 =>
  ldW S 2 true v8 fun v22 =>
  bdW [.int .i64 0, .int .i64 0, .bool false] [(0, 2, v22), (2, 1, v1)] fun v24 =>
  srW 3 [v24] fun v25 =>
  apW S 113 3 24 v21 v25 fun v26 S =>
  stW S 1 v4 v26 fun S =>
  faW 0 v5 fun v27 =>
  ldW S 1 false v27 fun v28 =>
  biW .eql v28 (.int .i64 1) fun v29 =>
  cnW v29 (faW 2 v5 fun v34 =>
  ldW S 1 false v2 fun v30 =>
  ldW S 1 false v2 fun v31 =>
  ldW S 2 true v8 fun v32 =>
  ldW S 1 false v34 fun v35 =>
  caW PG S (.func (.func 37) [] []) [v31, v32] (fun v33 S1 =>
  kpW [v2, v34] S S1 (
  caW PG S1 (.func (.func 71) [] []) [v30, v33, v35] (fun v36 S =>
  lnW S 1 v36 fun v37 =>
  LoopP (fun r0 l S => C_rules_index_leans_1_1 QF r0 (lget l 1) (lget l 4) (lget l 36) (lget l 37) (lget l 38) S) [(1, v1), (4, v4), (36, v36), (37, v37), (38, (.int .i64 0))] S) (pqW QF))) (pqW QF))
  (rtW [.tmp (.bool true)] QF S)) (pqW QF)
theorem w_rules_index_leans_1 {QF : AEnd → Store → Prop} {v0 v1 v2 v3 v4 : AV} {S : Store} (h : B_rules_index_leans_1 QF v0 v1 v2 v3 v4 S) : ACalls PG nr_rules_index_leans_1 [v0, v1, v2, v3, v4] S QF :=
  acalls_tf (F := tf_rules_index_leans_1) (by kernel_rfl) rfl (by kernel_rfl) h
end Go.HL
