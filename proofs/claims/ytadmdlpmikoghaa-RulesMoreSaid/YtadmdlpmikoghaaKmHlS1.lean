/- A part of a proof. -/
import Derived.Test.YtadmdlpmikoghaaKmHlP
set_option maxRecDepth 100000
set_option linter.unusedVariables false
namespace Go.HL
def tf_law12_awake : TFunc where
  n := 69
  args := 0
  res := [.tmp 0]
  code := .seq (.reg [i1 0 (.mov (.c (.bool false)))] [] []) (.seq (.reg [i1 6 (.call (.f 18) [.c (.str ⟨#[116, 121, 112, 101, 32, 117, 32, 114, 101, 108, 97, 116, 105, 111, 110, 32, 97, 58, 32, 117, 32, 100, 101, 102, 105, 110, 101, 32, 98, 58, 32, 97, 32, 45, 32, 99, 32, 100, 101, 102, 105, 110, 101, 32, 99, 58, 32, 97, 32, 45, 32, 98]⟩)]),
    i1 7 (.call (.f 16) [.t 6]),
    .box2 1 33 [.int .i64 0, .int .i64 0, .int .i64 0] 3 (.t 7)] [1] []) (.seq (.reg [i1 9 (.call (.f 18) [.c (.str ⟨#[116, 121, 112, 101, 32, 117, 32, 114, 101, 108, 97, 116, 105, 111, 110, 32, 97, 58, 32, 117, 32, 100, 101, 102, 105, 110, 101, 32, 98, 58, 32, 97, 32, 45, 32, 99, 32, 100, 101, 102, 105, 110, 101, 32, 99, 58, 32, 97]⟩)]),
    i1 10 (.call (.f 13) [.t 9]),
    i1 8 (.mov (.t 10)),
    i1 11 (.extr (.t 8) 0),
    i1 12 (.extr (.t 8) 1),
    i1 2 (.mov (.t 11)),
    i1 3 (.mov (.t 12))] [1, 2, 3] []) (.seq (.reg [i1 14 (.call (.f 18) [.c (.str ⟨#[116, 121, 112, 101, 32, 117, 32, 114, 101, 108, 97, 116, 105, 111, 110, 32, 97, 58, 32, 117]⟩)]),
    i1 15 (.call (.f 19) [.t 14, .c (.str ⟨#[117]⟩), .c (.str ⟨#[97]⟩)]),
    i1 13 (.mov (.t 15)),
    i1 16 (.extr (.t 13) 0),
    i1 17 (.extr (.t 13) 1),
    .box2 4 43 [.str ⟨#[]⟩, .nils, .int .i64 0, .str ⟨#[]⟩, .str ⟨#[]⟩, .nils] 6 (.t 16),
    i1 5 (.mov (.t 17))] [1, 2, 3, 4, 5] []) (.seq (.seq (.reg [i1 18 (.load 3 true (.t 1)),
    i1 19 (.build [.int .i64 0, .int .i64 0, .int .i64 0] [(0, 1, .c (.int .i64 0)), (1, 1, .c (.int .i64 1)), (2, 1, .c (.int .i64 11))]),
    i1 20 (.eqp true (true, [.int .i64, .int .i64, .int .i64]) (.t 18) (.t 19)),
    i1 21 (.mov (.t 20)),
    .grp 21 false [s1 22 (.mov (.t 3)), s1 23 (.not (.t 22))],
    i1 24 (.pick (.t 21) (.c (.bool true)) (.t 23)),
    i1 25 (.mov (.t 24)),
    .grp 25 false [s1 26 (.mov (.t 5)), s1 27 (.not (.t 26))],
    i1 28 (.pick (.t 25) (.c (.bool true)) (.t 27)),
    i1 29 (.mov (.t 28)),
    .grp 29 false [s1 30 (.mov (.t 2)), s1 31 (.len 1 (.t 30)), s1 32 (.bin .neq (.t 31) (.c (.int .i64 1)))],
    i1 33 (.pick (.t 29) (.c (.bool true)) (.t 32)),
    i1 34 (.mov (.t 33)),
    .grp 34 false [s1 35 (.faddr 1 (.t 4)), s1 36 (.load 1 false (.t 35)), s1 37 (.len 1 (.t 36)), s1 38 (.bin .neq (.t 37) (.c (.int .i64 1)))],
    i1 39 (.pick (.t 34) (.c (.bool true)) (.t 38))] [2, 39] []) (.cond (.t 39) (.seq (.reg [i1 0 (.mov (.c (.bool false)))] [0] []) (.ret)) (.skip))) (.seq (.reg [i1 40 (.mov (.t 2)),
    i1 41 (.iaddr 1 (.t 40) (.c (.int .i64 0))),
    i1 42 (.load 1 false (.t 41)),
    i1 43 (.len 1 (.t 42)),
    i1 44 (.bin .eql (.t 43) (.c (.int .i64 3))),
    i1 45 (.mov (.t 44)),
    .grp 45 true [s1 46 (.mov (.t 2)), s1 47 (.iaddr 1 (.t 46) (.c (.int .i64 0))), s1 48 (.load 1 false (.t 47)), s1 49 (.iaddr 1 (.t 48) (.c (.int .i64 0))), s1 50 (.load 1 false (.t 49)), s1 51 (.bin .eql (.t 50) (.c (.int .i64 0)))],
    i1 52 (.pick (.t 45) (.t 51) (.c (.bool false))),
    i1 53 (.mov (.t 52)),
    .grp 53 true [s1 54 (.mov (.t 2)), s1 55 (.iaddr 1 (.t 54) (.c (.int .i64 0))), s1 56 (.load 1 false (.t 55)), s1 57 (.iaddr 1 (.t 56) (.c (.int .i64 1))), s1 58 (.load 1 false (.t 57)), s1 59 (.bin .eql (.t 58) (.c (.int .i64 1)))],
    i1 60 (.pick (.t 53) (.t 59) (.c (.bool false))),
    i1 61 (.mov (.t 60)),
    .grp 61 true [s1 62 (.mov (.t 2)), s1 63 (.iaddr 1 (.t 62) (.c (.int .i64 0))), s1 64 (.load 1 false (.t 63)), s1 65 (.iaddr 1 (.t 64) (.c (.int .i64 2))), s1 66 (.load 1 false (.t 65)), s1 67 (.bin .eql (.t 66) (.c (.int .i64 0)))],
    i1 68 (.pick (.t 61) (.t 67) (.c (.bool false))),
    i1 0 (.mov (.t 68))] [0] []) (.ret))))))
abbrev nr_law12_awake : Nat := 11
def C_law12_awake_6 (QF : AEnd → Store → Prop) (v2 v60 : AV) (S : Store) : Prop :=
  grW v60 true (iaW 1 v2 (.int .i64 0) fun v63 =>
  ldW S 1 false v63 fun v64 =>
  iaW 1 v64 (.int .i64 2) fun v65 =>
  ldW S 1 false v65 fun v66 =>
  biW .eql v66 (.int .i64 0) fun v67 =>
  pkW v60 v67 (.bool false) fun v68 =>
  rtW [.tmp v68] QF S)
  (pkW v60 undefA (.bool false) fun v68 =>
  rtW [.tmp v68] QF S)
def C_law12_awake_5 (QF : AEnd → Store → Prop) (v2 v52 : AV) (S : Store) : Prop :=
  grW v52 true (iaW 1 v2 (.int .i64 0) fun v55 =>
  ldW S 1 false v55 fun v56 =>
  iaW 1 v56 (.int .i64 1) fun v57 =>
  ldW S 1 false v57 fun v58 =>
  biW .eql v58 (.int .i64 1) fun v59 =>
  pkW v52 v59 (.bool false) fun v60 =>
  C_law12_awake_6 QF v2 v60 S)
  (pkW v52 undefA (.bool false) fun v60 =>
  C_law12_awake_6 QF v2 v60 S)
def C_law12_awake_4 (QF : AEnd → Store → Prop) (v2 v39 : AV) (S : Store) : Prop :=
  cnW v39 (rtW [.tmp (.bool false)] QF S)
  (iaW 1 v2 (.int .i64 0) fun v41 =>
  ldW S 1 false v41 fun v42 =>
  lnW S 1 v42 fun v43 =>
  biW .eql v43 (.int .i64 3) fun v44 =>
  grW v44 true (iaW 1 v2 (.int .i64 0) fun v47 =>
  ldW S 1 false v47 fun v48 =>
  iaW 1 v48 (.int .i64 0) fun v49 =>
  ldW S 1 false v49 fun v50 =>
  biW .eql v50 (.int .i64 0) fun v51 =>
  pkW v44 v51 (.bool false) fun v52 =>
  C_law12_awake_5 QF v2 v52 S)
  (pkW v44 undefA (.bool false) fun v52 =>
  C_law12_awake_5 QF v2 v52 S))
def C_law12_awake_3 (QF : AEnd → Store → Prop) (v2 v4 v33 : AV) (S : Store) : Prop :=
  grW v33 false (faW 1 v4 fun v35 =>
  ldW S 1 false v35 fun v36 =>
  lnW S 1 v36 fun v37 =>
  biW .neq v37 (.int .i64 1) fun v38 =>
  pkW v33 (.bool true) v38 fun v39 =>
  C_law12_awake_4 QF v2 v39 S)
  (pkW v33 (.bool true) undefA fun v39 =>
  C_law12_awake_4 QF v2 v39 S)
def C_law12_awake_2 (QF : AEnd → Store → Prop) (v2 v4 v28 : AV) (S : Store) : Prop :=
  grW v28 false (lnW S 1 v2 fun v31 =>
  biW .neq v31 (.int .i64 1) fun v32 =>
  pkW v28 (.bool true) v32 fun v33 =>
  C_law12_awake_3 QF v2 v4 v33 S)
  (pkW v28 (.bool true) undefA fun v33 =>
  C_law12_awake_3 QF v2 v4 v33 S)
def C_law12_awake_1 (QF : AEnd → Store → Prop) (v2 v4 v5 v24 : AV) (S : Store) : Prop :=
  grW v24 false (ntW v5 fun v27 =>
  pkW v24 (.bool true) v27 fun v28 =>
  C_law12_awake_2 QF v2 v4 v28 S)
  (pkW v24 (.bool true) undefA fun v28 =>
  C_law12_awake_2 QF v2 v4 v28 S)
def B_law12_awake (QF : AEnd → Store → Prop) (S : Store) : Prop :=
  caW PG S (.func (.func 18) [] []) [(.str ⟨#[116, 121, 112, 101, 32, 117, 32, 114, 101, 108, 97, 116, 105, 111, 110, 32, 97, 58, 32, 117, 32, 100, 101, 102, 105, 110, 101, 32, 98, 58, 32, 97, 32, 45, 32, 99, 32, 100, 101, 102, 105, 110, 101, 32, 99, 58, 32, 97, 32, 45, 32, 98]⟩)] (fun v6 S =>
  caW PG S (.func (.func 16) [] []) [v6] (fun v7 S =>
  bfW 3 v7 fun v1 =>
  caW PG S (.func (.func 18) [] []) [(.str ⟨#[116, 121, 112, 101, 32, 117, 32, 114, 101, 108, 97, 116, 105, 111, 110, 32, 97, 58, 32, 117, 32, 100, 101, 102, 105, 110, 101, 32, 98, 58, 32, 97, 32, 45, 32, 99, 32, 100, 101, 102, 105, 110, 101, 32, 99, 58, 32, 97]⟩)] (fun v9 S =>
  caW PG S (.func (.func 13) [] []) [v9] (fun v10 S =>
  exW 0 v10 fun v11 =>
  exW 1 v10 fun v12 =>
  caW PG S (.func (.func 18) [] []) [(.str ⟨#[116, 121, 112, 101, 32, 117, 32, 114, 101, 108, 97, 116, 105, 111, 110, 32, 97, 58, 32, 117]⟩)] (fun v14 S =>
  caW PG S (.func (.func 19) [] []) [v14, (.str ⟨#[117]⟩), (.str ⟨#[97]⟩)] (fun v15 S =>
  exW 0 v15 fun v16 =>
  exW 1 v15 fun v17 =>
  bfW 6 v16 fun v4 =>
  ldW S 3 true v1 fun v18 =>
  bdW [.int .i64 0, .int .i64 0, .int .i64 0] [(0, 1, (.int .i64 0)), (1, 1, (.int .i64 1)), (2, 1, (.int .i64 11))] fun v19 =>
  eqW true (true, [.int .i64, .int .i64, .int .i64]) v18 v19 fun v20 =>
  grW v20 false (ntW v12 fun v23 =>
  pkW v20 (.bool true) v23 fun v24 =>
  C_law12_awake_1 QF v11 v4 v17 v24 S)
  (pkW v20 (.bool true) undefA fun v24 =>
  C_law12_awake_1 QF v11 v4 v17 v24 S)) (pqW QF)) (pqW QF)) (pqW QF)) (pqW QF)) (pqW QF)) (pqW QF)
theorem w_law12_awake {QF : AEnd → Store → Prop} {S : Store} (h : B_law12_awake QF S) : ACalls PG nr_law12_awake [] S QF :=
  acalls_tf (F := tf_law12_awake) (by kernel_rfl) rfl (by kernel_rfl) h
def tf_law11_Few : TFunc where
  n := 78
  args := 2
  res := [.tmp 4]
  code := .seq (.reg [i1 2 (.boxr 24 1 (.t 0)),
    i1 4 (.mov (.c (.bool false)))] [1, 2] []) (.seq (.reg [i1 9 (.mov (.t 1)),
    i1 10 (.faddr 0 (.t 2)),
    i1 11 (.load 1 false (.t 10)),
    i1 12 (.len 1 (.t 11)),
    i1 13 (.bin .sub (.t 9) (.t 12)),
    i1 5 (.mov (.t 13))] [1, 2, 5] []) (.seq (.seq (.reg [i1 6 (.mov (.c (.int .i64 0)))] [1, 2, 5, 6] []) (.block 0 (.loop [1, 2, 5, 6] (.seq (.seq (.reg [i1 14 (.mov (.t 6)),
    i1 15 (.faddr 0 (.t 2)),
    i1 16 (.load 1 false (.t 15)),
    i1 17 (.len 1 (.t 16)),
    i1 18 (.bin .lss (.t 14) (.t 17)),
    i1 19 (.mov (.t 18)),
    .grp 19 true [s1 20 (.mov (.t 5)), s1 21 (.bin .gtr (.t 20) (.c (.int .i64 0)))],
    i1 22 (.pick (.t 19) (.t 21) (.c (.bool false)))] [1, 2, 5, 6, 22] []) (.cond (.t 22) (.skip) (.exit 0))) (.seq (.block 1 (.seq (.seq (.reg [i1 25 (.faddr 0 (.t 2)),
    i1 26 (.load 1 false (.t 25)),
    i1 27 (.mov (.t 6)),
    i1 28 (.iaddr 2 (.t 26) (.t 27)),
    i1 29 (.faddr 0 (.t 28)),
    i1 30 (.load 1 false (.t 29)),
    i1 31 (.len 0 (.t 30)),
    i1 32 (.bin .gtr (.t 31) (.c (.int .i64 100)))] [1, 2, 5, 6, 32] []) (.cond (.t 32) (.seq (.reg [i1 4 (.mov (.c (.bool false)))] [4] []) (.ret)) (.skip))) (.seq (.reg [i1 7 (.mov (.c (.int .i64 0)))] [1, 2, 5, 6, 7] []) (.block 2 (.loop [1, 2, 5, 6, 7] (.seq (.seq (.reg [i1 33 (.mov (.t 7)),
    i1 34 (.faddr 0 (.t 2)),
    i1 35 (.load 1 false (.t 34)),
    i1 36 (.mov (.t 6)),
    i1 37 (.iaddr 2 (.t 35) (.t 36)),
    i1 38 (.faddr 1 (.t 37)),
    i1 39 (.load 1 false (.t 38)),
    i1 40 (.len 1 (.t 39)),
    i1 41 (.bin .lss (.t 33) (.t 40)),
    i1 42 (.mov (.t 41)),
    .grp 42 true [s1 43 (.mov (.t 5)), s1 44 (.bin .gtr (.t 43) (.c (.int .i64 0)))],
    i1 45 (.pick (.t 42) (.t 44) (.c (.bool false)))] [1, 2, 5, 6, 7, 45] []) (.cond (.t 45) (.skip) (.exit 2))) (.seq (.block 3 (.seq (.reg [i1 48 (.faddr 0 (.t 2)),
    i1 49 (.load 1 false (.t 48)),
    i1 50 (.mov (.t 6)),
    i1 51 (.iaddr 2 (.t 49) (.t 50)),
    i1 52 (.faddr 1 (.t 51)),
    i1 53 (.load 1 false (.t 52)),
    i1 54 (.mov (.t 7)),
    i1 55 (.iaddr 6 (.t 53) (.t 54)),
    i1 56 (.load 6 true (.t 55)),
    .box2 8 43 [.str ⟨#[]⟩, .nils, .int .i64 0, .str ⟨#[]⟩, .str ⟨#[]⟩, .nils] 6 (.t 56)] [1, 2, 5, 6, 7, 8] []) (.seq (.seq (.reg [i1 57 (.faddr 1 (.t 8)),
    i1 58 (.load 1 false (.t 57)),
    i1 59 (.len 1 (.t 58)),
    i1 60 (.mov (.t 1)),
    i1 61 (.bin .gtr (.t 59) (.t 60)),
    i1 62 (.mov (.t 61)),
    .grp 62 false [s1 63 (.faddr 0 (.t 8)), s1 64 (.load 1 false (.t 63)), s1 65 (.len 0 (.t 64)), s1 66 (.bin .gtr (.t 65) (.c (.int .i64 100)))],
    i1 67 (.pick (.t 62) (.c (.bool true)) (.t 66))] [1, 2, 5, 6, 7, 8, 67] []) (.cond (.t 67) (.seq (.reg [i1 4 (.mov (.c (.bool false)))] [4] []) (.ret)) (.skip))) (.reg [i1 68 (.faddr 2 (.t 8)),
    i1 69 (.load 4 true (.t 68)),
    i1 70 (.mov (.t 5)),
    i1 71 (.faddr 1 (.t 8)),
    i1 72 (.load 1 false (.t 71)),
    i1 73 (.len 1 (.t 72)),
    i1 74 (.bin .sub (.t 70) (.t 73)),
    i1 75 (.call (.f 25) [.t 69, .t 74]),
    i1 5 (.mov (.t 75))] [1, 2, 5, 6, 7] [])))) (.reg [i1 46 (.mov (.t 7)),
    i1 47 (.bin .add (.t 46) (.c (.int .i64 1))),
    i1 7 (.mov (.t 47))] [1, 2, 5, 6, 7] [])))))))) (.reg [i1 23 (.mov (.t 6)),
    i1 24 (.bin .add (.t 23) (.c (.int .i64 1))),
    i1 6 (.mov (.t 24))] [1, 2, 5, 6] [])))))) (.seq (.reg [i1 76 (.mov (.t 5)),
    i1 77 (.bin .gtr (.t 76) (.c (.int .i64 0))),
    i1 4 (.mov (.t 77))] [4] []) (.ret))))
abbrev nr_law11_Few : Nat := 12
def C_law11_Few_5 (QF : AEnd → Store → Prop) (r0 : LE → Store → Prop) (r1 : LE → Store → Prop) (v1 v2 v5 v6 v7 v8 v67 : AV) (S : Store) : Prop :=
  cnW v67 (rtW [.tmp (.bool false)] QF S)
  (faW 2 v8 fun v68 =>
  ldW S 4 true v68 fun v69 =>
  faW 1 v8 fun v71 =>
  ldW S 1 false v71 fun v72 =>
  lnW S 1 v72 fun v73 =>
  biW .sub v5 v73 fun v74 =>
  caW PG S (.func (.func 25) [] []) [v69, v74] (fun v75 S =>
  biW .add v7 (.int .i64 1) fun v47 =>
  rcW r1 [(1, v1), (2, v2), (5, v75), (6, v6), (7, v47)] S) (pqW QF))
def C_law11_Few_4 (QF : AEnd → Store → Prop) (r0 : LE → Store → Prop) (r1 : LE → Store → Prop) (v1 v2 v5 v6 v7 v45 : AV) (S : Store) : Prop :=
  cnW v45 (faW 0 v2 fun v48 =>
  ldW S 1 false v48 fun v49 =>
  iaW 2 v49 v6 fun v51 =>
  faW 1 v51 fun v52 =>
  ldW S 1 false v52 fun v53 =>
  iaW 6 v53 v7 fun v55 =>
  ldW S 6 true v55 fun v56 =>
  bfW 6 v56 fun v8 =>
  faW 1 v8 fun v57 =>
  ldW S 1 false v57 fun v58 =>
  lnW S 1 v58 fun v59 =>
  biW .gtr v59 v1 fun v61 =>
  grW v61 false (faW 0 v8 fun v63 =>
  ldW S 1 false v63 fun v64 =>
  lnW S 0 v64 fun v65 =>
  biW .gtr v65 (.int .i64 100) fun v66 =>
  pkW v61 (.bool true) v66 fun v67 =>
  C_law11_Few_5 QF r0 r1 v1 v2 v5 v6 v7 v8 v67 S)
  (pkW v61 (.bool true) undefA fun v67 =>
  C_law11_Few_5 QF r0 r1 v1 v2 v5 v6 v7 v8 v67 S))
  (biW .add v6 (.int .i64 1) fun v24 =>
  rcW r0 [(1, v1), (2, v2), (5, v5), (6, v24)] S)
def C_law11_Few_3 (QF : AEnd → Store → Prop) (r0 : LE → Store → Prop) (r1 : LE → Store → Prop) (v1 v2 v5 v6 v7 : AV) (S : Store) : Prop :=
  faW 0 v2 fun v34 =>
  ldW S 1 false v34 fun v35 =>
  iaW 2 v35 v6 fun v37 =>
  faW 1 v37 fun v38 =>
  ldW S 1 false v38 fun v39 =>
  lnW S 1 v39 fun v40 =>
  biW .lss v7 v40 fun v41 =>
  grW v41 true (biW .gtr v5 (.int .i64 0) fun v44 =>
  pkW v41 v44 (.bool false) fun v45 =>
  C_law11_Few_4 QF r0 r1 v1 v2 v5 v6 v7 v45 S)
  (pkW v41 undefA (.bool false) fun v45 =>
  C_law11_Few_4 QF r0 r1 v1 v2 v5 v6 v7 v45 S)
def C_law11_Few_2 (QF : AEnd → Store → Prop) (r0 : LE → Store → Prop) (v1 v2 v5 v6 v22 : AV) (S : Store) : Prop :=
  cnW v22 (faW 0 v2 fun v25 =>
  ldW S 1 false v25 fun v26 =>
  iaW 2 v26 v6 fun v28 =>
  faW 0 v28 fun v29 =>
  ldW S 1 false v29 fun v30 =>
  lnW S 0 v30 fun v31 =>
  biW .gtr v31 (.int .i64 100) fun v32 =>
  cnW v32 (rtW [.tmp (.bool false)] QF S)
  (LoopP (fun r1 l S => C_law11_Few_3 QF r0 r1 (lget l 1) (lget l 2) (lget l 5) (lget l 6) (lget l 7) S) [(1, v1), (2, v2), (5, v5), (6, v6), (7, (.int .i64 0))] S))
  (biW .gtr v5 (.int .i64 0) fun v77 =>
  rtW [.tmp v77] QF S)
def C_law11_Few_1 (QF : AEnd → Store → Prop) (r0 : LE → Store → Prop) (v1 v2 v5 v6 : AV) (S : Store) : Prop :=
  faW 0 v2 fun v15 =>
  ldW S 1 false v15 fun v16 =>
  lnW S 1 v16 fun v17 =>
  biW .lss v6 v17 fun v18 =>
  grW v18 true (biW .gtr v5 (.int .i64 0) fun v21 =>
  pkW v18 v21 (.bool false) fun v22 =>
  C_law11_Few_2 QF r0 v1 v2 v5 v6 v22 S)
  (pkW v18 undefA (.bool false) fun v22 =>
  C_law11_Few_2 QF r0 v1 v2 v5 v6 v22 S)
def B_law11_Few (QF : AEnd → Store → Prop) (v0 v1 : AV) (S : Store) : Prop :=
  brW 1 v0 fun v2 =>
  faW 0 v2 fun v10 =>
  ldW S 1 false v10 fun v11 =>
  lnW S 1 v11 fun v12 =>
  biW .sub v1 v12 fun v13 =>
  LoopP (fun r0 l S => C_law11_Few_1 QF r0 (lget l 1) (lget l 2) (lget l 5) (lget l 6) S) [(1, v1), (2, v2), (5, v13), (6, (.int .i64 0))] S
theorem w_law11_Few {QF : AEnd → Store → Prop} {v0 v1 : AV} {S : Store} (h : B_law11_Few QF v0 v1 S) : ACalls PG nr_law11_Few [v0, v1] S QF :=
  acalls_tf (F := tf_law11_Few) (by kernel_rfl) rfl (by kernel_rfl) h
def tf_rules_Levels : TFunc where
  n := 58
  args := 1
  res := [.tmp 2, .tmp 3]
  code := .seq (.reg [i1 1 (.boxr 24 1 (.t 0)),
    i1 2 (.mov (.c (.nils))),
    i1 3 (.mov (.c (.bool false)))] [1] []) (.seq (.seq (.reg [i1 11 (.load 1 true (.t 1)),
    i1 12 (.call (.f 16) [.t 11]),
    i1 13 (.field 2 1 false (.t 12)),
    i1 14 (.bin .neq (.t 13) (.c (.int .i64 0)))] [1, 14] []) (.cond (.t 14) (.seq (.reg [i1 2 (.mov (.c (.nils))),
    i1 3 (.mov (.c (.bool false)))] [2, 3] []) (.ret)) (.skip))) (.seq (.reg [i1 15 (.load 1 true (.t 1)),
    i1 16 (.call (.f 26) [.t 15]),
    i1 4 (.mov (.t 16))] [1, 4] []) (.seq (.reg [i1 18 (.mov (.t 4)),
    i1 19 (.call (.f 27) [.t 18]),
    i1 17 (.mov (.t 19)),
    i1 20 (.extr (.t 17) 0),
    i1 21 (.extr (.t 17) 1),
    i1 5 (.mov (.t 20)),
    i1 6 (.mov (.t 21))] [1, 5] []) (.seq (.reg [i1 7 (.mov (.c (.nils)))] [1, 5, 7] []) (.seq (.seq (.reg [i1 22 (.faddr 0 (.t 1)),
    i1 23 (.load 1 false (.t 22)),
    i1 24 (.len 1 (.t 23)),
    i1 25 (.mov (.c (.int .i64 0)))] [5, 7, 23, 24, 25] []) (.block 0 (.loop [5, 7, 23, 24, 25] (.seq (.reg [i1 26 (.bin .lss (.t 25) (.t 24))] [5, 7, 23, 24, 25, 26] []) (.seq (.cond (.t 26) (.skip) (.exit 0)) (.seq (.block 1 (.seq (.reg [i1 27 (.mov (.t 25)),
    i1 28 (.iaddr 2 (.t 23) (.t 25)),
    i1 29 (.load 2 true (.t 28)),
    i1 9 (.alloc 51 [.str ⟨#[]⟩, .nils]),
    i1 8 (.mov (.t 27)),
    i0 (.store 2 (.t 9) (.t 29))] [5, 7, 8, 9, 23, 24, 25] [9]) (.seq (.reg [i1 30 (.mov (.t 7)),
    i1 31 (.bslicr 3 1 [.c (.int .i64 0)]),
    i1 32 (.faddr 1 (.t 9)),
    i1 33 (.load 1 false (.t 32)),
    i1 34 (.len 1 (.t 33)),
    i1 35 (.call (.f 28) [.t 31, .t 34]),
    i1 36 (.bslicr 48 1 [.t 35]),
    i1 37 (.app 48 1 24 (.t 30) (.t 36)),
    i1 7 (.mov (.t 37))] [5, 7, 8, 9, 23, 24, 25] []) (.seq (.reg [i1 38 (.faddr 1 (.t 9)),
    i1 39 (.load 1 false (.t 38)),
    i1 40 (.len 1 (.t 39)),
    i1 41 (.mov (.c (.int .i64 0)))] [5, 7, 8, 23, 24, 25, 40, 41] []) (.block 2 (.loop [5, 7, 8, 23, 24, 25, 40, 41] (.seq (.reg [i1 42 (.bin .lss (.t 41) (.t 40))] [5, 7, 8, 23, 24, 25, 40, 41, 42] []) (.seq (.cond (.t 42) (.skip) (.exit 2)) (.seq (.block 3 (.seq (.reg [i1 43 (.mov (.t 41)),
    i1 10 (.mov (.t 43))] [5, 7, 8, 10, 23, 24, 25, 40, 41] []) (.regl [0, 1, 2, 4, 5, 6, 7, 8, 3, 9, 10, 11] [i1 44 (.mov (.t 7)),
    i1 45 (.mov (.t 8)),
    i1 46 (.iaddr 1 (.t 44) (.t 45)),
    i1 48 (.mov (.t 10)),
    i1 49 (.mov (.t 5)),
    i1 50 (.mov (.t 8)),
    i1 51 (.mov (.t 10)),
    i1 52 (.build [.int .i64 0, .int .i64 0] [(0, 1, .t 50), (1, 1, .t 51)]),
    i1 47 (.load 1 false (.t 46)),
    i1 53 (.lookup (true, [.int .i64, .int .i64]) false (.int .i64 0) (.t 49) (.t 52)),
    i1 54 (.iaddr 1 (.t 47) (.t 48)),
    i0 (.store 1 (.t 54) (.t 53))] [5, 7, 8, 23, 24, 25, 40, 41] []))) (.reg [i1 55 (.bin .add (.t 41) (.c (.int .i64 1))),
    i1 41 (.mov (.t 55))] [5, 7, 8, 23, 24, 25, 40, 41] [])))))))))) (.reg [i1 56 (.bin .add (.t 25) (.c (.int .i64 1))),
    i1 25 (.mov (.t 56))] [5, 7, 23, 24, 25] []))))))) (.seq (.reg [i1 57 (.mov (.t 7)),
    i1 2 (.mov (.t 57)),
    i1 3 (.mov (.c (.bool true)))] [2, 3] []) (.ret)))))))
abbrev nr_rules_Levels : Nat := 13
def C_rules_Levels_2 (QF : AEnd → Store → Prop) (r0 : LE → Store → Prop) (r1 : LE → Store → Prop) (v5 v7 v8 v23 v24 v25 v40 v41 : AV) (S : Store) : Prop :=
  biW .lss v41 v40 fun v42 =>
  cnW v42 (iaW 1 v7 v8 fun v46 =>
  bdW [.int .i64 0, .int .i64 0] [(0, 1, v8), (1, 1, v41)] fun v52 =>
  ldW S 1 false v46 fun v47 =>
  lkW S (true, [.int .i64, .int .i64]) false (.int .i64 0) v5 v52 fun v53 =>
  iaW 1 v47 v41 fun v54 =>
  stW S 1 v54 v53 fun S =>
  biW .add v41 (.int .i64 1) fun v55 =>
  rcW r1 [(5, v5), (7, v7), (8, v8), (23, v23), (24, v24), (25, v25), (40, v40), (41, v55)] S)
  (biW .add v25 (.int .i64 1) fun v56 =>
  rcW r0 [(5, v5), (7, v7), (23, v23), (24, v24), (25, v56)] S)
def C_rules_Levels_1 (QF : AEnd → Store → Prop) (r0 : LE → Store → Prop) (v5 v7 v23 v24 v25 : AV) (S : Store) : Prop :=
  biW .lss v25 v24 fun v26 =>
  cnW v26 (iaW 2 v23 v25 fun v28 =>
  ldW S 2 true v28 fun v29 =>
  alW S 51 [.str ⟨#[]⟩, .nils] fun v9 S =>
  stW S 2 v9 v29 fun S =>
  fzW S v9 fun v9 S =>
  srW 1 [(.int .i64 0)] fun v31 =>
  faW 1 v9 fun v32 =>
  ldW S 1 false v32 fun v33 =>
  lnW S 1 v33 fun v34 =>
  caW PG S (.func (.func 28) [] []) [v31, v34] (fun v35 S =>
  srW 1 [v35] fun v36 =>
  apW S 48 1 24 v7 v36 fun v37 S =>
  faW 1 v9 fun v38 =>
  ldW S 1 false v38 fun v39 =>
  lnW S 1 v39 fun v40 =>
  LoopP (fun r1 l S => C_rules_Levels_2 QF r0 r1 (lget l 5) (lget l 7) (lget l 8) (lget l 23) (lget l 24) (lget l 25) (lget l 40) (lget l 41) S) [(5, v5), (7, v37), (8, v25), (23, v23), (24, v24), (25, v25), (40, v40), (41, (.int .i64 0))] S) (pqW QF))
  (rtW [.tmp v7, .tmp (.bool true)] QF S)
def B_rules_Levels (QF : AEnd → Store → Prop) (v0 : AV) (S : Store) : Prop :=
  brW 1 v0 fun v1 =>
  ldW S 1 true v1 fun v11 =>
  caW PG S (.func (.func 16) [] []) [v11] (fun v12 S =>
  fdW 2 1 false v12 fun v13 =>
  biW .neq v13 (.int .i64 0) fun v14 =>
  cnW v14 (rtW [.tmp (.nils), .tmp (.bool false)] QF S)
  (ldW S 1 true v1 fun v15 =>
  caW PG S (.func (.func 26) [] []) [v15] (fun v16 S =>
  caW PG S (.func (.func 27) [] []) [v16] (fun v19 S =>
  exW 0 v19 fun v20 =>
  exW 1 v19 fun v21 =>
  faW 0 v1 fun v22 =>
  ldW S 1 false v22 fun v23 =>
  lnW S 1 v23 fun v24 =>
  LoopP (fun r0 l S => C_rules_Levels_1 QF r0 (lget l 5) (lget l 7) (lget l 23) (lget l 24) (lget l 25) S) [(5, v20), (7, (.nils)), (23, v23), (24, v24), (25, (.int .i64 0))] S) (pqW QF)) (pqW QF))) (pqW QF)
theorem w_rules_Levels {QF : AEnd → Store → Prop} {v0 : AV} {S : Store} (h : B_rules_Levels QF v0 S) : ACalls PG nr_rules_Levels [v0] S QF :=
  acalls_tf (F := tf_rules_Levels) (by kernel_rfl) rfl (by kernel_rfl) h
def tf_law12_levels : TFunc where
  n := 53
  args := 2
  res := [.tmp 4]
  code := .seq (.reg [i1 4 (.mov (.c (.bool false)))] [0, 1] []) (.seq (.seq (.reg [i1 7 (.mov (.t 0)),
    i1 8 (.len 1 (.t 7)),
    i1 9 (.mov (.t 1)),
    i1 10 (.len 1 (.t 9)),
    i1 11 (.bin .neq (.t 8) (.t 10))] [0, 1, 11] []) (.cond (.t 11) (.seq (.reg [i1 4 (.mov (.c (.bool false)))] [4] []) (.ret)) (.skip))) (.seq (.seq (.reg [i1 5 (.mov (.c (.int .i64 0)))] [0, 1, 5] []) (.block 0 (.loop [0, 1, 5] (.seq (.seq (.reg [i1 12 (.mov (.t 5)),
    i1 13 (.mov (.t 0)),
    i1 14 (.len 1 (.t 13)),
    i1 15 (.bin .lss (.t 12) (.t 14))] [0, 1, 5, 15] []) (.cond (.t 15) (.skip) (.exit 0))) (.seq (.block 1 (.seq (.seq (.regl [0, 1, 2, 5, 6, 7, 3, 4, 8, 9, 10] [i1 18 (.mov (.t 0)),
    i1 19 (.mov (.t 5)),
    i1 20 (.iaddr 1 (.t 18) (.t 19)),
    i1 23 (.mov (.t 1)),
    i1 24 (.mov (.t 5)),
    i1 25 (.iaddr 1 (.t 23) (.t 24)),
    i1 21 (.load 1 false (.t 20)),
    i1 22 (.len 1 (.t 21)),
    i1 26 (.load 1 false (.t 25)),
    i1 27 (.len 1 (.t 26)),
    i1 28 (.bin .neq (.t 22) (.t 27))] [0, 1, 5, 28] []) (.cond (.t 28) (.seq (.reg [i1 4 (.mov (.c (.bool false)))] [4] []) (.ret)) (.skip))) (.seq (.reg [i1 6 (.mov (.c (.int .i64 0)))] [0, 1, 5, 6] []) (.block 2 (.loop [0, 1, 5, 6] (.seq (.seq (.reg [i1 29 (.mov (.t 6)),
    i1 30 (.mov (.t 0)),
    i1 31 (.mov (.t 5)),
    i1 32 (.iaddr 1 (.t 30) (.t 31)),
    i1 33 (.load 1 false (.t 32)),
    i1 34 (.len 1 (.t 33)),
    i1 35 (.bin .lss (.t 29) (.t 34))] [0, 1, 5, 6, 35] []) (.cond (.t 35) (.skip) (.exit 2))) (.seq (.block 3 (.seq (.regl [0, 1, 2, 4, 7, 8, 9, 11, 3, 5, 6, 10, 12, 13, 14] [i1 38 (.mov (.t 0)),
    i1 39 (.mov (.t 5)),
    i1 40 (.iaddr 1 (.t 38) (.t 39)),
    i1 42 (.mov (.t 6)),
    i1 45 (.mov (.t 1)),
    i1 46 (.mov (.t 5)),
    i1 47 (.iaddr 1 (.t 45) (.t 46)),
    i1 49 (.mov (.t 6)),
    i1 41 (.load 1 false (.t 40)),
    i1 43 (.iaddr 1 (.t 41) (.t 42)),
    i1 44 (.load 1 false (.t 43)),
    i1 48 (.load 1 false (.t 47)),
    i1 50 (.iaddr 1 (.t 48) (.t 49)),
    i1 51 (.load 1 false (.t 50)),
    i1 52 (.bin .neq (.t 44) (.t 51))] [0, 1, 5, 6, 52] []) (.cond (.t 52) (.seq (.reg [i1 4 (.mov (.c (.bool false)))] [4] []) (.ret)) (.skip)))) (.reg [i1 36 (.mov (.t 6)),
    i1 37 (.bin .add (.t 36) (.c (.int .i64 1))),
    i1 6 (.mov (.t 37))] [0, 1, 5, 6] [])))))))) (.reg [i1 16 (.mov (.t 5)),
    i1 17 (.bin .add (.t 16) (.c (.int .i64 1))),
    i1 5 (.mov (.t 17))] [0, 1, 5] [])))))) (.seq (.reg [i1 4 (.mov (.c (.bool true)))] [4] []) (.ret))))
abbrev nr_law12_levels : Nat := 15
def C_law12_levels_2 (QF : AEnd → Store → Prop) (r0 : LE → Store → Prop) (r1 : LE → Store → Prop) (v0 v1 v5 v6 : AV) (S : Store) : Prop :=
  iaW 1 v0 v5 fun v32 =>
  ldW S 1 false v32 fun v33 =>
  lnW S 1 v33 fun v34 =>
  biW .lss v6 v34 fun v35 =>
  cnW v35 (iaW 1 v0 v5 fun v40 =>
  iaW 1 v1 v5 fun v47 =>
  ldW S 1 false v40 fun v41 =>
  iaW 1 v41 v6 fun v43 =>
  ldW S 1 false v43 fun v44 =>
  ldW S 1 false v47 fun v48 =>
  iaW 1 v48 v6 fun v50 =>
  ldW S 1 false v50 fun v51 =>
  biW .neq v44 v51 fun v52 =>
  cnW v52 (rtW [.tmp (.bool false)] QF S)
  (biW .add v6 (.int .i64 1) fun v37 =>
  rcW r1 [(0, v0), (1, v1), (5, v5), (6, v37)] S))
  (biW .add v5 (.int .i64 1) fun v17 =>
  rcW r0 [(0, v0), (1, v1), (5, v17)] S)
def C_law12_levels_1 (QF : AEnd → Store → Prop) (r0 : LE → Store → Prop) (v0 v1 v5 : AV) (S : Store) : Prop :=
  lnW S 1 v0 fun v14 =>
  biW .lss v5 v14 fun v15 =>
  cnW v15 (iaW 1 v0 v5 fun v20 =>
  iaW 1 v1 v5 fun v25 =>
  ldW S 1 false v20 fun v21 =>
  lnW S 1 v21 fun v22 =>
  ldW S 1 false v25 fun v26 =>
  lnW S 1 v26 fun v27 =>
  biW .neq v22 v27 fun v28 =>
  cnW v28 (rtW [.tmp (.bool false)] QF S)
  (LoopP (fun r1 l S => C_law12_levels_2 QF r0 r1 (lget l 0) (lget l 1) (lget l 5) (lget l 6) S) [(0, v0), (1, v1), (5, v5), (6, (.int .i64 0))] S))
  (rtW [.tmp (.bool true)] QF S)
def B_law12_levels (QF : AEnd → Store → Prop) (v0 v1 : AV) (S : Store) : Prop :=
  lnW S 1 v0 fun v8 =>
  lnW S 1 v1 fun v10 =>
  biW .neq v8 v10 fun v11 =>
  cnW v11 (rtW [.tmp (.bool false)] QF S)
  (LoopP (fun r0 l S => C_law12_levels_1 QF r0 (lget l 0) (lget l 1) (lget l 5) S) [(0, v0), (1, v1), (5, (.int .i64 0))] S)
theorem w_law12_levels {QF : AEnd → Store → Prop} {v0 v1 : AV} {S : Store} (h : B_law12_levels QF v0 v1 S) : ACalls PG nr_law12_levels [v0, v1] S QF :=
  acalls_tf (F := tf_law12_levels) (by kernel_rfl) rfl (by kernel_rfl) h
def tf_rules_Check : TFunc where
  n := 23
  args := 1
  res := [.cell 2 3 true]
  code := .seq (.reg [i1 1 (.boxr 24 1 (.t 0)),
    i1 2 (.alloc 33 [.int .i64 0, .int .i64 0, .int .i64 0])] [1, 2] []) (.seq (.reg [i1 7 (.load 1 true (.t 1)),
    i1 8 (.call (.f 26) [.t 7]),
    i1 3 (.mov (.t 8))] [2, 3] []) (.seq (.seq (.reg [i1 9 (.mov (.t 3)),
    i1 10 (.call (.f 30) [.t 9]),
    .box2 4 33 [.int .i64 0, .int .i64 0, .int .i64 0] 3 (.t 10)] [2, 3, 4] []) (.seq (.reg [i1 11 (.faddr 2 (.t 4)),
    i1 12 (.load 1 false (.t 11)),
    i1 13 (.bin .neq (.t 12) (.c (.int .i64 0)))] [2, 3, 4, 13] []) (.cond (.t 13) (.seq (.reg [i1 14 (.load 3 true (.t 4)),
    i0 (.store 3 (.t 2) (.t 14))] [2] []) (.ret)) (.skip)))) (.seq (.reg [i1 16 (.mov (.t 3)),
    i1 17 (.call (.f 27) [.t 16]),
    i1 15 (.mov (.t 17)),
    i1 18 (.extr (.t 15) 0),
    i1 19 (.extr (.t 15) 1),
    i1 5 (.alloc 65 [.map none]),
    i1 6 (.alloc 3 [.int .i64 0]),
    i0 (.store 1 (.t 5) (.t 18)),
    i0 (.store 1 (.t 6) (.t 19))] [2, 3, 5, 6] [5, 6]) (.seq (.reg [i1 20 (.mov (.t 3)),
    i1 21 (.mkf (.func 32) [] [.t 5, .t 6]),
    i1 22 (.call (.f 31) [.t 20, .t 21]),
    i0 (.store 3 (.t 2) (.t 22))] [2] []) (.ret)))))
abbrev nr_rules_Check : Nat := 16
def B_rules_Check (QF : AEnd → Store → Prop) (v0 : AV) (S : Store) : Prop :=
  brW 1 v0 fun v1 =>
  alW S 33 [.int .i64 0, .int .i64 0, .int .i64 0] fun v2 S =>
  ldW S 1 true v1 fun v7 =>
  caW PG S (.func (.func 26) [] []) [v7] (fun v8 S =>
  caW PG S (.func (.func 30) [] []) [v8] (fun v10 S =>
  bfW 3 v10 fun v4 =>
  faW 2 v4 fun v11 =>
  ldW S 1 false v11 fun v12 =>
  biW .neq v12 (.int .i64 0) fun v13 =>
  cnW v13 (ldW S 3 true v4 fun v14 =>
  stW S 3 v2 v14 fun S =>
  rtW [.cell v2 3 true] QF S)
  (caW PG S (.func (.func 27) [] []) [v8] (fun v17 S =>
  exW 0 v17 fun v18 =>
  exW 1 v17 fun v19 =>
  alW S 65 [.map none] fun v5 S =>
  alW S 3 [.int .i64 0] fun v6 S =>
  stW S 1 v5 v18 fun S =>
  stW S 1 v6 v19 fun S =>
  fzW S v5 fun v5 S =>
  fzW S v6 fun v6 S =>
  caW PG S (.func (.func 31) [] []) [v8, (.func (.func 32) [] [v5, v6])] (fun v22 S =>
  stW S 3 v2 v22 fun S =>
  rtW [.cell v2 3 true] QF S) (pqW QF)) (pqW QF))) (pqW QF)) (pqW QF)
theorem w_rules_Check {QF : AEnd → Store → Prop} {v0 : AV} {S : Store} (h : B_rules_Check QF v0 S) : ACalls PG nr_rules_Check [v0] S QF :=
  acalls_tf (F := tf_rules_Check) (by kernel_rfl) rfl (by kernel_rfl) h
def tf_ref12_Check : TFunc where
  n := 46
  args := 1
  res := [.cell 2 3 true]
  code := .seq (.reg [i1 1 (.boxr 24 1 (.t 0)),
    i1 2 (.alloc 33 [.int .i64 0, .int .i64 0, .int .i64 0])] [1, 2] []) (.seq (.reg [i1 8 (.load 1 true (.t 1)),
    i1 9 (.call (.f 33) [.t 8]),
    .box2 3 33 [.int .i64 0, .int .i64 0, .int .i64 0] 3 (.t 9)] [1, 2, 3] []) (.seq (.seq (.reg [i1 10 (.faddr 2 (.t 3)),
    i1 11 (.load 1 false (.t 10)),
    i1 12 (.bin .neq (.t 11) (.c (.int .i64 0)))] [1, 2, 3, 12] []) (.cond (.t 12) (.seq (.reg [i1 13 (.load 3 true (.t 3)),
    i0 (.store 3 (.t 2) (.t 13))] [2] []) (.ret)) (.skip))) (.seq (.reg [i1 14 (.load 1 true (.t 1)),
    i1 15 (.call (.f 29) [.t 14]),
    i1 4 (.mov (.t 15))] [1, 2, 4] []) (.seq (.reg [i1 16 (.load 1 true (.t 1)),
    i1 17 (.call (.f 34) [.t 16]),
    i1 5 (.mov (.t 17))] [2, 4, 5] []) (.seq (.seq (.reg [i1 6 (.mov (.c (.int .i64 0)))] [2, 4, 5, 6] []) (.block 0 (.loop [2, 4, 5, 6] (.seq (.seq (.reg [i1 18 (.mov (.t 6)),
    i1 19 (.mov (.t 4)),
    i1 20 (.len 1 (.t 19)),
    i1 21 (.bin .lss (.t 18) (.t 20))] [2, 4, 5, 6, 21] []) (.cond (.t 21) (.skip) (.exit 0))) (.seq (.block 1 (.seq (.reg [i1 7 (.mov (.c (.int .i64 0)))] [2, 4, 5, 6, 7] []) (.block 2 (.loop [2, 4, 5, 6, 7] (.seq (.seq (.reg [i1 24 (.mov (.t 7)),
    i1 25 (.mov (.t 4)),
    i1 26 (.mov (.t 6)),
    i1 27 (.iaddr 1 (.t 25) (.t 26)),
    i1 28 (.load 1 false (.t 27)),
    i1 29 (.len 1 (.t 28)),
    i1 30 (.bin .lss (.t 24) (.t 29))] [2, 4, 5, 6, 7, 30] []) (.cond (.t 30) (.skip) (.exit 2))) (.seq (.block 3 (.seq (.reg [i1 33 (.mov (.t 4)),
    i1 34 (.mov (.t 6)),
    i1 35 (.iaddr 1 (.t 33) (.t 34)),
    i1 36 (.load 1 false (.t 35)),
    i1 37 (.mov (.t 7)),
    i1 38 (.iaddr 1 (.t 36) (.t 37)),
    i1 39 (.load 1 false (.t 38)),
    i1 40 (.mov (.t 5)),
    i1 41 (.bin .gtr (.t 39) (.t 40))] [2, 4, 5, 6, 7, 41] []) (.cond (.t 41) (.seq (.reg [i1 42 (.mov (.t 6)),
    i1 43 (.mov (.t 7)),
    i1 44 (.build [.int .i64 0, .int .i64 0, .int .i64 0] [(0, 1, .t 42), (1, 1, .t 43), (2, 1, .c (.int .i64 11))]),
    i0 (.store 3 (.t 2) (.t 44))] [2] []) (.ret)) (.skip)))) (.reg [i1 31 (.mov (.t 7)),
    i1 32 (.bin .add (.t 31) (.c (.int .i64 1))),
    i1 7 (.mov (.t 32))] [2, 4, 5, 6, 7] []))))))) (.reg [i1 22 (.mov (.t 6)),
    i1 23 (.bin .add (.t 22) (.c (.int .i64 1))),
    i1 6 (.mov (.t 23))] [2, 4, 5, 6] [])))))) (.seq (.reg [i1 45 (.build [.int .i64 0, .int .i64 0, .int .i64 0] []),
    i0 (.store 3 (.t 2) (.t 45))] [2] []) (.ret)))))))
abbrev nr_ref12_Check : Nat := 17
def C_ref12_Check_2 (QF : AEnd → Store → Prop) (r0 : LE → Store → Prop) (r1 : LE → Store → Prop) (v2 v4 v5 v6 v7 : AV) (S : Store) : Prop :=
  iaW 1 v4 v6 fun v27 =>
  ldW S 1 false v27 fun v28 =>
  lnW S 1 v28 fun v29 =>
  biW .lss v7 v29 fun v30 =>
  cnW v30 (iaW 1 v4 v6 fun v35 =>
  ldW S 1 false v35 fun v36 =>
  iaW 1 v36 v7 fun v38 =>
  ldW S 1 false v38 fun v39 =>
  biW .gtr v39 v5 fun v41 =>
  cnW v41 (bdW [.int .i64 0, .int .i64 0, .int .i64 0] [(0, 1, v6), (1, 1, v7), (2, 1, (.int .i64 11))] fun v44 =>
  stW S 3 v2 v44 fun S =>
  rtW [.cell v2 3 true] QF S)
  (biW .add v7 (.int .i64 1) fun v32 =>
  rcW r1 [(2, v2), (4, v4), (5, v5), (6, v6), (7, v32)] S))
  (biW .add v6 (.int .i64 1) fun v23 =>
  rcW r0 [(2, v2), (4, v4), (5, v5), (6, v23)] S)
def C_ref12_Check_1 (QF : AEnd → Store → Prop) (r0 : LE → Store → Prop) (v2 v4 v5 v6 : AV) (S : Store) : Prop :=
  lnW S 1 v4 fun v20 =>
  biW .lss v6 v20 fun v21 =>
  cnW v21 (LoopP (fun r1 l S => C_ref12_Check_2 QF r0 r1 (lget l 2) (lget l 4) (lget l 5) (lget l 6) (lget l 7) S) [(2, v2), (4, v4), (5, v5), (6, v6), (7, (.int .i64 0))] S)
  (bdW [.int .i64 0, .int .i64 0, .int .i64 0] [] fun v45 =>
  stW S 3 v2 v45 fun S =>
  rtW [.cell v2 3 true] QF S)
def B_ref12_Check (QF : AEnd → Store → Prop) (v0 : AV) (S : Store) : Prop :=
  brW 1 v0 fun v1 =>
  alW S 33 [.int .i64 0, .int .i64 0, .int .i64 0] fun v2 S =>
  ldW S 1 true v1 fun v8 =>
  caW PG S (.func (.func 33) [] []) [v8] (fun v9 S =>
  bfW 3 v9 fun v3 =>
  faW 2 v3 fun v10 =>
  ldW S 1 false v10 fun v11 =>
  biW .neq v11 (.int .i64 0) fun v12 =>
  cnW v12 (ldW S 3 true v3 fun v13 =>
  stW S 3 v2 v13 fun S =>
  rtW [.cell v2 3 true] QF S)
  (ldW S 1 true v1 fun v14 =>
  caW PG S (.func (.func 29) [] []) [v14] (fun v15 S =>
  ldW S 1 true v1 fun v16 =>
  caW PG S (.func (.func 34) [] []) [v16] (fun v17 S =>
  LoopP (fun r0 l S => C_ref12_Check_1 QF r0 (lget l 2) (lget l 4) (lget l 5) (lget l 6) S) [(2, v2), (4, v15), (5, v17), (6, (.int .i64 0))] S) (pqW QF)) (pqW QF))) (pqW QF)
theorem w_ref12_Check {QF : AEnd → Store → Prop} {v0 : AV} {S : Store} (h : B_ref12_Check QF v0 S) : ACalls PG nr_ref12_Check [v0] S QF :=
  acalls_tf (F := tf_ref12_Check) (by kernel_rfl) rfl (by kernel_rfl) h
def tf_law12_read : TFunc where
  n := 11
  args := 1
  res := [.cell 2 1 true]
  code := .seq (.reg [i1 2 (.alloc 24 [.nils])] [0, 2] []) (.seq (.reg [i1 6 (.mov (.t 0)),
    i1 7 (.call (.f 35) [.t 6]),
    i1 5 (.mov (.t 7)),
    i1 8 (.extr (.t 5) 0),
    i1 9 (.extr (.t 5) 1),
    i1 3 (.alloc 24 [.nils]),
    i1 4 (.alloc 77 [.int .i64 0, .int .i64 0, .int .i64 0]),
    i0 (.store 1 (.t 3) (.t 8)),
    i0 (.store 3 (.t 4) (.t 9))] [2, 3] [3]) (.seq (.reg [i1 10 (.load 1 true (.t 3)),
    i0 (.store 1 (.t 2) (.t 10))] [2] [2]) (.ret)))
abbrev nr_law12_read : Nat := 18
def B_law12_read (QF : AEnd → Store → Prop) (v0 : AV) (S : Store) : Prop :=
  alW S 24 [.nils] fun v2 S =>
  caW PG S (.func (.func 35) [] []) [v0] (fun v7 S =>
  exW 0 v7 fun v8 =>
  exW 1 v7 fun v9 =>
  alW S 24 [.nils] fun v3 S =>
  alW S 77 [.int .i64 0, .int .i64 0, .int .i64 0] fun v4 S =>
  stW S 1 v3 v8 fun S =>
  stW S 3 v4 v9 fun S =>
  fzW S v3 fun v3 S =>
  ldW S 1 true v3 fun v10 =>
  stW S 1 v2 v10 fun S =>
  fzW S v2 fun v2 S =>
  rtW [.cell v2 1 true] QF S) (pqW QF)
theorem w_law12_read {QF : AEnd → Store → Prop} {v0 : AV} {S : Store} (h : B_law12_read QF v0 S) : ACalls PG nr_law12_read [v0] S QF :=
  acalls_tf (F := tf_law12_read) (by kernel_rfl) rfl (by kernel_rfl) h
def tf_rules_Find : TFunc where
  n := 26
  args := 3
  res := [.cell 6 6 true, .tmp 7]
  code := .seq (.reg [i1 3 (.boxr 24 1 (.t 0)),
    i1 6 (.alloc 43 [.str ⟨#[]⟩, .nils, .int .i64 0, .str ⟨#[]⟩, .str ⟨#[]⟩, .nils]),
    i1 7 (.mov (.c (.bool false)))] [1, 2, 3, 6] []) (.seq (.reg [i1 11 (.load 1 true (.t 3)),
    i1 12 (.call (.f 26) [.t 11]),
    i1 8 (.mov (.t 12))] [1, 2, 6, 8] []) (.seq (.reg [i1 14 (.mov (.t 8)),
    i1 15 (.mov (.t 1)),
    i1 16 (.mov (.t 2)),
    i1 17 (.call (.f 36) [.t 14, .t 15, .t 16]),
    i1 13 (.mov (.t 17)),
    i1 18 (.extr (.t 13) 0),
    i1 19 (.extr (.t 13) 1),
    .box2 9 70 [.int .i64 0, .int .i64 0] 2 (.t 18),
    i1 10 (.mov (.t 19))] [6, 8, 9, 10] []) (.seq (.seq (.reg [i1 20 (.mov (.t 10)),
    i1 21 (.not (.t 20))] [6, 8, 9, 21] []) (.cond (.t 21) (.seq (.reg [i1 22 (.build [.str ⟨#[]⟩, .nils, .int .i64 0, .str ⟨#[]⟩, .str ⟨#[]⟩, .nils] []),
    i0 (.store 6 (.t 6) (.t 22)),
    i1 7 (.mov (.c (.bool false)))] [6, 7] []) (.ret)) (.skip))) (.seq (.reg [i1 23 (.mov (.t 8)),
    i1 24 (.load 2 true (.t 9)),
    i1 25 (.call (.f 37) [.t 23, .t 24]),
    i0 (.store 6 (.t 6) (.t 25)),
    i1 7 (.mov (.c (.bool true)))] [6, 7] []) (.ret)))))
abbrev nr_rules_Find : Nat := 19
def B_rules_Find (QF : AEnd → Store → Prop) (v0 v1 v2 : AV) (S : Store) : Prop :=
  brW 1 v0 fun v3 =>
  alW S 43 [.str ⟨#[]⟩, .nils, .int .i64 0, .str ⟨#[]⟩, .str ⟨#[]⟩, .nils] fun v6 S =>
  ldW S 1 true v3 fun v11 =>
  caW PG S (.func (.func 26) [] []) [v11] (fun v12 S =>
  caW PG S (.func (.func 36) [] []) [v12, v1, v2] (fun v17 S =>
  exW 0 v17 fun v18 =>
  exW 1 v17 fun v19 =>
  bfW 2 v18 fun v9 =>
  ntW v19 fun v21 =>
  cnW v21 (bdW [.str ⟨#[]⟩, .nils, .int .i64 0, .str ⟨#[]⟩, .str ⟨#[]⟩, .nils] [] fun v22 =>
  stW S 6 v6 v22 fun S =>
  rtW [.cell v6 6 true, .tmp (.bool false)] QF S)
  (ldW S 2 true v9 fun v24 =>
  caW PG S (.func (.func 37) [] []) [v12, v24] (fun v25 S =>
  stW S 6 v6 v25 fun S =>
  rtW [.cell v6 6 true, .tmp (.bool true)] QF S) (pqW QF))) (pqW QF)) (pqW QF)
theorem w_rules_Find {QF : AEnd → Store → Prop} {v0 v1 v2 : AV} {S : Store} (h : B_rules_Find QF v0 v1 v2 S) : ACalls PG nr_rules_Find [v0, v1, v2] S QF :=
  acalls_tf (F := tf_rules_Find) (by kernel_rfl) rfl (by kernel_rfl) h
def tf_law11_weight : TFunc where
  n := 32
  args := 2
  res := [.tmp 4]
  code := .seq (.reg [i1 2 (.boxr 41 4 (.t 0)),
    i1 4 (.mov (.c (.int .i64 0)))] [1, 2] []) (.seq (.seq (.reg [i1 6 (.faddr 3 (.t 2)),
    i1 7 (.load 1 false (.t 6)),
    i1 8 (.len 1 (.t 7)),
    i1 9 (.mov (.t 1)),
    i1 10 (.bin .gtr (.t 8) (.t 9))] [1, 2, 10] []) (.cond (.t 10) (.seq (.reg [i1 4 (.mov (.c (.int .i64 0)))] [4] []) (.ret)) (.skip))) (.seq (.reg [i1 11 (.mov (.t 1)),
    i1 12 (.bin .sub (.t 11) (.c (.int .i64 1))),
    i1 1 (.mov (.t 12))] [1, 2] []) (.seq (.seq (.reg [i1 5 (.mov (.c (.int .i64 0)))] [1, 2, 5] []) (.block 0 (.loop [1, 2, 5] (.seq (.seq (.reg [i1 13 (.mov (.t 5)),
    i1 14 (.faddr 3 (.t 2)),
    i1 15 (.load 1 false (.t 14)),
    i1 16 (.len 1 (.t 15)),
    i1 17 (.bin .lss (.t 13) (.t 16)),
    i1 18 (.mov (.t 17)),
    .grp 18 true [s1 19 (.mov (.t 1)), s1 20 (.bin .gtr (.t 19) (.c (.int .i64 0)))],
    i1 21 (.pick (.t 18) (.t 20) (.c (.bool false)))] [1, 2, 5, 21] []) (.cond (.t 21) (.skip) (.exit 0))) (.seq (.block 1 (.reg [i1 24 (.faddr 3 (.t 2)),
    i1 25 (.load 1 false (.t 24)),
    i1 26 (.mov (.t 5)),
    i1 27 (.iaddr 4 (.t 25) (.t 26)),
    i1 28 (.load 4 true (.t 27)),
    i1 29 (.mov (.t 1)),
    i1 30 (.call (.f 25) [.t 28, .t 29]),
    i1 1 (.mov (.t 30))] [1, 2, 5] [])) (.reg [i1 22 (.mov (.t 5)),
    i1 23 (.bin .add (.t 22) (.c (.int .i64 1))),
    i1 5 (.mov (.t 23))] [1, 2, 5] [])))))) (.seq (.reg [i1 31 (.mov (.t 1)),
    i1 4 (.mov (.t 31))] [4] []) (.ret)))))
abbrev nr_law11_weight : Nat := 25
def C_law11_weight_2 (QF : AEnd → Store → Prop) (r0 : LE → Store → Prop) (v1 v2 v5 v21 : AV) (S : Store) : Prop :=
  cnW v21 (faW 3 v2 fun v24 =>
  ldW S 1 false v24 fun v25 =>
  iaW 4 v25 v5 fun v27 =>
  ldW S 4 true v27 fun v28 =>
  caW PG S (.func (.func 25) [] []) [v28, v1] (fun v30 S =>
  biW .add v5 (.int .i64 1) fun v23 =>
  rcW r0 [(1, v30), (2, v2), (5, v23)] S) (pqW QF))
  (rtW [.tmp v1] QF S)
def C_law11_weight_1 (QF : AEnd → Store → Prop) (r0 : LE → Store → Prop) (v1 v2 v5 : AV) (S : Store) : Prop :=
  faW 3 v2 fun v14 =>
  ldW S 1 false v14 fun v15 =>
  lnW S 1 v15 fun v16 =>
  biW .lss v5 v16 fun v17 =>
  grW v17 true (biW .gtr v1 (.int .i64 0) fun v20 =>
  pkW v17 v20 (.bool false) fun v21 =>
  C_law11_weight_2 QF r0 v1 v2 v5 v21 S)
  (pkW v17 undefA (.bool false) fun v21 =>
  C_law11_weight_2 QF r0 v1 v2 v5 v21 S)
def B_law11_weight (QF : AEnd → Store → Prop) (v0 v1 : AV) (S : Store) : Prop :=
  brW 4 v0 fun v2 =>
  faW 3 v2 fun v6 =>
  ldW S 1 false v6 fun v7 =>
  lnW S 1 v7 fun v8 =>
  biW .gtr v8 v1 fun v10 =>
  cnW v10 (rtW [.tmp (.int .i64 0)] QF S)
  (biW .sub v1 (.int .i64 1) fun v12 =>
  LoopP (fun r0 l S => C_law11_weight_1 QF r0 (lget l 1) (lget l 2) (lget l 5) S) [(1, v12), (2, v2), (5, (.int .i64 0))] S)
theorem w_law11_weight {QF : AEnd → Store → Prop} {v0 v1 : AV} {S : Store} (h : B_law11_weight QF v0 v1 S) : ACalls PG nr_law11_weight [v0, v1] S QF :=
  acalls_tf (F := tf_law11_weight) (by kernel_rfl) rfl (by kernel_rfl) h
end Go.HL
