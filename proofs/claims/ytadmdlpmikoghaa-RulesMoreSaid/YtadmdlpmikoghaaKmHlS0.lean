/- A part of a proof. -/
import Derived.Test.YtadmdlpmikoghaaKmHlP
set_option maxRecDepth 100000
set_option linter.unusedVariables false
namespace Go.HL
def tf_law12_RulesMore : TFunc where
  n := 96
  args := 1
  res := [.tmp 2]
  code := .seq (.reg [i1 1 (.boxr 24 1 (.t 0)),
    i1 2 (.mov (.c (.bool false)))] [1] []) (.seq (.reg [i1 12 (.call (.f 11) []),
    i1 3 (.mov (.t 12))] [1, 3] []) (.seq (.reg [i1 13 (.load 1 true (.t 1)),
    i1 14 (.call (.f 12) [.t 13, .c (.int .i64 80)]),
    i1 4 (.mov (.t 14))] [1, 3, 4] []) (.seq (.seq (.reg [i1 15 (.mov (.t 3)),
    i1 16 (.not (.t 15)),
    i1 17 (.mov (.t 16)),
    .grp 17 false [s1 18 (.mov (.t 4)), s1 19 (.not (.t 18))],
    i1 20 (.pick (.t 17) (.c (.bool true)) (.t 19)),
    i1 21 (.mov (.t 20)),
    .grp 21 false [s1 22 (.faddr 0 (.t 1)), s1 23 (.load 1 false (.t 22)), s1 24 (.len 1 (.t 23)), s1 25 (.bin .geq (.t 24) (.c (.int .i64 16)))],
    i1 26 (.pick (.t 21) (.c (.bool true)) (.t 25))] [1, 3, 26] []) (.cond (.t 26) (.seq (.reg [i1 27 (.mov (.t 3)),
    i1 2 (.mov (.t 27))] [2] []) (.ret)) (.skip))) (.seq (.seq (.reg [i1 5 (.mov (.c (.int .i64 0)))] [1, 5] []) (.block 0 (.loop [1, 5] (.seq (.seq (.reg [i1 28 (.mov (.t 5)),
    i1 29 (.faddr 0 (.t 1)),
    i1 30 (.load 1 false (.t 29)),
    i1 31 (.len 1 (.t 30)),
    i1 32 (.bin .lss (.t 28) (.t 31))] [1, 5, 32] []) (.cond (.t 32) (.skip) (.exit 0))) (.seq (.block 1 (.seq (.reg [i1 35 (.faddr 0 (.t 1)),
    i1 36 (.load 1 false (.t 35)),
    i1 37 (.mov (.t 5)),
    i1 38 (.iaddr 2 (.t 36) (.t 37)),
    i1 39 (.faddr 0 (.t 38)),
    i1 40 (.load 1 false (.t 39)),
    i1 41 (.bin .eql (.t 40) (.c (.str ⟨#[122, 122]⟩)))] [1, 5, 41] []) (.cond (.t 41) (.seq (.reg [i1 2 (.mov (.c (.bool true)))] [2] []) (.ret)) (.skip)))) (.reg [i1 33 (.mov (.t 5)),
    i1 34 (.bin .add (.t 33) (.c (.int .i64 1))),
    i1 5 (.mov (.t 34))] [1, 5] [])))))) (.seq (.reg [i1 43 (.load 1 true (.t 1)),
    i1 44 (.call (.f 13) [.t 43]),
    i1 42 (.mov (.t 44)),
    i1 45 (.extr (.t 42) 0),
    i1 46 (.extr (.t 42) 1),
    i1 6 (.mov (.t 45)),
    i1 7 (.mov (.t 46))] [1, 6, 7] []) (.seq (.reg [i1 47 (.faddr 0 (.t 1)),
    i1 48 (.load 1 false (.t 47)),
    i1 49 (.app 51 2 40 (.c (.nils)) (.t 48)),
    i1 50 (.build [.str ⟨#[]⟩, .str ⟨#[]⟩] [(0, 1, .c (.str ⟨#[122, 122]⟩))]),
    i1 51 (.bslicr 53 2 [.t 50]),
    i1 52 (.build [.str ⟨#[]⟩, .nils, .int .i64 0, .str ⟨#[]⟩, .str ⟨#[]⟩, .nils] [(0, 1, .c (.str ⟨#[114]⟩)), (1, 1, .t 51)]),
    i1 53 (.bslicr 43 6 [.t 52]),
    i1 54 (.build [.str ⟨#[]⟩, .nils] [(0, 1, .c (.str ⟨#[122, 122]⟩)), (1, 1, .t 53)]),
    i1 55 (.bslicr 51 2 [.t 54]),
    i1 56 (.app 51 2 40 (.t 49) (.t 55)),
    i1 57 (.build [.nils] [(0, 1, .t 56)]),
    .box2 8 24 [.nils] 1 (.t 57)] [1, 6, 7, 8] []) (.seq (.reg [i1 59 (.load 1 true (.t 8)),
    i1 60 (.call (.f 13) [.t 59]),
    i1 58 (.mov (.t 60)),
    i1 61 (.extr (.t 58) 0),
    i1 62 (.extr (.t 58) 1),
    i1 9 (.mov (.t 61)),
    i1 10 (.mov (.t 62))] [1, 6, 7, 9, 10] []) (.seq (.seq (.reg [i1 63 (.mov (.t 7)),
    i1 64 (.not (.t 63))] [1, 6, 9, 10, 64] []) (.cond (.t 64) (.seq (.reg [i1 65 (.load 1 true (.t 1)),
    i1 66 (.call (.f 17) [.t 65]),
    .box2 11 33 [.int .i64 0, .int .i64 0, .int .i64 0] 3 (.t 66)] [10, 11] []) (.seq (.reg [i1 67 (.mov (.t 10)),
    i1 68 (.not (.t 67)),
    i1 69 (.mov (.t 68)),
    .grp 69 false [s1 70 (.faddr 2 (.t 11)), s1 71 (.load 1 false (.t 70)), s1 72 (.bin .eql (.t 71) (.c (.int .i64 1)))],
    i1 73 (.pick (.t 69) (.c (.bool true)) (.t 72)),
    i1 74 (.mov (.t 73)),
    .grp 74 false [s1 75 (.faddr 2 (.t 11)), s1 76 (.load 1 false (.t 75)), s1 77 (.bin .eql (.t 76) (.c (.int .i64 6)))],
    i1 78 (.pick (.t 74) (.c (.bool true)) (.t 77)),
    i1 2 (.mov (.t 78))] [2] []) (.ret))) (.skip))) (.seq (.reg [i1 79 (.mov (.t 10)),
    i1 80 (.mov (.t 79)),
    .grp 80 true [s1 81 (.mov (.t 9)), s1 82 (.len 1 (.t 81)), s1 83 (.mov (.t 6)), s1 84 (.len 1 (.t 83)), s1 85 (.bin .add (.t 84) (.c (.int .i64 1))), s1 86 (.bin .eql (.t 82) (.t 85))],
    i1 87 (.pick (.t 80) (.t 86) (.c (.bool false))),
    i1 88 (.mov (.t 87)),
    .grp 88 true [s1 89 (.mov (.t 9)), s1 90 (.mov (.t 6)), s1 91 (.len 1 (.t 90)), s1 92 (.slicl 1 (.t 89) none (some (.t 91))), s1 93 (.mov (.t 6)), s1 94 (.call (.f 15) [.t 92, .t 93])],
    i1 95 (.pick (.t 88) (.t 94) (.c (.bool false))),
    i1 2 (.mov (.t 95))] [2] []) (.ret))))))))))
abbrev nr_law12_RulesMore : Nat := 8
def C_law12_RulesMore_5 (QF : AEnd → Store → Prop) (v11 v73 : AV) (S : Store) : Prop :=
  grW v73 false (faW 2 v11 fun v75 =>
  ldW S 1 false v75 fun v76 =>
  biW .eql v76 (.int .i64 6) fun v77 =>
  pkW v73 (.bool true) v77 fun v78 =>
  rtW [.tmp v78] QF S)
  (pkW v73 (.bool true) undefA fun v78 =>
  rtW [.tmp v78] QF S)
def C_law12_RulesMore_4 (QF : AEnd → Store → Prop) (v6 v9 v87 : AV) (S : Store) : Prop :=
  grW v87 true (lnW S 1 v6 fun v91 =>
  slW 1 v9 none (some v91) fun v92 =>
  caW PG S (.func (.func 15) [] []) [v92, v6] (fun v94 S =>
  pkW v87 v94 (.bool false) fun v95 =>
  rtW [.tmp v95] QF S) (pqW QF))
  (pkW v87 undefA (.bool false) fun v95 =>
  rtW [.tmp v95] QF S)
def C_law12_RulesMore_3 (QF : AEnd → Store → Prop) (r0 : LE → Store → Prop) (v1 v5 : AV) (S : Store) : Prop :=
  faW 0 v1 fun v29 =>
  ldW S 1 false v29 fun v30 =>
  lnW S 1 v30 fun v31 =>
  biW .lss v5 v31 fun v32 =>
  cnW v32 (faW 0 v1 fun v35 =>
  ldW S 1 false v35 fun v36 =>
  iaW 2 v36 v5 fun v38 =>
  faW 0 v38 fun v39 =>
  ldW S 1 false v39 fun v40 =>
  biW .eql v40 (.str ⟨#[122, 122]⟩) fun v41 =>
  cnW v41 (rtW [.tmp (.bool true)] QF S)
  (biW .add v5 (.int .i64 1) fun v34 =>
  rcW r0 [(1, v1), (5, v34)] S))
  (ldW S 1 true v1 fun v43 =>
  caW PG S (.func (.func 13) [] []) [v43] (fun v44 S =>
  exW 0 v44 fun v45 =>
  exW 1 v44 fun v46 =>
  faW 0 v1 fun v47 =>
  ldW S 1 false v47 fun v48 =>
  apW S 51 2 40 (.nils) v48 fun v49 S =>
  bdW [.str ⟨#[]⟩, .str ⟨#[]⟩] [(0, 1, (.str ⟨#[122, 122]⟩))] fun v50 =>
  srW 2 [v50] fun v51 =>
  bdW [.str ⟨#[]⟩, .nils, .int .i64 0, .str ⟨#[]⟩, .str ⟨#[]⟩, .nils] [(0, 1, (.str ⟨#[114]⟩)), (1, 1, v51)] fun v52 =>
  srW 6 [v52] fun v53 =>
  bdW [.str ⟨#[]⟩, .nils] [(0, 1, (.str ⟨#[122, 122]⟩)), (1, 1, v53)] fun v54 =>
  srW 2 [v54] fun v55 =>
  apW S 51 2 40 v49 v55 fun v56 S =>
  bdW [.nils] [(0, 1, v56)] fun v57 =>
  bfW 1 v57 fun v8 =>
  ldW S 1 true v8 fun v59 =>
  caW PG S (.func (.func 13) [] []) [v59] (fun v60 S =>
  exW 0 v60 fun v61 =>
  exW 1 v60 fun v62 =>
  ntW v46 fun v64 =>
  cnW v64 (ldW S 1 true v1 fun v65 =>
  caW PG S (.func (.func 17) [] []) [v65] (fun v66 S =>
  bfW 3 v66 fun v11 =>
  ntW v62 fun v68 =>
  grW v68 false (faW 2 v11 fun v70 =>
  ldW S 1 false v70 fun v71 =>
  biW .eql v71 (.int .i64 1) fun v72 =>
  pkW v68 (.bool true) v72 fun v73 =>
  C_law12_RulesMore_5 QF v11 v73 S)
  (pkW v68 (.bool true) undefA fun v73 =>
  C_law12_RulesMore_5 QF v11 v73 S)) (pqW QF))
  (grW v62 true (lnW S 1 v61 fun v82 =>
  lnW S 1 v45 fun v84 =>
  biW .add v84 (.int .i64 1) fun v85 =>
  biW .eql v82 v85 fun v86 =>
  pkW v62 v86 (.bool false) fun v87 =>
  C_law12_RulesMore_4 QF v45 v61 v87 S)
  (pkW v62 undefA (.bool false) fun v87 =>
  C_law12_RulesMore_4 QF v45 v61 v87 S))) (pqW QF)) (pqW QF))
def C_law12_RulesMore_2 (QF : AEnd → Store → Prop) (v1 v3 v26 : AV) (S : Store) : Prop :=
  cnW v26 (rtW [.tmp v3] QF S)
  (LoopP (fun r0 l S => C_law12_RulesMore_3 QF r0 (lget l 1) (lget l 5) S) [(1, v1), (5, (.int .i64 0))] S)
def C_law12_RulesMore_1 (QF : AEnd → Store → Prop) (v1 v3 v20 : AV) (S : Store) : Prop :=
  grW v20 false (faW 0 v1 fun v22 =>
  ldW S 1 false v22 fun v23 =>
  lnW S 1 v23 fun v24 =>
  biW .geq v24 (.int .i64 16) fun v25 =>
  pkW v20 (.bool true) v25 fun v26 =>
  C_law12_RulesMore_2 QF v1 v3 v26 S)
  (pkW v20 (.bool true) undefA fun v26 =>
  C_law12_RulesMore_2 QF v1 v3 v26 S)
def B_law12_RulesMore (QF : AEnd → Store → Prop) (v0 : AV) (S : Store) : Prop :=
  brW 1 v0 fun v1 =>
  caW PG S (.func (.func 11) [] []) [] (fun v12 S =>
  ldW S 1 true v1 fun v13 =>
  caW PG S (.func (.func 12) [] []) [v13, (.int .i64 80)] (fun v14 S =>
  ntW v12 fun v16 =>
  grW v16 false (ntW v14 fun v19 =>
  pkW v16 (.bool true) v19 fun v20 =>
  C_law12_RulesMore_1 QF v1 v12 v20 S)
  (pkW v16 (.bool true) undefA fun v20 =>
  C_law12_RulesMore_1 QF v1 v12 v20 S)) (pqW QF)) (pqW QF)
theorem w_law12_RulesMore {QF : AEnd → Store → Prop} {v0 : AV} {S : Store} (h : B_law12_RulesMore QF v0 S) : ACalls PG nr_law12_RulesMore [v0] S QF :=
  acalls_tf (F := tf_law12_RulesMore) (by kernel_rfl) rfl (by kernel_rfl) h
end Go.HL
