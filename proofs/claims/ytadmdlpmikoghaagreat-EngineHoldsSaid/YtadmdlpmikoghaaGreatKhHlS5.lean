/- A part of a proof. -/
import Derived.Test.YtadmdlpmikoghaaGreatKhHlP
set_option maxRecDepth 100000
set_option linter.unusedVariables false
namespace Go.HL
def tf_ref12_rel:TFunc where
  n:=34
  args:=3
  res:=[.tmp 6]
  code:=.seq (.reg [i1 3 (.boxr 24 1 (.t 0)),
    i1 6 (.mov (.c (.int .i64 0)))] [1,2,3] []) (.seq (.seq (.reg [i1 8 (.mov (.t 1)),
    i1 9 (.bin .lss (.t 8) (.c (.int .i64 0)))] [1,2,3,9] []) (.cond (.t 9) (.seq (.reg [i1 6 (.mov (.c (.int .i64 (-1))))] [6] []) (.ret)) (.skip))) (.seq (.seq (.reg [i1 7 (.mov (.c (.int .i64 0)))] [1,2,3,7] []) (.block 0 (.loop [1,2,3,7] (.seq (.seq (.reg [i1 10 (.mov (.t 7)),
    i1 11 (.faddr 0 (.t 3)),
    i1 12 (.load 1 false (.t 11)),
    i1 13 (.mov (.t 1)),
    i1 14 (.iaddr 2 (.t 12) (.t 13)),
    i1 15 (.faddr 1 (.t 14)),
    i1 16 (.load 1 false (.t 15)),
    i1 17 (.len 1 (.t 16)),
    i1 18 (.bin .lss (.t 10) (.t 17))] [1,2,3,7,18] []) (.cond (.t 18) (.skip) (.exit 0))) (.seq (.block 1 (.seq (.reg [i1 21 (.faddr 0 (.t 3)),
    i1 22 (.load 1 false (.t 21)),
    i1 23 (.mov (.t 1)),
    i1 24 (.iaddr 2 (.t 22) (.t 23)),
    i1 25 (.faddr 1 (.t 24)),
    i1 26 (.load 1 false (.t 25)),
    i1 27 (.mov (.t 7)),
    i1 28 (.iaddr 6 (.t 26) (.t 27)),
    i1 29 (.faddr 0 (.t 28)),
    i1 30 (.load 1 false (.t 29)),
    i1 31 (.mov (.t 2)),
    i1 32 (.bin .eql (.t 30) (.t 31))] [1,2,3,7,32] []) (.cond (.t 32) (.seq (.reg [i1 33 (.mov (.t 7)),
    i1 6 (.mov (.t 33))] [6] []) (.ret)) (.skip)))) (.reg [i1 19 (.mov (.t 7)),
    i1 20 (.bin .add (.t 19) (.c (.int .i64 1))),
    i1 7 (.mov (.t 20))] [1,2,3,7] [])))))) (.seq (.reg [i1 6 (.mov (.c (.int .i64 (-1))))] [6] []) (.ret))))
abbrev nr_ref12_rel:Nat:=67
def C_ref12_rel_1 (QF:AEnd→Store→Prop) (r0:LE→Store→Prop) (v1 v2 v3 v7:AV) (S:Store):Prop:=
  faW 0 v3 fun v11=>
  ldW S 1 false v11 fun v12=>
  iaW 2 v12 v1 fun v14=>
  faW 1 v14 fun v15=>
  ldW S 1 false v15 fun v16=>
  lnW S 1 v16 fun v17=>
  biW .lss v7 v17 fun v18=>
  cnW v18 (faW 0 v3 fun v21=>
  ldW S 1 false v21 fun v22=>
  iaW 2 v22 v1 fun v24=>
  faW 1 v24 fun v25=>
  ldW S 1 false v25 fun v26=>
  iaW 6 v26 v7 fun v28=>
  faW 0 v28 fun v29=>
  ldW S 1 false v29 fun v30=>
  biW .eql v30 v2 fun v32=>
  cnW v32 (rtW [.tmp v7] QF S)
  (biW .add v7 (.int .i64 1) fun v20=>
  rcW r0 [(1,v1),(2,v2),(3,v3),(7,v20)] S))
  (rtW [.tmp (.int .i64 (-1))] QF S)
def B_ref12_rel (QF:AEnd→Store→Prop) (v0 v1 v2:AV) (S:Store):Prop:=
  brW 1 v0 fun v3=>
  biW .lss v1 (.int .i64 0) fun v9=>
  cnW v9 (rtW [.tmp (.int .i64 (-1))] QF S)
  (LoopP (fun r0 l S=>C_ref12_rel_1 QF r0 (lget l 1) (lget l 2) (lget l 3) (lget l 7) S) [(1,v1),(2,v2),(3,v3),(7,(.int .i64 0))] S)
theorem w_ref12_rel {QF:AEnd→Store→Prop} {v0 v1 v2:AV} {S:Store} (h:B_ref12_rel QF v0 v1 v2 S):ACalls PG nr_ref12_rel [v0,v1,v2] S QF:=
  acalls_tf (F:=tf_ref12_rel) (by kernel_rfl) rfl (by kernel_rfl) h
def tf_ref13_Allowed:TFunc where
  n:=80
  args:=2
  res:=[.tmp 4]
  code:=.seq (.reg [i1 2 (.boxr 24 1 (.t 0)),
    i1 3 (.boxr 41 6 (.t 1)),
    i1 4 (.mov (.c (.int .i64 0)))] [2,3] []) (.seq (.seq (.reg [i1 10 (.load 6 true (.t 3)),
    i1 11 (.call (.f 120) [.t 10]),
    i1 12 (.bin .eql (.t 11) (.c (.str ⟨#[]⟩)))] [2,3,12] []) (.cond (.t 12) (.seq (.reg [i1 4 (.mov (.c (.int .i64 1)))] [4] []) (.ret)) (.skip))) (.seq (.reg [i1 14 (.load 1 true (.t 2)),
    i1 15 (.faddr 0 (.t 3)),
    i1 16 (.faddr 0 (.t 15)),
    i1 17 (.load 1 false (.t 16)),
    i1 18 (.faddr 2 (.t 3)),
    i1 19 (.load 1 false (.t 18)),
    i1 20 (.call (.f 28) [.t 14,.t 17,.t 19]),
    i1 13 (.mov (.t 20)),
    i1 21 (.extr (.t 13) 0),
    i1 22 (.extr (.t 13) 1),
    .box2 5 53 [.str ⟨#[]⟩,.nils,.int .i64 0,.str ⟨#[]⟩,.str ⟨#[]⟩,.nils] 6 (.t 21),
    i1 6 (.mov (.t 22))] [2,3,5,6] []) (.seq (.reg [i1 7 (.mov (.c (.bool false)))] [2,3,5,6,7] []) (.seq (.seq (.reg [i1 8 (.mov (.c (.int .i64 0)))] [2,3,5,6,7,8] []) (.block 0 (.loop [2,3,5,6,7,8] (.seq (.seq (.reg [i1 23 (.mov (.t 8)),
    i1 24 (.faddr 0 (.t 2)),
    i1 25 (.load 1 false (.t 24)),
    i1 26 (.len 1 (.t 25)),
    i1 27 (.bin .lss (.t 23) (.t 26))] [2,3,5,6,7,8,27] []) (.cond (.t 27) (.skip) (.exit 0))) (.seq (.block 1 (.regl [0,1,2,4,8,9,10,3,5,6,7,11,12,13,14] [i1 30 (.mov (.t 7)),
    i1 31 (.mov (.t 30)),
    .grp 31 false [s1 32 (.faddr 0 (.t 2)),s1 34 (.mov (.t 8)),s1 38 (.faddr 3 (.t 3)),s1 39 (.faddr 0 (.t 38)),s1 40 (.faddr 0 (.t 39)),s1 33 (.load 1 false (.t 32)),s1 35 (.iaddr 2 (.t 33) (.t 34)),s1 36 (.faddr 0 (.t 35)),s1 37 (.load 1 false (.t 36)),s1 41 (.load 1 false (.t 40)),s1 42 (.bin .eql (.t 37) (.t 41))],
    i1 43 (.pick (.t 31) (.c (.bool true)) (.t 42)),
    i1 7 (.mov (.t 43))] [2,3,5,6,7,8] [])) (.reg [i1 28 (.mov (.t 8)),
    i1 29 (.bin .add (.t 28) (.c (.int .i64 1))),
    i1 8 (.mov (.t 29))] [2,3,5,6,7,8] [])))))) (.seq (.seq (.reg [i1 44 (.mov (.t 6)),
    i1 45 (.not (.t 44)),
    i1 46 (.mov (.t 45)),
    .grp 46 false [s1 47 (.mov (.t 7)),s1 48 (.not (.t 47))],
    i1 49 (.pick (.t 46) (.c (.bool true)) (.t 48))] [3,5,49] []) (.cond (.t 49) (.seq (.reg [i1 4 (.mov (.c (.int .i64 6)))] [4] []) (.ret)) (.skip))) (.seq (.seq (.reg [i1 9 (.mov (.c (.int .i64 0)))] [3,5,9] []) (.block 2 (.loop [3,5,9] (.seq (.seq (.reg [i1 50 (.mov (.t 9)),
    i1 51 (.faddr 1 (.t 5)),
    i1 52 (.load 1 false (.t 51)),
    i1 53 (.len 1 (.t 52)),
    i1 54 (.bin .lss (.t 50) (.t 53))] [3,5,9,54] []) (.cond (.t 54) (.skip) (.exit 2))) (.seq (.block 3 (.seq (.regl [0,2,6,7,8,1,3,4,5,9,10,11,12,14,18,19,13,15,16,17,20,21,22] [i1 57 (.faddr 1 (.t 5)),
    i1 59 (.mov (.t 9)),
    i1 63 (.faddr 3 (.t 3)),
    i1 64 (.faddr 0 (.t 63)),
    i1 65 (.faddr 0 (.t 64)),
    i1 58 (.load 1 false (.t 57)),
    i1 60 (.iaddr 2 (.t 58) (.t 59)),
    i1 61 (.faddr 0 (.t 60)),
    i1 62 (.load 1 false (.t 61)),
    i1 66 (.load 1 false (.t 65)),
    i1 67 (.bin .eql (.t 62) (.t 66)),
    i1 68 (.mov (.t 67)),
    .grp 68 true [s1 69 (.faddr 1 (.t 5)),s1 71 (.mov (.t 9)),s1 75 (.faddr 3 (.t 3)),s1 76 (.faddr 2 (.t 75)),s1 70 (.load 1 false (.t 69)),s1 72 (.iaddr 2 (.t 70) (.t 71)),s1 73 (.faddr 1 (.t 72)),s1 74 (.load 1 false (.t 73)),s1 77 (.load 1 false (.t 76)),s1 78 (.bin .eql (.t 74) (.t 77))],
    i1 79 (.pick (.t 68) (.t 78) (.c (.bool false)))] [3,5,9,79] []) (.cond (.t 79) (.seq (.reg [i1 4 (.mov (.c (.int .i64 0)))] [4] []) (.ret)) (.skip)))) (.reg [i1 55 (.mov (.t 9)),
    i1 56 (.bin .add (.t 55) (.c (.int .i64 1))),
    i1 9 (.mov (.t 56))] [3,5,9] [])))))) (.seq (.reg [i1 4 (.mov (.c (.int .i64 10)))] [4] []) (.ret))))))))
abbrev nr_ref13_Allowed:Nat:=68
def C_ref13_Allowed_3 (QF:AEnd→Store→Prop) (r0:LE→Store→Prop) (v3 v5 v9:AV) (S:Store):Prop:=
  faW 1 v5 fun v51=>
  ldW S 1 false v51 fun v52=>
  lnW S 1 v52 fun v53=>
  biW .lss v9 v53 fun v54=>
  cnW v54 (faW 1 v5 fun v57=>
  faW 3 v3 fun v63=>
  faW 0 v63 fun v64=>
  faW 0 v64 fun v65=>
  ldW S 1 false v57 fun v58=>
  iaW 2 v58 v9 fun v60=>
  faW 0 v60 fun v61=>
  ldW S 1 false v61 fun v62=>
  ldW S 1 false v65 fun v66=>
  biW .eql v62 v66 fun v67=>
  grW v67 true (faW 1 v5 fun v69=>
  faW 3 v3 fun v75=>
  faW 2 v75 fun v76=>
  ldW S 1 false v69 fun v70=>
  iaW 2 v70 v9 fun v72=>
  faW 1 v72 fun v73=>
  ldW S 1 false v73 fun v74=>
  ldW S 1 false v76 fun v77=>
  biW .eql v74 v77 fun v78=>
  pkW v67 v78 (.bool false) fun v79=>
  cnW v79 (rtW [.tmp (.int .i64 0)] QF S)
  (biW .add v9 (.int .i64 1) fun v56=>
  rcW r0 [(3,v3),(5,v5),(9,v56)] S))
  (pkW v67 undefA (.bool false) fun v79=>
  cnW v79 (rtW [.tmp (.int .i64 0)] QF S)
  (biW .add v9 (.int .i64 1) fun v56=>
  rcW r0 [(3,v3),(5,v5),(9,v56)] S)))
  (rtW [.tmp (.int .i64 10)] QF S)
def C_ref13_Allowed_2 (QF:AEnd→Store→Prop) (v3 v5 v49:AV) (S:Store):Prop:=
  cnW v49 (rtW [.tmp (.int .i64 6)] QF S)
  (LoopP (fun r0 l S=>C_ref13_Allowed_3 QF r0 (lget l 3) (lget l 5) (lget l 9) S) [(3,v3),(5,v5),(9,(.int .i64 0))] S)
def C_ref13_Allowed_1 (QF:AEnd→Store→Prop) (r0:LE→Store→Prop) (v2 v3 v5 v6 v7 v8:AV) (S:Store):Prop:=
  faW 0 v2 fun v24=>
  ldW S 1 false v24 fun v25=>
  lnW S 1 v25 fun v26=>
  biW .lss v8 v26 fun v27=>
  cnW v27 (grW v7 false (faW 0 v2 fun v32=>
  faW 3 v3 fun v38=>
  faW 0 v38 fun v39=>
  faW 0 v39 fun v40=>
  ldW S 1 false v32 fun v33=>
  iaW 2 v33 v8 fun v35=>
  faW 0 v35 fun v36=>
  ldW S 1 false v36 fun v37=>
  ldW S 1 false v40 fun v41=>
  biW .eql v37 v41 fun v42=>
  pkW v7 (.bool true) v42 fun v43=>
  biW .add v8 (.int .i64 1) fun v29=>
  rcW r0 [(2,v2),(3,v3),(5,v5),(6,v6),(7,v43),(8,v29)] S)
  (pkW v7 (.bool true) undefA fun v43=>
  biW .add v8 (.int .i64 1) fun v29=>
  rcW r0 [(2,v2),(3,v3),(5,v5),(6,v6),(7,v43),(8,v29)] S))
  (ntW v6 fun v45=>
  grW v45 false (ntW v7 fun v48=>
  pkW v45 (.bool true) v48 fun v49=>
  C_ref13_Allowed_2 QF v3 v5 v49 S)
  (pkW v45 (.bool true) undefA fun v49=>
  C_ref13_Allowed_2 QF v3 v5 v49 S))
def B_ref13_Allowed (QF:AEnd→Store→Prop) (v0 v1:AV) (S:Store):Prop:=
  brW 1 v0 fun v2=>
  brW 6 v1 fun v3=>
  ldW S 6 true v3 fun v10=>
  caW PG S (.func (.func 120) [] []) [v10] (fun v11 S=>
  biW .eql v11 (.str ⟨#[]⟩) fun v12=>
  cnW v12 (rtW [.tmp (.int .i64 1)] QF S)
  (ldW S 1 true v2 fun v14=>
  faW 0 v3 fun v15=>
  faW 0 v15 fun v16=>
  ldW S 1 false v16 fun v17=>
  faW 2 v3 fun v18=>
  ldW S 1 false v18 fun v19=>
  caW PG S (.func (.func 28) [] []) [v14,v17,v19] (fun v20 S=>
  exW 0 v20 fun v21=>
  exW 1 v20 fun v22=>
  bfW 6 v21 fun v5=>
  LoopP (fun r0 l S=>C_ref13_Allowed_1 QF r0 (lget l 2) (lget l 3) (lget l 5) (lget l 6) (lget l 7) (lget l 8) S) [(2,v2),(3,v3),(5,v5),(6,v22),(7,(.bool false)),(8,(.int .i64 0))] S) (pqW QF))) (pqW QF)
theorem w_ref13_Allowed {QF:AEnd→Store→Prop} {v0 v1:AV} {S:Store} (h:B_ref13_Allowed QF v0 v1 S):ACalls PG nr_ref13_Allowed [v0,v1] S QF:=
  acalls_tf (F:=tf_ref13_Allowed) (by kernel_rfl) rfl (by kernel_rfl) h
def tf_ref10_Name:TFunc where
  n:=59
  args:=1
  res:=[.tmp 2]
  code:=.seq (.reg [i1 2 (.mov (.c (.bool false)))] [0] []) (.seq (.seq (.reg [i1 6 (.mov (.t 0)),
    i1 7 (.len 0 (.t 6)),
    i1 8 (.bin .eql (.t 7) (.c (.int .i64 0))),
    i1 9 (.mov (.t 8)),
    .grp 9 false [s1 10 (.mov (.t 0)),s1 11 (.len 0 (.t 10)),s1 12 (.bin .gtr (.t 11) (.c (.int .i64 16)))],
    i1 13 (.pick (.t 9) (.c (.bool true)) (.t 12)),
    i1 14 (.mov (.t 13)),
    .grp 14 false [s1 15 (.mov (.t 0)),s1 16 (.bin .eql (.t 15) (.c (.str ⟨#[116,121,112,101]⟩)))],
    i1 17 (.pick (.t 14) (.c (.bool true)) (.t 16)),
    i1 18 (.mov (.t 17)),
    .grp 18 false [s1 19 (.mov (.t 0)),s1 20 (.bin .eql (.t 19) (.c (.str ⟨#[114,101,108,97,116,105,111,110]⟩)))],
    i1 21 (.pick (.t 18) (.c (.bool true)) (.t 20)),
    i1 22 (.mov (.t 21)),
    .grp 22 false [s1 23 (.mov (.t 0)),s1 24 (.bin .eql (.t 23) (.c (.str ⟨#[100,101,102,105,110,101]⟩)))],
    i1 25 (.pick (.t 22) (.c (.bool true)) (.t 24))] [0,25] []) (.cond (.t 25) (.seq (.reg [i1 2 (.mov (.c (.bool false)))] [2] []) (.ret)) (.skip))) (.seq (.seq (.reg [i1 3 (.mov (.c (.int .i64 0)))] [0,3] []) (.block 0 (.loop [0,3] (.seq (.seq (.reg [i1 26 (.mov (.t 3)),
    i1 27 (.mov (.t 0)),
    i1 28 (.len 0 (.t 27)),
    i1 29 (.bin .lss (.t 26) (.t 28))] [0,3,29] []) (.cond (.t 29) (.skip) (.exit 0))) (.seq (.block 1 (.seq (.reg [i1 32 (.mov (.t 0)),
    i1 33 (.mov (.t 3)),
    i1 34 (.idxs (.t 32) (.t 33)),
    i1 4 (.mov (.t 34))] [0,3,4] []) (.seq (.reg [i1 35 (.mov (.t 4)),
    i1 36 (.bin .geq (.t 35) (.c (.int .u8 97))),
    i1 37 (.mov (.t 36)),
    .grp 37 true [s1 38 (.mov (.t 4)),s1 39 (.bin .leq (.t 38) (.c (.int .u8 122)))],
    i1 40 (.pick (.t 37) (.t 39) (.c (.bool false))),
    i1 5 (.mov (.t 40))] [0,3,4,5] []) (.seq (.reg [i1 41 (.mov (.t 5)),
    i1 42 (.not (.t 41)),
    i1 43 (.mov (.t 42)),
    .grp 43 true [s1 44 (.mov (.t 3)),s1 45 (.bin .eql (.t 44) (.c (.int .i64 0))),s1 46 (.mov (.t 45))],
    .grp 46 false [s1 47 (.mov (.t 4)),s1 48 (.bin .neq (.t 47) (.c (.int .u8 95))),s1 49 (.mov (.t 48))],
    .grp 49 true [s1 50 (.mov (.t 4)),s1 51 (.bin .lss (.t 50) (.c (.int .u8 48))),s1 52 (.mov (.t 51))],
    .grp 52 false [s1 53 (.mov (.t 4)),s1 54 (.bin .gtr (.t 53) (.c (.int .u8 57)))],
    .grp 49 true [s1 55 (.pick (.t 52) (.c (.bool true)) (.t 54))],
    .grp 46 false [s1 56 (.pick (.t 49) (.t 55) (.c (.bool false)))],
    .grp 43 true [s1 57 (.pick (.t 46) (.c (.bool true)) (.t 56))],
    i1 58 (.pick (.t 43) (.t 57) (.c (.bool false)))] [0,3,58] []) (.cond (.t 58) (.seq (.reg [i1 2 (.mov (.c (.bool false)))] [2] []) (.ret)) (.skip)))))) (.reg [i1 30 (.mov (.t 3)),
    i1 31 (.bin .add (.t 30) (.c (.int .i64 1))),
    i1 3 (.mov (.t 31))] [0,3] [])))))) (.seq (.reg [i1 2 (.mov (.c (.bool true)))] [2] []) (.ret))))
abbrev nr_ref10_Name:Nat:=78
def C_ref10_Name_12 (QF:AEnd→Store→Prop) (r0:LE→Store→Prop) (v0 v3 v43 v46 v56:AV) (S:Store):Prop:=
  grW v43 true (pkW v46 (.bool true) v56 fun v57=>
  pkW v43 v57 (.bool false) fun v58=>
  cnW v58 (rtW [.tmp (.bool false)] QF S)
  (biW .add v3 (.int .i64 1) fun v31=>
  rcW r0 [(0,v0),(3,v31)] S))
  (pkW v43 undefA (.bool false) fun v58=>
  cnW v58 (rtW [.tmp (.bool false)] QF S)
  (biW .add v3 (.int .i64 1) fun v31=>
  rcW r0 [(0,v0),(3,v31)] S))
def C_ref10_Name_11 (QF:AEnd→Store→Prop) (r0:LE→Store→Prop) (v0 v3 v43 v46 v49 v55:AV) (S:Store):Prop:=
  grW v46 false (pkW v49 v55 (.bool false) fun v56=>
  C_ref10_Name_12 QF r0 v0 v3 v43 v46 v56 S)
  (C_ref10_Name_12 QF r0 v0 v3 v43 v46 undefA S)
def C_ref10_Name_10 (QF:AEnd→Store→Prop) (r0:LE→Store→Prop) (v0 v3 v43 v46 v49 v52 v54:AV) (S:Store):Prop:=
  grW v49 true (pkW v52 (.bool true) v54 fun v55=>
  C_ref10_Name_11 QF r0 v0 v3 v43 v46 v49 v55 S)
  (C_ref10_Name_11 QF r0 v0 v3 v43 v46 v49 undefA S)
def C_ref10_Name_9 (QF:AEnd→Store→Prop) (r0:LE→Store→Prop) (v0 v3 v4 v43 v46 v49 v52:AV) (S:Store):Prop:=
  grW v52 false (biW .gtr v4 (.int .u8 57) fun v54=>
  C_ref10_Name_10 QF r0 v0 v3 v43 v46 v49 v52 v54 S)
  (C_ref10_Name_10 QF r0 v0 v3 v43 v46 v49 v52 undefA S)
def C_ref10_Name_8 (QF:AEnd→Store→Prop) (r0:LE→Store→Prop) (v0 v3 v4 v43 v46 v49:AV) (S:Store):Prop:=
  grW v49 true (biW .lss v4 (.int .u8 48) fun v51=>
  C_ref10_Name_9 QF r0 v0 v3 v4 v43 v46 v49 v51 S)
  (C_ref10_Name_9 QF r0 v0 v3 v4 v43 v46 v49 undefA S)
def C_ref10_Name_7 (QF:AEnd→Store→Prop) (r0:LE→Store→Prop) (v0 v3 v4 v43 v46:AV) (S:Store):Prop:=
  grW v46 false (biW .neq v4 (.int .u8 95) fun v48=>
  C_ref10_Name_8 QF r0 v0 v3 v4 v43 v46 v48 S)
  (C_ref10_Name_8 QF r0 v0 v3 v4 v43 v46 undefA S)
def C_ref10_Name_6 (QF:AEnd→Store→Prop) (r0:LE→Store→Prop) (v0 v3 v4 v40:AV) (S:Store):Prop:=
  ntW v40 fun v42=>
  grW v42 true (biW .eql v3 (.int .i64 0) fun v45=>
  C_ref10_Name_7 QF r0 v0 v3 v4 v42 v45 S)
  (C_ref10_Name_7 QF r0 v0 v3 v4 v42 undefA S)
def C_ref10_Name_5 (QF:AEnd→Store→Prop) (r0:LE→Store→Prop) (v0 v3:AV) (S:Store):Prop:=
  lnW S 0 v0 fun v28=>
  biW .lss v3 v28 fun v29=>
  cnW v29 (isW v0 v3 fun v34=>
  biW .geq v34 (.int .u8 97) fun v36=>
  grW v36 true (biW .leq v34 (.int .u8 122) fun v39=>
  pkW v36 v39 (.bool false) fun v40=>
  C_ref10_Name_6 QF r0 v0 v3 v34 v40 S)
  (pkW v36 undefA (.bool false) fun v40=>
  C_ref10_Name_6 QF r0 v0 v3 v34 v40 S))
  (rtW [.tmp (.bool true)] QF S)
def C_ref10_Name_4 (QF:AEnd→Store→Prop) (v0 v25:AV) (S:Store):Prop:=
  cnW v25 (rtW [.tmp (.bool false)] QF S)
  (LoopP (fun r0 l S=>C_ref10_Name_5 QF r0 (lget l 0) (lget l 3) S) [(0,v0),(3,(.int .i64 0))] S)
def C_ref10_Name_3 (QF:AEnd→Store→Prop) (v0 v21:AV) (S:Store):Prop:=
  grW v21 false (biW .eql v0 (.str ⟨#[100,101,102,105,110,101]⟩) fun v24=>
  pkW v21 (.bool true) v24 fun v25=>
  C_ref10_Name_4 QF v0 v25 S)
  (pkW v21 (.bool true) undefA fun v25=>
  C_ref10_Name_4 QF v0 v25 S)
def C_ref10_Name_2 (QF:AEnd→Store→Prop) (v0 v17:AV) (S:Store):Prop:=
  grW v17 false (biW .eql v0 (.str ⟨#[114,101,108,97,116,105,111,110]⟩) fun v20=>
  pkW v17 (.bool true) v20 fun v21=>
  C_ref10_Name_3 QF v0 v21 S)
  (pkW v17 (.bool true) undefA fun v21=>
  C_ref10_Name_3 QF v0 v21 S)
def C_ref10_Name_1 (QF:AEnd→Store→Prop) (v0 v13:AV) (S:Store):Prop:=
  grW v13 false (biW .eql v0 (.str ⟨#[116,121,112,101]⟩) fun v16=>
  pkW v13 (.bool true) v16 fun v17=>
  C_ref10_Name_2 QF v0 v17 S)
  (pkW v13 (.bool true) undefA fun v17=>
  C_ref10_Name_2 QF v0 v17 S)
def B_ref10_Name (QF:AEnd→Store→Prop) (v0:AV) (S:Store):Prop:=
  lnW S 0 v0 fun v7=>
  biW .eql v7 (.int .i64 0) fun v8=>
  grW v8 false (lnW S 0 v0 fun v11=>
  biW .gtr v11 (.int .i64 16) fun v12=>
  pkW v8 (.bool true) v12 fun v13=>
  C_ref10_Name_1 QF v0 v13 S)
  (pkW v8 (.bool true) undefA fun v13=>
  C_ref10_Name_1 QF v0 v13 S)
theorem w_ref10_Name {QF:AEnd→Store→Prop} {v0:AV} {S:Store} (h:B_ref10_Name QF v0 S):ACalls PG nr_ref10_Name [v0] S QF:=
  acalls_tf (F:=tf_ref10_Name) (by kernel_rfl) rfl (by kernel_rfl) h
def tf_ref10_ID:TFunc where
  n:=62
  args:=1
  res:=[.tmp 2]
  code:=.seq (.reg [i1 2 (.mov (.c (.bool false)))] [0] []) (.seq (.seq (.reg [i1 7 (.mov (.t 0)),
    i1 8 (.len 0 (.t 7)),
    i1 9 (.bin .eql (.t 8) (.c (.int .i64 0))),
    i1 10 (.mov (.t 9)),
    .grp 10 false [s1 11 (.mov (.t 0)),s1 12 (.len 0 (.t 11)),s1 13 (.bin .gtr (.t 12) (.c (.int .i64 24)))],
    i1 14 (.pick (.t 10) (.c (.bool true)) (.t 13))] [0,14] []) (.cond (.t 14) (.seq (.reg [i1 2 (.mov (.c (.bool false)))] [2] []) (.ret)) (.skip))) (.seq (.seq (.reg [i1 3 (.mov (.c (.int .i64 0)))] [0,3] []) (.block 0 (.loop [0,3] (.seq (.seq (.reg [i1 15 (.mov (.t 3)),
    i1 16 (.mov (.t 0)),
    i1 17 (.len 0 (.t 16)),
    i1 18 (.bin .lss (.t 15) (.t 17))] [0,3,18] []) (.cond (.t 18) (.skip) (.exit 0))) (.seq (.block 1 (.seq (.reg [i1 21 (.mov (.t 0)),
    i1 22 (.mov (.t 3)),
    i1 23 (.idxs (.t 21) (.t 22)),
    i1 4 (.mov (.t 23))] [0,3,4] []) (.seq (.reg [i1 24 (.mov (.t 4)),
    i1 25 (.bin .geq (.t 24) (.c (.int .u8 97))),
    i1 26 (.mov (.t 25)),
    .grp 26 true [s1 27 (.mov (.t 4)),s1 28 (.bin .leq (.t 27) (.c (.int .u8 122)))],
    i1 29 (.pick (.t 26) (.t 28) (.c (.bool false))),
    i1 30 (.mov (.t 29)),
    .grp 30 false [s1 31 (.mov (.t 4)),s1 32 (.bin .geq (.t 31) (.c (.int .u8 65))),s1 33 (.mov (.t 32))],
    .grp 33 true [s1 34 (.mov (.t 4)),s1 35 (.bin .leq (.t 34) (.c (.int .u8 90)))],
    .grp 30 false [s1 36 (.pick (.t 33) (.t 35) (.c (.bool false)))],
    i1 37 (.pick (.t 30) (.c (.bool true)) (.t 36)),
    i1 5 (.mov (.t 37))] [0,3,4,5] []) (.seq (.reg [i1 38 (.mov (.t 4)),
    i1 39 (.bin .geq (.t 38) (.c (.int .u8 48))),
    i1 40 (.mov (.t 39)),
    .grp 40 true [s1 41 (.mov (.t 4)),s1 42 (.bin .leq (.t 41) (.c (.int .u8 57)))],
    i1 43 (.pick (.t 40) (.t 42) (.c (.bool false))),
    i1 6 (.mov (.t 43))] [0,3,4,5,6] []) (.seq (.reg [i1 44 (.mov (.t 5)),
    i1 45 (.not (.t 44)),
    i1 46 (.mov (.t 45)),
    .grp 46 true [s1 47 (.mov (.t 6)),s1 48 (.not (.t 47))],
    i1 49 (.pick (.t 46) (.t 48) (.c (.bool false))),
    i1 50 (.mov (.t 49)),
    .grp 50 true [s1 51 (.mov (.t 4)),s1 52 (.bin .neq (.t 51) (.c (.int .u8 95)))],
    i1 53 (.pick (.t 50) (.t 52) (.c (.bool false))),
    i1 54 (.mov (.t 53)),
    .grp 54 true [s1 55 (.mov (.t 4)),s1 56 (.bin .neq (.t 55) (.c (.int .u8 46)))],
    i1 57 (.pick (.t 54) (.t 56) (.c (.bool false))),
    i1 58 (.mov (.t 57)),
    .grp 58 true [s1 59 (.mov (.t 4)),s1 60 (.bin .neq (.t 59) (.c (.int .u8 45)))],
    i1 61 (.pick (.t 58) (.t 60) (.c (.bool false)))] [0,3,61] []) (.cond (.t 61) (.seq (.reg [i1 2 (.mov (.c (.bool false)))] [2] []) (.ret)) (.skip))))))) (.reg [i1 19 (.mov (.t 3)),
    i1 20 (.bin .add (.t 19) (.c (.int .i64 1))),
    i1 3 (.mov (.t 20))] [0,3] [])))))) (.seq (.reg [i1 2 (.mov (.c (.bool true)))] [2] []) (.ret))))
abbrev nr_ref10_ID:Nat:=79
def C_ref10_ID_10 (QF:AEnd→Store→Prop) (r0:LE→Store→Prop) (v0 v3 v4 v57:AV) (S:Store):Prop:=
  grW v57 true (biW .neq v4 (.int .u8 45) fun v60=>
  pkW v57 v60 (.bool false) fun v61=>
  cnW v61 (rtW [.tmp (.bool false)] QF S)
  (biW .add v3 (.int .i64 1) fun v20=>
  rcW r0 [(0,v0),(3,v20)] S))
  (pkW v57 undefA (.bool false) fun v61=>
  cnW v61 (rtW [.tmp (.bool false)] QF S)
  (biW .add v3 (.int .i64 1) fun v20=>
  rcW r0 [(0,v0),(3,v20)] S))
def C_ref10_ID_9 (QF:AEnd→Store→Prop) (r0:LE→Store→Prop) (v0 v3 v4 v53:AV) (S:Store):Prop:=
  grW v53 true (biW .neq v4 (.int .u8 46) fun v56=>
  pkW v53 v56 (.bool false) fun v57=>
  C_ref10_ID_10 QF r0 v0 v3 v4 v57 S)
  (pkW v53 undefA (.bool false) fun v57=>
  C_ref10_ID_10 QF r0 v0 v3 v4 v57 S)
def C_ref10_ID_8 (QF:AEnd→Store→Prop) (r0:LE→Store→Prop) (v0 v3 v4 v49:AV) (S:Store):Prop:=
  grW v49 true (biW .neq v4 (.int .u8 95) fun v52=>
  pkW v49 v52 (.bool false) fun v53=>
  C_ref10_ID_9 QF r0 v0 v3 v4 v53 S)
  (pkW v49 undefA (.bool false) fun v53=>
  C_ref10_ID_9 QF r0 v0 v3 v4 v53 S)
def C_ref10_ID_7 (QF:AEnd→Store→Prop) (r0:LE→Store→Prop) (v0 v3 v4 v5 v43:AV) (S:Store):Prop:=
  ntW v5 fun v45=>
  grW v45 true (ntW v43 fun v48=>
  pkW v45 v48 (.bool false) fun v49=>
  C_ref10_ID_8 QF r0 v0 v3 v4 v49 S)
  (pkW v45 undefA (.bool false) fun v49=>
  C_ref10_ID_8 QF r0 v0 v3 v4 v49 S)
def C_ref10_ID_6 (QF:AEnd→Store→Prop) (r0:LE→Store→Prop) (v0 v3 v4 v37:AV) (S:Store):Prop:=
  biW .geq v4 (.int .u8 48) fun v39=>
  grW v39 true (biW .leq v4 (.int .u8 57) fun v42=>
  pkW v39 v42 (.bool false) fun v43=>
  C_ref10_ID_7 QF r0 v0 v3 v4 v37 v43 S)
  (pkW v39 undefA (.bool false) fun v43=>
  C_ref10_ID_7 QF r0 v0 v3 v4 v37 v43 S)
def C_ref10_ID_5 (QF:AEnd→Store→Prop) (r0:LE→Store→Prop) (v0 v3 v4 v30 v33 v35:AV) (S:Store):Prop:=
  grW v30 false (pkW v33 v35 (.bool false) fun v36=>
  pkW v30 (.bool true) v36 fun v37=>
  C_ref10_ID_6 QF r0 v0 v3 v4 v37 S)
  (pkW v30 (.bool true) undefA fun v37=>
  C_ref10_ID_6 QF r0 v0 v3 v4 v37 S)
def C_ref10_ID_4 (QF:AEnd→Store→Prop) (r0:LE→Store→Prop) (v0 v3 v4 v30 v33:AV) (S:Store):Prop:=
  grW v33 true (biW .leq v4 (.int .u8 90) fun v35=>
  C_ref10_ID_5 QF r0 v0 v3 v4 v30 v33 v35 S)
  (C_ref10_ID_5 QF r0 v0 v3 v4 v30 v33 undefA S)
def C_ref10_ID_3 (QF:AEnd→Store→Prop) (r0:LE→Store→Prop) (v0 v3 v4 v29:AV) (S:Store):Prop:=
  grW v29 false (biW .geq v4 (.int .u8 65) fun v32=>
  C_ref10_ID_4 QF r0 v0 v3 v4 v29 v32 S)
  (C_ref10_ID_4 QF r0 v0 v3 v4 v29 undefA S)
def C_ref10_ID_2 (QF:AEnd→Store→Prop) (r0:LE→Store→Prop) (v0 v3:AV) (S:Store):Prop:=
  lnW S 0 v0 fun v17=>
  biW .lss v3 v17 fun v18=>
  cnW v18 (isW v0 v3 fun v23=>
  biW .geq v23 (.int .u8 97) fun v25=>
  grW v25 true (biW .leq v23 (.int .u8 122) fun v28=>
  pkW v25 v28 (.bool false) fun v29=>
  C_ref10_ID_3 QF r0 v0 v3 v23 v29 S)
  (pkW v25 undefA (.bool false) fun v29=>
  C_ref10_ID_3 QF r0 v0 v3 v23 v29 S))
  (rtW [.tmp (.bool true)] QF S)
def C_ref10_ID_1 (QF:AEnd→Store→Prop) (v0 v14:AV) (S:Store):Prop:=
  cnW v14 (rtW [.tmp (.bool false)] QF S)
  (LoopP (fun r0 l S=>C_ref10_ID_2 QF r0 (lget l 0) (lget l 3) S) [(0,v0),(3,(.int .i64 0))] S)
def B_ref10_ID (QF:AEnd→Store→Prop) (v0:AV) (S:Store):Prop:=
  lnW S 0 v0 fun v8=>
  biW .eql v8 (.int .i64 0) fun v9=>
  grW v9 false (lnW S 0 v0 fun v12=>
  biW .gtr v12 (.int .i64 24) fun v13=>
  pkW v9 (.bool true) v13 fun v14=>
  C_ref10_ID_1 QF v0 v14 S)
  (pkW v9 (.bool true) undefA fun v14=>
  C_ref10_ID_1 QF v0 v14 S)
theorem w_ref10_ID {QF:AEnd→Store→Prop} {v0:AV} {S:Store} (h:B_ref10_ID QF v0 S):ACalls PG nr_ref10_ID [v0] S QF:=
  acalls_tf (F:=tf_ref10_ID) (by kernel_rfl) rfl (by kernel_rfl) h
def tf_slices_ContainsFunc_Type:TFunc where
  n:=9
  args:=2
  res:=[.tmp 4]
  code:=.seq (.reg [i1 4 (.mov (.c (.bool false)))] [0,1] []) (.seq (.reg [i1 5 (.mov (.t 0)),
    i1 6 (.mov (.t 1)),
    i1 7 (.call (.f 127) [.t 5,.t 6]),
    i1 8 (.bin .geq (.t 7) (.c (.int .i64 0))),
    i1 4 (.mov (.t 8))] [4] []) (.ret))
abbrev nr_slices_ContainsFunc_Type:Nat:=80
def B_slices_ContainsFunc_Type (QF:AEnd→Store→Prop) (v0 v1:AV) (S:Store):Prop:=
  caW PG S (.func (.func 127) [] []) [v0,v1] (fun v7 S=>
  biW .geq v7 (.int .i64 0) fun v8=>
  rtW [.tmp v8] QF S) (pqW QF)
theorem w_slices_ContainsFunc_Type {QF:AEnd→Store→Prop} {v0 v1:AV} {S:Store} (h:B_slices_ContainsFunc_Type QF v0 v1 S):ACalls PG nr_slices_ContainsFunc_Type [v0,v1] S QF:=
  acalls_tf (F:=tf_slices_ContainsFunc_Type) (by kernel_rfl) rfl (by kernel_rfl) h
def tf_ref11_Tokens:TFunc where
  n:=71
  args:=1
  res:=[.tmp 2]
  code:=.seq (.reg [i1 2 (.mov (.c (.nils)))] [0] []) (.seq (.reg [i1 3 (.mov (.c (.nils)))] [0,3] []) (.seq (.reg [i1 4 (.mov (.c (.int .i64 1)))] [0,3,4] []) (.seq (.reg [i1 5 (.mov (.c (.int .i64 1)))] [0,3,4,5] []) (.seq (.reg [i1 6 (.mov (.c (.int .i64 0)))] [0,3,4,5,6] []) (.seq (.block 0 (.loop [0,3,4,5,6] (.seq (.seq (.reg [i1 10 (.mov (.t 6)),
    i1 11 (.mov (.t 0)),
    i1 12 (.len 0 (.t 11)),
    i1 13 (.bin .lss (.t 10) (.t 12))] [0,3,4,5,6,13] []) (.cond (.t 13) (.skip) (.exit 0))) (.block 1 (.seq (.reg [i1 14 (.mov (.t 0)),
    i1 15 (.mov (.t 6)),
    i1 16 (.idxs (.t 14) (.t 15)),
    i1 7 (.mov (.t 16))] [0,3,4,5,6,7] []) (.seq (.seq (.reg [i1 17 (.mov (.t 7)),
    i1 18 (.bin .eql (.t 17) (.c (.int .u8 32))),
    i1 19 (.mov (.t 18)),
    .grp 19 false [s1 20 (.mov (.t 7)),s1 21 (.bin .eql (.t 20) (.c (.int .u8 9)))],
    i1 22 (.pick (.t 19) (.c (.bool true)) (.t 21)),
    i1 23 (.mov (.t 22)),
    .grp 23 false [s1 24 (.mov (.t 7)),s1 25 (.bin .eql (.t 24) (.c (.int .u8 10)))],
    i1 26 (.pick (.t 23) (.c (.bool true)) (.t 25))] [0,3,4,5,6,7,26] []) (.cond (.t 26) (.seq (.reg [i1 27 (.mov (.t 5)),
    i1 28 (.bin .add (.t 27) (.c (.int .i64 1))),
    i1 5 (.mov (.t 28))] [0,3,4,5,6,7] []) (.seq (.seq (.reg [i1 29 (.mov (.t 7)),
    i1 30 (.bin .eql (.t 29) (.c (.int .u8 10)))] [0,3,4,5,6,30] []) (.cond (.t 30) (.seq (.reg [i1 31 (.mov (.t 4)),
    i1 32 (.bin .add (.t 31) (.c (.int .i64 1))),
    i1 4 (.mov (.t 32))] [0,3,4,6] []) (.reg [i1 5 (.mov (.c (.int .i64 1)))] [0,3,4,5,6] [])) (.skip))) (.seq (.reg [i1 33 (.mov (.t 6)),
    i1 34 (.bin .add (.t 33) (.c (.int .i64 1))),
    i1 6 (.mov (.t 34))] [0,3,4,5,6] []) (.exit 1)))) (.skip))) (.seq (.reg [i1 35 (.mov (.t 0)),
    i1 36 (.mov (.t 6)),
    i1 37 (.slics (.t 35) (some (.t 36)) none),
    i1 38 (.call (.f 128) [.t 37]),
    i1 8 (.mov (.t 38))] [0,3,4,5,6,7,8] []) (.seq (.reg [i1 39 (.mov (.t 0)),
    i1 40 (.mov (.t 6)),
    i1 41 (.mov (.t 6)),
    i1 42 (.mov (.t 8)),
    i1 43 (.bin .add (.t 41) (.t 42)),
    i1 44 (.slics (.t 39) (some (.t 40)) (some (.t 43))),
    i1 9 (.mov (.t 44))] [0,3,4,5,6,7,8,9] []) (.seq (.seq (.reg [i1 45 (.mov (.t 8)),
    i1 46 (.bin .eql (.t 45) (.c (.int .i64 0)))] [0,3,4,5,6,7,8,9,46] []) (.cond (.t 46) (.seq (.reg [i1 47 (.mov (.t 7)),
    i1 48 (.call (.f 129) [.t 47]),
    i1 9 (.mov (.t 48))] [0,3,4,5,6,9] []) (.reg [i1 8 (.mov (.c (.int .i64 1)))] [0,3,4,5,6,8,9] [])) (.skip))) (.seq (.reg [i1 49 (.mov (.t 3)),
    i1 50 (.mov (.t 9)),
    i1 51 (.mov (.t 4)),
    i1 52 (.mov (.t 5)),
    i1 53 (.build [.str ⟨#[]⟩,.int .i64 0,.int .i64 0] [(0,1,.t 50),(1,1,.t 51),(2,1,.t 52)]),
    i1 54 (.bslicr 149 3 [.t 53]),
    i1 55 (.app 149 3 32 (.t 49) (.t 54)),
    i1 3 (.mov (.t 55))] [0,3,4,5,6,8,9] []) (.seq (.seq (.reg [i1 56 (.mov (.t 9)),
    i1 57 (.bin .eql (.t 56) (.c (.str ⟨#[63]⟩)))] [0,3,4,5,6,8,57] []) (.cond (.t 57) (.seq (.reg [i1 58 (.mov (.t 3)),
    i1 2 (.mov (.t 58))] [2] []) (.ret)) (.skip))) (.seq (.reg [i1 59 (.mov (.t 6)),
    i1 60 (.mov (.t 8)),
    i1 61 (.bin .add (.t 59) (.t 60)),
    i1 6 (.mov (.t 61))] [0,3,4,5,6,8] []) (.reg [i1 62 (.mov (.t 5)),
    i1 63 (.mov (.t 8)),
    i1 64 (.bin .add (.t 62) (.t 63)),
    i1 5 (.mov (.t 64))] [0,3,4,5,6] []))))))))))))) (.seq (.reg [i1 65 (.mov (.t 3)),
    i1 66 (.mov (.t 4)),
    i1 67 (.mov (.t 5)),
    i1 68 (.build [.str ⟨#[]⟩,.int .i64 0,.int .i64 0] [(1,1,.t 66),(2,1,.t 67)]),
    i1 69 (.bslicr 149 3 [.t 68]),
    i1 70 (.app 149 3 32 (.t 65) (.t 69)),
    i1 2 (.mov (.t 70))] [2] []) (.ret)))))))
abbrev nr_ref11_Tokens:Nat:=83
def C_ref11_Tokens_4 (QF:AEnd→Store→Prop) (r0:LE→Store→Prop) (v0 v3 v4 v5 v6 v8 v9:AV) (S:Store):Prop:=
  bdW [.str ⟨#[]⟩,.int .i64 0,.int .i64 0] [(0,1,v9),(1,1,v4),(2,1,v5)] fun v53=>
  srW 3 [v53] fun v54=>
  apW S 149 3 32 v3 v54 fun v55 S=>
  biW .eql v9 (.str ⟨#[63]⟩) fun v57=>
  cnW v57 (rtW [.tmp v55] QF S)
  (biW .add v6 v8 fun v61=>
  biW .add v5 v8 fun v64=>
  rcW r0 [(0,v0),(3,v55),(4,v4),(5,v64),(6,v61)] S)
def C_ref11_Tokens_3 (QF:AEnd→Store→Prop) (r0:LE→Store→Prop) (v0 v3 v4 v5 v6 v7 v26:AV) (S:Store):Prop:=
  cnW v26 (biW .add v5 (.int .i64 1) fun v28=>
  biW .eql v7 (.int .u8 10) fun v30=>
  cnW v30 (biW .add v4 (.int .i64 1) fun v32=>
  biW .add v6 (.int .i64 1) fun v34=>
  rcW r0 [(0,v0),(3,v3),(4,v32),(5,(.int .i64 1)),(6,v34)] S)
  (biW .add v6 (.int .i64 1) fun v34=>
  rcW r0 [(0,v0),(3,v3),(4,v4),(5,v28),(6,v34)] S))
  (ssW v0 (some v6) none fun v37=>
  caW PG S (.func (.func 128) [] []) [v37] (fun v38 S=>
  biW .add v6 v38 fun v43=>
  ssW v0 (some v6) (some v43) fun v44=>
  biW .eql v38 (.int .i64 0) fun v46=>
  cnW v46 (caW PG S (.func (.func 129) [] []) [v7] (fun v48 S=>
  C_ref11_Tokens_4 QF r0 v0 v3 v4 v5 v6 (.int .i64 1) v48 S) (pqW QF))
  (C_ref11_Tokens_4 QF r0 v0 v3 v4 v5 v6 v38 v44 S)) (pqW QF))
def C_ref11_Tokens_2 (QF:AEnd→Store→Prop) (r0:LE→Store→Prop) (v0 v3 v4 v5 v6 v7 v22:AV) (S:Store):Prop:=
  grW v22 false (biW .eql v7 (.int .u8 10) fun v25=>
  pkW v22 (.bool true) v25 fun v26=>
  C_ref11_Tokens_3 QF r0 v0 v3 v4 v5 v6 v7 v26 S)
  (pkW v22 (.bool true) undefA fun v26=>
  C_ref11_Tokens_3 QF r0 v0 v3 v4 v5 v6 v7 v26 S)
def C_ref11_Tokens_1 (QF:AEnd→Store→Prop) (r0:LE→Store→Prop) (v0 v3 v4 v5 v6:AV) (S:Store):Prop:=
  lnW S 0 v0 fun v12=>
  biW .lss v6 v12 fun v13=>
  cnW v13 (isW v0 v6 fun v16=>
  biW .eql v16 (.int .u8 32) fun v18=>
  grW v18 false (biW .eql v16 (.int .u8 9) fun v21=>
  pkW v18 (.bool true) v21 fun v22=>
  C_ref11_Tokens_2 QF r0 v0 v3 v4 v5 v6 v16 v22 S)
  (pkW v18 (.bool true) undefA fun v22=>
  C_ref11_Tokens_2 QF r0 v0 v3 v4 v5 v6 v16 v22 S))
  (bdW [.str ⟨#[]⟩,.int .i64 0,.int .i64 0] [(1,1,v4),(2,1,v5)] fun v68=>
  srW 3 [v68] fun v69=>
  apW S 149 3 32 v3 v69 fun v70 S=>
  rtW [.tmp v70] QF S)
def B_ref11_Tokens (QF:AEnd→Store→Prop) (v0:AV) (S:Store):Prop:=
  LoopP (fun r0 l S=>C_ref11_Tokens_1 QF r0 (lget l 0) (lget l 3) (lget l 4) (lget l 5) (lget l 6) S) [(0,v0),(3,(.nils)),(4,(.int .i64 1)),(5,(.int .i64 1)),(6,(.int .i64 0))] S
theorem w_ref11_Tokens {QF:AEnd→Store→Prop} {v0:AV} {S:Store} (h:B_ref11_Tokens QF v0 S):ACalls PG nr_ref11_Tokens [v0] S QF:=
  acalls_tf (F:=tf_ref11_Tokens) (by kernel_rfl) rfl (by kernel_rfl) h
end Go.HL
