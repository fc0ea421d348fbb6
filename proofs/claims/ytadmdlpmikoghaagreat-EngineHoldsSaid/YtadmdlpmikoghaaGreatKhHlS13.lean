/- A part of a proof. -/
import Derived.Test.YtadmdlpmikoghaaGreatKhHlP
set_option maxRecDepth 100000
set_option linter.unusedVariables false
namespace Go.HL
def tf_ref14_World_expr:TFunc where
  n:=99
  args:=3
  res:=[.tmp 6]
  code:=.seq (.reg [i1 4 (.boxr 27 2 (.t 1)),
    i1 5 (.boxr 51 4 (.t 2)),
    i1 6 (.mov (.c (.bool false)))] [0,4,5] []) (.seq (.seq (.reg [i1 12 (.faddr 0 (.t 5)),
    i1 13 (.load 1 false (.t 12))] [0,4,5,13] []) (.block 0 (.seq (.reg [i1 15 (.bin .eql (.t 13) (.c (.int .i64 0))),
    i1 14 (.mov (.t 15))] [0,4,5,13,14] []) (.cond (.t 14) (.seq (.reg [i1 16 (.mov (.t 0)),
    i1 17 (.load 2 true (.t 4)),
    i1 18 (.faddr 1 (.t 5)),
    i1 19 (.load 1 false (.t 18)),
    i1 20 (.call (.f 55) [.t 16,.t 17,.t 19]),
    i1 6 (.mov (.t 20))] [6] []) (.ret)) (.seq (.reg [i1 22 (.bin .eql (.t 13) (.c (.int .i64 1))),
    i1 21 (.mov (.t 22))] [0,4,5,21] []) (.cond (.t 21) (.seq (.seq (.reg [i1 7 (.mov (.c (.int .i64 0)))] [0,4,5,7] []) (.block 1 (.loop [0,4,5,7] (.seq (.seq (.reg [i1 23 (.mov (.t 7)),
    i1 24 (.mov (.t 0)),
    i1 25 (.nilck (.t 24)),
    i1 26 (.faddr 1 (.t 25)),
    i1 27 (.load 1 false (.t 26)),
    i1 28 (.len 1 (.t 27)),
    i1 29 (.bin .lss (.t 23) (.t 28))] [0,4,5,7,29] []) (.cond (.t 29) (.skip) (.exit 1))) (.seq (.block 2 (.seq (.reg [i1 32 (.mov (.t 0)),
    i1 33 (.nilck (.t 32)),
    i1 34 (.faddr 1 (.t 33)),
    i1 35 (.load 1 false (.t 34)),
    i1 36 (.mov (.t 7)),
    i1 37 (.iaddr 6 (.t 35) (.t 36)),
    i1 38 (.load 6 true (.t 37)),
    .box2 8 41 [.str ⟨#[]⟩,.str ⟨#[]⟩,.str ⟨#[]⟩,.str ⟨#[]⟩,.str ⟨#[]⟩,.str ⟨#[]⟩] 6 (.t 38)] [0,4,5,7,8] []) (.seq (.reg [i1 39 (.mov (.t 0)),
    i1 40 (.faddr 3 (.t 8)),
    i1 41 (.faddr 0 (.t 40)),
    i1 42 (.load 2 true (.t 41)),
    i1 43 (.faddr 2 (.t 5)),
    i1 44 (.load 1 false (.t 43)),
    i1 45 (.call (.f 55) [.t 39,.t 42,.t 44]),
    i1 9 (.mov (.t 45))] [0,4,5,7,8,9] []) (.seq (.reg [i1 46 (.faddr 0 (.t 8)),
    i1 47 (.load 2 true (.t 46)),
    i1 48 (.load 2 true (.t 4)),
    i1 49 (.eqp false (true,[.str,.str]) (.t 47) (.t 48)),
    i1 50 (.mov (.t 49)),
    .grp 50 true [s1 51 (.faddr 2 (.t 8)),s1 52 (.load 1 false (.t 51)),s1 53 (.faddr 1 (.t 5)),s1 54 (.load 1 false (.t 53)),s1 55 (.bin .eql (.t 52) (.t 54))],
    i1 56 (.pick (.t 50) (.t 55) (.c (.bool false))),
    i1 57 (.mov (.t 56)),
    .grp 57 true [s1 58 (.faddr 3 (.t 8)),s1 59 (.faddr 2 (.t 58)),s1 60 (.load 1 false (.t 59)),s1 61 (.bin .eql (.t 60) (.c (.str ⟨#[]⟩)))],
    i1 62 (.pick (.t 57) (.t 61) (.c (.bool false))),
    i1 63 (.mov (.t 62)),
    .grp 63 true [s1 64 (.mov (.t 9))],
    i1 65 (.pick (.t 63) (.t 64) (.c (.bool false)))] [0,4,5,7,65] []) (.cond (.t 65) (.seq (.reg [i1 6 (.mov (.c (.bool true)))] [6] []) (.ret)) (.skip)))))) (.reg [i1 30 (.mov (.t 7)),
    i1 31 (.bin .add (.t 30) (.c (.int .i64 1))),
    i1 7 (.mov (.t 31))] [0,4,5,7] [])))))) (.seq (.reg [i1 6 (.mov (.c (.bool false)))] [6] []) (.ret))) (.skip))))))) (.seq (.regl [0,2,1,3,4,5,6,7] [i1 66 (.mov (.t 0)),
    i1 68 (.faddr 3 (.t 5)),
    i1 67 (.load 2 true (.t 4)),
    i1 69 (.load 1 false (.t 68)),
    i1 70 (.iaddr 4 (.t 69) (.c (.int .i64 0))),
    i1 71 (.load 4 true (.t 70)),
    i1 72 (.call (.f 189) [.t 66,.t 67,.t 71]),
    i1 10 (.mov (.t 72))] [0,4,5,10] []) (.seq (.regl [0,2,1,3,4,5,6,7] [i1 73 (.mov (.t 0)),
    i1 75 (.faddr 3 (.t 5)),
    i1 74 (.load 2 true (.t 4)),
    i1 76 (.load 1 false (.t 75)),
    i1 77 (.iaddr 4 (.t 76) (.c (.int .i64 1))),
    i1 78 (.load 4 true (.t 77)),
    i1 79 (.call (.f 189) [.t 73,.t 74,.t 78]),
    i1 11 (.mov (.t 79))] [5,10,11] []) (.seq (.seq (.reg [i1 80 (.faddr 0 (.t 5)),
    i1 81 (.load 1 false (.t 80)),
    i1 82 (.bin .eql (.t 81) (.c (.int .i64 2)))] [5,10,11,82] []) (.cond (.t 82) (.seq (.reg [i1 83 (.mov (.t 10)),
    i1 84 (.mov (.t 83)),
    .grp 84 false [s1 85 (.mov (.t 11))],
    i1 86 (.pick (.t 84) (.c (.bool true)) (.t 85)),
    i1 6 (.mov (.t 86))] [6] []) (.ret)) (.skip))) (.seq (.seq (.reg [i1 87 (.faddr 0 (.t 5)),
    i1 88 (.load 1 false (.t 87)),
    i1 89 (.bin .eql (.t 88) (.c (.int .i64 3)))] [10,11,89] []) (.cond (.t 89) (.seq (.reg [i1 90 (.mov (.t 10)),
    i1 91 (.mov (.t 90)),
    .grp 91 true [s1 92 (.mov (.t 11))],
    i1 93 (.pick (.t 91) (.t 92) (.c (.bool false))),
    i1 6 (.mov (.t 93))] [6] []) (.ret)) (.skip))) (.seq (.reg [i1 94 (.mov (.t 10)),
    i1 95 (.mov (.t 94)),
    .grp 95 true [s1 96 (.mov (.t 11)),s1 97 (.not (.t 96))],
    i1 98 (.pick (.t 95) (.t 97) (.c (.bool false))),
    i1 6 (.mov (.t 98))] [6] []) (.ret)))))))
abbrev nr_ref14_World_expr:Nat:=189
def C_ref14_World_expr_3 (QF:AEnd→Store→Prop) (r0:LE→Store→Prop) (v0 v4 v5 v7 v9 v62:AV) (S:Store):Prop:=
  grW v62 true (pkW v62 v9 (.bool false) fun v65=>
  cnW v65 (rtW [.tmp (.bool true)] QF S)
  (biW .add v7 (.int .i64 1) fun v31=>
  rcW r0 [(0,v0),(4,v4),(5,v5),(7,v31)] S))
  (pkW v62 undefA (.bool false) fun v65=>
  cnW v65 (rtW [.tmp (.bool true)] QF S)
  (biW .add v7 (.int .i64 1) fun v31=>
  rcW r0 [(0,v0),(4,v4),(5,v5),(7,v31)] S))
def C_ref14_World_expr_2 (QF:AEnd→Store→Prop) (r0:LE→Store→Prop) (v0 v4 v5 v7 v8 v9 v56:AV) (S:Store):Prop:=
  grW v56 true (faW 3 v8 fun v58=>
  faW 2 v58 fun v59=>
  ldW S 1 false v59 fun v60=>
  biW .eql v60 (.str ⟨#[]⟩) fun v61=>
  pkW v56 v61 (.bool false) fun v62=>
  C_ref14_World_expr_3 QF r0 v0 v4 v5 v7 v9 v62 S)
  (pkW v56 undefA (.bool false) fun v62=>
  C_ref14_World_expr_3 QF r0 v0 v4 v5 v7 v9 v62 S)
def C_ref14_World_expr_1 (QF:AEnd→Store→Prop) (r0:LE→Store→Prop) (v0 v4 v5 v7:AV) (S:Store):Prop:=
  nkW v0 fun v25=>
  faW 1 v25 fun v26=>
  ldW S 1 false v26 fun v27=>
  lnW S 1 v27 fun v28=>
  biW .lss v7 v28 fun v29=>
  cnW v29 (nkW v0 fun v33=>
  faW 1 v33 fun v34=>
  ldW S 1 false v34 fun v35=>
  iaW 6 v35 v7 fun v37=>
  ldW S 6 true v37 fun v38=>
  bfW 6 v38 fun v8=>
  faW 3 v8 fun v40=>
  faW 0 v40 fun v41=>
  ldW S 2 true v41 fun v42=>
  faW 2 v5 fun v43=>
  ldW S 1 false v43 fun v44=>
  caW PG S (.func (.func 55) [] []) [v0,v42,v44] (fun v45 S=>
  faW 0 v8 fun v46=>
  ldW S 2 true v46 fun v47=>
  ldW S 2 true v4 fun v48=>
  eqW false (true,[.str,.str]) v47 v48 fun v49=>
  grW v49 true (faW 2 v8 fun v51=>
  ldW S 1 false v51 fun v52=>
  faW 1 v5 fun v53=>
  ldW S 1 false v53 fun v54=>
  biW .eql v52 v54 fun v55=>
  pkW v49 v55 (.bool false) fun v56=>
  C_ref14_World_expr_2 QF r0 v0 v4 v5 v7 v8 v45 v56 S)
  (pkW v49 undefA (.bool false) fun v56=>
  C_ref14_World_expr_2 QF r0 v0 v4 v5 v7 v8 v45 v56 S)) (pqW QF))
  (rtW [.tmp (.bool false)] QF S)
def B_ref14_World_expr (QF:AEnd→Store→Prop) (v0 v1 v2:AV) (S:Store):Prop:=
  brW 2 v1 fun v4=>
  brW 4 v2 fun v5=>
  faW 0 v5 fun v12=>
  ldW S 1 false v12 fun v13=>
  biW .eql v13 (.int .i64 0) fun v15=>
  cnW v15 (ldW S 2 true v4 fun v17=>
  faW 1 v5 fun v18=>
  ldW S 1 false v18 fun v19=>
  caW PG S (.func (.func 55) [] []) [v0,v17,v19] (fun v20 S=>
  rtW [.tmp v20] QF S) (pqW QF))
  (biW .eql v13 (.int .i64 1) fun v22=>
  cnW v22 (LoopP (fun r0 l S=>C_ref14_World_expr_1 QF r0 (lget l 0) (lget l 4) (lget l 5) (lget l 7) S) [(0,v0),(4,v4),(5,v5),(7,(.int .i64 0))] S)
  (faW 3 v5 fun v68=>
  ldW S 2 true v4 fun v67=>
  ldW S 1 false v68 fun v69=>
  iaW 4 v69 (.int .i64 0) fun v70=>
  ldW S 4 true v70 fun v71=>
  caW PG S (.func (.func 189) [] []) [v0,v67,v71] (fun v72 S=>
  faW 3 v5 fun v75=>
  ldW S 2 true v4 fun v74=>
  ldW S 1 false v75 fun v76=>
  iaW 4 v76 (.int .i64 1) fun v77=>
  ldW S 4 true v77 fun v78=>
  caW PG S (.func (.func 189) [] []) [v0,v74,v78] (fun v79 S=>
  faW 0 v5 fun v80=>
  ldW S 1 false v80 fun v81=>
  biW .eql v81 (.int .i64 2) fun v82=>
  cnW v82 (grW v72 false (pkW v72 (.bool true) v79 fun v86=>
  rtW [.tmp v86] QF S)
  (pkW v72 (.bool true) undefA fun v86=>
  rtW [.tmp v86] QF S))
  (faW 0 v5 fun v87=>
  ldW S 1 false v87 fun v88=>
  biW .eql v88 (.int .i64 3) fun v89=>
  cnW v89 (grW v72 true (pkW v72 v79 (.bool false) fun v93=>
  rtW [.tmp v93] QF S)
  (pkW v72 undefA (.bool false) fun v93=>
  rtW [.tmp v93] QF S))
  (grW v72 true (ntW v79 fun v97=>
  pkW v72 v97 (.bool false) fun v98=>
  rtW [.tmp v98] QF S)
  (pkW v72 undefA (.bool false) fun v98=>
  rtW [.tmp v98] QF S)))) (pqW QF)) (pqW QF)))
theorem w_ref14_World_expr {QF:AEnd→Store→Prop} {v0 v1 v2:AV} {S:Store} (h:B_ref14_World_expr QF v0 v1 v2 S):ACalls PG nr_ref14_World_expr [v0,v1,v2] S QF:=
  acalls_tf (F:=tf_ref14_World_expr) (by kernel_rfl) rfl (by kernel_rfl) h
def tf_ref12_leans:TFunc where
  n:=111
  args:=4
  res:=[.tmp 8]
  code:=.seq (.reg [i1 4 (.boxr 24 1 (.t 0)),
    i1 6 (.boxr 51 4 (.t 2)),
    i1 8 (.mov (.c (.nils)))] [1,3,4,6] []) (.seq (.reg [i1 9 (.mov (.c (.nils)))] [1,3,4,6,9] []) (.seq (.seq (.reg [i1 10 (.mov (.c (.int .i64 0)))] [1,3,4,6,9,10] []) (.block 0 (.loop [1,3,4,6,9,10] (.seq (.seq (.reg [i1 16 (.mov (.t 10)),
    i1 17 (.faddr 3 (.t 6)),
    i1 18 (.load 1 false (.t 17)),
    i1 19 (.len 1 (.t 18)),
    i1 20 (.bin .lss (.t 16) (.t 19))] [1,3,4,6,9,10,20] []) (.cond (.t 20) (.skip) (.exit 0))) (.seq (.block 1 (.regl [0,2,3,5,8,9,10,1,4,6,7,11,12,13,14,15,16,17,18,19,20] [i1 23 (.mov (.t 9)),
    i1 25 (.mov (.t 1)),
    i1 26 (.faddr 3 (.t 6)),
    i1 28 (.mov (.t 10)),
    i1 31 (.mov (.t 3)),
    i1 32 (.mov (.t 31)),
    .grp 32 false [s1 33 (.faddr 0 (.t 6))],
    i1 24 (.load 1 true (.t 4)),
    i1 27 (.load 1 false (.t 26)),
    i1 29 (.iaddr 4 (.t 27) (.t 28)),
    i1 30 (.load 4 true (.t 29)),
    .grp 32 false [s1 34 (.load 1 false (.t 33)),s1 35 (.bin .eql (.t 34) (.c (.int .i64 4))),s1 36 (.mov (.t 35))],
    .grp 36 true [s1 37 (.mov (.t 10)),s1 38 (.bin .eql (.t 37) (.c (.int .i64 1)))],
    .grp 32 false [s1 39 (.pick (.t 36) (.t 38) (.c (.bool false)))],
    i1 40 (.pick (.t 32) (.c (.bool true)) (.t 39)),
    i1 41 (.call (.f 199) [.t 24,.t 25,.t 30,.t 40]),
    i1 42 (.app 253 3 24 (.t 23) (.t 41)),
    i1 9 (.mov (.t 42))] [1,3,4,6,9,10] [])) (.reg [i1 21 (.mov (.t 10)),
    i1 22 (.bin .add (.t 21) (.c (.int .i64 1))),
    i1 10 (.mov (.t 22))] [1,3,4,6,9,10] [])))))) (.seq (.seq (.reg [i1 43 (.faddr 3 (.t 6)),
    i1 44 (.load 1 false (.t 43)),
    i1 45 (.len 1 (.t 44)),
    i1 46 (.bin .gtr (.t 45) (.c (.int .i64 0)))] [1,3,4,6,9,46] []) (.cond (.t 46) (.seq (.reg [i1 47 (.mov (.t 9)),
    i1 8 (.mov (.t 47))] [8] []) (.ret)) (.skip))) (.seq (.reg [i1 48 (.load 1 true (.t 4)),
    i1 49 (.mov (.t 1)),
    i1 50 (.faddr 1 (.t 6)),
    i1 51 (.load 1 false (.t 50)),
    i1 52 (.call (.f 67) [.t 48,.t 49,.t 51]),
    i1 11 (.mov (.t 52))] [1,3,4,6,9,11] []) (.seq (.reg [i1 53 (.mov (.t 9)),
    i1 54 (.mov (.t 1)),
    i1 55 (.mov (.t 11)),
    i1 56 (.mov (.t 3)),
    i1 57 (.build [.int .i64 0,.int .i64 0,.bool false] [(0,1,.t 54),(1,1,.t 55),(2,1,.t 56)]),
    i1 58 (.bslicr 253 3 [.t 57]),
    i1 59 (.app 253 3 24 (.t 53) (.t 58)),
    i1 9 (.mov (.t 59))] [1,3,4,6,9,11] []) (.seq (.reg [i1 60 (.faddr 0 (.t 4)),
    i1 61 (.load 1 false (.t 60)),
    i1 62 (.mov (.t 1)),
    i1 63 (.iaddr 2 (.t 61) (.t 62)),
    i1 64 (.faddr 1 (.t 63)),
    i1 65 (.load 1 false (.t 64)),
    i1 66 (.mov (.t 11)),
    i1 67 (.iaddr 6 (.t 65) (.t 66)),
    i1 68 (.faddr 1 (.t 67)),
    i1 69 (.load 1 false (.t 68)),
    i1 12 (.mov (.t 69))] [3,4,6,9,12] []) (.seq (.seq (.reg [i1 13 (.mov (.c (.int .i64 0)))] [3,4,6,9,12,13] []) (.block 2 (.loop [3,4,6,9,12,13] (.seq (.seq (.reg [i1 70 (.mov (.t 13)),
    i1 71 (.mov (.t 12)),
    i1 72 (.len 1 (.t 71)),
    i1 73 (.bin .lss (.t 70) (.t 72)),
    i1 74 (.mov (.t 73)),
    .grp 74 true [s1 75 (.faddr 0 (.t 6)),s1 76 (.load 1 false (.t 75)),s1 77 (.bin .eql (.t 76) (.c (.int .i64 1)))],
    i1 78 (.pick (.t 74) (.t 77) (.c (.bool false)))] [3,4,6,9,12,13,78] []) (.cond (.t 78) (.skip) (.exit 2))) (.seq (.block 3 (.seq (.regl [1,2,3,4,0,5,6,7] [i1 82 (.mov (.t 12)),
    i1 83 (.mov (.t 13)),
    i1 84 (.iaddr 2 (.t 82) (.t 83)),
    i1 85 (.faddr 0 (.t 84)),
    i1 81 (.load 1 true (.t 4)),
    i1 86 (.load 1 false (.t 85)),
    i1 87 (.call (.f 66) [.t 81,.t 86]),
    i1 14 (.mov (.t 87))] [3,4,6,9,12,13,14] []) (.seq (.reg [i1 88 (.load 1 true (.t 4)),
    i1 89 (.mov (.t 14)),
    i1 90 (.faddr 2 (.t 6)),
    i1 91 (.load 1 false (.t 90)),
    i1 92 (.call (.f 67) [.t 88,.t 89,.t 91]),
    i1 15 (.mov (.t 92))] [3,4,6,9,12,13,14,15] []) (.seq (.reg [i1 93 (.mov (.t 12)),
    i1 94 (.mov (.t 13)),
    i1 95 (.iaddr 2 (.t 93) (.t 94)),
    i1 96 (.faddr 1 (.t 95)),
    i1 97 (.load 1 false (.t 96)),
    i1 98 (.bin .eql (.t 97) (.c (.str ⟨#[]⟩))),
    i1 99 (.mov (.t 98)),
    .grp 99 true [s1 100 (.mov (.t 15)),s1 101 (.bin .geq (.t 100) (.c (.int .i64 0)))],
    i1 102 (.pick (.t 99) (.t 101) (.c (.bool false)))] [3,4,6,9,12,13,14,15,102] []) (.cond (.t 102) (.reg [i1 103 (.mov (.t 9)),
    i1 104 (.mov (.t 14)),
    i1 105 (.mov (.t 15)),
    i1 106 (.mov (.t 3)),
    i1 107 (.build [.int .i64 0,.int .i64 0,.bool false] [(0,1,.t 104),(1,1,.t 105),(2,1,.t 106)]),
    i1 108 (.bslicr 253 3 [.t 107]),
    i1 109 (.app 253 3 24 (.t 103) (.t 108)),
    i1 9 (.mov (.t 109))] [3,4,6,9,12,13] []) (.skip)))))) (.reg [i1 79 (.mov (.t 13)),
    i1 80 (.bin .add (.t 79) (.c (.int .i64 1))),
    i1 13 (.mov (.t 80))] [3,4,6,9,12,13] [])))))) (.seq (.reg [i1 110 (.mov (.t 9)),
    i1 8 (.mov (.t 110))] [8] []) (.ret)))))))))
abbrev nr_ref12_leans:Nat:=199
def C_ref12_leans_8 (QF:AEnd→Store→Prop) (r0:LE→Store→Prop) (v1 v3 v4 v6 v10 v23 v24 v25 v30 v40:AV) (S:Store):Prop:=
  caW PG S (.func (.func 199) [] []) [v24,v25,v30,v40] (fun v41 S=>
  apW S 253 3 24 v23 v41 fun v42 S=>
  biW .add v10 (.int .i64 1) fun v22=>
  rcW r0 [(1,v1),(3,v3),(4,v4),(6,v6),(9,v42),(10,v22)] S) (pqW QF)
def C_ref12_leans_7 (QF:AEnd→Store→Prop) (r0:LE→Store→Prop) (v1 v3 v4 v6 v10 v23 v24 v25 v30 v32 v36 v38:AV) (S:Store):Prop:=
  grW v32 false (pkW v36 v38 (.bool false) fun v39=>
  pkW v32 (.bool true) v39 fun v40=>
  C_ref12_leans_8 QF r0 v1 v3 v4 v6 v10 v23 v24 v25 v30 v40 S)
  (pkW v32 (.bool true) undefA fun v40=>
  C_ref12_leans_8 QF r0 v1 v3 v4 v6 v10 v23 v24 v25 v30 v40 S)
def C_ref12_leans_6 (QF:AEnd→Store→Prop) (r0:LE→Store→Prop) (v1 v3 v4 v6 v10 v23 v24 v25 v30 v32 v36:AV) (S:Store):Prop:=
  grW v36 true (biW .eql v10 (.int .i64 1) fun v38=>
  C_ref12_leans_7 QF r0 v1 v3 v4 v6 v10 v23 v24 v25 v30 v32 v36 v38 S)
  (C_ref12_leans_7 QF r0 v1 v3 v4 v6 v10 v23 v24 v25 v30 v32 v36 undefA S)
def C_ref12_leans_5 (QF:AEnd→Store→Prop) (r0:LE→Store→Prop) (v1 v3 v4 v6 v10 v23 v25 v26 v28 v32 v33:AV) (S:Store):Prop:=
  ldW S 1 true v4 fun v24=>
  ldW S 1 false v26 fun v27=>
  iaW 4 v27 v28 fun v29=>
  ldW S 4 true v29 fun v30=>
  grW v32 false (ldW S 1 false v33 fun v34=>
  biW .eql v34 (.int .i64 4) fun v35=>
  C_ref12_leans_6 QF r0 v1 v3 v4 v6 v10 v23 v24 v25 v30 v32 v35 S)
  (C_ref12_leans_6 QF r0 v1 v3 v4 v6 v10 v23 v24 v25 v30 v32 undefA S)
def C_ref12_leans_4 (QF:AEnd→Store→Prop) (r0:LE→Store→Prop) (v3 v4 v6 v9 v12 v13 v14 v15 v102:AV) (S:Store):Prop:=
  cnW v102 (bdW [.int .i64 0,.int .i64 0,.bool false] [(0,1,v14),(1,1,v15),(2,1,v3)] fun v107=>
  srW 3 [v107] fun v108=>
  apW S 253 3 24 v9 v108 fun v109 S=>
  biW .add v13 (.int .i64 1) fun v80=>
  rcW r0 [(3,v3),(4,v4),(6,v6),(9,v109),(12,v12),(13,v80)] S)
  (biW .add v13 (.int .i64 1) fun v80=>
  rcW r0 [(3,v3),(4,v4),(6,v6),(9,v9),(12,v12),(13,v80)] S)
def C_ref12_leans_3 (QF:AEnd→Store→Prop) (r0:LE→Store→Prop) (v3 v4 v6 v9 v12 v13 v78:AV) (S:Store):Prop:=
  cnW v78 (iaW 2 v12 v13 fun v84=>
  faW 0 v84 fun v85=>
  ldW S 1 true v4 fun v81=>
  ldW S 1 false v85 fun v86=>
  caW PG S (.func (.func 66) [] []) [v81,v86] (fun v87 S=>
  ldW S 1 true v4 fun v88=>
  faW 2 v6 fun v90=>
  ldW S 1 false v90 fun v91=>
  caW PG S (.func (.func 67) [] []) [v88,v87,v91] (fun v92 S=>
  iaW 2 v12 v13 fun v95=>
  faW 1 v95 fun v96=>
  ldW S 1 false v96 fun v97=>
  biW .eql v97 (.str ⟨#[]⟩) fun v98=>
  grW v98 true (biW .geq v92 (.int .i64 0) fun v101=>
  pkW v98 v101 (.bool false) fun v102=>
  C_ref12_leans_4 QF r0 v3 v4 v6 v9 v12 v13 v87 v92 v102 S)
  (pkW v98 undefA (.bool false) fun v102=>
  C_ref12_leans_4 QF r0 v3 v4 v6 v9 v12 v13 v87 v92 v102 S)) (pqW QF)) (pqW QF))
  (rtW [.tmp v9] QF S)
def C_ref12_leans_2 (QF:AEnd→Store→Prop) (r0:LE→Store→Prop) (v3 v4 v6 v9 v12 v13:AV) (S:Store):Prop:=
  lnW S 1 v12 fun v72=>
  biW .lss v13 v72 fun v73=>
  grW v73 true (faW 0 v6 fun v75=>
  ldW S 1 false v75 fun v76=>
  biW .eql v76 (.int .i64 1) fun v77=>
  pkW v73 v77 (.bool false) fun v78=>
  C_ref12_leans_3 QF r0 v3 v4 v6 v9 v12 v13 v78 S)
  (pkW v73 undefA (.bool false) fun v78=>
  C_ref12_leans_3 QF r0 v3 v4 v6 v9 v12 v13 v78 S)
def C_ref12_leans_1 (QF:AEnd→Store→Prop) (r0:LE→Store→Prop) (v1 v3 v4 v6 v9 v10:AV) (S:Store):Prop:=
  faW 3 v6 fun v17=>
  ldW S 1 false v17 fun v18=>
  lnW S 1 v18 fun v19=>
  biW .lss v10 v19 fun v20=>
  cnW v20 (faW 3 v6 fun v26=>
  grW v3 false (faW 0 v6 fun v33=>
  C_ref12_leans_5 QF r0 v1 v3 v4 v6 v10 v9 v1 v26 v10 v3 v33 S)
  (C_ref12_leans_5 QF r0 v1 v3 v4 v6 v10 v9 v1 v26 v10 v3 undefA S))
  (faW 3 v6 fun v43=>
  ldW S 1 false v43 fun v44=>
  lnW S 1 v44 fun v45=>
  biW .gtr v45 (.int .i64 0) fun v46=>
  cnW v46 (rtW [.tmp v9] QF S)
  (ldW S 1 true v4 fun v48=>
  faW 1 v6 fun v50=>
  ldW S 1 false v50 fun v51=>
  caW PG S (.func (.func 67) [] []) [v48,v1,v51] (fun v52 S=>
  bdW [.int .i64 0,.int .i64 0,.bool false] [(0,1,v1),(1,1,v52),(2,1,v3)] fun v57=>
  srW 3 [v57] fun v58=>
  apW S 253 3 24 v9 v58 fun v59 S=>
  faW 0 v4 fun v60=>
  ldW S 1 false v60 fun v61=>
  iaW 2 v61 v1 fun v63=>
  faW 1 v63 fun v64=>
  ldW S 1 false v64 fun v65=>
  iaW 6 v65 v52 fun v67=>
  faW 1 v67 fun v68=>
  ldW S 1 false v68 fun v69=>
  LoopP (fun r0 l S=>C_ref12_leans_2 QF r0 (lget l 3) (lget l 4) (lget l 6) (lget l 9) (lget l 12) (lget l 13) S) [(3,v3),(4,v4),(6,v6),(9,v59),(12,v69),(13,(.int .i64 0))] S) (pqW QF)))
def B_ref12_leans (QF:AEnd→Store→Prop) (v0 v1 v2 v3:AV) (S:Store):Prop:=
  brW 1 v0 fun v4=>
  brW 4 v2 fun v6=>
  LoopP (fun r0 l S=>C_ref12_leans_1 QF r0 (lget l 1) (lget l 3) (lget l 4) (lget l 6) (lget l 9) (lget l 10) S) [(1,v1),(3,v3),(4,v4),(6,v6),(9,(.nils)),(10,(.int .i64 0))] S
theorem w_ref12_leans {QF:AEnd→Store→Prop} {v0 v1 v2 v3:AV} {S:Store} (h:B_ref12_leans QF v0 v1 v2 v3 S):ACalls PG nr_ref12_leans [v0,v1,v2,v3] S QF:=
  acalls_tf (F:=tf_ref12_leans) (by kernel_rfl) rfl (by kernel_rfl) h
def tf_names_ID_1:TFunc where
  n:=18
  args:=1
  res:=[.tmp 2]
  code:=.seq (.reg [i1 2 (.mov (.c (.bool false)))] [0] []) (.seq (.reg [i1 3 (.mov (.t 0)),
    i1 4 (.call (.f 183) [.t 3]),
    i1 5 (.mov (.t 4)),
    .grp 5 false [s1 6 (.mov (.t 0)),s1 7 (.call (.f 201) [.t 6])],
    i1 8 (.pick (.t 5) (.c (.bool true)) (.t 7)),
    i1 9 (.mov (.t 8)),
    .grp 9 false [s1 10 (.mov (.t 0)),s1 11 (.call (.f 184) [.t 10])],
    i1 12 (.pick (.t 9) (.c (.bool true)) (.t 11)),
    i1 13 (.mov (.t 12)),
    .grp 13 false [s1 14 (.mov (.t 0)),s1 15 (.call (.f 202) [.c (.str ⟨#[95,46,45]⟩),.t 14]),s1 16 (.bin .geq (.t 15) (.c (.int .i64 0)))],
    i1 17 (.pick (.t 13) (.c (.bool true)) (.t 16)),
    i1 2 (.mov (.t 17))] [2] []) (.ret))
abbrev nr_names_ID_1:Nat:=200
def C_names_ID_1_2 (QF:AEnd→Store→Prop) (v0 v12:AV) (S:Store):Prop:=
  grW v12 false (caW PG S (.func (.func 202) [] []) [(.str ⟨#[95,46,45]⟩),v0] (fun v15 S=>
  biW .geq v15 (.int .i64 0) fun v16=>
  pkW v12 (.bool true) v16 fun v17=>
  rtW [.tmp v17] QF S) (pqW QF))
  (pkW v12 (.bool true) undefA fun v17=>
  rtW [.tmp v17] QF S)
def C_names_ID_1_1 (QF:AEnd→Store→Prop) (v0 v8:AV) (S:Store):Prop:=
  grW v8 false (caW PG S (.func (.func 184) [] []) [v0] (fun v11 S=>
  pkW v8 (.bool true) v11 fun v12=>
  C_names_ID_1_2 QF v0 v12 S) (pqW QF))
  (pkW v8 (.bool true) undefA fun v12=>
  C_names_ID_1_2 QF v0 v12 S)
def B_names_ID_1 (QF:AEnd→Store→Prop) (v0:AV) (S:Store):Prop:=
  caW PG S (.func (.func 183) [] []) [v0] (fun v4 S=>
  grW v4 false (caW PG S (.func (.func 201) [] []) [v0] (fun v7 S=>
  pkW v4 (.bool true) v7 fun v8=>
  C_names_ID_1_1 QF v0 v8 S) (pqW QF))
  (pkW v4 (.bool true) undefA fun v8=>
  C_names_ID_1_1 QF v0 v8 S)) (pqW QF)
theorem w_names_ID_1 {QF:AEnd→Store→Prop} {v0:AV} {S:Store} (h:B_names_ID_1 QF v0 S):ACalls PG nr_names_ID_1 [v0] S QF:=
  acalls_tf (F:=tf_names_ID_1) (by kernel_rfl) rfl (by kernel_rfl) h
def tf_names_great:TFunc where
  n:=9
  args:=1
  res:=[.tmp 2]
  code:=.seq (.reg [i1 2 (.mov (.c (.bool false)))] [0] []) (.seq (.reg [i1 3 (.mov (.t 0)),
    i1 4 (.bin .geq (.t 3) (.c (.int .u8 65))),
    i1 5 (.mov (.t 4)),
    .grp 5 true [s1 6 (.mov (.t 0)),s1 7 (.bin .leq (.t 6) (.c (.int .u8 90)))],
    i1 8 (.pick (.t 5) (.t 7) (.c (.bool false))),
    i1 2 (.mov (.t 8))] [2] []) (.ret))
abbrev nr_names_great:Nat:=201
def B_names_great (QF:AEnd→Store→Prop) (v0:AV) (S:Store):Prop:=
  biW .geq v0 (.int .u8 65) fun v4=>
  grW v4 true (biW .leq v0 (.int .u8 90) fun v7=>
  pkW v4 v7 (.bool false) fun v8=>
  rtW [.tmp v8] QF S)
  (pkW v4 undefA (.bool false) fun v8=>
  rtW [.tmp v8] QF S)
theorem w_names_great {QF:AEnd→Store→Prop} {v0:AV} {S:Store} (h:B_names_great QF v0 S):ACalls PG nr_names_great [v0] S QF:=
  acalls_tf (F:=tf_names_great) (by kernel_rfl) rfl (by kernel_rfl) h
def tf_strings_IndexByte:TFunc where
  n:=8
  args:=2
  res:=[.tmp 4]
  code:=.seq (.reg [i1 4 (.mov (.c (.int .i64 0)))] [0,1] []) (.seq (.reg [i1 5 (.mov (.t 0)),
    i1 6 (.mov (.t 1)),
    i1 7 (.call (.f 213) [.t 5,.t 6]),
    i1 4 (.mov (.t 7))] [4] []) (.ret))
abbrev nr_strings_IndexByte:Nat:=202
def B_strings_IndexByte (QF:AEnd→Store→Prop) (v0 v1:AV) (S:Store):Prop:=
  caW PG S (.func (.func 213) [] []) [v0,v1] (fun v7 S=>
  rtW [.tmp v7] QF S) (pqW QF)
theorem w_strings_IndexByte {QF:AEnd→Store→Prop} {v0 v1:AV} {S:Store} (h:B_strings_IndexByte QF v0 v1 S):ACalls PG nr_strings_IndexByte [v0,v1] S QF:=
  acalls_tf (F:=tf_strings_IndexByte) (by kernel_rfl) rfl (by kernel_rfl) h
def tf_ref11_Reader_atom:TFunc where
  n:=50
  args:=1
  res:=[.cell 2 4 true]
  code:=.seq (.reg [i1 2 (.alloc 51 [.int .i64 0,.str ⟨#[]⟩,.str ⟨#[]⟩,.nils])] [0,2] []) (.seq (.reg [i1 7 (.mov (.t 0)),
    i1 8 (.call (.f 87) [.t 7]),
    .box2 3 149 [.str ⟨#[]⟩,.int .i64 0,.int .i64 0] 3 (.t 8)] [0,2,3] []) (.seq (.seq (.reg [i1 9 (.mov (.t 0)),
    i1 10 (.call (.f 84) [.t 9,.c (.str ⟨#[40]⟩)])] [0,2,3,10] []) (.cond (.t 10) (.seq (.reg [i1 11 (.mov (.t 0)),
    i1 12 (.nilck (.t 11)),
    i1 13 (.faddr 2 (.t 12)),
    i1 14 (.load 1 false (.t 13)),
    i1 15 (.bin .add (.t 14) (.c (.int .i64 1))),
    i1 16 (.nilck (.t 11)),
    i1 17 (.faddr 2 (.t 16)),
    i0 (.store 1 (.t 17) (.t 15))] [0,2,3] []) (.seq (.seq (.reg [i1 18 (.mov (.t 0)),
    i1 19 (.nilck (.t 18)),
    i1 20 (.faddr 2 (.t 19)),
    i1 21 (.load 1 false (.t 20)),
    i1 22 (.bin .gtr (.t 21) (.c (.int .i64 12)))] [0,2,3,22] []) (.cond (.t 22) (.seq (.reg [i1 23 (.mov (.t 0)),
    i1 24 (.load 3 true (.t 3)),
    i1 25 (.call (.f 88) [.t 23,.t 24,.c (.int .i64 9)])] [2] []) (.seq (.reg [i1 26 (.build [.int .i64 0,.str ⟨#[]⟩,.str ⟨#[]⟩,.nils] []),
    i0 (.store 4 (.t 2) (.t 26))] [2] []) (.ret))) (.skip))) (.seq (.reg [i1 27 (.mov (.t 0)),
    i1 28 (.call (.f 132) [.t 27]),
    .box2 4 51 [.int .i64 0,.str ⟨#[]⟩,.str ⟨#[]⟩,.nils] 4 (.t 28)] [0,2,4] []) (.seq (.reg [i1 29 (.mov (.t 0)),
    i1 30 (.call (.f 130) [.t 29,.c (.str ⟨#[41]⟩)])] [0,2,4] []) (.seq (.reg [i1 31 (.mov (.t 0)),
    i1 32 (.nilck (.t 31)),
    i1 33 (.faddr 2 (.t 32)),
    i1 34 (.load 1 false (.t 33)),
    i1 35 (.bin .sub (.t 34) (.c (.int .i64 1))),
    i1 36 (.nilck (.t 31)),
    i1 37 (.faddr 2 (.t 36)),
    i0 (.store 1 (.t 37) (.t 35))] [2,4] []) (.seq (.reg [i1 38 (.load 4 true (.t 4)),
    i0 (.store 4 (.t 2) (.t 38))] [2] []) (.ret))))))) (.skip))) (.seq (.reg [i1 39 (.mov (.t 0)),
    i1 40 (.call (.f 85) [.t 39]),
    i1 5 (.mov (.t 40))] [0,2,5] []) (.seq (.seq (.reg [i1 41 (.mov (.t 0)),
    i1 42 (.call (.f 84) [.t 41,.c (.str ⟨#[46]⟩)])] [0,2,5,42] []) (.cond (.t 42) (.seq (.reg [i1 43 (.mov (.t 0)),
    i1 44 (.call (.f 85) [.t 43]),
    i1 6 (.mov (.t 44))] [2,5,6] []) (.seq (.reg [i1 45 (.mov (.t 5)),
    i1 46 (.mov (.t 6)),
    i1 47 (.build [.int .i64 0,.str ⟨#[]⟩,.str ⟨#[]⟩,.nils] [(0,1,.c (.int .i64 1)),(1,1,.t 45),(2,1,.t 46)]),
    i0 (.store 4 (.t 2) (.t 47))] [2] []) (.ret))) (.skip))) (.seq (.reg [i1 48 (.mov (.t 5)),
    i1 49 (.build [.int .i64 0,.str ⟨#[]⟩,.str ⟨#[]⟩,.nils] [(0,1,.c (.int .i64 0)),(1,1,.t 48)]),
    i0 (.store 4 (.t 2) (.t 49))] [2] []) (.ret))))))
abbrev nr_ref11_Reader_atom:Nat:=203
def B_ref11_Reader_atom (QF:AEnd→Store→Prop) (v0:AV) (S:Store):Prop:=
  alW S 51 [.int .i64 0,.str ⟨#[]⟩,.str ⟨#[]⟩,.nils] fun v2 S=>
  caW PG S (.func (.func 87) [] []) [v0] (fun v8 S=>
  bfW 3 v8 fun v3=>
  caW PG S (.func (.func 84) [] []) [v0,(.str ⟨#[40]⟩)] (fun v10 S=>
  cnW v10 (nkW v0 fun v12=>
  faW 2 v12 fun v13=>
  ldW S 1 false v13 fun v14=>
  biW .add v14 (.int .i64 1) fun v15=>
  nkW v0 fun v16=>
  faW 2 v16 fun v17=>
  stW S 1 v17 v15 fun S=>
  nkW v0 fun v19=>
  faW 2 v19 fun v20=>
  ldW S 1 false v20 fun v21=>
  biW .gtr v21 (.int .i64 12) fun v22=>
  cnW v22 (ldW S 3 true v3 fun v24=>
  caW PG S (.func (.func 88) [] []) [v0,v24,(.int .i64 9)] (fun v25 S=>
  bdW [.int .i64 0,.str ⟨#[]⟩,.str ⟨#[]⟩,.nils] [] fun v26=>
  stW S 4 v2 v26 fun S=>
  rtW [.cell v2 4 true] QF S) (pqW QF))
  (caW PG S (.func (.func 132) [] []) [v0] (fun v28 S=>
  bfW 4 v28 fun v4=>
  caW PG S (.func (.func 130) [] []) [v0,(.str ⟨#[41]⟩)] (fun v30 S=>
  nkW v0 fun v32=>
  faW 2 v32 fun v33=>
  ldW S 1 false v33 fun v34=>
  biW .sub v34 (.int .i64 1) fun v35=>
  nkW v0 fun v36=>
  faW 2 v36 fun v37=>
  stW S 1 v37 v35 fun S=>
  ldW S 4 true v4 fun v38=>
  stW S 4 v2 v38 fun S=>
  rtW [.cell v2 4 true] QF S) (pqW QF)) (pqW QF)))
  (caW PG S (.func (.func 85) [] []) [v0] (fun v40 S=>
  caW PG S (.func (.func 84) [] []) [v0,(.str ⟨#[46]⟩)] (fun v42 S=>
  cnW v42 (caW PG S (.func (.func 85) [] []) [v0] (fun v44 S=>
  bdW [.int .i64 0,.str ⟨#[]⟩,.str ⟨#[]⟩,.nils] [(0,1,(.int .i64 1)),(1,1,v40),(2,1,v44)] fun v47=>
  stW S 4 v2 v47 fun S=>
  rtW [.cell v2 4 true] QF S) (pqW QF))
  (bdW [.int .i64 0,.str ⟨#[]⟩,.str ⟨#[]⟩,.nils] [(0,1,(.int .i64 0)),(1,1,v40)] fun v49=>
  stW S 4 v2 v49 fun S=>
  rtW [.cell v2 4 true] QF S)) (pqW QF)) (pqW QF))) (pqW QF)) (pqW QF)
theorem w_ref11_Reader_atom {QF:AEnd→Store→Prop} {v0:AV} {S:Store} (h:B_ref11_Reader_atom QF v0 S):ACalls PG nr_ref11_Reader_atom [v0] S QF:=
  acalls_tf (F:=tf_ref11_Reader_atom) (by kernel_rfl) rfl (by kernel_rfl) h
def tf_ref11_Height:TFunc where
  n:=25
  args:=1
  res:=[.tmp 2]
  code:=.seq (.reg [i1 1 (.boxr 51 4 (.t 0)),
    i1 2 (.mov (.c (.int .i64 0)))] [1] []) (.seq (.reg [i1 3 (.mov (.c (.int .i64 0)))] [1,3] []) (.seq (.seq (.reg [i1 4 (.mov (.c (.int .i64 0)))] [1,3,4] []) (.block 0 (.loop [1,3,4] (.seq (.seq (.reg [i1 6 (.mov (.t 4)),
    i1 7 (.faddr 3 (.t 1)),
    i1 8 (.load 1 false (.t 7)),
    i1 9 (.len 1 (.t 8)),
    i1 10 (.bin .lss (.t 6) (.t 9))] [1,3,4,10] []) (.cond (.t 10) (.skip) (.exit 0))) (.seq (.block 1 (.seq (.reg [i1 13 (.faddr 3 (.t 1)),
    i1 14 (.load 1 false (.t 13)),
    i1 15 (.mov (.t 4)),
    i1 16 (.iaddr 4 (.t 14) (.t 15)),
    i1 17 (.load 4 true (.t 16)),
    i1 18 (.call (.f 204) [.t 17]),
    i1 5 (.mov (.t 18))] [1,3,4,5] []) (.seq (.reg [i1 19 (.mov (.t 5)),
    i1 20 (.mov (.t 3)),
    i1 21 (.bin .gtr (.t 19) (.t 20))] [1,3,4,5,21] []) (.cond (.t 21) (.reg [i1 22 (.mov (.t 5)),
    i1 3 (.mov (.t 22))] [1,3,4] []) (.skip))))) (.reg [i1 11 (.mov (.t 4)),
    i1 12 (.bin .add (.t 11) (.c (.int .i64 1))),
    i1 4 (.mov (.t 12))] [1,3,4] [])))))) (.seq (.reg [i1 23 (.mov (.t 3)),
    i1 24 (.bin .add (.t 23) (.c (.int .i64 1))),
    i1 2 (.mov (.t 24))] [2] []) (.ret))))
abbrev nr_ref11_Height:Nat:=204
def C_ref11_Height_1 (QF:AEnd→Store→Prop) (r0:LE→Store→Prop) (v1 v3 v4:AV) (S:Store):Prop:=
  faW 3 v1 fun v7=>
  ldW S 1 false v7 fun v8=>
  lnW S 1 v8 fun v9=>
  biW .lss v4 v9 fun v10=>
  cnW v10 (faW 3 v1 fun v13=>
  ldW S 1 false v13 fun v14=>
  iaW 4 v14 v4 fun v16=>
  ldW S 4 true v16 fun v17=>
  caW PG S (.func (.func 204) [] []) [v17] (fun v18 S=>
  biW .gtr v18 v3 fun v21=>
  cnW v21 (biW .add v4 (.int .i64 1) fun v12=>
  rcW r0 [(1,v1),(3,v18),(4,v12)] S)
  (biW .add v4 (.int .i64 1) fun v12=>
  rcW r0 [(1,v1),(3,v3),(4,v12)] S)) (pqW QF))
  (biW .add v3 (.int .i64 1) fun v24=>
  rtW [.tmp v24] QF S)
def B_ref11_Height (QF:AEnd→Store→Prop) (v0:AV) (S:Store):Prop:=
  brW 4 v0 fun v1=>
  LoopP (fun r0 l S=>C_ref11_Height_1 QF r0 (lget l 1) (lget l 3) (lget l 4) S) [(1,v1),(3,(.int .i64 0)),(4,(.int .i64 0))] S
theorem w_ref11_Height {QF:AEnd→Store→Prop} {v0:AV} {S:Store} (h:B_ref11_Height QF v0 S):ACalls PG nr_ref11_Height [v0] S QF:=
  acalls_tf (F:=tf_ref11_Height) (by kernel_rfl) rfl (by kernel_rfl) h
end Go.HL
