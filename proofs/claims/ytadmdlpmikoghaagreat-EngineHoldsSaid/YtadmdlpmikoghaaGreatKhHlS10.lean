/- A part of a proof. -/
import Derived.Test.YtadmdlpmikoghaaGreatKhHlP
set_option maxRecDepth 100000
set_option linter.unusedVariables false
namespace Go.HL
def tf_engine_search_expr:TFunc where
  n:=82
  args:=3
  res:=[.tmp 6]
  code:=.seq (.reg [i1 3 (.boxr 90 1 (.t 0)),
    i1 4 (.boxr 27 2 (.t 1)),
    i1 5 (.boxr 51 4 (.t 2)),
    i1 6 (.mov (.c (.bool false)))] [3,4,5] []) (.seq (.seq (.reg [i1 7 (.faddr 0 (.t 5)),
    i1 8 (.load 1 false (.t 7))] [3,4,5,8] []) (.block 0 (.seq (.reg [i1 10 (.bin .eql (.t 8) (.c (.int .i64 0))),
    i1 9 (.mov (.t 10))] [3,4,5,8,9] []) (.cond (.t 9) (.seq (.reg [i1 11 (.load 1 false (.t 3)),
    i1 12 (.load 2 true (.t 4)),
    i1 13 (.faddr 1 (.t 5)),
    i1 14 (.load 1 false (.t 13)),
    i1 15 (.call (.f 51) [.t 11,.t 12,.t 14]),
    i1 6 (.mov (.t 15))] [6] []) (.ret)) (.seq (.reg [i1 17 (.bin .eql (.t 8) (.c (.int .i64 1))),
    i1 16 (.mov (.t 17))] [3,4,5,8,16] []) (.cond (.t 16) (.seq (.regl [5,9,0,1,2,3,4,6,7,8,10,11] [i1 23 (.faddr 1 (.t 5)),
    i1 27 (.mkf (.func 185) [] [.t 3,.t 5]),
    i1 18 (.load 1 false (.t 3)),
    i1 19 (.nilck (.t 18)),
    i1 20 (.faddr 1 (.t 19)),
    i1 21 (.load 1 false (.t 20)),
    i1 22 (.load 2 true (.t 4)),
    i1 24 (.load 1 false (.t 23)),
    i1 25 (.build [.str ⟨#[]⟩,.str ⟨#[]⟩,.str ⟨#[]⟩] [(0,2,.t 22),(2,1,.t 24)]),
    i1 26 (.lookup (true,[.str,.str,.str]) false (.nils) (.t 21) (.t 25)),
    i1 28 (.call (.f 147) [.t 26,.t 27]),
    i1 6 (.mov (.t 28))] [6] []) (.ret)) (.seq (.reg [i1 30 (.bin .eql (.t 8) (.c (.int .i64 2))),
    i1 29 (.mov (.t 30))] [3,4,5,8,29] []) (.cond (.t 29) (.seq (.regl [2,0,1,3,4,5,6,7,10,8,9,11,12,13,14,15,16] [i1 33 (.faddr 3 (.t 5)),
    i1 31 (.load 1 false (.t 3)),
    i1 32 (.load 2 true (.t 4)),
    i1 34 (.load 1 false (.t 33)),
    i1 35 (.iaddr 4 (.t 34) (.c (.int .i64 0))),
    i1 36 (.load 4 true (.t 35)),
    i1 37 (.call (.f 146) [.t 31,.t 32,.t 36]),
    i1 38 (.mov (.t 37)),
    .grp 38 false [s1 41 (.faddr 3 (.t 5)),s1 39 (.load 1 false (.t 3)),s1 40 (.load 2 true (.t 4)),s1 42 (.load 1 false (.t 41)),s1 43 (.iaddr 4 (.t 42) (.c (.int .i64 1))),s1 44 (.load 4 true (.t 43)),s1 45 (.call (.f 146) [.t 39,.t 40,.t 44])],
    i1 46 (.pick (.t 38) (.c (.bool true)) (.t 45)),
    i1 6 (.mov (.t 46))] [6] []) (.ret)) (.seq (.reg [i1 48 (.bin .eql (.t 8) (.c (.int .i64 3))),
    i1 47 (.mov (.t 48))] [3,4,5,47] []) (.cond (.t 47) (.seq (.regl [2,0,1,3,4,5,6,7,10,8,9,11,12,13,14,15,16] [i1 51 (.faddr 3 (.t 5)),
    i1 49 (.load 1 false (.t 3)),
    i1 50 (.load 2 true (.t 4)),
    i1 52 (.load 1 false (.t 51)),
    i1 53 (.iaddr 4 (.t 52) (.c (.int .i64 0))),
    i1 54 (.load 4 true (.t 53)),
    i1 55 (.call (.f 146) [.t 49,.t 50,.t 54]),
    i1 56 (.mov (.t 55)),
    .grp 56 true [s1 59 (.faddr 3 (.t 5)),s1 57 (.load 1 false (.t 3)),s1 58 (.load 2 true (.t 4)),s1 60 (.load 1 false (.t 59)),s1 61 (.iaddr 4 (.t 60) (.c (.int .i64 1))),s1 62 (.load 4 true (.t 61)),s1 63 (.call (.f 146) [.t 57,.t 58,.t 62])],
    i1 64 (.pick (.t 56) (.t 63) (.c (.bool false))),
    i1 6 (.mov (.t 64))] [6] []) (.ret)) (.skip))))))))))) (.seq (.regl [2,0,1,3,4,5,6,7,10,8,9,11,12,13,14,15,16,17] [i1 67 (.faddr 3 (.t 5)),
    i1 65 (.load 1 false (.t 3)),
    i1 66 (.load 2 true (.t 4)),
    i1 68 (.load 1 false (.t 67)),
    i1 69 (.iaddr 4 (.t 68) (.c (.int .i64 0))),
    i1 70 (.load 4 true (.t 69)),
    i1 71 (.call (.f 146) [.t 65,.t 66,.t 70]),
    i1 72 (.mov (.t 71)),
    .grp 72 true [s1 75 (.faddr 3 (.t 5)),s1 73 (.load 1 false (.t 3)),s1 74 (.load 2 true (.t 4)),s1 76 (.load 1 false (.t 75)),s1 77 (.iaddr 4 (.t 76) (.c (.int .i64 1))),s1 78 (.load 4 true (.t 77)),s1 79 (.call (.f 146) [.t 73,.t 74,.t 78]),s1 80 (.not (.t 79))],
    i1 81 (.pick (.t 72) (.t 80) (.c (.bool false))),
    i1 6 (.mov (.t 81))] [6] []) (.ret)))
abbrev nr_engine_search_expr:Nat:=146
def B_engine_search_expr (QF:AEnd→Store→Prop) (v0 v1 v2:AV) (S:Store):Prop:=
  brW 1 v0 fun v3=>
  brW 2 v1 fun v4=>
  brW 4 v2 fun v5=>
  faW 0 v5 fun v7=>
  ldW S 1 false v7 fun v8=>
  biW .eql v8 (.int .i64 0) fun v10=>
  cnW v10 (ldW S 1 false v3 fun v11=>
  ldW S 2 true v4 fun v12=>
  faW 1 v5 fun v13=>
  ldW S 1 false v13 fun v14=>
  caW PG S (.func (.func 51) [] []) [v11,v12,v14] (fun v15 S=>
  rtW [.tmp v15] QF S) (pqW QF))
  (biW .eql v8 (.int .i64 1) fun v17=>
  cnW v17 (faW 1 v5 fun v23=>
  ldW S 1 false v3 fun v18=>
  nkW v18 fun v19=>
  faW 1 v19 fun v20=>
  ldW S 1 false v20 fun v21=>
  ldW S 2 true v4 fun v22=>
  ldW S 1 false v23 fun v24=>
  bdW [.str ⟨#[]⟩,.str ⟨#[]⟩,.str ⟨#[]⟩] [(0,2,v22),(2,1,v24)] fun v25=>
  lkW S (true,[.str,.str,.str]) false (.nils) v21 v25 fun v26=>
  caW PG S (.func (.func 147) [] []) [v26,(.func (.func 185) [] [v3,v5])] (fun v28 S=>
  rtW [.tmp v28] QF S) (pqW QF))
  (biW .eql v8 (.int .i64 2) fun v30=>
  cnW v30 (faW 3 v5 fun v33=>
  ldW S 1 false v3 fun v31=>
  ldW S 2 true v4 fun v32=>
  ldW S 1 false v33 fun v34=>
  iaW 4 v34 (.int .i64 0) fun v35=>
  ldW S 4 true v35 fun v36=>
  caW PG S (.func (.func 146) [] []) [v31,v32,v36] (fun v37 S=>
  grW v37 false (faW 3 v5 fun v41=>
  ldW S 1 false v3 fun v39=>
  ldW S 2 true v4 fun v40=>
  ldW S 1 false v41 fun v42=>
  iaW 4 v42 (.int .i64 1) fun v43=>
  ldW S 4 true v43 fun v44=>
  caW PG S (.func (.func 146) [] []) [v39,v40,v44] (fun v45 S=>
  pkW v37 (.bool true) v45 fun v46=>
  rtW [.tmp v46] QF S) (pqW QF))
  (pkW v37 (.bool true) undefA fun v46=>
  rtW [.tmp v46] QF S)) (pqW QF))
  (biW .eql v8 (.int .i64 3) fun v48=>
  cnW v48 (faW 3 v5 fun v51=>
  ldW S 1 false v3 fun v49=>
  ldW S 2 true v4 fun v50=>
  ldW S 1 false v51 fun v52=>
  iaW 4 v52 (.int .i64 0) fun v53=>
  ldW S 4 true v53 fun v54=>
  caW PG S (.func (.func 146) [] []) [v49,v50,v54] (fun v55 S=>
  grW v55 true (faW 3 v5 fun v59=>
  ldW S 1 false v3 fun v57=>
  ldW S 2 true v4 fun v58=>
  ldW S 1 false v59 fun v60=>
  iaW 4 v60 (.int .i64 1) fun v61=>
  ldW S 4 true v61 fun v62=>
  caW PG S (.func (.func 146) [] []) [v57,v58,v62] (fun v63 S=>
  pkW v55 v63 (.bool false) fun v64=>
  rtW [.tmp v64] QF S) (pqW QF))
  (pkW v55 undefA (.bool false) fun v64=>
  rtW [.tmp v64] QF S)) (pqW QF))
  (faW 3 v5 fun v67=>
  ldW S 1 false v3 fun v65=>
  ldW S 2 true v4 fun v66=>
  ldW S 1 false v67 fun v68=>
  iaW 4 v68 (.int .i64 0) fun v69=>
  ldW S 4 true v69 fun v70=>
  caW PG S (.func (.func 146) [] []) [v65,v66,v70] (fun v71 S=>
  grW v71 true (faW 3 v5 fun v75=>
  ldW S 1 false v3 fun v73=>
  ldW S 2 true v4 fun v74=>
  ldW S 1 false v75 fun v76=>
  iaW 4 v76 (.int .i64 1) fun v77=>
  ldW S 4 true v77 fun v78=>
  caW PG S (.func (.func 146) [] []) [v73,v74,v78] (fun v79 S=>
  ntW v79 fun v80=>
  pkW v71 v80 (.bool false) fun v81=>
  rtW [.tmp v81] QF S) (pqW QF))
  (pkW v71 undefA (.bool false) fun v81=>
  rtW [.tmp v81] QF S)) (pqW QF)))))
theorem w_engine_search_expr {QF:AEnd→Store→Prop} {v0 v1 v2:AV} {S:Store} (h:B_engine_search_expr QF v0 v1 v2 S):ACalls PG nr_engine_search_expr [v0,v1,v2] S QF:=
  acalls_tf (F:=tf_engine_search_expr) (by kernel_rfl) rfl (by kernel_rfl) h
def tf_slices_ContainsFunc_Subject:TFunc where
  n:=9
  args:=2
  res:=[.tmp 4]
  code:=.seq (.reg [i1 4 (.mov (.c (.bool false)))] [0,1] []) (.seq (.reg [i1 5 (.mov (.t 0)),
    i1 6 (.mov (.t 1)),
    i1 7 (.call (.f 186) [.t 5,.t 6]),
    i1 8 (.bin .geq (.t 7) (.c (.int .i64 0))),
    i1 4 (.mov (.t 8))] [4] []) (.ret))
abbrev nr_slices_ContainsFunc_Subject:Nat:=147
def B_slices_ContainsFunc_Subject (QF:AEnd→Store→Prop) (v0 v1:AV) (S:Store):Prop:=
  caW PG S (.func (.func 186) [] []) [v0,v1] (fun v7 S=>
  biW .geq v7 (.int .i64 0) fun v8=>
  rtW [.tmp v8] QF S) (pqW QF)
theorem w_slices_ContainsFunc_Subject {QF:AEnd→Store→Prop} {v0 v1:AV} {S:Store} (h:B_slices_ContainsFunc_Subject QF v0 v1 S):ACalls PG nr_slices_ContainsFunc_Subject [v0,v1] S QF:=
  acalls_tf (F:=tf_slices_ContainsFunc_Subject) (by kernel_rfl) rfl (by kernel_rfl) h
def tf_engine_search_stands_1:TFunc where
  n:=20
  args:=2
  res:=[.tmp 3]
  code:=.seq (.reg [i1 2 (.boxr 39 3 (.t 0)),
    i1 3 (.mov (.c (.bool false)))] [1,2] []) (.seq (.seq (.reg [i1 4 (.faddr 2 (.t 2)),
    i1 5 (.load 1 false (.t 4)),
    i1 6 (.bin .eql (.t 5) (.c (.str ⟨#[]⟩)))] [1,2,6] []) (.cond (.t 6) (.seq (.regl [0,1,2,3,4,5,6,7] [i1 7 (.faddr 0 (.t 2)),
    i1 8 (.load 2 true (.t 7)),
    i1 9 (.load 1 false (.t 1)),
    i1 10 (.nilck (.t 9)),
    i1 11 (.faddr 2 (.t 10)),
    i1 12 (.load 2 true (.t 11)),
    i1 13 (.eqp false (true,[.str,.str]) (.t 8) (.t 12)),
    i1 3 (.mov (.t 13))] [3] []) (.ret)) (.skip))) (.seq (.reg [i1 14 (.load 1 false (.t 1)),
    i1 15 (.faddr 0 (.t 2)),
    i1 16 (.load 2 true (.t 15)),
    i1 17 (.faddr 2 (.t 2)),
    i1 18 (.load 1 false (.t 17)),
    i1 19 (.call (.f 51) [.t 14,.t 16,.t 18]),
    i1 3 (.mov (.t 19))] [3] []) (.ret)))
abbrev nr_engine_search_stands_1:Nat:=148
def B_engine_search_stands_1 (QF:AEnd→Store→Prop) (v0 v1:AV) (S:Store):Prop:=
  brW 3 v0 fun v2=>
  faW 2 v2 fun v4=>
  ldW S 1 false v4 fun v5=>
  biW .eql v5 (.str ⟨#[]⟩) fun v6=>
  cnW v6 (faW 0 v2 fun v7=>
  ldW S 2 true v7 fun v8=>
  ldW S 1 false v1 fun v9=>
  nkW v9 fun v10=>
  faW 2 v10 fun v11=>
  ldW S 2 true v11 fun v12=>
  eqW false (true,[.str,.str]) v8 v12 fun v13=>
  rtW [.tmp v13] QF S)
  (ldW S 1 false v1 fun v14=>
  faW 0 v2 fun v15=>
  ldW S 2 true v15 fun v16=>
  faW 2 v2 fun v17=>
  ldW S 1 false v17 fun v18=>
  caW PG S (.func (.func 51) [] []) [v14,v16,v18] (fun v19 S=>
  rtW [.tmp v19] QF S) (pqW QF))
theorem w_engine_search_stands_1 {QF:AEnd→Store→Prop} {v0 v1:AV} {S:Store} (h:B_engine_search_stands_1 QF v0 v1 S):ACalls PG nr_engine_search_stands_1 [v0,v1] S QF:=
  acalls_tf (F:=tf_engine_search_stands_1) (by kernel_rfl) rfl (by kernel_rfl) h
def tf_ref11_May:TFunc where
  n:=46
  args:=1
  res:=[.tmp 2]
  code:=.seq (.reg [i1 1 (.boxr 24 1 (.t 0)),
    i1 2 (.mov (.c (.bool false)))] [1] []) (.seq (.seq (.reg [i1 3 (.mov (.c (.int .i64 0)))] [1,3] []) (.block 0 (.loop [1,3] (.seq (.seq (.reg [i1 7 (.mov (.t 3)),
    i1 8 (.faddr 0 (.t 1)),
    i1 9 (.load 1 false (.t 8)),
    i1 10 (.len 1 (.t 9)),
    i1 11 (.bin .lss (.t 7) (.t 10))] [1,3,11] []) (.cond (.t 11) (.skip) (.exit 0))) (.seq (.block 1 (.seq (.reg [i1 14 (.faddr 0 (.t 1)),
    i1 15 (.load 1 false (.t 14)),
    i1 16 (.mov (.t 3)),
    i1 17 (.iaddr 2 (.t 15) (.t 16)),
    i1 18 (.faddr 0 (.t 17)),
    i1 19 (.load 1 false (.t 18)),
    i1 20 (.call (.f 78) [.t 19]),
    i1 4 (.mov (.t 20))] [1,3,4] []) (.seq (.seq (.reg [i1 21 (.mov (.t 4)),
    i1 22 (.not (.t 21))] [1,3,22] []) (.cond (.t 22) (.seq (.reg [i1 2 (.mov (.c (.bool false)))] [2] []) (.ret)) (.skip))) (.seq (.reg [i1 5 (.mov (.c (.int .i64 0)))] [1,3,5] []) (.block 2 (.loop [1,3,5] (.seq (.seq (.reg [i1 23 (.mov (.t 5)),
    i1 24 (.faddr 0 (.t 1)),
    i1 25 (.load 1 false (.t 24)),
    i1 26 (.mov (.t 3)),
    i1 27 (.iaddr 2 (.t 25) (.t 26)),
    i1 28 (.faddr 1 (.t 27)),
    i1 29 (.load 1 false (.t 28)),
    i1 30 (.len 1 (.t 29)),
    i1 31 (.bin .lss (.t 23) (.t 30))] [1,3,5,31] []) (.cond (.t 31) (.skip) (.exit 2))) (.seq (.block 3 (.seq (.reg [i1 34 (.faddr 0 (.t 1)),
    i1 35 (.load 1 false (.t 34)),
    i1 36 (.mov (.t 3)),
    i1 37 (.iaddr 2 (.t 35) (.t 36)),
    i1 38 (.faddr 1 (.t 37)),
    i1 39 (.load 1 false (.t 38)),
    i1 40 (.mov (.t 5)),
    i1 41 (.iaddr 6 (.t 39) (.t 40)),
    i1 42 (.load 6 true (.t 41)),
    i1 43 (.call (.f 187) [.t 42]),
    i1 6 (.mov (.t 43))] [1,3,5,6] []) (.seq (.reg [i1 44 (.mov (.t 6)),
    i1 45 (.not (.t 44))] [1,3,5,45] []) (.cond (.t 45) (.seq (.reg [i1 2 (.mov (.c (.bool false)))] [2] []) (.ret)) (.skip))))) (.reg [i1 32 (.mov (.t 5)),
    i1 33 (.bin .add (.t 32) (.c (.int .i64 1))),
    i1 5 (.mov (.t 33))] [1,3,5] []))))))))) (.reg [i1 12 (.mov (.t 3)),
    i1 13 (.bin .add (.t 12) (.c (.int .i64 1))),
    i1 3 (.mov (.t 13))] [1,3] [])))))) (.seq (.reg [i1 2 (.mov (.c (.bool true)))] [2] []) (.ret)))
abbrev nr_ref11_May:Nat:=149
def C_ref11_May_2 (QF:AEnd→Store→Prop) (r0:LE→Store→Prop) (r1:LE→Store→Prop) (v1 v3 v5:AV) (S:Store):Prop:=
  faW 0 v1 fun v24=>
  ldW S 1 false v24 fun v25=>
  iaW 2 v25 v3 fun v27=>
  faW 1 v27 fun v28=>
  ldW S 1 false v28 fun v29=>
  lnW S 1 v29 fun v30=>
  biW .lss v5 v30 fun v31=>
  cnW v31 (faW 0 v1 fun v34=>
  ldW S 1 false v34 fun v35=>
  iaW 2 v35 v3 fun v37=>
  faW 1 v37 fun v38=>
  ldW S 1 false v38 fun v39=>
  iaW 6 v39 v5 fun v41=>
  ldW S 6 true v41 fun v42=>
  caW PG S (.func (.func 187) [] []) [v42] (fun v43 S=>
  ntW v43 fun v45=>
  cnW v45 (rtW [.tmp (.bool false)] QF S)
  (biW .add v5 (.int .i64 1) fun v33=>
  rcW r1 [(1,v1),(3,v3),(5,v33)] S)) (pqW QF))
  (biW .add v3 (.int .i64 1) fun v13=>
  rcW r0 [(1,v1),(3,v13)] S)
def C_ref11_May_1 (QF:AEnd→Store→Prop) (r0:LE→Store→Prop) (v1 v3:AV) (S:Store):Prop:=
  faW 0 v1 fun v8=>
  ldW S 1 false v8 fun v9=>
  lnW S 1 v9 fun v10=>
  biW .lss v3 v10 fun v11=>
  cnW v11 (faW 0 v1 fun v14=>
  ldW S 1 false v14 fun v15=>
  iaW 2 v15 v3 fun v17=>
  faW 0 v17 fun v18=>
  ldW S 1 false v18 fun v19=>
  caW PG S (.func (.func 78) [] []) [v19] (fun v20 S=>
  ntW v20 fun v22=>
  cnW v22 (rtW [.tmp (.bool false)] QF S)
  (LoopP (fun r1 l S=>C_ref11_May_2 QF r0 r1 (lget l 1) (lget l 3) (lget l 5) S) [(1,v1),(3,v3),(5,(.int .i64 0))] S)) (pqW QF))
  (rtW [.tmp (.bool true)] QF S)
def B_ref11_May (QF:AEnd→Store→Prop) (v0:AV) (S:Store):Prop:=
  brW 1 v0 fun v1=>
  LoopP (fun r0 l S=>C_ref11_May_1 QF r0 (lget l 1) (lget l 3) S) [(1,v1),(3,(.int .i64 0))] S
theorem w_ref11_May {QF:AEnd→Store→Prop} {v0:AV} {S:Store} (h:B_ref11_May QF v0 S):ACalls PG nr_ref11_May [v0] S QF:=
  acalls_tf (F:=tf_ref11_May) (by kernel_rfl) rfl (by kernel_rfl) h
def tf_ref12_names:TFunc where
  n:=58
  args:=3
  res:=[.tmp 6]
  code:=.seq (.reg [i1 3 (.boxr 24 1 (.t 0)),
    i1 5 (.boxr 53 6 (.t 2)),
    i1 6 (.mov (.c (.int .i64 0)))] [1,3,5] []) (.seq (.seq (.reg [i1 10 (.faddr 1 (.t 5)),
    i1 11 (.load 1 false (.t 10)),
    i1 12 (.len 1 (.t 11)),
    i1 13 (.bin .eql (.t 12) (.c (.int .i64 0)))] [1,3,5,13] []) (.cond (.t 13) (.seq (.reg [i1 14 (.load 1 true (.t 3)),
    i1 15 (.mov (.t 1)),
    i1 16 (.faddr 2 (.t 5)),
    i1 17 (.load 4 true (.t 16)),
    i1 18 (.call (.f 188) [.t 14,.t 15,.t 17]),
    i1 6 (.mov (.t 18))] [6] []) (.ret)) (.skip))) (.seq (.seq (.reg [i1 7 (.mov (.c (.int .i64 0)))] [3,5,7] []) (.block 0 (.loop [3,5,7] (.seq (.seq (.reg [i1 19 (.mov (.t 7)),
    i1 20 (.faddr 1 (.t 5)),
    i1 21 (.load 1 false (.t 20)),
    i1 22 (.len 1 (.t 21)),
    i1 23 (.bin .lss (.t 19) (.t 22))] [3,5,7,23] []) (.cond (.t 23) (.skip) (.exit 0))) (.seq (.block 1 (.seq (.regl [1,3,0,2,4,5,6,7,8] [i1 27 (.faddr 1 (.t 5)),
    i1 29 (.mov (.t 7)),
    i1 26 (.load 1 true (.t 3)),
    i1 28 (.load 1 false (.t 27)),
    i1 30 (.iaddr 2 (.t 28) (.t 29)),
    i1 31 (.faddr 0 (.t 30)),
    i1 32 (.load 1 false (.t 31)),
    i1 33 (.call (.f 66) [.t 26,.t 32]),
    i1 8 (.mov (.t 33))] [3,5,7,8] []) (.seq (.regl [1,2,4,0,3,5,6,7,8,9] [i1 35 (.mov (.t 8)),
    i1 36 (.faddr 1 (.t 5)),
    i1 38 (.mov (.t 7)),
    i1 34 (.load 1 true (.t 3)),
    i1 37 (.load 1 false (.t 36)),
    i1 39 (.iaddr 2 (.t 37) (.t 38)),
    i1 40 (.faddr 1 (.t 39)),
    i1 41 (.load 1 false (.t 40)),
    i1 42 (.call (.f 67) [.t 34,.t 35,.t 41]),
    i1 9 (.mov (.t 42))] [3,5,7,8,9] []) (.seq (.reg [i1 43 (.mov (.t 8)),
    i1 44 (.bin .lss (.t 43) (.c (.int .i64 0))),
    i1 45 (.mov (.t 44)),
    .grp 45 false [s1 46 (.faddr 1 (.t 5)),s1 47 (.load 1 false (.t 46)),s1 48 (.mov (.t 7)),s1 49 (.iaddr 2 (.t 47) (.t 48)),s1 50 (.faddr 1 (.t 49)),s1 51 (.load 1 false (.t 50)),s1 52 (.bin .neq (.t 51) (.c (.str ⟨#[]⟩))),s1 53 (.mov (.t 52))],
    .grp 53 true [s1 54 (.mov (.t 9)),s1 55 (.bin .lss (.t 54) (.c (.int .i64 0)))],
    .grp 45 false [s1 56 (.pick (.t 53) (.t 55) (.c (.bool false)))],
    i1 57 (.pick (.t 45) (.c (.bool true)) (.t 56))] [3,5,7,57] []) (.cond (.t 57) (.seq (.reg [i1 6 (.mov (.c (.int .i64 6)))] [6] []) (.ret)) (.skip)))))) (.reg [i1 24 (.mov (.t 7)),
    i1 25 (.bin .add (.t 24) (.c (.int .i64 1))),
    i1 7 (.mov (.t 25))] [3,5,7] [])))))) (.seq (.reg [i1 6 (.mov (.c (.int .i64 0)))] [6] []) (.ret))))
abbrev nr_ref12_names:Nat:=150
def C_ref12_names_3 (QF:AEnd→Store→Prop) (r0:LE→Store→Prop) (v3 v5 v7 v45 v53 v55:AV) (S:Store):Prop:=
  grW v45 false (pkW v53 v55 (.bool false) fun v56=>
  pkW v45 (.bool true) v56 fun v57=>
  cnW v57 (rtW [.tmp (.int .i64 6)] QF S)
  (biW .add v7 (.int .i64 1) fun v25=>
  rcW r0 [(3,v3),(5,v5),(7,v25)] S))
  (pkW v45 (.bool true) undefA fun v57=>
  cnW v57 (rtW [.tmp (.int .i64 6)] QF S)
  (biW .add v7 (.int .i64 1) fun v25=>
  rcW r0 [(3,v3),(5,v5),(7,v25)] S))
def C_ref12_names_2 (QF:AEnd→Store→Prop) (r0:LE→Store→Prop) (v3 v5 v7 v9 v45 v53:AV) (S:Store):Prop:=
  grW v53 true (biW .lss v9 (.int .i64 0) fun v55=>
  C_ref12_names_3 QF r0 v3 v5 v7 v45 v53 v55 S)
  (C_ref12_names_3 QF r0 v3 v5 v7 v45 v53 undefA S)
def C_ref12_names_1 (QF:AEnd→Store→Prop) (r0:LE→Store→Prop) (v3 v5 v7:AV) (S:Store):Prop:=
  faW 1 v5 fun v20=>
  ldW S 1 false v20 fun v21=>
  lnW S 1 v21 fun v22=>
  biW .lss v7 v22 fun v23=>
  cnW v23 (faW 1 v5 fun v27=>
  ldW S 1 true v3 fun v26=>
  ldW S 1 false v27 fun v28=>
  iaW 2 v28 v7 fun v30=>
  faW 0 v30 fun v31=>
  ldW S 1 false v31 fun v32=>
  caW PG S (.func (.func 66) [] []) [v26,v32] (fun v33 S=>
  faW 1 v5 fun v36=>
  ldW S 1 true v3 fun v34=>
  ldW S 1 false v36 fun v37=>
  iaW 2 v37 v7 fun v39=>
  faW 1 v39 fun v40=>
  ldW S 1 false v40 fun v41=>
  caW PG S (.func (.func 67) [] []) [v34,v33,v41] (fun v42 S=>
  biW .lss v33 (.int .i64 0) fun v44=>
  grW v44 false (faW 1 v5 fun v46=>
  ldW S 1 false v46 fun v47=>
  iaW 2 v47 v7 fun v49=>
  faW 1 v49 fun v50=>
  ldW S 1 false v50 fun v51=>
  biW .neq v51 (.str ⟨#[]⟩) fun v52=>
  C_ref12_names_2 QF r0 v3 v5 v7 v42 v44 v52 S)
  (C_ref12_names_2 QF r0 v3 v5 v7 v42 v44 undefA S)) (pqW QF)) (pqW QF))
  (rtW [.tmp (.int .i64 0)] QF S)
def B_ref12_names (QF:AEnd→Store→Prop) (v0 v1 v2:AV) (S:Store):Prop:=
  brW 1 v0 fun v3=>
  brW 6 v2 fun v5=>
  faW 1 v5 fun v10=>
  ldW S 1 false v10 fun v11=>
  lnW S 1 v11 fun v12=>
  biW .eql v12 (.int .i64 0) fun v13=>
  cnW v13 (ldW S 1 true v3 fun v14=>
  faW 2 v5 fun v16=>
  ldW S 4 true v16 fun v17=>
  caW PG S (.func (.func 188) [] []) [v14,v1,v17] (fun v18 S=>
  rtW [.tmp v18] QF S) (pqW QF))
  (LoopP (fun r0 l S=>C_ref12_names_1 QF r0 (lget l 3) (lget l 5) (lget l 7) S) [(3,v3),(5,v5),(7,(.int .i64 0))] S)
theorem w_ref12_names {QF:AEnd→Store→Prop} {v0 v1 v2:AV} {S:Store} (h:B_ref12_names QF v0 v1 v2 S):ACalls PG nr_ref12_names [v0,v1,v2] S QF:=
  acalls_tf (F:=tf_ref12_names) (by kernel_rfl) rfl (by kernel_rfl) h
def tf_ref14_World_stands:TFunc where
  n:=75
  args:=3
  res:=[.tmp 6]
  code:=.seq (.reg [i1 4 (.boxr 27 2 (.t 1)),
    i1 5 (.boxr 53 6 (.t 2)),
    i1 6 (.mov (.c (.bool false)))] [0,4,5] []) (.seq (.seq (.reg [i1 10 (.faddr 1 (.t 5)),
    i1 11 (.load 1 false (.t 10)),
    i1 12 (.len 1 (.t 11)),
    i1 13 (.bin .eql (.t 12) (.c (.int .i64 0)))] [0,4,5,13] []) (.cond (.t 13) (.seq (.reg [i1 14 (.mov (.t 0)),
    i1 15 (.load 2 true (.t 4)),
    i1 16 (.faddr 2 (.t 5)),
    i1 17 (.load 4 true (.t 16)),
    i1 18 (.call (.f 189) [.t 14,.t 15,.t 17]),
    i1 6 (.mov (.t 18))] [6] []) (.ret)) (.skip))) (.seq (.seq (.reg [i1 7 (.mov (.c (.int .i64 0)))] [0,4,5,7] []) (.block 0 (.loop [0,4,5,7] (.seq (.seq (.reg [i1 19 (.mov (.t 7)),
    i1 20 (.mov (.t 0)),
    i1 21 (.nilck (.t 20)),
    i1 22 (.faddr 1 (.t 21)),
    i1 23 (.load 1 false (.t 22)),
    i1 24 (.len 1 (.t 23)),
    i1 25 (.bin .lss (.t 19) (.t 24))] [0,4,5,7,25] []) (.cond (.t 25) (.skip) (.exit 0))) (.seq (.block 1 (.seq (.reg [i1 28 (.mov (.t 0)),
    i1 29 (.nilck (.t 28)),
    i1 30 (.faddr 1 (.t 29)),
    i1 31 (.load 1 false (.t 30)),
    i1 32 (.mov (.t 7)),
    i1 33 (.iaddr 6 (.t 31) (.t 32)),
    i1 34 (.load 6 true (.t 33)),
    .box2 8 41 [.str ⟨#[]⟩,.str ⟨#[]⟩,.str ⟨#[]⟩,.str ⟨#[]⟩,.str ⟨#[]⟩,.str ⟨#[]⟩] 6 (.t 34)] [0,4,5,7,8] []) (.seq (.seq (.reg [i1 35 (.faddr 0 (.t 8)),
    i1 36 (.load 2 true (.t 35)),
    i1 37 (.load 2 true (.t 4)),
    i1 38 (.eqp true (true,[.str,.str]) (.t 36) (.t 37)),
    i1 39 (.mov (.t 38)),
    .grp 39 false [s1 40 (.faddr 2 (.t 8)),s1 41 (.load 1 false (.t 40)),s1 42 (.faddr 0 (.t 5)),s1 43 (.load 1 false (.t 42)),s1 44 (.bin .neq (.t 41) (.t 43))],
    i1 45 (.pick (.t 39) (.c (.bool true)) (.t 44))] [0,4,5,7,8,45] []) (.cond (.t 45) (.exit 1) (.skip))) (.seq (.seq (.regl [0,1,2,3,4,5,6,8,9,10,7,11,12,13] [i1 46 (.faddr 3 (.t 8)),
    i1 47 (.faddr 2 (.t 46)),
    i1 48 (.load 1 false (.t 47)),
    i1 49 (.bin .eql (.t 48) (.c (.str ⟨#[]⟩))),
    i1 50 (.mov (.t 49)),
    .grp 50 true [s1 51 (.faddr 3 (.t 8)),s1 52 (.faddr 0 (.t 51)),s1 54 (.mov (.t 0)),s1 55 (.nilck (.t 54)),s1 56 (.faddr 3 (.t 55)),s1 53 (.load 2 true (.t 52)),s1 57 (.load 2 true (.t 56)),s1 58 (.eqp false (true,[.str,.str]) (.t 53) (.t 57))],
    i1 59 (.pick (.t 50) (.t 58) (.c (.bool false)))] [0,4,5,7,8,59] []) (.cond (.t 59) (.seq (.reg [i1 6 (.mov (.c (.bool true)))] [6] []) (.ret)) (.skip))) (.seq (.reg [i1 60 (.mov (.t 0)),
    i1 61 (.faddr 3 (.t 8)),
    i1 62 (.faddr 0 (.t 61)),
    i1 63 (.load 2 true (.t 62)),
    i1 64 (.faddr 3 (.t 8)),
    i1 65 (.faddr 2 (.t 64)),
    i1 66 (.load 1 false (.t 65)),
    i1 67 (.call (.f 55) [.t 60,.t 63,.t 66]),
    i1 9 (.mov (.t 67))] [0,4,5,7,8,9] []) (.seq (.reg [i1 68 (.faddr 3 (.t 8)),
    i1 69 (.faddr 2 (.t 68)),
    i1 70 (.load 1 false (.t 69)),
    i1 71 (.bin .neq (.t 70) (.c (.str ⟨#[]⟩))),
    i1 72 (.mov (.t 71)),
    .grp 72 true [s1 73 (.mov (.t 9))],
    i1 74 (.pick (.t 72) (.t 73) (.c (.bool false)))] [0,4,5,7,74] []) (.cond (.t 74) (.seq (.reg [i1 6 (.mov (.c (.bool true)))] [6] []) (.ret)) (.skip)))))))) (.reg [i1 26 (.mov (.t 7)),
    i1 27 (.bin .add (.t 26) (.c (.int .i64 1))),
    i1 7 (.mov (.t 27))] [0,4,5,7] [])))))) (.seq (.reg [i1 6 (.mov (.c (.bool false)))] [6] []) (.ret))))
abbrev nr_ref14_World_stands:Nat:=152
def C_ref14_World_stands_3 (QF:AEnd→Store→Prop) (r0:LE→Store→Prop) (v0 v4 v5 v7 v8 v59:AV) (S:Store):Prop:=
  cnW v59 (rtW [.tmp (.bool true)] QF S)
  (faW 3 v8 fun v61=>
  faW 0 v61 fun v62=>
  ldW S 2 true v62 fun v63=>
  faW 3 v8 fun v64=>
  faW 2 v64 fun v65=>
  ldW S 1 false v65 fun v66=>
  caW PG S (.func (.func 55) [] []) [v0,v63,v66] (fun v67 S=>
  faW 3 v8 fun v68=>
  faW 2 v68 fun v69=>
  ldW S 1 false v69 fun v70=>
  biW .neq v70 (.str ⟨#[]⟩) fun v71=>
  grW v71 true (pkW v71 v67 (.bool false) fun v74=>
  cnW v74 (rtW [.tmp (.bool true)] QF S)
  (biW .add v7 (.int .i64 1) fun v27=>
  rcW r0 [(0,v0),(4,v4),(5,v5),(7,v27)] S))
  (pkW v71 undefA (.bool false) fun v74=>
  cnW v74 (rtW [.tmp (.bool true)] QF S)
  (biW .add v7 (.int .i64 1) fun v27=>
  rcW r0 [(0,v0),(4,v4),(5,v5),(7,v27)] S))) (pqW QF))
def C_ref14_World_stands_2 (QF:AEnd→Store→Prop) (r0:LE→Store→Prop) (v0 v4 v5 v7 v8 v45:AV) (S:Store):Prop:=
  cnW v45 (biW .add v7 (.int .i64 1) fun v27=>
  rcW r0 [(0,v0),(4,v4),(5,v5),(7,v27)] S)
  (faW 3 v8 fun v46=>
  faW 2 v46 fun v47=>
  ldW S 1 false v47 fun v48=>
  biW .eql v48 (.str ⟨#[]⟩) fun v49=>
  grW v49 true (faW 3 v8 fun v51=>
  faW 0 v51 fun v52=>
  nkW v0 fun v55=>
  faW 3 v55 fun v56=>
  ldW S 2 true v52 fun v53=>
  ldW S 2 true v56 fun v57=>
  eqW false (true,[.str,.str]) v53 v57 fun v58=>
  pkW v49 v58 (.bool false) fun v59=>
  C_ref14_World_stands_3 QF r0 v0 v4 v5 v7 v8 v59 S)
  (pkW v49 undefA (.bool false) fun v59=>
  C_ref14_World_stands_3 QF r0 v0 v4 v5 v7 v8 v59 S))
def C_ref14_World_stands_1 (QF:AEnd→Store→Prop) (r0:LE→Store→Prop) (v0 v4 v5 v7:AV) (S:Store):Prop:=
  nkW v0 fun v21=>
  faW 1 v21 fun v22=>
  ldW S 1 false v22 fun v23=>
  lnW S 1 v23 fun v24=>
  biW .lss v7 v24 fun v25=>
  cnW v25 (nkW v0 fun v29=>
  faW 1 v29 fun v30=>
  ldW S 1 false v30 fun v31=>
  iaW 6 v31 v7 fun v33=>
  ldW S 6 true v33 fun v34=>
  bfW 6 v34 fun v8=>
  faW 0 v8 fun v35=>
  ldW S 2 true v35 fun v36=>
  ldW S 2 true v4 fun v37=>
  eqW true (true,[.str,.str]) v36 v37 fun v38=>
  grW v38 false (faW 2 v8 fun v40=>
  ldW S 1 false v40 fun v41=>
  faW 0 v5 fun v42=>
  ldW S 1 false v42 fun v43=>
  biW .neq v41 v43 fun v44=>
  pkW v38 (.bool true) v44 fun v45=>
  C_ref14_World_stands_2 QF r0 v0 v4 v5 v7 v8 v45 S)
  (pkW v38 (.bool true) undefA fun v45=>
  C_ref14_World_stands_2 QF r0 v0 v4 v5 v7 v8 v45 S))
  (rtW [.tmp (.bool false)] QF S)
def B_ref14_World_stands (QF:AEnd→Store→Prop) (v0 v1 v2:AV) (S:Store):Prop:=
  brW 2 v1 fun v4=>
  brW 6 v2 fun v5=>
  faW 1 v5 fun v10=>
  ldW S 1 false v10 fun v11=>
  lnW S 1 v11 fun v12=>
  biW .eql v12 (.int .i64 0) fun v13=>
  cnW v13 (ldW S 2 true v4 fun v15=>
  faW 2 v5 fun v16=>
  ldW S 4 true v16 fun v17=>
  caW PG S (.func (.func 189) [] []) [v0,v15,v17] (fun v18 S=>
  rtW [.tmp v18] QF S) (pqW QF))
  (LoopP (fun r0 l S=>C_ref14_World_stands_1 QF r0 (lget l 0) (lget l 4) (lget l 5) (lget l 7) S) [(0,v0),(4,v4),(5,v5),(7,(.int .i64 0))] S)
theorem w_ref14_World_stands {QF:AEnd→Store→Prop} {v0 v1 v2:AV} {S:Store} (h:B_ref14_World_stands QF v0 v1 v2 S):ACalls PG nr_ref14_World_stands [v0,v1,v2] S QF:=
  acalls_tf (F:=tf_ref14_World_stands) (by kernel_rfl) rfl (by kernel_rfl) h
end Go.HL
