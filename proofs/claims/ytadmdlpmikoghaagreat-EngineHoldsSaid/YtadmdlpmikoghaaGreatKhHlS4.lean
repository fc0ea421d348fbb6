/- A part of a proof. -/
import Derived.Test.YtadmdlpmikoghaaGreatKhHlP
set_option maxRecDepth 100000
set_option linter.unusedVariables false
namespace Go.HL
def tf_ref14_All:TFunc where
  n:=90
  args:=4
  res:=[.tmp 8,.tmp 9]
  code:=.seq (.reg [i1 4 (.boxr 24 1 (.t 0)),
    i1 6 (.boxr 27 2 (.t 2)),
    i1 7 (.boxr 27 2 (.t 3)),
    i1 8 (.mov (.c (.nilp))),
    i1 9 (.mov (.c (.bool false)))] [1,4,6,7] []) (.seq (.reg [i1 18 (.load 1 true (.t 4)),
    i1 19 (.call (.f 27) [.t 18]),
    i1 17 (.mov (.t 19)),
    i1 20 (.extr (.t 17) 0),
    i1 21 (.extr (.t 17) 1),
    i1 10 (.mov (.t 20)),
    i1 11 (.mov (.t 21))] [1,4,6,7,10,11] []) (.seq (.seq (.reg [i1 22 (.mov (.t 11)),
    i1 23 (.not (.t 22))] [1,4,6,7,10,23] []) (.cond (.t 23) (.seq (.reg [i1 8 (.mov (.c (.nilp))),
    i1 9 (.mov (.c (.bool false)))] [8,9] []) (.ret)) (.skip))) (.seq (.regd [s1 24 (.load 1 true (.t 4)),s1 25 (.load 1 true (.t 4)),s1 26 (.mov (.t 1)),{ d:=some 27,o:=.call (.f 29) [.t 25,.t 26],x:=[4,6,7] },s1 28 (.load 2 true (.t 7)),s1 29 (.load 2 true (.t 6)),s1 30 (.bslice 27 2 [.t 29]),s1 31 (.build [.nils,.nils,.nils,.str ⟨#[]⟩,.str ⟨#[]⟩,.nils] [(0,1,.t 24),(1,1,.t 27),(3,2,.t 28),(2,1,.t 30)]),s1 32 (.box 178 6 (.t 31)),s1 12 (.mov (.t 32))] (.go 2 (.go 0 (.go 1 (.go 4 (.go 5 (.alt 3 (.go 6 (.go 7 (.go 8 (.go 9 .done)))) (.go 6 (.go 3 (.go 7 (.go 8 (.go 9 .done))))))))))) [10,12] []) (.seq (.seq (.reg [i1 13 (.mov (.c (.int .i64 0)))] [10,12,13] []) (.block 0 (.loop [10,12,13] (.seq (.seq (.reg [i1 33 (.mov (.t 13)),
    i1 34 (.mov (.t 12)),
    i1 35 (.nilck (.t 34)),
    i1 36 (.faddr 1 (.t 35)),
    i1 37 (.load 1 false (.t 36)),
    i1 38 (.len 1 (.t 37)),
    i1 39 (.bin .lss (.t 33) (.t 38))] [10,12,13,39] []) (.cond (.t 39) (.skip) (.exit 0))) (.seq (.block 1 (.seq (.regl [0,1,2,3,5,6,7,9,4,8,10,11,12,13,14,15,16] [i1 42 (.mov (.t 12)),
    i1 43 (.mov (.t 12)),
    i1 44 (.nilck (.t 43)),
    i1 45 (.faddr 2 (.t 44)),
    i1 47 (.mov (.t 12)),
    i1 48 (.nilck (.t 47)),
    i1 49 (.faddr 1 (.t 48)),
    i1 51 (.mov (.t 13)),
    i1 46 (.load 1 false (.t 45)),
    i1 50 (.load 1 false (.t 49)),
    i1 52 (.iaddr 6 (.t 50) (.t 51)),
    i1 53 (.faddr 0 (.t 52)),
    i1 54 (.load 2 true (.t 53)),
    i1 55 (.call (.f 106) [.t 46,.t 54]),
    i1 56 (.nilck (.t 42)),
    i1 57 (.faddr 2 (.t 56)),
    i0 (.store 1 (.t 57) (.t 55))] [10,12,13] []) (.regl [0,1,2,3,5,6,7,9,4,8,10,11,12,13,14,15,16,17] [i1 58 (.mov (.t 12)),
    i1 59 (.mov (.t 12)),
    i1 60 (.nilck (.t 59)),
    i1 61 (.faddr 2 (.t 60)),
    i1 63 (.mov (.t 12)),
    i1 64 (.nilck (.t 63)),
    i1 65 (.faddr 1 (.t 64)),
    i1 67 (.mov (.t 13)),
    i1 62 (.load 1 false (.t 61)),
    i1 66 (.load 1 false (.t 65)),
    i1 68 (.iaddr 6 (.t 66) (.t 67)),
    i1 69 (.faddr 3 (.t 68)),
    i1 70 (.faddr 0 (.t 69)),
    i1 71 (.load 2 true (.t 70)),
    i1 72 (.call (.f 106) [.t 62,.t 71]),
    i1 73 (.nilck (.t 58)),
    i1 74 (.faddr 2 (.t 73)),
    i0 (.store 1 (.t 74) (.t 72))] [10,12,13] []))) (.reg [i1 40 (.mov (.t 13)),
    i1 41 (.bin .add (.t 40) (.c (.int .i64 1))),
    i1 13 (.mov (.t 41))] [10,12,13] [])))))) (.seq (.seq (.reg [i1 14 (.mov (.c (.int .i64 0)))] [10,12,14] []) (.block 2 (.loop [10,12,14] (.seq (.seq (.reg [i1 75 (.mov (.t 14)),
    i1 76 (.bin .lss (.t 75) (.c (.int .i64 300)))] [10,12,14,76] []) (.cond (.t 76) (.skip) (.exit 2))) (.seq (.block 3 (.seq (.reg [i1 15 (.mov (.c (.int .i64 0)))] [10,12,14,15] []) (.block 4 (.loop [10,12,14,15] (.seq (.seq (.reg [i1 79 (.mov (.t 15)),
    i1 80 (.bin .lss (.t 79) (.c (.int .i64 1000000)))] [10,12,14,15,80] []) (.cond (.t 80) (.skip) (.exit 4))) (.seq (.block 5 (.seq (.reg [i1 83 (.mov (.t 12)),
    i1 84 (.mov (.t 10)),
    i1 85 (.mov (.t 14)),
    i1 86 (.call (.f 107) [.t 83,.t 84,.t 85]),
    i1 16 (.mov (.t 86))] [10,12,14,15,16] []) (.seq (.reg [i1 87 (.mov (.t 16)),
    i1 88 (.not (.t 87))] [10,12,14,15,88] []) (.cond (.t 88) (.exit 4) (.skip))))) (.reg [i1 81 (.mov (.t 15)),
    i1 82 (.bin .add (.t 81) (.c (.int .i64 1))),
    i1 15 (.mov (.t 82))] [10,12,14,15] []))))))) (.reg [i1 77 (.mov (.t 14)),
    i1 78 (.bin .add (.t 77) (.c (.int .i64 1))),
    i1 14 (.mov (.t 78))] [10,12,14] [])))))) (.seq (.reg [i1 89 (.mov (.t 12)),
    i1 8 (.mov (.t 89)),
    i1 9 (.mov (.c (.bool true)))] [8,9] []) (.ret)))))))
abbrev nr_ref14_All:Nat:=54
def C_ref14_All_4 (QF:AEnd→Store→Prop) (r0:LE→Store→Prop) (r1:LE→Store→Prop) (v10 v12 v14 v15:AV) (S:Store):Prop:=
  biW .lss v15 (.int .i64 1000000) fun v80=>
  cnW v80 (caW PG S (.func (.func 107) [] []) [v12,v10,v14] (fun v86 S=>
  ntW v86 fun v88=>
  cnW v88 (biW .add v14 (.int .i64 1) fun v78=>
  rcW r0 [(10,v10),(12,v12),(14,v78)] S)
  (biW .add v15 (.int .i64 1) fun v82=>
  rcW r1 [(10,v10),(12,v12),(14,v14),(15,v82)] S)) (pqW QF))
  (biW .add v14 (.int .i64 1) fun v78=>
  rcW r0 [(10,v10),(12,v12),(14,v78)] S)
def C_ref14_All_3 (QF:AEnd→Store→Prop) (r0:LE→Store→Prop) (v10 v12 v14:AV) (S:Store):Prop:=
  biW .lss v14 (.int .i64 300) fun v76=>
  cnW v76 (LoopP (fun r1 l S=>C_ref14_All_4 QF r0 r1 (lget l 10) (lget l 12) (lget l 14) (lget l 15) S) [(10,v10),(12,v12),(14,v14),(15,(.int .i64 0))] S)
  (rtW [.tmp v12,.tmp (.bool true)] QF S)
def C_ref14_All_2 (QF:AEnd→Store→Prop) (r0:LE→Store→Prop) (v10 v12 v13:AV) (S:Store):Prop:=
  nkW v12 fun v35=>
  faW 1 v35 fun v36=>
  ldW S 1 false v36 fun v37=>
  lnW S 1 v37 fun v38=>
  biW .lss v13 v38 fun v39=>
  cnW v39 (nkW v12 fun v44=>
  faW 2 v44 fun v45=>
  nkW v12 fun v48=>
  faW 1 v48 fun v49=>
  ldW S 1 false v45 fun v46=>
  ldW S 1 false v49 fun v50=>
  iaW 6 v50 v13 fun v52=>
  faW 0 v52 fun v53=>
  ldW S 2 true v53 fun v54=>
  caW PG S (.func (.func 106) [] []) [v46,v54] (fun v55 S=>
  nkW v12 fun v56=>
  faW 2 v56 fun v57=>
  stW S 1 v57 v55 fun S=>
  nkW v12 fun v60=>
  faW 2 v60 fun v61=>
  nkW v12 fun v64=>
  faW 1 v64 fun v65=>
  ldW S 1 false v61 fun v62=>
  ldW S 1 false v65 fun v66=>
  iaW 6 v66 v13 fun v68=>
  faW 3 v68 fun v69=>
  faW 0 v69 fun v70=>
  ldW S 2 true v70 fun v71=>
  caW PG S (.func (.func 106) [] []) [v62,v71] (fun v72 S=>
  nkW v12 fun v73=>
  faW 2 v73 fun v74=>
  stW S 1 v74 v72 fun S=>
  biW .add v13 (.int .i64 1) fun v41=>
  rcW r0 [(10,v10),(12,v12),(13,v41)] S) (pqW QF)) (pqW QF))
  (LoopP (fun r0 l S=>C_ref14_All_3 QF r0 (lget l 10) (lget l 12) (lget l 14) S) [(10,v10),(12,v12),(14,(.int .i64 0))] S)
def C_ref14_All_1 (QF:AEnd→Store→Prop) (v10 v12:AV) (S:Store):Prop:=
  LoopP (fun r0 l S=>C_ref14_All_2 QF r0 (lget l 10) (lget l 12) (lget l 13) S) [(10,v10),(12,v12),(13,(.int .i64 0))] S
def B_ref14_All (QF:AEnd→Store→Prop) (v0 v1 v2 v3:AV) (S:Store):Prop:=
  brW 1 v0 fun v4=>
  brW 2 v2 fun v6=>
  brW 2 v3 fun v7=>
  ldW S 1 true v4 fun v18=>
  caW PG S (.func (.func 27) [] []) [v18] (fun v19 S=>
  exW 0 v19 fun v20=>
  exW 1 v19 fun v21=>
  ntW v21 fun v23=>
  cnW v23 (rtW [.tmp (.nilp),.tmp (.bool false)] QF S)
  (ldW S 1 true v4 fun v24=>
  ldW S 1 true v4 fun v25=>
  ldW S 2 true v7 fun v28=>
  ldW S 2 true v6 fun v29=>
  (caW PG S (.func (.func 29) [] []) [v25,v1] (fun v27 S1=>
  kpW [v4,v6,v7] S S1 (
  bsW S1 27 2 [v29] fun v30 S=>
  bdW [.nils,.nils,.nils,.str ⟨#[]⟩,.str ⟨#[]⟩,.nils] [(0,1,v24),(1,1,v27),(3,2,v28),(2,1,v30)] fun v31=>
  bxW S 178 6 v31 fun v32 S=>
  C_ref14_All_1 QF v20 v32 S)) (pqW QF))∧(bsW S 27 2 [v29] fun v30 S=>
  caW PG S (.func (.func 29) [] []) [v25,v1] (fun v27 S2=>
  kpW [v4,v6,v7] S S2 (
  bdW [.nils,.nils,.nils,.str ⟨#[]⟩,.str ⟨#[]⟩,.nils] [(0,1,v24),(1,1,v27),(3,2,v28),(2,1,v30)] fun v31=>
  bxW S2 178 6 v31 fun v32 S=>
  C_ref14_All_1 QF v20 v32 S)) (pqW QF)))) (pqW QF)
theorem w_ref14_All {QF:AEnd→Store→Prop} {v0 v1 v2 v3:AV} {S:Store} (h:B_ref14_All QF v0 v1 v2 v3 S):ACalls PG nr_ref14_All [v0,v1,v2,v3] S QF:=
  acalls_tf (F:=tf_ref14_All) (by kernel_rfl) rfl (by kernel_rfl) h
def tf_ref14_World_known:TFunc where
  n:=39
  args:=3
  res:=[.tmp 6]
  code:=.seq (.reg [i1 4 (.boxr 27 2 (.t 1)),
    i1 6 (.mov (.c (.bool false)))] [0,2,4] []) (.seq (.seq (.reg [i1 7 (.mov (.c (.int .i64 0)))] [0,2,4,7] []) (.block 0 (.loop [0,2,4,7] (.seq (.seq (.reg [i1 8 (.mov (.t 7)),
    i1 9 (.mov (.t 0)),
    i1 10 (.nilck (.t 9)),
    i1 11 (.faddr 5 (.t 10)),
    i1 12 (.load 1 false (.t 11)),
    i1 13 (.len 1 (.t 12)),
    i1 14 (.bin .lss (.t 8) (.t 13))] [0,2,4,7,14] []) (.cond (.t 14) (.skip) (.exit 0))) (.seq (.block 1 (.seq (.regl [0,1,2,4,3,5,6,7,8,9,10,11,12,13,15,19,14,16,17,18,20,21] [i1 17 (.mov (.t 0)),
    i1 18 (.nilck (.t 17)),
    i1 19 (.faddr 5 (.t 18)),
    i1 21 (.mov (.t 7)),
    i1 20 (.load 1 false (.t 19)),
    i1 22 (.iaddr 3 (.t 20) (.t 21)),
    i1 23 (.faddr 0 (.t 22)),
    i1 24 (.load 2 true (.t 23)),
    i1 25 (.load 2 true (.t 4)),
    i1 26 (.eqp false (true,[.str,.str]) (.t 24) (.t 25)),
    i1 27 (.mov (.t 26)),
    .grp 27 true [s1 28 (.mov (.t 0)),s1 29 (.nilck (.t 28)),s1 30 (.faddr 5 (.t 29)),s1 32 (.mov (.t 7)),s1 36 (.mov (.t 2)),s1 31 (.load 1 false (.t 30)),s1 33 (.iaddr 3 (.t 31) (.t 32)),s1 34 (.faddr 2 (.t 33)),s1 35 (.load 1 false (.t 34)),s1 37 (.bin .eql (.t 35) (.t 36))],
    i1 38 (.pick (.t 27) (.t 37) (.c (.bool false)))] [0,2,4,7,38] []) (.cond (.t 38) (.seq (.reg [i1 6 (.mov (.c (.bool true)))] [6] []) (.ret)) (.skip)))) (.reg [i1 15 (.mov (.t 7)),
    i1 16 (.bin .add (.t 15) (.c (.int .i64 1))),
    i1 7 (.mov (.t 16))] [0,2,4,7] [])))))) (.seq (.reg [i1 6 (.mov (.c (.bool false)))] [6] []) (.ret)))
abbrev nr_ref14_World_known:Nat:=55
def C_ref14_World_known_1 (QF:AEnd→Store→Prop) (r0:LE→Store→Prop) (v0 v2 v4 v7:AV) (S:Store):Prop:=
  nkW v0 fun v10=>
  faW 5 v10 fun v11=>
  ldW S 1 false v11 fun v12=>
  lnW S 1 v12 fun v13=>
  biW .lss v7 v13 fun v14=>
  cnW v14 (nkW v0 fun v18=>
  faW 5 v18 fun v19=>
  ldW S 1 false v19 fun v20=>
  iaW 3 v20 v7 fun v22=>
  faW 0 v22 fun v23=>
  ldW S 2 true v23 fun v24=>
  ldW S 2 true v4 fun v25=>
  eqW false (true,[.str,.str]) v24 v25 fun v26=>
  grW v26 true (nkW v0 fun v29=>
  faW 5 v29 fun v30=>
  ldW S 1 false v30 fun v31=>
  iaW 3 v31 v7 fun v33=>
  faW 2 v33 fun v34=>
  ldW S 1 false v34 fun v35=>
  biW .eql v35 v2 fun v37=>
  pkW v26 v37 (.bool false) fun v38=>
  cnW v38 (rtW [.tmp (.bool true)] QF S)
  (biW .add v7 (.int .i64 1) fun v16=>
  rcW r0 [(0,v0),(2,v2),(4,v4),(7,v16)] S))
  (pkW v26 undefA (.bool false) fun v38=>
  cnW v38 (rtW [.tmp (.bool true)] QF S)
  (biW .add v7 (.int .i64 1) fun v16=>
  rcW r0 [(0,v0),(2,v2),(4,v4),(7,v16)] S)))
  (rtW [.tmp (.bool false)] QF S)
def B_ref14_World_known (QF:AEnd→Store→Prop) (v0 v1 v2:AV) (S:Store):Prop:=
  brW 2 v1 fun v4=>
  LoopP (fun r0 l S=>C_ref14_World_known_1 QF r0 (lget l 0) (lget l 2) (lget l 4) (lget l 7) S) [(0,v0),(2,v2),(4,v4),(7,(.int .i64 0))] S
theorem w_ref14_World_known {QF:AEnd→Store→Prop} {v0 v1 v2:AV} {S:Store} (h:B_ref14_World_known QF v0 v1 v2 S):ACalls PG nr_ref14_World_known [v0,v1,v2] S QF:=
  acalls_tf (F:=tf_ref14_World_known) (by kernel_rfl) rfl (by kernel_rfl) h
def tf_ref12_levels:TFunc where
  n:=39
  args:=1
  res:=[.tmp 2]
  code:=.seq (.reg [i1 1 (.boxr 24 1 (.t 0)),
    i1 2 (.mov (.c (.nils)))] [1] []) (.seq (.reg [i1 3 (.mov (.c (.nils)))] [1,3] []) (.seq (.seq (.reg [i1 4 (.mov (.c (.int .i64 0)))] [1,3,4] []) (.block 0 (.loop [1,3,4] (.seq (.seq (.reg [i1 8 (.mov (.t 4)),
    i1 9 (.faddr 0 (.t 1)),
    i1 10 (.load 1 false (.t 9)),
    i1 11 (.len 1 (.t 10)),
    i1 12 (.bin .lss (.t 8) (.t 11))] [1,3,4,12] []) (.cond (.t 12) (.skip) (.exit 0))) (.seq (.block 1 (.reg [i1 15 (.mov (.t 3)),
    i1 16 (.faddr 0 (.t 1)),
    i1 17 (.load 1 false (.t 16)),
    i1 18 (.mov (.t 4)),
    i1 19 (.iaddr 2 (.t 17) (.t 18)),
    i1 20 (.faddr 1 (.t 19)),
    i1 21 (.load 1 false (.t 20)),
    i1 22 (.len 1 (.t 21)),
    i1 23 (.mkslice 3 8 (.int .i64 0) (.t 22) (.t 22)),
    i1 24 (.bslicr 174 1 [.t 23]),
    i1 25 (.app 174 1 24 (.t 15) (.t 24)),
    i1 3 (.mov (.t 25))] [1,3,4] [])) (.reg [i1 13 (.mov (.t 4)),
    i1 14 (.bin .add (.t 13) (.c (.int .i64 1))),
    i1 4 (.mov (.t 14))] [1,3,4] [])))))) (.seq (.reg [i1 26 (.load 1 true (.t 1)),
    i1 27 (.call (.f 118) [.t 26]),
    i1 5 (.mov (.t 27))] [3,5] []) (.seq (.seq (.reg [i1 6 (.mov (.c (.int .i64 0)))] [3,5,6] []) (.block 2 (.loop [3,5,6] (.seq (.seq (.reg [i1 28 (.mov (.t 6)),
    i1 29 (.bin .lss (.t 28) (.c (.int .i64 70000)))] [3,5,6,29] []) (.cond (.t 29) (.skip) (.exit 2))) (.seq (.block 3 (.seq (.reg [i1 32 (.mov (.t 5)),
    i1 33 (.mov (.t 3)),
    i1 34 (.call (.f 119) [.t 32,.t 33]),
    i1 7 (.mov (.t 34))] [3,5,6,7] []) (.seq (.reg [i1 35 (.mov (.t 7)),
    i1 36 (.not (.t 35))] [3,5,6,36] []) (.cond (.t 36) (.seq (.reg [i1 37 (.mov (.t 3)),
    i1 2 (.mov (.t 37))] [2] []) (.ret)) (.skip))))) (.reg [i1 30 (.mov (.t 6)),
    i1 31 (.bin .add (.t 30) (.c (.int .i64 1))),
    i1 6 (.mov (.t 31))] [3,5,6] [])))))) (.seq (.reg [i1 38 (.mov (.t 3)),
    i1 2 (.mov (.t 38))] [2] []) (.ret))))))
abbrev nr_ref12_levels:Nat:=65
def C_ref12_levels_2 (QF:AEnd→Store→Prop) (r0:LE→Store→Prop) (v3 v5 v6:AV) (S:Store):Prop:=
  biW .lss v6 (.int .i64 70000) fun v29=>
  cnW v29 (caW PG S (.func (.func 119) [] []) [v5,v3] (fun v34 S=>
  ntW v34 fun v36=>
  cnW v36 (rtW [.tmp v3] QF S)
  (biW .add v6 (.int .i64 1) fun v31=>
  rcW r0 [(3,v3),(5,v5),(6,v31)] S)) (pqW QF))
  (rtW [.tmp v3] QF S)
def C_ref12_levels_1 (QF:AEnd→Store→Prop) (r0:LE→Store→Prop) (v1 v3 v4:AV) (S:Store):Prop:=
  faW 0 v1 fun v9=>
  ldW S 1 false v9 fun v10=>
  lnW S 1 v10 fun v11=>
  biW .lss v4 v11 fun v12=>
  cnW v12 (faW 0 v1 fun v16=>
  ldW S 1 false v16 fun v17=>
  iaW 2 v17 v4 fun v19=>
  faW 1 v19 fun v20=>
  ldW S 1 false v20 fun v21=>
  lnW S 1 v21 fun v22=>
  msW S 3 8 (.int .i64 0) v22 v22 fun v23 S=>
  srW 1 [v23] fun v24=>
  apW S 174 1 24 v3 v24 fun v25 S=>
  biW .add v4 (.int .i64 1) fun v14=>
  rcW r0 [(1,v1),(3,v25),(4,v14)] S)
  (ldW S 1 true v1 fun v26=>
  caW PG S (.func (.func 118) [] []) [v26] (fun v27 S=>
  LoopP (fun r0 l S=>C_ref12_levels_2 QF r0 (lget l 3) (lget l 5) (lget l 6) S) [(3,v3),(5,v27),(6,(.int .i64 0))] S) (pqW QF))
def B_ref12_levels (QF:AEnd→Store→Prop) (v0:AV) (S:Store):Prop:=
  brW 1 v0 fun v1=>
  LoopP (fun r0 l S=>C_ref12_levels_1 QF r0 (lget l 1) (lget l 3) (lget l 4) S) [(1,v1),(3,(.nils)),(4,(.int .i64 0))] S
theorem w_ref12_levels {QF:AEnd→Store→Prop} {v0:AV} {S:Store} (h:B_ref12_levels QF v0 S):ACalls PG nr_ref12_levels [v0] S QF:=
  acalls_tf (F:=tf_ref12_levels) (by kernel_rfl) rfl (by kernel_rfl) h
def tf_ref12_typ:TFunc where
  n:=22
  args:=2
  res:=[.tmp 4]
  code:=.seq (.reg [i1 2 (.boxr 24 1 (.t 0)),
    i1 4 (.mov (.c (.int .i64 0)))] [1,2] []) (.seq (.seq (.reg [i1 5 (.mov (.c (.int .i64 0)))] [1,2,5] []) (.block 0 (.loop [1,2,5] (.seq (.seq (.reg [i1 6 (.mov (.t 5)),
    i1 7 (.faddr 0 (.t 2)),
    i1 8 (.load 1 false (.t 7)),
    i1 9 (.len 1 (.t 8)),
    i1 10 (.bin .lss (.t 6) (.t 9))] [1,2,5,10] []) (.cond (.t 10) (.skip) (.exit 0))) (.seq (.block 1 (.seq (.reg [i1 13 (.faddr 0 (.t 2)),
    i1 14 (.load 1 false (.t 13)),
    i1 15 (.mov (.t 5)),
    i1 16 (.iaddr 2 (.t 14) (.t 15)),
    i1 17 (.faddr 0 (.t 16)),
    i1 18 (.load 1 false (.t 17)),
    i1 19 (.mov (.t 1)),
    i1 20 (.bin .eql (.t 18) (.t 19))] [1,2,5,20] []) (.cond (.t 20) (.seq (.reg [i1 21 (.mov (.t 5)),
    i1 4 (.mov (.t 21))] [4] []) (.ret)) (.skip)))) (.reg [i1 11 (.mov (.t 5)),
    i1 12 (.bin .add (.t 11) (.c (.int .i64 1))),
    i1 5 (.mov (.t 12))] [1,2,5] [])))))) (.seq (.reg [i1 4 (.mov (.c (.int .i64 (-1))))] [4] []) (.ret)))
abbrev nr_ref12_typ:Nat:=66
def C_ref12_typ_1 (QF:AEnd→Store→Prop) (r0:LE→Store→Prop) (v1 v2 v5:AV) (S:Store):Prop:=
  faW 0 v2 fun v7=>
  ldW S 1 false v7 fun v8=>
  lnW S 1 v8 fun v9=>
  biW .lss v5 v9 fun v10=>
  cnW v10 (faW 0 v2 fun v13=>
  ldW S 1 false v13 fun v14=>
  iaW 2 v14 v5 fun v16=>
  faW 0 v16 fun v17=>
  ldW S 1 false v17 fun v18=>
  biW .eql v18 v1 fun v20=>
  cnW v20 (rtW [.tmp v5] QF S)
  (biW .add v5 (.int .i64 1) fun v12=>
  rcW r0 [(1,v1),(2,v2),(5,v12)] S))
  (rtW [.tmp (.int .i64 (-1))] QF S)
def B_ref12_typ (QF:AEnd→Store→Prop) (v0 v1:AV) (S:Store):Prop:=
  brW 1 v0 fun v2=>
  LoopP (fun r0 l S=>C_ref12_typ_1 QF r0 (lget l 1) (lget l 2) (lget l 5) S) [(1,v1),(2,v2),(5,(.int .i64 0))] S
theorem w_ref12_typ {QF:AEnd→Store→Prop} {v0 v1:AV} {S:Store} (h:B_ref12_typ QF v0 v1 S):ACalls PG nr_ref12_typ [v0,v1] S QF:=
  acalls_tf (F:=tf_ref12_typ) (by kernel_rfl) rfl (by kernel_rfl) h
end Go.HL
