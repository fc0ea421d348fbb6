/- A part of a proof. -/
import Derived.Test.YtadmdlpmikoghaaGreatKcHlP
set_option maxRecDepth 100000
set_option linter.unusedVariables false
namespace Go.HL
def tf_ref15_Search_ask:TFunc where
  n:=117
  args:=3
  res:=[.tmp 6]
  code:=.seq (.reg [i1 4 (.boxr 27 2 (.t 1)),
    i1 6 (.mov (.c (.bool false)))] [0,2,4] []) (.seq (.regl [0,1,2,4,6,3,5,7,8,9,10,11,12,13] [i1 13 (.mov (.t 0)),
    i1 14 (.nilck (.t 13)),
    i1 15 (.faddr 0 (.t 14)),
    i1 17 (.faddr 0 (.t 4)),
    i1 19 (.mov (.t 2)),
    i1 16 (.load 1 true (.t 15)),
    i1 18 (.load 1 false (.t 17)),
    i1 20 (.call (.f 28) [.t 16,.t 18,.t 19]),
    i1 12 (.mov (.t 20)),
    i1 21 (.extr (.t 12) 0),
    i1 22 (.extr (.t 12) 1),
    i1 7 (.alloc 53 [.str ⟨#[]⟩,.nils,.int .i64 0,.str ⟨#[]⟩,.str ⟨#[]⟩,.nils]),
    i0 (.store 6 (.t 7) (.t 21)),
    i1 8 (.mov (.t 22))] [0,2,4,7,8] [7]) (.seq (.seq (.reg [i1 23 (.mov (.t 0)),
    i1 24 (.nilck (.t 23)),
    i1 25 (.faddr 7 (.t 24)),
    i1 26 (.load 1 false (.t 25)),
    i1 27 (.mov (.t 26)),
    .grp 27 false [s1 28 (.mov (.t 8)),s1 29 (.not (.t 28))],
    i1 30 (.pick (.t 27) (.c (.bool true)) (.t 29))] [0,2,4,7,30] []) (.cond (.t 30) (.seq (.reg [i1 6 (.mov (.c (.bool false)))] [6] []) (.ret)) (.skip))) (.seq (.reg [i1 31 (.mov (.t 0)),
    i1 32 (.nilck (.t 31)),
    i1 33 (.faddr 5 (.t 32)),
    i1 34 (.load 1 false (.t 33)),
    i1 35 (.bin .add (.t 34) (.c (.int .i64 1))),
    i1 36 (.nilck (.t 31)),
    i1 37 (.faddr 5 (.t 36)),
    i0 (.store 1 (.t 37) (.t 35))] [0,2,4,7] []) (.seq (.seq (.regl [0,1,2,4,5,6,3,7,8,9,10,11,12,13,14,15,16] [i1 38 (.mov (.t 0)),
    i1 39 (.nilck (.t 38)),
    i1 40 (.faddr 5 (.t 39)),
    i1 42 (.mov (.t 0)),
    i1 43 (.nilck (.t 42)),
    i1 44 (.faddr 4 (.t 43)),
    i1 41 (.load 1 false (.t 40)),
    i1 45 (.load 1 false (.t 44)),
    i1 46 (.bin .gtr (.t 41) (.t 45)),
    i1 47 (.mov (.t 46)),
    .grp 47 false [s1 48 (.mov (.t 0)),s1 49 (.nilck (.t 48)),s1 50 (.faddr 6 (.t 49)),s1 51 (.load 1 false (.t 50)),s1 52 (.len 1 (.t 51)),s1 53 (.bin .geq (.t 52) (.c (.int .i64 50)))],
    i1 54 (.pick (.t 47) (.c (.bool true)) (.t 53))] [0,2,4,7,54] []) (.cond (.t 54) (.seq (.reg [i1 55 (.mov (.t 0)),
    i1 56 (.nilck (.t 55)),
    i1 57 (.faddr 7 (.t 56)),
    i0 (.store 1 (.t 57) (.c (.bool true)))] [] []) (.seq (.reg [i1 6 (.mov (.c (.bool false)))] [6] []) (.ret))) (.skip))) (.seq (.reg [i1 58 (.load 2 true (.t 4)),
    i1 59 (.mov (.t 2)),
    i1 60 (.build [.str ⟨#[]⟩,.str ⟨#[]⟩,.str ⟨#[]⟩] [(0,2,.t 58),(2,1,.t 59)]),
    .box2 9 175 [.str ⟨#[]⟩,.str ⟨#[]⟩,.str ⟨#[]⟩] 3 (.t 60)] [0,2,4,7,9] []) (.seq (.seq (.reg [i1 10 (.mov (.c (.int .i64 0)))] [0,2,4,7,9,10] []) (.block 0 (.loop [0,2,4,7,9,10] (.seq (.seq (.reg [i1 61 (.mov (.t 10)),
    i1 62 (.mov (.t 0)),
    i1 63 (.nilck (.t 62)),
    i1 64 (.faddr 6 (.t 63)),
    i1 65 (.load 1 false (.t 64)),
    i1 66 (.len 1 (.t 65)),
    i1 67 (.bin .lss (.t 61) (.t 66))] [0,2,4,7,9,10,67] []) (.cond (.t 67) (.skip) (.exit 0))) (.seq (.block 1 (.seq (.regl [0,1,2,4,3,5,6,7,8] [i1 70 (.mov (.t 0)),
    i1 71 (.nilck (.t 70)),
    i1 72 (.faddr 6 (.t 71)),
    i1 74 (.mov (.t 10)),
    i1 73 (.load 1 false (.t 72)),
    i1 75 (.iaddr 3 (.t 73) (.t 74)),
    i1 76 (.load 3 true (.t 75)),
    i1 77 (.load 3 true (.t 9)),
    i1 78 (.eqp false (true,[.str,.str,.str]) (.t 76) (.t 77))] [0,2,4,7,9,10,78] []) (.cond (.t 78) (.seq (.reg [i1 6 (.mov (.c (.bool false)))] [6] []) (.ret)) (.skip)))) (.reg [i1 68 (.mov (.t 10)),
    i1 69 (.bin .add (.t 68) (.c (.int .i64 1))),
    i1 10 (.mov (.t 69))] [0,2,4,7,9,10] [])))))) (.seq (.regl [0,1,2,3,4,5,6,7,8,9,10] [i1 79 (.mov (.t 0)),
    i1 80 (.mov (.t 0)),
    i1 81 (.nilck (.t 80)),
    i1 82 (.faddr 6 (.t 81)),
    i1 83 (.load 1 false (.t 82)),
    i1 84 (.load 3 true (.t 9)),
    i1 85 (.bslicr 175 3 [.t 84]),
    i1 86 (.app 175 3 48 (.t 83) (.t 85)),
    i1 87 (.nilck (.t 79)),
    i1 88 (.faddr 6 (.t 87)),
    i0 (.store 1 (.t 88) (.t 86))] [0,2,4,7] []) (.seq (.reg [i1 11 (.mov (.c (.bool false)))] [0,2,4,7] []) (.seq (.seq (.reg [i1 89 (.faddr 1 (.t 7)),
    i1 90 (.load 1 false (.t 89)),
    i1 91 (.len 1 (.t 90)),
    i1 92 (.bin .gtr (.t 91) (.c (.int .i64 0)))] [0,2,4,7,92] []) (.cond (.t 92) (.reg [i1 93 (.mov (.t 0)),
    i1 94 (.load 2 true (.t 4)),
    i1 95 (.mov (.t 2)),
    i1 96 (.call (.f 104) [.t 93,.t 94,.t 95]),
    i1 11 (.mov (.t 96))] [0,11] []) (.reg [i1 97 (.mov (.t 0)),
    i1 98 (.load 2 true (.t 4)),
    i1 99 (.faddr 2 (.t 7)),
    i1 100 (.load 4 true (.t 99)),
    i1 101 (.call (.f 105) [.t 97,.t 98,.t 100]),
    i1 11 (.mov (.t 101))] [0,11] []))) (.seq (.regl [0,1,2,3,5,6,7,4,8,9,10,11,12,13,14] [i1 102 (.mov (.t 0)),
    i1 103 (.mov (.t 0)),
    i1 104 (.nilck (.t 103)),
    i1 105 (.faddr 6 (.t 104)),
    i1 107 (.mov (.t 0)),
    i1 108 (.nilck (.t 107)),
    i1 109 (.faddr 6 (.t 108)),
    i1 106 (.load 1 false (.t 105)),
    i1 110 (.load 1 false (.t 109)),
    i1 111 (.len 1 (.t 110)),
    i1 112 (.bin .sub (.t 111) (.c (.int .i64 1))),
    i1 113 (.slicl 3 (.t 106) none (some (.t 112))),
    i1 114 (.nilck (.t 102)),
    i1 115 (.faddr 6 (.t 114)),
    i0 (.store 1 (.t 115) (.t 113))] [11] []) (.seq (.reg [i1 116 (.mov (.t 11)),
    i1 6 (.mov (.t 116))] [6] []) (.ret))))))))))))
abbrev nr_ref15_Search_ask:Nat:=53
def C_ref15_Search_ask_4 (QF:AEnd→Store→Prop) (v0 v11:AV) (S:Store):Prop:=
  nkW v0 fun v104=>
  faW 6 v104 fun v105=>
  nkW v0 fun v108=>
  faW 6 v108 fun v109=>
  ldW S 1 false v105 fun v106=>
  ldW S 1 false v109 fun v110=>
  lnW S 1 v110 fun v111=>
  biW .sub v111 (.int .i64 1) fun v112=>
  slW 3 v106 none (some v112) fun v113=>
  nkW v0 fun v114=>
  faW 6 v114 fun v115=>
  stW S 1 v115 v113 fun S=>
  rtW [.tmp v11] QF S
def C_ref15_Search_ask_3 (QF:AEnd→Store→Prop) (r0:LE→Store→Prop) (v0 v2 v4 v7 v9 v10:AV) (S:Store):Prop:=
  nkW v0 fun v63=>
  faW 6 v63 fun v64=>
  ldW S 1 false v64 fun v65=>
  lnW S 1 v65 fun v66=>
  biW .lss v10 v66 fun v67=>
  cnW v67 (nkW v0 fun v71=>
  faW 6 v71 fun v72=>
  ldW S 1 false v72 fun v73=>
  iaW 3 v73 v10 fun v75=>
  ldW S 3 true v75 fun v76=>
  ldW S 3 true v9 fun v77=>
  eqW false (true,[.str,.str,.str]) v76 v77 fun v78=>
  cnW v78 (rtW [.tmp (.bool false)] QF S)
  (biW .add v10 (.int .i64 1) fun v69=>
  rcW r0 [(0,v0),(2,v2),(4,v4),(7,v7),(9,v9),(10,v69)] S))
  (nkW v0 fun v81=>
  faW 6 v81 fun v82=>
  ldW S 1 false v82 fun v83=>
  ldW S 3 true v9 fun v84=>
  srW 3 [v84] fun v85=>
  apW S 175 3 48 v83 v85 fun v86 S=>
  nkW v0 fun v87=>
  faW 6 v87 fun v88=>
  stW S 1 v88 v86 fun S=>
  faW 1 v7 fun v89=>
  ldW S 1 false v89 fun v90=>
  lnW S 1 v90 fun v91=>
  biW .gtr v91 (.int .i64 0) fun v92=>
  cnW v92 (ldW S 2 true v4 fun v94=>
  caW PG S (.func (.func 104) [] []) [v0,v94,v2] (fun v96 S=>
  C_ref15_Search_ask_4 QF v0 v96 S) (pqW QF))
  (ldW S 2 true v4 fun v98=>
  faW 2 v7 fun v99=>
  ldW S 4 true v99 fun v100=>
  caW PG S (.func (.func 105) [] []) [v0,v98,v100] (fun v101 S=>
  C_ref15_Search_ask_4 QF v0 v101 S) (pqW QF)))
def C_ref15_Search_ask_2 (QF:AEnd→Store→Prop) (v0 v2 v4 v7 v54:AV) (S:Store):Prop:=
  cnW v54 (nkW v0 fun v56=>
  faW 7 v56 fun v57=>
  stW S 1 v57 (.bool true) fun S=>
  rtW [.tmp (.bool false)] QF S)
  (ldW S 2 true v4 fun v58=>
  bdW [.str ⟨#[]⟩,.str ⟨#[]⟩,.str ⟨#[]⟩] [(0,2,v58),(2,1,v2)] fun v60=>
  bfW 3 v60 fun v9=>
  LoopP (fun r0 l S=>C_ref15_Search_ask_3 QF r0 (lget l 0) (lget l 2) (lget l 4) (lget l 7) (lget l 9) (lget l 10) S) [(0,v0),(2,v2),(4,v4),(7,v7),(9,v9),(10,(.int .i64 0))] S)
def C_ref15_Search_ask_1 (QF:AEnd→Store→Prop) (v0 v2 v4 v7 v30:AV) (S:Store):Prop:=
  cnW v30 (rtW [.tmp (.bool false)] QF S)
  (nkW v0 fun v32=>
  faW 5 v32 fun v33=>
  ldW S 1 false v33 fun v34=>
  biW .add v34 (.int .i64 1) fun v35=>
  nkW v0 fun v36=>
  faW 5 v36 fun v37=>
  stW S 1 v37 v35 fun S=>
  nkW v0 fun v39=>
  faW 5 v39 fun v40=>
  nkW v0 fun v43=>
  faW 4 v43 fun v44=>
  ldW S 1 false v40 fun v41=>
  ldW S 1 false v44 fun v45=>
  biW .gtr v41 v45 fun v46=>
  grW v46 false (nkW v0 fun v49=>
  faW 6 v49 fun v50=>
  ldW S 1 false v50 fun v51=>
  lnW S 1 v51 fun v52=>
  biW .geq v52 (.int .i64 50) fun v53=>
  pkW v46 (.bool true) v53 fun v54=>
  C_ref15_Search_ask_2 QF v0 v2 v4 v7 v54 S)
  (pkW v46 (.bool true) undefA fun v54=>
  C_ref15_Search_ask_2 QF v0 v2 v4 v7 v54 S))
def B_ref15_Search_ask (QF:AEnd→Store→Prop) (v0 v1 v2:AV) (S:Store):Prop:=
  brW 2 v1 fun v4=>
  nkW v0 fun v14=>
  faW 0 v14 fun v15=>
  faW 0 v4 fun v17=>
  ldW S 1 true v15 fun v16=>
  ldW S 1 false v17 fun v18=>
  caW PG S (.func (.func 28) [] []) [v16,v18,v2] (fun v20 S=>
  exW 0 v20 fun v21=>
  exW 1 v20 fun v22=>
  alW S 53 [.str ⟨#[]⟩,.nils,.int .i64 0,.str ⟨#[]⟩,.str ⟨#[]⟩,.nils] fun v7 S=>
  stW S 6 v7 v21 fun S=>
  fzW S v7 fun v7 S=>
  nkW v0 fun v24=>
  faW 7 v24 fun v25=>
  ldW S 1 false v25 fun v26=>
  grW v26 false (ntW v22 fun v29=>
  pkW v26 (.bool true) v29 fun v30=>
  C_ref15_Search_ask_1 QF v0 v2 v4 v7 v30 S)
  (pkW v26 (.bool true) undefA fun v30=>
  C_ref15_Search_ask_1 QF v0 v2 v4 v7 v30 S)) (pqW QF)
theorem w_ref15_Search_ask {QF:AEnd→Store→Prop} {v0 v1 v2:AV} {S:Store} (h:B_ref15_Search_ask QF v0 v1 v2 S):ACalls PG nr_ref15_Search_ask [v0,v1,v2] S QF:=
  acalls_tf (F:=tf_ref15_Search_ask) (by kernel_rfl) rfl (by kernel_rfl) h
def tf_ref12_levels:TFunc where
  n:=39
  args:=1
  res:=[.tmp 2]
  code:=.seq (.reg [i1 1 (.boxr 24 1 (.t 0)),
    i1 2 (.mov (.c (.nils)))] [1] []) (.seq (.reg [i1 3 (.mov (.c (.nils)))] [1,3] []) (.seq (.seq (.reg [i1 4 (.mov (.c (.int .i64 0)))] [1,3,4] []) (.block 0 (.loop [1,3,4] (.seq (.seq (.reg [i1 8 (.mov (.t 4)),
    i1 9 (.faddr 0 (.t 1)),
    i1 10 (.load 1 false (.t 9)),
    i1 11 (.len 1 (.t 10)),
    i1 12 (.bin .lss (.t 8) (.t 11))] [1,3,4,12] []) (.cond (.t 12) (.skip) (.exit 0))) (.seq (.block 1 (.reg [i1 15 (.mov (.t 3)),
    i1 16 (.faddr 0 (.t 1)),
    i1 17 (.load 1 false (.t 16)),
    i1 18 (.mov (.t 4)),
    i1 19 (.iaddr 2 (.t 17) (.t 18)),
    i1 20 (.faddr 1 (.t 19)),
    i1 21 (.load 1 false (.t 20)),
    i1 22 (.len 1 (.t 21)),
    i1 23 (.mkslice 3 8 (.int .i64 0) (.t 22) (.t 22)),
    i1 24 (.bslicr 174 1 [.t 23]),
    i1 25 (.app 174 1 24 (.t 15) (.t 24)),
    i1 3 (.mov (.t 25))] [1,3,4] [])) (.reg [i1 13 (.mov (.t 4)),
    i1 14 (.bin .add (.t 13) (.c (.int .i64 1))),
    i1 4 (.mov (.t 14))] [1,3,4] [])))))) (.seq (.reg [i1 26 (.load 1 true (.t 1)),
    i1 27 (.call (.f 118) [.t 26]),
    i1 5 (.mov (.t 27))] [3,5] []) (.seq (.seq (.reg [i1 6 (.mov (.c (.int .i64 0)))] [3,5,6] []) (.block 2 (.loop [3,5,6] (.seq (.seq (.reg [i1 28 (.mov (.t 6)),
    i1 29 (.bin .lss (.t 28) (.c (.int .i64 70000)))] [3,5,6,29] []) (.cond (.t 29) (.skip) (.exit 2))) (.seq (.block 3 (.seq (.reg [i1 32 (.mov (.t 5)),
    i1 33 (.mov (.t 3)),
    i1 34 (.call (.f 119) [.t 32,.t 33]),
    i1 7 (.mov (.t 34))] [3,5,6,7] []) (.seq (.reg [i1 35 (.mov (.t 7)),
    i1 36 (.not (.t 35))] [3,5,6,36] []) (.cond (.t 36) (.seq (.reg [i1 37 (.mov (.t 3)),
    i1 2 (.mov (.t 37))] [2] []) (.ret)) (.skip))))) (.reg [i1 30 (.mov (.t 6)),
    i1 31 (.bin .add (.t 30) (.c (.int .i64 1))),
    i1 6 (.mov (.t 31))] [3,5,6] [])))))) (.seq (.reg [i1 38 (.mov (.t 3)),
    i1 2 (.mov (.t 38))] [2] []) (.ret))))))
abbrev nr_ref12_levels:Nat:=65
def C_ref12_levels_2 (QF:AEnd→Store→Prop) (r0:LE→Store→Prop) (v3 v5 v6:AV) (S:Store):Prop:=
  biW .lss v6 (.int .i64 70000) fun v29=>
  cnW v29 (caW PG S (.func (.func 119) [] []) [v5,v3] (fun v34 S=>
  ntW v34 fun v36=>
  cnW v36 (rtW [.tmp v3] QF S)
  (biW .add v6 (.int .i64 1) fun v31=>
  rcW r0 [(3,v3),(5,v5),(6,v31)] S)) (pqW QF))
  (rtW [.tmp v3] QF S)
def C_ref12_levels_1 (QF:AEnd→Store→Prop) (r0:LE→Store→Prop) (v1 v3 v4:AV) (S:Store):Prop:=
  faW 0 v1 fun v9=>
  ldW S 1 false v9 fun v10=>
  lnW S 1 v10 fun v11=>
  biW .lss v4 v11 fun v12=>
  cnW v12 (faW 0 v1 fun v16=>
  ldW S 1 false v16 fun v17=>
  iaW 2 v17 v4 fun v19=>
  faW 1 v19 fun v20=>
  ldW S 1 false v20 fun v21=>
  lnW S 1 v21 fun v22=>
  msW S 3 8 (.int .i64 0) v22 v22 fun v23 S=>
  srW 1 [v23] fun v24=>
  apW S 174 1 24 v3 v24 fun v25 S=>
  biW .add v4 (.int .i64 1) fun v14=>
  rcW r0 [(1,v1),(3,v25),(4,v14)] S)
  (ldW S 1 true v1 fun v26=>
  caW PG S (.func (.func 118) [] []) [v26] (fun v27 S=>
  LoopP (fun r0 l S=>C_ref12_levels_2 QF r0 (lget l 3) (lget l 5) (lget l 6) S) [(3,v3),(5,v27),(6,(.int .i64 0))] S) (pqW QF))
def B_ref12_levels (QF:AEnd→Store→Prop) (v0:AV) (S:Store):Prop:=
  brW 1 v0 fun v1=>
  LoopP (fun r0 l S=>C_ref12_levels_1 QF r0 (lget l 1) (lget l 3) (lget l 4) S) [(1,v1),(3,(.nils)),(4,(.int .i64 0))] S
theorem w_ref12_levels {QF:AEnd→Store→Prop} {v0:AV} {S:Store} (h:B_ref12_levels QF v0 S):ACalls PG nr_ref12_levels [v0] S QF:=
  acalls_tf (F:=tf_ref12_levels) (by kernel_rfl) rfl (by kernel_rfl) h
def tf_ref12_typ:TFunc where
  n:=22
  args:=2
  res:=[.tmp 4]
  code:=.seq (.reg [i1 2 (.boxr 24 1 (.t 0)),
    i1 4 (.mov (.c (.int .i64 0)))] [1,2] []) (.seq (.seq (.reg [i1 5 (.mov (.c (.int .i64 0)))] [1,2,5] []) (.block 0 (.loop [1,2,5] (.seq (.seq (.reg [i1 6 (.mov (.t 5)),
    i1 7 (.faddr 0 (.t 2)),
    i1 8 (.load 1 false (.t 7)),
    i1 9 (.len 1 (.t 8)),
    i1 10 (.bin .lss (.t 6) (.t 9))] [1,2,5,10] []) (.cond (.t 10) (.skip) (.exit 0))) (.seq (.block 1 (.seq (.reg [i1 13 (.faddr 0 (.t 2)),
    i1 14 (.load 1 false (.t 13)),
    i1 15 (.mov (.t 5)),
    i1 16 (.iaddr 2 (.t 14) (.t 15)),
    i1 17 (.faddr 0 (.t 16)),
    i1 18 (.load 1 false (.t 17)),
    i1 19 (.mov (.t 1)),
    i1 20 (.bin .eql (.t 18) (.t 19))] [1,2,5,20] []) (.cond (.t 20) (.seq (.reg [i1 21 (.mov (.t 5)),
    i1 4 (.mov (.t 21))] [4] []) (.ret)) (.skip)))) (.reg [i1 11 (.mov (.t 5)),
    i1 12 (.bin .add (.t 11) (.c (.int .i64 1))),
    i1 5 (.mov (.t 12))] [1,2,5] [])))))) (.seq (.reg [i1 4 (.mov (.c (.int .i64 (-1))))] [4] []) (.ret)))
abbrev nr_ref12_typ:Nat:=66
def C_ref12_typ_1 (QF:AEnd→Store→Prop) (r0:LE→Store→Prop) (v1 v2 v5:AV) (S:Store):Prop:=
  faW 0 v2 fun v7=>
  ldW S 1 false v7 fun v8=>
  lnW S 1 v8 fun v9=>
  biW .lss v5 v9 fun v10=>
  cnW v10 (faW 0 v2 fun v13=>
  ldW S 1 false v13 fun v14=>
  iaW 2 v14 v5 fun v16=>
  faW 0 v16 fun v17=>
  ldW S 1 false v17 fun v18=>
  biW .eql v18 v1 fun v20=>
  cnW v20 (rtW [.tmp v5] QF S)
  (biW .add v5 (.int .i64 1) fun v12=>
  rcW r0 [(1,v1),(2,v2),(5,v12)] S))
  (rtW [.tmp (.int .i64 (-1))] QF S)
def B_ref12_typ (QF:AEnd→Store→Prop) (v0 v1:AV) (S:Store):Prop:=
  brW 1 v0 fun v2=>
  LoopP (fun r0 l S=>C_ref12_typ_1 QF r0 (lget l 1) (lget l 2) (lget l 5) S) [(1,v1),(2,v2),(5,(.int .i64 0))] S
theorem w_ref12_typ {QF:AEnd→Store→Prop} {v0 v1:AV} {S:Store} (h:B_ref12_typ QF v0 v1 S):ACalls PG nr_ref12_typ [v0,v1] S QF:=
  acalls_tf (F:=tf_ref12_typ) (by kernel_rfl) rfl (by kernel_rfl) h
end Go.HL
