/- A part of a proof. -/
import Derived.Test.YtadmdlpmikoghaaGreatKhHlP
set_option maxRecDepth 100000
set_option linter.unusedVariables false
namespace Go.HL
def tf_ref11_Parse:TFunc where
  n:=72
  args:=1
  res:=[.cell 2 1 true,.cell 3 3 true]
  code:=.seq (.reg [i1 2 (.alloc 24 [.nils]),
    i1 3 (.alloc 82 [.int .i64 0,.int .i64 0,.int .i64 0])] [0,2,3] []) (.seq (.seq (.reg [i1 9 (.mov (.t 0)),
    i1 10 (.len 0 (.t 9)),
    i1 11 (.bin .gtr (.t 10) (.c (.int .i64 4096)))] [0,2,3,11] []) (.cond (.t 11) (.seq (.reg [i1 12 (.build [.nils] []),
    i1 13 (.build [.int .i64 0,.int .i64 0,.int .i64 0] [(0,1,.c (.int .i64 1)),(1,1,.c (.int .i64 1)),(2,1,.c (.int .i64 2))]),
    i0 (.store 1 (.t 2) (.t 12)),
    i0 (.store 3 (.t 3) (.t 13))] [2,3] []) (.ret)) (.skip))) (.seq (.reg [i1 14 (.mov (.t 0)),
    i1 15 (.call (.f 83) [.t 14]),
    i1 16 (.build [.nils,.int .i64 0,.int .i64 0,.int .i64 0,.int .i64 0,.int .i64 0] [(0,1,.t 15)]),
    i1 17 (.box 145 6 (.t 16)),
    i1 4 (.mov (.t 17))] [2,3,4] []) (.seq (.reg [i1 18 (.build [.nils] []),
    i1 5 (.alloc 24 [.nils]),
    i0 (.store 1 (.t 5) (.t 18))] [2,3,4,5] []) (.seq (.block 0 (.loop [2,3,4,5] (.seq (.seq (.reg [i1 19 (.mov (.t 4)),
    i1 20 (.call (.f 84) [.t 19,.c (.str ⟨#[116,121,112,101]⟩)])] [2,3,4,5,20] []) (.cond (.t 20) (.skip) (.exit 0))) (.block 1 (.seq (.reg [i1 21 (.mov (.t 4)),
    i1 22 (.call (.f 85) [.t 21]),
    i1 23 (.build [.str ⟨#[]⟩,.nils] [(0,1,.t 22)]),
    i1 6 (.alloc 46 [.str ⟨#[]⟩,.nils]),
    i0 (.store 2 (.t 6) (.t 23))] [2,3,4,5,6] []) (.seq (.block 2 (.loop [2,3,4,5,6] (.block 3 (.seq (.reg [i1 25 (.mov (.t 4)),
    i1 26 (.call (.f 86) [.t 25]),
    i1 24 (.mov (.t 26)),
    i1 27 (.extr (.t 24) 0),
    i1 28 (.extr (.t 24) 1),
    .box2 7 53 [.str ⟨#[]⟩,.nils,.int .i64 0,.str ⟨#[]⟩,.str ⟨#[]⟩,.nils] 6 (.t 27),
    i1 8 (.mov (.t 28))] [2,3,4,5,6,7,8] []) (.seq (.seq (.reg [i1 29 (.mov (.t 8)),
    i1 30 (.not (.t 29))] [2,3,4,5,6,7,30] []) (.cond (.t 30) (.exit 2) (.skip))) (.reg [i1 31 (.faddr 1 (.t 6)),
    i1 32 (.load 1 false (.t 31)),
    i1 33 (.load 6 true (.t 7)),
    i1 34 (.bslicr 53 6 [.t 33]),
    i1 35 (.app 53 6 104 (.t 32) (.t 34)),
    i1 36 (.faddr 1 (.t 6)),
    i0 (.store 1 (.t 36) (.t 35))] [2,3,4,5,6] [])))))) (.reg [i1 37 (.faddr 0 (.t 5)),
    i1 38 (.load 1 false (.t 37)),
    i1 39 (.load 2 true (.t 6)),
    i1 40 (.bslicr 46 2 [.t 39]),
    i1 41 (.app 46 2 40 (.t 38) (.t 40)),
    i1 42 (.faddr 0 (.t 5)),
    i0 (.store 1 (.t 42) (.t 41))] [2,3,4,5] []))))))) (.seq (.seq (.reg [i1 43 (.mov (.t 4)),
    i1 44 (.nilck (.t 43)),
    i1 45 (.faddr 3 (.t 44)),
    i1 46 (.faddr 2 (.t 45)),
    i1 47 (.load 1 false (.t 46)),
    i1 48 (.bin .eql (.t 47) (.c (.int .i64 0))),
    i1 49 (.mov (.t 48)),
    .grp 49 true [s1 50 (.mov (.t 4)),s1 51 (.call (.f 87) [.t 50]),s1 52 (.field 0 1 false (.t 51)),s1 53 (.bin .neq (.t 52) (.c (.str ⟨#[]⟩)))],
    i1 54 (.pick (.t 49) (.t 53) (.c (.bool false)))] [2,3,4,5,54] []) (.cond (.t 54) (.reg [i1 55 (.mov (.t 4)),
    i1 56 (.mov (.t 4)),
    i1 57 (.call (.f 87) [.t 56]),
    i1 58 (.call (.f 88) [.t 55,.t 57,.c (.int .i64 8)])] [2,3,4,5] []) (.skip))) (.seq (.seq (.reg [i1 59 (.mov (.t 4)),
    i1 60 (.nilck (.t 59)),
    i1 61 (.faddr 3 (.t 60)),
    i1 62 (.faddr 2 (.t 61)),
    i1 63 (.load 1 false (.t 62)),
    i1 64 (.bin .neq (.t 63) (.c (.int .i64 0)))] [2,3,4,5,64] []) (.cond (.t 64) (.seq (.regl [0,1,2,3,4,5,6] [i1 65 (.build [.nils] []),
    i1 66 (.mov (.t 4)),
    i1 67 (.nilck (.t 66)),
    i1 68 (.faddr 3 (.t 67)),
    i1 69 (.load 3 true (.t 68)),
    .one { d:=none,o:=.store 1 (.t 2) (.t 65),x:=[68] },
    i0 (.store 3 (.t 3) (.t 69))] [2,3] []) (.ret)) (.skip))) (.seq (.reg [i1 70 (.load 1 true (.t 5)),
    i1 71 (.build [.int .i64 0,.int .i64 0,.int .i64 0] []),
    i0 (.store 1 (.t 2) (.t 70)),
    i0 (.store 3 (.t 3) (.t 71))] [2,3] []) (.ret))))))))
abbrev nr_ref11_Parse:Nat:=44
def C_ref11_Parse_4 (QF:AEnd→Store→Prop) (r0:LE→Store→Prop) (r1:LE→Store→Prop) (v2 v3 v4 v5 v6:AV) (S:Store):Prop:=
  caW PG S (.func (.func 86) [] []) [v4] (fun v26 S=>
  exW 0 v26 fun v27=>
  exW 1 v26 fun v28=>
  bfW 6 v27 fun v7=>
  ntW v28 fun v30=>
  cnW v30 (faW 0 v5 fun v37=>
  ldW S 1 false v37 fun v38=>
  ldW S 2 true v6 fun v39=>
  srW 2 [v39] fun v40=>
  apW S 46 2 40 v38 v40 fun v41 S=>
  faW 0 v5 fun v42=>
  stW S 1 v42 v41 fun S=>
  rcW r0 [(2,v2),(3,v3),(4,v4),(5,v5)] S)
  (faW 1 v6 fun v31=>
  ldW S 1 false v31 fun v32=>
  ldW S 6 true v7 fun v33=>
  srW 6 [v33] fun v34=>
  apW S 53 6 104 v32 v34 fun v35 S=>
  faW 1 v6 fun v36=>
  stW S 1 v36 v35 fun S=>
  rcW r1 [(2,v2),(3,v3),(4,v4),(5,v5),(6,v6)] S)) (pqW QF)
def C_ref11_Parse_3 (QF:AEnd→Store→Prop) (v2 v3 v4 v5:AV) (S:Store):Prop:=
  nkW v4 fun v60=>
  faW 3 v60 fun v61=>
  faW 2 v61 fun v62=>
  ldW S 1 false v62 fun v63=>
  biW .neq v63 (.int .i64 0) fun v64=>
  cnW v64 (bdW [.nils] [] fun v65=>
  nkW v4 fun v67=>
  faW 3 v67 fun v68=>
  ldW S 3 true v68 fun v69=>
  stW S 1 v2 v65 fun S1=>
  kpW [v68] S S1 (
  stW S1 3 v3 v69 fun S=>
  rtW [.cell v2 1 true,.cell v3 3 true] QF S))
  (ldW S 1 true v5 fun v70=>
  bdW [.int .i64 0,.int .i64 0,.int .i64 0] [] fun v71=>
  stW S 1 v2 v70 fun S=>
  stW S 3 v3 v71 fun S=>
  rtW [.cell v2 1 true,.cell v3 3 true] QF S)
def C_ref11_Parse_2 (QF:AEnd→Store→Prop) (v2 v3 v4 v5 v54:AV) (S:Store):Prop:=
  cnW v54 (caW PG S (.func (.func 87) [] []) [v4] (fun v57 S=>
  caW PG S (.func (.func 88) [] []) [v4,v57,(.int .i64 8)] (fun v58 S=>
  C_ref11_Parse_3 QF v2 v3 v4 v5 S) (pqW QF)) (pqW QF))
  (C_ref11_Parse_3 QF v2 v3 v4 v5 S)
def C_ref11_Parse_1 (QF:AEnd→Store→Prop) (r0:LE→Store→Prop) (v2 v3 v4 v5:AV) (S:Store):Prop:=
  caW PG S (.func (.func 84) [] []) [v4,(.str ⟨#[116,121,112,101]⟩)] (fun v20 S=>
  cnW v20 (caW PG S (.func (.func 85) [] []) [v4] (fun v22 S=>
  bdW [.str ⟨#[]⟩,.nils] [(0,1,v22)] fun v23=>
  alW S 46 [.str ⟨#[]⟩,.nils] fun v6 S=>
  stW S 2 v6 v23 fun S=>
  LoopP (fun r1 l S=>C_ref11_Parse_4 QF r0 r1 (lget l 2) (lget l 3) (lget l 4) (lget l 5) (lget l 6) S) [(2,v2),(3,v3),(4,v4),(5,v5),(6,v6)] S) (pqW QF))
  (nkW v4 fun v44=>
  faW 3 v44 fun v45=>
  faW 2 v45 fun v46=>
  ldW S 1 false v46 fun v47=>
  biW .eql v47 (.int .i64 0) fun v48=>
  grW v48 true (caW PG S (.func (.func 87) [] []) [v4] (fun v51 S=>
  fdW 0 1 false v51 fun v52=>
  biW .neq v52 (.str ⟨#[]⟩) fun v53=>
  pkW v48 v53 (.bool false) fun v54=>
  C_ref11_Parse_2 QF v2 v3 v4 v5 v54 S) (pqW QF))
  (pkW v48 undefA (.bool false) fun v54=>
  C_ref11_Parse_2 QF v2 v3 v4 v5 v54 S))) (pqW QF)
def B_ref11_Parse (QF:AEnd→Store→Prop) (v0:AV) (S:Store):Prop:=
  alW S 24 [.nils] fun v2 S=>
  alW S 82 [.int .i64 0,.int .i64 0,.int .i64 0] fun v3 S=>
  lnW S 0 v0 fun v10=>
  biW .gtr v10 (.int .i64 4096) fun v11=>
  cnW v11 (bdW [.nils] [] fun v12=>
  bdW [.int .i64 0,.int .i64 0,.int .i64 0] [(0,1,(.int .i64 1)),(1,1,(.int .i64 1)),(2,1,(.int .i64 2))] fun v13=>
  stW S 1 v2 v12 fun S=>
  stW S 3 v3 v13 fun S=>
  rtW [.cell v2 1 true,.cell v3 3 true] QF S)
  (caW PG S (.func (.func 83) [] []) [v0] (fun v15 S=>
  bdW [.nils,.int .i64 0,.int .i64 0,.int .i64 0,.int .i64 0,.int .i64 0] [(0,1,v15)] fun v16=>
  bxW S 145 6 v16 fun v17 S=>
  bdW [.nils] [] fun v18=>
  alW S 24 [.nils] fun v5 S=>
  stW S 1 v5 v18 fun S=>
  LoopP (fun r0 l S=>C_ref11_Parse_1 QF r0 (lget l 2) (lget l 3) (lget l 4) (lget l 5) S) [(2,v2),(3,v3),(4,v17),(5,v5)] S) (pqW QF))
theorem w_ref11_Parse {QF:AEnd→Store→Prop} {v0:AV} {S:Store} (h:B_ref11_Parse QF v0 S):ACalls PG nr_ref11_Parse [v0] S QF:=
  acalls_tf (F:=tf_ref11_Parse) (by kernel_rfl) rfl (by kernel_rfl) h
def tf_law14_Tuples:TFunc where
  n:=26
  args:=1
  res:=[.tmp 2]
  code:=.seq (.reg [i1 2 (.mov (.c (.nils)))] [0] []) (.seq (.reg [i1 3 (.mov (.c (.nils)))] [0,3] []) (.seq (.seq (.reg [i1 4 (.mov (.c (.int .i64 0)))] [0,3,4] []) (.block 0 (.loop [0,3,4] (.seq (.seq (.reg [i1 7 (.mov (.t 4)),
    i1 8 (.mov (.t 0)),
    i1 9 (.len 1 (.t 8)),
    i1 10 (.bin .lss (.t 7) (.t 9))] [0,3,4,10] []) (.cond (.t 10) (.skip) (.exit 0))) (.seq (.block 1 (.seq (.reg [i1 14 (.mov (.t 0)),
    i1 15 (.mov (.t 4)),
    i1 16 (.iaddr 1 (.t 14) (.t 15)),
    i1 17 (.load 1 false (.t 16)),
    i1 18 (.call (.f 89) [.t 17]),
    i1 13 (.mov (.t 18)),
    i1 19 (.extr (.t 13) 0),
    i1 20 (.extr (.t 13) 1),
    .box2 5 41 [.str ⟨#[]⟩,.str ⟨#[]⟩,.str ⟨#[]⟩,.str ⟨#[]⟩,.str ⟨#[]⟩,.str ⟨#[]⟩] 6 (.t 19),
    i1 6 (.mov (.t 20))] [0,3,4,5] []) (.reg [i1 21 (.mov (.t 3)),
    i1 22 (.load 6 true (.t 5)),
    i1 23 (.bslicr 41 6 [.t 22]),
    i1 24 (.app 41 6 96 (.t 21) (.t 23)),
    i1 3 (.mov (.t 24))] [0,3,4] []))) (.reg [i1 11 (.mov (.t 4)),
    i1 12 (.bin .add (.t 11) (.c (.int .i64 1))),
    i1 4 (.mov (.t 12))] [0,3,4] [])))))) (.seq (.reg [i1 25 (.mov (.t 3)),
    i1 2 (.mov (.t 25))] [2] []) (.ret))))
abbrev nr_law14_Tuples:Nat:=45
def C_law14_Tuples_1 (QF:AEnd→Store→Prop) (r0:LE→Store→Prop) (v0 v3 v4:AV) (S:Store):Prop:=
  lnW S 1 v0 fun v9=>
  biW .lss v4 v9 fun v10=>
  cnW v10 (iaW 1 v0 v4 fun v16=>
  ldW S 1 false v16 fun v17=>
  caW PG S (.func (.func 89) [] []) [v17] (fun v18 S=>
  exW 0 v18 fun v19=>
  exW 1 v18 fun v20=>
  bfW 6 v19 fun v5=>
  ldW S 6 true v5 fun v22=>
  srW 6 [v22] fun v23=>
  apW S 41 6 96 v3 v23 fun v24 S=>
  biW .add v4 (.int .i64 1) fun v12=>
  rcW r0 [(0,v0),(3,v24),(4,v12)] S) (pqW QF))
  (rtW [.tmp v3] QF S)
def B_law14_Tuples (QF:AEnd→Store→Prop) (v0:AV) (S:Store):Prop:=
  LoopP (fun r0 l S=>C_law14_Tuples_1 QF r0 (lget l 0) (lget l 3) (lget l 4) S) [(0,v0),(3,(.nils)),(4,(.int .i64 0))] S
theorem w_law14_Tuples {QF:AEnd→Store→Prop} {v0:AV} {S:Store} (h:B_law14_Tuples QF v0 S):ACalls PG nr_law14_Tuples [v0] S QF:=
  acalls_tf (F:=tf_law14_Tuples) (by kernel_rfl) rfl (by kernel_rfl) h
def tf_law11_Few:TFunc where
  n:=78
  args:=2
  res:=[.tmp 4]
  code:=.seq (.reg [i1 2 (.boxr 24 1 (.t 0)),
    i1 4 (.mov (.c (.bool false)))] [1,2] []) (.seq (.reg [i1 9 (.mov (.t 1)),
    i1 10 (.faddr 0 (.t 2)),
    i1 11 (.load 1 false (.t 10)),
    i1 12 (.len 1 (.t 11)),
    i1 13 (.bin .sub (.t 9) (.t 12)),
    i1 5 (.mov (.t 13))] [1,2,5] []) (.seq (.seq (.reg [i1 6 (.mov (.c (.int .i64 0)))] [1,2,5,6] []) (.block 0 (.loop [1,2,5,6] (.seq (.seq (.reg [i1 14 (.mov (.t 6)),
    i1 15 (.faddr 0 (.t 2)),
    i1 16 (.load 1 false (.t 15)),
    i1 17 (.len 1 (.t 16)),
    i1 18 (.bin .lss (.t 14) (.t 17)),
    i1 19 (.mov (.t 18)),
    .grp 19 true [s1 20 (.mov (.t 5)),s1 21 (.bin .gtr (.t 20) (.c (.int .i64 0)))],
    i1 22 (.pick (.t 19) (.t 21) (.c (.bool false)))] [1,2,5,6,22] []) (.cond (.t 22) (.skip) (.exit 0))) (.seq (.block 1 (.seq (.seq (.reg [i1 25 (.faddr 0 (.t 2)),
    i1 26 (.load 1 false (.t 25)),
    i1 27 (.mov (.t 6)),
    i1 28 (.iaddr 2 (.t 26) (.t 27)),
    i1 29 (.faddr 0 (.t 28)),
    i1 30 (.load 1 false (.t 29)),
    i1 31 (.len 0 (.t 30)),
    i1 32 (.bin .gtr (.t 31) (.c (.int .i64 100)))] [1,2,5,6,32] []) (.cond (.t 32) (.seq (.reg [i1 4 (.mov (.c (.bool false)))] [4] []) (.ret)) (.skip))) (.seq (.reg [i1 7 (.mov (.c (.int .i64 0)))] [1,2,5,6,7] []) (.block 2 (.loop [1,2,5,6,7] (.seq (.seq (.reg [i1 33 (.mov (.t 7)),
    i1 34 (.faddr 0 (.t 2)),
    i1 35 (.load 1 false (.t 34)),
    i1 36 (.mov (.t 6)),
    i1 37 (.iaddr 2 (.t 35) (.t 36)),
    i1 38 (.faddr 1 (.t 37)),
    i1 39 (.load 1 false (.t 38)),
    i1 40 (.len 1 (.t 39)),
    i1 41 (.bin .lss (.t 33) (.t 40)),
    i1 42 (.mov (.t 41)),
    .grp 42 true [s1 43 (.mov (.t 5)),s1 44 (.bin .gtr (.t 43) (.c (.int .i64 0)))],
    i1 45 (.pick (.t 42) (.t 44) (.c (.bool false)))] [1,2,5,6,7,45] []) (.cond (.t 45) (.skip) (.exit 2))) (.seq (.block 3 (.seq (.reg [i1 48 (.faddr 0 (.t 2)),
    i1 49 (.load 1 false (.t 48)),
    i1 50 (.mov (.t 6)),
    i1 51 (.iaddr 2 (.t 49) (.t 50)),
    i1 52 (.faddr 1 (.t 51)),
    i1 53 (.load 1 false (.t 52)),
    i1 54 (.mov (.t 7)),
    i1 55 (.iaddr 6 (.t 53) (.t 54)),
    i1 56 (.load 6 true (.t 55)),
    .box2 8 53 [.str ⟨#[]⟩,.nils,.int .i64 0,.str ⟨#[]⟩,.str ⟨#[]⟩,.nils] 6 (.t 56)] [1,2,5,6,7,8] []) (.seq (.seq (.reg [i1 57 (.faddr 1 (.t 8)),
    i1 58 (.load 1 false (.t 57)),
    i1 59 (.len 1 (.t 58)),
    i1 60 (.mov (.t 1)),
    i1 61 (.bin .gtr (.t 59) (.t 60)),
    i1 62 (.mov (.t 61)),
    .grp 62 false [s1 63 (.faddr 0 (.t 8)),s1 64 (.load 1 false (.t 63)),s1 65 (.len 0 (.t 64)),s1 66 (.bin .gtr (.t 65) (.c (.int .i64 100)))],
    i1 67 (.pick (.t 62) (.c (.bool true)) (.t 66))] [1,2,5,6,7,8,67] []) (.cond (.t 67) (.seq (.reg [i1 4 (.mov (.c (.bool false)))] [4] []) (.ret)) (.skip))) (.reg [i1 68 (.faddr 2 (.t 8)),
    i1 69 (.load 4 true (.t 68)),
    i1 70 (.mov (.t 5)),
    i1 71 (.faddr 1 (.t 8)),
    i1 72 (.load 1 false (.t 71)),
    i1 73 (.len 1 (.t 72)),
    i1 74 (.bin .sub (.t 70) (.t 73)),
    i1 75 (.call (.f 90) [.t 69,.t 74]),
    i1 5 (.mov (.t 75))] [1,2,5,6,7] [])))) (.reg [i1 46 (.mov (.t 7)),
    i1 47 (.bin .add (.t 46) (.c (.int .i64 1))),
    i1 7 (.mov (.t 47))] [1,2,5,6,7] [])))))))) (.reg [i1 23 (.mov (.t 6)),
    i1 24 (.bin .add (.t 23) (.c (.int .i64 1))),
    i1 6 (.mov (.t 24))] [1,2,5,6] [])))))) (.seq (.reg [i1 76 (.mov (.t 5)),
    i1 77 (.bin .gtr (.t 76) (.c (.int .i64 0))),
    i1 4 (.mov (.t 77))] [4] []) (.ret))))
abbrev nr_law11_Few:Nat:=46
def C_law11_Few_5 (QF:AEnd→Store→Prop) (r0:LE→Store→Prop) (r1:LE→Store→Prop) (v1 v2 v5 v6 v7 v8 v67:AV) (S:Store):Prop:=
  cnW v67 (rtW [.tmp (.bool false)] QF S)
  (faW 2 v8 fun v68=>
  ldW S 4 true v68 fun v69=>
  faW 1 v8 fun v71=>
  ldW S 1 false v71 fun v72=>
  lnW S 1 v72 fun v73=>
  biW .sub v5 v73 fun v74=>
  caW PG S (.func (.func 90) [] []) [v69,v74] (fun v75 S=>
  biW .add v7 (.int .i64 1) fun v47=>
  rcW r1 [(1,v1),(2,v2),(5,v75),(6,v6),(7,v47)] S) (pqW QF))
def C_law11_Few_4 (QF:AEnd→Store→Prop) (r0:LE→Store→Prop) (r1:LE→Store→Prop) (v1 v2 v5 v6 v7 v45:AV) (S:Store):Prop:=
  cnW v45 (faW 0 v2 fun v48=>
  ldW S 1 false v48 fun v49=>
  iaW 2 v49 v6 fun v51=>
  faW 1 v51 fun v52=>
  ldW S 1 false v52 fun v53=>
  iaW 6 v53 v7 fun v55=>
  ldW S 6 true v55 fun v56=>
  bfW 6 v56 fun v8=>
  faW 1 v8 fun v57=>
  ldW S 1 false v57 fun v58=>
  lnW S 1 v58 fun v59=>
  biW .gtr v59 v1 fun v61=>
  grW v61 false (faW 0 v8 fun v63=>
  ldW S 1 false v63 fun v64=>
  lnW S 0 v64 fun v65=>
  biW .gtr v65 (.int .i64 100) fun v66=>
  pkW v61 (.bool true) v66 fun v67=>
  C_law11_Few_5 QF r0 r1 v1 v2 v5 v6 v7 v8 v67 S)
  (pkW v61 (.bool true) undefA fun v67=>
  C_law11_Few_5 QF r0 r1 v1 v2 v5 v6 v7 v8 v67 S))
  (biW .add v6 (.int .i64 1) fun v24=>
  rcW r0 [(1,v1),(2,v2),(5,v5),(6,v24)] S)
def C_law11_Few_3 (QF:AEnd→Store→Prop) (r0:LE→Store→Prop) (r1:LE→Store→Prop) (v1 v2 v5 v6 v7:AV) (S:Store):Prop:=
  faW 0 v2 fun v34=>
  ldW S 1 false v34 fun v35=>
  iaW 2 v35 v6 fun v37=>
  faW 1 v37 fun v38=>
  ldW S 1 false v38 fun v39=>
  lnW S 1 v39 fun v40=>
  biW .lss v7 v40 fun v41=>
  grW v41 true (biW .gtr v5 (.int .i64 0) fun v44=>
  pkW v41 v44 (.bool false) fun v45=>
  C_law11_Few_4 QF r0 r1 v1 v2 v5 v6 v7 v45 S)
  (pkW v41 undefA (.bool false) fun v45=>
  C_law11_Few_4 QF r0 r1 v1 v2 v5 v6 v7 v45 S)
def C_law11_Few_2 (QF:AEnd→Store→Prop) (r0:LE→Store→Prop) (v1 v2 v5 v6 v22:AV) (S:Store):Prop:=
  cnW v22 (faW 0 v2 fun v25=>
  ldW S 1 false v25 fun v26=>
  iaW 2 v26 v6 fun v28=>
  faW 0 v28 fun v29=>
  ldW S 1 false v29 fun v30=>
  lnW S 0 v30 fun v31=>
  biW .gtr v31 (.int .i64 100) fun v32=>
  cnW v32 (rtW [.tmp (.bool false)] QF S)
  (LoopP (fun r1 l S=>C_law11_Few_3 QF r0 r1 (lget l 1) (lget l 2) (lget l 5) (lget l 6) (lget l 7) S) [(1,v1),(2,v2),(5,v5),(6,v6),(7,(.int .i64 0))] S))
  (biW .gtr v5 (.int .i64 0) fun v77=>
  rtW [.tmp v77] QF S)
def C_law11_Few_1 (QF:AEnd→Store→Prop) (r0:LE→Store→Prop) (v1 v2 v5 v6:AV) (S:Store):Prop:=
  faW 0 v2 fun v15=>
  ldW S 1 false v15 fun v16=>
  lnW S 1 v16 fun v17=>
  biW .lss v6 v17 fun v18=>
  grW v18 true (biW .gtr v5 (.int .i64 0) fun v21=>
  pkW v18 v21 (.bool false) fun v22=>
  C_law11_Few_2 QF r0 v1 v2 v5 v6 v22 S)
  (pkW v18 undefA (.bool false) fun v22=>
  C_law11_Few_2 QF r0 v1 v2 v5 v6 v22 S)
def B_law11_Few (QF:AEnd→Store→Prop) (v0 v1:AV) (S:Store):Prop:=
  brW 1 v0 fun v2=>
  faW 0 v2 fun v10=>
  ldW S 1 false v10 fun v11=>
  lnW S 1 v11 fun v12=>
  biW .sub v1 v12 fun v13=>
  LoopP (fun r0 l S=>C_law11_Few_1 QF r0 (lget l 1) (lget l 2) (lget l 5) (lget l 6) S) [(1,v1),(2,v2),(5,v13),(6,(.int .i64 0))] S
theorem w_law11_Few {QF:AEnd→Store→Prop} {v0 v1:AV} {S:Store} (h:B_law11_Few QF v0 v1 S):ACalls PG nr_law11_Few [v0,v1] S QF:=
  acalls_tf (F:=tf_law11_Few) (by kernel_rfl) rfl (by kernel_rfl) h
def tf_rules_Check:TFunc where
  n:=23
  args:=1
  res:=[.cell 2 3 true]
  code:=.seq (.reg [i1 1 (.boxr 24 1 (.t 0)),
    i1 2 (.alloc 88 [.int .i64 0,.int .i64 0,.int .i64 0])] [1,2] []) (.seq (.reg [i1 7 (.load 1 true (.t 1)),
    i1 8 (.call (.f 91) [.t 7]),
    i1 3 (.mov (.t 8))] [2,3] []) (.seq (.seq (.reg [i1 9 (.mov (.t 3)),
    i1 10 (.call (.f 92) [.t 9]),
    .box2 4 88 [.int .i64 0,.int .i64 0,.int .i64 0] 3 (.t 10)] [2,3,4] []) (.seq (.reg [i1 11 (.faddr 2 (.t 4)),
    i1 12 (.load 1 false (.t 11)),
    i1 13 (.bin .neq (.t 12) (.c (.int .i64 0)))] [2,3,4,13] []) (.cond (.t 13) (.seq (.reg [i1 14 (.load 3 true (.t 4)),
    i0 (.store 3 (.t 2) (.t 14))] [2] []) (.ret)) (.skip)))) (.seq (.reg [i1 16 (.mov (.t 3)),
    i1 17 (.call (.f 93) [.t 16]),
    i1 15 (.mov (.t 17)),
    i1 18 (.extr (.t 15) 0),
    i1 19 (.extr (.t 15) 1),
    i1 5 (.alloc 158 [.map none]),
    i1 6 (.alloc 3 [.int .i64 0]),
    i0 (.store 1 (.t 5) (.t 18)),
    i0 (.store 1 (.t 6) (.t 19))] [2,3,5,6] [5,6]) (.seq (.reg [i1 20 (.mov (.t 3)),
    i1 21 (.mkf (.func 95) [] [.t 5,.t 6]),
    i1 22 (.call (.f 94) [.t 20,.t 21]),
    i0 (.store 3 (.t 2) (.t 22))] [2] []) (.ret)))))
abbrev nr_rules_Check:Nat:=47
def B_rules_Check (QF:AEnd→Store→Prop) (v0:AV) (S:Store):Prop:=
  brW 1 v0 fun v1=>
  alW S 88 [.int .i64 0,.int .i64 0,.int .i64 0] fun v2 S=>
  ldW S 1 true v1 fun v7=>
  caW PG S (.func (.func 91) [] []) [v7] (fun v8 S=>
  caW PG S (.func (.func 92) [] []) [v8] (fun v10 S=>
  bfW 3 v10 fun v4=>
  faW 2 v4 fun v11=>
  ldW S 1 false v11 fun v12=>
  biW .neq v12 (.int .i64 0) fun v13=>
  cnW v13 (ldW S 3 true v4 fun v14=>
  stW S 3 v2 v14 fun S=>
  rtW [.cell v2 3 true] QF S)
  (caW PG S (.func (.func 93) [] []) [v8] (fun v17 S=>
  exW 0 v17 fun v18=>
  exW 1 v17 fun v19=>
  alW S 158 [.map none] fun v5 S=>
  alW S 3 [.int .i64 0] fun v6 S=>
  stW S 1 v5 v18 fun S=>
  stW S 1 v6 v19 fun S=>
  fzW S v5 fun v5 S=>
  fzW S v6 fun v6 S=>
  caW PG S (.func (.func 94) [] []) [v8,(.func (.func 95) [] [v5,v6])] (fun v22 S=>
  stW S 3 v2 v22 fun S=>
  rtW [.cell v2 3 true] QF S) (pqW QF)) (pqW QF))) (pqW QF)) (pqW QF)
theorem w_rules_Check {QF:AEnd→Store→Prop} {v0:AV} {S:Store} (h:B_rules_Check QF v0 S):ACalls PG nr_rules_Check [v0] S QF:=
  acalls_tf (F:=tf_rules_Check) (by kernel_rfl) rfl (by kernel_rfl) h
def tf_rules_Find:TFunc where
  n:=26
  args:=3
  res:=[.cell 6 6 true,.tmp 7]
  code:=.seq (.reg [i1 3 (.boxr 24 1 (.t 0)),
    i1 6 (.alloc 53 [.str ⟨#[]⟩,.nils,.int .i64 0,.str ⟨#[]⟩,.str ⟨#[]⟩,.nils]),
    i1 7 (.mov (.c (.bool false)))] [1,2,3,6] []) (.seq (.reg [i1 11 (.load 1 true (.t 3)),
    i1 12 (.call (.f 91) [.t 11]),
    i1 8 (.mov (.t 12))] [1,2,6,8] []) (.seq (.reg [i1 14 (.mov (.t 8)),
    i1 15 (.mov (.t 1)),
    i1 16 (.mov (.t 2)),
    i1 17 (.call (.f 96) [.t 14,.t 15,.t 16]),
    i1 13 (.mov (.t 17)),
    i1 18 (.extr (.t 13) 0),
    i1 19 (.extr (.t 13) 1),
    .box2 9 163 [.int .i64 0,.int .i64 0] 2 (.t 18),
    i1 10 (.mov (.t 19))] [6,8,9,10] []) (.seq (.seq (.reg [i1 20 (.mov (.t 10)),
    i1 21 (.not (.t 20))] [6,8,9,21] []) (.cond (.t 21) (.seq (.reg [i1 22 (.build [.str ⟨#[]⟩,.nils,.int .i64 0,.str ⟨#[]⟩,.str ⟨#[]⟩,.nils] []),
    i0 (.store 6 (.t 6) (.t 22)),
    i1 7 (.mov (.c (.bool false)))] [6,7] []) (.ret)) (.skip))) (.seq (.reg [i1 23 (.mov (.t 8)),
    i1 24 (.load 2 true (.t 9)),
    i1 25 (.call (.f 97) [.t 23,.t 24]),
    i0 (.store 6 (.t 6) (.t 25)),
    i1 7 (.mov (.c (.bool true)))] [6,7] []) (.ret)))))
abbrev nr_rules_Find:Nat:=48
def B_rules_Find (QF:AEnd→Store→Prop) (v0 v1 v2:AV) (S:Store):Prop:=
  brW 1 v0 fun v3=>
  alW S 53 [.str ⟨#[]⟩,.nils,.int .i64 0,.str ⟨#[]⟩,.str ⟨#[]⟩,.nils] fun v6 S=>
  ldW S 1 true v3 fun v11=>
  caW PG S (.func (.func 91) [] []) [v11] (fun v12 S=>
  caW PG S (.func (.func 96) [] []) [v12,v1,v2] (fun v17 S=>
  exW 0 v17 fun v18=>
  exW 1 v17 fun v19=>
  bfW 2 v18 fun v9=>
  ntW v19 fun v21=>
  cnW v21 (bdW [.str ⟨#[]⟩,.nils,.int .i64 0,.str ⟨#[]⟩,.str ⟨#[]⟩,.nils] [] fun v22=>
  stW S 6 v6 v22 fun S=>
  rtW [.cell v6 6 true,.tmp (.bool false)] QF S)
  (ldW S 2 true v9 fun v24=>
  caW PG S (.func (.func 97) [] []) [v12,v24] (fun v25 S=>
  stW S 6 v6 v25 fun S=>
  rtW [.cell v6 6 true,.tmp (.bool true)] QF S) (pqW QF))) (pqW QF)) (pqW QF)
theorem w_rules_Find {QF:AEnd→Store→Prop} {v0 v1 v2:AV} {S:Store} (h:B_rules_Find QF v0 v1 v2 S):ACalls PG nr_rules_Find [v0,v1,v2] S QF:=
  acalls_tf (F:=tf_rules_Find) (by kernel_rfl) rfl (by kernel_rfl) h
def tf_tuple_Allowed:TFunc where
  n:=41
  args:=2
  res:=[.tmp 4]
  code:=.seq (.reg [i1 2 (.boxr 24 1 (.t 0)),
    i1 3 (.boxr 41 6 (.t 1)),
    i1 4 (.mov (.c (.int .i64 0)))] [2,3] []) (.seq (.seq (.reg [i1 7 (.load 6 true (.t 3)),
    i1 8 (.call (.f 98) [.t 7]),
    i1 9 (.bin .eql (.t 8) (.c (.str ⟨#[]⟩)))] [2,3,9] []) (.cond (.t 9) (.seq (.reg [i1 4 (.mov (.c (.int .i64 1)))] [4] []) (.ret)) (.skip))) (.seq (.reg [i1 11 (.load 1 true (.t 2)),
    i1 12 (.faddr 0 (.t 3)),
    i1 13 (.faddr 0 (.t 12)),
    i1 14 (.load 1 false (.t 13)),
    i1 15 (.faddr 2 (.t 3)),
    i1 16 (.load 1 false (.t 15)),
    i1 17 (.call (.f 48) [.t 11,.t 14,.t 16]),
    i1 10 (.mov (.t 17)),
    i1 18 (.extr (.t 10) 0),
    i1 19 (.extr (.t 10) 1),
    .box2 5 53 [.str ⟨#[]⟩,.nils,.int .i64 0,.str ⟨#[]⟩,.str ⟨#[]⟩,.nils] 6 (.t 18),
    i1 6 (.mov (.t 19))] [2,3,5,6] []) (.seq (.seq (.reg [i1 20 (.mov (.t 6)),
    i1 21 (.not (.t 20)),
    i1 22 (.mov (.t 21)),
    .grp 22 false [s1 23 (.faddr 0 (.t 2)),s1 24 (.load 1 false (.t 23)),s1 25 (.mkf (.func 99) [] [.t 3]),s1 26 (.call (.f 80) [.t 24,.t 25]),s1 27 (.not (.t 26))],
    i1 28 (.pick (.t 22) (.c (.bool true)) (.t 27))] [3,5,28] []) (.cond (.t 28) (.seq (.reg [i1 4 (.mov (.c (.int .i64 6)))] [4] []) (.ret)) (.skip))) (.seq (.seq (.reg [i1 29 (.faddr 1 (.t 5)),
    i1 30 (.load 1 false (.t 29)),
    i1 31 (.faddr 3 (.t 3)),
    i1 32 (.faddr 0 (.t 31)),
    i1 33 (.faddr 0 (.t 32)),
    i1 34 (.load 1 false (.t 33)),
    i1 35 (.faddr 3 (.t 3)),
    i1 36 (.faddr 2 (.t 35)),
    i1 37 (.load 1 false (.t 36)),
    i1 38 (.build [.str ⟨#[]⟩,.str ⟨#[]⟩] [(0,1,.t 34),(1,1,.t 37)]),
    i1 39 (.call (.f 100) [.t 30,.t 38]),
    i1 40 (.not (.t 39))] [40] []) (.cond (.t 40) (.seq (.reg [i1 4 (.mov (.c (.int .i64 10)))] [4] []) (.ret)) (.skip))) (.seq (.reg [i1 4 (.mov (.c (.int .i64 0)))] [4] []) (.ret))))))
abbrev nr_tuple_Allowed:Nat:=49
def C_tuple_Allowed_1 (QF:AEnd→Store→Prop) (v3 v5 v28:AV) (S:Store):Prop:=
  cnW v28 (rtW [.tmp (.int .i64 6)] QF S)
  (faW 1 v5 fun v29=>
  ldW S 1 false v29 fun v30=>
  faW 3 v3 fun v31=>
  faW 0 v31 fun v32=>
  faW 0 v32 fun v33=>
  ldW S 1 false v33 fun v34=>
  faW 3 v3 fun v35=>
  faW 2 v35 fun v36=>
  ldW S 1 false v36 fun v37=>
  bdW [.str ⟨#[]⟩,.str ⟨#[]⟩] [(0,1,v34),(1,1,v37)] fun v38=>
  caW PG S (.func (.func 100) [] []) [v30,v38] (fun v39 S=>
  ntW v39 fun v40=>
  cnW v40 (rtW [.tmp (.int .i64 10)] QF S)
  (rtW [.tmp (.int .i64 0)] QF S)) (pqW QF))
def B_tuple_Allowed (QF:AEnd→Store→Prop) (v0 v1:AV) (S:Store):Prop:=
  brW 1 v0 fun v2=>
  brW 6 v1 fun v3=>
  ldW S 6 true v3 fun v7=>
  caW PG S (.func (.func 98) [] []) [v7] (fun v8 S=>
  biW .eql v8 (.str ⟨#[]⟩) fun v9=>
  cnW v9 (rtW [.tmp (.int .i64 1)] QF S)
  (ldW S 1 true v2 fun v11=>
  faW 0 v3 fun v12=>
  faW 0 v12 fun v13=>
  ldW S 1 false v13 fun v14=>
  faW 2 v3 fun v15=>
  ldW S 1 false v15 fun v16=>
  caW PG S (.func (.func 48) [] []) [v11,v14,v16] (fun v17 S=>
  exW 0 v17 fun v18=>
  exW 1 v17 fun v19=>
  bfW 6 v18 fun v5=>
  ntW v19 fun v21=>
  grW v21 false (faW 0 v2 fun v23=>
  ldW S 1 false v23 fun v24=>
  caW PG S (.func (.func 80) [] []) [v24,(.func (.func 99) [] [v3])] (fun v26 S=>
  ntW v26 fun v27=>
  pkW v21 (.bool true) v27 fun v28=>
  C_tuple_Allowed_1 QF v3 v5 v28 S) (pqW QF))
  (pkW v21 (.bool true) undefA fun v28=>
  C_tuple_Allowed_1 QF v3 v5 v28 S)) (pqW QF))) (pqW QF)
theorem w_tuple_Allowed {QF:AEnd→Store→Prop} {v0 v1:AV} {S:Store} (h:B_tuple_Allowed QF v0 v1 S):ACalls PG nr_tuple_Allowed [v0,v1] S QF:=
  acalls_tf (F:=tf_tuple_Allowed) (by kernel_rfl) rfl (by kernel_rfl) h
def tf_engine_search_ask:TFunc where
  n:=74
  args:=3
  res:=[.tmp 6]
  code:=.seq (.reg [i1 4 (.boxr 27 2 (.t 1)),
    i1 6 (.mov (.c (.bool false)))] [0,2,4] []) (.seq (.regl [0,1,2,4,6,3,5,7,8,9,10,11,12,13] [i1 12 (.mov (.t 0)),
    i1 13 (.nilck (.t 12)),
    i1 14 (.faddr 0 (.t 13)),
    i1 16 (.faddr 0 (.t 4)),
    i1 18 (.mov (.t 2)),
    i1 15 (.load 1 true (.t 14)),
    i1 17 (.load 1 false (.t 16)),
    i1 19 (.call (.f 48) [.t 15,.t 17,.t 18]),
    i1 11 (.mov (.t 19)),
    i1 20 (.extr (.t 11) 0),
    i1 21 (.extr (.t 11) 1),
    i1 7 (.alloc 53 [.str ⟨#[]⟩,.nils,.int .i64 0,.str ⟨#[]⟩,.str ⟨#[]⟩,.nils]),
    i0 (.store 6 (.t 7) (.t 20)),
    i1 8 (.mov (.t 21))] [0,2,4,7,8] [7]) (.seq (.seq (.reg [i1 22 (.mov (.t 8)),
    i1 23 (.not (.t 22))] [0,2,4,7,23] []) (.cond (.t 23) (.seq (.reg [i1 6 (.mov (.c (.bool false)))] [6] []) (.ret)) (.skip))) (.seq (.reg [i1 24 (.mov (.t 0)),
    i1 25 (.nilck (.t 24)),
    i1 26 (.faddr 5 (.t 25)),
    i1 27 (.load 1 false (.t 26)),
    i1 28 (.bin .add (.t 27) (.c (.int .i64 1))),
    i1 29 (.nilck (.t 24)),
    i1 30 (.faddr 5 (.t 29)),
    i0 (.store 1 (.t 30) (.t 28))] [0,2,4,7] []) (.seq (.seq (.regl [0,1,2,4,5,6,3,7,8,9,10,11,12,13,14,15,16] [i1 31 (.mov (.t 0)),
    i1 32 (.nilck (.t 31)),
    i1 33 (.faddr 5 (.t 32)),
    i1 35 (.mov (.t 0)),
    i1 36 (.nilck (.t 35)),
    i1 37 (.faddr 4 (.t 36)),
    i1 34 (.load 1 false (.t 33)),
    i1 38 (.load 1 false (.t 37)),
    i1 39 (.bin .gtr (.t 34) (.t 38)),
    i1 40 (.mov (.t 39)),
    .grp 40 false [s1 41 (.mov (.t 0)),s1 42 (.nilck (.t 41)),s1 43 (.faddr 6 (.t 42)),s1 44 (.load 1 false (.t 43)),s1 45 (.len 2 (.t 44)),s1 46 (.bin .eql (.t 45) (.c (.int .i64 50)))],
    i1 47 (.pick (.t 40) (.c (.bool true)) (.t 46))] [0,2,4,7,47] []) (.cond (.t 47) (.reg [i1 48 (.build [] []),
    i1 49 (.mki 100 (.t 48)),
    i0 (.panic (.t 49))] [0,2,4,7] []) (.skip))) (.seq (.reg [i1 50 (.load 2 true (.t 4)),
    i1 51 (.mov (.t 2)),
    i1 52 (.build [.str ⟨#[]⟩,.str ⟨#[]⟩,.str ⟨#[]⟩] [(0,2,.t 50),(2,1,.t 51)]),
    .box2 9 97 [.str ⟨#[]⟩,.str ⟨#[]⟩,.str ⟨#[]⟩] 3 (.t 52)] [0,7,9] []) (.seq (.seq (.regl [0,1,2,3,4,5] [i1 53 (.mov (.t 0)),
    i1 54 (.nilck (.t 53)),
    i1 55 (.faddr 6 (.t 54)),
    i1 56 (.load 1 false (.t 55)),
    i1 57 (.load 3 true (.t 9)),
    i1 58 (.lookup (true,[.str,.str,.str]) false (.bool false) (.t 56) (.t 57))] [0,7,9,58] []) (.cond (.t 58) (.seq (.reg [i1 6 (.mov (.c (.bool false)))] [6] []) (.ret)) (.skip))) (.seq (.regl [0,1,2,3,4,5] [i1 59 (.mov (.t 0)),
    i1 60 (.nilck (.t 59)),
    i1 61 (.faddr 6 (.t 60)),
    i1 62 (.load 1 false (.t 61)),
    i1 63 (.load 3 true (.t 9)),
    i0 (.mupd (true,[.str,.str,.str]) (.t 62) (.t 63) (.c (.bool true)))] [0,7,9] []) (.seq (.reg [i1 64 (.mov (.t 0)),
    i1 65 (.load 3 true (.t 9)),
    i1 66 (.load 6 true (.t 7)),
    i1 67 (.call (.f 101) [.t 64,.t 65,.t 66]),
    i1 10 (.mov (.t 67))] [0,9,10] []) (.seq (.regl [0,1,2,3,4,5] [i1 68 (.mov (.t 0)),
    i1 69 (.nilck (.t 68)),
    i1 70 (.faddr 6 (.t 69)),
    i1 71 (.load 1 false (.t 70)),
    i1 72 (.load 3 true (.t 9)),
    i0 (.mdel (true,[.str,.str,.str]) (.t 71) (.t 72))] [10] []) (.seq (.reg [i1 73 (.mov (.t 10)),
    i1 6 (.mov (.t 73))] [6] []) (.ret)))))))))))
abbrev nr_engine_search_ask:Nat:=51
def C_engine_search_ask_1 (QF:AEnd→Store→Prop) (v0 v2 v4 v7:AV) (S:Store):Prop:=
  ldW S 2 true v4 fun v50=>
  bdW [.str ⟨#[]⟩,.str ⟨#[]⟩,.str ⟨#[]⟩] [(0,2,v50),(2,1,v2)] fun v52=>
  bfW 3 v52 fun v9=>
  nkW v0 fun v54=>
  faW 6 v54 fun v55=>
  ldW S 1 false v55 fun v56=>
  ldW S 3 true v9 fun v57=>
  lkW S (true,[.str,.str,.str]) false (.bool false) v56 v57 fun v58=>
  cnW v58 (rtW [.tmp (.bool false)] QF S)
  (nkW v0 fun v60=>
  faW 6 v60 fun v61=>
  ldW S 1 false v61 fun v62=>
  ldW S 3 true v9 fun v63=>
  muW S (true,[.str,.str,.str]) v62 v63 (.bool true) fun S=>
  ldW S 3 true v9 fun v65=>
  ldW S 6 true v7 fun v66=>
  caW PG S (.func (.func 101) [] []) [v0,v65,v66] (fun v67 S=>
  nkW v0 fun v69=>
  faW 6 v69 fun v70=>
  ldW S 1 false v70 fun v71=>
  ldW S 3 true v9 fun v72=>
  mdW S (true,[.str,.str,.str]) v71 v72 fun S=>
  rtW [.tmp v67] QF S) (pqW QF))
def B_engine_search_ask (QF:AEnd→Store→Prop) (v0 v1 v2:AV) (S:Store):Prop:=
  brW 2 v1 fun v4=>
  nkW v0 fun v13=>
  faW 0 v13 fun v14=>
  faW 0 v4 fun v16=>
  ldW S 1 true v14 fun v15=>
  ldW S 1 false v16 fun v17=>
  caW PG S (.func (.func 48) [] []) [v15,v17,v2] (fun v19 S=>
  exW 0 v19 fun v20=>
  exW 1 v19 fun v21=>
  alW S 53 [.str ⟨#[]⟩,.nils,.int .i64 0,.str ⟨#[]⟩,.str ⟨#[]⟩,.nils] fun v7 S=>
  stW S 6 v7 v20 fun S=>
  fzW S v7 fun v7 S=>
  ntW v21 fun v23=>
  cnW v23 (rtW [.tmp (.bool false)] QF S)
  (nkW v0 fun v25=>
  faW 5 v25 fun v26=>
  ldW S 1 false v26 fun v27=>
  biW .add v27 (.int .i64 1) fun v28=>
  nkW v0 fun v29=>
  faW 5 v29 fun v30=>
  stW S 1 v30 v28 fun S=>
  nkW v0 fun v32=>
  faW 5 v32 fun v33=>
  nkW v0 fun v36=>
  faW 4 v36 fun v37=>
  ldW S 1 false v33 fun v34=>
  ldW S 1 false v37 fun v38=>
  biW .gtr v34 v38 fun v39=>
  grW v39 false (nkW v0 fun v42=>
  faW 6 v42 fun v43=>
  ldW S 1 false v43 fun v44=>
  lnW S 2 v44 fun v45=>
  biW .eql v45 (.int .i64 50) fun v46=>
  pkW v39 (.bool true) v46 fun v47=>
  cnW v47 (bdW [] [] fun v48=>
  paW S (.iface 100 v48) (pqW QF))
  (C_engine_search_ask_1 QF v0 v2 v4 v7 S))
  (pkW v39 (.bool true) undefA fun v47=>
  cnW v47 (bdW [] [] fun v48=>
  paW S (.iface 100 v48) (pqW QF))
  (C_engine_search_ask_1 QF v0 v2 v4 v7 S)))) (pqW QF)
theorem w_engine_search_ask {QF:AEnd→Store→Prop} {v0 v1 v2:AV} {S:Store} (h:B_engine_search_ask QF v0 v1 v2 S):ACalls PG nr_engine_search_ask [v0,v1,v2] S QF:=
  acalls_tf (F:=tf_engine_search_ask) (by kernel_rfl) rfl (by kernel_rfl) h
def tf_ref12_Check:TFunc where
  n:=46
  args:=1
  res:=[.cell 2 3 true]
  code:=.seq (.reg [i1 1 (.boxr 24 1 (.t 0)),
    i1 2 (.alloc 88 [.int .i64 0,.int .i64 0,.int .i64 0])] [1,2] []) (.seq (.reg [i1 8 (.load 1 true (.t 1)),
    i1 9 (.call (.f 102) [.t 8]),
    .box2 3 88 [.int .i64 0,.int .i64 0,.int .i64 0] 3 (.t 9)] [1,2,3] []) (.seq (.seq (.reg [i1 10 (.faddr 2 (.t 3)),
    i1 11 (.load 1 false (.t 10)),
    i1 12 (.bin .neq (.t 11) (.c (.int .i64 0)))] [1,2,3,12] []) (.cond (.t 12) (.seq (.reg [i1 13 (.load 3 true (.t 3)),
    i0 (.store 3 (.t 2) (.t 13))] [2] []) (.ret)) (.skip))) (.seq (.reg [i1 14 (.load 1 true (.t 1)),
    i1 15 (.call (.f 65) [.t 14]),
    i1 4 (.mov (.t 15))] [1,2,4] []) (.seq (.reg [i1 16 (.load 1 true (.t 1)),
    i1 17 (.call (.f 103) [.t 16]),
    i1 5 (.mov (.t 17))] [2,4,5] []) (.seq (.seq (.reg [i1 6 (.mov (.c (.int .i64 0)))] [2,4,5,6] []) (.block 0 (.loop [2,4,5,6] (.seq (.seq (.reg [i1 18 (.mov (.t 6)),
    i1 19 (.mov (.t 4)),
    i1 20 (.len 1 (.t 19)),
    i1 21 (.bin .lss (.t 18) (.t 20))] [2,4,5,6,21] []) (.cond (.t 21) (.skip) (.exit 0))) (.seq (.block 1 (.seq (.reg [i1 7 (.mov (.c (.int .i64 0)))] [2,4,5,6,7] []) (.block 2 (.loop [2,4,5,6,7] (.seq (.seq (.reg [i1 24 (.mov (.t 7)),
    i1 25 (.mov (.t 4)),
    i1 26 (.mov (.t 6)),
    i1 27 (.iaddr 1 (.t 25) (.t 26)),
    i1 28 (.load 1 false (.t 27)),
    i1 29 (.len 1 (.t 28)),
    i1 30 (.bin .lss (.t 24) (.t 29))] [2,4,5,6,7,30] []) (.cond (.t 30) (.skip) (.exit 2))) (.seq (.block 3 (.seq (.reg [i1 33 (.mov (.t 4)),
    i1 34 (.mov (.t 6)),
    i1 35 (.iaddr 1 (.t 33) (.t 34)),
    i1 36 (.load 1 false (.t 35)),
    i1 37 (.mov (.t 7)),
    i1 38 (.iaddr 1 (.t 36) (.t 37)),
    i1 39 (.load 1 false (.t 38)),
    i1 40 (.mov (.t 5)),
    i1 41 (.bin .gtr (.t 39) (.t 40))] [2,4,5,6,7,41] []) (.cond (.t 41) (.seq (.reg [i1 42 (.mov (.t 6)),
    i1 43 (.mov (.t 7)),
    i1 44 (.build [.int .i64 0,.int .i64 0,.int .i64 0] [(0,1,.t 42),(1,1,.t 43),(2,1,.c (.int .i64 11))]),
    i0 (.store 3 (.t 2) (.t 44))] [2] []) (.ret)) (.skip)))) (.reg [i1 31 (.mov (.t 7)),
    i1 32 (.bin .add (.t 31) (.c (.int .i64 1))),
    i1 7 (.mov (.t 32))] [2,4,5,6,7] []))))))) (.reg [i1 22 (.mov (.t 6)),
    i1 23 (.bin .add (.t 22) (.c (.int .i64 1))),
    i1 6 (.mov (.t 23))] [2,4,5,6] [])))))) (.seq (.reg [i1 45 (.build [.int .i64 0,.int .i64 0,.int .i64 0] []),
    i0 (.store 3 (.t 2) (.t 45))] [2] []) (.ret)))))))
abbrev nr_ref12_Check:Nat:=52
def C_ref12_Check_2 (QF:AEnd→Store→Prop) (r0:LE→Store→Prop) (r1:LE→Store→Prop) (v2 v4 v5 v6 v7:AV) (S:Store):Prop:=
  iaW 1 v4 v6 fun v27=>
  ldW S 1 false v27 fun v28=>
  lnW S 1 v28 fun v29=>
  biW .lss v7 v29 fun v30=>
  cnW v30 (iaW 1 v4 v6 fun v35=>
  ldW S 1 false v35 fun v36=>
  iaW 1 v36 v7 fun v38=>
  ldW S 1 false v38 fun v39=>
  biW .gtr v39 v5 fun v41=>
  cnW v41 (bdW [.int .i64 0,.int .i64 0,.int .i64 0] [(0,1,v6),(1,1,v7),(2,1,(.int .i64 11))] fun v44=>
  stW S 3 v2 v44 fun S=>
  rtW [.cell v2 3 true] QF S)
  (biW .add v7 (.int .i64 1) fun v32=>
  rcW r1 [(2,v2),(4,v4),(5,v5),(6,v6),(7,v32)] S))
  (biW .add v6 (.int .i64 1) fun v23=>
  rcW r0 [(2,v2),(4,v4),(5,v5),(6,v23)] S)
def C_ref12_Check_1 (QF:AEnd→Store→Prop) (r0:LE→Store→Prop) (v2 v4 v5 v6:AV) (S:Store):Prop:=
  lnW S 1 v4 fun v20=>
  biW .lss v6 v20 fun v21=>
  cnW v21 (LoopP (fun r1 l S=>C_ref12_Check_2 QF r0 r1 (lget l 2) (lget l 4) (lget l 5) (lget l 6) (lget l 7) S) [(2,v2),(4,v4),(5,v5),(6,v6),(7,(.int .i64 0))] S)
  (bdW [.int .i64 0,.int .i64 0,.int .i64 0] [] fun v45=>
  stW S 3 v2 v45 fun S=>
  rtW [.cell v2 3 true] QF S)
def B_ref12_Check (QF:AEnd→Store→Prop) (v0:AV) (S:Store):Prop:=
  brW 1 v0 fun v1=>
  alW S 88 [.int .i64 0,.int .i64 0,.int .i64 0] fun v2 S=>
  ldW S 1 true v1 fun v8=>
  caW PG S (.func (.func 102) [] []) [v8] (fun v9 S=>
  bfW 3 v9 fun v3=>
  faW 2 v3 fun v10=>
  ldW S 1 false v10 fun v11=>
  biW .neq v11 (.int .i64 0) fun v12=>
  cnW v12 (ldW S 3 true v3 fun v13=>
  stW S 3 v2 v13 fun S=>
  rtW [.cell v2 3 true] QF S)
  (ldW S 1 true v1 fun v14=>
  caW PG S (.func (.func 65) [] []) [v14] (fun v15 S=>
  ldW S 1 true v1 fun v16=>
  caW PG S (.func (.func 103) [] []) [v16] (fun v17 S=>
  LoopP (fun r0 l S=>C_ref12_Check_1 QF r0 (lget l 2) (lget l 4) (lget l 5) (lget l 6) S) [(2,v2),(4,v15),(5,v17),(6,(.int .i64 0))] S) (pqW QF)) (pqW QF))) (pqW QF)
theorem w_ref12_Check {QF:AEnd→Store→Prop} {v0:AV} {S:Store} (h:B_ref12_Check QF v0 S):ACalls PG nr_ref12_Check [v0] S QF:=
  acalls_tf (F:=tf_ref12_Check) (by kernel_rfl) rfl (by kernel_rfl) h
end Go.HL
