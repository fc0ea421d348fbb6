/- A part of a proof. -/
import Derived.Test.YtadmdlpmikoghaaGreatKhHlP
set_option maxRecDepth 100000
set_option linter.unusedVariables false
namespace Go.HL
def tf_ref12_rows:TFunc where
  n:=45
  args:=1
  res:=[.tmp 2]
  code:=.seq (.reg [i1 1 (.boxr 24 1 (.t 0)),
    i1 2 (.mov (.c (.nils)))] [1] []) (.seq (.reg [i1 3 (.mov (.c (.nils)))] [1,3] []) (.seq (.seq (.reg [i1 4 (.mov (.c (.int .i64 0)))] [1,3,4] []) (.block 0 (.loop [1,3,4] (.seq (.seq (.reg [i1 7 (.mov (.t 4)),
    i1 8 (.faddr 0 (.t 1)),
    i1 9 (.load 1 false (.t 8)),
    i1 10 (.len 1 (.t 9)),
    i1 11 (.bin .lss (.t 7) (.t 10))] [1,3,4,11] []) (.cond (.t 11) (.skip) (.exit 0))) (.seq (.block 1 (.seq (.reg [i1 5 (.mov (.c (.int .i64 0)))] [1,3,4,5] []) (.block 2 (.loop [1,3,4,5] (.seq (.seq (.reg [i1 14 (.mov (.t 5)),
    i1 15 (.faddr 0 (.t 1)),
    i1 16 (.load 1 false (.t 15)),
    i1 17 (.mov (.t 4)),
    i1 18 (.iaddr 2 (.t 16) (.t 17)),
    i1 19 (.faddr 1 (.t 18)),
    i1 20 (.load 1 false (.t 19)),
    i1 21 (.len 1 (.t 20)),
    i1 22 (.bin .lss (.t 14) (.t 21))] [1,3,4,5,22] []) (.cond (.t 22) (.skip) (.exit 2))) (.seq (.block 3 (.seq (.regl [1,2,4,8,0,3,5,6,7,9,10,11,12] [i1 26 (.mov (.t 4)),
    i1 27 (.faddr 0 (.t 1)),
    i1 29 (.mov (.t 4)),
    i1 33 (.mov (.t 5)),
    i1 25 (.load 1 true (.t 1)),
    i1 28 (.load 1 false (.t 27)),
    i1 30 (.iaddr 2 (.t 28) (.t 29)),
    i1 31 (.faddr 1 (.t 30)),
    i1 32 (.load 1 false (.t 31)),
    i1 34 (.iaddr 6 (.t 32) (.t 33)),
    i1 35 (.load 6 true (.t 34)),
    i1 36 (.call (.f 167) [.t 25,.t 26,.t 35]),
    i1 6 (.mov (.t 36))] [1,3,4,5,6] []) (.reg [i1 37 (.mov (.t 3)),
    i1 38 (.mov (.t 4)),
    i1 39 (.mov (.t 5)),
    i1 40 (.mov (.t 6)),
    i1 41 (.build [.int .i64 0,.int .i64 0,.nils] [(0,1,.t 38),(1,1,.t 39),(2,1,.t 40)]),
    i1 42 (.bslicr 251 3 [.t 41]),
    i1 43 (.app 251 3 40 (.t 37) (.t 42)),
    i1 3 (.mov (.t 43))] [1,3,4,5] []))) (.reg [i1 23 (.mov (.t 5)),
    i1 24 (.bin .add (.t 23) (.c (.int .i64 1))),
    i1 5 (.mov (.t 24))] [1,3,4,5] []))))))) (.reg [i1 12 (.mov (.t 4)),
    i1 13 (.bin .add (.t 12) (.c (.int .i64 1))),
    i1 4 (.mov (.t 13))] [1,3,4] [])))))) (.seq (.reg [i1 44 (.mov (.t 3)),
    i1 2 (.mov (.t 44))] [2] []) (.ret))))
abbrev nr_ref12_rows:Nat:=118
def C_ref12_rows_2 (QF:AEnd→Store→Prop) (r0:LE→Store→Prop) (r1:LE→Store→Prop) (v1 v3 v4 v5:AV) (S:Store):Prop:=
  faW 0 v1 fun v15=>
  ldW S 1 false v15 fun v16=>
  iaW 2 v16 v4 fun v18=>
  faW 1 v18 fun v19=>
  ldW S 1 false v19 fun v20=>
  lnW S 1 v20 fun v21=>
  biW .lss v5 v21 fun v22=>
  cnW v22 (faW 0 v1 fun v27=>
  ldW S 1 true v1 fun v25=>
  ldW S 1 false v27 fun v28=>
  iaW 2 v28 v4 fun v30=>
  faW 1 v30 fun v31=>
  ldW S 1 false v31 fun v32=>
  iaW 6 v32 v5 fun v34=>
  ldW S 6 true v34 fun v35=>
  caW PG S (.func (.func 167) [] []) [v25,v4,v35] (fun v36 S=>
  bdW [.int .i64 0,.int .i64 0,.nils] [(0,1,v4),(1,1,v5),(2,1,v36)] fun v41=>
  srW 3 [v41] fun v42=>
  apW S 251 3 40 v3 v42 fun v43 S=>
  biW .add v5 (.int .i64 1) fun v24=>
  rcW r1 [(1,v1),(3,v43),(4,v4),(5,v24)] S) (pqW QF))
  (biW .add v4 (.int .i64 1) fun v13=>
  rcW r0 [(1,v1),(3,v3),(4,v13)] S)
def C_ref12_rows_1 (QF:AEnd→Store→Prop) (r0:LE→Store→Prop) (v1 v3 v4:AV) (S:Store):Prop:=
  faW 0 v1 fun v8=>
  ldW S 1 false v8 fun v9=>
  lnW S 1 v9 fun v10=>
  biW .lss v4 v10 fun v11=>
  cnW v11 (LoopP (fun r1 l S=>C_ref12_rows_2 QF r0 r1 (lget l 1) (lget l 3) (lget l 4) (lget l 5) S) [(1,v1),(3,v3),(4,v4),(5,(.int .i64 0))] S)
  (rtW [.tmp v3] QF S)
def B_ref12_rows (QF:AEnd→Store→Prop) (v0:AV) (S:Store):Prop:=
  brW 1 v0 fun v1=>
  LoopP (fun r0 l S=>C_ref12_rows_1 QF r0 (lget l 1) (lget l 3) (lget l 4) S) [(1,v1),(3,(.nils)),(4,(.int .i64 0))] S
theorem w_ref12_rows {QF:AEnd→Store→Prop} {v0:AV} {S:Store} (h:B_ref12_rows QF v0 S):ACalls PG nr_ref12_rows [v0] S QF:=
  acalls_tf (F:=tf_ref12_rows) (by kernel_rfl) rfl (by kernel_rfl) h
def tf_ref12_raised:TFunc where
  n:=88
  args:=2
  res:=[.tmp 4]
  code:=.seq (.reg [i1 4 (.mov (.c (.bool false)))] [0,1] []) (.seq (.reg [i1 5 (.mov (.c (.bool false)))] [0,1,5] []) (.seq (.seq (.reg [i1 6 (.mov (.c (.int .i64 0)))] [0,1,5,6] []) (.block 0 (.loop [0,1,5,6] (.seq (.seq (.reg [i1 12 (.mov (.t 6)),
    i1 13 (.mov (.t 0)),
    i1 14 (.len 1 (.t 13)),
    i1 15 (.bin .lss (.t 12) (.t 14))] [0,1,5,6,15] []) (.cond (.t 15) (.skip) (.exit 0))) (.seq (.block 1 (.seq (.reg [i1 18 (.mov (.t 0)),
    i1 19 (.mov (.t 6)),
    i1 20 (.iaddr 3 (.t 18) (.t 19)),
    i1 21 (.faddr 0 (.t 20)),
    i1 22 (.load 1 false (.t 21)),
    i1 7 (.mov (.t 22))] [0,1,5,6,7] []) (.seq (.reg [i1 23 (.mov (.t 0)),
    i1 24 (.mov (.t 6)),
    i1 25 (.iaddr 3 (.t 23) (.t 24)),
    i1 26 (.faddr 1 (.t 25)),
    i1 27 (.load 1 false (.t 26)),
    i1 8 (.mov (.t 27))] [0,1,5,6,7,8] []) (.seq (.reg [i1 9 (.mov (.c (.int .i64 0)))] [0,1,5,6,7,8,9] []) (.block 2 (.loop [0,1,5,6,7,8,9] (.seq (.seq (.reg [i1 28 (.mov (.t 9)),
    i1 29 (.mov (.t 0)),
    i1 30 (.mov (.t 6)),
    i1 31 (.iaddr 3 (.t 29) (.t 30)),
    i1 32 (.faddr 2 (.t 31)),
    i1 33 (.load 1 false (.t 32)),
    i1 34 (.len 1 (.t 33)),
    i1 35 (.bin .lss (.t 28) (.t 34))] [0,1,5,6,7,8,9,35] []) (.cond (.t 35) (.skip) (.exit 2))) (.seq (.block 3 (.seq (.reg [i1 38 (.mov (.t 0)),
    i1 39 (.mov (.t 6)),
    i1 40 (.iaddr 3 (.t 38) (.t 39)),
    i1 41 (.faddr 2 (.t 40)),
    i1 42 (.load 1 false (.t 41)),
    i1 43 (.mov (.t 9)),
    i1 44 (.iaddr 3 (.t 42) (.t 43)),
    i1 45 (.load 3 true (.t 44)),
    .box2 10 253 [.int .i64 0,.int .i64 0,.bool false] 3 (.t 45)] [0,1,5,6,7,8,9,10] []) (.seq (.regl [0,1,5,2,3,4,6,7,8,9] [i1 46 (.mov (.t 1)),
    i1 47 (.faddr 0 (.t 10)),
    i1 51 (.faddr 1 (.t 10)),
    i1 48 (.load 1 false (.t 47)),
    i1 49 (.iaddr 1 (.t 46) (.t 48)),
    i1 50 (.load 1 false (.t 49)),
    i1 52 (.load 1 false (.t 51)),
    i1 53 (.iaddr 1 (.t 50) (.t 52)),
    i1 54 (.load 1 false (.t 53)),
    i1 11 (.mov (.t 54))] [0,1,5,6,7,8,9,10,11] []) (.seq (.seq (.reg [i1 55 (.faddr 2 (.t 10)),
    i1 56 (.load 1 false (.t 55))] [0,1,5,6,7,8,9,11,56] []) (.cond (.t 56) (.reg [i1 57 (.mov (.t 11)),
    i1 58 (.bin .add (.t 57) (.c (.int .i64 1))),
    i1 11 (.mov (.t 58))] [0,1,5,6,7,8,9,11] []) (.skip))) (.seq (.reg [i1 59 (.mov (.t 1)),
    i1 60 (.mov (.t 7)),
    i1 61 (.iaddr 1 (.t 59) (.t 60)),
    i1 62 (.load 1 false (.t 61)),
    i1 63 (.mov (.t 8)),
    i1 64 (.iaddr 1 (.t 62) (.t 63)),
    i1 65 (.load 1 false (.t 64)),
    i1 66 (.mov (.t 11)),
    i1 67 (.bin .lss (.t 65) (.t 66)),
    i1 68 (.mov (.t 67)),
    .grp 68 true [s1 69 (.mov (.t 1)),s1 70 (.mov (.t 7)),s1 71 (.iaddr 1 (.t 69) (.t 70)),s1 72 (.load 1 false (.t 71)),s1 73 (.mov (.t 8)),s1 74 (.iaddr 1 (.t 72) (.t 73)),s1 75 (.load 1 false (.t 74)),s1 76 (.mov (.t 0)),s1 77 (.len 1 (.t 76)),s1 78 (.bin .leq (.t 75) (.t 77))],
    i1 79 (.pick (.t 68) (.t 78) (.c (.bool false)))] [0,1,5,6,7,8,9,11,79] []) (.cond (.t 79) (.seq (.reg [i1 80 (.mov (.t 1)),
    i1 81 (.mov (.t 7)),
    i1 82 (.iaddr 1 (.t 80) (.t 81)),
    i1 83 (.load 1 false (.t 82)),
    i1 84 (.mov (.t 8)),
    i1 85 (.mov (.t 11)),
    i1 86 (.iaddr 1 (.t 83) (.t 84)),
    i0 (.store 1 (.t 86) (.t 85))] [0,1,6,7,8,9] []) (.reg [i1 5 (.mov (.c (.bool true)))] [0,1,5,6,7,8,9] [])) (.skip))))))) (.reg [i1 36 (.mov (.t 9)),
    i1 37 (.bin .add (.t 36) (.c (.int .i64 1))),
    i1 9 (.mov (.t 37))] [0,1,5,6,7,8,9] []))))))))) (.reg [i1 16 (.mov (.t 6)),
    i1 17 (.bin .add (.t 16) (.c (.int .i64 1))),
    i1 6 (.mov (.t 17))] [0,1,5,6] [])))))) (.seq (.reg [i1 87 (.mov (.t 5)),
    i1 4 (.mov (.t 87))] [4] []) (.ret))))
abbrev nr_ref12_raised:Nat:=119
def C_ref12_raised_4 (QF:AEnd→Store→Prop) (r0:LE→Store→Prop) (r1:LE→Store→Prop) (v0 v1 v5 v6 v7 v8 v9 v11 v79:AV) (S:Store):Prop:=
  cnW v79 (iaW 1 v1 v7 fun v82=>
  ldW S 1 false v82 fun v83=>
  iaW 1 v83 v8 fun v86=>
  stW S 1 v86 v11 fun S=>
  biW .add v9 (.int .i64 1) fun v37=>
  rcW r1 [(0,v0),(1,v1),(5,(.bool true)),(6,v6),(7,v7),(8,v8),(9,v37)] S)
  (biW .add v9 (.int .i64 1) fun v37=>
  rcW r1 [(0,v0),(1,v1),(5,v5),(6,v6),(7,v7),(8,v8),(9,v37)] S)
def C_ref12_raised_3 (QF:AEnd→Store→Prop) (r0:LE→Store→Prop) (r1:LE→Store→Prop) (v0 v1 v5 v6 v7 v8 v9 v11:AV) (S:Store):Prop:=
  iaW 1 v1 v7 fun v61=>
  ldW S 1 false v61 fun v62=>
  iaW 1 v62 v8 fun v64=>
  ldW S 1 false v64 fun v65=>
  biW .lss v65 v11 fun v67=>
  grW v67 true (iaW 1 v1 v7 fun v71=>
  ldW S 1 false v71 fun v72=>
  iaW 1 v72 v8 fun v74=>
  ldW S 1 false v74 fun v75=>
  lnW S 1 v0 fun v77=>
  biW .leq v75 v77 fun v78=>
  pkW v67 v78 (.bool false) fun v79=>
  C_ref12_raised_4 QF r0 r1 v0 v1 v5 v6 v7 v8 v9 v11 v79 S)
  (pkW v67 undefA (.bool false) fun v79=>
  C_ref12_raised_4 QF r0 r1 v0 v1 v5 v6 v7 v8 v9 v11 v79 S)
def C_ref12_raised_2 (QF:AEnd→Store→Prop) (r0:LE→Store→Prop) (r1:LE→Store→Prop) (v0 v1 v5 v6 v7 v8 v9:AV) (S:Store):Prop:=
  iaW 3 v0 v6 fun v31=>
  faW 2 v31 fun v32=>
  ldW S 1 false v32 fun v33=>
  lnW S 1 v33 fun v34=>
  biW .lss v9 v34 fun v35=>
  cnW v35 (iaW 3 v0 v6 fun v40=>
  faW 2 v40 fun v41=>
  ldW S 1 false v41 fun v42=>
  iaW 3 v42 v9 fun v44=>
  ldW S 3 true v44 fun v45=>
  bfW 3 v45 fun v10=>
  faW 0 v10 fun v47=>
  faW 1 v10 fun v51=>
  ldW S 1 false v47 fun v48=>
  iaW 1 v1 v48 fun v49=>
  ldW S 1 false v49 fun v50=>
  ldW S 1 false v51 fun v52=>
  iaW 1 v50 v52 fun v53=>
  ldW S 1 false v53 fun v54=>
  faW 2 v10 fun v55=>
  ldW S 1 false v55 fun v56=>
  cnW v56 (biW .add v54 (.int .i64 1) fun v58=>
  C_ref12_raised_3 QF r0 r1 v0 v1 v5 v6 v7 v8 v9 v58 S)
  (C_ref12_raised_3 QF r0 r1 v0 v1 v5 v6 v7 v8 v9 v54 S))
  (biW .add v6 (.int .i64 1) fun v17=>
  rcW r0 [(0,v0),(1,v1),(5,v5),(6,v17)] S)
def C_ref12_raised_1 (QF:AEnd→Store→Prop) (r0:LE→Store→Prop) (v0 v1 v5 v6:AV) (S:Store):Prop:=
  lnW S 1 v0 fun v14=>
  biW .lss v6 v14 fun v15=>
  cnW v15 (iaW 3 v0 v6 fun v20=>
  faW 0 v20 fun v21=>
  ldW S 1 false v21 fun v22=>
  iaW 3 v0 v6 fun v25=>
  faW 1 v25 fun v26=>
  ldW S 1 false v26 fun v27=>
  LoopP (fun r1 l S=>C_ref12_raised_2 QF r0 r1 (lget l 0) (lget l 1) (lget l 5) (lget l 6) (lget l 7) (lget l 8) (lget l 9) S) [(0,v0),(1,v1),(5,v5),(6,v6),(7,v22),(8,v27),(9,(.int .i64 0))] S)
  (rtW [.tmp v5] QF S)
def B_ref12_raised (QF:AEnd→Store→Prop) (v0 v1:AV) (S:Store):Prop:=
  LoopP (fun r0 l S=>C_ref12_raised_1 QF r0 (lget l 0) (lget l 1) (lget l 5) (lget l 6) S) [(0,v0),(1,v1),(5,(.bool false)),(6,(.int .i64 0))] S
theorem w_ref12_raised {QF:AEnd→Store→Prop} {v0 v1:AV} {S:Store} (h:B_ref12_raised QF v0 v1 S):ACalls PG nr_ref12_raised [v0,v1] S QF:=
  acalls_tf (F:=tf_ref12_raised) (by kernel_rfl) rfl (by kernel_rfl) h
def tf_ref10_ShowTuple:TFunc where
  n:=33
  args:=1
  res:=[.tmp 2]
  code:=.seq (.reg [i1 1 (.boxr 41 6 (.t 0)),
    i1 2 (.mov (.c (.str ⟨#[]⟩)))] [1] []) (.seq (.reg [i1 6 (.faddr 0 (.t 1)),
    i1 7 (.load 2 true (.t 6)),
    i1 8 (.call (.f 40) [.t 7]),
    i1 3 (.mov (.t 8))] [1,3] []) (.seq (.reg [i1 9 (.faddr 3 (.t 1)),
    i1 10 (.load 3 true (.t 9)),
    i1 11 (.call (.f 39) [.t 10]),
    i1 4 (.mov (.t 11))] [1,3,4] []) (.seq (.reg [i1 12 (.faddr 2 (.t 1)),
    i1 13 (.load 1 false (.t 12)),
    i1 14 (.call (.f 78) [.t 13]),
    i1 5 (.mov (.t 14))] [1,3,4,5] []) (.seq (.seq (.reg [i1 15 (.mov (.t 3)),
    i1 16 (.bin .eql (.t 15) (.c (.str ⟨#[]⟩))),
    i1 17 (.mov (.t 16)),
    .grp 17 false [s1 18 (.mov (.t 4)),s1 19 (.bin .eql (.t 18) (.c (.str ⟨#[]⟩)))],
    i1 20 (.pick (.t 17) (.c (.bool true)) (.t 19)),
    i1 21 (.mov (.t 20)),
    .grp 21 false [s1 22 (.mov (.t 5)),s1 23 (.not (.t 22))],
    i1 24 (.pick (.t 21) (.c (.bool true)) (.t 23))] [1,3,4,24] []) (.cond (.t 24) (.seq (.reg [i1 2 (.mov (.c (.str ⟨#[]⟩)))] [2] []) (.ret)) (.skip))) (.seq (.reg [i1 25 (.mov (.t 3)),
    i1 26 (.bin .add (.t 25) (.c (.str ⟨#[35]⟩))),
    i1 27 (.faddr 2 (.t 1)),
    i1 28 (.load 1 false (.t 27)),
    i1 29 (.bin .add (.t 26) (.t 28)),
    i1 30 (.bin .add (.t 29) (.c (.str ⟨#[64]⟩))),
    i1 31 (.mov (.t 4)),
    i1 32 (.bin .add (.t 30) (.t 31)),
    i1 2 (.mov (.t 32))] [2] []) (.ret))))))
abbrev nr_ref10_ShowTuple:Nat:=120
def C_ref10_ShowTuple_2 (QF:AEnd→Store→Prop) (v1 v3 v4 v24:AV) (S:Store):Prop:=
  cnW v24 (rtW [.tmp (.str ⟨#[]⟩)] QF S)
  (biW .add v3 (.str ⟨#[35]⟩) fun v26=>
  faW 2 v1 fun v27=>
  ldW S 1 false v27 fun v28=>
  biW .add v26 v28 fun v29=>
  biW .add v29 (.str ⟨#[64]⟩) fun v30=>
  biW .add v30 v4 fun v32=>
  rtW [.tmp v32] QF S)
def C_ref10_ShowTuple_1 (QF:AEnd→Store→Prop) (v1 v3 v4 v5 v20:AV) (S:Store):Prop:=
  grW v20 false (ntW v5 fun v23=>
  pkW v20 (.bool true) v23 fun v24=>
  C_ref10_ShowTuple_2 QF v1 v3 v4 v24 S)
  (pkW v20 (.bool true) undefA fun v24=>
  C_ref10_ShowTuple_2 QF v1 v3 v4 v24 S)
def B_ref10_ShowTuple (QF:AEnd→Store→Prop) (v0:AV) (S:Store):Prop:=
  brW 6 v0 fun v1=>
  faW 0 v1 fun v6=>
  ldW S 2 true v6 fun v7=>
  caW PG S (.func (.func 40) [] []) [v7] (fun v8 S=>
  faW 3 v1 fun v9=>
  ldW S 3 true v9 fun v10=>
  caW PG S (.func (.func 39) [] []) [v10] (fun v11 S=>
  faW 2 v1 fun v12=>
  ldW S 1 false v12 fun v13=>
  caW PG S (.func (.func 78) [] []) [v13] (fun v14 S=>
  biW .eql v8 (.str ⟨#[]⟩) fun v16=>
  grW v16 false (biW .eql v11 (.str ⟨#[]⟩) fun v19=>
  pkW v16 (.bool true) v19 fun v20=>
  C_ref10_ShowTuple_1 QF v1 v8 v11 v14 v20 S)
  (pkW v16 (.bool true) undefA fun v20=>
  C_ref10_ShowTuple_1 QF v1 v8 v11 v14 v20 S)) (pqW QF)) (pqW QF)) (pqW QF)
theorem w_ref10_ShowTuple {QF:AEnd→Store→Prop} {v0:AV} {S:Store} (h:B_ref10_ShowTuple QF v0 S):ACalls PG nr_ref10_ShowTuple [v0] S QF:=
  acalls_tf (F:=tf_ref10_ShowTuple) (by kernel_rfl) rfl (by kernel_rfl) h
def tf_names_ShowObject:TFunc where
  n:=19
  args:=1
  res:=[.tmp 2]
  code:=.seq (.reg [i1 1 (.boxr 27 2 (.t 0)),
    i1 2 (.mov (.c (.str ⟨#[]⟩)))] [1] []) (.seq (.seq (.reg [i1 3 (.faddr 0 (.t 1)),
    i1 4 (.load 1 false (.t 3)),
    i1 5 (.call (.f 144) [.t 4]),
    i1 6 (.not (.t 5)),
    i1 7 (.mov (.t 6)),
    .grp 7 false [s1 8 (.faddr 1 (.t 1)),s1 9 (.load 1 false (.t 8)),s1 10 (.call (.f 168) [.t 9]),s1 11 (.not (.t 10))],
    i1 12 (.pick (.t 7) (.c (.bool true)) (.t 11))] [1,12] []) (.cond (.t 12) (.seq (.reg [i1 2 (.mov (.c (.str ⟨#[]⟩)))] [2] []) (.ret)) (.skip))) (.seq (.reg [i1 13 (.faddr 0 (.t 1)),
    i1 14 (.load 1 false (.t 13)),
    i1 15 (.bin .add (.t 14) (.c (.str ⟨#[58]⟩))),
    i1 16 (.faddr 1 (.t 1)),
    i1 17 (.load 1 false (.t 16)),
    i1 18 (.bin .add (.t 15) (.t 17)),
    i1 2 (.mov (.t 18))] [2] []) (.ret)))
abbrev nr_names_ShowObject:Nat:=124
def C_names_ShowObject_1 (QF:AEnd→Store→Prop) (v1 v12:AV) (S:Store):Prop:=
  cnW v12 (rtW [.tmp (.str ⟨#[]⟩)] QF S)
  (faW 0 v1 fun v13=>
  ldW S 1 false v13 fun v14=>
  biW .add v14 (.str ⟨#[58]⟩) fun v15=>
  faW 1 v1 fun v16=>
  ldW S 1 false v16 fun v17=>
  biW .add v15 v17 fun v18=>
  rtW [.tmp v18] QF S)
def B_names_ShowObject (QF:AEnd→Store→Prop) (v0:AV) (S:Store):Prop:=
  brW 2 v0 fun v1=>
  faW 0 v1 fun v3=>
  ldW S 1 false v3 fun v4=>
  caW PG S (.func (.func 144) [] []) [v4] (fun v5 S=>
  ntW v5 fun v6=>
  grW v6 false (faW 1 v1 fun v8=>
  ldW S 1 false v8 fun v9=>
  caW PG S (.func (.func 168) [] []) [v9] (fun v10 S=>
  ntW v10 fun v11=>
  pkW v6 (.bool true) v11 fun v12=>
  C_names_ShowObject_1 QF v1 v12 S) (pqW QF))
  (pkW v6 (.bool true) undefA fun v12=>
  C_names_ShowObject_1 QF v1 v12 S)) (pqW QF)
theorem w_names_ShowObject {QF:AEnd→Store→Prop} {v0:AV} {S:Store} (h:B_names_ShowObject QF v0 S):ACalls PG nr_names_ShowObject [v0] S QF:=
  acalls_tf (F:=tf_names_ShowObject) (by kernel_rfl) rfl (by kernel_rfl) h
def tf_names_ShowSubject:TFunc where
  n:=26
  args:=1
  res:=[.tmp 2]
  code:=.seq (.reg [i1 1 (.boxr 39 3 (.t 0)),
    i1 2 (.mov (.c (.str ⟨#[]⟩)))] [1] []) (.seq (.reg [i1 4 (.faddr 0 (.t 1)),
    i1 5 (.load 2 true (.t 4)),
    i1 6 (.call (.f 124) [.t 5]),
    i1 3 (.mov (.t 6))] [1,3] []) (.seq (.block 0 (.seq (.reg [i1 8 (.mov (.t 3)),
    i1 9 (.bin .eql (.t 8) (.c (.str ⟨#[]⟩))),
    i1 10 (.mov (.t 9)),
    .grp 10 false [s1 11 (.faddr 2 (.t 1)),s1 12 (.load 1 false (.t 11)),s1 13 (.bin .eql (.t 12) (.c (.str ⟨#[]⟩)))],
    i1 14 (.pick (.t 10) (.c (.bool true)) (.t 13)),
    i1 7 (.mov (.t 14))] [1,3,7] []) (.cond (.t 7) (.seq (.reg [i1 15 (.mov (.t 3)),
    i1 2 (.mov (.t 15))] [2] []) (.ret)) (.seq (.reg [i1 17 (.faddr 2 (.t 1)),
    i1 18 (.load 1 false (.t 17)),
    i1 19 (.call (.f 144) [.t 18]),
    i1 20 (.not (.t 19)),
    i1 16 (.mov (.t 20))] [1,3,16] []) (.cond (.t 16) (.seq (.reg [i1 2 (.mov (.c (.str ⟨#[]⟩)))] [2] []) (.ret)) (.skip)))))) (.seq (.reg [i1 21 (.mov (.t 3)),
    i1 22 (.bin .add (.t 21) (.c (.str ⟨#[35]⟩))),
    i1 23 (.faddr 2 (.t 1)),
    i1 24 (.load 1 false (.t 23)),
    i1 25 (.bin .add (.t 22) (.t 24)),
    i1 2 (.mov (.t 25))] [2] []) (.ret))))
abbrev nr_names_ShowSubject:Nat:=125
def C_names_ShowSubject_1 (QF:AEnd→Store→Prop) (v1 v3 v14:AV) (S:Store):Prop:=
  cnW v14 (rtW [.tmp v3] QF S)
  (faW 2 v1 fun v17=>
  ldW S 1 false v17 fun v18=>
  caW PG S (.func (.func 144) [] []) [v18] (fun v19 S=>
  ntW v19 fun v20=>
  cnW v20 (rtW [.tmp (.str ⟨#[]⟩)] QF S)
  (biW .add v3 (.str ⟨#[35]⟩) fun v22=>
  faW 2 v1 fun v23=>
  ldW S 1 false v23 fun v24=>
  biW .add v22 v24 fun v25=>
  rtW [.tmp v25] QF S)) (pqW QF))
def B_names_ShowSubject (QF:AEnd→Store→Prop) (v0:AV) (S:Store):Prop:=
  brW 3 v0 fun v1=>
  faW 0 v1 fun v4=>
  ldW S 2 true v4 fun v5=>
  caW PG S (.func (.func 124) [] []) [v5] (fun v6 S=>
  biW .eql v6 (.str ⟨#[]⟩) fun v9=>
  grW v9 false (faW 2 v1 fun v11=>
  ldW S 1 false v11 fun v12=>
  biW .eql v12 (.str ⟨#[]⟩) fun v13=>
  pkW v9 (.bool true) v13 fun v14=>
  C_names_ShowSubject_1 QF v1 v6 v14 S)
  (pkW v9 (.bool true) undefA fun v14=>
  C_names_ShowSubject_1 QF v1 v6 v14 S)) (pqW QF)
theorem w_names_ShowSubject {QF:AEnd→Store→Prop} {v0:AV} {S:Store} (h:B_names_ShowSubject QF v0 S):ACalls PG nr_names_ShowSubject [v0] S QF:=
  acalls_tf (F:=tf_names_ShowSubject) (by kernel_rfl) rfl (by kernel_rfl) h
def tf_slices_IndexFunc_Type:TFunc where
  n:=19
  args:=2
  res:=[.tmp 4]
  code:=.seq (.reg [i1 4 (.mov (.c (.int .i64 0)))] [0,1] []) (.seq (.seq (.reg [i1 6 (.mov (.t 0)),
    i1 7 (.len 1 (.t 6)),
    i1 8 (.mov (.c (.int .i64 0)))] [0,1,7,8] []) (.block 0 (.loop [0,1,7,8] (.seq (.reg [i1 9 (.bin .lss (.t 8) (.t 7))] [0,1,7,8,9] []) (.seq (.cond (.t 9) (.skip) (.exit 0)) (.seq (.block 1 (.seq (.reg [i1 10 (.mov (.t 8)),
    i1 5 (.mov (.t 10))] [0,1,5,7,8] []) (.seq (.reg [i1 11 (.mov (.t 1)),
    i1 12 (.mov (.t 0)),
    i1 13 (.mov (.t 5)),
    i1 14 (.iaddr 2 (.t 12) (.t 13)),
    i1 15 (.load 2 true (.t 14)),
    i1 16 (.call (.t 11) [.t 15])] [0,1,5,7,8,16] []) (.cond (.t 16) (.seq (.reg [i1 17 (.mov (.t 5)),
    i1 4 (.mov (.t 17))] [4] []) (.ret)) (.skip))))) (.reg [i1 18 (.bin .add (.t 8) (.c (.int .i64 1))),
    i1 8 (.mov (.t 18))] [0,1,7,8] []))))))) (.seq (.reg [i1 4 (.mov (.c (.int .i64 (-1))))] [4] []) (.ret)))
abbrev nr_slices_IndexFunc_Type:Nat:=127
def C_slices_IndexFunc_Type_1 (QF:AEnd→Store→Prop) (r0:LE→Store→Prop) (v0 v1 v7 v8:AV) (S:Store):Prop:=
  biW .lss v8 v7 fun v9=>
  cnW v9 (iaW 2 v0 v8 fun v14=>
  ldW S 2 true v14 fun v15=>
  caW PG S v1 [v15] (fun v16 S=>
  cnW v16 (rtW [.tmp v8] QF S)
  (biW .add v8 (.int .i64 1) fun v18=>
  rcW r0 [(0,v0),(1,v1),(7,v7),(8,v18)] S)) (pqW QF))
  (rtW [.tmp (.int .i64 (-1))] QF S)
def B_slices_IndexFunc_Type (QF:AEnd→Store→Prop) (v0 v1:AV) (S:Store):Prop:=
  lnW S 1 v0 fun v7=>
  LoopP (fun r0 l S=>C_slices_IndexFunc_Type_1 QF r0 (lget l 0) (lget l 1) (lget l 7) (lget l 8) S) [(0,v0),(1,v1),(7,v7),(8,(.int .i64 0))] S
theorem w_slices_IndexFunc_Type {QF:AEnd→Store→Prop} {v0 v1:AV} {S:Store} (h:B_slices_IndexFunc_Type QF v0 v1 S):ACalls PG nr_slices_IndexFunc_Type [v0,v1] S QF:=
  acalls_tf (F:=tf_slices_IndexFunc_Type) (by kernel_rfl) rfl (by kernel_rfl) h
def tf_ref11_word:TFunc where
  n:=45
  args:=1
  res:=[.tmp 2]
  code:=.seq (.reg [i1 2 (.mov (.c (.int .i64 0)))] [0] []) (.seq (.reg [i1 3 (.mov (.c (.int .i64 0)))] [0,3] []) (.seq (.block 0 (.loop [0,3] (.seq (.seq (.reg [i1 4 (.mov (.t 3)),
    i1 5 (.mov (.t 0)),
    i1 6 (.len 0 (.t 5)),
    i1 7 (.bin .lss (.t 4) (.t 6)),
    i1 8 (.mov (.t 7)),
    .grp 8 true [s1 9 (.mov (.t 0)),s1 10 (.mov (.t 3)),s1 11 (.idxs (.t 9) (.t 10)),s1 12 (.bin .geq (.t 11) (.c (.int .u8 97))),s1 13 (.mov (.t 12))],
    .grp 13 true [s1 14 (.mov (.t 0)),s1 15 (.mov (.t 3)),s1 16 (.idxs (.t 14) (.t 15)),s1 17 (.bin .leq (.t 16) (.c (.int .u8 122)))],
    .grp 8 true [s1 18 (.pick (.t 13) (.t 17) (.c (.bool false))),s1 19 (.mov (.t 18))],
    .grp 19 false [s1 20 (.mov (.t 3)),s1 21 (.bin .gtr (.t 20) (.c (.int .i64 0))),s1 22 (.mov (.t 21))],
    .grp 22 true [s1 23 (.mov (.t 0)),s1 24 (.mov (.t 3)),s1 25 (.idxs (.t 23) (.t 24)),s1 26 (.bin .eql (.t 25) (.c (.int .u8 95))),s1 27 (.mov (.t 26))],
    .grp 27 false [s1 28 (.mov (.t 0)),s1 29 (.mov (.t 3)),s1 30 (.idxs (.t 28) (.t 29)),s1 31 (.bin .geq (.t 30) (.c (.int .u8 48))),s1 32 (.mov (.t 31))],
    .grp 32 true [s1 33 (.mov (.t 0)),s1 34 (.mov (.t 3)),s1 35 (.idxs (.t 33) (.t 34)),s1 36 (.bin .leq (.t 35) (.c (.int .u8 57)))],
    .grp 27 false [s1 37 (.pick (.t 32) (.t 36) (.c (.bool false)))],
    .grp 22 true [s1 38 (.pick (.t 27) (.c (.bool true)) (.t 37))],
    .grp 19 false [s1 39 (.pick (.t 22) (.t 38) (.c (.bool false)))],
    .grp 8 true [s1 40 (.pick (.t 19) (.c (.bool true)) (.t 39))],
    i1 41 (.pick (.t 8) (.t 40) (.c (.bool false)))] [0,3,41] []) (.cond (.t 41) (.skip) (.exit 0))) (.block 1 (.reg [i1 42 (.mov (.t 3)),
    i1 43 (.bin .add (.t 42) (.c (.int .i64 1))),
    i1 3 (.mov (.t 43))] [0,3] []))))) (.seq (.reg [i1 44 (.mov (.t 3)),
    i1 2 (.mov (.t 44))] [2] []) (.ret))))
abbrev nr_ref11_word:Nat:=128
def C_ref11_word_11 (QF:AEnd→Store→Prop) (r0:LE→Store→Prop) (v0 v3 v8 v19 v39:AV) (S:Store):Prop:=
  grW v8 true (pkW v19 (.bool true) v39 fun v40=>
  pkW v8 v40 (.bool false) fun v41=>
  cnW v41 (biW .add v3 (.int .i64 1) fun v43=>
  rcW r0 [(0,v0),(3,v43)] S)
  (rtW [.tmp v3] QF S))
  (pkW v8 undefA (.bool false) fun v41=>
  cnW v41 (biW .add v3 (.int .i64 1) fun v43=>
  rcW r0 [(0,v0),(3,v43)] S)
  (rtW [.tmp v3] QF S))
def C_ref11_word_10 (QF:AEnd→Store→Prop) (r0:LE→Store→Prop) (v0 v3 v8 v19 v22 v38:AV) (S:Store):Prop:=
  grW v19 false (pkW v22 v38 (.bool false) fun v39=>
  C_ref11_word_11 QF r0 v0 v3 v8 v19 v39 S)
  (C_ref11_word_11 QF r0 v0 v3 v8 v19 undefA S)
def C_ref11_word_9 (QF:AEnd→Store→Prop) (r0:LE→Store→Prop) (v0 v3 v8 v19 v22 v27 v37:AV) (S:Store):Prop:=
  grW v22 true (pkW v27 (.bool true) v37 fun v38=>
  C_ref11_word_10 QF r0 v0 v3 v8 v19 v22 v38 S)
  (C_ref11_word_10 QF r0 v0 v3 v8 v19 v22 undefA S)
def C_ref11_word_8 (QF:AEnd→Store→Prop) (r0:LE→Store→Prop) (v0 v3 v8 v19 v22 v27 v32 v36:AV) (S:Store):Prop:=
  grW v27 false (pkW v32 v36 (.bool false) fun v37=>
  C_ref11_word_9 QF r0 v0 v3 v8 v19 v22 v27 v37 S)
  (C_ref11_word_9 QF r0 v0 v3 v8 v19 v22 v27 undefA S)
def C_ref11_word_7 (QF:AEnd→Store→Prop) (r0:LE→Store→Prop) (v0 v3 v8 v19 v22 v27 v32:AV) (S:Store):Prop:=
  grW v32 true (isW v0 v3 fun v35=>
  biW .leq v35 (.int .u8 57) fun v36=>
  C_ref11_word_8 QF r0 v0 v3 v8 v19 v22 v27 v32 v36 S)
  (C_ref11_word_8 QF r0 v0 v3 v8 v19 v22 v27 v32 undefA S)
def C_ref11_word_6 (QF:AEnd→Store→Prop) (r0:LE→Store→Prop) (v0 v3 v8 v19 v22 v27:AV) (S:Store):Prop:=
  grW v27 false (isW v0 v3 fun v30=>
  biW .geq v30 (.int .u8 48) fun v31=>
  C_ref11_word_7 QF r0 v0 v3 v8 v19 v22 v27 v31 S)
  (C_ref11_word_7 QF r0 v0 v3 v8 v19 v22 v27 undefA S)
def C_ref11_word_5 (QF:AEnd→Store→Prop) (r0:LE→Store→Prop) (v0 v3 v8 v19 v22:AV) (S:Store):Prop:=
  grW v22 true (isW v0 v3 fun v25=>
  biW .eql v25 (.int .u8 95) fun v26=>
  C_ref11_word_6 QF r0 v0 v3 v8 v19 v22 v26 S)
  (C_ref11_word_6 QF r0 v0 v3 v8 v19 v22 undefA S)
def C_ref11_word_4 (QF:AEnd→Store→Prop) (r0:LE→Store→Prop) (v0 v3 v8 v19:AV) (S:Store):Prop:=
  grW v19 false (biW .gtr v3 (.int .i64 0) fun v21=>
  C_ref11_word_5 QF r0 v0 v3 v8 v19 v21 S)
  (C_ref11_word_5 QF r0 v0 v3 v8 v19 undefA S)
def C_ref11_word_3 (QF:AEnd→Store→Prop) (r0:LE→Store→Prop) (v0 v3 v8 v13 v17:AV) (S:Store):Prop:=
  grW v8 true (pkW v13 v17 (.bool false) fun v18=>
  C_ref11_word_4 QF r0 v0 v3 v8 v18 S)
  (C_ref11_word_4 QF r0 v0 v3 v8 undefA S)
def C_ref11_word_2 (QF:AEnd→Store→Prop) (r0:LE→Store→Prop) (v0 v3 v8 v13:AV) (S:Store):Prop:=
  grW v13 true (isW v0 v3 fun v16=>
  biW .leq v16 (.int .u8 122) fun v17=>
  C_ref11_word_3 QF r0 v0 v3 v8 v13 v17 S)
  (C_ref11_word_3 QF r0 v0 v3 v8 v13 undefA S)
def C_ref11_word_1 (QF:AEnd→Store→Prop) (r0:LE→Store→Prop) (v0 v3:AV) (S:Store):Prop:=
  lnW S 0 v0 fun v6=>
  biW .lss v3 v6 fun v7=>
  grW v7 true (isW v0 v3 fun v11=>
  biW .geq v11 (.int .u8 97) fun v12=>
  C_ref11_word_2 QF r0 v0 v3 v7 v12 S)
  (C_ref11_word_2 QF r0 v0 v3 v7 undefA S)
def B_ref11_word (QF:AEnd→Store→Prop) (v0:AV) (S:Store):Prop:=
  LoopP (fun r0 l S=>C_ref11_word_1 QF r0 (lget l 0) (lget l 3) S) [(0,v0),(3,(.int .i64 0))] S
theorem w_ref11_word {QF:AEnd→Store→Prop} {v0:AV} {S:Store} (h:B_ref11_word QF v0 S):ACalls PG nr_ref11_word [v0] S QF:=
  acalls_tf (F:=tf_ref11_word) (by kernel_rfl) rfl (by kernel_rfl) h
def tf_ref11_sign:TFunc where
  n:=21
  args:=1
  res:=[.tmp 2]
  code:=.seq (.reg [i1 2 (.mov (.c (.str ⟨#[]⟩)))] [0] []) (.seq (.reg [i1 3 (.mov (.c (.str ⟨#[58,124,35,43,45,38,46,40,41]⟩)))] [0,3] []) (.seq (.seq (.reg [i1 4 (.mov (.c (.int .i64 0)))] [0,3,4] []) (.block 0 (.loop [0,3,4] (.seq (.seq (.reg [i1 5 (.mov (.t 4)),
    i1 6 (.mov (.t 3)),
    i1 7 (.len 0 (.t 6)),
    i1 8 (.bin .lss (.t 5) (.t 7))] [0,3,4,8] []) (.cond (.t 8) (.skip) (.exit 0))) (.seq (.block 1 (.seq (.reg [i1 11 (.mov (.t 3)),
    i1 12 (.mov (.t 4)),
    i1 13 (.idxs (.t 11) (.t 12)),
    i1 14 (.mov (.t 0)),
    i1 15 (.bin .eql (.t 13) (.t 14))] [0,3,4,15] []) (.cond (.t 15) (.seq (.reg [i1 16 (.mov (.t 3)),
    i1 17 (.mov (.t 4)),
    i1 18 (.mov (.t 4)),
    i1 19 (.bin .add (.t 18) (.c (.int .i64 1))),
    i1 20 (.slics (.t 16) (some (.t 17)) (some (.t 19))),
    i1 2 (.mov (.t 20))] [2] []) (.ret)) (.skip)))) (.reg [i1 9 (.mov (.t 4)),
    i1 10 (.bin .add (.t 9) (.c (.int .i64 1))),
    i1 4 (.mov (.t 10))] [0,3,4] [])))))) (.seq (.reg [i1 2 (.mov (.c (.str ⟨#[63]⟩)))] [2] []) (.ret))))
abbrev nr_ref11_sign:Nat:=129
def C_ref11_sign_1 (QF:AEnd→Store→Prop) (r0:LE→Store→Prop) (v0 v3 v4:AV) (S:Store):Prop:=
  lnW S 0 v3 fun v7=>
  biW .lss v4 v7 fun v8=>
  cnW v8 (isW v3 v4 fun v13=>
  biW .eql v13 v0 fun v15=>
  cnW v15 (biW .add v4 (.int .i64 1) fun v19=>
  ssW v3 (some v4) (some v19) fun v20=>
  rtW [.tmp v20] QF S)
  (biW .add v4 (.int .i64 1) fun v10=>
  rcW r0 [(0,v0),(3,v3),(4,v10)] S))
  (rtW [.tmp (.str ⟨#[63]⟩)] QF S)
def B_ref11_sign (QF:AEnd→Store→Prop) (v0:AV) (S:Store):Prop:=
  LoopP (fun r0 l S=>C_ref11_sign_1 QF r0 (lget l 0) (lget l 3) (lget l 4) S) [(0,v0),(3,(.str ⟨#[58,124,35,43,45,38,46,40,41]⟩)),(4,(.int .i64 0))] S
theorem w_ref11_sign {QF:AEnd→Store→Prop} {v0:AV} {S:Store} (h:B_ref11_sign QF v0 S):ACalls PG nr_ref11_sign [v0] S QF:=
  acalls_tf (F:=tf_ref11_sign) (by kernel_rfl) rfl (by kernel_rfl) h
end Go.HL
