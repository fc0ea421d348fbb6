/- A part of a proof. -/
import Derived.Test.YtadmdlpmikoghaaGreatKhHlP
set_option maxRecDepth 100000
set_option linter.unusedVariables false
namespace Go.HL
def tf_ref11_Reader_is:TFunc where
  n:=33
  args:=2
  res:=[.tmp 4]
  code:=.seq (.reg [i1 4 (.mov (.c (.bool false)))] [0,1] []) (.seq (.seq (.regl [0,1,2,3,4,5,6,7,8,9,11,12,13,18,10,14,15,16,17,19,20] [i1 5 (.mov (.t 0)),
    i1 6 (.nilck (.t 5)),
    i1 7 (.faddr 3 (.t 6)),
    i1 8 (.faddr 2 (.t 7)),
    i1 9 (.load 1 false (.t 8)),
    i1 10 (.bin .neq (.t 9) (.c (.int .i64 0))),
    i1 11 (.mov (.t 10)),
    .grp 11 false [s1 12 (.mov (.t 0)),s1 13 (.nilck (.t 12)),s1 14 (.faddr 0 (.t 13)),s1 16 (.mov (.t 0)),s1 17 (.nilck (.t 16)),s1 18 (.faddr 1 (.t 17)),s1 23 (.mov (.t 1)),s1 15 (.load 1 false (.t 14)),s1 19 (.load 1 false (.t 18)),s1 20 (.iaddr 3 (.t 15) (.t 19)),s1 21 (.faddr 0 (.t 20)),s1 22 (.load 1 false (.t 21)),s1 24 (.bin .neq (.t 22) (.t 23))],
    i1 25 (.pick (.t 11) (.c (.bool true)) (.t 24))] [0,25] []) (.cond (.t 25) (.seq (.reg [i1 4 (.mov (.c (.bool false)))] [4] []) (.ret)) (.skip))) (.seq (.reg [i1 26 (.mov (.t 0)),
    i1 27 (.nilck (.t 26)),
    i1 28 (.faddr 1 (.t 27)),
    i1 29 (.load 1 false (.t 28)),
    i1 30 (.bin .add (.t 29) (.c (.int .i64 1))),
    i1 31 (.nilck (.t 26)),
    i1 32 (.faddr 1 (.t 31)),
    i0 (.store 1 (.t 32) (.t 30))] [] []) (.seq (.reg [i1 4 (.mov (.c (.bool true)))] [4] []) (.ret))))
abbrev nr_ref11_Reader_is:Nat:=84
def C_ref11_Reader_is_1 (QF:AEnd→Store→Prop) (v0 v25:AV) (S:Store):Prop:=
  cnW v25 (rtW [.tmp (.bool false)] QF S)
  (nkW v0 fun v27=>
  faW 1 v27 fun v28=>
  ldW S 1 false v28 fun v29=>
  biW .add v29 (.int .i64 1) fun v30=>
  nkW v0 fun v31=>
  faW 1 v31 fun v32=>
  stW S 1 v32 v30 fun S=>
  rtW [.tmp (.bool true)] QF S)
def B_ref11_Reader_is (QF:AEnd→Store→Prop) (v0 v1:AV) (S:Store):Prop:=
  nkW v0 fun v6=>
  faW 3 v6 fun v7=>
  faW 2 v7 fun v8=>
  ldW S 1 false v8 fun v9=>
  biW .neq v9 (.int .i64 0) fun v10=>
  grW v10 false (nkW v0 fun v13=>
  faW 0 v13 fun v14=>
  nkW v0 fun v17=>
  faW 1 v17 fun v18=>
  ldW S 1 false v14 fun v15=>
  ldW S 1 false v18 fun v19=>
  iaW 3 v15 v19 fun v20=>
  faW 0 v20 fun v21=>
  ldW S 1 false v21 fun v22=>
  biW .neq v22 v1 fun v24=>
  pkW v10 (.bool true) v24 fun v25=>
  C_ref11_Reader_is_1 QF v0 v25 S)
  (pkW v10 (.bool true) undefA fun v25=>
  C_ref11_Reader_is_1 QF v0 v25 S)
theorem w_ref11_Reader_is {QF:AEnd→Store→Prop} {v0 v1:AV} {S:Store} (h:B_ref11_Reader_is QF v0 v1 S):ACalls PG nr_ref11_Reader_is [v0,v1] S QF:=
  acalls_tf (F:=tf_ref11_Reader_is) (by kernel_rfl) rfl (by kernel_rfl) h
def tf_ref11_Reader_name:TFunc where
  n:=32
  args:=1
  res:=[.tmp 2]
  code:=.seq (.reg [i1 2 (.mov (.c (.str ⟨#[]⟩)))] [0] []) (.seq (.reg [i1 5 (.mov (.t 0)),
    i1 6 (.call (.f 87) [.t 5]),
    .box2 3 149 [.str ⟨#[]⟩,.int .i64 0,.int .i64 0] 3 (.t 6)] [0,3] []) (.seq (.reg [i1 7 (.faddr 0 (.t 3)),
    i1 8 (.load 1 false (.t 7)),
    i1 9 (.call (.f 78) [.t 8]),
    i1 4 (.mov (.t 9))] [0,3,4] []) (.seq (.seq (.reg [i1 10 (.mov (.t 4)),
    i1 11 (.not (.t 10)),
    i1 12 (.mov (.t 11)),
    .grp 12 false [s1 13 (.mov (.t 0)),s1 14 (.nilck (.t 13)),s1 15 (.faddr 3 (.t 14)),s1 16 (.faddr 2 (.t 15)),s1 17 (.load 1 false (.t 16)),s1 18 (.bin .neq (.t 17) (.c (.int .i64 0)))],
    i1 19 (.pick (.t 12) (.c (.bool true)) (.t 18))] [0,3,19] []) (.cond (.t 19) (.seq (.reg [i1 20 (.mov (.t 0)),
    i1 21 (.load 3 true (.t 3)),
    i1 22 (.call (.f 88) [.t 20,.t 21,.c (.int .i64 8)])] [] []) (.seq (.reg [i1 2 (.mov (.c (.str ⟨#[]⟩)))] [2] []) (.ret))) (.skip))) (.seq (.reg [i1 23 (.mov (.t 0)),
    i1 24 (.nilck (.t 23)),
    i1 25 (.faddr 1 (.t 24)),
    i1 26 (.load 1 false (.t 25)),
    i1 27 (.bin .add (.t 26) (.c (.int .i64 1))),
    i1 28 (.nilck (.t 23)),
    i1 29 (.faddr 1 (.t 28)),
    i0 (.store 1 (.t 29) (.t 27))] [3] []) (.seq (.reg [i1 30 (.faddr 0 (.t 3)),
    i1 31 (.load 1 false (.t 30)),
    i1 2 (.mov (.t 31))] [2] []) (.ret))))))
abbrev nr_ref11_Reader_name:Nat:=85
def C_ref11_Reader_name_1 (QF:AEnd→Store→Prop) (v0 v3 v19:AV) (S:Store):Prop:=
  cnW v19 (ldW S 3 true v3 fun v21=>
  caW PG S (.func (.func 88) [] []) [v0,v21,(.int .i64 8)] (fun v22 S=>
  rtW [.tmp (.str ⟨#[]⟩)] QF S) (pqW QF))
  (nkW v0 fun v24=>
  faW 1 v24 fun v25=>
  ldW S 1 false v25 fun v26=>
  biW .add v26 (.int .i64 1) fun v27=>
  nkW v0 fun v28=>
  faW 1 v28 fun v29=>
  stW S 1 v29 v27 fun S=>
  faW 0 v3 fun v30=>
  ldW S 1 false v30 fun v31=>
  rtW [.tmp v31] QF S)
def B_ref11_Reader_name (QF:AEnd→Store→Prop) (v0:AV) (S:Store):Prop:=
  caW PG S (.func (.func 87) [] []) [v0] (fun v6 S=>
  bfW 3 v6 fun v3=>
  faW 0 v3 fun v7=>
  ldW S 1 false v7 fun v8=>
  caW PG S (.func (.func 78) [] []) [v8] (fun v9 S=>
  ntW v9 fun v11=>
  grW v11 false (nkW v0 fun v14=>
  faW 3 v14 fun v15=>
  faW 2 v15 fun v16=>
  ldW S 1 false v16 fun v17=>
  biW .neq v17 (.int .i64 0) fun v18=>
  pkW v11 (.bool true) v18 fun v19=>
  C_ref11_Reader_name_1 QF v0 v3 v19 S)
  (pkW v11 (.bool true) undefA fun v19=>
  C_ref11_Reader_name_1 QF v0 v3 v19 S)) (pqW QF)) (pqW QF)
theorem w_ref11_Reader_name {QF:AEnd→Store→Prop} {v0:AV} {S:Store} (h:B_ref11_Reader_name QF v0 S):ACalls PG nr_ref11_Reader_name [v0] S QF:=
  acalls_tf (F:=tf_ref11_Reader_name) (by kernel_rfl) rfl (by kernel_rfl) h
def tf_ref11_Reader_rel:TFunc where
  n:=42
  args:=1
  res:=[.cell 2 6 true,.tmp 3]
  code:=.seq (.reg [i1 2 (.alloc 53 [.str ⟨#[]⟩,.nils,.int .i64 0,.str ⟨#[]⟩,.str ⟨#[]⟩,.nils]),
    i1 3 (.mov (.c (.bool false)))] [0,2] []) (.seq (.reg [i1 5 (.build [.str ⟨#[]⟩,.nils,.int .i64 0,.str ⟨#[]⟩,.str ⟨#[]⟩,.nils] []),
    i1 4 (.alloc 53 [.str ⟨#[]⟩,.nils,.int .i64 0,.str ⟨#[]⟩,.str ⟨#[]⟩,.nils]),
    i0 (.store 6 (.t 4) (.t 5))] [0,2,4] []) (.seq (.seq (.reg [i1 6 (.mov (.t 0)),
    i1 7 (.call (.f 84) [.t 6,.c (.str ⟨#[114,101,108,97,116,105,111,110]⟩)])] [0,2,4,7] []) (.cond (.t 7) (.seq (.reg [i1 8 (.mov (.t 0)),
    i1 9 (.call (.f 85) [.t 8]),
    i1 10 (.faddr 0 (.t 4)),
    i0 (.store 1 (.t 10) (.t 9))] [0,2,4] []) (.seq (.reg [i1 11 (.mov (.t 0)),
    i1 12 (.call (.f 130) [.t 11,.c (.str ⟨#[58]⟩)])] [0,2,4] []) (.seq (.regl [0,2,1,3,4,5,6,7] [i1 13 (.faddr 1 (.t 4)),
    i1 15 (.mov (.t 0)),
    i1 14 (.load 1 false (.t 13)),
    .one { d:=some 16,o:=.call (.f 131) [.t 15],x:=[13] },
    i1 17 (.bslicr 171 2 [.t 16]),
    i1 18 (.app 171 2 32 (.t 14) (.t 17)),
    i1 19 (.faddr 1 (.t 4)),
    i0 (.store 1 (.t 19) (.t 18))] [0,2,4] []) (.seq (.block 0 (.loop [0,2,4] (.seq (.seq (.reg [i1 20 (.mov (.t 0)),
    i1 21 (.call (.f 84) [.t 20,.c (.str ⟨#[124]⟩)])] [0,2,4,21] []) (.cond (.t 21) (.skip) (.exit 0))) (.block 1 (.regl [0,2,1,3,4,5,6,7] [i1 22 (.faddr 1 (.t 4)),
    i1 24 (.mov (.t 0)),
    i1 23 (.load 1 false (.t 22)),
    .one { d:=some 25,o:=.call (.f 131) [.t 24],x:=[22] },
    i1 26 (.bslicr 171 2 [.t 25]),
    i1 27 (.app 171 2 32 (.t 23) (.t 26)),
    i1 28 (.faddr 1 (.t 4)),
    i0 (.store 1 (.t 28) (.t 27))] [0,2,4] []))))) (.seq (.reg [i1 29 (.load 6 true (.t 4)),
    i0 (.store 6 (.t 2) (.t 29)),
    i1 3 (.mov (.c (.bool true)))] [2,3] []) (.ret)))))) (.skip))) (.seq (.seq (.reg [i1 30 (.mov (.t 0)),
    i1 31 (.call (.f 84) [.t 30,.c (.str ⟨#[100,101,102,105,110,101]⟩)])] [0,2,4,31] []) (.cond (.t 31) (.seq (.reg [i1 32 (.mov (.t 0)),
    i1 33 (.call (.f 85) [.t 32]),
    i1 34 (.faddr 0 (.t 4)),
    i0 (.store 1 (.t 34) (.t 33))] [0,2,4] []) (.seq (.reg [i1 35 (.mov (.t 0)),
    i1 36 (.call (.f 130) [.t 35,.c (.str ⟨#[58]⟩)])] [0,2,4] []) (.seq (.reg [i1 37 (.mov (.t 0)),
    i1 38 (.call (.f 132) [.t 37]),
    i1 39 (.faddr 2 (.t 4)),
    i0 (.store 4 (.t 39) (.t 38))] [2,4] []) (.seq (.reg [i1 40 (.load 6 true (.t 4)),
    i0 (.store 6 (.t 2) (.t 40)),
    i1 3 (.mov (.c (.bool true)))] [2,3] []) (.ret))))) (.skip))) (.seq (.reg [i1 41 (.load 6 true (.t 4)),
    i0 (.store 6 (.t 2) (.t 41)),
    i1 3 (.mov (.c (.bool false)))] [2,3] []) (.ret)))))
abbrev nr_ref11_Reader_rel:Nat:=86
def C_ref11_Reader_rel_1 (QF:AEnd→Store→Prop) (r0:LE→Store→Prop) (v0 v2 v4:AV) (S:Store):Prop:=
  caW PG S (.func (.func 84) [] []) [v0,(.str ⟨#[124]⟩)] (fun v21 S=>
  cnW v21 (faW 1 v4 fun v22=>
  ldW S 1 false v22 fun v23=>
  caW PG S (.func (.func 131) [] []) [v0] (fun v25 S2=>
  kpW [v22] S S2 (
  srW 2 [v25] fun v26=>
  apW S2 171 2 32 v23 v26 fun v27 S=>
  faW 1 v4 fun v28=>
  stW S 1 v28 v27 fun S=>
  rcW r0 [(0,v0),(2,v2),(4,v4)] S)) (pqW QF))
  (ldW S 6 true v4 fun v29=>
  stW S 6 v2 v29 fun S=>
  rtW [.cell v2 6 true,.tmp (.bool true)] QF S)) (pqW QF)
def B_ref11_Reader_rel (QF:AEnd→Store→Prop) (v0:AV) (S:Store):Prop:=
  alW S 53 [.str ⟨#[]⟩,.nils,.int .i64 0,.str ⟨#[]⟩,.str ⟨#[]⟩,.nils] fun v2 S=>
  bdW [.str ⟨#[]⟩,.nils,.int .i64 0,.str ⟨#[]⟩,.str ⟨#[]⟩,.nils] [] fun v5=>
  alW S 53 [.str ⟨#[]⟩,.nils,.int .i64 0,.str ⟨#[]⟩,.str ⟨#[]⟩,.nils] fun v4 S=>
  stW S 6 v4 v5 fun S=>
  caW PG S (.func (.func 84) [] []) [v0,(.str ⟨#[114,101,108,97,116,105,111,110]⟩)] (fun v7 S=>
  cnW v7 (caW PG S (.func (.func 85) [] []) [v0] (fun v9 S=>
  faW 0 v4 fun v10=>
  stW S 1 v10 v9 fun S=>
  caW PG S (.func (.func 130) [] []) [v0,(.str ⟨#[58]⟩)] (fun v12 S=>
  faW 1 v4 fun v13=>
  ldW S 1 false v13 fun v14=>
  caW PG S (.func (.func 131) [] []) [v0] (fun v16 S1=>
  kpW [v13] S S1 (
  srW 2 [v16] fun v17=>
  apW S1 171 2 32 v14 v17 fun v18 S=>
  faW 1 v4 fun v19=>
  stW S 1 v19 v18 fun S=>
  LoopP (fun r0 l S=>C_ref11_Reader_rel_1 QF r0 (lget l 0) (lget l 2) (lget l 4) S) [(0,v0),(2,v2),(4,v4)] S)) (pqW QF)) (pqW QF)) (pqW QF))
  (caW PG S (.func (.func 84) [] []) [v0,(.str ⟨#[100,101,102,105,110,101]⟩)] (fun v31 S=>
  cnW v31 (caW PG S (.func (.func 85) [] []) [v0] (fun v33 S=>
  faW 0 v4 fun v34=>
  stW S 1 v34 v33 fun S=>
  caW PG S (.func (.func 130) [] []) [v0,(.str ⟨#[58]⟩)] (fun v36 S=>
  caW PG S (.func (.func 132) [] []) [v0] (fun v38 S=>
  faW 2 v4 fun v39=>
  stW S 4 v39 v38 fun S=>
  ldW S 6 true v4 fun v40=>
  stW S 6 v2 v40 fun S=>
  rtW [.cell v2 6 true,.tmp (.bool true)] QF S) (pqW QF)) (pqW QF)) (pqW QF))
  (ldW S 6 true v4 fun v41=>
  stW S 6 v2 v41 fun S=>
  rtW [.cell v2 6 true,.tmp (.bool false)] QF S)) (pqW QF))) (pqW QF)
theorem w_ref11_Reader_rel {QF:AEnd→Store→Prop} {v0:AV} {S:Store} (h:B_ref11_Reader_rel QF v0 S):ACalls PG nr_ref11_Reader_rel [v0] S QF:=
  acalls_tf (F:=tf_ref11_Reader_rel) (by kernel_rfl) rfl (by kernel_rfl) h
def tf_ref11_Reader_next:TFunc where
  n:=13
  args:=1
  res:=[.cell 2 3 true]
  code:=.seq (.reg [i1 2 (.alloc 149 [.str ⟨#[]⟩,.int .i64 0,.int .i64 0])] [0,2] []) (.seq (.regl [0,1,2,4,5,6,3,7,8,9,10] [i1 3 (.mov (.t 0)),
    i1 4 (.nilck (.t 3)),
    i1 5 (.faddr 0 (.t 4)),
    i1 7 (.mov (.t 0)),
    i1 8 (.nilck (.t 7)),
    i1 9 (.faddr 1 (.t 8)),
    i1 6 (.load 1 false (.t 5)),
    i1 10 (.load 1 false (.t 9)),
    i1 11 (.iaddr 3 (.t 6) (.t 10)),
    i1 12 (.load 3 true (.t 11)),
    i0 (.store 3 (.t 2) (.t 12))] [2] [2]) (.ret))
abbrev nr_ref11_Reader_next:Nat:=87
def B_ref11_Reader_next (QF:AEnd→Store→Prop) (v0:AV) (S:Store):Prop:=
  alW S 149 [.str ⟨#[]⟩,.int .i64 0,.int .i64 0] fun v2 S=>
  nkW v0 fun v4=>
  faW 0 v4 fun v5=>
  nkW v0 fun v8=>
  faW 1 v8 fun v9=>
  ldW S 1 false v5 fun v6=>
  ldW S 1 false v9 fun v10=>
  iaW 3 v6 v10 fun v11=>
  ldW S 3 true v11 fun v12=>
  stW S 3 v2 v12 fun S=>
  fzW S v2 fun v2 S=>
  rtW [.cell v2 3 true] QF S
theorem w_ref11_Reader_next {QF:AEnd→Store→Prop} {v0:AV} {S:Store} (h:B_ref11_Reader_next QF v0 S):ACalls PG nr_ref11_Reader_next [v0] S QF:=
  acalls_tf (F:=tf_ref11_Reader_next) (by kernel_rfl) rfl (by kernel_rfl) h
def tf_ref11_Reader_fail:TFunc where
  n:=21
  args:=3
  res:=[]
  code:=.seq (.reg [i1 4 (.boxr 149 3 (.t 1))] [0,2,4] []) (.seq (.reg [i1 6 (.mov (.t 0)),
    i1 7 (.nilck (.t 6)),
    i1 8 (.faddr 3 (.t 7)),
    i1 9 (.faddr 2 (.t 8)),
    i1 10 (.load 1 false (.t 9)),
    i1 11 (.bin .eql (.t 10) (.c (.int .i64 0)))] [0,2,4,11] []) (.cond (.t 11) (.reg [i1 12 (.mov (.t 0)),
    i1 13 (.faddr 1 (.t 4)),
    i1 14 (.load 1 false (.t 13)),
    i1 15 (.faddr 2 (.t 4)),
    i1 16 (.load 1 false (.t 15)),
    i1 17 (.mov (.t 2)),
    i1 18 (.build [.int .i64 0,.int .i64 0,.int .i64 0] [(0,1,.t 14),(1,1,.t 16),(2,1,.t 17)]),
    i1 19 (.nilck (.t 12)),
    i1 20 (.faddr 3 (.t 19)),
    i0 (.store 3 (.t 20) (.t 18))] [] []) (.skip)))
abbrev nr_ref11_Reader_fail:Nat:=88
def B_ref11_Reader_fail (QF:AEnd→Store→Prop) (v0 v1 v2:AV) (S:Store):Prop:=
  brW 3 v1 fun v4=>
  nkW v0 fun v7=>
  faW 3 v7 fun v8=>
  faW 2 v8 fun v9=>
  ldW S 1 false v9 fun v10=>
  biW .eql v10 (.int .i64 0) fun v11=>
  cnW v11 (faW 1 v4 fun v13=>
  ldW S 1 false v13 fun v14=>
  faW 2 v4 fun v15=>
  ldW S 1 false v15 fun v16=>
  bdW [.int .i64 0,.int .i64 0,.int .i64 0] [(0,1,v14),(1,1,v16),(2,1,v2)] fun v18=>
  nkW v0 fun v19=>
  faW 3 v19 fun v20=>
  stW S 3 v20 v18 fun S=>
  rtW [] QF S)
  (rtW [] QF S)
theorem w_ref11_Reader_fail {QF:AEnd→Store→Prop} {v0 v1 v2:AV} {S:Store} (h:B_ref11_Reader_fail QF v0 v1 v2 S):ACalls PG nr_ref11_Reader_fail [v0,v1,v2] S QF:=
  acalls_tf (F:=tf_ref11_Reader_fail) (by kernel_rfl) rfl (by kernel_rfl) h
def tf_ref10_Tuple:TFunc where
  n:=62
  args:=1
  res:=[.cell 2 6 true,.tmp 3]
  code:=.seq (.reg [i1 2 (.alloc 41 [.str ⟨#[]⟩,.str ⟨#[]⟩,.str ⟨#[]⟩,.str ⟨#[]⟩,.str ⟨#[]⟩,.str ⟨#[]⟩]),
    i1 3 (.mov (.c (.bool false)))] [0,2] []) (.seq (.reg [i1 16 (.mov (.t 0)),
    i1 17 (.call (.f 133) [.t 16,.c (.int .u8 64)]),
    i1 15 (.mov (.t 17)),
    i1 18 (.extr (.t 15) 0),
    i1 19 (.extr (.t 15) 1),
    i1 20 (.extr (.t 15) 2),
    i1 4 (.mov (.t 18)),
    i1 5 (.mov (.t 19)),
    i1 6 (.mov (.t 20))] [2,4,5,6] []) (.seq (.reg [i1 22 (.mov (.t 4)),
    i1 23 (.call (.f 133) [.t 22,.c (.int .u8 35)]),
    i1 21 (.mov (.t 23)),
    i1 24 (.extr (.t 21) 0),
    i1 25 (.extr (.t 21) 1),
    i1 26 (.extr (.t 21) 2),
    i1 7 (.mov (.t 24)),
    i1 8 (.mov (.t 25)),
    i1 9 (.mov (.t 26))] [2,5,6,7,8,9] []) (.seq (.reg [i1 28 (.mov (.t 7)),
    i1 29 (.call (.f 134) [.t 28]),
    i1 27 (.mov (.t 29)),
    i1 30 (.extr (.t 27) 0),
    i1 31 (.extr (.t 27) 1),
    .box2 10 27 [.str ⟨#[]⟩,.str ⟨#[]⟩] 2 (.t 30),
    i1 11 (.mov (.t 31))] [2,5,6,8,9,10,11] []) (.seq (.reg [i1 33 (.mov (.t 5)),
    i1 34 (.call (.f 135) [.t 33]),
    i1 32 (.mov (.t 34)),
    i1 35 (.extr (.t 32) 0),
    i1 36 (.extr (.t 32) 1),
    .box2 12 39 [.str ⟨#[]⟩,.str ⟨#[]⟩,.str ⟨#[]⟩] 3 (.t 35),
    i1 13 (.mov (.t 36))] [2,6,8,9,10,11,12,13] []) (.seq (.reg [i1 37 (.mov (.t 8)),
    i1 38 (.call (.f 78) [.t 37]),
    i1 14 (.mov (.t 38))] [2,6,8,9,10,11,12,13,14] []) (.seq (.seq (.reg [i1 39 (.mov (.t 6)),
    i1 40 (.not (.t 39)),
    i1 41 (.mov (.t 40)),
    .grp 41 false [s1 42 (.mov (.t 9)),s1 43 (.not (.t 42))],
    i1 44 (.pick (.t 41) (.c (.bool true)) (.t 43)),
    i1 45 (.mov (.t 44)),
    .grp 45 false [s1 46 (.mov (.t 11)),s1 47 (.not (.t 46))],
    i1 48 (.pick (.t 45) (.c (.bool true)) (.t 47)),
    i1 49 (.mov (.t 48)),
    .grp 49 false [s1 50 (.mov (.t 13)),s1 51 (.not (.t 50))],
    i1 52 (.pick (.t 49) (.c (.bool true)) (.t 51)),
    i1 53 (.mov (.t 52)),
    .grp 53 false [s1 54 (.mov (.t 14)),s1 55 (.not (.t 54))],
    i1 56 (.pick (.t 53) (.c (.bool true)) (.t 55))] [2,8,10,12,56] []) (.cond (.t 56) (.seq (.reg [i1 57 (.build [.str ⟨#[]⟩,.str ⟨#[]⟩,.str ⟨#[]⟩,.str ⟨#[]⟩,.str ⟨#[]⟩,.str ⟨#[]⟩] []),
    i0 (.store 6 (.t 2) (.t 57)),
    i1 3 (.mov (.c (.bool false)))] [2,3] []) (.ret)) (.skip))) (.seq (.reg [i1 58 (.load 2 true (.t 10)),
    i1 59 (.mov (.t 8)),
    i1 60 (.load 3 true (.t 12)),
    i1 61 (.build [.str ⟨#[]⟩,.str ⟨#[]⟩,.str ⟨#[]⟩,.str ⟨#[]⟩,.str ⟨#[]⟩,.str ⟨#[]⟩] [(0,2,.t 58),(2,1,.t 59),(3,3,.t 60)]),
    i0 (.store 6 (.t 2) (.t 61)),
    i1 3 (.mov (.c (.bool true)))] [2,3] []) (.ret))))))))
abbrev nr_ref10_Tuple:Nat:=89
def C_ref10_Tuple_4 (QF:AEnd→Store→Prop) (v2 v8 v10 v12 v56:AV) (S:Store):Prop:=
  cnW v56 (bdW [.str ⟨#[]⟩,.str ⟨#[]⟩,.str ⟨#[]⟩,.str ⟨#[]⟩,.str ⟨#[]⟩,.str ⟨#[]⟩] [] fun v57=>
  stW S 6 v2 v57 fun S=>
  rtW [.cell v2 6 true,.tmp (.bool false)] QF S)
  (ldW S 2 true v10 fun v58=>
  ldW S 3 true v12 fun v60=>
  bdW [.str ⟨#[]⟩,.str ⟨#[]⟩,.str ⟨#[]⟩,.str ⟨#[]⟩,.str ⟨#[]⟩,.str ⟨#[]⟩] [(0,2,v58),(2,1,v8),(3,3,v60)] fun v61=>
  stW S 6 v2 v61 fun S=>
  rtW [.cell v2 6 true,.tmp (.bool true)] QF S)
def C_ref10_Tuple_3 (QF:AEnd→Store→Prop) (v2 v8 v10 v12 v14 v52:AV) (S:Store):Prop:=
  grW v52 false (ntW v14 fun v55=>
  pkW v52 (.bool true) v55 fun v56=>
  C_ref10_Tuple_4 QF v2 v8 v10 v12 v56 S)
  (pkW v52 (.bool true) undefA fun v56=>
  C_ref10_Tuple_4 QF v2 v8 v10 v12 v56 S)
def C_ref10_Tuple_2 (QF:AEnd→Store→Prop) (v2 v8 v10 v12 v13 v14 v48:AV) (S:Store):Prop:=
  grW v48 false (ntW v13 fun v51=>
  pkW v48 (.bool true) v51 fun v52=>
  C_ref10_Tuple_3 QF v2 v8 v10 v12 v14 v52 S)
  (pkW v48 (.bool true) undefA fun v52=>
  C_ref10_Tuple_3 QF v2 v8 v10 v12 v14 v52 S)
def C_ref10_Tuple_1 (QF:AEnd→Store→Prop) (v2 v8 v10 v11 v12 v13 v14 v44:AV) (S:Store):Prop:=
  grW v44 false (ntW v11 fun v47=>
  pkW v44 (.bool true) v47 fun v48=>
  C_ref10_Tuple_2 QF v2 v8 v10 v12 v13 v14 v48 S)
  (pkW v44 (.bool true) undefA fun v48=>
  C_ref10_Tuple_2 QF v2 v8 v10 v12 v13 v14 v48 S)
def B_ref10_Tuple (QF:AEnd→Store→Prop) (v0:AV) (S:Store):Prop:=
  alW S 41 [.str ⟨#[]⟩,.str ⟨#[]⟩,.str ⟨#[]⟩,.str ⟨#[]⟩,.str ⟨#[]⟩,.str ⟨#[]⟩] fun v2 S=>
  caW PG S (.func (.func 133) [] []) [v0,(.int .u8 64)] (fun v17 S=>
  exW 0 v17 fun v18=>
  exW 1 v17 fun v19=>
  exW 2 v17 fun v20=>
  caW PG S (.func (.func 133) [] []) [v18,(.int .u8 35)] (fun v23 S=>
  exW 0 v23 fun v24=>
  exW 1 v23 fun v25=>
  exW 2 v23 fun v26=>
  caW PG S (.func (.func 134) [] []) [v24] (fun v29 S=>
  exW 0 v29 fun v30=>
  exW 1 v29 fun v31=>
  bfW 2 v30 fun v10=>
  caW PG S (.func (.func 135) [] []) [v19] (fun v34 S=>
  exW 0 v34 fun v35=>
  exW 1 v34 fun v36=>
  bfW 3 v35 fun v12=>
  caW PG S (.func (.func 78) [] []) [v25] (fun v38 S=>
  ntW v20 fun v40=>
  grW v40 false (ntW v26 fun v43=>
  pkW v40 (.bool true) v43 fun v44=>
  C_ref10_Tuple_1 QF v2 v25 v10 v31 v12 v36 v38 v44 S)
  (pkW v40 (.bool true) undefA fun v44=>
  C_ref10_Tuple_1 QF v2 v25 v10 v31 v12 v36 v38 v44 S)) (pqW QF)) (pqW QF)) (pqW QF)) (pqW QF)) (pqW QF)
theorem w_ref10_Tuple {QF:AEnd→Store→Prop} {v0:AV} {S:Store} (h:B_ref10_Tuple QF v0 S):ACalls PG nr_ref10_Tuple [v0] S QF:=
  acalls_tf (F:=tf_ref10_Tuple) (by kernel_rfl) rfl (by kernel_rfl) h
def tf_law11_weight:TFunc where
  n:=32
  args:=2
  res:=[.tmp 4]
  code:=.seq (.reg [i1 2 (.boxr 51 4 (.t 0)),
    i1 4 (.mov (.c (.int .i64 0)))] [1,2] []) (.seq (.seq (.reg [i1 6 (.faddr 3 (.t 2)),
    i1 7 (.load 1 false (.t 6)),
    i1 8 (.len 1 (.t 7)),
    i1 9 (.mov (.t 1)),
    i1 10 (.bin .gtr (.t 8) (.t 9))] [1,2,10] []) (.cond (.t 10) (.seq (.reg [i1 4 (.mov (.c (.int .i64 0)))] [4] []) (.ret)) (.skip))) (.seq (.reg [i1 11 (.mov (.t 1)),
    i1 12 (.bin .sub (.t 11) (.c (.int .i64 1))),
    i1 1 (.mov (.t 12))] [1,2] []) (.seq (.seq (.reg [i1 5 (.mov (.c (.int .i64 0)))] [1,2,5] []) (.block 0 (.loop [1,2,5] (.seq (.seq (.reg [i1 13 (.mov (.t 5)),
    i1 14 (.faddr 3 (.t 2)),
    i1 15 (.load 1 false (.t 14)),
    i1 16 (.len 1 (.t 15)),
    i1 17 (.bin .lss (.t 13) (.t 16)),
    i1 18 (.mov (.t 17)),
    .grp 18 true [s1 19 (.mov (.t 1)),s1 20 (.bin .gtr (.t 19) (.c (.int .i64 0)))],
    i1 21 (.pick (.t 18) (.t 20) (.c (.bool false)))] [1,2,5,21] []) (.cond (.t 21) (.skip) (.exit 0))) (.seq (.block 1 (.reg [i1 24 (.faddr 3 (.t 2)),
    i1 25 (.load 1 false (.t 24)),
    i1 26 (.mov (.t 5)),
    i1 27 (.iaddr 4 (.t 25) (.t 26)),
    i1 28 (.load 4 true (.t 27)),
    i1 29 (.mov (.t 1)),
    i1 30 (.call (.f 90) [.t 28,.t 29]),
    i1 1 (.mov (.t 30))] [1,2,5] [])) (.reg [i1 22 (.mov (.t 5)),
    i1 23 (.bin .add (.t 22) (.c (.int .i64 1))),
    i1 5 (.mov (.t 23))] [1,2,5] [])))))) (.seq (.reg [i1 31 (.mov (.t 1)),
    i1 4 (.mov (.t 31))] [4] []) (.ret)))))
abbrev nr_law11_weight:Nat:=90
def C_law11_weight_2 (QF:AEnd→Store→Prop) (r0:LE→Store→Prop) (v1 v2 v5 v21:AV) (S:Store):Prop:=
  cnW v21 (faW 3 v2 fun v24=>
  ldW S 1 false v24 fun v25=>
  iaW 4 v25 v5 fun v27=>
  ldW S 4 true v27 fun v28=>
  caW PG S (.func (.func 90) [] []) [v28,v1] (fun v30 S=>
  biW .add v5 (.int .i64 1) fun v23=>
  rcW r0 [(1,v30),(2,v2),(5,v23)] S) (pqW QF))
  (rtW [.tmp v1] QF S)
def C_law11_weight_1 (QF:AEnd→Store→Prop) (r0:LE→Store→Prop) (v1 v2 v5:AV) (S:Store):Prop:=
  faW 3 v2 fun v14=>
  ldW S 1 false v14 fun v15=>
  lnW S 1 v15 fun v16=>
  biW .lss v5 v16 fun v17=>
  grW v17 true (biW .gtr v1 (.int .i64 0) fun v20=>
  pkW v17 v20 (.bool false) fun v21=>
  C_law11_weight_2 QF r0 v1 v2 v5 v21 S)
  (pkW v17 undefA (.bool false) fun v21=>
  C_law11_weight_2 QF r0 v1 v2 v5 v21 S)
def B_law11_weight (QF:AEnd→Store→Prop) (v0 v1:AV) (S:Store):Prop:=
  brW 4 v0 fun v2=>
  faW 3 v2 fun v6=>
  ldW S 1 false v6 fun v7=>
  lnW S 1 v7 fun v8=>
  biW .gtr v8 v1 fun v10=>
  cnW v10 (rtW [.tmp (.int .i64 0)] QF S)
  (biW .sub v1 (.int .i64 1) fun v12=>
  LoopP (fun r0 l S=>C_law11_weight_1 QF r0 (lget l 1) (lget l 2) (lget l 5) S) [(1,v12),(2,v2),(5,(.int .i64 0))] S)
theorem w_law11_weight {QF:AEnd→Store→Prop} {v0 v1:AV} {S:Store} (h:B_law11_weight QF v0 v1 S):ACalls PG nr_law11_weight [v0,v1] S QF:=
  acalls_tf (F:=tf_law11_weight) (by kernel_rfl) rfl (by kernel_rfl) h
def tf_rules_indexed:TFunc where
  n:=86
  args:=1
  res:=[.tmp 2]
  code:=.seq (.reg [i1 1 (.boxr 24 1 (.t 0)),
    i1 2 (.mov (.c (.nilp)))] [1] []) (.seq (.reg [i1 12 (.load 1 true (.t 1)),
    i1 13 (.mkmap (false,[.str])),
    i1 14 (.mkmap (false,[.str])),
    i1 15 (.build [.nils,.map none,.map none] [(0,1,.t 12),(1,1,.t 13),(2,1,.t 14)]),
    i1 16 (.boxr 219 3 (.t 15)),
    i1 3 (.mov (.t 16))] [1,3] []) (.seq (.seq (.reg [i1 17 (.faddr 0 (.t 1)),
    i1 18 (.load 1 false (.t 17)),
    i1 19 (.len 1 (.t 18)),
    i1 20 (.mov (.c (.int .i64 0)))] [3,18,19,20] []) (.block 0 (.loop [3,18,19,20] (.seq (.reg [i1 21 (.bin .lss (.t 20) (.t 19))] [3,18,19,20,21] []) (.seq (.cond (.t 21) (.skip) (.exit 0)) (.seq (.block 1 (.seq (.reg [i1 22 (.mov (.t 20)),
    i1 23 (.iaddr 2 (.t 18) (.t 20)),
    i1 24 (.load 2 true (.t 23)),
    i1 5 (.alloc 46 [.str ⟨#[]⟩,.nils]),
    i1 4 (.mov (.t 22)),
    i0 (.store 2 (.t 5) (.t 24))] [3,4,5,18,19,20] [5]) (.seq (.seq (.regl [0,1,2,4,3,5,6,7,8,9,10,11] [i1 26 (.mov (.t 3)),
    i1 27 (.nilck (.t 26)),
    i1 28 (.faddr 1 (.t 27)),
    i1 30 (.faddr 0 (.t 5)),
    i1 29 (.load 1 false (.t 28)),
    i1 31 (.load 1 false (.t 30)),
    i1 32 (.lookup (false,[.str]) true (.int .i64 0) (.t 29) (.t 31)),
    i1 25 (.mov (.t 32)),
    i1 33 (.extr (.t 25) 0),
    i1 34 (.extr (.t 25) 1),
    i1 6 (.mov (.t 33)),
    i1 7 (.mov (.t 34))] [3,4,5,7,18,19,20] []) (.seq (.reg [i1 35 (.mov (.t 7))] [3,4,5,18,19,20,35] []) (.cond (.t 35) (.exit 1) (.skip)))) (.seq (.regl [0,1,2,4,6,3,5,7] [i1 36 (.mov (.t 3)),
    i1 37 (.nilck (.t 36)),
    i1 38 (.faddr 1 (.t 37)),
    i1 40 (.faddr 0 (.t 5)),
    i1 42 (.mov (.t 4)),
    i1 39 (.load 1 false (.t 38)),
    i1 41 (.load 1 false (.t 40)),
    i0 (.mupd (false,[.str]) (.t 39) (.t 41) (.t 42))] [3,5,18,19,20] []) (.seq (.regl [0,1,2,4,3,5,6,7] [i1 43 (.mov (.t 3)),
    i1 44 (.nilck (.t 43)),
    i1 45 (.faddr 2 (.t 44)),
    i1 47 (.faddr 0 (.t 5)),
    i1 46 (.load 1 false (.t 45)),
    i1 48 (.load 1 false (.t 47)),
    i1 49 (.mkmap (false,[.str])),
    i0 (.mupd (false,[.str]) (.t 46) (.t 48) (.t 49))] [3,5,18,19,20] []) (.seq (.reg [i1 50 (.faddr 1 (.t 5)),
    i1 51 (.load 1 false (.t 50)),
    i1 52 (.len 1 (.t 51)),
    i1 53 (.mov (.c (.int .i64 0)))] [3,5,18,19,20,51,52,53] []) (.block 2 (.loop [3,5,18,19,20,51,52,53] (.seq (.reg [i1 54 (.bin .lss (.t 53) (.t 52))] [3,5,18,19,20,51,52,53,54] []) (.seq (.cond (.t 54) (.skip) (.exit 2)) (.seq (.block 3 (.seq (.reg [i1 55 (.mov (.t 53)),
    i1 56 (.iaddr 6 (.t 51) (.t 53)),
    i1 57 (.load 6 true (.t 56)),
    i1 9 (.alloc 53 [.str ⟨#[]⟩,.nils,.int .i64 0,.str ⟨#[]⟩,.str ⟨#[]⟩,.nils]),
    i1 8 (.mov (.t 55)),
    i0 (.store 6 (.t 9) (.t 57))] [3,5,8,9,18,19,20,51,52,53] [9]) (.seq (.regl [0,1,2,4,7,3,5,6,8,9,10,11,12,13,14] [i1 59 (.mov (.t 3)),
    i1 60 (.nilck (.t 59)),
    i1 61 (.faddr 2 (.t 60)),
    i1 63 (.faddr 0 (.t 5)),
    i1 66 (.faddr 0 (.t 9)),
    i1 62 (.load 1 false (.t 61)),
    i1 64 (.load 1 false (.t 63)),
    i1 65 (.lookup (false,[.str]) false (.map none) (.t 62) (.t 64)),
    i1 67 (.load 1 false (.t 66)),
    i1 68 (.lookup (false,[.str]) true (.int .i64 0) (.t 65) (.t 67)),
    i1 58 (.mov (.t 68)),
    i1 69 (.extr (.t 58) 0),
    i1 70 (.extr (.t 58) 1),
    i1 10 (.mov (.t 69)),
    i1 11 (.mov (.t 70))] [3,5,8,9,11,18,19,20,51,52,53] []) (.seq (.reg [i1 71 (.mov (.t 11)),
    i1 72 (.not (.t 71))] [3,5,8,9,18,19,20,51,52,53,72] []) (.cond (.t 72) (.regl [0,1,2,4,7,9,3,5,6,8,10] [i1 73 (.mov (.t 3)),
    i1 74 (.nilck (.t 73)),
    i1 75 (.faddr 2 (.t 74)),
    i1 77 (.faddr 0 (.t 5)),
    i1 80 (.faddr 0 (.t 9)),
    i1 82 (.mov (.t 8)),
    i1 76 (.load 1 false (.t 75)),
    i1 78 (.load 1 false (.t 77)),
    i1 79 (.lookup (false,[.str]) false (.map none) (.t 76) (.t 78)),
    i1 81 (.load 1 false (.t 80)),
    i0 (.mupd (false,[.str]) (.t 79) (.t 81) (.t 82))] [3,5,18,19,20,51,52,53] []) (.skip)))))) (.reg [i1 83 (.bin .add (.t 53) (.c (.int .i64 1))),
    i1 53 (.mov (.t 83))] [3,5,18,19,20,51,52,53] [])))))))))))) (.reg [i1 84 (.bin .add (.t 20) (.c (.int .i64 1))),
    i1 20 (.mov (.t 84))] [3,18,19,20] []))))))) (.seq (.reg [i1 85 (.mov (.t 3)),
    i1 2 (.mov (.t 85))] [2] []) (.ret))))
abbrev nr_rules_indexed:Nat:=91
def C_rules_indexed_2 (QF:AEnd→Store→Prop) (r0:LE→Store→Prop) (r1:LE→Store→Prop) (v3 v5 v18 v19 v20 v51 v52 v53:AV) (S:Store):Prop:=
  biW .lss v53 v52 fun v54=>
  cnW v54 (iaW 6 v51 v53 fun v56=>
  ldW S 6 true v56 fun v57=>
  alW S 53 [.str ⟨#[]⟩,.nils,.int .i64 0,.str ⟨#[]⟩,.str ⟨#[]⟩,.nils] fun v9 S=>
  stW S 6 v9 v57 fun S=>
  fzW S v9 fun v9 S=>
  nkW v3 fun v60=>
  faW 2 v60 fun v61=>
  faW 0 v5 fun v63=>
  faW 0 v9 fun v66=>
  ldW S 1 false v61 fun v62=>
  ldW S 1 false v63 fun v64=>
  lkW S (false,[.str]) false (.map none) v62 v64 fun v65=>
  ldW S 1 false v66 fun v67=>
  lkW S (false,[.str]) true (.int .i64 0) v65 v67 fun v68=>
  exW 0 v68 fun v69=>
  exW 1 v68 fun v70=>
  ntW v70 fun v72=>
  cnW v72 (nkW v3 fun v74=>
  faW 2 v74 fun v75=>
  faW 0 v5 fun v77=>
  faW 0 v9 fun v80=>
  ldW S 1 false v75 fun v76=>
  ldW S 1 false v77 fun v78=>
  lkW S (false,[.str]) false (.map none) v76 v78 fun v79=>
  ldW S 1 false v80 fun v81=>
  muW S (false,[.str]) v79 v81 v53 fun S=>
  biW .add v53 (.int .i64 1) fun v83=>
  rcW r1 [(3,v3),(5,v5),(18,v18),(19,v19),(20,v20),(51,v51),(52,v52),(53,v83)] S)
  (biW .add v53 (.int .i64 1) fun v83=>
  rcW r1 [(3,v3),(5,v5),(18,v18),(19,v19),(20,v20),(51,v51),(52,v52),(53,v83)] S))
  (biW .add v20 (.int .i64 1) fun v84=>
  rcW r0 [(3,v3),(18,v18),(19,v19),(20,v84)] S)
def C_rules_indexed_1 (QF:AEnd→Store→Prop) (r0:LE→Store→Prop) (v3 v18 v19 v20:AV) (S:Store):Prop:=
  biW .lss v20 v19 fun v21=>
  cnW v21 (iaW 2 v18 v20 fun v23=>
  ldW S 2 true v23 fun v24=>
  alW S 46 [.str ⟨#[]⟩,.nils] fun v5 S=>
  stW S 2 v5 v24 fun S=>
  fzW S v5 fun v5 S=>
  nkW v3 fun v27=>
  faW 1 v27 fun v28=>
  faW 0 v5 fun v30=>
  ldW S 1 false v28 fun v29=>
  ldW S 1 false v30 fun v31=>
  lkW S (false,[.str]) true (.int .i64 0) v29 v31 fun v32=>
  exW 0 v32 fun v33=>
  exW 1 v32 fun v34=>
  cnW v34 (biW .add v20 (.int .i64 1) fun v84=>
  rcW r0 [(3,v3),(18,v18),(19,v19),(20,v84)] S)
  (nkW v3 fun v37=>
  faW 1 v37 fun v38=>
  faW 0 v5 fun v40=>
  ldW S 1 false v38 fun v39=>
  ldW S 1 false v40 fun v41=>
  muW S (false,[.str]) v39 v41 v20 fun S=>
  nkW v3 fun v44=>
  faW 2 v44 fun v45=>
  faW 0 v5 fun v47=>
  ldW S 1 false v45 fun v46=>
  ldW S 1 false v47 fun v48=>
  mmW S (false,[.str]) fun v49 S=>
  muW S (false,[.str]) v46 v48 v49 fun S=>
  faW 1 v5 fun v50=>
  ldW S 1 false v50 fun v51=>
  lnW S 1 v51 fun v52=>
  LoopP (fun r1 l S=>C_rules_indexed_2 QF r0 r1 (lget l 3) (lget l 5) (lget l 18) (lget l 19) (lget l 20) (lget l 51) (lget l 52) (lget l 53) S) [(3,v3),(5,v5),(18,v18),(19,v19),(20,v20),(51,v51),(52,v52),(53,(.int .i64 0))] S))
  (rtW [.tmp v3] QF S)
def B_rules_indexed (QF:AEnd→Store→Prop) (v0:AV) (S:Store):Prop:=
  brW 1 v0 fun v1=>
  ldW S 1 true v1 fun v12=>
  mmW S (false,[.str]) fun v13 S=>
  mmW S (false,[.str]) fun v14 S=>
  bdW [.nils,.map none,.map none] [(0,1,v12),(1,1,v13),(2,1,v14)] fun v15=>
  brW 3 v15 fun v16=>
  faW 0 v1 fun v17=>
  ldW S 1 false v17 fun v18=>
  lnW S 1 v18 fun v19=>
  LoopP (fun r0 l S=>C_rules_indexed_1 QF r0 (lget l 3) (lget l 18) (lget l 19) (lget l 20) S) [(3,v16),(18,v18),(19,v19),(20,(.int .i64 0))] S
theorem w_rules_indexed {QF:AEnd→Store→Prop} {v0:AV} {S:Store} (h:B_rules_indexed QF v0 S):ACalls PG nr_rules_indexed [v0] S QF:=
  acalls_tf (F:=tf_rules_indexed) (by kernel_rfl) rfl (by kernel_rfl) h
def tf_rules_index_plain:TFunc where
  n:=38
  args:=1
  res:=[.cell 2 3 true]
  code:=.seq (.reg [i1 1 (.boxr 155 1 (.t 0)),
    i1 2 (.alloc 88 [.int .i64 0,.int .i64 0,.int .i64 0])] [1,2] []) (.seq (.seq (.reg [i1 4 (.load 1 false (.t 1)),
    i1 5 (.nilck (.t 4)),
    i1 6 (.faddr 0 (.t 5)),
    i1 7 (.faddr 0 (.t 6)),
    i1 8 (.load 1 false (.t 7)),
    i1 9 (.len 1 (.t 8)),
    i1 10 (.bin .eql (.t 9) (.c (.int .i64 0))),
    i1 11 (.mov (.t 10)),
    .grp 11 false [s1 12 (.load 1 false (.t 1)),s1 13 (.nilck (.t 12)),s1 14 (.faddr 0 (.t 13)),s1 15 (.load 1 true (.t 14)),s1 16 (.call (.f 136) [.t 15]),s1 17 (.not (.t 16))],
    i1 18 (.pick (.t 11) (.c (.bool true)) (.t 17))] [1,2,18] []) (.cond (.t 18) (.seq (.reg [i1 19 (.build [.int .i64 0,.int .i64 0,.int .i64 0] [(1,1,.c (.int .i64 (-1))),(2,1,.c (.int .i64 1))]),
    i0 (.store 3 (.t 2) (.t 19))] [2] []) (.ret)) (.skip))) (.seq (.reg [i1 20 (.load 1 false (.t 1)),
    i1 21 (.nilck (.t 20)),
    i1 22 (.faddr 0 (.t 21)),
    i1 23 (.load 1 true (.t 22)),
    i1 24 (.call (.f 137) [.t 23]),
    i1 3 (.alloc 88 [.int .i64 0,.int .i64 0,.int .i64 0]),
    i0 (.store 3 (.t 3) (.t 24))] [1,2,3] []) (.seq (.seq (.reg [i1 25 (.faddr 2 (.t 3)),
    i1 26 (.load 1 false (.t 25)),
    i1 27 (.bin .eql (.t 26) (.c (.int .i64 0)))] [1,2,3,27] []) (.cond (.t 27) (.reg [i1 28 (.load 1 false (.t 1)),
    i1 29 (.mkf (.func 138) [] [.t 1]),
    i1 30 (.call (.f 94) [.t 28,.t 29]),
    i0 (.store 3 (.t 3) (.t 30))] [1,2,3] []) (.skip))) (.seq (.seq (.reg [i1 31 (.faddr 2 (.t 3)),
    i1 32 (.load 1 false (.t 31)),
    i1 33 (.bin .eql (.t 32) (.c (.int .i64 0)))] [1,2,3,33] []) (.cond (.t 33) (.reg [i1 34 (.load 1 false (.t 1)),
    i1 35 (.mkf (.func 139) [] [.t 1]),
    i1 36 (.call (.f 94) [.t 34,.t 35]),
    i0 (.store 3 (.t 3) (.t 36))] [2,3] []) (.skip))) (.seq (.reg [i1 37 (.load 3 true (.t 3)),
    i0 (.store 3 (.t 2) (.t 37))] [2] []) (.ret))))))
abbrev nr_rules_index_plain:Nat:=92
def C_rules_index_plain_3 (QF:AEnd→Store→Prop) (v2 v3:AV) (S:Store):Prop:=
  ldW S 3 true v3 fun v37=>
  stW S 3 v2 v37 fun S=>
  rtW [.cell v2 3 true] QF S
def C_rules_index_plain_2 (QF:AEnd→Store→Prop) (v1 v2 v3:AV) (S:Store):Prop:=
  faW 2 v3 fun v31=>
  ldW S 1 false v31 fun v32=>
  biW .eql v32 (.int .i64 0) fun v33=>
  cnW v33 (ldW S 1 false v1 fun v34=>
  caW PG S (.func (.func 94) [] []) [v34,(.func (.func 139) [] [v1])] (fun v36 S=>
  stW S 3 v3 v36 fun S=>
  C_rules_index_plain_3 QF v2 v3 S) (pqW QF))
  (C_rules_index_plain_3 QF v2 v3 S)
def C_rules_index_plain_1 (QF:AEnd→Store→Prop) (v1 v2 v18:AV) (S:Store):Prop:=
  cnW v18 (bdW [.int .i64 0,.int .i64 0,.int .i64 0] [(1,1,(.int .i64 (-1))),(2,1,(.int .i64 1))] fun v19=>
  stW S 3 v2 v19 fun S=>
  rtW [.cell v2 3 true] QF S)
  (ldW S 1 false v1 fun v20=>
  nkW v20 fun v21=>
  faW 0 v21 fun v22=>
  ldW S 1 true v22 fun v23=>
  caW PG S (.func (.func 137) [] []) [v23] (fun v24 S=>
  alW S 88 [.int .i64 0,.int .i64 0,.int .i64 0] fun v3 S=>
  stW S 3 v3 v24 fun S=>
  faW 2 v3 fun v25=>
  ldW S 1 false v25 fun v26=>
  biW .eql v26 (.int .i64 0) fun v27=>
  cnW v27 (ldW S 1 false v1 fun v28=>
  caW PG S (.func (.func 94) [] []) [v28,(.func (.func 138) [] [v1])] (fun v30 S=>
  stW S 3 v3 v30 fun S=>
  C_rules_index_plain_2 QF v1 v2 v3 S) (pqW QF))
  (C_rules_index_plain_2 QF v1 v2 v3 S)) (pqW QF))
def B_rules_index_plain (QF:AEnd→Store→Prop) (v0:AV) (S:Store):Prop:=
  brW 1 v0 fun v1=>
  alW S 88 [.int .i64 0,.int .i64 0,.int .i64 0] fun v2 S=>
  ldW S 1 false v1 fun v4=>
  nkW v4 fun v5=>
  faW 0 v5 fun v6=>
  faW 0 v6 fun v7=>
  ldW S 1 false v7 fun v8=>
  lnW S 1 v8 fun v9=>
  biW .eql v9 (.int .i64 0) fun v10=>
  grW v10 false (ldW S 1 false v1 fun v12=>
  nkW v12 fun v13=>
  faW 0 v13 fun v14=>
  ldW S 1 true v14 fun v15=>
  caW PG S (.func (.func 136) [] []) [v15] (fun v16 S=>
  ntW v16 fun v17=>
  pkW v10 (.bool true) v17 fun v18=>
  C_rules_index_plain_1 QF v1 v2 v18 S) (pqW QF))
  (pkW v10 (.bool true) undefA fun v18=>
  C_rules_index_plain_1 QF v1 v2 v18 S)
theorem w_rules_index_plain {QF:AEnd→Store→Prop} {v0:AV} {S:Store} (h:B_rules_index_plain QF v0 S):ACalls PG nr_rules_index_plain [v0] S QF:=
  acalls_tf (F:=tf_rules_index_plain) (by kernel_rfl) rfl (by kernel_rfl) h
def tf_rules_index_levels:TFunc where
  n:=20
  args:=1
  res:=[.tmp 2,.tmp 3]
  code:=.seq (.reg [i1 1 (.boxr 155 1 (.t 0)),
    i1 2 (.mov (.c (.map none))),
    i1 3 (.mov (.c (.int .i64 0)))] [1] []) (.seq (.reg [i1 7 (.mkmap (true,[.int .i64,.int .i64])),
    i1 8 (.mkmap (true,[.int .i64,.int .i64])),
    i1 4 (.alloc 158 [.map none]),
    i1 5 (.alloc 223 [.map none]),
    i0 (.store 1 (.t 4) (.t 7)),
    i0 (.store 1 (.t 5) (.t 8))] [1,4,5] [4,5]) (.seq (.reg [i1 9 (.load 1 false (.t 1)),
    i1 10 (.mkf (.func 141) [] [.t 1,.t 5]),
    i1 11 (.call (.f 94) [.t 9,.t 10])] [1,4,5] []) (.seq (.seq (.reg [i1 6 (.alloc 4 [.bool false]),
    i0 (.store 1 (.t 6) (.c (.bool true)))] [1,4,5,6] []) (.block 0 (.loop [1,4,5,6] (.seq (.seq (.reg [i1 12 (.load 1 false (.t 6))] [1,4,5,6,12] []) (.cond (.t 12) (.skip) (.exit 0))) (.seq (.block 1 (.seq (.reg [i0 (.store 1 (.t 6) (.c (.bool false)))] [1,4,5,6] []) (.reg [i1 13 (.load 1 false (.t 1)),
    i1 14 (.mkf (.func 143) [] [.t 5,.t 4,.t 6]),
    i1 15 (.call (.f 94) [.t 13,.t 14])] [1,4,5,6] []))) (.seq (.reg [i1 16 (.load 1 false (.t 6))] [1,4,5,16] []) (.reg [i1 6 (.alloc 4 [.bool false]),
    i0 (.store 1 (.t 6) (.t 16))] [1,4,5,6] []))))))) (.seq (.reg [i1 17 (.load 1 false (.t 4)),
    i1 18 (.load 1 false (.t 5)),
    i1 19 (.len 2 (.t 18)),
    i1 2 (.mov (.t 17)),
    i1 3 (.mov (.t 19))] [2,3] []) (.ret)))))
abbrev nr_rules_index_levels:Nat:=93
def C_rules_index_levels_1 (QF:AEnd→Store→Prop) (r0:LE→Store→Prop) (v1 v4 v5 v6:AV) (S:Store):Prop:=
  ldW S 1 false v6 fun v12=>
  cnW v12 (stW S 1 v6 (.bool false) fun S=>
  ldW S 1 false v1 fun v13=>
  caW PG S (.func (.func 94) [] []) [v13,(.func (.func 143) [] [v5,v4,v6])] (fun v15 S=>
  ldW S 1 false v6 fun v16=>
  alW S 4 [.bool false] fun v6 S=>
  stW S 1 v6 v16 fun S=>
  rcW r0 [(1,v1),(4,v4),(5,v5),(6,v6)] S) (pqW QF))
  (ldW S 1 false v4 fun v17=>
  ldW S 1 false v5 fun v18=>
  lnW S 2 v18 fun v19=>
  rtW [.tmp v17,.tmp v19] QF S)
def B_rules_index_levels (QF:AEnd→Store→Prop) (v0:AV) (S:Store):Prop:=
  brW 1 v0 fun v1=>
  mmW S (true,[.int .i64,.int .i64]) fun v7 S=>
  mmW S (true,[.int .i64,.int .i64]) fun v8 S=>
  alW S 158 [.map none] fun v4 S=>
  alW S 223 [.map none] fun v5 S=>
  stW S 1 v4 v7 fun S=>
  stW S 1 v5 v8 fun S=>
  fzW S v4 fun v4 S=>
  fzW S v5 fun v5 S=>
  ldW S 1 false v1 fun v9=>
  caW PG S (.func (.func 94) [] []) [v9,(.func (.func 141) [] [v1,v5])] (fun v11 S=>
  alW S 4 [.bool false] fun v6 S=>
  stW S 1 v6 (.bool true) fun S=>
  LoopP (fun r0 l S=>C_rules_index_levels_1 QF r0 (lget l 1) (lget l 4) (lget l 5) (lget l 6) S) [(1,v1),(4,v4),(5,v5),(6,v6)] S) (pqW QF)
theorem w_rules_index_levels {QF:AEnd→Store→Prop} {v0:AV} {S:Store} (h:B_rules_index_levels QF v0 S):ACalls PG nr_rules_index_levels [v0] S QF:=
  acalls_tf (F:=tf_rules_index_levels) (by kernel_rfl) rfl (by kernel_rfl) h
def tf_rules_index_each:TFunc where
  n:=45
  args:=2
  res:=[.cell 4 3 true]
  code:=.seq (.reg [i1 4 (.alloc 88 [.int .i64 0,.int .i64 0,.int .i64 0])] [0,1,4] []) (.seq (.seq (.reg [i1 10 (.mov (.t 0)),
    i1 11 (.nilck (.t 10)),
    i1 12 (.faddr 0 (.t 11)),
    i1 13 (.faddr 0 (.t 12)),
    i1 14 (.load 1 false (.t 13)),
    i1 15 (.len 1 (.t 14)),
    i1 16 (.mov (.c (.int .i64 0)))] [1,4,14,15,16] []) (.block 0 (.loop [1,4,14,15,16] (.seq (.reg [i1 17 (.bin .lss (.t 16) (.t 15))] [1,4,14,15,16,17] []) (.seq (.cond (.t 17) (.skip) (.exit 0)) (.seq (.block 1 (.seq (.reg [i1 18 (.mov (.t 16)),
    i1 19 (.iaddr 2 (.t 14) (.t 16)),
    i1 20 (.load 2 true (.t 19)),
    i1 6 (.alloc 46 [.str ⟨#[]⟩,.nils]),
    i1 5 (.mov (.t 18)),
    i0 (.store 2 (.t 6) (.t 20))] [1,4,5,6,14,15,16] [6]) (.seq (.reg [i1 21 (.faddr 1 (.t 6)),
    i1 22 (.load 1 false (.t 21)),
    i1 23 (.len 1 (.t 22)),
    i1 24 (.mov (.c (.int .i64 0)))] [1,4,5,6,14,15,16,22,23,24] []) (.block 2 (.loop [1,4,5,6,14,15,16,22,23,24] (.seq (.reg [i1 25 (.bin .lss (.t 24) (.t 23))] [1,4,5,6,14,15,16,22,23,24,25] []) (.seq (.cond (.t 25) (.skip) (.exit 2)) (.seq (.block 3 (.seq (.reg [i1 26 (.mov (.t 24)),
    i1 27 (.iaddr 6 (.t 22) (.t 24)),
    i1 28 (.load 6 true (.t 27)),
    i1 8 (.alloc 53 [.str ⟨#[]⟩,.nils,.int .i64 0,.str ⟨#[]⟩,.str ⟨#[]⟩,.nils]),
    i1 7 (.mov (.t 26)),
    i0 (.store 6 (.t 8) (.t 28))] [1,4,5,6,7,8,14,15,16,22,23,24] [8]) (.seq (.reg [i1 29 (.mov (.t 1)),
    i1 30 (.mov (.t 5)),
    i1 31 (.mov (.t 7)),
    i1 32 (.build [.int .i64 0,.int .i64 0] [(0,1,.t 30),(1,1,.t 31)]),
    i1 33 (.load 2 true (.t 6)),
    i1 34 (.load 6 true (.t 8)),
    i1 35 (.call (.t 29) [.t 32,.t 33,.t 34]),
    i1 9 (.mov (.t 35))] [1,4,5,6,7,9,14,15,16,22,23,24] []) (.seq (.reg [i1 36 (.mov (.t 9)),
    i1 37 (.bin .neq (.t 36) (.c (.int .i64 0)))] [1,4,5,6,7,9,14,15,16,22,23,24,37] []) (.cond (.t 37) (.seq (.reg [i1 38 (.mov (.t 5)),
    i1 39 (.mov (.t 7)),
    i1 40 (.mov (.t 9)),
    i1 41 (.build [.int .i64 0,.int .i64 0,.int .i64 0] [(0,1,.t 38),(1,1,.t 39),(2,1,.t 40)]),
    i0 (.store 3 (.t 4) (.t 41))] [4] []) (.ret)) (.skip)))))) (.reg [i1 42 (.bin .add (.t 24) (.c (.int .i64 1))),
    i1 24 (.mov (.t 42))] [1,4,5,6,14,15,16,22,23,24] []))))))))) (.reg [i1 43 (.bin .add (.t 16) (.c (.int .i64 1))),
    i1 16 (.mov (.t 43))] [1,4,14,15,16] []))))))) (.seq (.reg [i1 44 (.build [.int .i64 0,.int .i64 0,.int .i64 0] []),
    i0 (.store 3 (.t 4) (.t 44))] [4] []) (.ret)))
abbrev nr_rules_index_each:Nat:=94
def C_rules_index_each_2 (QF:AEnd→Store→Prop) (r0:LE→Store→Prop) (r1:LE→Store→Prop) (v1 v4 v5 v6 v14 v15 v16 v22 v23 v24:AV) (S:Store):Prop:=
  biW .lss v24 v23 fun v25=>
  cnW v25 (iaW 6 v22 v24 fun v27=>
  ldW S 6 true v27 fun v28=>
  alW S 53 [.str ⟨#[]⟩,.nils,.int .i64 0,.str ⟨#[]⟩,.str ⟨#[]⟩,.nils] fun v8 S=>
  stW S 6 v8 v28 fun S=>
  fzW S v8 fun v8 S=>
  bdW [.int .i64 0,.int .i64 0] [(0,1,v5),(1,1,v24)] fun v32=>
  ldW S 2 true v6 fun v33=>
  ldW S 6 true v8 fun v34=>
  caW PG S v1 [v32,v33,v34] (fun v35 S=>
  biW .neq v35 (.int .i64 0) fun v37=>
  cnW v37 (bdW [.int .i64 0,.int .i64 0,.int .i64 0] [(0,1,v5),(1,1,v24),(2,1,v35)] fun v41=>
  stW S 3 v4 v41 fun S=>
  rtW [.cell v4 3 true] QF S)
  (biW .add v24 (.int .i64 1) fun v42=>
  rcW r1 [(1,v1),(4,v4),(5,v5),(6,v6),(14,v14),(15,v15),(16,v16),(22,v22),(23,v23),(24,v42)] S)) (pqW QF))
  (biW .add v16 (.int .i64 1) fun v43=>
  rcW r0 [(1,v1),(4,v4),(14,v14),(15,v15),(16,v43)] S)
def C_rules_index_each_1 (QF:AEnd→Store→Prop) (r0:LE→Store→Prop) (v1 v4 v14 v15 v16:AV) (S:Store):Prop:=
  biW .lss v16 v15 fun v17=>
  cnW v17 (iaW 2 v14 v16 fun v19=>
  ldW S 2 true v19 fun v20=>
  alW S 46 [.str ⟨#[]⟩,.nils] fun v6 S=>
  stW S 2 v6 v20 fun S=>
  fzW S v6 fun v6 S=>
  faW 1 v6 fun v21=>
  ldW S 1 false v21 fun v22=>
  lnW S 1 v22 fun v23=>
  LoopP (fun r1 l S=>C_rules_index_each_2 QF r0 r1 (lget l 1) (lget l 4) (lget l 5) (lget l 6) (lget l 14) (lget l 15) (lget l 16) (lget l 22) (lget l 23) (lget l 24) S) [(1,v1),(4,v4),(5,v16),(6,v6),(14,v14),(15,v15),(16,v16),(22,v22),(23,v23),(24,(.int .i64 0))] S)
  (bdW [.int .i64 0,.int .i64 0,.int .i64 0] [] fun v44=>
  stW S 3 v4 v44 fun S=>
  rtW [.cell v4 3 true] QF S)
def B_rules_index_each (QF:AEnd→Store→Prop) (v0 v1:AV) (S:Store):Prop:=
  alW S 88 [.int .i64 0,.int .i64 0,.int .i64 0] fun v4 S=>
  nkW v0 fun v11=>
  faW 0 v11 fun v12=>
  faW 0 v12 fun v13=>
  ldW S 1 false v13 fun v14=>
  lnW S 1 v14 fun v15=>
  LoopP (fun r0 l S=>C_rules_index_each_1 QF r0 (lget l 1) (lget l 4) (lget l 14) (lget l 15) (lget l 16) S) [(1,v1),(4,v4),(14,v14),(15,v15),(16,(.int .i64 0))] S
theorem w_rules_index_each {QF:AEnd→Store→Prop} {v0 v1:AV} {S:Store} (h:B_rules_index_each QF v0 v1 S):ACalls PG nr_rules_index_each [v0,v1] S QF:=
  acalls_tf (F:=tf_rules_index_each) (by kernel_rfl) rfl (by kernel_rfl) h
def tf_rules_Check_1:TFunc where
  n:=14
  args:=5
  res:=[.tmp 8]
  code:=.seq (.reg [i1 5 (.boxr 163 2 (.t 0)),
    i1 6 (.boxr 46 2 (.t 1)),
    i1 7 (.boxr 53 6 (.t 2)),
    i1 8 (.mov (.c (.int .i64 0)))] [3,4,5] []) (.seq (.seq (.regl [0,1,2,3,4] [i1 9 (.load 1 false (.t 3)),
    i1 10 (.load 2 true (.t 5)),
    i1 11 (.lookup (true,[.int .i64,.int .i64]) false (.int .i64 0) (.t 9) (.t 10)),
    i1 12 (.load 1 false (.t 4)),
    i1 13 (.bin .gtr (.t 11) (.t 12))] [13] []) (.cond (.t 13) (.seq (.reg [i1 8 (.mov (.c (.int .i64 11)))] [8] []) (.ret)) (.skip))) (.seq (.reg [i1 8 (.mov (.c (.int .i64 0)))] [8] []) (.ret)))
abbrev nr_rules_Check_1:Nat:=95
def B_rules_Check_1 (QF:AEnd→Store→Prop) (v0 v1 v2 v3 v4:AV) (S:Store):Prop:=
  brW 2 v0 fun v5=>
  brW 2 v1 fun v6=>
  brW 6 v2 fun v7=>
  ldW S 1 false v3 fun v9=>
  ldW S 2 true v5 fun v10=>
  lkW S (true,[.int .i64,.int .i64]) false (.int .i64 0) v9 v10 fun v11=>
  ldW S 1 false v4 fun v12=>
  biW .gtr v11 v12 fun v13=>
  cnW v13 (rtW [.tmp (.int .i64 11)] QF S)
  (rtW [.tmp (.int .i64 0)] QF S)
theorem w_rules_Check_1 {QF:AEnd→Store→Prop} {v0 v1 v2 v3 v4:AV} {S:Store} (h:B_rules_Check_1 QF v0 v1 v2 v3 v4 S):ACalls PG nr_rules_Check_1 [v0,v1,v2,v3,v4] S QF:=
  acalls_tf (F:=tf_rules_Check_1) (by kernel_rfl) rfl (by kernel_rfl) h
def tf_rules_index_find:TFunc where
  n:=39
  args:=3
  res:=[.cell 6 2 true,.tmp 7]
  code:=.seq (.reg [i1 6 (.alloc 163 [.int .i64 0,.int .i64 0]),
    i1 7 (.mov (.c (.bool false)))] [0,1,2,6] []) (.seq (.reg [i1 13 (.mov (.t 0)),
    i1 14 (.nilck (.t 13)),
    i1 15 (.faddr 1 (.t 14)),
    i1 16 (.load 1 false (.t 15)),
    i1 17 (.mov (.t 1)),
    i1 18 (.lookup (false,[.str]) true (.int .i64 0) (.t 16) (.t 17)),
    i1 12 (.mov (.t 18)),
    i1 19 (.extr (.t 12) 0),
    i1 20 (.extr (.t 12) 1),
    i1 8 (.mov (.t 19)),
    i1 9 (.mov (.t 20))] [0,1,2,6,8,9] []) (.seq (.reg [i1 22 (.mov (.t 0)),
    i1 23 (.nilck (.t 22)),
    i1 24 (.faddr 2 (.t 23)),
    i1 25 (.load 1 false (.t 24)),
    i1 26 (.mov (.t 1)),
    i1 27 (.lookup (false,[.str]) false (.map none) (.t 25) (.t 26)),
    i1 28 (.mov (.t 2)),
    i1 29 (.lookup (false,[.str]) true (.int .i64 0) (.t 27) (.t 28)),
    i1 21 (.mov (.t 29)),
    i1 30 (.extr (.t 21) 0),
    i1 31 (.extr (.t 21) 1),
    i1 10 (.mov (.t 30)),
    i1 11 (.mov (.t 31))] [6,8,9,10,11] []) (.seq (.reg [i1 32 (.mov (.t 8)),
    i1 33 (.mov (.t 10)),
    i1 34 (.build [.int .i64 0,.int .i64 0] [(0,1,.t 32),(1,1,.t 33)]),
    i1 35 (.mov (.t 9)),
    i1 36 (.mov (.t 35)),
    .grp 36 true [s1 37 (.mov (.t 11))],
    i1 38 (.pick (.t 36) (.t 37) (.c (.bool false))),
    i0 (.store 2 (.t 6) (.t 34)),
    i1 7 (.mov (.t 38))] [6,7] [6]) (.ret))))
abbrev nr_rules_index_find:Nat:=96
def B_rules_index_find (QF:AEnd→Store→Prop) (v0 v1 v2:AV) (S:Store):Prop:=
  alW S 163 [.int .i64 0,.int .i64 0] fun v6 S=>
  nkW v0 fun v14=>
  faW 1 v14 fun v15=>
  ldW S 1 false v15 fun v16=>
  lkW S (false,[.str]) true (.int .i64 0) v16 v1 fun v18=>
  exW 0 v18 fun v19=>
  exW 1 v18 fun v20=>
  nkW v0 fun v23=>
  faW 2 v23 fun v24=>
  ldW S 1 false v24 fun v25=>
  lkW S (false,[.str]) false (.map none) v25 v1 fun v27=>
  lkW S (false,[.str]) true (.int .i64 0) v27 v2 fun v29=>
  exW 0 v29 fun v30=>
  exW 1 v29 fun v31=>
  bdW [.int .i64 0,.int .i64 0] [(0,1,v19),(1,1,v30)] fun v34=>
  grW v20 true (pkW v20 v31 (.bool false) fun v38=>
  stW S 2 v6 v34 fun S=>
  fzW S v6 fun v6 S=>
  rtW [.cell v6 2 true,.tmp v38] QF S)
  (pkW v20 undefA (.bool false) fun v38=>
  stW S 2 v6 v34 fun S=>
  fzW S v6 fun v6 S=>
  rtW [.cell v6 2 true,.tmp v38] QF S)
theorem w_rules_index_find {QF:AEnd→Store→Prop} {v0 v1 v2:AV} {S:Store} (h:B_rules_index_find QF v0 v1 v2 S):ACalls PG nr_rules_index_find [v0,v1,v2] S QF:=
  acalls_tf (F:=tf_rules_index_find) (by kernel_rfl) rfl (by kernel_rfl) h
def tf_rules_index_at:TFunc where
  n:=19
  args:=2
  res:=[.cell 4 6 true]
  code:=.seq (.reg [i1 3 (.boxr 163 2 (.t 1)),
    i1 4 (.alloc 53 [.str ⟨#[]⟩,.nils,.int .i64 0,.str ⟨#[]⟩,.str ⟨#[]⟩,.nils])] [0,3,4] []) (.seq (.regl [0,1,2,3,5,10,4,6,7,8,9,11,12,13,14] [i1 5 (.mov (.t 0)),
    i1 6 (.nilck (.t 5)),
    i1 7 (.faddr 0 (.t 6)),
    i1 8 (.faddr 0 (.t 7)),
    i1 10 (.faddr 0 (.t 3)),
    i1 15 (.faddr 1 (.t 3)),
    i1 9 (.load 1 false (.t 8)),
    i1 11 (.load 1 false (.t 10)),
    i1 12 (.iaddr 2 (.t 9) (.t 11)),
    i1 13 (.faddr 1 (.t 12)),
    i1 14 (.load 1 false (.t 13)),
    i1 16 (.load 1 false (.t 15)),
    i1 17 (.iaddr 6 (.t 14) (.t 16)),
    i1 18 (.load 6 true (.t 17)),
    i0 (.store 6 (.t 4) (.t 18))] [4] [4]) (.ret))
abbrev nr_rules_index_at:Nat:=97
def B_rules_index_at (QF:AEnd→Store→Prop) (v0 v1:AV) (S:Store):Prop:=
  brW 2 v1 fun v3=>
  alW S 53 [.str ⟨#[]⟩,.nils,.int .i64 0,.str ⟨#[]⟩,.str ⟨#[]⟩,.nils] fun v4 S=>
  nkW v0 fun v6=>
  faW 0 v6 fun v7=>
  faW 0 v7 fun v8=>
  faW 0 v3 fun v10=>
  faW 1 v3 fun v15=>
  ldW S 1 false v8 fun v9=>
  ldW S 1 false v10 fun v11=>
  iaW 2 v9 v11 fun v12=>
  faW 1 v12 fun v13=>
  ldW S 1 false v13 fun v14=>
  ldW S 1 false v15 fun v16=>
  iaW 6 v14 v16 fun v17=>
  ldW S 6 true v17 fun v18=>
  stW S 6 v4 v18 fun S=>
  fzW S v4 fun v4 S=>
  rtW [.cell v4 6 true] QF S
theorem w_rules_index_at {QF:AEnd→Store→Prop} {v0 v1:AV} {S:Store} (h:B_rules_index_at QF v0 v1 S):ACalls PG nr_rules_index_at [v0,v1] S QF:=
  acalls_tf (F:=tf_rules_index_at) (by kernel_rfl) rfl (by kernel_rfl) h
def tf_names_ShowTuple:TFunc where
  n:=31
  args:=1
  res:=[.tmp 2]
  code:=.seq (.reg [i1 1 (.boxr 41 6 (.t 0)),
    i1 2 (.mov (.c (.str ⟨#[]⟩)))] [1] []) (.seq (.regl [0,3,1,4,2,5,6,7] [i1 5 (.faddr 0 (.t 1)),
    i1 8 (.faddr 3 (.t 1)),
    i1 6 (.load 2 true (.t 5)),
    i1 9 (.load 3 true (.t 8)),
    .one { d:=some 7,o:=.call (.f 124) [.t 6],x:=[8] },
    i1 10 (.call (.f 125) [.t 9]),
    i1 3 (.mov (.t 7)),
    i1 4 (.mov (.t 10))] [1,3,4] []) (.seq (.seq (.reg [i1 11 (.mov (.t 3)),
    i1 12 (.bin .eql (.t 11) (.c (.str ⟨#[]⟩))),
    i1 13 (.mov (.t 12)),
    .grp 13 false [s1 14 (.mov (.t 4)),s1 15 (.bin .eql (.t 14) (.c (.str ⟨#[]⟩)))],
    i1 16 (.pick (.t 13) (.c (.bool true)) (.t 15)),
    i1 17 (.mov (.t 16)),
    .grp 17 false [s1 18 (.faddr 2 (.t 1)),s1 19 (.load 1 false (.t 18)),s1 20 (.call (.f 144) [.t 19]),s1 21 (.not (.t 20))],
    i1 22 (.pick (.t 17) (.c (.bool true)) (.t 21))] [1,3,4,22] []) (.cond (.t 22) (.seq (.reg [i1 2 (.mov (.c (.str ⟨#[]⟩)))] [2] []) (.ret)) (.skip))) (.seq (.reg [i1 23 (.mov (.t 3)),
    i1 24 (.bin .add (.t 23) (.c (.str ⟨#[35]⟩))),
    i1 25 (.faddr 2 (.t 1)),
    i1 26 (.load 1 false (.t 25)),
    i1 27 (.bin .add (.t 24) (.t 26)),
    i1 28 (.bin .add (.t 27) (.c (.str ⟨#[64]⟩))),
    i1 29 (.mov (.t 4)),
    i1 30 (.bin .add (.t 28) (.t 29)),
    i1 2 (.mov (.t 30))] [2] []) (.ret))))
abbrev nr_names_ShowTuple:Nat:=98
def C_names_ShowTuple_2 (QF:AEnd→Store→Prop) (v1 v3 v4 v22:AV) (S:Store):Prop:=
  cnW v22 (rtW [.tmp (.str ⟨#[]⟩)] QF S)
  (biW .add v3 (.str ⟨#[35]⟩) fun v24=>
  faW 2 v1 fun v25=>
  ldW S 1 false v25 fun v26=>
  biW .add v24 v26 fun v27=>
  biW .add v27 (.str ⟨#[64]⟩) fun v28=>
  biW .add v28 v4 fun v30=>
  rtW [.tmp v30] QF S)
def C_names_ShowTuple_1 (QF:AEnd→Store→Prop) (v1 v3 v4 v16:AV) (S:Store):Prop:=
  grW v16 false (faW 2 v1 fun v18=>
  ldW S 1 false v18 fun v19=>
  caW PG S (.func (.func 144) [] []) [v19] (fun v20 S=>
  ntW v20 fun v21=>
  pkW v16 (.bool true) v21 fun v22=>
  C_names_ShowTuple_2 QF v1 v3 v4 v22 S) (pqW QF))
  (pkW v16 (.bool true) undefA fun v22=>
  C_names_ShowTuple_2 QF v1 v3 v4 v22 S)
def B_names_ShowTuple (QF:AEnd→Store→Prop) (v0:AV) (S:Store):Prop:=
  brW 6 v0 fun v1=>
  faW 0 v1 fun v5=>
  faW 3 v1 fun v8=>
  ldW S 2 true v5 fun v6=>
  ldW S 3 true v8 fun v9=>
  caW PG S (.func (.func 124) [] []) [v6] (fun v7 S1=>
  kpW [v8] S S1 (
  caW PG S1 (.func (.func 125) [] []) [v9] (fun v10 S=>
  biW .eql v7 (.str ⟨#[]⟩) fun v12=>
  grW v12 false (biW .eql v10 (.str ⟨#[]⟩) fun v15=>
  pkW v12 (.bool true) v15 fun v16=>
  C_names_ShowTuple_1 QF v1 v7 v10 v16 S)
  (pkW v12 (.bool true) undefA fun v16=>
  C_names_ShowTuple_1 QF v1 v7 v10 v16 S)) (pqW QF))) (pqW QF)
theorem w_names_ShowTuple {QF:AEnd→Store→Prop} {v0:AV} {S:Store} (h:B_names_ShowTuple QF v0 S):ACalls PG nr_names_ShowTuple [v0] S QF:=
  acalls_tf (F:=tf_names_ShowTuple) (by kernel_rfl) rfl (by kernel_rfl) h
def tf_tuple_Allowed_1:TFunc where
  n:=11
  args:=2
  res:=[.tmp 3]
  code:=.seq (.reg [i1 2 (.boxr 46 2 (.t 0)),
    i1 3 (.mov (.c (.bool false)))] [1,2] []) (.seq (.reg [i1 4 (.faddr 0 (.t 2)),
    i1 5 (.load 1 false (.t 4)),
    i1 6 (.faddr 3 (.t 1)),
    i1 7 (.faddr 0 (.t 6)),
    i1 8 (.faddr 0 (.t 7)),
    i1 9 (.load 1 false (.t 8)),
    i1 10 (.bin .eql (.t 5) (.t 9)),
    i1 3 (.mov (.t 10))] [3] []) (.ret))
abbrev nr_tuple_Allowed_1:Nat:=99
def B_tuple_Allowed_1 (QF:AEnd→Store→Prop) (v0 v1:AV) (S:Store):Prop:=
  brW 2 v0 fun v2=>
  faW 0 v2 fun v4=>
  ldW S 1 false v4 fun v5=>
  faW 3 v1 fun v6=>
  faW 0 v6 fun v7=>
  faW 0 v7 fun v8=>
  ldW S 1 false v8 fun v9=>
  biW .eql v5 v9 fun v10=>
  rtW [.tmp v10] QF S
theorem w_tuple_Allowed_1 {QF:AEnd→Store→Prop} {v0 v1:AV} {S:Store} (h:B_tuple_Allowed_1 QF v0 v1 S):ACalls PG nr_tuple_Allowed_1 [v0,v1] S QF:=
  acalls_tf (F:=tf_tuple_Allowed_1) (by kernel_rfl) rfl (by kernel_rfl) h
def tf_slices_Contains_Ref:TFunc where
  n:=9
  args:=2
  res:=[.tmp 4]
  code:=.seq (.reg [i1 3 (.boxr 171 2 (.t 1)),
    i1 4 (.mov (.c (.bool false)))] [0,3] []) (.seq (.reg [i1 5 (.mov (.t 0)),
    i1 6 (.load 2 true (.t 3)),
    i1 7 (.call (.f 145) [.t 5,.t 6]),
    i1 8 (.bin .geq (.t 7) (.c (.int .i64 0))),
    i1 4 (.mov (.t 8))] [4] []) (.ret))
abbrev nr_slices_Contains_Ref:Nat:=100
def B_slices_Contains_Ref (QF:AEnd→Store→Prop) (v0 v1:AV) (S:Store):Prop:=
  brW 2 v1 fun v3=>
  ldW S 2 true v3 fun v6=>
  caW PG S (.func (.func 145) [] []) [v0,v6] (fun v7 S=>
  biW .geq v7 (.int .i64 0) fun v8=>
  rtW [.tmp v8] QF S) (pqW QF)
theorem w_slices_Contains_Ref {QF:AEnd→Store→Prop} {v0 v1:AV} {S:Store} (h:B_slices_Contains_Ref QF v0 v1 S):ACalls PG nr_slices_Contains_Ref [v0,v1] S QF:=
  acalls_tf (F:=tf_slices_Contains_Ref) (by kernel_rfl) rfl (by kernel_rfl) h
def tf_engine_search_stands:TFunc where
  n:=25
  args:=3
  res:=[.tmp 6]
  code:=.seq (.reg [i1 3 (.boxr 90 1 (.t 0)),
    i1 4 (.boxr 97 3 (.t 1)),
    i1 5 (.boxr 53 6 (.t 2)),
    i1 6 (.mov (.c (.bool false)))] [3,4,5] []) (.seq (.seq (.reg [i1 7 (.faddr 1 (.t 5)),
    i1 8 (.load 1 false (.t 7)),
    i1 9 (.len 1 (.t 8)),
    i1 10 (.bin .eql (.t 9) (.c (.int .i64 0)))] [3,4,5,10] []) (.cond (.t 10) (.seq (.reg [i1 11 (.load 1 false (.t 3)),
    i1 12 (.faddr 0 (.t 4)),
    i1 13 (.load 2 true (.t 12)),
    i1 14 (.faddr 2 (.t 5)),
    i1 15 (.load 4 true (.t 14)),
    i1 16 (.call (.f 146) [.t 11,.t 13,.t 15]),
    i1 6 (.mov (.t 16))] [6] []) (.ret)) (.skip))) (.seq (.regl [6,0,1,2,3,4,5,7,8] [i1 23 (.mkf (.func 148) [] [.t 3]),
    i1 17 (.load 1 false (.t 3)),
    i1 18 (.nilck (.t 17)),
    i1 19 (.faddr 1 (.t 18)),
    i1 20 (.load 1 false (.t 19)),
    i1 21 (.load 3 true (.t 4)),
    i1 22 (.lookup (true,[.str,.str,.str]) false (.nils) (.t 20) (.t 21)),
    i1 24 (.call (.f 147) [.t 22,.t 23]),
    i1 6 (.mov (.t 24))] [6] []) (.ret)))
abbrev nr_engine_search_stands:Nat:=101
def B_engine_search_stands (QF:AEnd→Store→Prop) (v0 v1 v2:AV) (S:Store):Prop:=
  brW 1 v0 fun v3=>
  brW 3 v1 fun v4=>
  brW 6 v2 fun v5=>
  faW 1 v5 fun v7=>
  ldW S 1 false v7 fun v8=>
  lnW S 1 v8 fun v9=>
  biW .eql v9 (.int .i64 0) fun v10=>
  cnW v10 (ldW S 1 false v3 fun v11=>
  faW 0 v4 fun v12=>
  ldW S 2 true v12 fun v13=>
  faW 2 v5 fun v14=>
  ldW S 4 true v14 fun v15=>
  caW PG S (.func (.func 146) [] []) [v11,v13,v15] (fun v16 S=>
  rtW [.tmp v16] QF S) (pqW QF))
  (ldW S 1 false v3 fun v17=>
  nkW v17 fun v18=>
  faW 1 v18 fun v19=>
  ldW S 1 false v19 fun v20=>
  ldW S 3 true v4 fun v21=>
  lkW S (true,[.str,.str,.str]) false (.nils) v20 v21 fun v22=>
  caW PG S (.func (.func 147) [] []) [v22,(.func (.func 148) [] [v3])] (fun v24 S=>
  rtW [.tmp v24] QF S) (pqW QF))
theorem w_engine_search_stands {QF:AEnd→Store→Prop} {v0 v1 v2:AV} {S:Store} (h:B_engine_search_stands QF v0 v1 v2 S):ACalls PG nr_engine_search_stands [v0,v1,v2] S QF:=
  acalls_tf (F:=tf_engine_search_stands) (by kernel_rfl) rfl (by kernel_rfl) h
end Go.HL
