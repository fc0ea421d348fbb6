/- A part of a proof. -/
import Derived.Test.YtadmdlpmikoghaaGreatKhHlP
set_option maxRecDepth 100000
set_option linter.unusedVariables false
namespace Go.HL
def tf_ref11_Reader_must:TFunc where
  n:=14
  args:=2
  res:=[]
  code:=.seq (.reg [i1 5 (.mov (.t 0)),
    i1 6 (.mov (.t 1)),
    i1 7 (.call (.f 84) [.t 5,.t 6]),
    i1 4 (.mov (.t 7))] [0,4] []) (.seq (.reg [i1 8 (.mov (.t 4)),
    i1 9 (.not (.t 8))] [0,9] []) (.cond (.t 9) (.reg [i1 10 (.mov (.t 0)),
    i1 11 (.mov (.t 0)),
    i1 12 (.call (.f 87) [.t 11]),
    i1 13 (.call (.f 88) [.t 10,.t 12,.c (.int .i64 8)])] [] []) (.skip)))
abbrev nr_ref11_Reader_must:Nat:=130
def B_ref11_Reader_must (QF:AEnd→Store→Prop) (v0 v1:AV) (S:Store):Prop:=
  caW PG S (.func (.func 84) [] []) [v0,v1] (fun v7 S=>
  ntW v7 fun v9=>
  cnW v9 (caW PG S (.func (.func 87) [] []) [v0] (fun v12 S=>
  caW PG S (.func (.func 88) [] []) [v0,v12,(.int .i64 8)] (fun v13 S=>
  rtW [] QF S) (pqW QF)) (pqW QF))
  (rtW [] QF S)) (pqW QF)
theorem w_ref11_Reader_must {QF:AEnd→Store→Prop} {v0 v1:AV} {S:Store} (h:B_ref11_Reader_must QF v0 v1 S):ACalls PG nr_ref11_Reader_must [v0,v1] S QF:=
  acalls_tf (F:=tf_ref11_Reader_must) (by kernel_rfl) rfl (by kernel_rfl) h
def tf_ref11_Reader_ref:TFunc where
  n:=13
  args:=1
  res:=[.cell 2 2 true]
  code:=.seq (.reg [i1 2 (.alloc 171 [.str ⟨#[]⟩,.str ⟨#[]⟩])] [0,2] []) (.seq (.reg [i1 4 (.mov (.t 0)),
    i1 5 (.call (.f 85) [.t 4]),
    i1 6 (.build [.str ⟨#[]⟩,.str ⟨#[]⟩] [(0,1,.t 5)]),
    i1 3 (.alloc 171 [.str ⟨#[]⟩,.str ⟨#[]⟩]),
    i0 (.store 2 (.t 3) (.t 6))] [0,2,3] []) (.seq (.seq (.reg [i1 7 (.mov (.t 0)),
    i1 8 (.call (.f 84) [.t 7,.c (.str ⟨#[35]⟩)])] [0,2,3,8] []) (.cond (.t 8) (.reg [i1 9 (.mov (.t 0)),
    i1 10 (.call (.f 85) [.t 9]),
    i1 11 (.faddr 1 (.t 3)),
    i0 (.store 1 (.t 11) (.t 10))] [2,3] []) (.skip))) (.seq (.reg [i1 12 (.load 2 true (.t 3)),
    i0 (.store 2 (.t 2) (.t 12))] [2] [2]) (.ret))))
abbrev nr_ref11_Reader_ref:Nat:=131
def C_ref11_Reader_ref_1 (QF:AEnd→Store→Prop) (v2 v3:AV) (S:Store):Prop:=
  ldW S 2 true v3 fun v12=>
  stW S 2 v2 v12 fun S=>
  fzW S v2 fun v2 S=>
  rtW [.cell v2 2 true] QF S
def B_ref11_Reader_ref (QF:AEnd→Store→Prop) (v0:AV) (S:Store):Prop:=
  alW S 171 [.str ⟨#[]⟩,.str ⟨#[]⟩] fun v2 S=>
  caW PG S (.func (.func 85) [] []) [v0] (fun v5 S=>
  bdW [.str ⟨#[]⟩,.str ⟨#[]⟩] [(0,1,v5)] fun v6=>
  alW S 171 [.str ⟨#[]⟩,.str ⟨#[]⟩] fun v3 S=>
  stW S 2 v3 v6 fun S=>
  caW PG S (.func (.func 84) [] []) [v0,(.str ⟨#[35]⟩)] (fun v8 S=>
  cnW v8 (caW PG S (.func (.func 85) [] []) [v0] (fun v10 S=>
  faW 1 v3 fun v11=>
  stW S 1 v11 v10 fun S=>
  C_ref11_Reader_ref_1 QF v2 v3 S) (pqW QF))
  (C_ref11_Reader_ref_1 QF v2 v3 S)) (pqW QF)) (pqW QF)
theorem w_ref11_Reader_ref {QF:AEnd→Store→Prop} {v0:AV} {S:Store} (h:B_ref11_Reader_ref QF v0 S):ACalls PG nr_ref11_Reader_ref [v0] S QF:=
  acalls_tf (F:=tf_ref11_Reader_ref) (by kernel_rfl) rfl (by kernel_rfl) h
def tf_ref11_Reader_expr:TFunc where
  n:=48
  args:=1
  res:=[.cell 2 4 true]
  code:=.seq (.reg [i1 2 (.alloc 51 [.int .i64 0,.str ⟨#[]⟩,.str ⟨#[]⟩,.nils])] [0,2] []) (.seq (.reg [i1 7 (.mov (.t 0)),
    i1 8 (.call (.f 171) [.t 7]),
    i1 3 (.alloc 51 [.int .i64 0,.str ⟨#[]⟩,.str ⟨#[]⟩,.nils]),
    i0 (.store 4 (.t 3) (.t 8))] [0,2,3] []) (.seq (.block 0 (.loop [0,2,3] (.seq (.seq (.reg [i1 9 (.mov (.t 0)),
    i1 10 (.nilck (.t 9)),
    i1 11 (.faddr 3 (.t 10)),
    i1 12 (.faddr 2 (.t 11)),
    i1 13 (.load 1 false (.t 12)),
    i1 14 (.bin .eql (.t 13) (.c (.int .i64 0))),
    i1 15 (.mov (.t 14)),
    .grp 15 true [s1 16 (.mov (.t 0)),s1 17 (.call (.f 87) [.t 16]),s1 18 (.field 0 1 false (.t 17)),s1 19 (.bin .eql (.t 18) (.c (.str ⟨#[43]⟩))),s1 20 (.mov (.t 19))],
    .grp 20 false [s1 21 (.mov (.t 0)),s1 22 (.call (.f 87) [.t 21]),s1 23 (.field 0 1 false (.t 22)),s1 24 (.bin .eql (.t 23) (.c (.str ⟨#[45]⟩)))],
    .grp 15 true [s1 25 (.pick (.t 20) (.c (.bool true)) (.t 24))],
    i1 26 (.pick (.t 15) (.t 25) (.c (.bool false)))] [0,2,3,26] []) (.cond (.t 26) (.skip) (.exit 0))) (.block 1 (.seq (.reg [i1 27 (.mov (.t 0)),
    i1 28 (.call (.f 87) [.t 27]),
    .box2 4 149 [.str ⟨#[]⟩,.int .i64 0,.int .i64 0] 3 (.t 28)] [0,2,3,4] []) (.seq (.reg [i1 5 (.mov (.c (.int .i64 2)))] [0,2,3,4,5] []) (.seq (.seq (.reg [i1 29 (.faddr 0 (.t 4)),
    i1 30 (.load 1 false (.t 29)),
    i1 31 (.bin .eql (.t 30) (.c (.str ⟨#[45]⟩)))] [0,2,3,4,5,31] []) (.cond (.t 31) (.reg [i1 5 (.mov (.c (.int .i64 4)))] [0,2,3,4,5] []) (.skip))) (.seq (.reg [i1 32 (.mov (.t 0)),
    i1 33 (.nilck (.t 32)),
    i1 34 (.faddr 1 (.t 33)),
    i1 35 (.load 1 false (.t 34)),
    i1 36 (.bin .add (.t 35) (.c (.int .i64 1))),
    i1 37 (.nilck (.t 32)),
    i1 38 (.faddr 1 (.t 37)),
    i0 (.store 1 (.t 38) (.t 36))] [0,2,3,4,5] []) (.seq (.reg [i1 39 (.mov (.t 0)),
    i1 40 (.call (.f 171) [.t 39]),
    .box2 6 51 [.int .i64 0,.str ⟨#[]⟩,.str ⟨#[]⟩,.nils] 4 (.t 40)] [0,2,3,4,5,6] []) (.reg [i1 41 (.mov (.t 0)),
    i1 42 (.mov (.t 5)),
    i1 43 (.load 3 true (.t 4)),
    i1 44 (.load 4 true (.t 3)),
    i1 45 (.load 4 true (.t 6)),
    i1 46 (.call (.f 172) [.t 41,.t 42,.t 43,.t 44,.t 45]),
    i0 (.store 4 (.t 3) (.t 46))] [0,2,3] [])))))))))) (.seq (.reg [i1 47 (.load 4 true (.t 3)),
    i0 (.store 4 (.t 2) (.t 47))] [2] [2]) (.ret))))
abbrev nr_ref11_Reader_expr:Nat:=132
def C_ref11_Reader_expr_5 (QF:AEnd→Store→Prop) (r0:LE→Store→Prop) (v0 v2 v3 v4 v5:AV) (S:Store):Prop:=
  nkW v0 fun v33=>
  faW 1 v33 fun v34=>
  ldW S 1 false v34 fun v35=>
  biW .add v35 (.int .i64 1) fun v36=>
  nkW v0 fun v37=>
  faW 1 v37 fun v38=>
  stW S 1 v38 v36 fun S=>
  caW PG S (.func (.func 171) [] []) [v0] (fun v40 S=>
  bfW 4 v40 fun v6=>
  ldW S 3 true v4 fun v43=>
  ldW S 4 true v3 fun v44=>
  ldW S 4 true v6 fun v45=>
  caW PG S (.func (.func 172) [] []) [v0,v5,v43,v44,v45] (fun v46 S=>
  stW S 4 v3 v46 fun S=>
  rcW r0 [(0,v0),(2,v2),(3,v3)] S) (pqW QF)) (pqW QF)
def C_ref11_Reader_expr_4 (QF:AEnd→Store→Prop) (r0:LE→Store→Prop) (v0 v2 v3 v26:AV) (S:Store):Prop:=
  cnW v26 (caW PG S (.func (.func 87) [] []) [v0] (fun v28 S=>
  bfW 3 v28 fun v4=>
  faW 0 v4 fun v29=>
  ldW S 1 false v29 fun v30=>
  biW .eql v30 (.str ⟨#[45]⟩) fun v31=>
  cnW v31 (C_ref11_Reader_expr_5 QF r0 v0 v2 v3 v4 (.int .i64 4) S)
  (C_ref11_Reader_expr_5 QF r0 v0 v2 v3 v4 (.int .i64 2) S)) (pqW QF))
  (ldW S 4 true v3 fun v47=>
  stW S 4 v2 v47 fun S=>
  fzW S v2 fun v2 S=>
  rtW [.cell v2 4 true] QF S)
def C_ref11_Reader_expr_3 (QF:AEnd→Store→Prop) (r0:LE→Store→Prop) (v0 v2 v3 v15 v20 v24:AV) (S:Store):Prop:=
  grW v15 true (pkW v20 (.bool true) v24 fun v25=>
  pkW v15 v25 (.bool false) fun v26=>
  C_ref11_Reader_expr_4 QF r0 v0 v2 v3 v26 S)
  (pkW v15 undefA (.bool false) fun v26=>
  C_ref11_Reader_expr_4 QF r0 v0 v2 v3 v26 S)
def C_ref11_Reader_expr_2 (QF:AEnd→Store→Prop) (r0:LE→Store→Prop) (v0 v2 v3 v15 v20:AV) (S:Store):Prop:=
  grW v20 false (caW PG S (.func (.func 87) [] []) [v0] (fun v22 S=>
  fdW 0 1 false v22 fun v23=>
  biW .eql v23 (.str ⟨#[45]⟩) fun v24=>
  C_ref11_Reader_expr_3 QF r0 v0 v2 v3 v15 v20 v24 S) (pqW QF))
  (C_ref11_Reader_expr_3 QF r0 v0 v2 v3 v15 v20 undefA S)
def C_ref11_Reader_expr_1 (QF:AEnd→Store→Prop) (r0:LE→Store→Prop) (v0 v2 v3:AV) (S:Store):Prop:=
  nkW v0 fun v10=>
  faW 3 v10 fun v11=>
  faW 2 v11 fun v12=>
  ldW S 1 false v12 fun v13=>
  biW .eql v13 (.int .i64 0) fun v14=>
  grW v14 true (caW PG S (.func (.func 87) [] []) [v0] (fun v17 S=>
  fdW 0 1 false v17 fun v18=>
  biW .eql v18 (.str ⟨#[43]⟩) fun v19=>
  C_ref11_Reader_expr_2 QF r0 v0 v2 v3 v14 v19 S) (pqW QF))
  (C_ref11_Reader_expr_2 QF r0 v0 v2 v3 v14 undefA S)
def B_ref11_Reader_expr (QF:AEnd→Store→Prop) (v0:AV) (S:Store):Prop:=
  alW S 51 [.int .i64 0,.str ⟨#[]⟩,.str ⟨#[]⟩,.nils] fun v2 S=>
  caW PG S (.func (.func 171) [] []) [v0] (fun v8 S=>
  alW S 51 [.int .i64 0,.str ⟨#[]⟩,.str ⟨#[]⟩,.nils] fun v3 S=>
  stW S 4 v3 v8 fun S=>
  LoopP (fun r0 l S=>C_ref11_Reader_expr_1 QF r0 (lget l 0) (lget l 2) (lget l 3) S) [(0,v0),(2,v2),(3,v3)] S) (pqW QF)
theorem w_ref11_Reader_expr {QF:AEnd→Store→Prop} {v0:AV} {S:Store} (h:B_ref11_Reader_expr QF v0 S):ACalls PG nr_ref11_Reader_expr [v0] S QF:=
  acalls_tf (F:=tf_ref11_Reader_expr) (by kernel_rfl) rfl (by kernel_rfl) h
def tf_ref10_cut:TFunc where
  n:=27
  args:=2
  res:=[.tmp 4,.tmp 5,.tmp 6]
  code:=.seq (.reg [i1 4 (.mov (.c (.str ⟨#[]⟩))),
    i1 5 (.mov (.c (.str ⟨#[]⟩))),
    i1 6 (.mov (.c (.bool false)))] [0,1] []) (.seq (.seq (.reg [i1 7 (.mov (.c (.int .i64 0)))] [0,1,7] []) (.block 0 (.loop [0,1,7] (.seq (.seq (.reg [i1 8 (.mov (.t 7)),
    i1 9 (.mov (.t 0)),
    i1 10 (.len 0 (.t 9)),
    i1 11 (.bin .lss (.t 8) (.t 10))] [0,1,7,11] []) (.cond (.t 11) (.skip) (.exit 0))) (.seq (.block 1 (.seq (.reg [i1 14 (.mov (.t 0)),
    i1 15 (.mov (.t 7)),
    i1 16 (.idxs (.t 14) (.t 15)),
    i1 17 (.mov (.t 1)),
    i1 18 (.bin .eql (.t 16) (.t 17))] [0,1,7,18] []) (.cond (.t 18) (.seq (.regl [0,1,2,3,4,5,6,7,8,9] [i1 19 (.mov (.t 0)),
    i1 20 (.mov (.t 7)),
    i1 21 (.slics (.t 19) none (some (.t 20))),
    i1 22 (.mov (.t 0)),
    i1 23 (.mov (.t 7)),
    i1 24 (.bin .add (.t 23) (.c (.int .i64 1))),
    i1 25 (.slics (.t 22) (some (.t 24)) none),
    i1 4 (.mov (.t 21)),
    i1 5 (.mov (.t 25)),
    i1 6 (.mov (.c (.bool true)))] [4,5,6] []) (.ret)) (.skip)))) (.reg [i1 12 (.mov (.t 7)),
    i1 13 (.bin .add (.t 12) (.c (.int .i64 1))),
    i1 7 (.mov (.t 13))] [0,1,7] [])))))) (.seq (.reg [i1 26 (.mov (.t 0)),
    i1 4 (.mov (.t 26)),
    i1 5 (.mov (.c (.str ⟨#[]⟩))),
    i1 6 (.mov (.c (.bool false)))] [4,5,6] []) (.ret)))
abbrev nr_ref10_cut:Nat:=133
def C_ref10_cut_1 (QF:AEnd→Store→Prop) (r0:LE→Store→Prop) (v0 v1 v7:AV) (S:Store):Prop:=
  lnW S 0 v0 fun v10=>
  biW .lss v7 v10 fun v11=>
  cnW v11 (isW v0 v7 fun v16=>
  biW .eql v16 v1 fun v18=>
  cnW v18 (ssW v0 none (some v7) fun v21=>
  biW .add v7 (.int .i64 1) fun v24=>
  ssW v0 (some v24) none fun v25=>
  rtW [.tmp v21,.tmp v25,.tmp (.bool true)] QF S)
  (biW .add v7 (.int .i64 1) fun v13=>
  rcW r0 [(0,v0),(1,v1),(7,v13)] S))
  (rtW [.tmp v0,.tmp (.str ⟨#[]⟩),.tmp (.bool false)] QF S)
def B_ref10_cut (QF:AEnd→Store→Prop) (v0 v1:AV) (S:Store):Prop:=
  LoopP (fun r0 l S=>C_ref10_cut_1 QF r0 (lget l 0) (lget l 1) (lget l 7) S) [(0,v0),(1,v1),(7,(.int .i64 0))] S
theorem w_ref10_cut {QF:AEnd→Store→Prop} {v0 v1:AV} {S:Store} (h:B_ref10_cut QF v0 v1 S):ACalls PG nr_ref10_cut [v0,v1] S QF:=
  acalls_tf (F:=tf_ref10_cut) (by kernel_rfl) rfl (by kernel_rfl) h
def tf_ref10_Object:TFunc where
  n:=33
  args:=1
  res:=[.cell 2 2 true,.tmp 3]
  code:=.seq (.reg [i1 2 (.alloc 27 [.str ⟨#[]⟩,.str ⟨#[]⟩]),
    i1 3 (.mov (.c (.bool false)))] [0,2] []) (.seq (.reg [i1 10 (.mov (.t 0)),
    i1 11 (.call (.f 133) [.t 10,.c (.int .u8 58)]),
    i1 9 (.mov (.t 11)),
    i1 12 (.extr (.t 9) 0),
    i1 13 (.extr (.t 9) 1),
    i1 14 (.extr (.t 9) 2),
    i1 4 (.mov (.t 12)),
    i1 5 (.mov (.t 13)),
    i1 6 (.mov (.t 14))] [2,4,5,6] []) (.seq (.reg [i1 15 (.mov (.t 4)),
    i1 16 (.call (.f 78) [.t 15]),
    i1 7 (.mov (.t 16))] [2,4,5,6,7] []) (.seq (.reg [i1 17 (.mov (.t 5)),
    i1 18 (.call (.f 79) [.t 17]),
    i1 8 (.mov (.t 18))] [2,4,5,6,7,8] []) (.seq (.seq (.reg [i1 19 (.mov (.t 6)),
    i1 20 (.not (.t 19)),
    i1 21 (.mov (.t 20)),
    .grp 21 false [s1 22 (.mov (.t 7)),s1 23 (.not (.t 22))],
    i1 24 (.pick (.t 21) (.c (.bool true)) (.t 23)),
    i1 25 (.mov (.t 24)),
    .grp 25 false [s1 26 (.mov (.t 8)),s1 27 (.not (.t 26))],
    i1 28 (.pick (.t 25) (.c (.bool true)) (.t 27))] [2,4,5,28] []) (.cond (.t 28) (.seq (.reg [i1 29 (.build [.str ⟨#[]⟩,.str ⟨#[]⟩] []),
    i0 (.store 2 (.t 2) (.t 29)),
    i1 3 (.mov (.c (.bool false)))] [2,3] []) (.ret)) (.skip))) (.seq (.reg [i1 30 (.mov (.t 4)),
    i1 31 (.mov (.t 5)),
    i1 32 (.build [.str ⟨#[]⟩,.str ⟨#[]⟩] [(0,1,.t 30),(1,1,.t 31)]),
    i0 (.store 2 (.t 2) (.t 32)),
    i1 3 (.mov (.c (.bool true)))] [2,3] []) (.ret))))))
abbrev nr_ref10_Object:Nat:=134
def C_ref10_Object_2 (QF:AEnd→Store→Prop) (v2 v4 v5 v28:AV) (S:Store):Prop:=
  cnW v28 (bdW [.str ⟨#[]⟩,.str ⟨#[]⟩] [] fun v29=>
  stW S 2 v2 v29 fun S=>
  rtW [.cell v2 2 true,.tmp (.bool false)] QF S)
  (bdW [.str ⟨#[]⟩,.str ⟨#[]⟩] [(0,1,v4),(1,1,v5)] fun v32=>
  stW S 2 v2 v32 fun S=>
  rtW [.cell v2 2 true,.tmp (.bool true)] QF S)
def C_ref10_Object_1 (QF:AEnd→Store→Prop) (v2 v4 v5 v8 v24:AV) (S:Store):Prop:=
  grW v24 false (ntW v8 fun v27=>
  pkW v24 (.bool true) v27 fun v28=>
  C_ref10_Object_2 QF v2 v4 v5 v28 S)
  (pkW v24 (.bool true) undefA fun v28=>
  C_ref10_Object_2 QF v2 v4 v5 v28 S)
def B_ref10_Object (QF:AEnd→Store→Prop) (v0:AV) (S:Store):Prop:=
  alW S 27 [.str ⟨#[]⟩,.str ⟨#[]⟩] fun v2 S=>
  caW PG S (.func (.func 133) [] []) [v0,(.int .u8 58)] (fun v11 S=>
  exW 0 v11 fun v12=>
  exW 1 v11 fun v13=>
  exW 2 v11 fun v14=>
  caW PG S (.func (.func 78) [] []) [v12] (fun v16 S=>
  caW PG S (.func (.func 79) [] []) [v13] (fun v18 S=>
  ntW v14 fun v20=>
  grW v20 false (ntW v16 fun v23=>
  pkW v20 (.bool true) v23 fun v24=>
  C_ref10_Object_1 QF v2 v12 v13 v18 v24 S)
  (pkW v20 (.bool true) undefA fun v24=>
  C_ref10_Object_1 QF v2 v12 v13 v18 v24 S)) (pqW QF)) (pqW QF)) (pqW QF)
theorem w_ref10_Object {QF:AEnd→Store→Prop} {v0:AV} {S:Store} (h:B_ref10_Object QF v0 S):ACalls PG nr_ref10_Object [v0] S QF:=
  acalls_tf (F:=tf_ref10_Object) (by kernel_rfl) rfl (by kernel_rfl) h
def tf_ref10_Subject:TFunc where
  n:=36
  args:=1
  res:=[.cell 2 3 true,.tmp 3]
  code:=.seq (.reg [i1 2 (.alloc 39 [.str ⟨#[]⟩,.str ⟨#[]⟩,.str ⟨#[]⟩]),
    i1 3 (.mov (.c (.bool false)))] [0,2] []) (.seq (.reg [i1 11 (.mov (.t 0)),
    i1 12 (.call (.f 133) [.t 11,.c (.int .u8 35)]),
    i1 10 (.mov (.t 12)),
    i1 13 (.extr (.t 10) 0),
    i1 14 (.extr (.t 10) 1),
    i1 15 (.extr (.t 10) 2),
    i1 4 (.mov (.t 13)),
    i1 5 (.mov (.t 14)),
    i1 6 (.mov (.t 15))] [2,4,5,6] []) (.seq (.reg [i1 17 (.mov (.t 4)),
    i1 18 (.call (.f 134) [.t 17]),
    i1 16 (.mov (.t 18)),
    i1 19 (.extr (.t 16) 0),
    i1 20 (.extr (.t 16) 1),
    .box2 7 27 [.str ⟨#[]⟩,.str ⟨#[]⟩] 2 (.t 19),
    i1 8 (.mov (.t 20))] [2,5,6,7,8] []) (.seq (.reg [i1 21 (.mov (.t 5)),
    i1 22 (.call (.f 78) [.t 21]),
    i1 9 (.mov (.t 22))] [2,5,6,7,8,9] []) (.seq (.seq (.reg [i1 23 (.mov (.t 8)),
    i1 24 (.not (.t 23)),
    i1 25 (.mov (.t 24)),
    .grp 25 false [s1 26 (.mov (.t 6)),s1 27 (.mov (.t 26))],
    .grp 27 true [s1 28 (.mov (.t 9)),s1 29 (.not (.t 28))],
    .grp 25 false [s1 30 (.pick (.t 27) (.t 29) (.c (.bool false)))],
    i1 31 (.pick (.t 25) (.c (.bool true)) (.t 30))] [2,5,7,31] []) (.cond (.t 31) (.seq (.reg [i1 32 (.build [.str ⟨#[]⟩,.str ⟨#[]⟩,.str ⟨#[]⟩] []),
    i0 (.store 3 (.t 2) (.t 32)),
    i1 3 (.mov (.c (.bool false)))] [2,3] []) (.ret)) (.skip))) (.seq (.reg [i1 33 (.load 2 true (.t 7)),
    i1 34 (.mov (.t 5)),
    i1 35 (.build [.str ⟨#[]⟩,.str ⟨#[]⟩,.str ⟨#[]⟩] [(0,2,.t 33),(2,1,.t 34)]),
    i0 (.store 3 (.t 2) (.t 35)),
    i1 3 (.mov (.c (.bool true)))] [2,3] []) (.ret))))))
abbrev nr_ref10_Subject:Nat:=135
def C_ref10_Subject_3 (QF:AEnd→Store→Prop) (v2 v5 v7 v31:AV) (S:Store):Prop:=
  cnW v31 (bdW [.str ⟨#[]⟩,.str ⟨#[]⟩,.str ⟨#[]⟩] [] fun v32=>
  stW S 3 v2 v32 fun S=>
  rtW [.cell v2 3 true,.tmp (.bool false)] QF S)
  (ldW S 2 true v7 fun v33=>
  bdW [.str ⟨#[]⟩,.str ⟨#[]⟩,.str ⟨#[]⟩] [(0,2,v33),(2,1,v5)] fun v35=>
  stW S 3 v2 v35 fun S=>
  rtW [.cell v2 3 true,.tmp (.bool true)] QF S)
def C_ref10_Subject_2 (QF:AEnd→Store→Prop) (v2 v5 v7 v25 v27 v29:AV) (S:Store):Prop:=
  grW v25 false (pkW v27 v29 (.bool false) fun v30=>
  pkW v25 (.bool true) v30 fun v31=>
  C_ref10_Subject_3 QF v2 v5 v7 v31 S)
  (pkW v25 (.bool true) undefA fun v31=>
  C_ref10_Subject_3 QF v2 v5 v7 v31 S)
def C_ref10_Subject_1 (QF:AEnd→Store→Prop) (v2 v5 v7 v9 v25 v27:AV) (S:Store):Prop:=
  grW v27 true (ntW v9 fun v29=>
  C_ref10_Subject_2 QF v2 v5 v7 v25 v27 v29 S)
  (C_ref10_Subject_2 QF v2 v5 v7 v25 v27 undefA S)
def B_ref10_Subject (QF:AEnd→Store→Prop) (v0:AV) (S:Store):Prop:=
  alW S 39 [.str ⟨#[]⟩,.str ⟨#[]⟩,.str ⟨#[]⟩] fun v2 S=>
  caW PG S (.func (.func 133) [] []) [v0,(.int .u8 35)] (fun v12 S=>
  exW 0 v12 fun v13=>
  exW 1 v12 fun v14=>
  exW 2 v12 fun v15=>
  caW PG S (.func (.func 134) [] []) [v13] (fun v18 S=>
  exW 0 v18 fun v19=>
  exW 1 v18 fun v20=>
  bfW 2 v19 fun v7=>
  caW PG S (.func (.func 78) [] []) [v14] (fun v22 S=>
  ntW v20 fun v24=>
  grW v24 false (C_ref10_Subject_1 QF v2 v14 v7 v22 v24 v15 S)
  (C_ref10_Subject_1 QF v2 v14 v7 v22 v24 undefA S)) (pqW QF)) (pqW QF)) (pqW QF)
theorem w_ref10_Subject {QF:AEnd→Store→Prop} {v0:AV} {S:Store} (h:B_ref10_Subject QF v0 S):ACalls PG nr_ref10_Subject [v0] S QF:=
  acalls_tf (F:=tf_ref10_Subject) (by kernel_rfl) rfl (by kernel_rfl) h
def tf_lang_May:TFunc where
  n:=22
  args:=1
  res:=[.tmp 2]
  code:=.seq (.reg [i1 1 (.boxr 24 1 (.t 0)),
    i1 2 (.mov (.c (.bool false)))] [1] []) (.seq (.seq (.reg [i1 5 (.faddr 0 (.t 1)),
    i1 6 (.load 1 false (.t 5)),
    i1 7 (.len 1 (.t 6)),
    i1 8 (.mov (.c (.int .i64 0)))] [6,7,8] []) (.block 0 (.loop [6,7,8] (.seq (.reg [i1 9 (.bin .lss (.t 8) (.t 7))] [6,7,8,9] []) (.seq (.cond (.t 9) (.skip) (.exit 0)) (.seq (.block 1 (.seq (.reg [i1 10 (.iaddr 2 (.t 6) (.t 8)),
    i1 11 (.load 2 true (.t 10)),
    .box2 4 46 [.str ⟨#[]⟩,.nils] 2 (.t 11)] [4,6,7,8] []) (.seq (.reg [i1 12 (.faddr 0 (.t 4)),
    i1 13 (.load 1 false (.t 12)),
    i1 14 (.call (.f 144) [.t 13]),
    i1 15 (.not (.t 14)),
    i1 16 (.mov (.t 15)),
    .grp 16 false [s1 17 (.faddr 1 (.t 4)),s1 18 (.load 1 false (.t 17)),s1 19 (.call (.f 173) [.t 18,.f 174])],
    i1 20 (.pick (.t 16) (.c (.bool true)) (.t 19))] [6,7,8,20] []) (.cond (.t 20) (.seq (.reg [i1 2 (.mov (.c (.bool false)))] [2] []) (.ret)) (.skip))))) (.reg [i1 21 (.bin .add (.t 8) (.c (.int .i64 1))),
    i1 8 (.mov (.t 21))] [6,7,8] []))))))) (.seq (.reg [i1 2 (.mov (.c (.bool true)))] [2] []) (.ret)))
abbrev nr_lang_May:Nat:=136
def C_lang_May_1 (QF:AEnd→Store→Prop) (r0:LE→Store→Prop) (v6 v7 v8:AV) (S:Store):Prop:=
  biW .lss v8 v7 fun v9=>
  cnW v9 (iaW 2 v6 v8 fun v10=>
  ldW S 2 true v10 fun v11=>
  bfW 2 v11 fun v4=>
  faW 0 v4 fun v12=>
  ldW S 1 false v12 fun v13=>
  caW PG S (.func (.func 144) [] []) [v13] (fun v14 S=>
  ntW v14 fun v15=>
  grW v15 false (faW 1 v4 fun v17=>
  ldW S 1 false v17 fun v18=>
  caW PG S (.func (.func 173) [] []) [v18,(.func (.func 174) [] [])] (fun v19 S=>
  pkW v15 (.bool true) v19 fun v20=>
  cnW v20 (rtW [.tmp (.bool false)] QF S)
  (biW .add v8 (.int .i64 1) fun v21=>
  rcW r0 [(6,v6),(7,v7),(8,v21)] S)) (pqW QF))
  (pkW v15 (.bool true) undefA fun v20=>
  cnW v20 (rtW [.tmp (.bool false)] QF S)
  (biW .add v8 (.int .i64 1) fun v21=>
  rcW r0 [(6,v6),(7,v7),(8,v21)] S))) (pqW QF))
  (rtW [.tmp (.bool true)] QF S)
def B_lang_May (QF:AEnd→Store→Prop) (v0:AV) (S:Store):Prop:=
  brW 1 v0 fun v1=>
  faW 0 v1 fun v5=>
  ldW S 1 false v5 fun v6=>
  lnW S 1 v6 fun v7=>
  LoopP (fun r0 l S=>C_lang_May_1 QF r0 (lget l 6) (lget l 7) (lget l 8) S) [(6,v6),(7,v7),(8,(.int .i64 0))] S
theorem w_lang_May {QF:AEnd→Store→Prop} {v0:AV} {S:Store} (h:B_lang_May QF v0 S):ACalls PG nr_lang_May [v0] S QF:=
  acalls_tf (F:=tf_lang_May) (by kernel_rfl) rfl (by kernel_rfl) h
def tf_rules_sizes:TFunc where
  n:=54
  args:=1
  res:=[.cell 2 3 true]
  code:=.seq (.reg [i1 1 (.boxr 24 1 (.t 0)),
    i1 2 (.alloc 88 [.int .i64 0,.int .i64 0,.int .i64 0])] [1,2] []) (.seq (.reg [i1 6 (.build [.int .i64 0,.int .i64 0,.int .i64 0] [(1,1,.c (.int .i64 (-1))),(2,1,.c (.int .i64 2))]),
    i1 3 (.alloc 88 [.int .i64 0,.int .i64 0,.int .i64 0]),
    i0 (.store 3 (.t 3) (.t 6))] [1,2,3] []) (.seq (.seq (.reg [i1 7 (.faddr 0 (.t 1)),
    i1 8 (.load 1 false (.t 7)),
    i1 9 (.len 1 (.t 8)),
    i1 10 (.bin .gtr (.t 9) (.c (.int .i64 16)))] [1,2,3,10] []) (.cond (.t 10) (.seq (.reg [i1 11 (.load 3 true (.t 3)),
    i0 (.store 3 (.t 2) (.t 11))] [2] []) (.ret)) (.skip))) (.seq (.seq (.reg [i1 12 (.faddr 0 (.t 1)),
    i1 13 (.load 1 false (.t 12)),
    i1 14 (.len 1 (.t 13)),
    i1 15 (.mov (.c (.int .i64 0)))] [1,2,3,14,15] []) (.block 0 (.loop [1,2,3,14,15] (.seq (.reg [i1 16 (.bin .lss (.t 15) (.t 14))] [1,2,3,14,15,16] []) (.seq (.cond (.t 16) (.skip) (.exit 0)) (.seq (.block 1 (.seq (.reg [i1 17 (.mov (.t 15)),
    i1 18 (.faddr 0 (.t 3)),
    i0 (.store 1 (.t 18) (.t 17))] [1,2,3,14,15] []) (.seq (.reg [i1 19 (.faddr 0 (.t 1)),
    i1 20 (.load 1 false (.t 19)),
    i1 21 (.faddr 0 (.t 3)),
    i1 22 (.load 1 false (.t 21)),
    i1 23 (.iaddr 2 (.t 20) (.t 22)),
    i1 24 (.faddr 1 (.t 23)),
    i1 25 (.load 1 false (.t 24)),
    i1 26 (.len 1 (.t 25)),
    i1 27 (.bin .gtr (.t 26) (.c (.int .i64 16)))] [1,2,3,14,15,27] []) (.cond (.t 27) (.seq (.reg [i1 28 (.load 3 true (.t 3)),
    i0 (.store 3 (.t 2) (.t 28))] [2] []) (.ret)) (.skip))))) (.reg [i1 29 (.bin .add (.t 15) (.c (.int .i64 1))),
    i1 15 (.mov (.t 29))] [1,2,3,14,15] []))))))) (.seq (.reg [i1 30 (.faddr 2 (.t 3)),
    i0 (.store 1 (.t 30) (.c (.int .i64 7)))] [1,2,3] []) (.seq (.reg [i1 31 (.mkmap (false,[.str])),
    i1 4 (.mov (.t 31))] [1,2,3,4] []) (.seq (.seq (.reg [i1 32 (.faddr 0 (.t 1)),
    i1 33 (.load 1 false (.t 32)),
    i1 34 (.len 1 (.t 33)),
    i1 35 (.mov (.c (.int .i64 0)))] [1,2,3,4,34,35] []) (.block 2 (.loop [1,2,3,4,34,35] (.seq (.reg [i1 36 (.bin .lss (.t 35) (.t 34))] [1,2,3,4,34,35,36] []) (.seq (.cond (.t 36) (.skip) (.exit 2)) (.seq (.block 3 (.seq (.reg [i1 37 (.mov (.t 35)),
    i1 38 (.faddr 0 (.t 3)),
    i0 (.store 1 (.t 38) (.t 37))] [1,2,3,4,34,35] []) (.seq (.reg [i1 39 (.faddr 0 (.t 1)),
    i1 40 (.load 1 false (.t 39)),
    i1 41 (.faddr 0 (.t 3)),
    i1 42 (.load 1 false (.t 41)),
    i1 43 (.iaddr 2 (.t 40) (.t 42)),
    i1 44 (.faddr 0 (.t 43)),
    i1 45 (.load 1 false (.t 44)),
    i1 5 (.mov (.t 45))] [1,2,3,4,5,34,35] []) (.seq (.seq (.reg [i1 46 (.mov (.t 4)),
    i1 47 (.mov (.t 5)),
    i1 48 (.lookup (false,[.str]) false (.bool false) (.t 46) (.t 47))] [1,2,3,4,5,34,35,48] []) (.cond (.t 48) (.seq (.reg [i1 49 (.load 3 true (.t 3)),
    i0 (.store 3 (.t 2) (.t 49))] [2] []) (.ret)) (.skip))) (.reg [i1 50 (.mov (.t 4)),
    i1 51 (.mov (.t 5)),
    i0 (.mupd (false,[.str]) (.t 50) (.t 51) (.c (.bool true)))] [1,2,3,4,34,35] []))))) (.reg [i1 52 (.bin .add (.t 35) (.c (.int .i64 1))),
    i1 35 (.mov (.t 52))] [1,2,3,4,34,35] []))))))) (.seq (.reg [i1 53 (.build [.int .i64 0,.int .i64 0,.int .i64 0] []),
    i0 (.store 3 (.t 2) (.t 53))] [2] []) (.ret))))))))
abbrev nr_rules_sizes:Nat:=137
def C_rules_sizes_2 (QF:AEnd→Store→Prop) (r0:LE→Store→Prop) (v1 v2 v3 v4 v34 v35:AV) (S:Store):Prop:=
  biW .lss v35 v34 fun v36=>
  cnW v36 (faW 0 v3 fun v38=>
  stW S 1 v38 v35 fun S=>
  faW 0 v1 fun v39=>
  ldW S 1 false v39 fun v40=>
  faW 0 v3 fun v41=>
  ldW S 1 false v41 fun v42=>
  iaW 2 v40 v42 fun v43=>
  faW 0 v43 fun v44=>
  ldW S 1 false v44 fun v45=>
  lkW S (false,[.str]) false (.bool false) v4 v45 fun v48=>
  cnW v48 (ldW S 3 true v3 fun v49=>
  stW S 3 v2 v49 fun S=>
  rtW [.cell v2 3 true] QF S)
  (muW S (false,[.str]) v4 v45 (.bool true) fun S=>
  biW .add v35 (.int .i64 1) fun v52=>
  rcW r0 [(1,v1),(2,v2),(3,v3),(4,v4),(34,v34),(35,v52)] S))
  (bdW [.int .i64 0,.int .i64 0,.int .i64 0] [] fun v53=>
  stW S 3 v2 v53 fun S=>
  rtW [.cell v2 3 true] QF S)
def C_rules_sizes_1 (QF:AEnd→Store→Prop) (r0:LE→Store→Prop) (v1 v2 v3 v14 v15:AV) (S:Store):Prop:=
  biW .lss v15 v14 fun v16=>
  cnW v16 (faW 0 v3 fun v18=>
  stW S 1 v18 v15 fun S=>
  faW 0 v1 fun v19=>
  ldW S 1 false v19 fun v20=>
  faW 0 v3 fun v21=>
  ldW S 1 false v21 fun v22=>
  iaW 2 v20 v22 fun v23=>
  faW 1 v23 fun v24=>
  ldW S 1 false v24 fun v25=>
  lnW S 1 v25 fun v26=>
  biW .gtr v26 (.int .i64 16) fun v27=>
  cnW v27 (ldW S 3 true v3 fun v28=>
  stW S 3 v2 v28 fun S=>
  rtW [.cell v2 3 true] QF S)
  (biW .add v15 (.int .i64 1) fun v29=>
  rcW r0 [(1,v1),(2,v2),(3,v3),(14,v14),(15,v29)] S))
  (faW 2 v3 fun v30=>
  stW S 1 v30 (.int .i64 7) fun S=>
  mmW S (false,[.str]) fun v31 S=>
  faW 0 v1 fun v32=>
  ldW S 1 false v32 fun v33=>
  lnW S 1 v33 fun v34=>
  LoopP (fun r0 l S=>C_rules_sizes_2 QF r0 (lget l 1) (lget l 2) (lget l 3) (lget l 4) (lget l 34) (lget l 35) S) [(1,v1),(2,v2),(3,v3),(4,v31),(34,v34),(35,(.int .i64 0))] S)
def B_rules_sizes (QF:AEnd→Store→Prop) (v0:AV) (S:Store):Prop:=
  brW 1 v0 fun v1=>
  alW S 88 [.int .i64 0,.int .i64 0,.int .i64 0] fun v2 S=>
  bdW [.int .i64 0,.int .i64 0,.int .i64 0] [(1,1,(.int .i64 (-1))),(2,1,(.int .i64 2))] fun v6=>
  alW S 88 [.int .i64 0,.int .i64 0,.int .i64 0] fun v3 S=>
  stW S 3 v3 v6 fun S=>
  faW 0 v1 fun v7=>
  ldW S 1 false v7 fun v8=>
  lnW S 1 v8 fun v9=>
  biW .gtr v9 (.int .i64 16) fun v10=>
  cnW v10 (ldW S 3 true v3 fun v11=>
  stW S 3 v2 v11 fun S=>
  rtW [.cell v2 3 true] QF S)
  (faW 0 v1 fun v12=>
  ldW S 1 false v12 fun v13=>
  lnW S 1 v13 fun v14=>
  LoopP (fun r0 l S=>C_rules_sizes_1 QF r0 (lget l 1) (lget l 2) (lget l 3) (lget l 14) (lget l 15) S) [(1,v1),(2,v2),(3,v3),(14,v14),(15,(.int .i64 0))] S)
theorem w_rules_sizes {QF:AEnd→Store→Prop} {v0:AV} {S:Store} (h:B_rules_sizes QF v0 S):ACalls PG nr_rules_sizes [v0] S QF:=
  acalls_tf (F:=tf_rules_sizes) (by kernel_rfl) rfl (by kernel_rfl) h
def tf_rules_index_plain_1:TFunc where
  n:=22
  args:=4
  res:=[.tmp 7]
  code:=.seq (.reg [i1 4 (.boxr 163 2 (.t 0)),
    i1 5 (.boxr 46 2 (.t 1)),
    i1 6 (.boxr 53 6 (.t 2)),
    i1 7 (.mov (.c (.int .i64 0)))] [3,4,5,6] []) (.seq (.seq (.reg [i1 11 (.load 1 false (.t 3)),
    i1 12 (.faddr 0 (.t 5)),
    i1 13 (.load 1 false (.t 12)),
    i1 14 (.faddr 0 (.t 6)),
    i1 15 (.load 1 false (.t 14)),
    i1 16 (.call (.f 96) [.t 11,.t 13,.t 15]),
    i1 10 (.mov (.t 16)),
    i1 17 (.extr (.t 10) 0),
    i1 18 (.extr (.t 10) 1),
    .box2 8 163 [.int .i64 0,.int .i64 0] 2 (.t 17),
    i1 9 (.mov (.t 18))] [4,8] []) (.seq (.reg [i1 19 (.load 2 true (.t 8)),
    i1 20 (.load 2 true (.t 4)),
    i1 21 (.eqp true (true,[.int .i64,.int .i64]) (.t 19) (.t 20))] [21] []) (.cond (.t 21) (.seq (.reg [i1 7 (.mov (.c (.int .i64 7)))] [7] []) (.ret)) (.skip)))) (.seq (.reg [i1 7 (.mov (.c (.int .i64 0)))] [7] []) (.ret)))
abbrev nr_rules_index_plain_1:Nat:=138
def B_rules_index_plain_1 (QF:AEnd→Store→Prop) (v0 v1 v2 v3:AV) (S:Store):Prop:=
  brW 2 v0 fun v4=>
  brW 2 v1 fun v5=>
  brW 6 v2 fun v6=>
  ldW S 1 false v3 fun v11=>
  faW 0 v5 fun v12=>
  ldW S 1 false v12 fun v13=>
  faW 0 v6 fun v14=>
  ldW S 1 false v14 fun v15=>
  caW PG S (.func (.func 96) [] []) [v11,v13,v15] (fun v16 S=>
  exW 0 v16 fun v17=>
  exW 1 v16 fun v18=>
  bfW 2 v17 fun v8=>
  ldW S 2 true v8 fun v19=>
  ldW S 2 true v4 fun v20=>
  eqW true (true,[.int .i64,.int .i64]) v19 v20 fun v21=>
  cnW v21 (rtW [.tmp (.int .i64 7)] QF S)
  (rtW [.tmp (.int .i64 0)] QF S)) (pqW QF)
theorem w_rules_index_plain_1 {QF:AEnd→Store→Prop} {v0 v1 v2 v3:AV} {S:Store} (h:B_rules_index_plain_1 QF v0 v1 v2 v3 S):ACalls PG nr_rules_index_plain_1 [v0,v1,v2,v3] S QF:=
  acalls_tf (F:=tf_rules_index_plain_1) (by kernel_rfl) rfl (by kernel_rfl) h
def tf_rules_index_plain_2:TFunc where
  n:=13
  args:=4
  res:=[.tmp 7]
  code:=.seq (.reg [i1 4 (.boxr 163 2 (.t 0)),
    i1 5 (.boxr 46 2 (.t 1)),
    i1 6 (.boxr 53 6 (.t 2)),
    i1 7 (.mov (.c (.int .i64 0)))] [3,5,6] []) (.seq (.reg [i1 8 (.load 1 false (.t 3)),
    i1 9 (.faddr 0 (.t 5)),
    i1 10 (.load 1 false (.t 9)),
    i1 11 (.load 6 true (.t 6)),
    i1 12 (.call (.f 140) [.t 8,.t 10,.t 11]),
    i1 7 (.mov (.t 12))] [7] []) (.ret))
abbrev nr_rules_index_plain_2:Nat:=139
def B_rules_index_plain_2 (QF:AEnd→Store→Prop) (v0 v1 v2 v3:AV) (S:Store):Prop:=
  brW 2 v0 fun v4=>
  brW 2 v1 fun v5=>
  brW 6 v2 fun v6=>
  ldW S 1 false v3 fun v8=>
  faW 0 v5 fun v9=>
  ldW S 1 false v9 fun v10=>
  ldW S 6 true v6 fun v11=>
  caW PG S (.func (.func 140) [] []) [v8,v10,v11] (fun v12 S=>
  rtW [.tmp v12] QF S) (pqW QF)
theorem w_rules_index_plain_2 {QF:AEnd→Store→Prop} {v0 v1 v2 v3:AV} {S:Store} (h:B_rules_index_plain_2 QF v0 v1 v2 v3 S):ACalls PG nr_rules_index_plain_2 [v0,v1,v2,v3] S QF:=
  acalls_tf (F:=tf_rules_index_plain_2) (by kernel_rfl) rfl (by kernel_rfl) h
def tf_rules_index_names:TFunc where
  n:=61
  args:=3
  res:=[.tmp 6]
  code:=.seq (.reg [i1 3 (.boxr 155 1 (.t 0)),
    i1 4 (.boxr 9 1 (.t 1)),
    i1 5 (.boxr 53 6 (.t 2)),
    i1 6 (.mov (.c (.int .i64 0)))] [3,4,5] []) (.seq (.reg [i1 7 (.alloc 30 [.int .i64 0]),
    i0 (.store 1 (.t 7) (.c (.int .i64 0)))] [3,4,5,7] []) (.seq (.seq (.reg [i1 14 (.faddr 1 (.t 5)),
    i1 15 (.load 1 false (.t 14)),
    i1 16 (.len 1 (.t 15)),
    i1 17 (.mov (.c (.int .i64 0)))] [3,4,5,7,15,16,17] []) (.block 0 (.loop [3,4,5,7,15,16,17] (.seq (.reg [i1 18 (.bin .lss (.t 17) (.t 16))] [3,4,5,7,15,16,17,18] []) (.seq (.cond (.t 18) (.skip) (.exit 0)) (.seq (.block 1 (.seq (.reg [i1 19 (.iaddr 2 (.t 15) (.t 17)),
    i1 20 (.load 2 true (.t 19)),
    .box2 9 171 [.str ⟨#[]⟩,.str ⟨#[]⟩] 2 (.t 20)] [3,4,5,7,9,15,16,17] []) (.seq (.regl [4,0,1,2,3,5,6,7,8,9,10,11] [i1 26 (.faddr 0 (.t 9)),
    i1 22 (.load 1 false (.t 3)),
    i1 23 (.nilck (.t 22)),
    i1 24 (.faddr 1 (.t 23)),
    i1 25 (.load 1 false (.t 24)),
    i1 27 (.load 1 false (.t 26)),
    i1 28 (.lookup (false,[.str]) true (.int .i64 0) (.t 25) (.t 27)),
    i1 21 (.mov (.t 28)),
    i1 29 (.extr (.t 21) 0),
    i1 30 (.extr (.t 21) 1),
    i1 10 (.mov (.t 29)),
    i1 11 (.mov (.t 30))] [3,4,5,7,9,11,15,16,17] []) (.seq (.reg [i1 32 (.load 1 false (.t 3)),
    i1 33 (.faddr 0 (.t 9)),
    i1 34 (.load 1 false (.t 33)),
    i1 35 (.faddr 1 (.t 9)),
    i1 36 (.load 1 false (.t 35)),
    i1 37 (.call (.f 96) [.t 32,.t 34,.t 36]),
    i1 31 (.mov (.t 37)),
    i1 38 (.extr (.t 31) 0),
    i1 39 (.extr (.t 31) 1),
    .box2 12 163 [.int .i64 0,.int .i64 0] 2 (.t 38),
    i1 13 (.mov (.t 39))] [3,4,5,7,9,11,13,15,16,17] []) (.seq (.reg [i1 40 (.mov (.t 11)),
    i1 41 (.not (.t 40)),
    i1 42 (.mov (.t 41)),
    .grp 42 false [s1 43 (.faddr 1 (.t 9)),s1 44 (.load 1 false (.t 43)),s1 45 (.bin .neq (.t 44) (.c (.str ⟨#[]⟩))),s1 46 (.mov (.t 45))],
    .grp 46 true [s1 47 (.mov (.t 13)),s1 48 (.not (.t 47))],
    .grp 42 false [s1 49 (.pick (.t 46) (.t 48) (.c (.bool false)))],
    i1 50 (.pick (.t 42) (.c (.bool true)) (.t 49))] [3,4,5,7,15,16,17,50] []) (.cond (.t 50) (.seq (.reg [i1 6 (.mov (.c (.int .i64 6)))] [6] []) (.ret)) (.skip))))))) (.reg [i1 51 (.bin .add (.t 17) (.c (.int .i64 1))),
    i1 17 (.mov (.t 51))] [3,4,5,7,15,16,17] []))))))) (.seq (.seq (.reg [i1 52 (.faddr 1 (.t 5)),
    i1 53 (.load 1 false (.t 52)),
    i1 54 (.len 1 (.t 53)),
    i1 55 (.bin .eql (.t 54) (.c (.int .i64 0)))] [3,4,5,7,55] []) (.cond (.t 55) (.reg [i1 56 (.faddr 2 (.t 5)),
    i1 57 (.load 4 true (.t 56)),
    i1 58 (.mkf (.func 177) [] [.t 3,.t 4,.t 7]),
    i1 59 (.call (.f 176) [.t 57,.c (.bool false),.t 58])] [7] []) (.skip))) (.seq (.reg [i1 60 (.load 1 false (.t 7)),
    i1 6 (.mov (.t 60))] [6] []) (.ret)))))
abbrev nr_rules_index_names:Nat:=140
def C_rules_index_names_4 (QF:AEnd→Store→Prop) (r0:LE→Store→Prop) (v3 v4 v5 v7 v15 v16 v17 v50:AV) (S:Store):Prop:=
  cnW v50 (rtW [.tmp (.int .i64 6)] QF S)
  (biW .add v17 (.int .i64 1) fun v51=>
  rcW r0 [(3,v3),(4,v4),(5,v5),(7,v7),(15,v15),(16,v16),(17,v51)] S)
def C_rules_index_names_3 (QF:AEnd→Store→Prop) (r0:LE→Store→Prop) (v3 v4 v5 v7 v15 v16 v17 v42 v46 v48:AV) (S:Store):Prop:=
  grW v42 false (pkW v46 v48 (.bool false) fun v49=>
  pkW v42 (.bool true) v49 fun v50=>
  C_rules_index_names_4 QF r0 v3 v4 v5 v7 v15 v16 v17 v50 S)
  (pkW v42 (.bool true) undefA fun v50=>
  C_rules_index_names_4 QF r0 v3 v4 v5 v7 v15 v16 v17 v50 S)
def C_rules_index_names_2 (QF:AEnd→Store→Prop) (r0:LE→Store→Prop) (v3 v4 v5 v7 v13 v15 v16 v17 v42 v46:AV) (S:Store):Prop:=
  grW v46 true (ntW v13 fun v48=>
  C_rules_index_names_3 QF r0 v3 v4 v5 v7 v15 v16 v17 v42 v46 v48 S)
  (C_rules_index_names_3 QF r0 v3 v4 v5 v7 v15 v16 v17 v42 v46 undefA S)
def C_rules_index_names_1 (QF:AEnd→Store→Prop) (r0:LE→Store→Prop) (v3 v4 v5 v7 v15 v16 v17:AV) (S:Store):Prop:=
  biW .lss v17 v16 fun v18=>
  cnW v18 (iaW 2 v15 v17 fun v19=>
  ldW S 2 true v19 fun v20=>
  bfW 2 v20 fun v9=>
  faW 0 v9 fun v26=>
  ldW S 1 false v3 fun v22=>
  nkW v22 fun v23=>
  faW 1 v23 fun v24=>
  ldW S 1 false v24 fun v25=>
  ldW S 1 false v26 fun v27=>
  lkW S (false,[.str]) true (.int .i64 0) v25 v27 fun v28=>
  exW 0 v28 fun v29=>
  exW 1 v28 fun v30=>
  ldW S 1 false v3 fun v32=>
  faW 0 v9 fun v33=>
  ldW S 1 false v33 fun v34=>
  faW 1 v9 fun v35=>
  ldW S 1 false v35 fun v36=>
  caW PG S (.func (.func 96) [] []) [v32,v34,v36] (fun v37 S=>
  exW 0 v37 fun v38=>
  exW 1 v37 fun v39=>
  bfW 2 v38 fun v12=>
  ntW v30 fun v41=>
  grW v41 false (faW 1 v9 fun v43=>
  ldW S 1 false v43 fun v44=>
  biW .neq v44 (.str ⟨#[]⟩) fun v45=>
  C_rules_index_names_2 QF r0 v3 v4 v5 v7 v39 v15 v16 v17 v41 v45 S)
  (C_rules_index_names_2 QF r0 v3 v4 v5 v7 v39 v15 v16 v17 v41 undefA S)) (pqW QF))
  (faW 1 v5 fun v52=>
  ldW S 1 false v52 fun v53=>
  lnW S 1 v53 fun v54=>
  biW .eql v54 (.int .i64 0) fun v55=>
  cnW v55 (faW 2 v5 fun v56=>
  ldW S 4 true v56 fun v57=>
  caW PG S (.func (.func 176) [] []) [v57,(.bool false),(.func (.func 177) [] [v3,v4,v7])] (fun v59 S=>
  ldW S 1 false v7 fun v60=>
  rtW [.tmp v60] QF S) (pqW QF))
  (ldW S 1 false v7 fun v60=>
  rtW [.tmp v60] QF S))
def B_rules_index_names (QF:AEnd→Store→Prop) (v0 v1 v2:AV) (S:Store):Prop:=
  brW 1 v0 fun v3=>
  brW 1 v1 fun v4=>
  brW 6 v2 fun v5=>
  alW S 30 [.int .i64 0] fun v7 S=>
  stW S 1 v7 (.int .i64 0) fun S=>
  faW 1 v5 fun v14=>
  ldW S 1 false v14 fun v15=>
  lnW S 1 v15 fun v16=>
  LoopP (fun r0 l S=>C_rules_index_names_1 QF r0 (lget l 3) (lget l 4) (lget l 5) (lget l 7) (lget l 15) (lget l 16) (lget l 17) S) [(3,v3),(4,v4),(5,v5),(7,v7),(15,v15),(16,v16),(17,(.int .i64 0))] S
theorem w_rules_index_names {QF:AEnd→Store→Prop} {v0 v1 v2:AV} {S:Store} (h:B_rules_index_names QF v0 v1 v2 S):ACalls PG nr_rules_index_names [v0,v1,v2] S QF:=
  acalls_tf (F:=tf_rules_index_names) (by kernel_rfl) rfl (by kernel_rfl) h
def tf_rules_index_levels_1:TFunc where
  n:=15
  args:=5
  res:=[.tmp 8]
  code:=.seq (.reg [i1 5 (.boxr 163 2 (.t 0)),
    i1 6 (.boxr 46 2 (.t 1)),
    i1 7 (.boxr 53 6 (.t 2)),
    i1 8 (.mov (.c (.int .i64 0)))] [3,4,5,6,7] []) (.seq (.regl [0,1,2,3,4,5,6] [i1 9 (.load 1 false (.t 4)),
    i1 10 (.load 2 true (.t 5)),
    i1 11 (.load 1 false (.t 3)),
    i1 12 (.load 2 true (.t 6)),
    i1 13 (.load 6 true (.t 7)),
    .one { d:=some 14,o:=.call (.f 142) [.t 11,.t 12,.t 13],x:=[4,5] },
    i0 (.mupd (true,[.int .i64,.int .i64]) (.t 9) (.t 10) (.t 14))] [] []) (.seq (.reg [i1 8 (.mov (.c (.int .i64 0)))] [8] []) (.ret)))
abbrev nr_rules_index_levels_1:Nat:=141
def B_rules_index_levels_1 (QF:AEnd→Store→Prop) (v0 v1 v2 v3 v4:AV) (S:Store):Prop:=
  brW 2 v0 fun v5=>
  brW 2 v1 fun v6=>
  brW 6 v2 fun v7=>
  ldW S 1 false v4 fun v9=>
  ldW S 2 true v5 fun v10=>
  ldW S 1 false v3 fun v11=>
  ldW S 2 true v6 fun v12=>
  ldW S 6 true v7 fun v13=>
  caW PG S (.func (.func 142) [] []) [v11,v12,v13] (fun v14 S1=>
  kpW [v4,v5] S S1 (
  muW S1 (true,[.int .i64,.int .i64]) v9 v10 v14 fun S=>
  rtW [.tmp (.int .i64 0)] QF S)) (pqW QF)
theorem w_rules_index_levels_1 {QF:AEnd→Store→Prop} {v0 v1 v2 v3 v4:AV} {S:Store} (h:B_rules_index_levels_1 QF v0 v1 v2 v3 v4 S):ACalls PG nr_rules_index_levels_1 [v0,v1,v2,v3,v4] S QF:=
  acalls_tf (F:=tf_rules_index_levels_1) (by kernel_rfl) rfl (by kernel_rfl) h
def tf_rules_index_leans:TFunc where
  n:=50
  args:=3
  res:=[.tmp 6]
  code:=.seq (.reg [i1 3 (.boxr 155 1 (.t 0)),
    i1 4 (.boxr 46 2 (.t 1)),
    i1 5 (.boxr 53 6 (.t 2)),
    i1 6 (.mov (.c (.nils)))] [3,4,5] []) (.seq (.reg [i1 7 (.alloc 224 [.nils])] [3,4,5,7] []) (.seq (.seq (.reg [i1 12 (.faddr 1 (.t 5)),
    i1 13 (.load 1 false (.t 12)),
    i1 14 (.len 1 (.t 13)),
    i1 15 (.mov (.c (.int .i64 0)))] [3,4,5,7,13,14,15] []) (.block 0 (.loop [3,4,5,7,13,14,15] (.seq (.reg [i1 16 (.bin .lss (.t 15) (.t 14))] [3,4,5,7,13,14,15,16] []) (.seq (.cond (.t 16) (.skip) (.exit 0)) (.seq (.block 1 (.seq (.reg [i1 17 (.iaddr 2 (.t 13) (.t 15)),
    i1 18 (.load 2 true (.t 17)),
    .box2 9 171 [.str ⟨#[]⟩,.str ⟨#[]⟩] 2 (.t 18)] [3,4,5,7,9,13,14,15] []) (.seq (.reg [i1 20 (.load 1 false (.t 3)),
    i1 21 (.faddr 0 (.t 9)),
    i1 22 (.load 1 false (.t 21)),
    i1 23 (.faddr 1 (.t 9)),
    i1 24 (.load 1 false (.t 23)),
    i1 25 (.call (.f 96) [.t 20,.t 22,.t 24]),
    i1 19 (.mov (.t 25)),
    i1 26 (.extr (.t 19) 0),
    i1 27 (.extr (.t 19) 1),
    .box2 10 163 [.int .i64 0,.int .i64 0] 2 (.t 26),
    i1 11 (.mov (.t 27))] [3,4,5,7,9,10,11,13,14,15] []) (.seq (.reg [i1 28 (.mov (.t 11)),
    i1 29 (.mov (.t 28)),
    .grp 29 true [s1 30 (.faddr 1 (.t 9)),s1 31 (.load 1 false (.t 30)),s1 32 (.bin .neq (.t 31) (.c (.str ⟨#[]⟩)))],
    i1 33 (.pick (.t 29) (.t 32) (.c (.bool false)))] [3,4,5,7,10,13,14,15,33] []) (.cond (.t 33) (.reg [i1 34 (.load 1 false (.t 7)),
    i1 35 (.load 2 true (.t 10)),
    i1 36 (.build [.int .i64 0,.int .i64 0,.bool false] [(0,2,.t 35),(2,1,.c (.bool false))]),
    i1 37 (.bslicr 227 3 [.t 36]),
    i1 38 (.app 227 3 24 (.t 34) (.t 37)),
    i0 (.store 1 (.t 7) (.t 38))] [3,4,5,7,13,14,15] []) (.skip)))))) (.reg [i1 39 (.bin .add (.t 15) (.c (.int .i64 1))),
    i1 15 (.mov (.t 39))] [3,4,5,7,13,14,15] []))))))) (.seq (.seq (.reg [i1 40 (.faddr 1 (.t 5)),
    i1 41 (.load 1 false (.t 40)),
    i1 42 (.len 1 (.t 41)),
    i1 43 (.bin .gtr (.t 42) (.c (.int .i64 0)))] [3,4,5,7,43] []) (.cond (.t 43) (.seq (.reg [i1 44 (.load 1 false (.t 7)),
    i1 6 (.mov (.t 44))] [6] []) (.ret)) (.skip))) (.seq (.reg [i1 45 (.faddr 2 (.t 5)),
    i1 46 (.load 4 true (.t 45)),
    i1 47 (.mkf (.func 179) [] [.t 3,.t 4,.t 7]),
    i1 48 (.call (.f 176) [.t 46,.c (.bool false),.t 47])] [7] []) (.seq (.reg [i1 49 (.load 1 false (.t 7)),
    i1 6 (.mov (.t 49))] [6] []) (.ret))))))
abbrev nr_rules_index_leans:Nat:=142
def C_rules_index_leans_2 (QF:AEnd→Store→Prop) (r0:LE→Store→Prop) (v3 v4 v5 v7 v10 v13 v14 v15 v33:AV) (S:Store):Prop:=
  cnW v33 (ldW S 1 false v7 fun v34=>
  ldW S 2 true v10 fun v35=>
  bdW [.int .i64 0,.int .i64 0,.bool false] [(0,2,v35),(2,1,(.bool false))] fun v36=>
  srW 3 [v36] fun v37=>
  apW S 227 3 24 v34 v37 fun v38 S=>
  stW S 1 v7 v38 fun S=>
  biW .add v15 (.int .i64 1) fun v39=>
  rcW r0 [(3,v3),(4,v4),(5,v5),(7,v7),(13,v13),(14,v14),(15,v39)] S)
  (biW .add v15 (.int .i64 1) fun v39=>
  rcW r0 [(3,v3),(4,v4),(5,v5),(7,v7),(13,v13),(14,v14),(15,v39)] S)
def C_rules_index_leans_1 (QF:AEnd→Store→Prop) (r0:LE→Store→Prop) (v3 v4 v5 v7 v13 v14 v15:AV) (S:Store):Prop:=
  biW .lss v15 v14 fun v16=>
  cnW v16 (iaW 2 v13 v15 fun v17=>
  ldW S 2 true v17 fun v18=>
  bfW 2 v18 fun v9=>
  ldW S 1 false v3 fun v20=>
  faW 0 v9 fun v21=>
  ldW S 1 false v21 fun v22=>
  faW 1 v9 fun v23=>
  ldW S 1 false v23 fun v24=>
  caW PG S (.func (.func 96) [] []) [v20,v22,v24] (fun v25 S=>
  exW 0 v25 fun v26=>
  exW 1 v25 fun v27=>
  bfW 2 v26 fun v10=>
  grW v27 true (faW 1 v9 fun v30=>
  ldW S 1 false v30 fun v31=>
  biW .neq v31 (.str ⟨#[]⟩) fun v32=>
  pkW v27 v32 (.bool false) fun v33=>
  C_rules_index_leans_2 QF r0 v3 v4 v5 v7 v10 v13 v14 v15 v33 S)
  (pkW v27 undefA (.bool false) fun v33=>
  C_rules_index_leans_2 QF r0 v3 v4 v5 v7 v10 v13 v14 v15 v33 S)) (pqW QF))
  (faW 1 v5 fun v40=>
  ldW S 1 false v40 fun v41=>
  lnW S 1 v41 fun v42=>
  biW .gtr v42 (.int .i64 0) fun v43=>
  cnW v43 (ldW S 1 false v7 fun v44=>
  rtW [.tmp v44] QF S)
  (faW 2 v5 fun v45=>
  ldW S 4 true v45 fun v46=>
  caW PG S (.func (.func 176) [] []) [v46,(.bool false),(.func (.func 179) [] [v3,v4,v7])] (fun v48 S=>
  ldW S 1 false v7 fun v49=>
  rtW [.tmp v49] QF S) (pqW QF)))
def B_rules_index_leans (QF:AEnd→Store→Prop) (v0 v1 v2:AV) (S:Store):Prop:=
  brW 1 v0 fun v3=>
  brW 2 v1 fun v4=>
  brW 6 v2 fun v5=>
  alW S 224 [.nils] fun v7 S=>
  faW 1 v5 fun v12=>
  ldW S 1 false v12 fun v13=>
  lnW S 1 v13 fun v14=>
  LoopP (fun r0 l S=>C_rules_index_leans_1 QF r0 (lget l 3) (lget l 4) (lget l 5) (lget l 7) (lget l 13) (lget l 14) (lget l 15) S) [(3,v3),(4,v4),(5,v5),(7,v7),(13,v13),(14,v14),(15,(.int .i64 0))] S
theorem w_rules_index_leans {QF:AEnd→Store→Prop} {v0 v1 v2:AV} {S:Store} (h:B_rules_index_leans QF v0 v1 v2 S):ACalls PG nr_rules_index_leans [v0,v1,v2] S QF:=
  acalls_tf (F:=tf_rules_index_leans) (by kernel_rfl) rfl (by kernel_rfl) h
def tf_rules_index_levels_2:TFunc where
  n:=46
  args:=6
  res:=[.tmp 9]
  code:=.seq (.reg [i1 6 (.boxr 163 2 (.t 0)),
    i1 7 (.boxr 46 2 (.t 1)),
    i1 8 (.boxr 53 6 (.t 2)),
    i1 9 (.mov (.c (.int .i64 0)))] [3,4,5,6] []) (.seq (.seq (.reg [i1 13 (.load 1 false (.t 3)),
    i1 14 (.load 2 true (.t 6)),
    i1 15 (.lookup (true,[.int .i64,.int .i64]) false (.nils) (.t 13) (.t 14)),
    i1 16 (.len 1 (.t 15)),
    i1 17 (.mov (.c (.int .i64 0)))] [3,4,5,6,15,16,17] []) (.block 0 (.loop [3,4,5,6,15,16,17] (.seq (.reg [i1 18 (.bin .lss (.t 17) (.t 16))] [3,4,5,6,15,16,17,18] []) (.seq (.cond (.t 18) (.skip) (.exit 0)) (.seq (.block 1 (.seq (.reg [i1 19 (.iaddr 3 (.t 15) (.t 17)),
    i1 20 (.load 3 true (.t 19)),
    .box2 11 227 [.int .i64 0,.int .i64 0,.bool false] 3 (.t 20)] [3,4,5,6,11,15,16,17] []) (.seq (.reg [i1 21 (.load 1 false (.t 4)),
    i1 22 (.faddr 0 (.t 11)),
    i1 23 (.load 2 true (.t 22)),
    i1 24 (.lookup (true,[.int .i64,.int .i64]) false (.int .i64 0) (.t 21) (.t 23)),
    i1 12 (.mov (.t 24))] [3,4,5,6,11,12,15,16,17] []) (.seq (.seq (.reg [i1 25 (.faddr 2 (.t 11)),
    i1 26 (.load 1 false (.t 25))] [3,4,5,6,12,15,16,17,26] []) (.cond (.t 26) (.reg [i1 27 (.mov (.t 12)),
    i1 28 (.bin .add (.t 27) (.c (.int .i64 1))),
    i1 12 (.mov (.t 28))] [3,4,5,6,12,15,16,17] []) (.skip))) (.seq (.regl [3,0,1,2,4,5,6,7,8,9,10,11,12] [i1 32 (.mov (.t 12)),
    i1 29 (.load 1 false (.t 4)),
    i1 30 (.load 2 true (.t 6)),
    i1 31 (.lookup (true,[.int .i64,.int .i64]) false (.int .i64 0) (.t 29) (.t 30)),
    i1 33 (.bin .lss (.t 31) (.t 32)),
    i1 34 (.mov (.t 33)),
    .grp 34 true [s1 35 (.load 1 false (.t 4)),s1 36 (.load 2 true (.t 6)),s1 37 (.lookup (true,[.int .i64,.int .i64]) false (.int .i64 0) (.t 35) (.t 36)),s1 38 (.load 1 false (.t 3)),s1 39 (.len 2 (.t 38)),s1 40 (.bin .leq (.t 37) (.t 39))],
    i1 41 (.pick (.t 34) (.t 40) (.c (.bool false)))] [3,4,5,6,12,15,16,17,41] []) (.cond (.t 41) (.reg [i1 42 (.load 1 false (.t 4)),
    i1 43 (.load 2 true (.t 6)),
    i1 44 (.mov (.t 12)),
    i0 (.mupd (true,[.int .i64,.int .i64]) (.t 42) (.t 43) (.t 44)),
    i0 (.store 1 (.t 5) (.c (.bool true)))] [3,4,5,6,15,16,17] []) (.skip))))))) (.reg [i1 45 (.bin .add (.t 17) (.c (.int .i64 1))),
    i1 17 (.mov (.t 45))] [3,4,5,6,15,16,17] []))))))) (.seq (.reg [i1 9 (.mov (.c (.int .i64 0)))] [9] []) (.ret)))
abbrev nr_rules_index_levels_2:Nat:=143
def C_rules_index_levels_2_3 (QF:AEnd→Store→Prop) (r0:LE→Store→Prop) (v3 v4 v5 v6 v12 v15 v16 v17 v41:AV) (S:Store):Prop:=
  cnW v41 (ldW S 1 false v4 fun v42=>
  ldW S 2 true v6 fun v43=>
  muW S (true,[.int .i64,.int .i64]) v42 v43 v12 fun S=>
  stW S 1 v5 (.bool true) fun S=>
  biW .add v17 (.int .i64 1) fun v45=>
  rcW r0 [(3,v3),(4,v4),(5,v5),(6,v6),(15,v15),(16,v16),(17,v45)] S)
  (biW .add v17 (.int .i64 1) fun v45=>
  rcW r0 [(3,v3),(4,v4),(5,v5),(6,v6),(15,v15),(16,v16),(17,v45)] S)
def C_rules_index_levels_2_2 (QF:AEnd→Store→Prop) (r0:LE→Store→Prop) (v3 v4 v5 v6 v12 v15 v16 v17:AV) (S:Store):Prop:=
  ldW S 1 false v4 fun v29=>
  ldW S 2 true v6 fun v30=>
  lkW S (true,[.int .i64,.int .i64]) false (.int .i64 0) v29 v30 fun v31=>
  biW .lss v31 v12 fun v33=>
  grW v33 true (ldW S 1 false v4 fun v35=>
  ldW S 2 true v6 fun v36=>
  lkW S (true,[.int .i64,.int .i64]) false (.int .i64 0) v35 v36 fun v37=>
  ldW S 1 false v3 fun v38=>
  lnW S 2 v38 fun v39=>
  biW .leq v37 v39 fun v40=>
  pkW v33 v40 (.bool false) fun v41=>
  C_rules_index_levels_2_3 QF r0 v3 v4 v5 v6 v12 v15 v16 v17 v41 S)
  (pkW v33 undefA (.bool false) fun v41=>
  C_rules_index_levels_2_3 QF r0 v3 v4 v5 v6 v12 v15 v16 v17 v41 S)
def C_rules_index_levels_2_1 (QF:AEnd→Store→Prop) (r0:LE→Store→Prop) (v3 v4 v5 v6 v15 v16 v17:AV) (S:Store):Prop:=
  biW .lss v17 v16 fun v18=>
  cnW v18 (iaW 3 v15 v17 fun v19=>
  ldW S 3 true v19 fun v20=>
  bfW 3 v20 fun v11=>
  ldW S 1 false v4 fun v21=>
  faW 0 v11 fun v22=>
  ldW S 2 true v22 fun v23=>
  lkW S (true,[.int .i64,.int .i64]) false (.int .i64 0) v21 v23 fun v24=>
  faW 2 v11 fun v25=>
  ldW S 1 false v25 fun v26=>
  cnW v26 (biW .add v24 (.int .i64 1) fun v28=>
  C_rules_index_levels_2_2 QF r0 v3 v4 v5 v6 v28 v15 v16 v17 S)
  (C_rules_index_levels_2_2 QF r0 v3 v4 v5 v6 v24 v15 v16 v17 S))
  (rtW [.tmp (.int .i64 0)] QF S)
def B_rules_index_levels_2 (QF:AEnd→Store→Prop) (v0 v1 v2 v3 v4 v5:AV) (S:Store):Prop:=
  brW 2 v0 fun v6=>
  brW 2 v1 fun v7=>
  brW 6 v2 fun v8=>
  ldW S 1 false v3 fun v13=>
  ldW S 2 true v6 fun v14=>
  lkW S (true,[.int .i64,.int .i64]) false (.nils) v13 v14 fun v15=>
  lnW S 1 v15 fun v16=>
  LoopP (fun r0 l S=>C_rules_index_levels_2_1 QF r0 (lget l 3) (lget l 4) (lget l 5) (lget l 6) (lget l 15) (lget l 16) (lget l 17) S) [(3,v3),(4,v4),(5,v5),(6,v6),(15,v15),(16,v16),(17,(.int .i64 0))] S
theorem w_rules_index_levels_2 {QF:AEnd→Store→Prop} {v0 v1 v2 v3 v4 v5:AV} {S:Store} (h:B_rules_index_levels_2 QF v0 v1 v2 v3 v4 v5 S):ACalls PG nr_rules_index_levels_2 [v0,v1,v2,v3,v4,v5] S QF:=
  acalls_tf (F:=tf_rules_index_levels_2) (by kernel_rfl) rfl (by kernel_rfl) h
def tf_names_Name:TFunc where
  n:=15
  args:=1
  res:=[.tmp 2]
  code:=.seq (.reg [i1 2 (.mov (.c (.bool false)))] [0] []) (.seq (.seq (.reg [i1 3 (.mov (.t 0))] [0,3] []) (.block 0 (.seq (.seq (.reg [i1 5 (.bin .eql (.t 3) (.c (.str ⟨#[116,121,112,101]⟩))),
    i1 4 (.mov (.t 5))] [0,3,4] []) (.cond (.t 4) (.skip) (.seq (.reg [i1 6 (.bin .eql (.t 3) (.c (.str ⟨#[114,101,108,97,116,105,111,110]⟩))),
    i1 4 (.mov (.t 6))] [0,3,4] []) (.cond (.t 4) (.skip) (.reg [i1 7 (.bin .eql (.t 3) (.c (.str ⟨#[100,101,102,105,110,101]⟩))),
    i1 4 (.mov (.t 7))] [0,4] []))))) (.cond (.t 4) (.seq (.reg [i1 2 (.mov (.c (.bool false)))] [2] []) (.ret)) (.skip))))) (.seq (.reg [i1 8 (.mov (.t 0)),
    i1 9 (.call (.f 181) [.t 8,.c (.int .i64 16),.f 182]),
    i1 10 (.mov (.t 9)),
    .grp 10 true [s1 11 (.mov (.t 0)),s1 12 (.idxs (.t 11) (.c (.int .i64 0))),s1 13 (.call (.f 183) [.t 12])],
    i1 14 (.pick (.t 10) (.t 13) (.c (.bool false))),
    i1 2 (.mov (.t 14))] [2] []) (.ret)))
abbrev nr_names_Name:Nat:=144
def C_names_Name_1 (QF:AEnd→Store→Prop) (v0 v4:AV) (S:Store):Prop:=
  cnW v4 (rtW [.tmp (.bool false)] QF S)
  (caW PG S (.func (.func 181) [] []) [v0,(.int .i64 16),(.func (.func 182) [] [])] (fun v9 S=>
  grW v9 true (isW v0 (.int .i64 0) fun v12=>
  caW PG S (.func (.func 183) [] []) [v12] (fun v13 S=>
  pkW v9 v13 (.bool false) fun v14=>
  rtW [.tmp v14] QF S) (pqW QF))
  (pkW v9 undefA (.bool false) fun v14=>
  rtW [.tmp v14] QF S)) (pqW QF))
def B_names_Name (QF:AEnd→Store→Prop) (v0:AV) (S:Store):Prop:=
  biW .eql v0 (.str ⟨#[116,121,112,101]⟩) fun v5=>
  cnW v5 (C_names_Name_1 QF v0 v5 S)
  (biW .eql v0 (.str ⟨#[114,101,108,97,116,105,111,110]⟩) fun v6=>
  cnW v6 (C_names_Name_1 QF v0 v6 S)
  (biW .eql v0 (.str ⟨#[100,101,102,105,110,101]⟩) fun v7=>
  C_names_Name_1 QF v0 v7 S))
theorem w_names_Name {QF:AEnd→Store→Prop} {v0:AV} {S:Store} (h:B_names_Name QF v0 S):ACalls PG nr_names_Name [v0] S QF:=
  acalls_tf (F:=tf_names_Name) (by kernel_rfl) rfl (by kernel_rfl) h
def tf_slices_Index_Ref:TFunc where
  n:=19
  args:=2
  res:=[.tmp 4]
  code:=.seq (.reg [i1 3 (.boxr 171 2 (.t 1)),
    i1 4 (.mov (.c (.int .i64 0)))] [0,3] []) (.seq (.seq (.reg [i1 6 (.mov (.t 0)),
    i1 7 (.len 1 (.t 6)),
    i1 8 (.mov (.c (.int .i64 0)))] [0,3,7,8] []) (.block 0 (.loop [0,3,7,8] (.seq (.reg [i1 9 (.bin .lss (.t 8) (.t 7))] [0,3,7,8,9] []) (.seq (.cond (.t 9) (.skip) (.exit 0)) (.seq (.block 1 (.seq (.reg [i1 10 (.mov (.t 8)),
    i1 5 (.mov (.t 10))] [0,3,5,7,8] []) (.seq (.regl [1,2,3,0,4,5] [i1 12 (.mov (.t 0)),
    i1 13 (.mov (.t 5)),
    i1 14 (.iaddr 2 (.t 12) (.t 13)),
    i1 11 (.load 2 true (.t 3)),
    i1 15 (.load 2 true (.t 14)),
    i1 16 (.eqp false (true,[.str,.str]) (.t 11) (.t 15))] [0,3,5,7,8,16] []) (.cond (.t 16) (.seq (.reg [i1 17 (.mov (.t 5)),
    i1 4 (.mov (.t 17))] [4] []) (.ret)) (.skip))))) (.reg [i1 18 (.bin .add (.t 8) (.c (.int .i64 1))),
    i1 8 (.mov (.t 18))] [0,3,7,8] []))))))) (.seq (.reg [i1 4 (.mov (.c (.int .i64 (-1))))] [4] []) (.ret)))
abbrev nr_slices_Index_Ref:Nat:=145
def C_slices_Index_Ref_1 (QF:AEnd→Store→Prop) (r0:LE→Store→Prop) (v0 v3 v7 v8:AV) (S:Store):Prop:=
  biW .lss v8 v7 fun v9=>
  cnW v9 (iaW 2 v0 v8 fun v14=>
  ldW S 2 true v3 fun v11=>
  ldW S 2 true v14 fun v15=>
  eqW false (true,[.str,.str]) v11 v15 fun v16=>
  cnW v16 (rtW [.tmp v8] QF S)
  (biW .add v8 (.int .i64 1) fun v18=>
  rcW r0 [(0,v0),(3,v3),(7,v7),(8,v18)] S))
  (rtW [.tmp (.int .i64 (-1))] QF S)
def B_slices_Index_Ref (QF:AEnd→Store→Prop) (v0 v1:AV) (S:Store):Prop:=
  brW 2 v1 fun v3=>
  lnW S 1 v0 fun v7=>
  LoopP (fun r0 l S=>C_slices_Index_Ref_1 QF r0 (lget l 0) (lget l 3) (lget l 7) (lget l 8) S) [(0,v0),(3,v3),(7,v7),(8,(.int .i64 0))] S
theorem w_slices_Index_Ref {QF:AEnd→Store→Prop} {v0 v1:AV} {S:Store} (h:B_slices_Index_Ref QF v0 v1 S):ACalls PG nr_slices_Index_Ref [v0,v1] S QF:=
  acalls_tf (F:=tf_slices_Index_Ref) (by kernel_rfl) rfl (by kernel_rfl) h
end Go.HL
