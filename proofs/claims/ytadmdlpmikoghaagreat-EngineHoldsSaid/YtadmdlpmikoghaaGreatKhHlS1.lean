/- A part of a proof. -/
import Derived.Test.YtadmdlpmikoghaaGreatKhHlP
set_option maxRecDepth 100000
set_option linter.unusedVariables false
namespace Go.HL
def tf_law15_awake:TFunc where
  n:=47
  args:=0
  res:=[.tmp 0]
  code:=.seq (.reg [i1 0 (.mov (.c (.bool false)))] [] []) (.seq (.reg [i1 11 (.call (.f 44) [.c (.str ⟨#[116,121,112,101,32,117,115,101,114,32,116,121,112,101,32,103,32,114,101,108,97,116,105,111,110,32,109,58,32,117,115,101,114,32,124,32,103,35,109]⟩)]),
    i1 10 (.mov (.t 11)),
    i1 12 (.extr (.t 10) 0),
    i1 13 (.extr (.t 10) 1),
    i1 1 (.alloc 24 [.nils]),
    i1 2 (.alloc 82 [.int .i64 0,.int .i64 0,.int .i64 0]),
    i0 (.store 1 (.t 1) (.t 12)),
    i0 (.store 3 (.t 2) (.t 13))] [1] [1]) (.seq (.reg [i1 14 (.bslicr 9 1 [.c (.str ⟨#[103,58,49,35,109,64,103,58,49,35,109]⟩),.c (.str ⟨#[103,58,49,35,109,64,117,115,101,114,58,97]⟩)]),
    i1 15 (.call (.f 45) [.t 14]),
    i1 3 (.mov (.t 15))] [1,3] []) (.seq (.reg [i1 17 (.load 1 true (.t 1)),
    i1 18 (.mov (.t 3)),
    i1 19 (.build [.str ⟨#[]⟩,.str ⟨#[]⟩] [(0,1,.c (.str ⟨#[103]⟩)),(1,1,.c (.str ⟨#[49]⟩))]),
    i1 20 (.build [.str ⟨#[]⟩,.str ⟨#[]⟩] [(0,1,.c (.str ⟨#[117,115,101,114]⟩)),(1,1,.c (.str ⟨#[97]⟩))]),
    i1 21 (.call (.f 18) [.t 17,.t 18,.t 19,.c (.str ⟨#[109]⟩),.t 20,.c (.int .i64 2)]),
    i1 16 (.mov (.t 21)),
    i1 22 (.extr (.t 16) 0),
    i1 23 (.extr (.t 16) 1),
    i1 24 (.extr (.t 16) 2),
    i1 4 (.mov (.t 22)),
    i1 5 (.mov (.t 23)),
    i1 6 (.mov (.t 24))] [1,3,4,5,6] []) (.seq (.reg [i1 26 (.load 1 true (.t 1)),
    i1 27 (.mov (.t 3)),
    i1 28 (.build [.str ⟨#[]⟩,.str ⟨#[]⟩] [(0,1,.c (.str ⟨#[103]⟩)),(1,1,.c (.str ⟨#[49]⟩))]),
    i1 29 (.build [.str ⟨#[]⟩,.str ⟨#[]⟩] [(0,1,.c (.str ⟨#[117,115,101,114]⟩)),(1,1,.c (.str ⟨#[97]⟩))]),
    i1 30 (.call (.f 18) [.t 26,.t 27,.t 28,.c (.str ⟨#[109]⟩),.t 29,.c (.int .i64 1)]),
    i1 25 (.mov (.t 30)),
    i1 31 (.extr (.t 25) 0),
    i1 32 (.extr (.t 25) 1),
    i1 33 (.extr (.t 25) 2),
    i1 7 (.mov (.t 31)),
    i1 8 (.mov (.t 32)),
    i1 9 (.mov (.t 33))] [4,5,6,9] []) (.seq (.reg [i1 34 (.mov (.t 4)),
    i1 35 (.mov (.t 34)),
    .grp 35 true [s1 36 (.mov (.t 5)),s1 37 (.bin .eql (.t 36) (.c (.int .i64 2)))],
    i1 38 (.pick (.t 35) (.t 37) (.c (.bool false))),
    i1 39 (.mov (.t 38)),
    .grp 39 true [s1 40 (.mov (.t 6)),s1 41 (.bin .eql (.t 40) (.c (.int .i64 0)))],
    i1 42 (.pick (.t 39) (.t 41) (.c (.bool false))),
    i1 43 (.mov (.t 42)),
    .grp 43 true [s1 44 (.mov (.t 9)),s1 45 (.bin .eql (.t 44) (.c (.int .i64 12)))],
    i1 46 (.pick (.t 43) (.t 45) (.c (.bool false))),
    i1 0 (.mov (.t 46))] [0] []) (.ret))))))
abbrev nr_law15_awake:Nat:=16
def C_law15_awake_2 (QF:AEnd→Store→Prop) (v9 v42:AV) (S:Store):Prop:=
  grW v42 true (biW .eql v9 (.int .i64 12) fun v45=>
  pkW v42 v45 (.bool false) fun v46=>
  rtW [.tmp v46] QF S)
  (pkW v42 undefA (.bool false) fun v46=>
  rtW [.tmp v46] QF S)
def C_law15_awake_1 (QF:AEnd→Store→Prop) (v6 v9 v38:AV) (S:Store):Prop:=
  grW v38 true (biW .eql v6 (.int .i64 0) fun v41=>
  pkW v38 v41 (.bool false) fun v42=>
  C_law15_awake_2 QF v9 v42 S)
  (pkW v38 undefA (.bool false) fun v42=>
  C_law15_awake_2 QF v9 v42 S)
def B_law15_awake (QF:AEnd→Store→Prop) (S:Store):Prop:=
  caW PG S (.func (.func 44) [] []) [(.str ⟨#[116,121,112,101,32,117,115,101,114,32,116,121,112,101,32,103,32,114,101,108,97,116,105,111,110,32,109,58,32,117,115,101,114,32,124,32,103,35,109]⟩)] (fun v11 S=>
  exW 0 v11 fun v12=>
  exW 1 v11 fun v13=>
  alW S 24 [.nils] fun v1 S=>
  alW S 82 [.int .i64 0,.int .i64 0,.int .i64 0] fun v2 S=>
  stW S 1 v1 v12 fun S=>
  stW S 3 v2 v13 fun S=>
  fzW S v1 fun v1 S=>
  srW 1 [(.str ⟨#[103,58,49,35,109,64,103,58,49,35,109]⟩),(.str ⟨#[103,58,49,35,109,64,117,115,101,114,58,97]⟩)] fun v14=>
  caW PG S (.func (.func 45) [] []) [v14] (fun v15 S=>
  ldW S 1 true v1 fun v17=>
  bdW [.str ⟨#[]⟩,.str ⟨#[]⟩] [(0,1,(.str ⟨#[103]⟩)),(1,1,(.str ⟨#[49]⟩))] fun v19=>
  bdW [.str ⟨#[]⟩,.str ⟨#[]⟩] [(0,1,(.str ⟨#[117,115,101,114]⟩)),(1,1,(.str ⟨#[97]⟩))] fun v20=>
  caW PG S (.func (.func 18) [] []) [v17,v15,v19,(.str ⟨#[109]⟩),v20,(.int .i64 2)] (fun v21 S=>
  exW 0 v21 fun v22=>
  exW 1 v21 fun v23=>
  exW 2 v21 fun v24=>
  ldW S 1 true v1 fun v26=>
  bdW [.str ⟨#[]⟩,.str ⟨#[]⟩] [(0,1,(.str ⟨#[103]⟩)),(1,1,(.str ⟨#[49]⟩))] fun v28=>
  bdW [.str ⟨#[]⟩,.str ⟨#[]⟩] [(0,1,(.str ⟨#[117,115,101,114]⟩)),(1,1,(.str ⟨#[97]⟩))] fun v29=>
  caW PG S (.func (.func 18) [] []) [v26,v15,v28,(.str ⟨#[109]⟩),v29,(.int .i64 1)] (fun v30 S=>
  exW 0 v30 fun v31=>
  exW 1 v30 fun v32=>
  exW 2 v30 fun v33=>
  grW v22 true (biW .eql v23 (.int .i64 2) fun v37=>
  pkW v22 v37 (.bool false) fun v38=>
  C_law15_awake_1 QF v24 v33 v38 S)
  (pkW v22 undefA (.bool false) fun v38=>
  C_law15_awake_1 QF v24 v33 v38 S)) (pqW QF)) (pqW QF)) (pqW QF)) (pqW QF)
theorem w_law15_awake {QF:AEnd→Store→Prop} {S:Store} (h:B_law15_awake QF S):ACalls PG nr_law15_awake [] S QF:=
  acalls_tf (F:=tf_law15_awake) (by kernel_rfl) rfl (by kernel_rfl) h
def tf_law14_Small:TFunc where
  n:=14
  args:=2
  res:=[.tmp 4]
  code:=.seq (.reg [i1 2 (.boxr 24 1 (.t 0)),
    i1 4 (.mov (.c (.bool false)))] [1,2] []) (.seq (.reg [i1 6 (.load 1 true (.t 2)),
    i1 7 (.call (.f 46) [.t 6,.c (.int .i64 60)]),
    i1 5 (.mov (.t 7))] [1,5] []) (.seq (.reg [i1 8 (.mov (.t 5)),
    i1 9 (.mov (.t 8)),
    .grp 9 true [s1 10 (.mov (.t 1)),s1 11 (.len 1 (.t 10)),s1 12 (.bin .leq (.t 11) (.c (.int .i64 30)))],
    i1 13 (.pick (.t 9) (.t 12) (.c (.bool false))),
    i1 4 (.mov (.t 13))] [4] []) (.ret)))
abbrev nr_law14_Small:Nat:=17
def B_law14_Small (QF:AEnd→Store→Prop) (v0 v1:AV) (S:Store):Prop:=
  brW 1 v0 fun v2=>
  ldW S 1 true v2 fun v6=>
  caW PG S (.func (.func 46) [] []) [v6,(.int .i64 60)] (fun v7 S=>
  grW v7 true (lnW S 1 v1 fun v11=>
  biW .leq v11 (.int .i64 30) fun v12=>
  pkW v7 v12 (.bool false) fun v13=>
  rtW [.tmp v13] QF S)
  (pkW v7 undefA (.bool false) fun v13=>
  rtW [.tmp v13] QF S)) (pqW QF)
theorem w_law14_Small {QF:AEnd→Store→Prop} {v0 v1:AV} {S:Store} (h:B_law14_Small QF v0 v1 S):ACalls PG nr_law14_Small [v0,v1] S QF:=
  acalls_tf (F:=tf_law14_Small) (by kernel_rfl) rfl (by kernel_rfl) h
def tf_ref14_Holds:TFunc where
  n:=28
  args:=5
  res:=[.tmp 10]
  code:=.seq (.reg [i1 5 (.boxr 24 1 (.t 0)),
    i1 7 (.boxr 27 2 (.t 2)),
    i1 9 (.boxr 27 2 (.t 4)),
    i1 10 (.mov (.c (.bool false)))] [1,3,5,7,9] []) (.seq (.reg [i1 14 (.load 1 true (.t 5)),
    i1 15 (.mov (.t 1)),
    i1 16 (.load 2 true (.t 7)),
    i1 17 (.load 2 true (.t 9)),
    i1 18 (.call (.f 54) [.t 14,.t 15,.t 16,.t 17]),
    i1 13 (.mov (.t 18)),
    i1 19 (.extr (.t 13) 0),
    i1 20 (.extr (.t 13) 1),
    i1 11 (.mov (.t 19)),
    i1 12 (.mov (.t 20))] [3,7,11,12] []) (.seq (.reg [i1 21 (.mov (.t 12)),
    i1 22 (.mov (.t 21)),
    .grp 22 true [s1 23 (.mov (.t 11)),s1 24 (.load 2 true (.t 7)),s1 25 (.mov (.t 3)),s1 26 (.call (.f 55) [.t 23,.t 24,.t 25])],
    i1 27 (.pick (.t 22) (.t 26) (.c (.bool false))),
    i1 10 (.mov (.t 27))] [10] []) (.ret)))
abbrev nr_ref14_Holds:Nat:=20
def B_ref14_Holds (QF:AEnd→Store→Prop) (v0 v1 v2 v3 v4:AV) (S:Store):Prop:=
  brW 1 v0 fun v5=>
  brW 2 v2 fun v7=>
  brW 2 v4 fun v9=>
  ldW S 1 true v5 fun v14=>
  ldW S 2 true v7 fun v16=>
  ldW S 2 true v9 fun v17=>
  caW PG S (.func (.func 54) [] []) [v14,v1,v16,v17] (fun v18 S=>
  exW 0 v18 fun v19=>
  exW 1 v18 fun v20=>
  grW v20 true (ldW S 2 true v7 fun v24=>
  caW PG S (.func (.func 55) [] []) [v19,v24,v3] (fun v26 S=>
  pkW v20 v26 (.bool false) fun v27=>
  rtW [.tmp v27] QF S) (pqW QF))
  (pkW v20 undefA (.bool false) fun v27=>
  rtW [.tmp v27] QF S)) (pqW QF)
theorem w_ref14_Holds {QF:AEnd→Store→Prop} {v0 v1 v2 v3 v4:AV} {S:Store} (h:B_ref14_Holds QF v0 v1 v2 v3 v4 S):ACalls PG nr_ref14_Holds [v0,v1,v2,v3,v4] S QF:=
  acalls_tf (F:=tf_ref14_Holds) (by kernel_rfl) rfl (by kernel_rfl) h
end Go.HL
