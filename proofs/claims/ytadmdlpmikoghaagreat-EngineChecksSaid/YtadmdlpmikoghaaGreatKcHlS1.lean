/- A part of a proof. -/
import Derived.Test.YtadmdlpmikoghaaGreatKcHlP
set_option maxRecDepth 100000
set_option linter.unusedVariables false
namespace Go.HL
def tf_law15_awake:TFunc where
  n:=47
  args:=0
  res:=[.tmp 0]
  code:=.seq (.reg [i1 0 (.mov (.c (.bool false)))] [] []) (.seq (.reg [i1 11 (.call (.f 44) [.c (.str ⟨#[116,121,112,101,32,117,115,101,114,32,116,121,112,101,32,103,32,114,101,108,97,116,105,111,110,32,109,58,32,117,115,101,114,32,124,32,103,35,109]⟩)]),
    i1 10 (.mov (.t 11)),
    i1 12 (.extr (.t 10) 0),
    i1 13 (.extr (.t 10) 1),
    i1 1 (.alloc 24 [.nils]),
    i1 2 (.alloc 82 [.int .i64 0,.int .i64 0,.int .i64 0]),
    i0 (.store 1 (.t 1) (.t 12)),
    i0 (.store 3 (.t 2) (.t 13))] [1] [1]) (.seq (.reg [i1 14 (.bslicr 9 1 [.c (.str ⟨#[103,58,49,35,109,64,103,58,49,35,109]⟩),.c (.str ⟨#[103,58,49,35,109,64,117,115,101,114,58,97]⟩)]),
    i1 15 (.call (.f 45) [.t 14]),
    i1 3 (.mov (.t 15))] [1,3] []) (.seq (.reg [i1 17 (.load 1 true (.t 1)),
    i1 18 (.mov (.t 3)),
    i1 19 (.build [.str ⟨#[]⟩,.str ⟨#[]⟩] [(0,1,.c (.str ⟨#[103]⟩)),(1,1,.c (.str ⟨#[49]⟩))]),
    i1 20 (.build [.str ⟨#[]⟩,.str ⟨#[]⟩] [(0,1,.c (.str ⟨#[117,115,101,114]⟩)),(1,1,.c (.str ⟨#[97]⟩))]),
    i1 21 (.call (.f 18) [.t 17,.t 18,.t 19,.c (.str ⟨#[109]⟩),.t 20,.c (.int .i64 2)]),
    i1 16 (.mov (.t 21)),
    i1 22 (.extr (.t 16) 0),
    i1 23 (.extr (.t 16) 1),
    i1 24 (.extr (.t 16) 2),
    i1 4 (.mov (.t 22)),
    i1 5 (.mov (.t 23)),
    i1 6 (.mov (.t 24))] [1,3,4,5,6] []) (.seq (.reg [i1 26 (.load 1 true (.t 1)),
    i1 27 (.mov (.t 3)),
    i1 28 (.build [.str ⟨#[]⟩,.str ⟨#[]⟩] [(0,1,.c (.str ⟨#[103]⟩)),(1,1,.c (.str ⟨#[49]⟩))]),
    i1 29 (.build [.str ⟨#[]⟩,.str ⟨#[]⟩] [(0,1,.c (.str ⟨#[117,115,101,114]⟩)),(1,1,.c (.str ⟨#[97]⟩))]),
    i1 30 (.call (.f 18) [.t 26,.t 27,.t 28,.c (.str ⟨#[109]⟩),.t 29,.c (.int .i64 1)]),
    i1 25 (.mov (.t 30)),
    i1 31 (.extr (.t 25) 0),
    i1 32 (.extr (.t 25) 1),
    i1 33 (.extr (.t 25) 2),
    i1 7 (.mov (.t 31)),
    i1 8 (.mov (.t 32)),
    i1 9 (.mov (.t 33))] [4,5,6,9] []) (.seq (.reg [i1 34 (.mov (.t 4)),
    i1 35 (.mov (.t 34)),
    .grp 35 true [s1 36 (.mov (.t 5)),s1 37 (.bin .eql (.t 36) (.c (.int .i64 2)))],
    i1 38 (.pick (.t 35) (.t 37) (.c (.bool false))),
    i1 39 (.mov (.t 38)),
    .grp 39 true [s1 40 (.mov (.t 6)),s1 41 (.bin .eql (.t 40) (.c (.int .i64 0)))],
    i1 42 (.pick (.t 39) (.t 41) (.c (.bool false))),
    i1 43 (.mov (.t 42)),
    .grp 43 true [s1 44 (.mov (.t 9)),s1 45 (.bin .eql (.t 44) (.c (.int .i64 12)))],
    i1 46 (.pick (.t 43) (.t 45) (.c (.bool false))),
    i1 0 (.mov (.t 46))] [0] []) (.ret))))))
abbrev nr_law15_awake:Nat:=16
def C_law15_awake_2 (QF:AEnd→Store→Prop) (v9 v42:AV) (S:Store):Prop:=
  grW v42 true (biW .eql v9 (.int .i64 12) fun v45=>
  pkW v42 v45 (.bool false) fun v46=>
  rtW [.tmp v46] QF S)
  (pkW v42 undefA (.bool false) fun v46=>
  rtW [.tmp v46] QF S)
def C_law15_awake_1 (QF:AEnd→Store→Prop) (v6 v9 v38:AV) (S:Store):Prop:=
  grW v38 true (biW .eql v6 (.int .i64 0) fun v41=>
  pkW v38 v41 (.bool false) fun v42=>
  C_law15_awake_2 QF v9 v42 S)
  (pkW v38 undefA (.bool false) fun v42=>
  C_law15_awake_2 QF v9 v42 S)
def B_law15_awake (QF:AEnd→Store→Prop) (S:Store):Prop:=
  caW PG S (.func (.func 44) [] []) [(.str ⟨#[116,121,112,101,32,117,115,101,114,32,116,121,112,101,32,103,32,114,101,108,97,116,105,111,110,32,109,58,32,117,115,101,114,32,124,32,103,35,109]⟩)] (fun v11 S=>
  exW 0 v11 fun v12=>
  exW 1 v11 fun v13=>
  alW S 24 [.nils] fun v1 S=>
  alW S 82 [.int .i64 0,.int .i64 0,.int .i64 0] fun v2 S=>
  stW S 1 v1 v12 fun S=>
  stW S 3 v2 v13 fun S=>
  fzW S v1 fun v1 S=>
  srW 1 [(.str ⟨#[103,58,49,35,109,64,103,58,49,35,109]⟩),(.str ⟨#[103,58,49,35,109,64,117,115,101,114,58,97]⟩)] fun v14=>
  caW PG S (.func (.func 45) [] []) [v14] (fun v15 S=>
  ldW S 1 true v1 fun v17=>
  bdW [.str ⟨#[]⟩,.str ⟨#[]⟩] [(0,1,(.str ⟨#[103]⟩)),(1,1,(.str ⟨#[49]⟩))] fun v19=>
  bdW [.str ⟨#[]⟩,.str ⟨#[]⟩] [(0,1,(.str ⟨#[117,115,101,114]⟩)),(1,1,(.str ⟨#[97]⟩))] fun v20=>
  caW PG S (.func (.func 18) [] []) [v17,v15,v19,(.str ⟨#[109]⟩),v20,(.int .i64 2)] (fun v21 S=>
  exW 0 v21 fun v22=>
  exW 1 v21 fun v23=>
  exW 2 v21 fun v24=>
  ldW S 1 true v1 fun v26=>
  bdW [.str ⟨#[]⟩,.str ⟨#[]⟩] [(0,1,(.str ⟨#[103]⟩)),(1,1,(.str ⟨#[49]⟩))] fun v28=>
  bdW [.str ⟨#[]⟩,.str ⟨#[]⟩] [(0,1,(.str ⟨#[117,115,101,114]⟩)),(1,1,(.str ⟨#[97]⟩))] fun v29=>
  caW PG S (.func (.func 18) [] []) [v26,v15,v28,(.str ⟨#[109]⟩),v29,(.int .i64 1)] (fun v30 S=>
  exW 0 v30 fun v31=>
  exW 1 v30 fun v32=>
  exW 2 v30 fun v33=>
  grW v22 true (biW .eql v23 (.int .i64 2) fun v37=>
  pkW v22 v37 (.bool false) fun v38=>
  C_law15_awake_1 QF v24 v33 v38 S)
  (pkW v22 undefA (.bool false) fun v38=>
  C_law15_awake_1 QF v24 v33 v38 S)) (pqW QF)) (pqW QF)) (pqW QF)) (pqW QF)
theorem w_law15_awake {QF:AEnd→Store→Prop} {S:Store} (h:B_law15_awake QF S):ACalls PG nr_law15_awake [] S QF:=
  acalls_tf (F:=tf_law15_awake) (by kernel_rfl) rfl (by kernel_rfl) h
def tf_law14_Small:TFunc where
  n:=14
  args:=2
  res:=[.tmp 4]
  code:=.seq (.reg [i1 2 (.boxr 24 1 (.t 0)),
    i1 4 (.mov (.c (.bool false)))] [1,2] []) (.seq (.reg [i1 6 (.load 1 true (.t 2)),
    i1 7 (.call (.f 46) [.t 6,.c (.int .i64 60)]),
    i1 5 (.mov (.t 7))] [1,5] []) (.seq (.reg [i1 8 (.mov (.t 5)),
    i1 9 (.mov (.t 8)),
    .grp 9 true [s1 10 (.mov (.t 1)),s1 11 (.len 1 (.t 10)),s1 12 (.bin .leq (.t 11) (.c (.int .i64 30)))],
    i1 13 (.pick (.t 9) (.t 12) (.c (.bool false))),
    i1 4 (.mov (.t 13))] [4] []) (.ret)))
abbrev nr_law14_Small:Nat:=17
def B_law14_Small (QF:AEnd→Store→Prop) (v0 v1:AV) (S:Store):Prop:=
  brW 1 v0 fun v2=>
  ldW S 1 true v2 fun v6=>
  caW PG S (.func (.func 46) [] []) [v6,(.int .i64 60)] (fun v7 S=>
  grW v7 true (lnW S 1 v1 fun v11=>
  biW .leq v11 (.int .i64 30) fun v12=>
  pkW v7 v12 (.bool false) fun v13=>
  rtW [.tmp v13] QF S)
  (pkW v7 undefA (.bool false) fun v13=>
  rtW [.tmp v13] QF S)) (pqW QF)
theorem w_law14_Small {QF:AEnd→Store→Prop} {v0 v1:AV} {S:Store} (h:B_law14_Small QF v0 v1 S):ACalls PG nr_law14_Small [v0,v1] S QF:=
  acalls_tf (F:=tf_law14_Small) (by kernel_rfl) rfl (by kernel_rfl) h
def tf_ref15_Check:TFunc where
  n:=64
  args:=6
  res:=[.tmp 12,.tmp 13,.tmp 14]
  code:=.seq (.reg [i1 6 (.boxr 24 1 (.t 0)),
    i1 8 (.boxr 27 2 (.t 2)),
    i1 10 (.boxr 27 2 (.t 4)),
    i1 12 (.mov (.c (.bool false))),
    i1 13 (.mov (.c (.int .i64 0))),
    i1 14 (.mov (.c (.int .i64 0)))] [1,3,5,6,8,10] []) (.seq (.reg [i1 20 (.load 1 true (.t 6)),
    i1 21 (.call (.f 52) [.t 20]),
    .box2 15 88 [.int .i64 0,.int .i64 0,.int .i64 0] 3 (.t 21)] [1,3,5,6,8,10,15] []) (.seq (.seq (.reg [i1 22 (.faddr 2 (.t 15)),
    i1 23 (.load 1 false (.t 22)),
    i1 24 (.bin .neq (.t 23) (.c (.int .i64 0))),
    i1 25 (.mov (.t 24)),
    .grp 25 false [s1 26 (.mov (.t 5)),s1 27 (.bin .lss (.t 26) (.c (.int .i64 0)))],
    i1 28 (.pick (.t 25) (.c (.bool true)) (.t 27)),
    i1 29 (.mov (.t 28)),
    .grp 29 false [s1 30 (.mov (.t 5)),s1 31 (.bin .gtr (.t 30) (.c (.int .i64 100000)))],
    i1 32 (.pick (.t 29) (.c (.bool true)) (.t 31))] [1,3,5,6,8,10,32] []) (.cond (.t 32) (.seq (.reg [i1 12 (.mov (.c (.bool false))),
    i1 13 (.mov (.c (.int .i64 0))),
    i1 14 (.mov (.c (.int .i64 1)))] [12,13,14] []) (.ret)) (.skip))) (.seq (.reg [i1 34 (.load 1 true (.t 6)),
    i1 35 (.faddr 0 (.t 8)),
    i1 36 (.load 1 false (.t 35)),
    i1 37 (.mov (.t 3)),
    i1 38 (.call (.f 28) [.t 34,.t 36,.t 37]),
    i1 33 (.mov (.t 38)),
    i1 39 (.extr (.t 33) 0),
    i1 40 (.extr (.t 33) 1),
    .box2 16 53 [.str ⟨#[]⟩,.nils,.int .i64 0,.str ⟨#[]⟩,.str ⟨#[]⟩,.nils] 6 (.t 39),
    i1 17 (.mov (.t 40))] [1,3,5,6,8,10,17] []) (.seq (.seq (.reg [i1 41 (.mov (.t 17)),
    i1 42 (.not (.t 41))] [1,3,5,6,8,10,42] []) (.cond (.t 42) (.seq (.reg [i1 12 (.mov (.c (.bool false))),
    i1 13 (.mov (.c (.int .i64 0))),
    i1 14 (.mov (.c (.int .i64 6)))] [12,13,14] []) (.ret)) (.skip))) (.seq (.regl [2,5,0,1,4,3,6,7,8] [i1 45 (.mov (.t 1)),
    i1 48 (.mov (.t 5)),
    i1 43 (.load 1 true (.t 6)),
    i1 44 (.load 1 true (.t 6)),
    i1 47 (.load 2 true (.t 10)),
    .one { d:=some 46,o:=.call (.f 29) [.t 44,.t 45],x:=[6,10] },
    i1 49 (.build [.nils,.nils,.str ⟨#[]⟩,.str ⟨#[]⟩,.int .i64 0,.int .i64 0,.nils,.bool false] [(0,1,.t 43),(1,1,.t 46),(2,2,.t 47),(4,1,.t 48)]),
    i1 50 (.box 106 8 (.t 49)),
    i1 18 (.mov (.t 50))] [3,8,18] []) (.seq (.reg [i1 51 (.mov (.t 18)),
    i1 52 (.load 2 true (.t 8)),
    i1 53 (.mov (.t 3)),
    i1 54 (.call (.f 53) [.t 51,.t 52,.t 53]),
    i1 19 (.mov (.t 54))] [18,19] []) (.seq (.seq (.reg [i1 55 (.mov (.t 18)),
    i1 56 (.nilck (.t 55)),
    i1 57 (.faddr 7 (.t 56)),
    i1 58 (.load 1 false (.t 57))] [18,19,58] []) (.cond (.t 58) (.seq (.reg [i1 12 (.mov (.c (.bool false))),
    i1 13 (.mov (.c (.int .i64 0))),
    i1 14 (.mov (.c (.int .i64 12)))] [12,13,14] []) (.ret)) (.skip))) (.seq (.regl [0,1,2,3,5,4,6,7] [i1 59 (.mov (.t 19)),
    i1 60 (.mov (.t 18)),
    i1 61 (.nilck (.t 60)),
    i1 62 (.faddr 5 (.t 61)),
    i1 12 (.mov (.t 59)),
    i1 63 (.load 1 false (.t 62)),
    i1 13 (.mov (.t 63)),
    i1 14 (.mov (.c (.int .i64 0)))] [12,13,14] []) (.ret)))))))))
abbrev nr_ref15_Check:Nat:=19
def C_ref15_Check_2 (QF:AEnd→Store→Prop) (v1 v3 v5 v6 v8 v10 v32:AV) (S:Store):Prop:=
  cnW v32 (rtW [.tmp (.bool false),.tmp (.int .i64 0),.tmp (.int .i64 1)] QF S)
  (ldW S 1 true v6 fun v34=>
  faW 0 v8 fun v35=>
  ldW S 1 false v35 fun v36=>
  caW PG S (.func (.func 28) [] []) [v34,v36,v3] (fun v38 S=>
  exW 0 v38 fun v39=>
  exW 1 v38 fun v40=>
  bfW 6 v39 fun v16=>
  ntW v40 fun v42=>
  cnW v42 (rtW [.tmp (.bool false),.tmp (.int .i64 0),.tmp (.int .i64 6)] QF S)
  (ldW S 1 true v6 fun v43=>
  ldW S 1 true v6 fun v44=>
  ldW S 2 true v10 fun v47=>
  caW PG S (.func (.func 29) [] []) [v44,v1] (fun v46 S2=>
  kpW [v6,v10] S S2 (
  bdW [.nils,.nils,.str ⟨#[]⟩,.str ⟨#[]⟩,.int .i64 0,.int .i64 0,.nils,.bool false] [(0,1,v43),(1,1,v46),(2,2,v47),(4,1,v5)] fun v49=>
  bxW S2 106 8 v49 fun v50 S=>
  ldW S 2 true v8 fun v52=>
  caW PG S (.func (.func 53) [] []) [v50,v52,v3] (fun v54 S=>
  nkW v50 fun v56=>
  faW 7 v56 fun v57=>
  ldW S 1 false v57 fun v58=>
  cnW v58 (rtW [.tmp (.bool false),.tmp (.int .i64 0),.tmp (.int .i64 12)] QF S)
  (nkW v50 fun v61=>
  faW 5 v61 fun v62=>
  ldW S 1 false v62 fun v63=>
  rtW [.tmp v54,.tmp v63,.tmp (.int .i64 0)] QF S)) (pqW QF))) (pqW QF))) (pqW QF))
def C_ref15_Check_1 (QF:AEnd→Store→Prop) (v1 v3 v5 v6 v8 v10 v28:AV) (S:Store):Prop:=
  grW v28 false (biW .gtr v5 (.int .i64 100000) fun v31=>
  pkW v28 (.bool true) v31 fun v32=>
  C_ref15_Check_2 QF v1 v3 v5 v6 v8 v10 v32 S)
  (pkW v28 (.bool true) undefA fun v32=>
  C_ref15_Check_2 QF v1 v3 v5 v6 v8 v10 v32 S)
def B_ref15_Check (QF:AEnd→Store→Prop) (v0 v1 v2 v3 v4 v5:AV) (S:Store):Prop:=
  brW 1 v0 fun v6=>
  brW 2 v2 fun v8=>
  brW 2 v4 fun v10=>
  ldW S 1 true v6 fun v20=>
  caW PG S (.func (.func 52) [] []) [v20] (fun v21 S=>
  bfW 3 v21 fun v15=>
  faW 2 v15 fun v22=>
  ldW S 1 false v22 fun v23=>
  biW .neq v23 (.int .i64 0) fun v24=>
  grW v24 false (biW .lss v5 (.int .i64 0) fun v27=>
  pkW v24 (.bool true) v27 fun v28=>
  C_ref15_Check_1 QF v1 v3 v5 v6 v8 v10 v28 S)
  (pkW v24 (.bool true) undefA fun v28=>
  C_ref15_Check_1 QF v1 v3 v5 v6 v8 v10 v28 S)) (pqW QF)
theorem w_ref15_Check {QF:AEnd→Store→Prop} {v0 v1 v2 v3 v4 v5:AV} {S:Store} (h:B_ref15_Check QF v0 v1 v2 v3 v4 v5 S):ACalls PG nr_ref15_Check [v0,v1,v2,v3,v4,v5] S QF:=
  acalls_tf (F:=tf_ref15_Check) (by kernel_rfl) rfl (by kernel_rfl) h
end Go.HL
