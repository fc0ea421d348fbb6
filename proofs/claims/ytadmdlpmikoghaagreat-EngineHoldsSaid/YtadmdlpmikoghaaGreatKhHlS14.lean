/- A part of a proof. -/
import Derived.Test.YtadmdlpmikoghaaGreatKhHlP
set_option maxRecDepth 100000
set_option linter.unusedVariables false
namespace Go.HL
def tf_slices_IndexFunc_Rel:TFunc where
  n:=19
  args:=2
  res:=[.tmp 4]
  code:=.seq (.reg [i1 4 (.mov (.c (.int .i64 0)))] [0,1] []) (.seq (.seq (.reg [i1 6 (.mov (.t 0)),
    i1 7 (.len 1 (.t 6)),
    i1 8 (.mov (.c (.int .i64 0)))] [0,1,7,8] []) (.block 0 (.loop [0,1,7,8] (.seq (.reg [i1 9 (.bin .lss (.t 8) (.t 7))] [0,1,7,8,9] []) (.seq (.cond (.t 9) (.skip) (.exit 0)) (.seq (.block 1 (.seq (.reg [i1 10 (.mov (.t 8)),
    i1 5 (.mov (.t 10))] [0,1,5,7,8] []) (.seq (.reg [i1 11 (.mov (.t 1)),
    i1 12 (.mov (.t 0)),
    i1 13 (.mov (.t 5)),
    i1 14 (.iaddr 6 (.t 12) (.t 13)),
    i1 15 (.load 6 true (.t 14)),
    i1 16 (.call (.t 11) [.t 15])] [0,1,5,7,8,16] []) (.cond (.t 16) (.seq (.reg [i1 17 (.mov (.t 5)),
    i1 4 (.mov (.t 17))] [4] []) (.ret)) (.skip))))) (.reg [i1 18 (.bin .add (.t 8) (.c (.int .i64 1))),
    i1 8 (.mov (.t 18))] [0,1,7,8] []))))))) (.seq (.reg [i1 4 (.mov (.c (.int .i64 (-1))))] [4] []) (.ret)))
abbrev nr_slices_IndexFunc_Rel:Nat:=205
def C_slices_IndexFunc_Rel_1 (QF:AEnd→Store→Prop) (r0:LE→Store→Prop) (v0 v1 v7 v8:AV) (S:Store):Prop:=
  biW .lss v8 v7 fun v9=>
  cnW v9 (iaW 6 v0 v8 fun v14=>
  ldW S 6 true v14 fun v15=>
  caW PG S v1 [v15] (fun v16 S=>
  cnW v16 (rtW [.tmp v8] QF S)
  (biW .add v8 (.int .i64 1) fun v18=>
  rcW r0 [(0,v0),(1,v1),(7,v7),(8,v18)] S)) (pqW QF))
  (rtW [.tmp (.int .i64 (-1))] QF S)
def B_slices_IndexFunc_Rel (QF:AEnd→Store→Prop) (v0 v1:AV) (S:Store):Prop:=
  lnW S 1 v0 fun v7=>
  LoopP (fun r0 l S=>C_slices_IndexFunc_Rel_1 QF r0 (lget l 0) (lget l 1) (lget l 7) (lget l 8) S) [(0,v0),(1,v1),(7,v7),(8,(.int .i64 0))] S
theorem w_slices_IndexFunc_Rel {QF:AEnd→Store→Prop} {v0 v1:AV} {S:Store} (h:B_slices_IndexFunc_Rel QF v0 v1 S):ACalls PG nr_slices_IndexFunc_Rel [v0,v1] S QF:=
  acalls_tf (F:=tf_slices_IndexFunc_Rel) (by kernel_rfl) rfl (by kernel_rfl) h
def tf_lang_may:TFunc where
  n:=67
  args:=2
  res:=[.tmp 4]
  code:=.seq (.reg [i1 2 (.boxr 51 4 (.t 0)),
    i1 4 (.mov (.c (.bool false)))] [1,2] []) (.seq (.block 0 (.seq (.reg [i1 6 (.mov (.t 1)),
    i1 7 (.bin .eql (.t 6) (.c (.int .i64 0))),
    i1 5 (.mov (.t 7))] [1,2,5] []) (.cond (.t 5) (.seq (.reg [i1 4 (.mov (.c (.bool false)))] [4] []) (.ret)) (.seq (.reg [i1 9 (.faddr 0 (.t 2)),
    i1 10 (.load 1 false (.t 9)),
    i1 11 (.bin .eql (.t 10) (.c (.int .i64 0))),
    i1 8 (.mov (.t 11))] [1,2,8] []) (.cond (.t 8) (.seq (.reg [i1 12 (.faddr 1 (.t 2)),
    i1 13 (.load 1 false (.t 12)),
    i1 14 (.call (.f 144) [.t 13]),
    i1 15 (.mov (.t 14)),
    .grp 15 true [s1 16 (.faddr 3 (.t 2)),s1 17 (.load 1 false (.t 16)),s1 18 (.len 1 (.t 17)),s1 19 (.bin .eql (.t 18) (.c (.int .i64 0)))],
    i1 20 (.pick (.t 15) (.t 19) (.c (.bool false))),
    i1 4 (.mov (.t 20))] [4] []) (.ret)) (.seq (.reg [i1 22 (.faddr 0 (.t 2)),
    i1 23 (.load 1 false (.t 22)),
    i1 24 (.bin .eql (.t 23) (.c (.int .i64 1))),
    i1 21 (.mov (.t 24))] [1,2,21] []) (.cond (.t 21) (.seq (.reg [i1 25 (.faddr 1 (.t 2)),
    i1 26 (.load 1 false (.t 25)),
    i1 27 (.call (.f 144) [.t 26]),
    i1 28 (.mov (.t 27)),
    .grp 28 true [s1 29 (.faddr 2 (.t 2)),s1 30 (.load 1 false (.t 29)),s1 31 (.call (.f 144) [.t 30])],
    i1 32 (.pick (.t 28) (.t 31) (.c (.bool false))),
    i1 33 (.mov (.t 32)),
    .grp 33 true [s1 34 (.faddr 3 (.t 2)),s1 35 (.load 1 false (.t 34)),s1 36 (.len 1 (.t 35)),s1 37 (.bin .eql (.t 36) (.c (.int .i64 0)))],
    i1 38 (.pick (.t 33) (.t 37) (.c (.bool false))),
    i1 4 (.mov (.t 38))] [4] []) (.ret)) (.skip)))))))) (.seq (.reg [i1 39 (.faddr 0 (.t 2)),
    i1 40 (.load 1 false (.t 39)),
    i1 41 (.call (.f 214) [.t 40]),
    i1 42 (.bin .neq (.t 41) (.c (.str ⟨#[]⟩))),
    i1 43 (.mov (.t 42)),
    .grp 43 true [s1 44 (.faddr 3 (.t 2)),s1 45 (.load 1 false (.t 44)),s1 46 (.len 1 (.t 45)),s1 47 (.bin .eql (.t 46) (.c (.int .i64 2)))],
    i1 48 (.pick (.t 43) (.t 47) (.c (.bool false))),
    i1 49 (.mov (.t 48)),
    .grp 49 true [s1 50 (.faddr 3 (.t 2)),s1 51 (.load 1 false (.t 50)),s1 52 (.iaddr 4 (.t 51) (.c (.int .i64 0))),s1 53 (.load 4 true (.t 52)),s1 54 (.mov (.t 1)),s1 55 (.bin .sub (.t 54) (.c (.int .i64 1))),s1 56 (.call (.f 206) [.t 53,.t 55])],
    i1 57 (.pick (.t 49) (.t 56) (.c (.bool false))),
    i1 58 (.mov (.t 57)),
    .grp 58 true [s1 59 (.faddr 3 (.t 2)),s1 60 (.load 1 false (.t 59)),s1 61 (.iaddr 4 (.t 60) (.c (.int .i64 1))),s1 62 (.load 4 true (.t 61)),s1 63 (.mov (.t 1)),s1 64 (.bin .sub (.t 63) (.c (.int .i64 1))),s1 65 (.call (.f 206) [.t 62,.t 64])],
    i1 66 (.pick (.t 58) (.t 65) (.c (.bool false))),
    i1 4 (.mov (.t 66))] [4] []) (.ret)))
abbrev nr_lang_may:Nat:=206
def C_lang_may_3 (QF:AEnd→Store→Prop) (v2 v32:AV) (S:Store):Prop:=
  grW v32 true (faW 3 v2 fun v34=>
  ldW S 1 false v34 fun v35=>
  lnW S 1 v35 fun v36=>
  biW .eql v36 (.int .i64 0) fun v37=>
  pkW v32 v37 (.bool false) fun v38=>
  rtW [.tmp v38] QF S)
  (pkW v32 undefA (.bool false) fun v38=>
  rtW [.tmp v38] QF S)
def C_lang_may_2 (QF:AEnd→Store→Prop) (v1 v2 v57:AV) (S:Store):Prop:=
  grW v57 true (faW 3 v2 fun v59=>
  ldW S 1 false v59 fun v60=>
  iaW 4 v60 (.int .i64 1) fun v61=>
  ldW S 4 true v61 fun v62=>
  biW .sub v1 (.int .i64 1) fun v64=>
  caW PG S (.func (.func 206) [] []) [v62,v64] (fun v65 S=>
  pkW v57 v65 (.bool false) fun v66=>
  rtW [.tmp v66] QF S) (pqW QF))
  (pkW v57 undefA (.bool false) fun v66=>
  rtW [.tmp v66] QF S)
def C_lang_may_1 (QF:AEnd→Store→Prop) (v1 v2 v48:AV) (S:Store):Prop:=
  grW v48 true (faW 3 v2 fun v50=>
  ldW S 1 false v50 fun v51=>
  iaW 4 v51 (.int .i64 0) fun v52=>
  ldW S 4 true v52 fun v53=>
  biW .sub v1 (.int .i64 1) fun v55=>
  caW PG S (.func (.func 206) [] []) [v53,v55] (fun v56 S=>
  pkW v48 v56 (.bool false) fun v57=>
  C_lang_may_2 QF v1 v2 v57 S) (pqW QF))
  (pkW v48 undefA (.bool false) fun v57=>
  C_lang_may_2 QF v1 v2 v57 S)
def B_lang_may (QF:AEnd→Store→Prop) (v0 v1:AV) (S:Store):Prop:=
  brW 4 v0 fun v2=>
  biW .eql v1 (.int .i64 0) fun v7=>
  cnW v7 (rtW [.tmp (.bool false)] QF S)
  (faW 0 v2 fun v9=>
  ldW S 1 false v9 fun v10=>
  biW .eql v10 (.int .i64 0) fun v11=>
  cnW v11 (faW 1 v2 fun v12=>
  ldW S 1 false v12 fun v13=>
  caW PG S (.func (.func 144) [] []) [v13] (fun v14 S=>
  grW v14 true (faW 3 v2 fun v16=>
  ldW S 1 false v16 fun v17=>
  lnW S 1 v17 fun v18=>
  biW .eql v18 (.int .i64 0) fun v19=>
  pkW v14 v19 (.bool false) fun v20=>
  rtW [.tmp v20] QF S)
  (pkW v14 undefA (.bool false) fun v20=>
  rtW [.tmp v20] QF S)) (pqW QF))
  (faW 0 v2 fun v22=>
  ldW S 1 false v22 fun v23=>
  biW .eql v23 (.int .i64 1) fun v24=>
  cnW v24 (faW 1 v2 fun v25=>
  ldW S 1 false v25 fun v26=>
  caW PG S (.func (.func 144) [] []) [v26] (fun v27 S=>
  grW v27 true (faW 2 v2 fun v29=>
  ldW S 1 false v29 fun v30=>
  caW PG S (.func (.func 144) [] []) [v30] (fun v31 S=>
  pkW v27 v31 (.bool false) fun v32=>
  C_lang_may_3 QF v2 v32 S) (pqW QF))
  (pkW v27 undefA (.bool false) fun v32=>
  C_lang_may_3 QF v2 v32 S)) (pqW QF))
  (faW 0 v2 fun v39=>
  ldW S 1 false v39 fun v40=>
  caW PG S (.func (.func 214) [] []) [v40] (fun v41 S=>
  biW .neq v41 (.str ⟨#[]⟩) fun v42=>
  grW v42 true (faW 3 v2 fun v44=>
  ldW S 1 false v44 fun v45=>
  lnW S 1 v45 fun v46=>
  biW .eql v46 (.int .i64 2) fun v47=>
  pkW v42 v47 (.bool false) fun v48=>
  C_lang_may_1 QF v1 v2 v48 S)
  (pkW v42 undefA (.bool false) fun v48=>
  C_lang_may_1 QF v1 v2 v48 S)) (pqW QF))))
theorem w_lang_may {QF:AEnd→Store→Prop} {v0 v1:AV} {S:Store} (h:B_lang_may QF v0 v1 S):ACalls PG nr_lang_may [v0,v1] S QF:=
  acalls_tf (F:=tf_lang_may) (by kernel_rfl) rfl (by kernel_rfl) h
def tf_slices_ContainsFunc_Ref:TFunc where
  n:=9
  args:=2
  res:=[.tmp 4]
  code:=.seq (.reg [i1 4 (.mov (.c (.bool false)))] [0,1] []) (.seq (.reg [i1 5 (.mov (.t 0)),
    i1 6 (.mov (.t 1)),
    i1 7 (.call (.f 215) [.t 5,.t 6]),
    i1 8 (.bin .geq (.t 7) (.c (.int .i64 0))),
    i1 4 (.mov (.t 8))] [4] []) (.ret))
abbrev nr_slices_ContainsFunc_Ref:Nat:=207
def B_slices_ContainsFunc_Ref (QF:AEnd→Store→Prop) (v0 v1:AV) (S:Store):Prop:=
  caW PG S (.func (.func 215) [] []) [v0,v1] (fun v7 S=>
  biW .geq v7 (.int .i64 0) fun v8=>
  rtW [.tmp v8] QF S) (pqW QF)
theorem w_slices_ContainsFunc_Ref {QF:AEnd→Store→Prop} {v0 v1:AV} {S:Store} (h:B_slices_ContainsFunc_Ref QF v0 v1 S):ACalls PG nr_slices_ContainsFunc_Ref [v0,v1] S QF:=
  acalls_tf (F:=tf_slices_ContainsFunc_Ref) (by kernel_rfl) rfl (by kernel_rfl) h
def tf_lang_rel_1:TFunc where
  n:=6
  args:=1
  res:=[.tmp 2]
  code:=.seq (.reg [i1 1 (.boxr 171 2 (.t 0)),
    i1 2 (.mov (.c (.bool false)))] [1] []) (.seq (.reg [i1 3 (.load 2 true (.t 1)),
    i1 4 (.call (.f 209) [.t 3]),
    i1 5 (.not (.t 4)),
    i1 2 (.mov (.t 5))] [2] []) (.ret))
abbrev nr_lang_rel_1:Nat:=208
def B_lang_rel_1 (QF:AEnd→Store→Prop) (v0:AV) (S:Store):Prop:=
  brW 2 v0 fun v1=>
  ldW S 2 true v1 fun v3=>
  caW PG S (.func (.func 209) [] []) [v3] (fun v4 S=>
  ntW v4 fun v5=>
  rtW [.tmp v5] QF S) (pqW QF)
theorem w_lang_rel_1 {QF:AEnd→Store→Prop} {v0:AV} {S:Store} (h:B_lang_rel_1 QF v0 S):ACalls PG nr_lang_rel_1 [v0] S QF:=
  acalls_tf (F:=tf_lang_rel_1) (by kernel_rfl) rfl (by kernel_rfl) h
def tf_lang_ref:TFunc where
  n:=16
  args:=1
  res:=[.tmp 2]
  code:=.seq (.reg [i1 1 (.boxr 171 2 (.t 0)),
    i1 2 (.mov (.c (.bool false)))] [1] []) (.seq (.reg [i1 3 (.faddr 0 (.t 1)),
    i1 4 (.load 1 false (.t 3)),
    i1 5 (.call (.f 144) [.t 4]),
    i1 6 (.mov (.t 5)),
    .grp 6 true [s1 7 (.faddr 1 (.t 1)),s1 8 (.load 1 false (.t 7)),s1 9 (.bin .eql (.t 8) (.c (.str ⟨#[]⟩))),s1 10 (.mov (.t 9))],
    .grp 10 false [s1 11 (.faddr 1 (.t 1)),s1 12 (.load 1 false (.t 11)),s1 13 (.call (.f 144) [.t 12])],
    .grp 6 true [s1 14 (.pick (.t 10) (.c (.bool true)) (.t 13))],
    i1 15 (.pick (.t 6) (.t 14) (.c (.bool false))),
    i1 2 (.mov (.t 15))] [2] []) (.ret))
abbrev nr_lang_ref:Nat:=209
def C_lang_ref_2 (QF:AEnd→Store→Prop) (v6 v10 v13:AV) (S:Store):Prop:=
  grW v6 true (pkW v10 (.bool true) v13 fun v14=>
  pkW v6 v14 (.bool false) fun v15=>
  rtW [.tmp v15] QF S)
  (pkW v6 undefA (.bool false) fun v15=>
  rtW [.tmp v15] QF S)
def C_lang_ref_1 (QF:AEnd→Store→Prop) (v1 v6 v10:AV) (S:Store):Prop:=
  grW v10 false (faW 1 v1 fun v11=>
  ldW S 1 false v11 fun v12=>
  caW PG S (.func (.func 144) [] []) [v12] (fun v13 S=>
  C_lang_ref_2 QF v6 v10 v13 S) (pqW QF))
  (C_lang_ref_2 QF v6 v10 undefA S)
def B_lang_ref (QF:AEnd→Store→Prop) (v0:AV) (S:Store):Prop:=
  brW 2 v0 fun v1=>
  faW 0 v1 fun v3=>
  ldW S 1 false v3 fun v4=>
  caW PG S (.func (.func 144) [] []) [v4] (fun v5 S=>
  grW v5 true (faW 1 v1 fun v7=>
  ldW S 1 false v7 fun v8=>
  biW .eql v8 (.str ⟨#[]⟩) fun v9=>
  C_lang_ref_1 QF v1 v5 v9 S)
  (C_lang_ref_1 QF v1 v5 undefA S)) (pqW QF)
theorem w_lang_ref {QF:AEnd→Store→Prop} {v0:AV} {S:Store} (h:B_lang_ref QF v0 S):ACalls PG nr_lang_ref [v0] S QF:=
  acalls_tf (F:=tf_lang_ref) (by kernel_rfl) rfl (by kernel_rfl) h
def tf_ref11_MayExpr:TFunc where
  n:=63
  args:=2
  res:=[.tmp 4]
  code:=.seq (.reg [i1 2 (.boxr 51 4 (.t 0)),
    i1 4 (.mov (.c (.bool false)))] [1,2] []) (.seq (.seq (.reg [i1 7 (.mov (.t 1)),
    i1 8 (.bin .eql (.t 7) (.c (.int .i64 0))),
    i1 9 (.mov (.t 8)),
    .grp 9 false [s1 10 (.faddr 0 (.t 2)),s1 11 (.load 1 false (.t 10)),s1 12 (.bin .lss (.t 11) (.c (.int .i64 0)))],
    i1 13 (.pick (.t 9) (.c (.bool true)) (.t 12)),
    i1 14 (.mov (.t 13)),
    .grp 14 false [s1 15 (.faddr 0 (.t 2)),s1 16 (.load 1 false (.t 15)),s1 17 (.bin .gtr (.t 16) (.c (.int .i64 4)))],
    i1 18 (.pick (.t 14) (.c (.bool true)) (.t 17))] [1,2,18] []) (.cond (.t 18) (.seq (.reg [i1 4 (.mov (.c (.bool false)))] [4] []) (.ret)) (.skip))) (.seq (.seq (.reg [i1 19 (.faddr 0 (.t 2)),
    i1 20 (.load 1 false (.t 19)),
    i1 21 (.bin .leq (.t 20) (.c (.int .i64 1)))] [1,2,21] []) (.cond (.t 21) (.seq (.reg [i1 22 (.faddr 1 (.t 2)),
    i1 23 (.load 1 false (.t 22)),
    i1 24 (.call (.f 78) [.t 23]),
    i1 5 (.mov (.t 24))] [2,5] []) (.seq (.reg [i1 25 (.faddr 2 (.t 2)),
    i1 26 (.load 1 false (.t 25)),
    i1 27 (.call (.f 78) [.t 26]),
    i1 6 (.mov (.t 27))] [2,5,6] []) (.seq (.reg [i1 28 (.mov (.t 5)),
    i1 29 (.mov (.t 28)),
    .grp 29 true [s1 30 (.faddr 3 (.t 2)),s1 31 (.load 1 false (.t 30)),s1 32 (.len 1 (.t 31)),s1 33 (.bin .eql (.t 32) (.c (.int .i64 0)))],
    i1 34 (.pick (.t 29) (.t 33) (.c (.bool false))),
    i1 35 (.mov (.t 34)),
    .grp 35 true [s1 36 (.faddr 0 (.t 2)),s1 37 (.load 1 false (.t 36)),s1 38 (.bin .eql (.t 37) (.c (.int .i64 0))),s1 39 (.mov (.t 38))],
    .grp 39 false [s1 40 (.mov (.t 6))],
    .grp 35 true [s1 41 (.pick (.t 39) (.c (.bool true)) (.t 40))],
    i1 42 (.pick (.t 35) (.t 41) (.c (.bool false))),
    i1 4 (.mov (.t 42))] [4] []) (.ret)))) (.skip))) (.seq (.seq (.reg [i1 43 (.faddr 3 (.t 2)),
    i1 44 (.load 1 false (.t 43)),
    i1 45 (.len 1 (.t 44)),
    i1 46 (.bin .neq (.t 45) (.c (.int .i64 2)))] [1,2,46] []) (.cond (.t 46) (.seq (.reg [i1 4 (.mov (.c (.bool false)))] [4] []) (.ret)) (.skip))) (.seq (.reg [i1 47 (.faddr 3 (.t 2)),
    i1 48 (.load 1 false (.t 47)),
    i1 49 (.iaddr 4 (.t 48) (.c (.int .i64 0))),
    i1 50 (.load 4 true (.t 49)),
    i1 51 (.mov (.t 1)),
    i1 52 (.bin .sub (.t 51) (.c (.int .i64 1))),
    i1 53 (.call (.f 210) [.t 50,.t 52]),
    i1 54 (.mov (.t 53)),
    .grp 54 true [s1 55 (.faddr 3 (.t 2)),s1 56 (.load 1 false (.t 55)),s1 57 (.iaddr 4 (.t 56) (.c (.int .i64 1))),s1 58 (.load 4 true (.t 57)),s1 59 (.mov (.t 1)),s1 60 (.bin .sub (.t 59) (.c (.int .i64 1))),s1 61 (.call (.f 210) [.t 58,.t 60])],
    i1 62 (.pick (.t 54) (.t 61) (.c (.bool false))),
    i1 4 (.mov (.t 62))] [4] []) (.ret)))))
abbrev nr_ref11_MayExpr:Nat:=210
def C_ref11_MayExpr_5 (QF:AEnd→Store→Prop) (v35 v39 v40:AV) (S:Store):Prop:=
  grW v35 true (pkW v39 (.bool true) v40 fun v41=>
  pkW v35 v41 (.bool false) fun v42=>
  rtW [.tmp v42] QF S)
  (pkW v35 undefA (.bool false) fun v42=>
  rtW [.tmp v42] QF S)
def C_ref11_MayExpr_4 (QF:AEnd→Store→Prop) (v6 v35 v39:AV) (S:Store):Prop:=
  grW v39 false (C_ref11_MayExpr_5 QF v35 v39 v6 S)
  (C_ref11_MayExpr_5 QF v35 v39 undefA S)
def C_ref11_MayExpr_3 (QF:AEnd→Store→Prop) (v2 v6 v34:AV) (S:Store):Prop:=
  grW v34 true (faW 0 v2 fun v36=>
  ldW S 1 false v36 fun v37=>
  biW .eql v37 (.int .i64 0) fun v38=>
  C_ref11_MayExpr_4 QF v6 v34 v38 S)
  (C_ref11_MayExpr_4 QF v6 v34 undefA S)
def C_ref11_MayExpr_2 (QF:AEnd→Store→Prop) (v1 v2 v18:AV) (S:Store):Prop:=
  cnW v18 (rtW [.tmp (.bool false)] QF S)
  (faW 0 v2 fun v19=>
  ldW S 1 false v19 fun v20=>
  biW .leq v20 (.int .i64 1) fun v21=>
  cnW v21 (faW 1 v2 fun v22=>
  ldW S 1 false v22 fun v23=>
  caW PG S (.func (.func 78) [] []) [v23] (fun v24 S=>
  faW 2 v2 fun v25=>
  ldW S 1 false v25 fun v26=>
  caW PG S (.func (.func 78) [] []) [v26] (fun v27 S=>
  grW v24 true (faW 3 v2 fun v30=>
  ldW S 1 false v30 fun v31=>
  lnW S 1 v31 fun v32=>
  biW .eql v32 (.int .i64 0) fun v33=>
  pkW v24 v33 (.bool false) fun v34=>
  C_ref11_MayExpr_3 QF v2 v27 v34 S)
  (pkW v24 undefA (.bool false) fun v34=>
  C_ref11_MayExpr_3 QF v2 v27 v34 S)) (pqW QF)) (pqW QF))
  (faW 3 v2 fun v43=>
  ldW S 1 false v43 fun v44=>
  lnW S 1 v44 fun v45=>
  biW .neq v45 (.int .i64 2) fun v46=>
  cnW v46 (rtW [.tmp (.bool false)] QF S)
  (faW 3 v2 fun v47=>
  ldW S 1 false v47 fun v48=>
  iaW 4 v48 (.int .i64 0) fun v49=>
  ldW S 4 true v49 fun v50=>
  biW .sub v1 (.int .i64 1) fun v52=>
  caW PG S (.func (.func 210) [] []) [v50,v52] (fun v53 S=>
  grW v53 true (faW 3 v2 fun v55=>
  ldW S 1 false v55 fun v56=>
  iaW 4 v56 (.int .i64 1) fun v57=>
  ldW S 4 true v57 fun v58=>
  biW .sub v1 (.int .i64 1) fun v60=>
  caW PG S (.func (.func 210) [] []) [v58,v60] (fun v61 S=>
  pkW v53 v61 (.bool false) fun v62=>
  rtW [.tmp v62] QF S) (pqW QF))
  (pkW v53 undefA (.bool false) fun v62=>
  rtW [.tmp v62] QF S)) (pqW QF))))
def C_ref11_MayExpr_1 (QF:AEnd→Store→Prop) (v1 v2 v13:AV) (S:Store):Prop:=
  grW v13 false (faW 0 v2 fun v15=>
  ldW S 1 false v15 fun v16=>
  biW .gtr v16 (.int .i64 4) fun v17=>
  pkW v13 (.bool true) v17 fun v18=>
  C_ref11_MayExpr_2 QF v1 v2 v18 S)
  (pkW v13 (.bool true) undefA fun v18=>
  C_ref11_MayExpr_2 QF v1 v2 v18 S)
def B_ref11_MayExpr (QF:AEnd→Store→Prop) (v0 v1:AV) (S:Store):Prop:=
  brW 4 v0 fun v2=>
  biW .eql v1 (.int .i64 0) fun v8=>
  grW v8 false (faW 0 v2 fun v10=>
  ldW S 1 false v10 fun v11=>
  biW .lss v11 (.int .i64 0) fun v12=>
  pkW v8 (.bool true) v12 fun v13=>
  C_ref11_MayExpr_1 QF v1 v2 v13 S)
  (pkW v8 (.bool true) undefA fun v13=>
  C_ref11_MayExpr_1 QF v1 v2 v13 S)
theorem w_ref11_MayExpr {QF:AEnd→Store→Prop} {v0 v1:AV} {S:Store} (h:B_ref11_MayExpr QF v0 v1 S):ACalls PG nr_ref11_MayExpr [v0,v1] S QF:=
  acalls_tf (F:=tf_ref11_MayExpr) (by kernel_rfl) rfl (by kernel_rfl) h
def tf_internal_stringslite_IndexByte:TFunc where
  n:=8
  args:=2
  res:=[.tmp 4]
  code:=.seq (.reg [i1 4 (.mov (.c (.int .i64 0)))] [0,1] []) (.seq (.reg [i1 5 (.mov (.t 0)),
    i1 6 (.mov (.t 1)),
    i1 7 (.call (.f 216) [.t 5,.t 6]),
    i1 4 (.mov (.t 7))] [4] []) (.ret))
abbrev nr_internal_stringslite_IndexByte:Nat:=213
def B_internal_stringslite_IndexByte (QF:AEnd→Store→Prop) (v0 v1:AV) (S:Store):Prop:=
  caW PG S (.func (.func 216) [] []) [v0,v1] (fun v7 S=>
  rtW [.tmp v7] QF S) (pqW QF)
theorem w_internal_stringslite_IndexByte {QF:AEnd→Store→Prop} {v0 v1:AV} {S:Store} (h:B_internal_stringslite_IndexByte QF v0 v1 S):ACalls PG nr_internal_stringslite_IndexByte [v0,v1] S QF:=
  acalls_tf (F:=tf_internal_stringslite_IndexByte) (by kernel_rfl) rfl (by kernel_rfl) h
def tf_lang_sign:TFunc where
  n:=10
  args:=1
  res:=[.tmp 2]
  code:=.seq (.reg [i1 2 (.mov (.c (.str ⟨#[]⟩)))] [0] []) (.seq (.seq (.reg [i1 3 (.mov (.t 0))] [3] []) (.block 0 (.seq (.reg [i1 5 (.bin .eql (.t 3) (.c (.int .i64 2))),
    i1 4 (.mov (.t 5))] [3,4] []) (.cond (.t 4) (.seq (.reg [i1 2 (.mov (.c (.str ⟨#[32,43,32]⟩)))] [2] []) (.ret)) (.seq (.reg [i1 7 (.bin .eql (.t 3) (.c (.int .i64 3))),
    i1 6 (.mov (.t 7))] [3,6] []) (.cond (.t 6) (.seq (.reg [i1 2 (.mov (.c (.str ⟨#[32,38,32]⟩)))] [2] []) (.ret)) (.seq (.reg [i1 9 (.bin .eql (.t 3) (.c (.int .i64 4))),
    i1 8 (.mov (.t 9))] [8] []) (.cond (.t 8) (.seq (.reg [i1 2 (.mov (.c (.str ⟨#[32,45,32]⟩)))] [2] []) (.ret)) (.skip))))))))) (.seq (.reg [i1 2 (.mov (.c (.str ⟨#[]⟩)))] [2] []) (.ret)))
abbrev nr_lang_sign:Nat:=214
def B_lang_sign (QF:AEnd→Store→Prop) (v0:AV) (S:Store):Prop:=
  biW .eql v0 (.int .i64 2) fun v5=>
  cnW v5 (rtW [.tmp (.str ⟨#[32,43,32]⟩)] QF S)
  (biW .eql v0 (.int .i64 3) fun v7=>
  cnW v7 (rtW [.tmp (.str ⟨#[32,38,32]⟩)] QF S)
  (biW .eql v0 (.int .i64 4) fun v9=>
  cnW v9 (rtW [.tmp (.str ⟨#[32,45,32]⟩)] QF S)
  (rtW [.tmp (.str ⟨#[]⟩)] QF S)))
theorem w_lang_sign {QF:AEnd→Store→Prop} {v0:AV} {S:Store} (h:B_lang_sign QF v0 S):ACalls PG nr_lang_sign [v0] S QF:=
  acalls_tf (F:=tf_lang_sign) (by kernel_rfl) rfl (by kernel_rfl) h
def tf_slices_IndexFunc_Ref:TFunc where
  n:=19
  args:=2
  res:=[.tmp 4]
  code:=.seq (.reg [i1 4 (.mov (.c (.int .i64 0)))] [0,1] []) (.seq (.seq (.reg [i1 6 (.mov (.t 0)),
    i1 7 (.len 1 (.t 6)),
    i1 8 (.mov (.c (.int .i64 0)))] [0,1,7,8] []) (.block 0 (.loop [0,1,7,8] (.seq (.reg [i1 9 (.bin .lss (.t 8) (.t 7))] [0,1,7,8,9] []) (.seq (.cond (.t 9) (.skip) (.exit 0)) (.seq (.block 1 (.seq (.reg [i1 10 (.mov (.t 8)),
    i1 5 (.mov (.t 10))] [0,1,5,7,8] []) (.seq (.reg [i1 11 (.mov (.t 1)),
    i1 12 (.mov (.t 0)),
    i1 13 (.mov (.t 5)),
    i1 14 (.iaddr 2 (.t 12) (.t 13)),
    i1 15 (.load 2 true (.t 14)),
    i1 16 (.call (.t 11) [.t 15])] [0,1,5,7,8,16] []) (.cond (.t 16) (.seq (.reg [i1 17 (.mov (.t 5)),
    i1 4 (.mov (.t 17))] [4] []) (.ret)) (.skip))))) (.reg [i1 18 (.bin .add (.t 8) (.c (.int .i64 1))),
    i1 8 (.mov (.t 18))] [0,1,7,8] []))))))) (.seq (.reg [i1 4 (.mov (.c (.int .i64 (-1))))] [4] []) (.ret)))
abbrev nr_slices_IndexFunc_Ref:Nat:=215
def C_slices_IndexFunc_Ref_1 (QF:AEnd→Store→Prop) (r0:LE→Store→Prop) (v0 v1 v7 v8:AV) (S:Store):Prop:=
  biW .lss v8 v7 fun v9=>
  cnW v9 (iaW 2 v0 v8 fun v14=>
  ldW S 2 true v14 fun v15=>
  caW PG S v1 [v15] (fun v16 S=>
  cnW v16 (rtW [.tmp v8] QF S)
  (biW .add v8 (.int .i64 1) fun v18=>
  rcW r0 [(0,v0),(1,v1),(7,v7),(8,v18)] S)) (pqW QF))
  (rtW [.tmp (.int .i64 (-1))] QF S)
def B_slices_IndexFunc_Ref (QF:AEnd→Store→Prop) (v0 v1:AV) (S:Store):Prop:=
  lnW S 1 v0 fun v7=>
  LoopP (fun r0 l S=>C_slices_IndexFunc_Ref_1 QF r0 (lget l 0) (lget l 1) (lget l 7) (lget l 8) S) [(0,v0),(1,v1),(7,v7),(8,(.int .i64 0))] S
theorem w_slices_IndexFunc_Ref {QF:AEnd→Store→Prop} {v0 v1:AV} {S:Store} (h:B_slices_IndexFunc_Ref QF v0 v1 S):ACalls PG nr_slices_IndexFunc_Ref [v0,v1] S QF:=
  acalls_tf (F:=tf_slices_IndexFunc_Ref) (by kernel_rfl) rfl (by kernel_rfl) h
end Go.HL
