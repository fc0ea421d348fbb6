/- A part of a proof. -/
import Derived.Test.YtadmdlpmikoghaaGreatKgHlP
set_option maxRecDepth 100000
set_option linter.unusedVariables false
set_option linter.unusedSimpArgs false
namespace Go.HL
def tfx130:TFunc where
 n:=14
 args:=2
 res:=[]
 code:=.seq (.reg [im 5 0,im 6 1,i1 7 (.call (.f 84) [.t 5,.t 6]),im 4 7] [0,4] []) (.seq (.reg [im 8 4,i1 9 (.not (.t 8))] [0,9] []) (.cond (.t 9) (.reg [im 10 0,im 11 0,i1 12 (.call (.f 87) [.t 11]),i1 13 (.call (.f 88) [.t 10,.t 12,.c (.int .i64 8)])] [] []) (.skip)))
abbrev nrx130:Nat:=130
def Bx130 (QF:AEnd→q00→Prop) (v0 v1:AV) (S:q00):Prop:=caW PG S (.func (.func 84) [] []) [v0,v1] (fun v7 S=>ntW v7 fun v9=>cnW v9 (caW PG S (.func (.func 87) [] []) [v0] (fun v12 S=>caW PG S (.func (.func 88) [] []) [v0,v12,(.int .i64 8)] (fun v13 S=>rtW [] QF S) (pqW QF)) (pqW QF)) (rtW [] QF S)) (pqW QF)
theorem wx130 {QF:AEnd→q00→Prop} {v0 v1:AV} {S:q00} (h:Bx130 QF v0 v1 S):ACalls PG nrx130 [v0,v1] S QF:=
 q04 (F:=tfx130) (by kernel_rfl) rfl (by kernel_rfl) h
def tfx131:TFunc where
 n:=13
 args:=1
 res:=[.cell 2 2 true]
 code:=.seq (.reg [i1 2 (.alloc 171 [.str ⟨#[]⟩,.str ⟨#[]⟩])] [0,2] []) (.seq (.reg [im 4 0,i1 5 (.call (.f 85) [.t 4]),i1 6 (.build [.str ⟨#[]⟩,.str ⟨#[]⟩] [(0,1,.t 5)]),i1 3 (.alloc 171 [.str ⟨#[]⟩,.str ⟨#[]⟩]),i0 (.store 2 (.t 3) (.t 6))] [0,2,3] []) (.seq (.seq (.reg [im 7 0,i1 8 (.call (.f 84) [.t 7,.c (.str ⟨#[35]⟩)])] [0,2,3,8] []) (.cond (.t 8) (.reg [im 9 0,i1 10 (.call (.f 85) [.t 9]),ia 11 1 3,i0 (.store 1 (.t 11) (.t 10))] [2,3] []) (.skip))) (.seq (.reg [iL 12 2 3,i0 (.store 2 (.t 2) (.t 12))] [2] [2]) (.ret))))
abbrev nrx131:Nat:=131
def C131_1 (QF:AEnd→q00→Prop) (v2 v3:AV) (S:q00):Prop:=ldW S 2 true v3 fun v12=>stW S 2 v2 v12 fun S=>fzW S v2 fun v2 S=>rtW [.cell v2 2 true] QF S
def Bx131 (QF:AEnd→q00→Prop) (v0:AV) (S:q00):Prop:=alW S 171 [.str ⟨#[]⟩,.str ⟨#[]⟩] fun v2 S=>caW PG S (.func (.func 85) [] []) [v0] (fun v5 S=>bdW [.str ⟨#[]⟩,.str ⟨#[]⟩] [(0,1,v5)] fun v6=>alW S 171 [.str ⟨#[]⟩,.str ⟨#[]⟩] fun v3 S=>stW S 2 v3 v6 fun S=>caW PG S (.func (.func 84) [] []) [v0,(.str ⟨#[35]⟩)] (fun v8 S=>cnW v8 (caW PG S (.func (.func 85) [] []) [v0] (fun v10 S=>faW 1 v3 fun v11=>stW S 1 v11 v10 fun S=>C131_1 QF v2 v3 S) (pqW QF)) (C131_1 QF v2 v3 S)) (pqW QF)) (pqW QF)
theorem wx131 {QF:AEnd→q00→Prop} {v0:AV} {S:q00} (h:Bx131 QF v0 S):ACalls PG nrx131 [v0] S QF:=
 q04 (F:=tfx131) (by kernel_rfl) rfl (by kernel_rfl) h
def tfx132:TFunc where
 n:=48
 args:=1
 res:=[.cell 2 4 true]
 code:=.seq (.reg [i1 2 (.alloc 51 [.int .i64 0,.str ⟨#[]⟩,.str ⟨#[]⟩,.nils])] [0,2] []) (.seq (.reg [im 7 0,i1 8 (.call (.f 171) [.t 7]),i1 3 (.alloc 51 [.int .i64 0,.str ⟨#[]⟩,.str ⟨#[]⟩,.nils]),i0 (.store 4 (.t 3) (.t 8))] [0,2,3] []) (.seq (.block 0 (.loop [0,2,3] (.seq (.seq (.reg [im 9 0,i1 10 (.nilck (.t 9)),ia 11 3 10,ia 12 2 11,il 13 1 12,i1 14 (.bin .eql (.t 13) (.c (.int .i64 0))),im 15 14,
  .grp 15 true [s1 16 (.mov (.t 0)),s1 17 (.call (.f 87) [.t 16]),s1 18 (.field 0 1 false (.t 17)),s1 19 (.bin .eql (.t 18) (.c (.str ⟨#[43]⟩))),s1 20 (.mov (.t 19))],
  .grp 20 false [s1 21 (.mov (.t 0)),s1 22 (.call (.f 87) [.t 21]),s1 23 (.field 0 1 false (.t 22)),s1 24 (.bin .eql (.t 23) (.c (.str ⟨#[45]⟩)))],
  .grp 15 true [s1 25 (.pick (.t 20) (.c (.bool true)) (.t 24))],i1 26 (.pick (.t 15) (.t 25) (.c (.bool false)))] [0,2,3,26] []) (.cond (.t 26) (.skip) (.exit 0))) (.block 1 (.seq (.reg [im 27 0,i1 28 (.call (.f 87) [.t 27]),
  .box2 4 149 [.str ⟨#[]⟩,.int .i64 0,.int .i64 0] 3 (.t 28)] [0,2,3,4] []) (.seq (.reg [i1 5 (.mov (.c (.int .i64 2)))] [0,2,3,4,5] []) (.seq (.seq (.reg [ia 29 0 4,il 30 1 29,i1 31 (.bin .eql (.t 30) (.c (.str ⟨#[45]⟩)))] [0,2,3,4,5,31] []) (.cond (.t 31) (.reg [i1 5 (.mov (.c (.int .i64 4)))] [0,2,3,4,5] []) (.skip))) (.seq (.reg [im 32 0,i1 33 (.nilck (.t 32)),ia 34 1 33,il 35 1 34,i1 36 (.bin .add (.t 35) (.c (.int .i64 1))),i1 37 (.nilck (.t 32)),ia 38 1 37,i0 (.store 1 (.t 38) (.t 36))] [0,2,3,4,5] []) (.seq (.reg [im 39 0,i1 40 (.call (.f 171) [.t 39]),
  .box2 6 51 [.int .i64 0,.str ⟨#[]⟩,.str ⟨#[]⟩,.nils] 4 (.t 40)] [0,2,3,4,5,6] []) (.reg [im 41 0,im 42 5,iL 43 3 4,iL 44 4 3,iL 45 4 6,i1 46 (.call (.f 172) [.t 41,.t 42,.t 43,.t 44,.t 45]),i0 (.store 4 (.t 3) (.t 46))] [0,2,3] [])))))))))) (.seq (.reg [iL 47 4 3,i0 (.store 4 (.t 2) (.t 47))] [2] [2]) (.ret))))
abbrev nrx132:Nat:=132
def C132_5 (QF:AEnd→q00→Prop) (r0:LE→q00→Prop) (v0 v2 v3 v4 v5:AV) (S:q00):Prop:=nkW v0 fun v33=>faW 1 v33 fun v34=>ldW S 1 false v34 fun v35=>biW .add v35 (.int .i64 1) fun v36=>nkW v0 fun v37=>faW 1 v37 fun v38=>stW S 1 v38 v36 fun S=>caW PG S (.func (.func 171) [] []) [v0] (fun v40 S=>bfW 4 v40 fun v6=>ldW S 3 true v4 fun v43=>ldW S 4 true v3 fun v44=>ldW S 4 true v6 fun v45=>caW PG S (.func (.func 172) [] []) [v0,v5,v43,v44,v45] (fun v46 S=>stW S 4 v3 v46 fun S=>rcW r0 [(0,v0),(2,v2),(3,v3)] S) (pqW QF)) (pqW QF)
def C132_4 (QF:AEnd→q00→Prop) (r0:LE→q00→Prop) (v0 v2 v3 v26:AV) (S:q00):Prop:=cnW v26 (caW PG S (.func (.func 87) [] []) [v0] (fun v28 S=>bfW 3 v28 fun v4=>faW 0 v4 fun v29=>ldW S 1 false v29 fun v30=>biW .eql v30 (.str ⟨#[45]⟩) fun v31=>cnW v31 (C132_5 QF r0 v0 v2 v3 v4 (.int .i64 4) S) (C132_5 QF r0 v0 v2 v3 v4 (.int .i64 2) S)) (pqW QF)) (ldW S 4 true v3 fun v47=>stW S 4 v2 v47 fun S=>fzW S v2 fun v2 S=>rtW [.cell v2 4 true] QF S)
def C132_3 (QF:AEnd→q00→Prop) (r0:LE→q00→Prop) (v0 v2 v3 v15 v20 v24:AV) (S:q00):Prop:=grW v15 true (pkW v20 (.bool true) v24 fun v25=>pkW v15 v25 (.bool false) fun v26=>C132_4 QF r0 v0 v2 v3 v26 S) (pkW v15 q06 (.bool false) fun v26=>C132_4 QF r0 v0 v2 v3 v26 S)
def C132_2 (QF:AEnd→q00→Prop) (r0:LE→q00→Prop) (v0 v2 v3 v15 v20:AV) (S:q00):Prop:=grW v20 false (caW PG S (.func (.func 87) [] []) [v0] (fun v22 S=>fdW 0 1 false v22 fun v23=>biW .eql v23 (.str ⟨#[45]⟩) fun v24=>C132_3 QF r0 v0 v2 v3 v15 v20 v24 S) (pqW QF)) (C132_3 QF r0 v0 v2 v3 v15 v20 q06 S)
def C132_1 (QF:AEnd→q00→Prop) (r0:LE→q00→Prop) (v0 v2 v3:AV) (S:q00):Prop:=nkW v0 fun v10=>faW 3 v10 fun v11=>faW 2 v11 fun v12=>ldW S 1 false v12 fun v13=>biW .eql v13 (.int .i64 0) fun v14=>grW v14 true (caW PG S (.func (.func 87) [] []) [v0] (fun v17 S=>fdW 0 1 false v17 fun v18=>biW .eql v18 (.str ⟨#[43]⟩) fun v19=>C132_2 QF r0 v0 v2 v3 v14 v19 S) (pqW QF)) (C132_2 QF r0 v0 v2 v3 v14 q06 S)
def Bx132 (QF:AEnd→q00→Prop) (v0:AV) (S:q00):Prop:=alW S 51 [.int .i64 0,.str ⟨#[]⟩,.str ⟨#[]⟩,.nils] fun v2 S=>caW PG S (.func (.func 171) [] []) [v0] (fun v8 S=>alW S 51 [.int .i64 0,.str ⟨#[]⟩,.str ⟨#[]⟩,.nils] fun v3 S=>stW S 4 v3 v8 fun S=>LoopP (fun r0 l S=>C132_1 QF r0 (lget l 0) (lget l 2) (lget l 3) S) [(0,v0),(2,v2),(3,v3)] S) (pqW QF)
theorem wx132 {QF:AEnd→q00→Prop} {v0:AV} {S:q00} (h:Bx132 QF v0 S):ACalls PG nrx132 [v0] S QF:=
 q04 (F:=tfx132) (by kernel_rfl) rfl (by kernel_rfl) h
def tfx133:TFunc where
 n:=27
 args:=2
 res:=[.tmp 4,.tmp 5,.tmp 6]
 code:=.seq (.reg [i1 4 (.mov (.c (.str ⟨#[]⟩))),i1 5 (.mov (.c (.str ⟨#[]⟩))),i1 6 (.mov (.c (.bool false)))] [0,1] []) (.seq (.seq (.reg [i1 7 (.mov (.c (.int .i64 0)))] [0,1,7] []) (.block 0 (.loop [0,1,7] (.seq (.seq (.reg [im 8 7,im 9 0,i1 10 (.len 0 (.t 9)),i1 11 (.bin .lss (.t 8) (.t 10))] [0,1,7,11] []) (.cond (.t 11) (.skip) (.exit 0))) (.seq (.block 1 (.seq (.reg [im 14 0,im 15 7,i1 16 (.idxs (.t 14) (.t 15)),im 17 1,i1 18 (.bin .eql (.t 16) (.t 17))] [0,1,7,18] []) (.cond (.t 18) (.seq (.regl [0,1,2,3,4,5,6,7,8,9] [im 19 0,im 20 7,i1 21 (.slics (.t 19) none (some (.t 20))),im 22 0,im 23 7,i1 24 (.bin .add (.t 23) (.c (.int .i64 1))),i1 25 (.slics (.t 22) (some (.t 24)) none),im 4 21,im 5 25,i1 6 (.mov (.c (.bool true)))] [4,5,6] []) (.ret)) (.skip)))) (.reg [im 12 7,i1 13 (.bin .add (.t 12) (.c (.int .i64 1))),im 7 13] [0,1,7] [])))))) (.seq (.reg [im 26 0,im 4 26,i1 5 (.mov (.c (.str ⟨#[]⟩))),i1 6 (.mov (.c (.bool false)))] [4,5,6] []) (.ret)))
abbrev nrx133:Nat:=133
def C133_1 (QF:AEnd→q00→Prop) (r0:LE→q00→Prop) (v0 v1 v7:AV) (S:q00):Prop:=lnW S 0 v0 fun v10=>biW .lss v7 v10 fun v11=>cnW v11 (isW v0 v7 fun v16=>biW .eql v16 v1 fun v18=>cnW v18 (ssW v0 none (some v7) fun v21=>biW .add v7 (.int .i64 1) fun v24=>ssW v0 (some v24) none fun v25=>rtW [.tmp v21,.tmp v25,.tmp (.bool true)] QF S) (biW .add v7 (.int .i64 1) fun v13=>rcW r0 [(0,v0),(1,v1),(7,v13)] S)) (rtW [.tmp v0,.tmp (.str ⟨#[]⟩),.tmp (.bool false)] QF S)
def Bx133 (QF:AEnd→q00→Prop) (v0 v1:AV) (S:q00):Prop:=LoopP (fun r0 l S=>C133_1 QF r0 (lget l 0) (lget l 1) (lget l 7) S) [(0,v0),(1,v1),(7,(.int .i64 0))] S
theorem wx133 {QF:AEnd→q00→Prop} {v0 v1:AV} {S:q00} (h:Bx133 QF v0 v1 S):ACalls PG nrx133 [v0,v1] S QF:=
 q04 (F:=tfx133) (by kernel_rfl) rfl (by kernel_rfl) h
def tfx134:TFunc where
 n:=33
 args:=1
 res:=[.cell 2 2 true,.tmp 3]
 code:=.seq (.reg [i1 2 (.alloc 27 [.str ⟨#[]⟩,.str ⟨#[]⟩]),i1 3 (.mov (.c (.bool false)))] [0,2] []) (.seq (.reg [im 10 0,i1 11 (.call (.f 133) [.t 10,.c (.int .u8 58)]),im 9 11,i1 12 (.extr (.t 9) 0),i1 13 (.extr (.t 9) 1),i1 14 (.extr (.t 9) 2),im 4 12,im 5 13,im 6 14] [2,4,5,6] []) (.seq (.reg [im 15 4,i1 16 (.call (.f 78) [.t 15]),im 7 16] [2,4,5,6,7] []) (.seq (.reg [im 17 5,i1 18 (.call (.f 79) [.t 17]),im 8 18] [2,4,5,6,7,8] []) (.seq (.seq (.reg [im 19 6,i1 20 (.not (.t 19)),im 21 20,
  .grp 21 false [s1 22 (.mov (.t 7)),s1 23 (.not (.t 22))],i1 24 (.pick (.t 21) (.c (.bool true)) (.t 23)),im 25 24,
  .grp 25 false [s1 26 (.mov (.t 8)),s1 27 (.not (.t 26))],i1 28 (.pick (.t 25) (.c (.bool true)) (.t 27))] [2,4,5,28] []) (.cond (.t 28) (.seq (.reg [i1 29 (.build [.str ⟨#[]⟩,.str ⟨#[]⟩] []),i0 (.store 2 (.t 2) (.t 29)),i1 3 (.mov (.c (.bool false)))] [2,3] []) (.ret)) (.skip))) (.seq (.reg [im 30 4,im 31 5,i1 32 (.build [.str ⟨#[]⟩,.str ⟨#[]⟩] [(0,1,.t 30),(1,1,.t 31)]),i0 (.store 2 (.t 2) (.t 32)),i1 3 (.mov (.c (.bool true)))] [2,3] []) (.ret))))))
abbrev nrx134:Nat:=134
def C134_2 (QF:AEnd→q00→Prop) (v2 v4 v5 v28:AV) (S:q00):Prop:=cnW v28 (bdW [.str ⟨#[]⟩,.str ⟨#[]⟩] [] fun v29=>stW S 2 v2 v29 fun S=>rtW [.cell v2 2 true,.tmp (.bool false)] QF S) (bdW [.str ⟨#[]⟩,.str ⟨#[]⟩] [(0,1,v4),(1,1,v5)] fun v32=>stW S 2 v2 v32 fun S=>rtW [.cell v2 2 true,.tmp (.bool true)] QF S)
def C134_1 (QF:AEnd→q00→Prop) (v2 v4 v5 v8 v24:AV) (S:q00):Prop:=grW v24 false (ntW v8 fun v27=>pkW v24 (.bool true) v27 fun v28=>C134_2 QF v2 v4 v5 v28 S) (pkW v24 (.bool true) q06 fun v28=>C134_2 QF v2 v4 v5 v28 S)
def Bx134 (QF:AEnd→q00→Prop) (v0:AV) (S:q00):Prop:=alW S 27 [.str ⟨#[]⟩,.str ⟨#[]⟩] fun v2 S=>caW PG S (.func (.func 133) [] []) [v0,(.int .u8 58)] (fun v11 S=>exW 0 v11 fun v12=>exW 1 v11 fun v13=>exW 2 v11 fun v14=>caW PG S (.func (.func 78) [] []) [v12] (fun v16 S=>caW PG S (.func (.func 79) [] []) [v13] (fun v18 S=>ntW v14 fun v20=>grW v20 false (ntW v16 fun v23=>pkW v20 (.bool true) v23 fun v24=>C134_1 QF v2 v12 v13 v18 v24 S) (pkW v20 (.bool true) q06 fun v24=>C134_1 QF v2 v12 v13 v18 v24 S)) (pqW QF)) (pqW QF)) (pqW QF)
theorem wx134 {QF:AEnd→q00→Prop} {v0:AV} {S:q00} (h:Bx134 QF v0 S):ACalls PG nrx134 [v0] S QF:=
 q04 (F:=tfx134) (by kernel_rfl) rfl (by kernel_rfl) h
def tfx135:TFunc where
 n:=36
 args:=1
 res:=[.cell 2 3 true,.tmp 3]
 code:=.seq (.reg [i1 2 (.alloc 39 [.str ⟨#[]⟩,.str ⟨#[]⟩,.str ⟨#[]⟩]),i1 3 (.mov (.c (.bool false)))] [0,2] []) (.seq (.reg [im 11 0,i1 12 (.call (.f 133) [.t 11,.c (.int .u8 35)]),im 10 12,i1 13 (.extr (.t 10) 0),i1 14 (.extr (.t 10) 1),i1 15 (.extr (.t 10) 2),im 4 13,im 5 14,im 6 15] [2,4,5,6] []) (.seq (.reg [im 17 4,i1 18 (.call (.f 134) [.t 17]),im 16 18,i1 19 (.extr (.t 16) 0),i1 20 (.extr (.t 16) 1),
  .box2 7 27 [.str ⟨#[]⟩,.str ⟨#[]⟩] 2 (.t 19),im 8 20] [2,5,6,7,8] []) (.seq (.reg [im 21 5,i1 22 (.call (.f 78) [.t 21]),im 9 22] [2,5,6,7,8,9] []) (.seq (.seq (.reg [im 23 8,i1 24 (.not (.t 23)),im 25 24,
  .grp 25 false [s1 26 (.mov (.t 6)),s1 27 (.mov (.t 26))],
  .grp 27 true [s1 28 (.mov (.t 9)),s1 29 (.not (.t 28))],
  .grp 25 false [s1 30 (.pick (.t 27) (.t 29) (.c (.bool false)))],i1 31 (.pick (.t 25) (.c (.bool true)) (.t 30))] [2,5,7,31] []) (.cond (.t 31) (.seq (.reg [i1 32 (.build [.str ⟨#[]⟩,.str ⟨#[]⟩,.str ⟨#[]⟩] []),i0 (.store 3 (.t 2) (.t 32)),i1 3 (.mov (.c (.bool false)))] [2,3] []) (.ret)) (.skip))) (.seq (.reg [iL 33 2 7,im 34 5,i1 35 (.build [.str ⟨#[]⟩,.str ⟨#[]⟩,.str ⟨#[]⟩] [(0,2,.t 33),(2,1,.t 34)]),i0 (.store 3 (.t 2) (.t 35)),i1 3 (.mov (.c (.bool true)))] [2,3] []) (.ret))))))
abbrev nrx135:Nat:=135
def C135_3 (QF:AEnd→q00→Prop) (v2 v5 v7 v31:AV) (S:q00):Prop:=cnW v31 (bdW [.str ⟨#[]⟩,.str ⟨#[]⟩,.str ⟨#[]⟩] [] fun v32=>stW S 3 v2 v32 fun S=>rtW [.cell v2 3 true,.tmp (.bool false)] QF S) (ldW S 2 true v7 fun v33=>bdW [.str ⟨#[]⟩,.str ⟨#[]⟩,.str ⟨#[]⟩] [(0,2,v33),(2,1,v5)] fun v35=>stW S 3 v2 v35 fun S=>rtW [.cell v2 3 true,.tmp (.bool true)] QF S)
def C135_2 (QF:AEnd→q00→Prop) (v2 v5 v7 v25 v27 v29:AV) (S:q00):Prop:=grW v25 false (pkW v27 v29 (.bool false) fun v30=>pkW v25 (.bool true) v30 fun v31=>C135_3 QF v2 v5 v7 v31 S) (pkW v25 (.bool true) q06 fun v31=>C135_3 QF v2 v5 v7 v31 S)
def C135_1 (QF:AEnd→q00→Prop) (v2 v5 v7 v9 v25 v27:AV) (S:q00):Prop:=grW v27 true (ntW v9 fun v29=>C135_2 QF v2 v5 v7 v25 v27 v29 S) (C135_2 QF v2 v5 v7 v25 v27 q06 S)
def Bx135 (QF:AEnd→q00→Prop) (v0:AV) (S:q00):Prop:=alW S 39 [.str ⟨#[]⟩,.str ⟨#[]⟩,.str ⟨#[]⟩] fun v2 S=>caW PG S (.func (.func 133) [] []) [v0,(.int .u8 35)] (fun v12 S=>exW 0 v12 fun v13=>exW 1 v12 fun v14=>exW 2 v12 fun v15=>caW PG S (.func (.func 134) [] []) [v13] (fun v18 S=>exW 0 v18 fun v19=>exW 1 v18 fun v20=>bfW 2 v19 fun v7=>caW PG S (.func (.func 78) [] []) [v14] (fun v22 S=>ntW v20 fun v24=>grW v24 false (C135_1 QF v2 v14 v7 v22 v24 v15 S) (C135_1 QF v2 v14 v7 v22 v24 q06 S)) (pqW QF)) (pqW QF)) (pqW QF)
theorem wx135 {QF:AEnd→q00→Prop} {v0:AV} {S:q00} (h:Bx135 QF v0 S):ACalls PG nrx135 [v0] S QF:=
 q04 (F:=tfx135) (by kernel_rfl) rfl (by kernel_rfl) h
def tfx136:TFunc where
 n:=22
 args:=1
 res:=[.tmp 2]
 code:=.seq (.reg [i1 1 (.boxr 24 1 (.t 0)),i1 2 (.mov (.c (.bool false)))] [1] []) (.seq (.seq (.reg [ia 5 0 1,il 6 1 5,i1 7 (.len 1 (.t 6)),i1 8 (.mov (.c (.int .i64 0)))] [6,7,8] []) (.block 0 (.loop [6,7,8] (.seq (.reg [i1 9 (.bin .lss (.t 8) (.t 7))] [6,7,8,9] []) (.seq (.cond (.t 9) (.skip) (.exit 0)) (.seq (.block 1 (.seq (.reg [i1 10 (.iaddr 2 (.t 6) (.t 8)),iL 11 2 10,
  .box2 4 46 [.str ⟨#[]⟩,.nils] 2 (.t 11)] [4,6,7,8] []) (.seq (.reg [ia 12 0 4,il 13 1 12,i1 14 (.call (.f 144) [.t 13]),i1 15 (.not (.t 14)),im 16 15,
  .grp 16 false [s1 17 (.faddr 1 (.t 4)),s1 18 (.load 1 false (.t 17)),s1 19 (.call (.f 173) [.t 18,.f 174])],i1 20 (.pick (.t 16) (.c (.bool true)) (.t 19))] [6,7,8,20] []) (.cond (.t 20) (.seq (.reg [i1 2 (.mov (.c (.bool false)))] [2] []) (.ret)) (.skip))))) (.reg [i1 21 (.bin .add (.t 8) (.c (.int .i64 1))),im 8 21] [6,7,8] []))))))) (.seq (.reg [i1 2 (.mov (.c (.bool true)))] [2] []) (.ret)))
abbrev nrx136:Nat:=136
def C136_1 (QF:AEnd→q00→Prop) (r0:LE→q00→Prop) (v6 v7 v8:AV) (S:q00):Prop:=biW .lss v8 v7 fun v9=>cnW v9 (iaW 2 v6 v8 fun v10=>ldW S 2 true v10 fun v11=>bfW 2 v11 fun v4=>faW 0 v4 fun v12=>ldW S 1 false v12 fun v13=>caW PG S (.func (.func 144) [] []) [v13] (fun v14 S=>ntW v14 fun v15=>grW v15 false (faW 1 v4 fun v17=>ldW S 1 false v17 fun v18=>caW PG S (.func (.func 173) [] []) [v18,(.func (.func 174) [] [])] (fun v19 S=>pkW v15 (.bool true) v19 fun v20=>cnW v20 (rtW [.tmp (.bool false)] QF S) (biW .add v8 (.int .i64 1) fun v21=>rcW r0 [(6,v6),(7,v7),(8,v21)] S)) (pqW QF)) (pkW v15 (.bool true) q06 fun v20=>cnW v20 (rtW [.tmp (.bool false)] QF S) (biW .add v8 (.int .i64 1) fun v21=>rcW r0 [(6,v6),(7,v7),(8,v21)] S))) (pqW QF)) (rtW [.tmp (.bool true)] QF S)
def Bx136 (QF:AEnd→q00→Prop) (v0:AV) (S:q00):Prop:=brW 1 v0 fun v1=>faW 0 v1 fun v5=>ldW S 1 false v5 fun v6=>lnW S 1 v6 fun v7=>LoopP (fun r0 l S=>C136_1 QF r0 (lget l 6) (lget l 7) (lget l 8) S) [(6,v6),(7,v7),(8,(.int .i64 0))] S
theorem wx136 {QF:AEnd→q00→Prop} {v0:AV} {S:q00} (h:Bx136 QF v0 S):ACalls PG nrx136 [v0] S QF:=
 q04 (F:=tfx136) (by kernel_rfl) rfl (by kernel_rfl) h
def tfx137:TFunc where
 n:=54
 args:=1
 res:=[.cell 2 3 true]
 code:=.seq (.reg [i1 1 (.boxr 24 1 (.t 0)),i1 2 (.alloc 88 [.int .i64 0,.int .i64 0,.int .i64 0])] [1,2] []) (.seq (.reg [i1 6 (.build [.int .i64 0,.int .i64 0,.int .i64 0] [(1,1,.c (.int .i64 (-1))),(2,1,.c (.int .i64 2))]),i1 3 (.alloc 88 [.int .i64 0,.int .i64 0,.int .i64 0]),i0 (.store 3 (.t 3) (.t 6))] [1,2,3] []) (.seq (.seq (.reg [ia 7 0 1,il 8 1 7,i1 9 (.len 1 (.t 8)),i1 10 (.bin .gtr (.t 9) (.c (.int .i64 16)))] [1,2,3,10] []) (.cond (.t 10) (.seq (.reg [iL 11 3 3,i0 (.store 3 (.t 2) (.t 11))] [2] []) (.ret)) (.skip))) (.seq (.seq (.reg [ia 12 0 1,il 13 1 12,i1 14 (.len 1 (.t 13)),i1 15 (.mov (.c (.int .i64 0)))] [1,2,3,14,15] []) (.block 0 (.loop [1,2,3,14,15] (.seq (.reg [i1 16 (.bin .lss (.t 15) (.t 14))] [1,2,3,14,15,16] []) (.seq (.cond (.t 16) (.skip) (.exit 0)) (.seq (.block 1 (.seq (.reg [im 17 15,ia 18 0 3,i0 (.store 1 (.t 18) (.t 17))] [1,2,3,14,15] []) (.seq (.reg [ia 19 0 1,il 20 1 19,ia 21 0 3,il 22 1 21,i1 23 (.iaddr 2 (.t 20) (.t 22)),ia 24 1 23,il 25 1 24,i1 26 (.len 1 (.t 25)),i1 27 (.bin .gtr (.t 26) (.c (.int .i64 16)))] [1,2,3,14,15,27] []) (.cond (.t 27) (.seq (.reg [iL 28 3 3,i0 (.store 3 (.t 2) (.t 28))] [2] []) (.ret)) (.skip))))) (.reg [i1 29 (.bin .add (.t 15) (.c (.int .i64 1))),im 15 29] [1,2,3,14,15] []))))))) (.seq (.reg [ia 30 2 3,i0 (.store 1 (.t 30) (.c (.int .i64 7)))] [1,2,3] []) (.seq (.reg [i1 31 (.mkmap (false,[.str])),im 4 31] [1,2,3,4] []) (.seq (.seq (.reg [ia 32 0 1,il 33 1 32,i1 34 (.len 1 (.t 33)),i1 35 (.mov (.c (.int .i64 0)))] [1,2,3,4,34,35] []) (.block 2 (.loop [1,2,3,4,34,35] (.seq (.reg [i1 36 (.bin .lss (.t 35) (.t 34))] [1,2,3,4,34,35,36] []) (.seq (.cond (.t 36) (.skip) (.exit 2)) (.seq (.block 3 (.seq (.reg [im 37 35,ia 38 0 3,i0 (.store 1 (.t 38) (.t 37))] [1,2,3,4,34,35] []) (.seq (.reg [ia 39 0 1,il 40 1 39,ia 41 0 3,il 42 1 41,i1 43 (.iaddr 2 (.t 40) (.t 42)),ia 44 0 43,il 45 1 44,im 5 45] [1,2,3,4,5,34,35] []) (.seq (.seq (.reg [im 46 4,im 47 5,i1 48 (.lookup (false,[.str]) false (.bool false) (.t 46) (.t 47))] [1,2,3,4,5,34,35,48] []) (.cond (.t 48) (.seq (.reg [iL 49 3 3,i0 (.store 3 (.t 2) (.t 49))] [2] []) (.ret)) (.skip))) (.reg [im 50 4,im 51 5,i0 (.mupd (false,[.str]) (.t 50) (.t 51) (.c (.bool true)))] [1,2,3,4,34,35] []))))) (.reg [i1 52 (.bin .add (.t 35) (.c (.int .i64 1))),im 35 52] [1,2,3,4,34,35] []))))))) (.seq (.reg [i1 53 (.build [.int .i64 0,.int .i64 0,.int .i64 0] []),i0 (.store 3 (.t 2) (.t 53))] [2] []) (.ret))))))))
abbrev nrx137:Nat:=137
def C137_2 (QF:AEnd→q00→Prop) (r0:LE→q00→Prop) (v1 v2 v3 v4 v34 v35:AV) (S:q00):Prop:=biW .lss v35 v34 fun v36=>cnW v36 (faW 0 v3 fun v38=>stW S 1 v38 v35 fun S=>faW 0 v1 fun v39=>ldW S 1 false v39 fun v40=>faW 0 v3 fun v41=>ldW S 1 false v41 fun v42=>iaW 2 v40 v42 fun v43=>faW 0 v43 fun v44=>ldW S 1 false v44 fun v45=>lkW S (false,[.str]) false (.bool false) v4 v45 fun v48=>cnW v48 (ldW S 3 true v3 fun v49=>stW S 3 v2 v49 fun S=>rtW [.cell v2 3 true] QF S) (muW S (false,[.str]) v4 v45 (.bool true) fun S=>biW .add v35 (.int .i64 1) fun v52=>rcW r0 [(1,v1),(2,v2),(3,v3),(4,v4),(34,v34),(35,v52)] S)) (bdW [.int .i64 0,.int .i64 0,.int .i64 0] [] fun v53=>stW S 3 v2 v53 fun S=>rtW [.cell v2 3 true] QF S)
def C137_1 (QF:AEnd→q00→Prop) (r0:LE→q00→Prop) (v1 v2 v3 v14 v15:AV) (S:q00):Prop:=biW .lss v15 v14 fun v16=>cnW v16 (faW 0 v3 fun v18=>stW S 1 v18 v15 fun S=>faW 0 v1 fun v19=>ldW S 1 false v19 fun v20=>faW 0 v3 fun v21=>ldW S 1 false v21 fun v22=>iaW 2 v20 v22 fun v23=>faW 1 v23 fun v24=>ldW S 1 false v24 fun v25=>lnW S 1 v25 fun v26=>biW .gtr v26 (.int .i64 16) fun v27=>cnW v27 (ldW S 3 true v3 fun v28=>stW S 3 v2 v28 fun S=>rtW [.cell v2 3 true] QF S) (biW .add v15 (.int .i64 1) fun v29=>rcW r0 [(1,v1),(2,v2),(3,v3),(14,v14),(15,v29)] S)) (faW 2 v3 fun v30=>stW S 1 v30 (.int .i64 7) fun S=>mmW S (false,[.str]) fun v31 S=>faW 0 v1 fun v32=>ldW S 1 false v32 fun v33=>lnW S 1 v33 fun v34=>LoopP (fun r0 l S=>C137_2 QF r0 (lget l 1) (lget l 2) (lget l 3) (lget l 4) (lget l 34) (lget l 35) S) [(1,v1),(2,v2),(3,v3),(4,v31),(34,v34),(35,(.int .i64 0))] S)
def Bx137 (QF:AEnd→q00→Prop) (v0:AV) (S:q00):Prop:=brW 1 v0 fun v1=>alW S 88 [.int .i64 0,.int .i64 0,.int .i64 0] fun v2 S=>bdW [.int .i64 0,.int .i64 0,.int .i64 0] [(1,1,(.int .i64 (-1))),(2,1,(.int .i64 2))] fun v6=>alW S 88 [.int .i64 0,.int .i64 0,.int .i64 0] fun v3 S=>stW S 3 v3 v6 fun S=>faW 0 v1 fun v7=>ldW S 1 false v7 fun v8=>lnW S 1 v8 fun v9=>biW .gtr v9 (.int .i64 16) fun v10=>cnW v10 (ldW S 3 true v3 fun v11=>stW S 3 v2 v11 fun S=>rtW [.cell v2 3 true] QF S) (faW 0 v1 fun v12=>ldW S 1 false v12 fun v13=>lnW S 1 v13 fun v14=>LoopP (fun r0 l S=>C137_1 QF r0 (lget l 1) (lget l 2) (lget l 3) (lget l 14) (lget l 15) S) [(1,v1),(2,v2),(3,v3),(14,v14),(15,(.int .i64 0))] S)
theorem wx137 {QF:AEnd→q00→Prop} {v0:AV} {S:q00} (h:Bx137 QF v0 S):ACalls PG nrx137 [v0] S QF:=
 q04 (F:=tfx137) (by kernel_rfl) rfl (by kernel_rfl) h
def tfx138:TFunc where
 n:=22
 args:=4
 res:=[.tmp 7]
 code:=.seq (.reg [i1 4 (.boxr 163 2 (.t 0)),i1 5 (.boxr 46 2 (.t 1)),i1 6 (.boxr 53 6 (.t 2)),i1 7 (.mov (.c (.int .i64 0)))] [3,4,5,6] []) (.seq (.seq (.reg [il 11 1 3,ia 12 0 5,il 13 1 12,ia 14 0 6,il 15 1 14,i1 16 (.call (.f 96) [.t 11,.t 13,.t 15]),im 10 16,i1 17 (.extr (.t 10) 0),i1 18 (.extr (.t 10) 1),
  .box2 8 163 [.int .i64 0,.int .i64 0] 2 (.t 17),im 9 18] [4,8] []) (.seq (.reg [iL 19 2 8,iL 20 2 4,i1 21 (.eqp true (true,[.int .i64,.int .i64]) (.t 19) (.t 20))] [21] []) (.cond (.t 21) (.seq (.reg [i1 7 (.mov (.c (.int .i64 7)))] [7] []) (.ret)) (.skip)))) (.seq (.reg [i1 7 (.mov (.c (.int .i64 0)))] [7] []) (.ret)))
abbrev nrx138:Nat:=138
def Bx138 (QF:AEnd→q00→Prop) (v0 v1 v2 v3:AV) (S:q00):Prop:=brW 2 v0 fun v4=>brW 2 v1 fun v5=>brW 6 v2 fun v6=>ldW S 1 false v3 fun v11=>faW 0 v5 fun v12=>ldW S 1 false v12 fun v13=>faW 0 v6 fun v14=>ldW S 1 false v14 fun v15=>caW PG S (.func (.func 96) [] []) [v11,v13,v15] (fun v16 S=>exW 0 v16 fun v17=>exW 1 v16 fun v18=>bfW 2 v17 fun v8=>ldW S 2 true v8 fun v19=>ldW S 2 true v4 fun v20=>eqW true (true,[.int .i64,.int .i64]) v19 v20 fun v21=>cnW v21 (rtW [.tmp (.int .i64 7)] QF S) (rtW [.tmp (.int .i64 0)] QF S)) (pqW QF)
theorem wx138 {QF:AEnd→q00→Prop} {v0 v1 v2 v3:AV} {S:q00} (h:Bx138 QF v0 v1 v2 v3 S):ACalls PG nrx138 [v0,v1,v2,v3] S QF:=
 q04 (F:=tfx138) (by kernel_rfl) rfl (by kernel_rfl) h
def tfx139:TFunc where
 n:=13
 args:=4
 res:=[.tmp 7]
 code:=.seq (.reg [i1 4 (.boxr 163 2 (.t 0)),i1 5 (.boxr 46 2 (.t 1)),i1 6 (.boxr 53 6 (.t 2)),i1 7 (.mov (.c (.int .i64 0)))] [3,5,6] []) (.seq (.reg [il 8 1 3,ia 9 0 5,il 10 1 9,iL 11 6 6,i1 12 (.call (.f 140) [.t 8,.t 10,.t 11]),im 7 12] [7] []) (.ret))
abbrev nrx139:Nat:=139
def Bx139 (QF:AEnd→q00→Prop) (v0 v1 v2 v3:AV) (S:q00):Prop:=brW 2 v0 fun v4=>brW 2 v1 fun v5=>brW 6 v2 fun v6=>ldW S 1 false v3 fun v8=>faW 0 v5 fun v9=>ldW S 1 false v9 fun v10=>ldW S 6 true v6 fun v11=>caW PG S (.func (.func 140) [] []) [v8,v10,v11] (fun v12 S=>rtW [.tmp v12] QF S) (pqW QF)
theorem wx139 {QF:AEnd→q00→Prop} {v0 v1 v2 v3:AV} {S:q00} (h:Bx139 QF v0 v1 v2 v3 S):ACalls PG nrx139 [v0,v1,v2,v3] S QF:=
 q04 (F:=tfx139) (by kernel_rfl) rfl (by kernel_rfl) h
def tfx140:TFunc where
 n:=61
 args:=3
 res:=[.tmp 6]
 code:=.seq (.reg [i1 3 (.boxr 155 1 (.t 0)),i1 4 (.boxr 9 1 (.t 1)),i1 5 (.boxr 53 6 (.t 2)),i1 6 (.mov (.c (.int .i64 0)))] [3,4,5] []) (.seq (.reg [i1 7 (.alloc 30 [.int .i64 0]),i0 (.store 1 (.t 7) (.c (.int .i64 0)))] [3,4,5,7] []) (.seq (.seq (.reg [ia 14 1 5,il 15 1 14,i1 16 (.len 1 (.t 15)),i1 17 (.mov (.c (.int .i64 0)))] [3,4,5,7,15,16,17] []) (.block 0 (.loop [3,4,5,7,15,16,17] (.seq (.reg [i1 18 (.bin .lss (.t 17) (.t 16))] [3,4,5,7,15,16,17,18] []) (.seq (.cond (.t 18) (.skip) (.exit 0)) (.seq (.block 1 (.seq (.reg [i1 19 (.iaddr 2 (.t 15) (.t 17)),iL 20 2 19,
  .box2 9 171 [.str ⟨#[]⟩,.str ⟨#[]⟩] 2 (.t 20)] [3,4,5,7,9,15,16,17] []) (.seq (.regl [4,0,1,2,3,5,6,7,8,9,10,11] [ia 26 0 9,il 22 1 3,i1 23 (.nilck (.t 22)),ia 24 1 23,il 25 1 24,il 27 1 26,i1 28 (.lookup (false,[.str]) true (.int .i64 0) (.t 25) (.t 27)),im 21 28,i1 29 (.extr (.t 21) 0),i1 30 (.extr (.t 21) 1),im 10 29,im 11 30] [3,4,5,7,9,11,15,16,17] []) (.seq (.reg [il 32 1 3,ia 33 0 9,il 34 1 33,ia 35 1 9,il 36 1 35,i1 37 (.call (.f 96) [.t 32,.t 34,.t 36]),im 31 37,i1 38 (.extr (.t 31) 0),i1 39 (.extr (.t 31) 1),
  .box2 12 163 [.int .i64 0,.int .i64 0] 2 (.t 38),im 13 39] [3,4,5,7,9,11,13,15,16,17] []) (.seq (.reg [im 40 11,i1 41 (.not (.t 40)),im 42 41,
  .grp 42 false [s1 43 (.faddr 1 (.t 9)),s1 44 (.load 1 false (.t 43)),s1 45 (.bin .neq (.t 44) (.c (.str ⟨#[]⟩))),s1 46 (.mov (.t 45))],
  .grp 46 true [s1 47 (.mov (.t 13)),s1 48 (.not (.t 47))],
  .grp 42 false [s1 49 (.pick (.t 46) (.t 48) (.c (.bool false)))],i1 50 (.pick (.t 42) (.c (.bool true)) (.t 49))] [3,4,5,7,15,16,17,50] []) (.cond (.t 50) (.seq (.reg [i1 6 (.mov (.c (.int .i64 6)))] [6] []) (.ret)) (.skip))))))) (.reg [i1 51 (.bin .add (.t 17) (.c (.int .i64 1))),im 17 51] [3,4,5,7,15,16,17] []))))))) (.seq (.seq (.reg [ia 52 1 5,il 53 1 52,i1 54 (.len 1 (.t 53)),i1 55 (.bin .eql (.t 54) (.c (.int .i64 0)))] [3,4,5,7,55] []) (.cond (.t 55) (.reg [ia 56 2 5,iL 57 4 56,i1 58 (.mkf (.func 177) [] [.t 3,.t 4,.t 7]),i1 59 (.call (.f 176) [.t 57,.c (.bool false),.t 58])] [7] []) (.skip))) (.seq (.reg [il 60 1 7,im 6 60] [6] []) (.ret)))))
abbrev nrx140:Nat:=140
def C140_4 (QF:AEnd→q00→Prop) (r0:LE→q00→Prop) (v3 v4 v5 v7 v15 v16 v17 v50:AV) (S:q00):Prop:=cnW v50 (rtW [.tmp (.int .i64 6)] QF S) (biW .add v17 (.int .i64 1) fun v51=>rcW r0 [(3,v3),(4,v4),(5,v5),(7,v7),(15,v15),(16,v16),(17,v51)] S)
def C140_3 (QF:AEnd→q00→Prop) (r0:LE→q00→Prop) (v3 v4 v5 v7 v15 v16 v17 v42 v46 v48:AV) (S:q00):Prop:=grW v42 false (pkW v46 v48 (.bool false) fun v49=>pkW v42 (.bool true) v49 fun v50=>C140_4 QF r0 v3 v4 v5 v7 v15 v16 v17 v50 S) (pkW v42 (.bool true) q06 fun v50=>C140_4 QF r0 v3 v4 v5 v7 v15 v16 v17 v50 S)
def C140_2 (QF:AEnd→q00→Prop) (r0:LE→q00→Prop) (v3 v4 v5 v7 v13 v15 v16 v17 v42 v46:AV) (S:q00):Prop:=grW v46 true (ntW v13 fun v48=>C140_3 QF r0 v3 v4 v5 v7 v15 v16 v17 v42 v46 v48 S) (C140_3 QF r0 v3 v4 v5 v7 v15 v16 v17 v42 v46 q06 S)
def C140_1 (QF:AEnd→q00→Prop) (r0:LE→q00→Prop) (v3 v4 v5 v7 v15 v16 v17:AV) (S:q00):Prop:=biW .lss v17 v16 fun v18=>cnW v18 (iaW 2 v15 v17 fun v19=>ldW S 2 true v19 fun v20=>bfW 2 v20 fun v9=>faW 0 v9 fun v26=>ldW S 1 false v3 fun v22=>nkW v22 fun v23=>faW 1 v23 fun v24=>ldW S 1 false v24 fun v25=>ldW S 1 false v26 fun v27=>lkW S (false,[.str]) true (.int .i64 0) v25 v27 fun v28=>exW 0 v28 fun v29=>exW 1 v28 fun v30=>ldW S 1 false v3 fun v32=>faW 0 v9 fun v33=>ldW S 1 false v33 fun v34=>faW 1 v9 fun v35=>ldW S 1 false v35 fun v36=>caW PG S (.func (.func 96) [] []) [v32,v34,v36] (fun v37 S=>exW 0 v37 fun v38=>exW 1 v37 fun v39=>bfW 2 v38 fun v12=>ntW v30 fun v41=>grW v41 false (faW 1 v9 fun v43=>ldW S 1 false v43 fun v44=>biW .neq v44 (.str ⟨#[]⟩) fun v45=>C140_2 QF r0 v3 v4 v5 v7 v39 v15 v16 v17 v41 v45 S) (C140_2 QF r0 v3 v4 v5 v7 v39 v15 v16 v17 v41 q06 S)) (pqW QF)) (faW 1 v5 fun v52=>ldW S 1 false v52 fun v53=>lnW S 1 v53 fun v54=>biW .eql v54 (.int .i64 0) fun v55=>cnW v55 (faW 2 v5 fun v56=>ldW S 4 true v56 fun v57=>caW PG S (.func (.func 176) [] []) [v57,(.bool false),(.func (.func 177) [] [v3,v4,v7])] (fun v59 S=>ldW S 1 false v7 fun v60=>rtW [.tmp v60] QF S) (pqW QF)) (ldW S 1 false v7 fun v60=>rtW [.tmp v60] QF S))
def Bx140 (QF:AEnd→q00→Prop) (v0 v1 v2:AV) (S:q00):Prop:=brW 1 v0 fun v3=>brW 1 v1 fun v4=>brW 6 v2 fun v5=>alW S 30 [.int .i64 0] fun v7 S=>stW S 1 v7 (.int .i64 0) fun S=>faW 1 v5 fun v14=>ldW S 1 false v14 fun v15=>lnW S 1 v15 fun v16=>LoopP (fun r0 l S=>C140_1 QF r0 (lget l 3) (lget l 4) (lget l 5) (lget l 7) (lget l 15) (lget l 16) (lget l 17) S) [(3,v3),(4,v4),(5,v5),(7,v7),(15,v15),(16,v16),(17,(.int .i64 0))] S
theorem wx140 {QF:AEnd→q00→Prop} {v0 v1 v2:AV} {S:q00} (h:Bx140 QF v0 v1 v2 S):ACalls PG nrx140 [v0,v1,v2] S QF:=
 q04 (F:=tfx140) (by kernel_rfl) rfl (by kernel_rfl) h
def tfx141:TFunc where
 n:=15
 args:=5
 res:=[.tmp 8]
 code:=.seq (.reg [i1 5 (.boxr 163 2 (.t 0)),i1 6 (.boxr 46 2 (.t 1)),i1 7 (.boxr 53 6 (.t 2)),i1 8 (.mov (.c (.int .i64 0)))] [3,4,5,6,7] []) (.seq (.regl [0,1,2,3,4,5,6] [il 9 1 4,iL 10 2 5,il 11 1 3,iL 12 2 6,iL 13 6 7,
  .one { d:=some 14,o:=.call (.f 142) [.t 11,.t 12,.t 13],x:=[4,5] },i0 (.mupd (true,[.int .i64,.int .i64]) (.t 9) (.t 10) (.t 14))] [] []) (.seq (.reg [i1 8 (.mov (.c (.int .i64 0)))] [8] []) (.ret)))
abbrev nrx141:Nat:=141
def Bx141 (QF:AEnd→q00→Prop) (v0 v1 v2 v3 v4:AV) (S:q00):Prop:=brW 2 v0 fun v5=>brW 2 v1 fun v6=>brW 6 v2 fun v7=>ldW S 1 false v4 fun v9=>ldW S 2 true v5 fun v10=>ldW S 1 false v3 fun v11=>ldW S 2 true v6 fun v12=>ldW S 6 true v7 fun v13=>caW PG S (.func (.func 142) [] []) [v11,v12,v13] (fun v14 S1=>kpW [v4,v5] S S1 ( muW S1 (true,[.int .i64,.int .i64]) v9 v10 v14 fun S=>rtW [.tmp (.int .i64 0)] QF S)) (pqW QF)
theorem wx141 {QF:AEnd→q00→Prop} {v0 v1 v2 v3 v4:AV} {S:q00} (h:Bx141 QF v0 v1 v2 v3 v4 S):ACalls PG nrx141 [v0,v1,v2,v3,v4] S QF:=
 q04 (F:=tfx141) (by kernel_rfl) rfl (by kernel_rfl) h
def tfx142:TFunc where
 n:=50
 args:=3
 res:=[.tmp 6]
 code:=.seq (.reg [i1 3 (.boxr 155 1 (.t 0)),i1 4 (.boxr 46 2 (.t 1)),i1 5 (.boxr 53 6 (.t 2)),i1 6 (.mov (.c (.nils)))] [3,4,5] []) (.seq (.reg [i1 7 (.alloc 224 [.nils])] [3,4,5,7] []) (.seq (.seq (.reg [ia 12 1 5,il 13 1 12,i1 14 (.len 1 (.t 13)),i1 15 (.mov (.c (.int .i64 0)))] [3,4,5,7,13,14,15] []) (.block 0 (.loop [3,4,5,7,13,14,15] (.seq (.reg [i1 16 (.bin .lss (.t 15) (.t 14))] [3,4,5,7,13,14,15,16] []) (.seq (.cond (.t 16) (.skip) (.exit 0)) (.seq (.block 1 (.seq (.reg [i1 17 (.iaddr 2 (.t 13) (.t 15)),iL 18 2 17,
  .box2 9 171 [.str ⟨#[]⟩,.str ⟨#[]⟩] 2 (.t 18)] [3,4,5,7,9,13,14,15] []) (.seq (.reg [il 20 1 3,ia 21 0 9,il 22 1 21,ia 23 1 9,il 24 1 23,i1 25 (.call (.f 96) [.t 20,.t 22,.t 24]),im 19 25,i1 26 (.extr (.t 19) 0),i1 27 (.extr (.t 19) 1),
  .box2 10 163 [.int .i64 0,.int .i64 0] 2 (.t 26),im 11 27] [3,4,5,7,9,10,11,13,14,15] []) (.seq (.reg [im 28 11,im 29 28,
  .grp 29 true [s1 30 (.faddr 1 (.t 9)),s1 31 (.load 1 false (.t 30)),s1 32 (.bin .neq (.t 31) (.c (.str ⟨#[]⟩)))],i1 33 (.pick (.t 29) (.t 32) (.c (.bool false)))] [3,4,5,7,10,13,14,15,33] []) (.cond (.t 33) (.reg [il 34 1 7,iL 35 2 10,i1 36 (.build [.int .i64 0,.int .i64 0,.bool false] [(0,2,.t 35),(2,1,.c (.bool false))]),i1 37 (.bslicr 227 3 [.t 36]),i1 38 (.app 227 3 24 (.t 34) (.t 37)),i0 (.store 1 (.t 7) (.t 38))] [3,4,5,7,13,14,15] []) (.skip)))))) (.reg [i1 39 (.bin .add (.t 15) (.c (.int .i64 1))),im 15 39] [3,4,5,7,13,14,15] []))))))) (.seq (.seq (.reg [ia 40 1 5,il 41 1 40,i1 42 (.len 1 (.t 41)),i1 43 (.bin .gtr (.t 42) (.c (.int .i64 0)))] [3,4,5,7,43] []) (.cond (.t 43) (.seq (.reg [il 44 1 7,im 6 44] [6] []) (.ret)) (.skip))) (.seq (.reg [ia 45 2 5,iL 46 4 45,i1 47 (.mkf (.func 179) [] [.t 3,.t 4,.t 7]),i1 48 (.call (.f 176) [.t 46,.c (.bool false),.t 47])] [7] []) (.seq (.reg [il 49 1 7,im 6 49] [6] []) (.ret))))))
abbrev nrx142:Nat:=142
def C142_2 (QF:AEnd→q00→Prop) (r0:LE→q00→Prop) (v3 v4 v5 v7 v10 v13 v14 v15 v33:AV) (S:q00):Prop:=cnW v33 (ldW S 1 false v7 fun v34=>ldW S 2 true v10 fun v35=>bdW [.int .i64 0,.int .i64 0,.bool false] [(0,2,v35),(2,1,(.bool false))] fun v36=>srW 3 [v36] fun v37=>apW S 227 3 24 v34 v37 fun v38 S=>stW S 1 v7 v38 fun S=>biW .add v15 (.int .i64 1) fun v39=>rcW r0 [(3,v3),(4,v4),(5,v5),(7,v7),(13,v13),(14,v14),(15,v39)] S) (biW .add v15 (.int .i64 1) fun v39=>rcW r0 [(3,v3),(4,v4),(5,v5),(7,v7),(13,v13),(14,v14),(15,v39)] S)
def C142_1 (QF:AEnd→q00→Prop) (r0:LE→q00→Prop) (v3 v4 v5 v7 v13 v14 v15:AV) (S:q00):Prop:=biW .lss v15 v14 fun v16=>cnW v16 (iaW 2 v13 v15 fun v17=>ldW S 2 true v17 fun v18=>bfW 2 v18 fun v9=>ldW S 1 false v3 fun v20=>faW 0 v9 fun v21=>ldW S 1 false v21 fun v22=>faW 1 v9 fun v23=>ldW S 1 false v23 fun v24=>caW PG S (.func (.func 96) [] []) [v20,v22,v24] (fun v25 S=>exW 0 v25 fun v26=>exW 1 v25 fun v27=>bfW 2 v26 fun v10=>grW v27 true (faW 1 v9 fun v30=>ldW S 1 false v30 fun v31=>biW .neq v31 (.str ⟨#[]⟩) fun v32=>pkW v27 v32 (.bool false) fun v33=>C142_2 QF r0 v3 v4 v5 v7 v10 v13 v14 v15 v33 S) (pkW v27 q06 (.bool false) fun v33=>C142_2 QF r0 v3 v4 v5 v7 v10 v13 v14 v15 v33 S)) (pqW QF)) (faW 1 v5 fun v40=>ldW S 1 false v40 fun v41=>lnW S 1 v41 fun v42=>biW .gtr v42 (.int .i64 0) fun v43=>cnW v43 (ldW S 1 false v7 fun v44=>rtW [.tmp v44] QF S) (faW 2 v5 fun v45=>ldW S 4 true v45 fun v46=>caW PG S (.func (.func 176) [] []) [v46,(.bool false),(.func (.func 179) [] [v3,v4,v7])] (fun v48 S=>ldW S 1 false v7 fun v49=>rtW [.tmp v49] QF S) (pqW QF)))
def Bx142 (QF:AEnd→q00→Prop) (v0 v1 v2:AV) (S:q00):Prop:=brW 1 v0 fun v3=>brW 2 v1 fun v4=>brW 6 v2 fun v5=>alW S 224 [.nils] fun v7 S=>faW 1 v5 fun v12=>ldW S 1 false v12 fun v13=>lnW S 1 v13 fun v14=>LoopP (fun r0 l S=>C142_1 QF r0 (lget l 3) (lget l 4) (lget l 5) (lget l 7) (lget l 13) (lget l 14) (lget l 15) S) [(3,v3),(4,v4),(5,v5),(7,v7),(13,v13),(14,v14),(15,(.int .i64 0))] S
theorem wx142 {QF:AEnd→q00→Prop} {v0 v1 v2:AV} {S:q00} (h:Bx142 QF v0 v1 v2 S):ACalls PG nrx142 [v0,v1,v2] S QF:=
 q04 (F:=tfx142) (by kernel_rfl) rfl (by kernel_rfl) h
def tfx143:TFunc where
 n:=46
 args:=6
 res:=[.tmp 9]
 code:=.seq (.reg [i1 6 (.boxr 163 2 (.t 0)),i1 7 (.boxr 46 2 (.t 1)),i1 8 (.boxr 53 6 (.t 2)),i1 9 (.mov (.c (.int .i64 0)))] [3,4,5,6] []) (.seq (.seq (.reg [il 13 1 3,iL 14 2 6,i1 15 (.lookup (true,[.int .i64,.int .i64]) false (.nils) (.t 13) (.t 14)),i1 16 (.len 1 (.t 15)),i1 17 (.mov (.c (.int .i64 0)))] [3,4,5,6,15,16,17] []) (.block 0 (.loop [3,4,5,6,15,16,17] (.seq (.reg [i1 18 (.bin .lss (.t 17) (.t 16))] [3,4,5,6,15,16,17,18] []) (.seq (.cond (.t 18) (.skip) (.exit 0)) (.seq (.block 1 (.seq (.reg [i1 19 (.iaddr 3 (.t 15) (.t 17)),iL 20 3 19,
  .box2 11 227 [.int .i64 0,.int .i64 0,.bool false] 3 (.t 20)] [3,4,5,6,11,15,16,17] []) (.seq (.reg [il 21 1 4,ia 22 0 11,iL 23 2 22,i1 24 (.lookup (true,[.int .i64,.int .i64]) false (.int .i64 0) (.t 21) (.t 23)),im 12 24] [3,4,5,6,11,12,15,16,17] []) (.seq (.seq (.reg [ia 25 2 11,il 26 1 25] [3,4,5,6,12,15,16,17,26] []) (.cond (.t 26) (.reg [im 27 12,i1 28 (.bin .add (.t 27) (.c (.int .i64 1))),im 12 28] [3,4,5,6,12,15,16,17] []) (.skip))) (.seq (.regl [3,0,1,2,4,5,6,7,8,9,10,11,12] [im 32 12,il 29 1 4,iL 30 2 6,i1 31 (.lookup (true,[.int .i64,.int .i64]) false (.int .i64 0) (.t 29) (.t 30)),i1 33 (.bin .lss (.t 31) (.t 32)),im 34 33,
  .grp 34 true [s1 35 (.load 1 false (.t 4)),s1 36 (.load 2 true (.t 6)),s1 37 (.lookup (true,[.int .i64,.int .i64]) false (.int .i64 0) (.t 35) (.t 36)),s1 38 (.load 1 false (.t 3)),s1 39 (.len 2 (.t 38)),s1 40 (.bin .leq (.t 37) (.t 39))],i1 41 (.pick (.t 34) (.t 40) (.c (.bool false)))] [3,4,5,6,12,15,16,17,41] []) (.cond (.t 41) (.reg [il 42 1 4,iL 43 2 6,im 44 12,i0 (.mupd (true,[.int .i64,.int .i64]) (.t 42) (.t 43) (.t 44)),i0 (.store 1 (.t 5) (.c (.bool true)))] [3,4,5,6,15,16,17] []) (.skip))))))) (.reg [i1 45 (.bin .add (.t 17) (.c (.int .i64 1))),im 17 45] [3,4,5,6,15,16,17] []))))))) (.seq (.reg [i1 9 (.mov (.c (.int .i64 0)))] [9] []) (.ret)))
abbrev nrx143:Nat:=143
def C143_3 (QF:AEnd→q00→Prop) (r0:LE→q00→Prop) (v3 v4 v5 v6 v12 v15 v16 v17 v41:AV) (S:q00):Prop:=cnW v41 (ldW S 1 false v4 fun v42=>ldW S 2 true v6 fun v43=>muW S (true,[.int .i64,.int .i64]) v42 v43 v12 fun S=>stW S 1 v5 (.bool true) fun S=>biW .add v17 (.int .i64 1) fun v45=>rcW r0 [(3,v3),(4,v4),(5,v5),(6,v6),(15,v15),(16,v16),(17,v45)] S) (biW .add v17 (.int .i64 1) fun v45=>rcW r0 [(3,v3),(4,v4),(5,v5),(6,v6),(15,v15),(16,v16),(17,v45)] S)
def C143_2 (QF:AEnd→q00→Prop) (r0:LE→q00→Prop) (v3 v4 v5 v6 v12 v15 v16 v17:AV) (S:q00):Prop:=ldW S 1 false v4 fun v29=>ldW S 2 true v6 fun v30=>lkW S (true,[.int .i64,.int .i64]) false (.int .i64 0) v29 v30 fun v31=>biW .lss v31 v12 fun v33=>grW v33 true (ldW S 1 false v4 fun v35=>ldW S 2 true v6 fun v36=>lkW S (true,[.int .i64,.int .i64]) false (.int .i64 0) v35 v36 fun v37=>ldW S 1 false v3 fun v38=>lnW S 2 v38 fun v39=>biW .leq v37 v39 fun v40=>pkW v33 v40 (.bool false) fun v41=>C143_3 QF r0 v3 v4 v5 v6 v12 v15 v16 v17 v41 S) (pkW v33 q06 (.bool false) fun v41=>C143_3 QF r0 v3 v4 v5 v6 v12 v15 v16 v17 v41 S)
def C143_1 (QF:AEnd→q00→Prop) (r0:LE→q00→Prop) (v3 v4 v5 v6 v15 v16 v17:AV) (S:q00):Prop:=biW .lss v17 v16 fun v18=>cnW v18 (iaW 3 v15 v17 fun v19=>ldW S 3 true v19 fun v20=>bfW 3 v20 fun v11=>ldW S 1 false v4 fun v21=>faW 0 v11 fun v22=>ldW S 2 true v22 fun v23=>lkW S (true,[.int .i64,.int .i64]) false (.int .i64 0) v21 v23 fun v24=>faW 2 v11 fun v25=>ldW S 1 false v25 fun v26=>cnW v26 (biW .add v24 (.int .i64 1) fun v28=>C143_2 QF r0 v3 v4 v5 v6 v28 v15 v16 v17 S) (C143_2 QF r0 v3 v4 v5 v6 v24 v15 v16 v17 S)) (rtW [.tmp (.int .i64 0)] QF S)
def Bx143 (QF:AEnd→q00→Prop) (v0 v1 v2 v3 v4 v5:AV) (S:q00):Prop:=brW 2 v0 fun v6=>brW 2 v1 fun v7=>brW 6 v2 fun v8=>ldW S 1 false v3 fun v13=>ldW S 2 true v6 fun v14=>lkW S (true,[.int .i64,.int .i64]) false (.nils) v13 v14 fun v15=>lnW S 1 v15 fun v16=>LoopP (fun r0 l S=>C143_1 QF r0 (lget l 3) (lget l 4) (lget l 5) (lget l 6) (lget l 15) (lget l 16) (lget l 17) S) [(3,v3),(4,v4),(5,v5),(6,v6),(15,v15),(16,v16),(17,(.int .i64 0))] S
theorem wx143 {QF:AEnd→q00→Prop} {v0 v1 v2 v3 v4 v5:AV} {S:q00} (h:Bx143 QF v0 v1 v2 v3 v4 v5 S):ACalls PG nrx143 [v0,v1,v2,v3,v4,v5] S QF:=
 q04 (F:=tfx143) (by kernel_rfl) rfl (by kernel_rfl) h
def tfx144:TFunc where
 n:=15
 args:=1
 res:=[.tmp 2]
 code:=.seq (.reg [i1 2 (.mov (.c (.bool false)))] [0] []) (.seq (.seq (.reg [im 3 0] [0,3] []) (.block 0 (.seq (.seq (.reg [i1 5 (.bin .eql (.t 3) (.c (.str ⟨#[116,121,112,101]⟩))),im 4 5] [0,3,4] []) (.cond (.t 4) (.skip) (.seq (.reg [i1 6 (.bin .eql (.t 3) (.c (.str ⟨#[114,101,108,97,116,105,111,110]⟩))),im 4 6] [0,3,4] []) (.cond (.t 4) (.skip) (.reg [i1 7 (.bin .eql (.t 3) (.c (.str ⟨#[100,101,102,105,110,101]⟩))),im 4 7] [0,4] []))))) (.cond (.t 4) (.seq (.reg [i1 2 (.mov (.c (.bool false)))] [2] []) (.ret)) (.skip))))) (.seq (.reg [im 8 0,i1 9 (.call (.f 181) [.t 8,.c (.int .i64 16),.f 182]),im 10 9,
  .grp 10 true [s1 11 (.mov (.t 0)),s1 12 (.idxs (.t 11) (.c (.int .i64 0))),s1 13 (.call (.f 183) [.t 12])],i1 14 (.pick (.t 10) (.t 13) (.c (.bool false))),im 2 14] [2] []) (.ret)))
abbrev nrx144:Nat:=144
def C144_1 (QF:AEnd→q00→Prop) (v0 v4:AV) (S:q00):Prop:=cnW v4 (rtW [.tmp (.bool false)] QF S) (caW PG S (.func (.func 181) [] []) [v0,(.int .i64 16),(.func (.func 182) [] [])] (fun v9 S=>grW v9 true (isW v0 (.int .i64 0) fun v12=>caW PG S (.func (.func 183) [] []) [v12] (fun v13 S=>pkW v9 v13 (.bool false) fun v14=>rtW [.tmp v14] QF S) (pqW QF)) (pkW v9 q06 (.bool false) fun v14=>rtW [.tmp v14] QF S)) (pqW QF))
def Bx144 (QF:AEnd→q00→Prop) (v0:AV) (S:q00):Prop:=biW .eql v0 (.str ⟨#[116,121,112,101]⟩) fun v5=>cnW v5 (C144_1 QF v0 v5 S) (biW .eql v0 (.str ⟨#[114,101,108,97,116,105,111,110]⟩) fun v6=>cnW v6 (C144_1 QF v0 v6 S) (biW .eql v0 (.str ⟨#[100,101,102,105,110,101]⟩) fun v7=>C144_1 QF v0 v7 S))
theorem wx144 {QF:AEnd→q00→Prop} {v0:AV} {S:q00} (h:Bx144 QF v0 S):ACalls PG nrx144 [v0] S QF:=
 q04 (F:=tfx144) (by kernel_rfl) rfl (by kernel_rfl) h
def tfx145:TFunc where
 n:=19
 args:=2
 res:=[.tmp 4]
 code:=.seq (.reg [i1 3 (.boxr 171 2 (.t 1)),i1 4 (.mov (.c (.int .i64 0)))] [0,3] []) (.seq (.seq (.reg [im 6 0,i1 7 (.len 1 (.t 6)),i1 8 (.mov (.c (.int .i64 0)))] [0,3,7,8] []) (.block 0 (.loop [0,3,7,8] (.seq (.reg [i1 9 (.bin .lss (.t 8) (.t 7))] [0,3,7,8,9] []) (.seq (.cond (.t 9) (.skip) (.exit 0)) (.seq (.block 1 (.seq (.reg [im 10 8,im 5 10] [0,3,5,7,8] []) (.seq (.regl [1,2,3,0,4,5] [im 12 0,im 13 5,i1 14 (.iaddr 2 (.t 12) (.t 13)),iL 11 2 3,iL 15 2 14,i1 16 (.eqp false (true,[.str,.str]) (.t 11) (.t 15))] [0,3,5,7,8,16] []) (.cond (.t 16) (.seq (.reg [im 17 5,im 4 17] [4] []) (.ret)) (.skip))))) (.reg [i1 18 (.bin .add (.t 8) (.c (.int .i64 1))),im 8 18] [0,3,7,8] []))))))) (.seq (.reg [i1 4 (.mov (.c (.int .i64 (-1))))] [4] []) (.ret)))
abbrev nrx145:Nat:=145
def C145_1 (QF:AEnd→q00→Prop) (r0:LE→q00→Prop) (v0 v3 v7 v8:AV) (S:q00):Prop:=biW .lss v8 v7 fun v9=>cnW v9 (iaW 2 v0 v8 fun v14=>ldW S 2 true v3 fun v11=>ldW S 2 true v14 fun v15=>eqW false (true,[.str,.str]) v11 v15 fun v16=>cnW v16 (rtW [.tmp v8] QF S) (biW .add v8 (.int .i64 1) fun v18=>rcW r0 [(0,v0),(3,v3),(7,v7),(8,v18)] S)) (rtW [.tmp (.int .i64 (-1))] QF S)
def Bx145 (QF:AEnd→q00→Prop) (v0 v1:AV) (S:q00):Prop:=brW 2 v1 fun v3=>lnW S 1 v0 fun v7=>LoopP (fun r0 l S=>C145_1 QF r0 (lget l 0) (lget l 3) (lget l 7) (lget l 8) S) [(0,v0),(3,v3),(7,v7),(8,(.int .i64 0))] S
theorem wx145 {QF:AEnd→q00→Prop} {v0 v1:AV} {S:q00} (h:Bx145 QF v0 v1 S):ACalls PG nrx145 [v0,v1] S QF:=
 q04 (F:=tfx145) (by kernel_rfl) rfl (by kernel_rfl) h
end Go.HL
