/- A part of a proof. -/
import Derived.Test.YtadmdlpmikoghaaGreatKiHlP
set_option maxRecDepth 100000
set_option linter.unusedVariables false
namespace Go.HL
def tfx147:TFunc where
 n:=9
 args:=2
 res:=[.tmp 4]
 code:=.seq (.reg [i1 4 (.mov (.c (.bool false)))] [0,1] []) (.seq (.reg [im 5 0,im 6 1,i1 7 (.call (.f 186) [.t 5,.t 6]),i1 8 (.bin .geq (.t 7) (.c (.int .i64 0))),im 4 8] [4] []) (.ret))
abbrev nrx147:Nat:=147
def Bx147 (QF:AEnd→q00→Prop) (v0 v1:AV) (S:q00):Prop:=caW PG S (.func (.func 186) [] []) [v0,v1] (fun v7 S=>biW .geq v7 (.int .i64 0) fun v8=>rtW [.tmp v8] QF S) (pqW QF)
theorem wx147 {QF:AEnd→q00→Prop} {v0 v1:AV} {S:q00} (h:Bx147 QF v0 v1 S):ACalls PG nrx147 [v0,v1] S QF:=
 q02 (F:=tfx147) (by kernel_rfl) rfl (by kernel_rfl) h
def tfx153:TFunc where
 n:=30
 args:=2
 res:=[.tmp 4,.tmp 5]
 code:=.seq (.reg [i1 4 (.mov (.c (.int .u64 0))),i1 5 (.mov (.c (.int .u64 0)))] [0,1] []) (.seq (.cond (.c (.bool false)) (.seq (.reg [im 11 0,i1 12 (.conv .u32 (.t 11)),im 13 1,i1 14 (.conv .u32 (.t 13)),i1 15 (.call (.f 190) [.t 12,.t 14]),im 10 15,i1 16 (.extr (.t 10) 0),i1 17 (.extr (.t 10) 1),im 6 16,im 7 17] [6,7] []) (.seq (.reg [im 18 6,i1 19 (.conv .u64 (.t 18)),im 20 7,i1 21 (.conv .u64 (.t 20)),im 4 19,im 5 21] [4,5] []) (.ret))) (.skip)) (.seq (.reg [im 23 0,im 24 1,i1 25 (.call (.f 191) [.t 23,.t 24]),im 22 25,i1 26 (.extr (.t 22) 0),i1 27 (.extr (.t 22) 1),im 8 26,im 9 27] [8,9] []) (.seq (.reg [im 28 8,im 29 9,im 4 28,im 5 29] [4,5] []) (.ret))))
abbrev nrx153:Nat:=153
def Bx153 (QF:AEnd→q00→Prop) (v0 v1:AV) (S:q00):Prop:=cnW (.bool false) (cvW .u32 v0 fun v12=>cvW .u32 v1 fun v14=>caW PG S (.func (.func 190) [] []) [v12,v14] (fun v15 S=>exW 0 v15 fun v16=>exW 1 v15 fun v17=>cvW .u64 v16 fun v19=>cvW .u64 v17 fun v21=>rtW [.tmp v19,.tmp v21] QF S) (pqW QF)) (caW PG S (.func (.func 191) [] []) [v0,v1] (fun v25 S=>exW 0 v25 fun v26=>exW 1 v25 fun v27=>rtW [.tmp v26,.tmp v27] QF S) (pqW QF))
theorem wx153 {QF:AEnd→q00→Prop} {v0 v1:AV} {S:q00} (h:Bx153 QF v0 v1 S):ACalls PG nrx153 [v0,v1] S QF:=
 q02 (F:=tfx153) (by kernel_rfl) rfl (by kernel_rfl) h
def tfx154:TFunc where
 n:=27
 args:=3
 res:=[.tmp 6]
 code:=.seq (.reg [i1 3 (.boxr 182 1 (.t 0)),i1 4 (.boxr 27 2 (.t 1)),i1 5 (.boxr 53 6 (.t 2)),i1 6 (.mov (.c (.bool false)))] [3,4,5] []) (.seq (.seq (.reg [ia 7 1 5,il 8 1 7,i1 9 (.len 1 (.t 8)),i1 10 (.bin .eql (.t 9) (.c (.int .i64 0)))] [3,4,5,10] []) (.cond (.t 10) (.seq (.reg [il 11 1 3,iL 12 2 4,ia 13 2 5,iL 14 4 13,i1 15 (.call (.f 192) [.t 11,.t 12,.t 14]),im 6 15] [6] []) (.ret)) (.skip))) (.seq (.regl [5,9,0,1,2,3,4,6,7,8,10,11] [ia 21 0 5,i1 25 (.mkf (.func 193) [] [.t 3]),il 16 1 3,i1 17 (.nilck (.t 16)),ia 18 0 17,il 19 1 18,iL 20 2 4,il 22 1 21,i1 23 (.build [.str ⟨#[]⟩,.str ⟨#[]⟩,.str ⟨#[]⟩] [(0,2,.t 20),(2,1,.t 22)]),i1 24 (.lookup (true,[.str,.str,.str]) false (.nils) (.t 19) (.t 23)),i1 26 (.call (.f 147) [.t 24,.t 25]),im 6 26] [6] []) (.ret)))
abbrev nrx154:Nat:=154
def Bx154 (QF:AEnd→q00→Prop) (v0 v1 v2:AV) (S:q00):Prop:=brW 1 v0 fun v3=>brW 2 v1 fun v4=>brW 6 v2 fun v5=>faW 1 v5 fun v7=>ldW S 1 false v7 fun v8=>lnW S 1 v8 fun v9=>biW .eql v9 (.int .i64 0) fun v10=>cnW v10 (ldW S 1 false v3 fun v11=>ldW S 2 true v4 fun v12=>faW 2 v5 fun v13=>ldW S 4 true v13 fun v14=>caW PG S (.func (.func 192) [] []) [v11,v12,v14] (fun v15 S=>rtW [.tmp v15] QF S) (pqW QF)) (faW 0 v5 fun v21=>ldW S 1 false v3 fun v16=>nkW v16 fun v17=>faW 0 v17 fun v18=>ldW S 1 false v18 fun v19=>ldW S 2 true v4 fun v20=>ldW S 1 false v21 fun v22=>bdW [.str ⟨#[]⟩,.str ⟨#[]⟩,.str ⟨#[]⟩] [(0,2,v20),(2,1,v22)] fun v23=>lkW S (true,[.str,.str,.str]) false (.nils) v19 v23 fun v24=>caW PG S (.func (.func 147) [] []) [v24,(.func (.func 193) [] [v3])] (fun v26 S=>rtW [.tmp v26] QF S) (pqW QF))
theorem wx154 {QF:AEnd→q00→Prop} {v0 v1 v2:AV} {S:q00} (h:Bx154 QF v0 v1 v2 S):ACalls PG nrx154 [v0,v1,v2] S QF:=
 q02 (F:=tfx154) (by kernel_rfl) rfl (by kernel_rfl) h
def tfx155:TFunc where
 n:=19
 args:=2
 res:=[.tmp 4]
 code:=.seq (.reg [i1 4 (.mov (.c (.int .i64 0)))] [0,1] []) (.seq (.seq (.reg [im 6 0,i1 7 (.len 1 (.t 6)),i1 8 (.mov (.c (.int .i64 0)))] [0,1,7,8] []) (.block 0 (.loop [0,1,7,8] (.seq (.reg [i1 9 (.bin .lss (.t 8) (.t 7))] [0,1,7,8,9] []) (.seq (.cond (.t 9) (.skip) (.exit 0)) (.seq (.block 1 (.seq (.reg [im 10 8,im 5 10] [0,1,5,7,8] []) (.seq (.reg [im 11 1,im 12 0,im 13 5,i1 14 (.iaddr 6 (.t 12) (.t 13)),iL 15 6 14,i1 16 (.call (.t 11) [.t 15])] [0,1,5,7,8,16] []) (.cond (.t 16) (.seq (.reg [im 17 5,im 4 17] [4] []) (.ret)) (.skip))))) (.reg [i1 18 (.bin .add (.t 8) (.c (.int .i64 1))),im 8 18] [0,1,7,8] []))))))) (.seq (.reg [i1 4 (.mov (.c (.int .i64 (-1))))] [4] []) (.ret)))
abbrev nrx155:Nat:=155
def C155_1 (QF:AEnd→q00→Prop) (r0:LE→q00→Prop) (v0 v1 v7 v8:AV) (S:q00):Prop:=biW .lss v8 v7 fun v9=>cnW v9 (iaW 6 v0 v8 fun v14=>ldW S 6 true v14 fun v15=>caW PG S v1 [v15] (fun v16 S=>cnW v16 (rtW [.tmp v8] QF S) (biW .add v8 (.int .i64 1) fun v18=>rcW r0 [(0,v0),(1,v1),(7,v7),(8,v18)] S)) (pqW QF)) (rtW [.tmp (.int .i64 (-1))] QF S)
def Bx155 (QF:AEnd→q00→Prop) (v0 v1:AV) (S:q00):Prop:=lnW S 1 v0 fun v7=>LoopP (fun r0 l S=>C155_1 QF r0 (lget l 0) (lget l 1) (lget l 7) (lget l 8) S) [(0,v0),(1,v1),(7,v7),(8,(.int .i64 0))] S
theorem wx155 {QF:AEnd→q00→Prop} {v0 v1:AV} {S:q00} (h:Bx155 QF v0 v1 S):ACalls PG nrx155 [v0,v1] S QF:=
 q02 (F:=tfx155) (by kernel_rfl) rfl (by kernel_rfl) h
def tfx156:TFunc where
 n:=53
 args:=4
 res:=[]
 code:=.seq (.reg [im 10 1,i1 11 (.bin .add (.t 10) (.c (.int .i64 1))),im 8 11] [0,1,2,3,8] []) (.block 0 (.loop [0,1,2,3,8] (.seq (.seq (.reg [im 12 8,im 13 2,i1 14 (.bin .lss (.t 12) (.t 13))] [0,1,2,3,8,14] []) (.cond (.t 14) (.skip) (.exit 0))) (.seq (.block 1 (.seq (.reg [im 17 8,im 9 17] [0,1,2,3,8,9] []) (.block 2 (.loop [0,1,2,3,8,9] (.seq (.seq (.regl [0,1,2,3,4,5,6,7,9,10,11,12,8,13,14,15,16] [im 18 9,im 19 1,i1 20 (.bin .gtr (.t 18) (.t 19)),im 21 20,
  .grp 21 true [s1 22 (.mov (.t 3)),s1 23 (.mov (.t 0)),s1 24 (.mov (.t 9)),s1 25 (.iaddr 2 (.t 23) (.t 24)),s1 27 (.mov (.t 0)),s1 28 (.mov (.t 9)),s1 29 (.bin .sub (.t 28) (.c (.int .i64 1))),s1 30 (.iaddr 2 (.t 27) (.t 29)),s1 26 (.load 2 true (.t 25)),s1 31 (.load 2 true (.t 30)),s1 32 (.call (.t 22) [.t 26,.t 31]),s1 33 (.bin .lss (.t 32) (.c (.int .i64 0)))],i1 34 (.pick (.t 21) (.t 33) (.c (.bool false)))] [0,1,2,3,8,9,34] []) (.cond (.t 34) (.skip) (.exit 2))) (.seq (.block 3 (.regl [0,1,2,3,4,5,6,7,8,10,11,12,9,13,14,15,16,17] [im 37 0,im 38 9,im 39 0,im 40 9,i1 41 (.bin .sub (.t 40) (.c (.int .i64 1))),im 42 0,im 43 9,i1 44 (.bin .sub (.t 43) (.c (.int .i64 1))),i1 45 (.iaddr 2 (.t 42) (.t 44)),im 47 0,im 48 9,i1 49 (.iaddr 2 (.t 47) (.t 48)),iL 46 2 45,iL 50 2 49,i1 51 (.iaddr 2 (.t 37) (.t 38)),i0 (.store 2 (.t 51) (.t 46)),i1 52 (.iaddr 2 (.t 39) (.t 41)),i0 (.store 2 (.t 52) (.t 50))] [0,1,2,3,8,9] [])) (.reg [im 35 9,i1 36 (.bin .sub (.t 35) (.c (.int .i64 1))),im 9 36] [0,1,2,3,8,9] []))))))) (.reg [im 15 8,i1 16 (.bin .add (.t 15) (.c (.int .i64 1))),im 8 16] [0,1,2,3,8] [])))))
abbrev nrx156:Nat:=156
def C156_3 (QF:AEnd→q00→Prop) (r0:LE→q00→Prop) (r1:LE→q00→Prop) (v0 v1 v2 v3 v8 v9 v34:AV) (S:q00):Prop:=cnW v34 (biW .sub v9 (.int .i64 1) fun v41=>biW .sub v9 (.int .i64 1) fun v44=>iaW 2 v0 v44 fun v45=>iaW 2 v0 v9 fun v49=>ldW S 2 true v45 fun v46=>ldW S 2 true v49 fun v50=>iaW 2 v0 v9 fun v51=>stW S 2 v51 v46 fun S=>iaW 2 v0 v41 fun v52=>stW S 2 v52 v50 fun S=>biW .sub v9 (.int .i64 1) fun v36=>rcW r1 [(0,v0),(1,v1),(2,v2),(3,v3),(8,v8),(9,v36)] S) (biW .add v8 (.int .i64 1) fun v16=>rcW r0 [(0,v0),(1,v1),(2,v2),(3,v3),(8,v16)] S)
def C156_2 (QF:AEnd→q00→Prop) (r0:LE→q00→Prop) (r1:LE→q00→Prop) (v0 v1 v2 v3 v8 v9:AV) (S:q00):Prop:=biW .gtr v9 v1 fun v20=>grW v20 true (iaW 2 v0 v9 fun v25=>biW .sub v9 (.int .i64 1) fun v29=>iaW 2 v0 v29 fun v30=>ldW S 2 true v25 fun v26=>ldW S 2 true v30 fun v31=>caW PG S v3 [v26,v31] (fun v32 S=>biW .lss v32 (.int .i64 0) fun v33=>pkW v20 v33 (.bool false) fun v34=>C156_3 QF r0 r1 v0 v1 v2 v3 v8 v9 v34 S) (pqW QF)) (pkW v20 q05 (.bool false) fun v34=>C156_3 QF r0 r1 v0 v1 v2 v3 v8 v9 v34 S)
def C156_1 (QF:AEnd→q00→Prop) (r0:LE→q00→Prop) (v0 v1 v2 v3 v8:AV) (S:q00):Prop:=biW .lss v8 v2 fun v14=>cnW v14 (LoopP (fun r1 l S=>C156_2 QF r0 r1 (lget l 0) (lget l 1) (lget l 2) (lget l 3) (lget l 8) (lget l 9) S) [(0,v0),(1,v1),(2,v2),(3,v3),(8,v8),(9,v8)] S) (rtW [] QF S)
def Bx156 (QF:AEnd→q00→Prop) (v0 v1 v2 v3:AV) (S:q00):Prop:=biW .add v1 (.int .i64 1) fun v11=>LoopP (fun r0 l S=>C156_1 QF r0 (lget l 0) (lget l 1) (lget l 2) (lget l 3) (lget l 8) S) [(0,v0),(1,v1),(2,v2),(3,v3),(8,v11)] S
theorem wx156 {QF:AEnd→q00→Prop} {v0 v1 v2 v3:AV} {S:q00} (h:Bx156 QF v0 v1 v2 v3 S):ACalls PG nrx156 [v0,v1,v2,v3] S QF:=
 q02 (F:=tfx156) (by kernel_rfl) rfl (by kernel_rfl) h
end Go.HL
