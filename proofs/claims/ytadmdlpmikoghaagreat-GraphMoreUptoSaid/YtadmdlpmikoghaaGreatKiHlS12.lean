/- A part of a proof. -/
import Derived.Test.YtadmdlpmikoghaaGreatKiHlP
set_option maxRecDepth 100000
set_option linter.unusedVariables false
namespace Go.HL
def tfx171:TFunc where
 n:=37
 args:=1
 res:=[.cell 2 4 true]
 code:=.seq (.reg [i1 2 (.alloc 51 [.int .i64 0,.str ⟨#[]⟩,.str ⟨#[]⟩,.nils])] [0,2] []) (.seq (.reg [im 6 0,i1 7 (.call (.f 203) [.t 6]),i1 3 (.alloc 51 [.int .i64 0,.str ⟨#[]⟩,.str ⟨#[]⟩,.nils]),i0 (.store 4 (.t 3) (.t 7))] [0,2,3] []) (.seq (.block 0 (.loop [0,2,3] (.seq (.seq (.reg [im 8 0,i1 9 (.nilck (.t 8)),ia 10 3 9,ia 11 2 10,il 12 1 11,i1 13 (.bin .eql (.t 12) (.c (.int .i64 0))),im 14 13,
  .grp 14 true [s1 15 (.mov (.t 0)),s1 16 (.call (.f 87) [.t 15]),s1 17 (.field 0 1 false (.t 16)),s1 18 (.bin .eql (.t 17) (.c (.str ⟨#[38]⟩)))],i1 19 (.pick (.t 14) (.t 18) (.c (.bool false)))] [0,2,3,19] []) (.cond (.t 19) (.skip) (.exit 0))) (.block 1 (.seq (.reg [im 20 0,i1 21 (.call (.f 87) [.t 20]),
  .box2 4 149 [.str ⟨#[]⟩,.int .i64 0,.int .i64 0] 3 (.t 21)] [0,2,3,4] []) (.seq (.reg [im 22 0,i1 23 (.nilck (.t 22)),ia 24 1 23,il 25 1 24,i1 26 (.bin .add (.t 25) (.c (.int .i64 1))),i1 27 (.nilck (.t 22)),ia 28 1 27,i0 (.store 1 (.t 28) (.t 26))] [0,2,3,4] []) (.seq (.reg [im 29 0,i1 30 (.call (.f 203) [.t 29]),
  .box2 5 51 [.int .i64 0,.str ⟨#[]⟩,.str ⟨#[]⟩,.nils] 4 (.t 30)] [0,2,3,4,5] []) (.reg [im 31 0,iL 32 3 4,iL 33 4 3,iL 34 4 5,i1 35 (.call (.f 172) [.t 31,.c (.int .i64 3),.t 32,.t 33,.t 34]),i0 (.store 4 (.t 3) (.t 35))] [0,2,3] [])))))))) (.seq (.reg [iL 36 4 3,i0 (.store 4 (.t 2) (.t 36))] [2] [2]) (.ret))))
abbrev nrx171:Nat:=171
def C171_2 (QF:AEnd→q00→Prop) (r0:LE→q00→Prop) (v0 v2 v3 v19:AV) (S:q00):Prop:=cnW v19 (caW PG S (.func (.func 87) [] []) [v0] (fun v21 S=>bfW 3 v21 fun v4=>nkW v0 fun v23=>faW 1 v23 fun v24=>ldW S 1 false v24 fun v25=>biW .add v25 (.int .i64 1) fun v26=>nkW v0 fun v27=>faW 1 v27 fun v28=>stW S 1 v28 v26 fun S=>caW PG S (.func (.func 203) [] []) [v0] (fun v30 S=>bfW 4 v30 fun v5=>ldW S 3 true v4 fun v32=>ldW S 4 true v3 fun v33=>ldW S 4 true v5 fun v34=>caW PG S (.func (.func 172) [] []) [v0,(.int .i64 3),v32,v33,v34] (fun v35 S=>stW S 4 v3 v35 fun S=>rcW r0 [(0,v0),(2,v2),(3,v3)] S) (pqW QF)) (pqW QF)) (pqW QF)) (ldW S 4 true v3 fun v36=>stW S 4 v2 v36 fun S=>fzW S v2 fun v2 S=>rtW [.cell v2 4 true] QF S)
def C171_1 (QF:AEnd→q00→Prop) (r0:LE→q00→Prop) (v0 v2 v3:AV) (S:q00):Prop:=nkW v0 fun v9=>faW 3 v9 fun v10=>faW 2 v10 fun v11=>ldW S 1 false v11 fun v12=>biW .eql v12 (.int .i64 0) fun v13=>grW v13 true (caW PG S (.func (.func 87) [] []) [v0] (fun v16 S=>fdW 0 1 false v16 fun v17=>biW .eql v17 (.str ⟨#[38]⟩) fun v18=>pkW v13 v18 (.bool false) fun v19=>C171_2 QF r0 v0 v2 v3 v19 S) (pqW QF)) (pkW v13 q05 (.bool false) fun v19=>C171_2 QF r0 v0 v2 v3 v19 S)
def Bx171 (QF:AEnd→q00→Prop) (v0:AV) (S:q00):Prop:=alW S 51 [.int .i64 0,.str ⟨#[]⟩,.str ⟨#[]⟩,.nils] fun v2 S=>caW PG S (.func (.func 203) [] []) [v0] (fun v7 S=>alW S 51 [.int .i64 0,.str ⟨#[]⟩,.str ⟨#[]⟩,.nils] fun v3 S=>stW S 4 v3 v7 fun S=>LoopP (fun r0 l S=>C171_1 QF r0 (lget l 0) (lget l 2) (lget l 3) S) [(0,v0),(2,v2),(3,v3)] S) (pqW QF)
theorem wx171 {QF:AEnd→q00→Prop} {v0:AV} {S:q00} (h:Bx171 QF v0 S):ACalls PG nrx171 [v0] S QF:=
 q02 (F:=tfx171) (by kernel_rfl) rfl (by kernel_rfl) h
def tfx172:TFunc where
 n:=32
 args:=5
 res:=[.cell 10 4 true]
 code:=.seq (.reg [i1 7 (.boxr 149 3 (.t 2)),i1 8 (.boxr 51 4 (.t 3)),i1 9 (.boxr 51 4 (.t 4)),i1 10 (.alloc 51 [.int .i64 0,.str ⟨#[]⟩,.str ⟨#[]⟩,.nils])] [0,1,7,8,9,10] []) (.seq (.reg [im 12 1,iL 13 4 8,iL 14 4 9,i1 15 (.bslicr 51 4 [.t 13,.t 14]),i1 16 (.build [.int .i64 0,.str ⟨#[]⟩,.str ⟨#[]⟩,.nils] [(0,1,.t 12),(3,1,.t 15)]),
  .box2 11 51 [.int .i64 0,.str ⟨#[]⟩,.str ⟨#[]⟩,.nils] 4 (.t 16)] [0,7,10,11] []) (.seq (.seq (.reg [im 17 0,i1 18 (.nilck (.t 17)),ia 19 3 18,ia 20 2 19,il 21 1 20,i1 22 (.bin .eql (.t 21) (.c (.int .i64 0))),im 23 22,
  .grp 23 true [s1 24 (.load 4 true (.t 11)),s1 25 (.call (.f 204) [.t 24]),s1 26 (.bin .gtr (.t 25) (.c (.int .i64 12)))],i1 27 (.pick (.t 23) (.t 26) (.c (.bool false)))] [0,7,10,11,27] []) (.cond (.t 27) (.reg [im 28 0,iL 29 3 7,i1 30 (.call (.f 88) [.t 28,.t 29,.c (.int .i64 9)])] [10,11] []) (.skip))) (.seq (.reg [iL 31 4 11,i0 (.store 4 (.t 10) (.t 31))] [10] [10]) (.ret))))
abbrev nrx172:Nat:=172
def C172_2 (QF:AEnd→q00→Prop) (v10 v11:AV) (S:q00):Prop:=ldW S 4 true v11 fun v31=>stW S 4 v10 v31 fun S=>fzW S v10 fun v10 S=>rtW [.cell v10 4 true] QF S
def C172_1 (QF:AEnd→q00→Prop) (v0 v7 v10 v11 v27:AV) (S:q00):Prop:=cnW v27 (ldW S 3 true v7 fun v29=>caW PG S (.func (.func 88) [] []) [v0,v29,(.int .i64 9)] (fun v30 S=>C172_2 QF v10 v11 S) (pqW QF)) (C172_2 QF v10 v11 S)
def Bx172 (QF:AEnd→q00→Prop) (v0 v1 v2 v3 v4:AV) (S:q00):Prop:=brW 3 v2 fun v7=>brW 4 v3 fun v8=>brW 4 v4 fun v9=>alW S 51 [.int .i64 0,.str ⟨#[]⟩,.str ⟨#[]⟩,.nils] fun v10 S=>ldW S 4 true v8 fun v13=>ldW S 4 true v9 fun v14=>srW 4 [v13,v14] fun v15=>bdW [.int .i64 0,.str ⟨#[]⟩,.str ⟨#[]⟩,.nils] [(0,1,v1),(3,1,v15)] fun v16=>bfW 4 v16 fun v11=>nkW v0 fun v18=>faW 3 v18 fun v19=>faW 2 v19 fun v20=>ldW S 1 false v20 fun v21=>biW .eql v21 (.int .i64 0) fun v22=>grW v22 true (ldW S 4 true v11 fun v24=>caW PG S (.func (.func 204) [] []) [v24] (fun v25 S=>biW .gtr v25 (.int .i64 12) fun v26=>pkW v22 v26 (.bool false) fun v27=>C172_1 QF v0 v7 v10 v11 v27 S) (pqW QF)) (pkW v22 q05 (.bool false) fun v27=>C172_1 QF v0 v7 v10 v11 v27 S)
theorem wx172 {QF:AEnd→q00→Prop} {v0 v1 v2 v3 v4:AV} {S:q00} (h:Bx172 QF v0 v1 v2 v3 v4 S):ACalls PG nrx172 [v0,v1,v2,v3,v4] S QF:=
 q02 (F:=tfx172) (by kernel_rfl) rfl (by kernel_rfl) h
def tfx173:TFunc where
 n:=9
 args:=2
 res:=[.tmp 4]
 code:=.seq (.reg [i1 4 (.mov (.c (.bool false)))] [0,1] []) (.seq (.reg [im 5 0,im 6 1,i1 7 (.call (.f 205) [.t 5,.t 6]),i1 8 (.bin .geq (.t 7) (.c (.int .i64 0))),im 4 8] [4] []) (.ret))
abbrev nrx173:Nat:=173
def Bx173 (QF:AEnd→q00→Prop) (v0 v1:AV) (S:q00):Prop:=caW PG S (.func (.func 205) [] []) [v0,v1] (fun v7 S=>biW .geq v7 (.int .i64 0) fun v8=>rtW [.tmp v8] QF S) (pqW QF)
theorem wx173 {QF:AEnd→q00→Prop} {v0 v1:AV} {S:q00} (h:Bx173 QF v0 v1 S):ACalls PG nrx173 [v0,v1] S QF:=
 q02 (F:=tfx173) (by kernel_rfl) rfl (by kernel_rfl) h
def tfx174:TFunc where
 n:=6
 args:=1
 res:=[.tmp 2]
 code:=.seq (.reg [i1 1 (.boxr 53 6 (.t 0)),i1 2 (.mov (.c (.bool false)))] [1] []) (.seq (.reg [iL 3 6 1,i1 4 (.call (.f 175) [.t 3]),i1 5 (.not (.t 4)),im 2 5] [2] []) (.ret))
abbrev nrx174:Nat:=174
def Bx174 (QF:AEnd→q00→Prop) (v0:AV) (S:q00):Prop:=brW 6 v0 fun v1=>ldW S 6 true v1 fun v3=>caW PG S (.func (.func 175) [] []) [v3] (fun v4 S=>ntW v4 fun v5=>rtW [.tmp v5] QF S) (pqW QF)
theorem wx174 {QF:AEnd→q00→Prop} {v0:AV} {S:q00} (h:Bx174 QF v0 S):ACalls PG nrx174 [v0] S QF:=
 q02 (F:=tfx174) (by kernel_rfl) rfl (by kernel_rfl) h
def tfx175:TFunc where
 n:=24
 args:=1
 res:=[.tmp 2]
 code:=.seq (.reg [i1 1 (.boxr 53 6 (.t 0)),i1 2 (.mov (.c (.bool false)))] [1] []) (.seq (.seq (.reg [ia 3 1 1,il 4 1 3,i1 5 (.len 1 (.t 4)),i1 6 (.bin .eql (.t 5) (.c (.int .i64 0)))] [1,6] []) (.cond (.t 6) (.seq (.reg [ia 7 0 1,il 8 1 7,i1 9 (.call (.f 144) [.t 8]),im 10 9,
  .grp 10 true [s1 11 (.faddr 2 (.t 1)),s1 12 (.load 4 true (.t 11)),s1 13 (.call (.f 206) [.t 12,.c (.int .i64 12)])],i1 14 (.pick (.t 10) (.t 13) (.c (.bool false))),im 2 14] [2] []) (.ret)) (.skip))) (.seq (.reg [ia 15 0 1,il 16 1 15,i1 17 (.call (.f 144) [.t 16]),im 18 17,
  .grp 18 true [s1 19 (.faddr 1 (.t 1)),s1 20 (.load 1 false (.t 19)),s1 21 (.call (.f 207) [.t 20,.f 208]),s1 22 (.not (.t 21))],i1 23 (.pick (.t 18) (.t 22) (.c (.bool false))),im 2 23] [2] []) (.ret)))
abbrev nrx175:Nat:=175
def Bx175 (QF:AEnd→q00→Prop) (v0:AV) (S:q00):Prop:=brW 6 v0 fun v1=>faW 1 v1 fun v3=>ldW S 1 false v3 fun v4=>lnW S 1 v4 fun v5=>biW .eql v5 (.int .i64 0) fun v6=>cnW v6 (faW 0 v1 fun v7=>ldW S 1 false v7 fun v8=>caW PG S (.func (.func 144) [] []) [v8] (fun v9 S=>grW v9 true (faW 2 v1 fun v11=>ldW S 4 true v11 fun v12=>caW PG S (.func (.func 206) [] []) [v12,(.int .i64 12)] (fun v13 S=>pkW v9 v13 (.bool false) fun v14=>rtW [.tmp v14] QF S) (pqW QF)) (pkW v9 q05 (.bool false) fun v14=>rtW [.tmp v14] QF S)) (pqW QF)) (faW 0 v1 fun v15=>ldW S 1 false v15 fun v16=>caW PG S (.func (.func 144) [] []) [v16] (fun v17 S=>grW v17 true (faW 1 v1 fun v19=>ldW S 1 false v19 fun v20=>caW PG S (.func (.func 207) [] []) [v20,(.func (.func 208) [] [])] (fun v21 S=>ntW v21 fun v22=>pkW v17 v22 (.bool false) fun v23=>rtW [.tmp v23] QF S) (pqW QF)) (pkW v17 q05 (.bool false) fun v23=>rtW [.tmp v23] QF S)) (pqW QF))
theorem wx175 {QF:AEnd→q00→Prop} {v0:AV} {S:q00} (h:Bx175 QF v0 S):ACalls PG nrx175 [v0] S QF:=
 q02 (F:=tfx175) (by kernel_rfl) rfl (by kernel_rfl) h
def tfx176:TFunc where
 n:=42
 args:=3
 res:=[.tmp 6]
 code:=.seq (.reg [i1 3 (.boxr 51 4 (.t 0)),i1 6 (.mov (.c (.bool false)))] [1,2,3] []) (.seq (.seq (.reg [ia 9 3 3,il 10 1 9,i1 11 (.len 1 (.t 10)),i1 12 (.mov (.c (.int .i64 0)))] [1,2,3,10,11,12] []) (.block 0 (.loop [1,2,3,10,11,12] (.seq (.reg [i1 13 (.bin .lss (.t 12) (.t 11))] [1,2,3,10,11,12,13] []) (.seq (.cond (.t 13) (.skip) (.exit 0)) (.seq (.block 1 (.seq (.reg [im 14 12,i1 15 (.iaddr 4 (.t 10) (.t 12)),iL 16 4 15,i1 8 (.alloc 51 [.int .i64 0,.str ⟨#[]⟩,.str ⟨#[]⟩,.nils]),im 7 14,i0 (.store 4 (.t 8) (.t 16))] [1,2,3,7,8,10,11,12] [8]) (.seq (.reg [iL 17 4 8,im 18 1,im 19 18,
  .grp 19 false [s1 20 (.faddr 0 (.t 3)),s1 21 (.load 1 false (.t 20)),s1 22 (.bin .eql (.t 21) (.c (.int .i64 4))),s1 23 (.mov (.t 22))],
  .grp 23 true [s1 24 (.mov (.t 7)),s1 25 (.bin .eql (.t 24) (.c (.int .i64 1)))],
  .grp 19 false [s1 26 (.pick (.t 23) (.t 25) (.c (.bool false)))],i1 27 (.pick (.t 19) (.c (.bool true)) (.t 26)),im 28 2,i1 29 (.call (.f 176) [.t 17,.t 27,.t 28]),i1 30 (.not (.t 29))] [1,2,3,10,11,12,30] []) (.cond (.t 30) (.seq (.reg [i1 6 (.mov (.c (.bool false)))] [6] []) (.ret)) (.skip))))) (.reg [i1 31 (.bin .add (.t 12) (.c (.int .i64 1))),im 12 31] [1,2,3,10,11,12] []))))))) (.seq (.reg [ia 32 3 3,il 33 1 32,i1 34 (.len 1 (.t 33)),i1 35 (.bin .gtr (.t 34) (.c (.int .i64 0))),im 36 35,
  .grp 36 false [s1 37 (.mov (.t 2)),s1 38 (.load 4 true (.t 3)),s1 39 (.mov (.t 1)),s1 40 (.call (.t 37) [.t 38,.t 39])],i1 41 (.pick (.t 36) (.c (.bool true)) (.t 40)),im 6 41] [6] []) (.ret)))
abbrev nrx176:Nat:=176
def C176_4 (QF:AEnd→q00→Prop) (r0:LE→q00→Prop) (v1 v2 v3 v10 v11 v12 v17 v27:AV) (S:q00):Prop:=caW PG S (.func (.func 176) [] []) [v17,v27,v2] (fun v29 S=>ntW v29 fun v30=>cnW v30 (rtW [.tmp (.bool false)] QF S) (biW .add v12 (.int .i64 1) fun v31=>rcW r0 [(1,v1),(2,v2),(3,v3),(10,v10),(11,v11),(12,v31)] S)) (pqW QF)
def C176_3 (QF:AEnd→q00→Prop) (r0:LE→q00→Prop) (v1 v2 v3 v10 v11 v12 v17 v19 v23 v25:AV) (S:q00):Prop:=grW v19 false (pkW v23 v25 (.bool false) fun v26=>pkW v19 (.bool true) v26 fun v27=>C176_4 QF r0 v1 v2 v3 v10 v11 v12 v17 v27 S) (pkW v19 (.bool true) q05 fun v27=>C176_4 QF r0 v1 v2 v3 v10 v11 v12 v17 v27 S)
def C176_2 (QF:AEnd→q00→Prop) (r0:LE→q00→Prop) (v1 v2 v3 v7 v10 v11 v12 v17 v19 v23:AV) (S:q00):Prop:=grW v23 true (biW .eql v7 (.int .i64 1) fun v25=>C176_3 QF r0 v1 v2 v3 v10 v11 v12 v17 v19 v23 v25 S) (C176_3 QF r0 v1 v2 v3 v10 v11 v12 v17 v19 v23 q05 S)
def C176_1 (QF:AEnd→q00→Prop) (r0:LE→q00→Prop) (v1 v2 v3 v10 v11 v12:AV) (S:q00):Prop:=biW .lss v12 v11 fun v13=>cnW v13 (iaW 4 v10 v12 fun v15=>ldW S 4 true v15 fun v16=>alW S 51 [.int .i64 0,.str ⟨#[]⟩,.str ⟨#[]⟩,.nils] fun v8 S=>stW S 4 v8 v16 fun S=>fzW S v8 fun v8 S=>ldW S 4 true v8 fun v17=>grW v1 false (faW 0 v3 fun v20=>ldW S 1 false v20 fun v21=>biW .eql v21 (.int .i64 4) fun v22=>C176_2 QF r0 v1 v2 v3 v12 v10 v11 v12 v17 v1 v22 S) (C176_2 QF r0 v1 v2 v3 v12 v10 v11 v12 v17 v1 q05 S)) (faW 3 v3 fun v32=>ldW S 1 false v32 fun v33=>lnW S 1 v33 fun v34=>biW .gtr v34 (.int .i64 0) fun v35=>grW v35 false (ldW S 4 true v3 fun v38=>caW PG S v2 [v38,v1] (fun v40 S=>pkW v35 (.bool true) v40 fun v41=>rtW [.tmp v41] QF S) (pqW QF)) (pkW v35 (.bool true) q05 fun v41=>rtW [.tmp v41] QF S))
def Bx176 (QF:AEnd→q00→Prop) (v0 v1 v2:AV) (S:q00):Prop:=brW 4 v0 fun v3=>faW 3 v3 fun v9=>ldW S 1 false v9 fun v10=>lnW S 1 v10 fun v11=>LoopP (fun r0 l S=>C176_1 QF r0 (lget l 1) (lget l 2) (lget l 3) (lget l 10) (lget l 11) (lget l 12) S) [(1,v1),(2,v2),(3,v3),(10,v10),(11,v11),(12,(.int .i64 0))] S
theorem wx176 {QF:AEnd→q00→Prop} {v0 v1 v2:AV} {S:q00} (h:Bx176 QF v0 v1 v2 S):ACalls PG nrx176 [v0,v1,v2] S QF:=
 q02 (F:=tfx176) (by kernel_rfl) rfl (by kernel_rfl) h
def tfx177:TFunc where
 n:=14
 args:=5
 res:=[.tmp 7]
 code:=.seq (.reg [i1 5 (.boxr 51 4 (.t 0)),i1 7 (.mov (.c (.bool false)))] [2,3,4,5] []) (.seq (.reg [il 8 1 2,il 9 1 3,iL 10 4 5,i1 11 (.call (.f 178) [.t 8,.t 9,.t 10]),i0 (.store 1 (.t 4) (.t 11))] [4] []) (.seq (.reg [il 12 1 4,i1 13 (.bin .eql (.t 12) (.c (.int .i64 0))),im 7 13] [7] []) (.ret)))
abbrev nrx177:Nat:=177
def Bx177 (QF:AEnd→q00→Prop) (v0 v1 v2 v3 v4:AV) (S:q00):Prop:=brW 4 v0 fun v5=>ldW S 1 false v2 fun v8=>ldW S 1 false v3 fun v9=>ldW S 4 true v5 fun v10=>caW PG S (.func (.func 178) [] []) [v8,v9,v10] (fun v11 S=>stW S 1 v4 v11 fun S=>ldW S 1 false v4 fun v12=>biW .eql v12 (.int .i64 0) fun v13=>rtW [.tmp v13] QF S) (pqW QF)
theorem wx177 {QF:AEnd→q00→Prop} {v0 v1 v2 v3 v4:AV} {S:q00} (h:Bx177 QF v0 v1 v2 v3 v4 S):ACalls PG nrx177 [v0,v1,v2,v3,v4] S QF:=
 q02 (F:=tfx177) (by kernel_rfl) rfl (by kernel_rfl) h
def tfx178:TFunc where
 n:=41
 args:=3
 res:=[.tmp 6]
 code:=.seq (.reg [i1 5 (.boxr 51 4 (.t 2)),i1 6 (.mov (.c (.int .i64 0)))] [0,1,5] []) (.seq (.reg [im 10 0,im 11 1,ia 12 1 5,il 13 1 12,i1 14 (.call (.f 96) [.t 10,.t 11,.t 13]),im 9 14,i1 15 (.extr (.t 9) 0),i1 16 (.extr (.t 9) 1),
  .box2 7 163 [.int .i64 0,.int .i64 0] 2 (.t 15),im 8 16] [0,5,7,8] []) (.seq (.block 0 (.seq (.reg [im 18 8,i1 19 (.not (.t 18)),im 17 19] [0,5,7,17] []) (.cond (.t 17) (.seq (.reg [i1 6 (.mov (.c (.int .i64 6)))] [6] []) (.ret)) (.seq (.reg [ia 21 0 5,il 22 1 21,i1 23 (.bin .eql (.t 22) (.c (.int .i64 0))),im 20 23] [0,5,7,20] []) (.cond (.t 20) (.seq (.reg [i1 6 (.mov (.c (.int .i64 0)))] [6] []) (.ret)) (.seq (.reg [im 25 0,iL 26 2 7,i1 27 (.call (.f 97) [.t 25,.t 26]),i1 28 (.field 1 1 false (.t 27)),i1 29 (.len 1 (.t 28)),i1 30 (.bin .eql (.t 29) (.c (.int .i64 0))),im 24 30] [0,5,7,24] []) (.cond (.t 24) (.seq (.reg [i1 6 (.mov (.c (.int .i64 10)))] [6] []) (.ret)) (.seq (.regl [0,1,4,2,5,3,6,7,8,9] [im 32 0,im 33 0,ia 36 2 5,iL 34 2 7,il 37 1 36,
  .one { d:=some 35,o:=.call (.f 97) [.t 33,.t 34],x:=[36] },i1 38 (.call (.f 180) [.t 32,.t 35,.t 37]),i1 39 (.len 1 (.t 38)),i1 40 (.bin .eql (.t 39) (.c (.int .i64 0))),im 31 40] [31] []) (.cond (.t 31) (.seq (.reg [i1 6 (.mov (.c (.int .i64 6)))] [6] []) (.ret)) (.skip)))))))))) (.seq (.reg [i1 6 (.mov (.c (.int .i64 0)))] [6] []) (.ret))))
abbrev nrx178:Nat:=178
def Bx178 (QF:AEnd→q00→Prop) (v0 v1 v2:AV) (S:q00):Prop:=brW 4 v2 fun v5=>faW 1 v5 fun v12=>ldW S 1 false v12 fun v13=>caW PG S (.func (.func 96) [] []) [v0,v1,v13] (fun v14 S=>exW 0 v14 fun v15=>exW 1 v14 fun v16=>bfW 2 v15 fun v7=>ntW v16 fun v19=>cnW v19 (rtW [.tmp (.int .i64 6)] QF S) (faW 0 v5 fun v21=>ldW S 1 false v21 fun v22=>biW .eql v22 (.int .i64 0) fun v23=>cnW v23 (rtW [.tmp (.int .i64 0)] QF S) (ldW S 2 true v7 fun v26=>caW PG S (.func (.func 97) [] []) [v0,v26] (fun v27 S=>fdW 1 1 false v27 fun v28=>lnW S 1 v28 fun v29=>biW .eql v29 (.int .i64 0) fun v30=>cnW v30 (rtW [.tmp (.int .i64 10)] QF S) (faW 2 v5 fun v36=>ldW S 2 true v7 fun v34=>ldW S 1 false v36 fun v37=>caW PG S (.func (.func 97) [] []) [v0,v34] (fun v35 S1=>kpW [v36] S S1 ( caW PG S1 (.func (.func 180) [] []) [v0,v35,v37] (fun v38 S=>lnW S 1 v38 fun v39=>biW .eql v39 (.int .i64 0) fun v40=>cnW v40 (rtW [.tmp (.int .i64 6)] QF S) (rtW [.tmp (.int .i64 0)] QF S)) (pqW QF))) (pqW QF))) (pqW QF)))) (pqW QF)
theorem wx178 {QF:AEnd→q00→Prop} {v0 v1 v2:AV} {S:q00} (h:Bx178 QF v0 v1 v2 S):ACalls PG nrx178 [v0,v1,v2] S QF:=
 q02 (F:=tfx178) (by kernel_rfl) rfl (by kernel_rfl) h
def tfx179:TFunc where
 n:=49
 args:=5
 res:=[.tmp 7]
 code:=.seq (.reg [i1 5 (.boxr 51 4 (.t 0)),i1 7 (.mov (.c (.bool false)))] [1,2,3,4,5] []) (.seq (.reg [il 13 1 2,ia 14 0 3,il 15 1 14,ia 16 1 5,il 17 1 16,i1 18 (.call (.f 96) [.t 13,.t 15,.t 17]),im 12 18,i1 19 (.extr (.t 12) 0),i1 20 (.extr (.t 12) 1),
  .box2 8 163 [.int .i64 0,.int .i64 0] 2 (.t 19),im 9 20] [1,2,4,5,8] []) (.seq (.reg [il 21 1 4,iL 22 2 8,im 23 1,i1 24 (.build [.int .i64 0,.int .i64 0,.bool false] [(0,2,.t 22),(2,1,.t 23)]),i1 25 (.bslicr 227 3 [.t 24]),i1 26 (.app 227 3 24 (.t 21) (.t 25)),i0 (.store 1 (.t 4) (.t 26))] [1,2,4,5,8] []) (.seq (.seq (.reg [ia 27 0 5,il 28 1 27,i1 29 (.bin .eql (.t 28) (.c (.int .i64 1)))] [1,2,4,5,8,29] []) (.cond (.t 29) (.seq (.regl [4,8,0,1,2,5,3,6,7] [ia 34 2 5,i1 38 (.mov (.c (.int .i64 0))),il 30 1 2,il 31 1 2,iL 32 2 8,il 35 1 34,
  .one { d:=some 33,o:=.call (.f 97) [.t 31,.t 32],x:=[2,34] },i1 36 (.call (.f 180) [.t 30,.t 33,.t 35]),i1 37 (.len 1 (.t 36))] [1,4,36,37,38] []) (.block 0 (.loop [1,4,36,37,38] (.seq (.reg [i1 39 (.bin .lss (.t 38) (.t 37))] [1,4,36,37,38,39] []) (.seq (.cond (.t 39) (.skip) (.exit 0)) (.seq (.block 1 (.seq (.reg [i1 40 (.iaddr 2 (.t 36) (.t 38)),iL 41 2 40,
  .box2 11 163 [.int .i64 0,.int .i64 0] 2 (.t 41)] [1,4,11,36,37,38] []) (.reg [il 42 1 4,iL 43 2 11,im 44 1,i1 45 (.build [.int .i64 0,.int .i64 0,.bool false] [(0,2,.t 43),(2,1,.t 44)]),i1 46 (.bslicr 227 3 [.t 45]),i1 47 (.app 227 3 24 (.t 42) (.t 46)),i0 (.store 1 (.t 4) (.t 47))] [1,4,36,37,38] []))) (.reg [i1 48 (.bin .add (.t 38) (.c (.int .i64 1))),im 38 48] [1,4,36,37,38] []))))))) (.skip))) (.seq (.reg [i1 7 (.mov (.c (.bool true)))] [7] []) (.ret)))))
abbrev nrx179:Nat:=179
def C179_1 (QF:AEnd→q00→Prop) (r0:LE→q00→Prop) (v1 v4 v36 v37 v38:AV) (S:q00):Prop:=biW .lss v38 v37 fun v39=>cnW v39 (iaW 2 v36 v38 fun v40=>ldW S 2 true v40 fun v41=>bfW 2 v41 fun v11=>ldW S 1 false v4 fun v42=>ldW S 2 true v11 fun v43=>bdW [.int .i64 0,.int .i64 0,.bool false] [(0,2,v43),(2,1,v1)] fun v45=>srW 3 [v45] fun v46=>apW S 227 3 24 v42 v46 fun v47 S=>stW S 1 v4 v47 fun S=>biW .add v38 (.int .i64 1) fun v48=>rcW r0 [(1,v1),(4,v4),(36,v36),(37,v37),(38,v48)] S) (rtW [.tmp (.bool true)] QF S)
def Bx179 (QF:AEnd→q00→Prop) (v0 v1 v2 v3 v4:AV) (S:q00):Prop:=brW 4 v0 fun v5=>ldW S 1 false v2 fun v13=>faW 0 v3 fun v14=>ldW S 1 false v14 fun v15=>faW 1 v5 fun v16=>ldW S 1 false v16 fun v17=>caW PG S (.func (.func 96) [] []) [v13,v15,v17] (fun v18 S=>exW 0 v18 fun v19=>exW 1 v18 fun v20=>bfW 2 v19 fun v8=>ldW S 1 false v4 fun v21=>ldW S 2 true v8 fun v22=>bdW [.int .i64 0,.int .i64 0,.bool false] [(0,2,v22),(2,1,v1)] fun v24=>srW 3 [v24] fun v25=>apW S 227 3 24 v21 v25 fun v26 S=>stW S 1 v4 v26 fun S=>faW 0 v5 fun v27=>ldW S 1 false v27 fun v28=>biW .eql v28 (.int .i64 1) fun v29=>cnW v29 (faW 2 v5 fun v34=>ldW S 1 false v2 fun v30=>ldW S 1 false v2 fun v31=>ldW S 2 true v8 fun v32=>ldW S 1 false v34 fun v35=>caW PG S (.func (.func 97) [] []) [v31,v32] (fun v33 S1=>kpW [v2,v34] S S1 ( caW PG S1 (.func (.func 180) [] []) [v30,v33,v35] (fun v36 S=>lnW S 1 v36 fun v37=>LoopP (fun r0 l S=>C179_1 QF r0 (lget l 1) (lget l 4) (lget l 36) (lget l 37) (lget l 38) S) [(1,v1),(4,v4),(36,v36),(37,v37),(38,(.int .i64 0))] S) (pqW QF))) (pqW QF)) (rtW [.tmp (.bool true)] QF S)) (pqW QF)
theorem wx179 {QF:AEnd→q00→Prop} {v0 v1 v2 v3 v4:AV} {S:q00} (h:Bx179 QF v0 v1 v2 v3 v4 S):ACalls PG nrx179 [v0,v1,v2,v3,v4] S QF:=
 q02 (F:=tfx179) (by kernel_rfl) rfl (by kernel_rfl) h
def tfx180:TFunc where
 n:=39
 args:=3
 res:=[.tmp 6]
 code:=.seq (.reg [i1 4 (.boxr 53 6 (.t 1)),i1 6 (.mov (.c (.nils)))] [0,2,4] []) (.seq (.reg [i1 7 (.mov (.c (.nils)))] [0,2,4,7] []) (.seq (.seq (.reg [ia 12 1 4,il 13 1 12,i1 14 (.len 1 (.t 13)),i1 15 (.mov (.c (.int .i64 0)))] [0,2,7,13,14,15] []) (.block 0 (.loop [0,2,7,13,14,15] (.seq (.reg [i1 16 (.bin .lss (.t 15) (.t 14))] [0,2,7,13,14,15,16] []) (.seq (.cond (.t 16) (.skip) (.exit 0)) (.seq (.block 1 (.seq (.reg [i1 17 (.iaddr 2 (.t 13) (.t 15)),iL 18 2 17,
  .box2 9 171 [.str ⟨#[]⟩,.str ⟨#[]⟩] 2 (.t 18)] [0,2,7,9,13,14,15] []) (.seq (.reg [im 20 0,ia 21 0 9,il 22 1 21,im 23 2,i1 24 (.call (.f 96) [.t 20,.t 22,.t 23]),im 19 24,i1 25 (.extr (.t 19) 0),i1 26 (.extr (.t 19) 1),
  .box2 10 163 [.int .i64 0,.int .i64 0] 2 (.t 25),im 11 26] [0,2,7,9,10,11,13,14,15] []) (.seq (.reg [im 27 11,im 28 27,
  .grp 28 true [s1 29 (.faddr 1 (.t 9)),s1 30 (.load 1 false (.t 29)),s1 31 (.bin .eql (.t 30) (.c (.str ⟨#[]⟩)))],i1 32 (.pick (.t 28) (.t 31) (.c (.bool false)))] [0,2,7,10,13,14,15,32] []) (.cond (.t 32) (.reg [im 33 7,iL 34 2 10,i1 35 (.bslicr 163 2 [.t 34]),i1 36 (.app 163 2 16 (.t 33) (.t 35)),im 7 36] [0,2,7,13,14,15] []) (.skip)))))) (.reg [i1 37 (.bin .add (.t 15) (.c (.int .i64 1))),im 15 37] [0,2,7,13,14,15] []))))))) (.seq (.reg [im 38 7,im 6 38] [6] []) (.ret))))
abbrev nrx180:Nat:=180
def C180_2 (QF:AEnd→q00→Prop) (r0:LE→q00→Prop) (v0 v2 v7 v10 v13 v14 v15 v32:AV) (S:q00):Prop:=cnW v32 (ldW S 2 true v10 fun v34=>srW 2 [v34] fun v35=>apW S 163 2 16 v7 v35 fun v36 S=>biW .add v15 (.int .i64 1) fun v37=>rcW r0 [(0,v0),(2,v2),(7,v36),(13,v13),(14,v14),(15,v37)] S) (biW .add v15 (.int .i64 1) fun v37=>rcW r0 [(0,v0),(2,v2),(7,v7),(13,v13),(14,v14),(15,v37)] S)
def C180_1 (QF:AEnd→q00→Prop) (r0:LE→q00→Prop) (v0 v2 v7 v13 v14 v15:AV) (S:q00):Prop:=biW .lss v15 v14 fun v16=>cnW v16 (iaW 2 v13 v15 fun v17=>ldW S 2 true v17 fun v18=>bfW 2 v18 fun v9=>faW 0 v9 fun v21=>ldW S 1 false v21 fun v22=>caW PG S (.func (.func 96) [] []) [v0,v22,v2] (fun v24 S=>exW 0 v24 fun v25=>exW 1 v24 fun v26=>bfW 2 v25 fun v10=>grW v26 true (faW 1 v9 fun v29=>ldW S 1 false v29 fun v30=>biW .eql v30 (.str ⟨#[]⟩) fun v31=>pkW v26 v31 (.bool false) fun v32=>C180_2 QF r0 v0 v2 v7 v10 v13 v14 v15 v32 S) (pkW v26 q05 (.bool false) fun v32=>C180_2 QF r0 v0 v2 v7 v10 v13 v14 v15 v32 S)) (pqW QF)) (rtW [.tmp v7] QF S)
def Bx180 (QF:AEnd→q00→Prop) (v0 v1 v2:AV) (S:q00):Prop:=brW 6 v1 fun v4=>faW 1 v4 fun v12=>ldW S 1 false v12 fun v13=>lnW S 1 v13 fun v14=>LoopP (fun r0 l S=>C180_1 QF r0 (lget l 0) (lget l 2) (lget l 7) (lget l 13) (lget l 14) (lget l 15) S) [(0,v0),(2,v2),(7,(.nils)),(13,v13),(14,v14),(15,(.int .i64 0))] S
theorem wx180 {QF:AEnd→q00→Prop} {v0 v1 v2:AV} {S:q00} (h:Bx180 QF v0 v1 v2 S):ACalls PG nrx180 [v0,v1,v2] S QF:=
 q02 (F:=tfx180) (by kernel_rfl) rfl (by kernel_rfl) h
def tfx181:TFunc where
 n:=29
 args:=3
 res:=[.tmp 6]
 code:=.seq (.reg [i1 6 (.mov (.c (.bool false)))] [0,1,2] []) (.seq (.seq (.reg [im 8 0,i1 9 (.len 0 (.t 8)),i1 10 (.mov (.c (.int .i64 0)))] [0,1,2,9,10] []) (.block 0 (.loop [0,1,2,9,10] (.seq (.reg [i1 11 (.bin .lss (.t 10) (.t 9))] [0,1,2,9,10,11] []) (.seq (.cond (.t 11) (.skip) (.exit 0)) (.seq (.block 1 (.seq (.reg [im 12 10,im 7 12] [0,1,2,7,9,10] []) (.seq (.reg [im 13 2,im 14 0,im 15 7,i1 16 (.idxs (.t 14) (.t 15)),i1 17 (.call (.t 13) [.t 16]),i1 18 (.not (.t 17))] [0,1,2,9,10,18] []) (.cond (.t 18) (.seq (.reg [i1 6 (.mov (.c (.bool false)))] [6] []) (.ret)) (.skip))))) (.reg [i1 19 (.bin .add (.t 10) (.c (.int .i64 1))),im 10 19] [0,1,2,9,10] []))))))) (.seq (.reg [im 20 0,i1 21 (.len 0 (.t 20)),i1 22 (.bin .gtr (.t 21) (.c (.int .i64 0))),im 23 22,
  .grp 23 true [s1 24 (.mov (.t 0)),s1 25 (.len 0 (.t 24)),s1 26 (.mov (.t 1)),s1 27 (.bin .leq (.t 25) (.t 26))],i1 28 (.pick (.t 23) (.t 27) (.c (.bool false))),im 6 28] [6] []) (.ret)))
abbrev nrx181:Nat:=181
def C181_1 (QF:AEnd→q00→Prop) (r0:LE→q00→Prop) (v0 v1 v2 v9 v10:AV) (S:q00):Prop:=biW .lss v10 v9 fun v11=>cnW v11 (isW v0 v10 fun v16=>caW PG S v2 [v16] (fun v17 S=>ntW v17 fun v18=>cnW v18 (rtW [.tmp (.bool false)] QF S) (biW .add v10 (.int .i64 1) fun v19=>rcW r0 [(0,v0),(1,v1),(2,v2),(9,v9),(10,v19)] S)) (pqW QF)) (lnW S 0 v0 fun v21=>biW .gtr v21 (.int .i64 0) fun v22=>grW v22 true (lnW S 0 v0 fun v25=>biW .leq v25 v1 fun v27=>pkW v22 v27 (.bool false) fun v28=>rtW [.tmp v28] QF S) (pkW v22 q05 (.bool false) fun v28=>rtW [.tmp v28] QF S))
def Bx181 (QF:AEnd→q00→Prop) (v0 v1 v2:AV) (S:q00):Prop:=lnW S 0 v0 fun v9=>LoopP (fun r0 l S=>C181_1 QF r0 (lget l 0) (lget l 1) (lget l 2) (lget l 9) (lget l 10) S) [(0,v0),(1,v1),(2,v2),(9,v9),(10,(.int .i64 0))] S
theorem wx181 {QF:AEnd→q00→Prop} {v0 v1 v2:AV} {S:q00} (h:Bx181 QF v0 v1 v2 S):ACalls PG nrx181 [v0,v1,v2] S QF:=
 q02 (F:=tfx181) (by kernel_rfl) rfl (by kernel_rfl) h
def tfx182:TFunc where
 n:=13
 args:=1
 res:=[.tmp 2]
 code:=.seq (.reg [i1 2 (.mov (.c (.bool false)))] [0] []) (.seq (.reg [im 3 0,i1 4 (.call (.f 183) [.t 3]),im 5 4,
  .grp 5 false [s1 6 (.mov (.t 0)),s1 7 (.call (.f 184) [.t 6])],i1 8 (.pick (.t 5) (.c (.bool true)) (.t 7)),im 9 8,
  .grp 9 false [s1 10 (.mov (.t 0)),s1 11 (.bin .eql (.t 10) (.c (.int .u8 95)))],i1 12 (.pick (.t 9) (.c (.bool true)) (.t 11)),im 2 12] [2] []) (.ret))
abbrev nrx182:Nat:=182
def C182_1 (QF:AEnd→q00→Prop) (v0 v8:AV) (S:q00):Prop:=grW v8 false (biW .eql v0 (.int .u8 95) fun v11=>pkW v8 (.bool true) v11 fun v12=>rtW [.tmp v12] QF S) (pkW v8 (.bool true) q05 fun v12=>rtW [.tmp v12] QF S)
def Bx182 (QF:AEnd→q00→Prop) (v0:AV) (S:q00):Prop:=caW PG S (.func (.func 183) [] []) [v0] (fun v4 S=>grW v4 false (caW PG S (.func (.func 184) [] []) [v0] (fun v7 S=>pkW v4 (.bool true) v7 fun v8=>C182_1 QF v0 v8 S) (pqW QF)) (pkW v4 (.bool true) q05 fun v8=>C182_1 QF v0 v8 S)) (pqW QF)
theorem wx182 {QF:AEnd→q00→Prop} {v0:AV} {S:q00} (h:Bx182 QF v0 S):ACalls PG nrx182 [v0] S QF:=
 q02 (F:=tfx182) (by kernel_rfl) rfl (by kernel_rfl) h
def tfx183:TFunc where
 n:=9
 args:=1
 res:=[.tmp 2]
 code:=.seq (.reg [i1 2 (.mov (.c (.bool false)))] [0] []) (.seq (.reg [im 3 0,i1 4 (.bin .geq (.t 3) (.c (.int .u8 97))),im 5 4,
  .grp 5 true [s1 6 (.mov (.t 0)),s1 7 (.bin .leq (.t 6) (.c (.int .u8 122)))],i1 8 (.pick (.t 5) (.t 7) (.c (.bool false))),im 2 8] [2] []) (.ret))
abbrev nrx183:Nat:=183
def Bx183 (QF:AEnd→q00→Prop) (v0:AV) (S:q00):Prop:=biW .geq v0 (.int .u8 97) fun v4=>grW v4 true (biW .leq v0 (.int .u8 122) fun v7=>pkW v4 v7 (.bool false) fun v8=>rtW [.tmp v8] QF S) (pkW v4 q05 (.bool false) fun v8=>rtW [.tmp v8] QF S)
theorem wx183 {QF:AEnd→q00→Prop} {v0:AV} {S:q00} (h:Bx183 QF v0 S):ACalls PG nrx183 [v0] S QF:=
 q02 (F:=tfx183) (by kernel_rfl) rfl (by kernel_rfl) h
def tfx184:TFunc where
 n:=9
 args:=1
 res:=[.tmp 2]
 code:=.seq (.reg [i1 2 (.mov (.c (.bool false)))] [0] []) (.seq (.reg [im 3 0,i1 4 (.bin .geq (.t 3) (.c (.int .u8 48))),im 5 4,
  .grp 5 true [s1 6 (.mov (.t 0)),s1 7 (.bin .leq (.t 6) (.c (.int .u8 57)))],i1 8 (.pick (.t 5) (.t 7) (.c (.bool false))),im 2 8] [2] []) (.ret))
abbrev nrx184:Nat:=184
def Bx184 (QF:AEnd→q00→Prop) (v0:AV) (S:q00):Prop:=biW .geq v0 (.int .u8 48) fun v4=>grW v4 true (biW .leq v0 (.int .u8 57) fun v7=>pkW v4 v7 (.bool false) fun v8=>rtW [.tmp v8] QF S) (pkW v4 q05 (.bool false) fun v8=>rtW [.tmp v8] QF S)
theorem wx184 {QF:AEnd→q00→Prop} {v0:AV} {S:q00} (h:Bx184 QF v0 S):ACalls PG nrx184 [v0] S QF:=
 q02 (F:=tfx184) (by kernel_rfl) rfl (by kernel_rfl) h
def tfx186:TFunc where
 n:=19
 args:=2
 res:=[.tmp 4]
 code:=.seq (.reg [i1 4 (.mov (.c (.int .i64 0)))] [0,1] []) (.seq (.seq (.reg [im 6 0,i1 7 (.len 1 (.t 6)),i1 8 (.mov (.c (.int .i64 0)))] [0,1,7,8] []) (.block 0 (.loop [0,1,7,8] (.seq (.reg [i1 9 (.bin .lss (.t 8) (.t 7))] [0,1,7,8,9] []) (.seq (.cond (.t 9) (.skip) (.exit 0)) (.seq (.block 1 (.seq (.reg [im 10 8,im 5 10] [0,1,5,7,8] []) (.seq (.reg [im 11 1,im 12 0,im 13 5,i1 14 (.iaddr 3 (.t 12) (.t 13)),iL 15 3 14,i1 16 (.call (.t 11) [.t 15])] [0,1,5,7,8,16] []) (.cond (.t 16) (.seq (.reg [im 17 5,im 4 17] [4] []) (.ret)) (.skip))))) (.reg [i1 18 (.bin .add (.t 8) (.c (.int .i64 1))),im 8 18] [0,1,7,8] []))))))) (.seq (.reg [i1 4 (.mov (.c (.int .i64 (-1))))] [4] []) (.ret)))
abbrev nrx186:Nat:=186
def C186_1 (QF:AEnd→q00→Prop) (r0:LE→q00→Prop) (v0 v1 v7 v8:AV) (S:q00):Prop:=biW .lss v8 v7 fun v9=>cnW v9 (iaW 3 v0 v8 fun v14=>ldW S 3 true v14 fun v15=>caW PG S v1 [v15] (fun v16 S=>cnW v16 (rtW [.tmp v8] QF S) (biW .add v8 (.int .i64 1) fun v18=>rcW r0 [(0,v0),(1,v1),(7,v7),(8,v18)] S)) (pqW QF)) (rtW [.tmp (.int .i64 (-1))] QF S)
def Bx186 (QF:AEnd→q00→Prop) (v0 v1:AV) (S:q00):Prop:=lnW S 1 v0 fun v7=>LoopP (fun r0 l S=>C186_1 QF r0 (lget l 0) (lget l 1) (lget l 7) (lget l 8) S) [(0,v0),(1,v1),(7,v7),(8,(.int .i64 0))] S
theorem wx186 {QF:AEnd→q00→Prop} {v0 v1:AV} {S:q00} (h:Bx186 QF v0 v1 S):ACalls PG nrx186 [v0,v1] S QF:=
 q02 (F:=tfx186) (by kernel_rfl) rfl (by kernel_rfl) h
end Go.HL
