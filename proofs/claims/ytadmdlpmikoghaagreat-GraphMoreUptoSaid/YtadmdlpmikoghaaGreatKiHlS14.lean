/- A part of a proof. -/
import Derived.Test.YtadmdlpmikoghaaGreatKiHlP
set_option maxRecDepth 100000
set_option linter.unusedVariables false
namespace Go.HL
def tfx205:TFunc where
 n:=19
 args:=2
 res:=[.tmp 4]
 code:=.seq (.reg [i1 4 (.mov (.c (.int .i64 0)))] [0,1] []) (.seq (.seq (.reg [im 6 0,i1 7 (.len 1 (.t 6)),i1 8 (.mov (.c (.int .i64 0)))] [0,1,7,8] []) (.block 0 (.loop [0,1,7,8] (.seq (.reg [i1 9 (.bin .lss (.t 8) (.t 7))] [0,1,7,8,9] []) (.seq (.cond (.t 9) (.skip) (.exit 0)) (.seq (.block 1 (.seq (.reg [im 10 8,im 5 10] [0,1,5,7,8] []) (.seq (.reg [im 11 1,im 12 0,im 13 5,i1 14 (.iaddr 6 (.t 12) (.t 13)),iL 15 6 14,i1 16 (.call (.t 11) [.t 15])] [0,1,5,7,8,16] []) (.cond (.t 16) (.seq (.reg [im 17 5,im 4 17] [4] []) (.ret)) (.skip))))) (.reg [i1 18 (.bin .add (.t 8) (.c (.int .i64 1))),im 8 18] [0,1,7,8] []))))))) (.seq (.reg [i1 4 (.mov (.c (.int .i64 (-1))))] [4] []) (.ret)))
abbrev nrx205:Nat:=205
def C205_1 (QF:AEnd→q00→Prop) (r0:LE→q00→Prop) (v0 v1 v7 v8:AV) (S:q00):Prop:=biW .lss v8 v7 fun v9=>cnW v9 (iaW 6 v0 v8 fun v14=>ldW S 6 true v14 fun v15=>caW PG S v1 [v15] (fun v16 S=>cnW v16 (rtW [.tmp v8] QF S) (biW .add v8 (.int .i64 1) fun v18=>rcW r0 [(0,v0),(1,v1),(7,v7),(8,v18)] S)) (pqW QF)) (rtW [.tmp (.int .i64 (-1))] QF S)
def Bx205 (QF:AEnd→q00→Prop) (v0 v1:AV) (S:q00):Prop:=lnW S 1 v0 fun v7=>LoopP (fun r0 l S=>C205_1 QF r0 (lget l 0) (lget l 1) (lget l 7) (lget l 8) S) [(0,v0),(1,v1),(7,v7),(8,(.int .i64 0))] S
theorem wx205 {QF:AEnd→q00→Prop} {v0 v1:AV} {S:q00} (h:Bx205 QF v0 v1 S):ACalls PG nrx205 [v0,v1] S QF:=
 q02 (F:=tfx205) (by kernel_rfl) rfl (by kernel_rfl) h
def tfx206:TFunc where
 n:=67
 args:=2
 res:=[.tmp 4]
 code:=.seq (.reg [i1 2 (.boxr 51 4 (.t 0)),i1 4 (.mov (.c (.bool false)))] [1,2] []) (.seq (.block 0 (.seq (.reg [im 6 1,i1 7 (.bin .eql (.t 6) (.c (.int .i64 0))),im 5 7] [1,2,5] []) (.cond (.t 5) (.seq (.reg [i1 4 (.mov (.c (.bool false)))] [4] []) (.ret)) (.seq (.reg [ia 9 0 2,il 10 1 9,i1 11 (.bin .eql (.t 10) (.c (.int .i64 0))),im 8 11] [1,2,8] []) (.cond (.t 8) (.seq (.reg [ia 12 1 2,il 13 1 12,i1 14 (.call (.f 144) [.t 13]),im 15 14,
  .grp 15 true [s1 16 (.faddr 3 (.t 2)),s1 17 (.load 1 false (.t 16)),s1 18 (.len 1 (.t 17)),s1 19 (.bin .eql (.t 18) (.c (.int .i64 0)))],i1 20 (.pick (.t 15) (.t 19) (.c (.bool false))),im 4 20] [4] []) (.ret)) (.seq (.reg [ia 22 0 2,il 23 1 22,i1 24 (.bin .eql (.t 23) (.c (.int .i64 1))),im 21 24] [1,2,21] []) (.cond (.t 21) (.seq (.reg [ia 25 1 2,il 26 1 25,i1 27 (.call (.f 144) [.t 26]),im 28 27,
  .grp 28 true [s1 29 (.faddr 2 (.t 2)),s1 30 (.load 1 false (.t 29)),s1 31 (.call (.f 144) [.t 30])],i1 32 (.pick (.t 28) (.t 31) (.c (.bool false))),im 33 32,
  .grp 33 true [s1 34 (.faddr 3 (.t 2)),s1 35 (.load 1 false (.t 34)),s1 36 (.len 1 (.t 35)),s1 37 (.bin .eql (.t 36) (.c (.int .i64 0)))],i1 38 (.pick (.t 33) (.t 37) (.c (.bool false))),im 4 38] [4] []) (.ret)) (.skip)))))))) (.seq (.reg [ia 39 0 2,il 40 1 39,i1 41 (.call (.f 214) [.t 40]),i1 42 (.bin .neq (.t 41) (.c (.str ⟨#[]⟩))),im 43 42,
  .grp 43 true [s1 44 (.faddr 3 (.t 2)),s1 45 (.load 1 false (.t 44)),s1 46 (.len 1 (.t 45)),s1 47 (.bin .eql (.t 46) (.c (.int .i64 2)))],i1 48 (.pick (.t 43) (.t 47) (.c (.bool false))),im 49 48,
  .grp 49 true [s1 50 (.faddr 3 (.t 2)),s1 51 (.load 1 false (.t 50)),s1 52 (.iaddr 4 (.t 51) (.c (.int .i64 0))),s1 53 (.load 4 true (.t 52)),s1 54 (.mov (.t 1)),s1 55 (.bin .sub (.t 54) (.c (.int .i64 1))),s1 56 (.call (.f 206) [.t 53,.t 55])],i1 57 (.pick (.t 49) (.t 56) (.c (.bool false))),im 58 57,
  .grp 58 true [s1 59 (.faddr 3 (.t 2)),s1 60 (.load 1 false (.t 59)),s1 61 (.iaddr 4 (.t 60) (.c (.int .i64 1))),s1 62 (.load 4 true (.t 61)),s1 63 (.mov (.t 1)),s1 64 (.bin .sub (.t 63) (.c (.int .i64 1))),s1 65 (.call (.f 206) [.t 62,.t 64])],i1 66 (.pick (.t 58) (.t 65) (.c (.bool false))),im 4 66] [4] []) (.ret)))
abbrev nrx206:Nat:=206
def C206_3 (QF:AEnd→q00→Prop) (v2 v32:AV) (S:q00):Prop:=grW v32 true (faW 3 v2 fun v34=>ldW S 1 false v34 fun v35=>lnW S 1 v35 fun v36=>biW .eql v36 (.int .i64 0) fun v37=>pkW v32 v37 (.bool false) fun v38=>rtW [.tmp v38] QF S) (pkW v32 q05 (.bool false) fun v38=>rtW [.tmp v38] QF S)
def C206_2 (QF:AEnd→q00→Prop) (v1 v2 v57:AV) (S:q00):Prop:=grW v57 true (faW 3 v2 fun v59=>ldW S 1 false v59 fun v60=>iaW 4 v60 (.int .i64 1) fun v61=>ldW S 4 true v61 fun v62=>biW .sub v1 (.int .i64 1) fun v64=>caW PG S (.func (.func 206) [] []) [v62,v64] (fun v65 S=>pkW v57 v65 (.bool false) fun v66=>rtW [.tmp v66] QF S) (pqW QF)) (pkW v57 q05 (.bool false) fun v66=>rtW [.tmp v66] QF S)
def C206_1 (QF:AEnd→q00→Prop) (v1 v2 v48:AV) (S:q00):Prop:=grW v48 true (faW 3 v2 fun v50=>ldW S 1 false v50 fun v51=>iaW 4 v51 (.int .i64 0) fun v52=>ldW S 4 true v52 fun v53=>biW .sub v1 (.int .i64 1) fun v55=>caW PG S (.func (.func 206) [] []) [v53,v55] (fun v56 S=>pkW v48 v56 (.bool false) fun v57=>C206_2 QF v1 v2 v57 S) (pqW QF)) (pkW v48 q05 (.bool false) fun v57=>C206_2 QF v1 v2 v57 S)
def Bx206 (QF:AEnd→q00→Prop) (v0 v1:AV) (S:q00):Prop:=brW 4 v0 fun v2=>biW .eql v1 (.int .i64 0) fun v7=>cnW v7 (rtW [.tmp (.bool false)] QF S) (faW 0 v2 fun v9=>ldW S 1 false v9 fun v10=>biW .eql v10 (.int .i64 0) fun v11=>cnW v11 (faW 1 v2 fun v12=>ldW S 1 false v12 fun v13=>caW PG S (.func (.func 144) [] []) [v13] (fun v14 S=>grW v14 true (faW 3 v2 fun v16=>ldW S 1 false v16 fun v17=>lnW S 1 v17 fun v18=>biW .eql v18 (.int .i64 0) fun v19=>pkW v14 v19 (.bool false) fun v20=>rtW [.tmp v20] QF S) (pkW v14 q05 (.bool false) fun v20=>rtW [.tmp v20] QF S)) (pqW QF)) (faW 0 v2 fun v22=>ldW S 1 false v22 fun v23=>biW .eql v23 (.int .i64 1) fun v24=>cnW v24 (faW 1 v2 fun v25=>ldW S 1 false v25 fun v26=>caW PG S (.func (.func 144) [] []) [v26] (fun v27 S=>grW v27 true (faW 2 v2 fun v29=>ldW S 1 false v29 fun v30=>caW PG S (.func (.func 144) [] []) [v30] (fun v31 S=>pkW v27 v31 (.bool false) fun v32=>C206_3 QF v2 v32 S) (pqW QF)) (pkW v27 q05 (.bool false) fun v32=>C206_3 QF v2 v32 S)) (pqW QF)) (faW 0 v2 fun v39=>ldW S 1 false v39 fun v40=>caW PG S (.func (.func 214) [] []) [v40] (fun v41 S=>biW .neq v41 (.str ⟨#[]⟩) fun v42=>grW v42 true (faW 3 v2 fun v44=>ldW S 1 false v44 fun v45=>lnW S 1 v45 fun v46=>biW .eql v46 (.int .i64 2) fun v47=>pkW v42 v47 (.bool false) fun v48=>C206_1 QF v1 v2 v48 S) (pkW v42 q05 (.bool false) fun v48=>C206_1 QF v1 v2 v48 S)) (pqW QF))))
theorem wx206 {QF:AEnd→q00→Prop} {v0 v1:AV} {S:q00} (h:Bx206 QF v0 v1 S):ACalls PG nrx206 [v0,v1] S QF:=
 q02 (F:=tfx206) (by kernel_rfl) rfl (by kernel_rfl) h
def tfx207:TFunc where
 n:=9
 args:=2
 res:=[.tmp 4]
 code:=.seq (.reg [i1 4 (.mov (.c (.bool false)))] [0,1] []) (.seq (.reg [im 5 0,im 6 1,i1 7 (.call (.f 215) [.t 5,.t 6]),i1 8 (.bin .geq (.t 7) (.c (.int .i64 0))),im 4 8] [4] []) (.ret))
abbrev nrx207:Nat:=207
def Bx207 (QF:AEnd→q00→Prop) (v0 v1:AV) (S:q00):Prop:=caW PG S (.func (.func 215) [] []) [v0,v1] (fun v7 S=>biW .geq v7 (.int .i64 0) fun v8=>rtW [.tmp v8] QF S) (pqW QF)
theorem wx207 {QF:AEnd→q00→Prop} {v0 v1:AV} {S:q00} (h:Bx207 QF v0 v1 S):ACalls PG nrx207 [v0,v1] S QF:=
 q02 (F:=tfx207) (by kernel_rfl) rfl (by kernel_rfl) h
def tfx208:TFunc where
 n:=6
 args:=1
 res:=[.tmp 2]
 code:=.seq (.reg [i1 1 (.boxr 171 2 (.t 0)),i1 2 (.mov (.c (.bool false)))] [1] []) (.seq (.reg [iL 3 2 1,i1 4 (.call (.f 209) [.t 3]),i1 5 (.not (.t 4)),im 2 5] [2] []) (.ret))
abbrev nrx208:Nat:=208
def Bx208 (QF:AEnd→q00→Prop) (v0:AV) (S:q00):Prop:=brW 2 v0 fun v1=>ldW S 2 true v1 fun v3=>caW PG S (.func (.func 209) [] []) [v3] (fun v4 S=>ntW v4 fun v5=>rtW [.tmp v5] QF S) (pqW QF)
theorem wx208 {QF:AEnd→q00→Prop} {v0:AV} {S:q00} (h:Bx208 QF v0 S):ACalls PG nrx208 [v0] S QF:=
 q02 (F:=tfx208) (by kernel_rfl) rfl (by kernel_rfl) h
def tfx209:TFunc where
 n:=16
 args:=1
 res:=[.tmp 2]
 code:=.seq (.reg [i1 1 (.boxr 171 2 (.t 0)),i1 2 (.mov (.c (.bool false)))] [1] []) (.seq (.reg [ia 3 0 1,il 4 1 3,i1 5 (.call (.f 144) [.t 4]),im 6 5,
  .grp 6 true [s1 7 (.faddr 1 (.t 1)),s1 8 (.load 1 false (.t 7)),s1 9 (.bin .eql (.t 8) (.c (.str ⟨#[]⟩))),s1 10 (.mov (.t 9))],
  .grp 10 false [s1 11 (.faddr 1 (.t 1)),s1 12 (.load 1 false (.t 11)),s1 13 (.call (.f 144) [.t 12])],
  .grp 6 true [s1 14 (.pick (.t 10) (.c (.bool true)) (.t 13))],i1 15 (.pick (.t 6) (.t 14) (.c (.bool false))),im 2 15] [2] []) (.ret))
abbrev nrx209:Nat:=209
def C209_2 (QF:AEnd→q00→Prop) (v6 v10 v13:AV) (S:q00):Prop:=grW v6 true (pkW v10 (.bool true) v13 fun v14=>pkW v6 v14 (.bool false) fun v15=>rtW [.tmp v15] QF S) (pkW v6 q05 (.bool false) fun v15=>rtW [.tmp v15] QF S)
def C209_1 (QF:AEnd→q00→Prop) (v1 v6 v10:AV) (S:q00):Prop:=grW v10 false (faW 1 v1 fun v11=>ldW S 1 false v11 fun v12=>caW PG S (.func (.func 144) [] []) [v12] (fun v13 S=>C209_2 QF v6 v10 v13 S) (pqW QF)) (C209_2 QF v6 v10 q05 S)
def Bx209 (QF:AEnd→q00→Prop) (v0:AV) (S:q00):Prop:=brW 2 v0 fun v1=>faW 0 v1 fun v3=>ldW S 1 false v3 fun v4=>caW PG S (.func (.func 144) [] []) [v4] (fun v5 S=>grW v5 true (faW 1 v1 fun v7=>ldW S 1 false v7 fun v8=>biW .eql v8 (.str ⟨#[]⟩) fun v9=>C209_1 QF v1 v5 v9 S) (C209_1 QF v1 v5 q05 S)) (pqW QF)
theorem wx209 {QF:AEnd→q00→Prop} {v0:AV} {S:q00} (h:Bx209 QF v0 S):ACalls PG nrx209 [v0] S QF:=
 q02 (F:=tfx209) (by kernel_rfl) rfl (by kernel_rfl) h
def tfx211:TFunc where
 n:=20
 args:=3
 res:=[.tmp 4]
 code:=.seq (.reg [i1 3 (.boxr 39 3 (.t 0)),i1 4 (.mov (.c (.bool false)))] [1,2,3] []) (.seq (.regl [0,1,2,3,8,10,4,5,6,7,9,11,12,13,14,15] [ia 5 2 3,il 6 1 5,i1 7 (.bin .eql (.t 6) (.c (.str ⟨#[]⟩))),im 8 7,
  .grp 8 true [s1 13 (.faddr 0 (.t 3)),s1 15 (.faddr 2 (.t 2)),s1 9 (.load 1 false (.t 1)),s1 10 (.nilck (.t 9)),s1 11 (.faddr 2 (.t 10)),s1 12 (.load 1 false (.t 11)),s1 14 (.load 2 true (.t 13)),s1 16 (.load 1 false (.t 15)),s1 17 (.build [.str ⟨#[]⟩,.str ⟨#[]⟩,.str ⟨#[]⟩] [(0,2,.t 14),(2,1,.t 16)]),s1 18 (.lookup (true,[.str,.str,.str]) false (.bool false) (.t 12) (.t 17))],i1 19 (.pick (.t 8) (.t 18) (.c (.bool false))),im 4 19] [4] []) (.ret))
abbrev nrx211:Nat:=211
def Bx211 (QF:AEnd→q00→Prop) (v0 v1 v2:AV) (S:q00):Prop:=brW 3 v0 fun v3=>faW 2 v3 fun v5=>ldW S 1 false v5 fun v6=>biW .eql v6 (.str ⟨#[]⟩) fun v7=>grW v7 true (faW 0 v3 fun v13=>faW 2 v2 fun v15=>ldW S 1 false v1 fun v9=>nkW v9 fun v10=>faW 2 v10 fun v11=>ldW S 1 false v11 fun v12=>ldW S 2 true v13 fun v14=>ldW S 1 false v15 fun v16=>bdW [.str ⟨#[]⟩,.str ⟨#[]⟩,.str ⟨#[]⟩] [(0,2,v14),(2,1,v16)] fun v17=>lkW S (true,[.str,.str,.str]) false (.bool false) v12 v17 fun v18=>pkW v7 v18 (.bool false) fun v19=>rtW [.tmp v19] QF S) (pkW v7 q05 (.bool false) fun v19=>rtW [.tmp v19] QF S)
theorem wx211 {QF:AEnd→q00→Prop} {v0 v1 v2:AV} {S:q00} (h:Bx211 QF v0 v1 v2 S):ACalls PG nrx211 [v0,v1,v2] S QF:=
 q02 (F:=tfx211) (by kernel_rfl) rfl (by kernel_rfl) h
def tfx213:TFunc where
 n:=8
 args:=2
 res:=[.tmp 4]
 code:=.seq (.reg [i1 4 (.mov (.c (.int .i64 0)))] [0,1] []) (.seq (.reg [im 5 0,im 6 1,i1 7 (.call (.f 216) [.t 5,.t 6]),im 4 7] [4] []) (.ret))
abbrev nrx213:Nat:=213
def Bx213 (QF:AEnd→q00→Prop) (v0 v1:AV) (S:q00):Prop:=caW PG S (.func (.func 216) [] []) [v0,v1] (fun v7 S=>rtW [.tmp v7] QF S) (pqW QF)
theorem wx213 {QF:AEnd→q00→Prop} {v0 v1:AV} {S:q00} (h:Bx213 QF v0 v1 S):ACalls PG nrx213 [v0,v1] S QF:=
 q02 (F:=tfx213) (by kernel_rfl) rfl (by kernel_rfl) h
def tfx214:TFunc where
 n:=10
 args:=1
 res:=[.tmp 2]
 code:=.seq (.reg [i1 2 (.mov (.c (.str ⟨#[]⟩)))] [0] []) (.seq (.seq (.reg [im 3 0] [3] []) (.block 0 (.seq (.reg [i1 5 (.bin .eql (.t 3) (.c (.int .i64 2))),im 4 5] [3,4] []) (.cond (.t 4) (.seq (.reg [i1 2 (.mov (.c (.str ⟨#[32,43,32]⟩)))] [2] []) (.ret)) (.seq (.reg [i1 7 (.bin .eql (.t 3) (.c (.int .i64 3))),im 6 7] [3,6] []) (.cond (.t 6) (.seq (.reg [i1 2 (.mov (.c (.str ⟨#[32,38,32]⟩)))] [2] []) (.ret)) (.seq (.reg [i1 9 (.bin .eql (.t 3) (.c (.int .i64 4))),im 8 9] [8] []) (.cond (.t 8) (.seq (.reg [i1 2 (.mov (.c (.str ⟨#[32,45,32]⟩)))] [2] []) (.ret)) (.skip))))))))) (.seq (.reg [i1 2 (.mov (.c (.str ⟨#[]⟩)))] [2] []) (.ret)))
abbrev nrx214:Nat:=214
def Bx214 (QF:AEnd→q00→Prop) (v0:AV) (S:q00):Prop:=biW .eql v0 (.int .i64 2) fun v5=>cnW v5 (rtW [.tmp (.str ⟨#[32,43,32]⟩)] QF S) (biW .eql v0 (.int .i64 3) fun v7=>cnW v7 (rtW [.tmp (.str ⟨#[32,38,32]⟩)] QF S) (biW .eql v0 (.int .i64 4) fun v9=>cnW v9 (rtW [.tmp (.str ⟨#[32,45,32]⟩)] QF S) (rtW [.tmp (.str ⟨#[]⟩)] QF S)))
theorem wx214 {QF:AEnd→q00→Prop} {v0:AV} {S:q00} (h:Bx214 QF v0 S):ACalls PG nrx214 [v0] S QF:=
 q02 (F:=tfx214) (by kernel_rfl) rfl (by kernel_rfl) h
def tfx215:TFunc where
 n:=19
 args:=2
 res:=[.tmp 4]
 code:=.seq (.reg [i1 4 (.mov (.c (.int .i64 0)))] [0,1] []) (.seq (.seq (.reg [im 6 0,i1 7 (.len 1 (.t 6)),i1 8 (.mov (.c (.int .i64 0)))] [0,1,7,8] []) (.block 0 (.loop [0,1,7,8] (.seq (.reg [i1 9 (.bin .lss (.t 8) (.t 7))] [0,1,7,8,9] []) (.seq (.cond (.t 9) (.skip) (.exit 0)) (.seq (.block 1 (.seq (.reg [im 10 8,im 5 10] [0,1,5,7,8] []) (.seq (.reg [im 11 1,im 12 0,im 13 5,i1 14 (.iaddr 2 (.t 12) (.t 13)),iL 15 2 14,i1 16 (.call (.t 11) [.t 15])] [0,1,5,7,8,16] []) (.cond (.t 16) (.seq (.reg [im 17 5,im 4 17] [4] []) (.ret)) (.skip))))) (.reg [i1 18 (.bin .add (.t 8) (.c (.int .i64 1))),im 8 18] [0,1,7,8] []))))))) (.seq (.reg [i1 4 (.mov (.c (.int .i64 (-1))))] [4] []) (.ret)))
abbrev nrx215:Nat:=215
def C215_1 (QF:AEnd→q00→Prop) (r0:LE→q00→Prop) (v0 v1 v7 v8:AV) (S:q00):Prop:=biW .lss v8 v7 fun v9=>cnW v9 (iaW 2 v0 v8 fun v14=>ldW S 2 true v14 fun v15=>caW PG S v1 [v15] (fun v16 S=>cnW v16 (rtW [.tmp v8] QF S) (biW .add v8 (.int .i64 1) fun v18=>rcW r0 [(0,v0),(1,v1),(7,v7),(8,v18)] S)) (pqW QF)) (rtW [.tmp (.int .i64 (-1))] QF S)
def Bx215 (QF:AEnd→q00→Prop) (v0 v1:AV) (S:q00):Prop:=lnW S 1 v0 fun v7=>LoopP (fun r0 l S=>C215_1 QF r0 (lget l 0) (lget l 1) (lget l 7) (lget l 8) S) [(0,v0),(1,v1),(7,v7),(8,(.int .i64 0))] S
theorem wx215 {QF:AEnd→q00→Prop} {v0 v1:AV} {S:q00} (h:Bx215 QF v0 v1 S):ACalls PG nrx215 [v0,v1] S QF:=
 q02 (F:=tfx215) (by kernel_rfl) rfl (by kernel_rfl) h
end Go.HL
