/- A part of a proof. -/
import Derived.Test.YtadmdlpmikoghaaGreatKiHlP
set_option maxRecDepth 100000
set_option linter.unusedVariables false
namespace Go.HL
def tfx78:TFunc where
 n:=59
 args:=1
 res:=[.tmp 2]
 code:=.seq (.reg [i1 2 (.mov (.c (.bool false)))] [0] []) (.seq (.seq (.reg [im 6 0,i1 7 (.len 0 (.t 6)),i1 8 (.bin .eql (.t 7) (.c (.int .i64 0))),im 9 8,
  .grp 9 false [s1 10 (.mov (.t 0)),s1 11 (.len 0 (.t 10)),s1 12 (.bin .gtr (.t 11) (.c (.int .i64 16)))],i1 13 (.pick (.t 9) (.c (.bool true)) (.t 12)),im 14 13,
  .grp 14 false [s1 15 (.mov (.t 0)),s1 16 (.bin .eql (.t 15) (.c (.str ⟨#[116,121,112,101]⟩)))],i1 17 (.pick (.t 14) (.c (.bool true)) (.t 16)),im 18 17,
  .grp 18 false [s1 19 (.mov (.t 0)),s1 20 (.bin .eql (.t 19) (.c (.str ⟨#[114,101,108,97,116,105,111,110]⟩)))],i1 21 (.pick (.t 18) (.c (.bool true)) (.t 20)),im 22 21,
  .grp 22 false [s1 23 (.mov (.t 0)),s1 24 (.bin .eql (.t 23) (.c (.str ⟨#[100,101,102,105,110,101]⟩)))],i1 25 (.pick (.t 22) (.c (.bool true)) (.t 24))] [0,25] []) (.cond (.t 25) (.seq (.reg [i1 2 (.mov (.c (.bool false)))] [2] []) (.ret)) (.skip))) (.seq (.seq (.reg [i1 3 (.mov (.c (.int .i64 0)))] [0,3] []) (.block 0 (.loop [0,3] (.seq (.seq (.reg [im 26 3,im 27 0,i1 28 (.len 0 (.t 27)),i1 29 (.bin .lss (.t 26) (.t 28))] [0,3,29] []) (.cond (.t 29) (.skip) (.exit 0))) (.seq (.block 1 (.seq (.reg [im 32 0,im 33 3,i1 34 (.idxs (.t 32) (.t 33)),im 4 34] [0,3,4] []) (.seq (.reg [im 35 4,i1 36 (.bin .geq (.t 35) (.c (.int .u8 97))),im 37 36,
  .grp 37 true [s1 38 (.mov (.t 4)),s1 39 (.bin .leq (.t 38) (.c (.int .u8 122)))],i1 40 (.pick (.t 37) (.t 39) (.c (.bool false))),im 5 40] [0,3,4,5] []) (.seq (.reg [im 41 5,i1 42 (.not (.t 41)),im 43 42,
  .grp 43 true [s1 44 (.mov (.t 3)),s1 45 (.bin .eql (.t 44) (.c (.int .i64 0))),s1 46 (.mov (.t 45))],
  .grp 46 false [s1 47 (.mov (.t 4)),s1 48 (.bin .neq (.t 47) (.c (.int .u8 95))),s1 49 (.mov (.t 48))],
  .grp 49 true [s1 50 (.mov (.t 4)),s1 51 (.bin .lss (.t 50) (.c (.int .u8 48))),s1 52 (.mov (.t 51))],
  .grp 52 false [s1 53 (.mov (.t 4)),s1 54 (.bin .gtr (.t 53) (.c (.int .u8 57)))],
  .grp 49 true [s1 55 (.pick (.t 52) (.c (.bool true)) (.t 54))],
  .grp 46 false [s1 56 (.pick (.t 49) (.t 55) (.c (.bool false)))],
  .grp 43 true [s1 57 (.pick (.t 46) (.c (.bool true)) (.t 56))],i1 58 (.pick (.t 43) (.t 57) (.c (.bool false)))] [0,3,58] []) (.cond (.t 58) (.seq (.reg [i1 2 (.mov (.c (.bool false)))] [2] []) (.ret)) (.skip)))))) (.reg [im 30 3,i1 31 (.bin .add (.t 30) (.c (.int .i64 1))),im 3 31] [0,3] [])))))) (.seq (.reg [i1 2 (.mov (.c (.bool true)))] [2] []) (.ret))))
abbrev nrx78:Nat:=78
def C78_12 (QF:AEnd→q00→Prop) (r0:LE→q00→Prop) (v0 v3 v43 v46 v56:AV) (S:q00):Prop:=grW v43 true (pkW v46 (.bool true) v56 fun v57=>pkW v43 v57 (.bool false) fun v58=>cnW v58 (rtW [.tmp (.bool false)] QF S) (biW .add v3 (.int .i64 1) fun v31=>rcW r0 [(0,v0),(3,v31)] S)) (pkW v43 q05 (.bool false) fun v58=>cnW v58 (rtW [.tmp (.bool false)] QF S) (biW .add v3 (.int .i64 1) fun v31=>rcW r0 [(0,v0),(3,v31)] S))
def C78_11 (QF:AEnd→q00→Prop) (r0:LE→q00→Prop) (v0 v3 v43 v46 v49 v55:AV) (S:q00):Prop:=grW v46 false (pkW v49 v55 (.bool false) fun v56=>C78_12 QF r0 v0 v3 v43 v46 v56 S) (C78_12 QF r0 v0 v3 v43 v46 q05 S)
def C78_10 (QF:AEnd→q00→Prop) (r0:LE→q00→Prop) (v0 v3 v43 v46 v49 v52 v54:AV) (S:q00):Prop:=grW v49 true (pkW v52 (.bool true) v54 fun v55=>C78_11 QF r0 v0 v3 v43 v46 v49 v55 S) (C78_11 QF r0 v0 v3 v43 v46 v49 q05 S)
def C78_9 (QF:AEnd→q00→Prop) (r0:LE→q00→Prop) (v0 v3 v4 v43 v46 v49 v52:AV) (S:q00):Prop:=grW v52 false (biW .gtr v4 (.int .u8 57) fun v54=>C78_10 QF r0 v0 v3 v43 v46 v49 v52 v54 S) (C78_10 QF r0 v0 v3 v43 v46 v49 v52 q05 S)
def C78_8 (QF:AEnd→q00→Prop) (r0:LE→q00→Prop) (v0 v3 v4 v43 v46 v49:AV) (S:q00):Prop:=grW v49 true (biW .lss v4 (.int .u8 48) fun v51=>C78_9 QF r0 v0 v3 v4 v43 v46 v49 v51 S) (C78_9 QF r0 v0 v3 v4 v43 v46 v49 q05 S)
def C78_7 (QF:AEnd→q00→Prop) (r0:LE→q00→Prop) (v0 v3 v4 v43 v46:AV) (S:q00):Prop:=grW v46 false (biW .neq v4 (.int .u8 95) fun v48=>C78_8 QF r0 v0 v3 v4 v43 v46 v48 S) (C78_8 QF r0 v0 v3 v4 v43 v46 q05 S)
def C78_6 (QF:AEnd→q00→Prop) (r0:LE→q00→Prop) (v0 v3 v4 v40:AV) (S:q00):Prop:=ntW v40 fun v42=>grW v42 true (biW .eql v3 (.int .i64 0) fun v45=>C78_7 QF r0 v0 v3 v4 v42 v45 S) (C78_7 QF r0 v0 v3 v4 v42 q05 S)
def C78_5 (QF:AEnd→q00→Prop) (r0:LE→q00→Prop) (v0 v3:AV) (S:q00):Prop:=lnW S 0 v0 fun v28=>biW .lss v3 v28 fun v29=>cnW v29 (isW v0 v3 fun v34=>biW .geq v34 (.int .u8 97) fun v36=>grW v36 true (biW .leq v34 (.int .u8 122) fun v39=>pkW v36 v39 (.bool false) fun v40=>C78_6 QF r0 v0 v3 v34 v40 S) (pkW v36 q05 (.bool false) fun v40=>C78_6 QF r0 v0 v3 v34 v40 S)) (rtW [.tmp (.bool true)] QF S)
def C78_4 (QF:AEnd→q00→Prop) (v0 v25:AV) (S:q00):Prop:=cnW v25 (rtW [.tmp (.bool false)] QF S) (LoopP (fun r0 l S=>C78_5 QF r0 (lget l 0) (lget l 3) S) [(0,v0),(3,(.int .i64 0))] S)
def C78_3 (QF:AEnd→q00→Prop) (v0 v21:AV) (S:q00):Prop:=grW v21 false (biW .eql v0 (.str ⟨#[100,101,102,105,110,101]⟩) fun v24=>pkW v21 (.bool true) v24 fun v25=>C78_4 QF v0 v25 S) (pkW v21 (.bool true) q05 fun v25=>C78_4 QF v0 v25 S)
def C78_2 (QF:AEnd→q00→Prop) (v0 v17:AV) (S:q00):Prop:=grW v17 false (biW .eql v0 (.str ⟨#[114,101,108,97,116,105,111,110]⟩) fun v20=>pkW v17 (.bool true) v20 fun v21=>C78_3 QF v0 v21 S) (pkW v17 (.bool true) q05 fun v21=>C78_3 QF v0 v21 S)
def C78_1 (QF:AEnd→q00→Prop) (v0 v13:AV) (S:q00):Prop:=grW v13 false (biW .eql v0 (.str ⟨#[116,121,112,101]⟩) fun v16=>pkW v13 (.bool true) v16 fun v17=>C78_2 QF v0 v17 S) (pkW v13 (.bool true) q05 fun v17=>C78_2 QF v0 v17 S)
def Bx78 (QF:AEnd→q00→Prop) (v0:AV) (S:q00):Prop:=lnW S 0 v0 fun v7=>biW .eql v7 (.int .i64 0) fun v8=>grW v8 false (lnW S 0 v0 fun v11=>biW .gtr v11 (.int .i64 16) fun v12=>pkW v8 (.bool true) v12 fun v13=>C78_1 QF v0 v13 S) (pkW v8 (.bool true) q05 fun v13=>C78_1 QF v0 v13 S)
theorem wx78 {QF:AEnd→q00→Prop} {v0:AV} {S:q00} (h:Bx78 QF v0 S):ACalls PG nrx78 [v0] S QF:=
 q02 (F:=tfx78) (by kernel_rfl) rfl (by kernel_rfl) h
def tfx79:TFunc where
 n:=62
 args:=1
 res:=[.tmp 2]
 code:=.seq (.reg [i1 2 (.mov (.c (.bool false)))] [0] []) (.seq (.seq (.reg [im 7 0,i1 8 (.len 0 (.t 7)),i1 9 (.bin .eql (.t 8) (.c (.int .i64 0))),im 10 9,
  .grp 10 false [s1 11 (.mov (.t 0)),s1 12 (.len 0 (.t 11)),s1 13 (.bin .gtr (.t 12) (.c (.int .i64 24)))],i1 14 (.pick (.t 10) (.c (.bool true)) (.t 13))] [0,14] []) (.cond (.t 14) (.seq (.reg [i1 2 (.mov (.c (.bool false)))] [2] []) (.ret)) (.skip))) (.seq (.seq (.reg [i1 3 (.mov (.c (.int .i64 0)))] [0,3] []) (.block 0 (.loop [0,3] (.seq (.seq (.reg [im 15 3,im 16 0,i1 17 (.len 0 (.t 16)),i1 18 (.bin .lss (.t 15) (.t 17))] [0,3,18] []) (.cond (.t 18) (.skip) (.exit 0))) (.seq (.block 1 (.seq (.reg [im 21 0,im 22 3,i1 23 (.idxs (.t 21) (.t 22)),im 4 23] [0,3,4] []) (.seq (.reg [im 24 4,i1 25 (.bin .geq (.t 24) (.c (.int .u8 97))),im 26 25,
  .grp 26 true [s1 27 (.mov (.t 4)),s1 28 (.bin .leq (.t 27) (.c (.int .u8 122)))],i1 29 (.pick (.t 26) (.t 28) (.c (.bool false))),im 30 29,
  .grp 30 false [s1 31 (.mov (.t 4)),s1 32 (.bin .geq (.t 31) (.c (.int .u8 65))),s1 33 (.mov (.t 32))],
  .grp 33 true [s1 34 (.mov (.t 4)),s1 35 (.bin .leq (.t 34) (.c (.int .u8 90)))],
  .grp 30 false [s1 36 (.pick (.t 33) (.t 35) (.c (.bool false)))],i1 37 (.pick (.t 30) (.c (.bool true)) (.t 36)),im 5 37] [0,3,4,5] []) (.seq (.reg [im 38 4,i1 39 (.bin .geq (.t 38) (.c (.int .u8 48))),im 40 39,
  .grp 40 true [s1 41 (.mov (.t 4)),s1 42 (.bin .leq (.t 41) (.c (.int .u8 57)))],i1 43 (.pick (.t 40) (.t 42) (.c (.bool false))),im 6 43] [0,3,4,5,6] []) (.seq (.reg [im 44 5,i1 45 (.not (.t 44)),im 46 45,
  .grp 46 true [s1 47 (.mov (.t 6)),s1 48 (.not (.t 47))],i1 49 (.pick (.t 46) (.t 48) (.c (.bool false))),im 50 49,
  .grp 50 true [s1 51 (.mov (.t 4)),s1 52 (.bin .neq (.t 51) (.c (.int .u8 95)))],i1 53 (.pick (.t 50) (.t 52) (.c (.bool false))),im 54 53,
  .grp 54 true [s1 55 (.mov (.t 4)),s1 56 (.bin .neq (.t 55) (.c (.int .u8 46)))],i1 57 (.pick (.t 54) (.t 56) (.c (.bool false))),im 58 57,
  .grp 58 true [s1 59 (.mov (.t 4)),s1 60 (.bin .neq (.t 59) (.c (.int .u8 45)))],i1 61 (.pick (.t 58) (.t 60) (.c (.bool false)))] [0,3,61] []) (.cond (.t 61) (.seq (.reg [i1 2 (.mov (.c (.bool false)))] [2] []) (.ret)) (.skip))))))) (.reg [im 19 3,i1 20 (.bin .add (.t 19) (.c (.int .i64 1))),im 3 20] [0,3] [])))))) (.seq (.reg [i1 2 (.mov (.c (.bool true)))] [2] []) (.ret))))
abbrev nrx79:Nat:=79
def C79_10 (QF:AEnd→q00→Prop) (r0:LE→q00→Prop) (v0 v3 v4 v57:AV) (S:q00):Prop:=grW v57 true (biW .neq v4 (.int .u8 45) fun v60=>pkW v57 v60 (.bool false) fun v61=>cnW v61 (rtW [.tmp (.bool false)] QF S) (biW .add v3 (.int .i64 1) fun v20=>rcW r0 [(0,v0),(3,v20)] S)) (pkW v57 q05 (.bool false) fun v61=>cnW v61 (rtW [.tmp (.bool false)] QF S) (biW .add v3 (.int .i64 1) fun v20=>rcW r0 [(0,v0),(3,v20)] S))
def C79_9 (QF:AEnd→q00→Prop) (r0:LE→q00→Prop) (v0 v3 v4 v53:AV) (S:q00):Prop:=grW v53 true (biW .neq v4 (.int .u8 46) fun v56=>pkW v53 v56 (.bool false) fun v57=>C79_10 QF r0 v0 v3 v4 v57 S) (pkW v53 q05 (.bool false) fun v57=>C79_10 QF r0 v0 v3 v4 v57 S)
def C79_8 (QF:AEnd→q00→Prop) (r0:LE→q00→Prop) (v0 v3 v4 v49:AV) (S:q00):Prop:=grW v49 true (biW .neq v4 (.int .u8 95) fun v52=>pkW v49 v52 (.bool false) fun v53=>C79_9 QF r0 v0 v3 v4 v53 S) (pkW v49 q05 (.bool false) fun v53=>C79_9 QF r0 v0 v3 v4 v53 S)
def C79_7 (QF:AEnd→q00→Prop) (r0:LE→q00→Prop) (v0 v3 v4 v5 v43:AV) (S:q00):Prop:=ntW v5 fun v45=>grW v45 true (ntW v43 fun v48=>pkW v45 v48 (.bool false) fun v49=>C79_8 QF r0 v0 v3 v4 v49 S) (pkW v45 q05 (.bool false) fun v49=>C79_8 QF r0 v0 v3 v4 v49 S)
def C79_6 (QF:AEnd→q00→Prop) (r0:LE→q00→Prop) (v0 v3 v4 v37:AV) (S:q00):Prop:=biW .geq v4 (.int .u8 48) fun v39=>grW v39 true (biW .leq v4 (.int .u8 57) fun v42=>pkW v39 v42 (.bool false) fun v43=>C79_7 QF r0 v0 v3 v4 v37 v43 S) (pkW v39 q05 (.bool false) fun v43=>C79_7 QF r0 v0 v3 v4 v37 v43 S)
def C79_5 (QF:AEnd→q00→Prop) (r0:LE→q00→Prop) (v0 v3 v4 v30 v33 v35:AV) (S:q00):Prop:=grW v30 false (pkW v33 v35 (.bool false) fun v36=>pkW v30 (.bool true) v36 fun v37=>C79_6 QF r0 v0 v3 v4 v37 S) (pkW v30 (.bool true) q05 fun v37=>C79_6 QF r0 v0 v3 v4 v37 S)
def C79_4 (QF:AEnd→q00→Prop) (r0:LE→q00→Prop) (v0 v3 v4 v30 v33:AV) (S:q00):Prop:=grW v33 true (biW .leq v4 (.int .u8 90) fun v35=>C79_5 QF r0 v0 v3 v4 v30 v33 v35 S) (C79_5 QF r0 v0 v3 v4 v30 v33 q05 S)
def C79_3 (QF:AEnd→q00→Prop) (r0:LE→q00→Prop) (v0 v3 v4 v29:AV) (S:q00):Prop:=grW v29 false (biW .geq v4 (.int .u8 65) fun v32=>C79_4 QF r0 v0 v3 v4 v29 v32 S) (C79_4 QF r0 v0 v3 v4 v29 q05 S)
def C79_2 (QF:AEnd→q00→Prop) (r0:LE→q00→Prop) (v0 v3:AV) (S:q00):Prop:=lnW S 0 v0 fun v17=>biW .lss v3 v17 fun v18=>cnW v18 (isW v0 v3 fun v23=>biW .geq v23 (.int .u8 97) fun v25=>grW v25 true (biW .leq v23 (.int .u8 122) fun v28=>pkW v25 v28 (.bool false) fun v29=>C79_3 QF r0 v0 v3 v23 v29 S) (pkW v25 q05 (.bool false) fun v29=>C79_3 QF r0 v0 v3 v23 v29 S)) (rtW [.tmp (.bool true)] QF S)
def C79_1 (QF:AEnd→q00→Prop) (v0 v14:AV) (S:q00):Prop:=cnW v14 (rtW [.tmp (.bool false)] QF S) (LoopP (fun r0 l S=>C79_2 QF r0 (lget l 0) (lget l 3) S) [(0,v0),(3,(.int .i64 0))] S)
def Bx79 (QF:AEnd→q00→Prop) (v0:AV) (S:q00):Prop:=lnW S 0 v0 fun v8=>biW .eql v8 (.int .i64 0) fun v9=>grW v9 false (lnW S 0 v0 fun v12=>biW .gtr v12 (.int .i64 24) fun v13=>pkW v9 (.bool true) v13 fun v14=>C79_1 QF v0 v14 S) (pkW v9 (.bool true) q05 fun v14=>C79_1 QF v0 v14 S)
theorem wx79 {QF:AEnd→q00→Prop} {v0:AV} {S:q00} (h:Bx79 QF v0 S):ACalls PG nrx79 [v0] S QF:=
 q02 (F:=tfx79) (by kernel_rfl) rfl (by kernel_rfl) h
def tfx80:TFunc where
 n:=9
 args:=2
 res:=[.tmp 4]
 code:=.seq (.reg [i1 4 (.mov (.c (.bool false)))] [0,1] []) (.seq (.reg [im 5 0,im 6 1,i1 7 (.call (.f 127) [.t 5,.t 6]),i1 8 (.bin .geq (.t 7) (.c (.int .i64 0))),im 4 8] [4] []) (.ret))
abbrev nrx80:Nat:=80
def Bx80 (QF:AEnd→q00→Prop) (v0 v1:AV) (S:q00):Prop:=caW PG S (.func (.func 127) [] []) [v0,v1] (fun v7 S=>biW .geq v7 (.int .i64 0) fun v8=>rtW [.tmp v8] QF S) (pqW QF)
theorem wx80 {QF:AEnd→q00→Prop} {v0 v1:AV} {S:q00} (h:Bx80 QF v0 v1 S):ACalls PG nrx80 [v0,v1] S QF:=
 q02 (F:=tfx80) (by kernel_rfl) rfl (by kernel_rfl) h
def tfx83:TFunc where
 n:=71
 args:=1
 res:=[.tmp 2]
 code:=.seq (.reg [i1 2 (.mov (.c (.nils)))] [0] []) (.seq (.reg [i1 3 (.mov (.c (.nils)))] [0,3] []) (.seq (.reg [i1 4 (.mov (.c (.int .i64 1)))] [0,3,4] []) (.seq (.reg [i1 5 (.mov (.c (.int .i64 1)))] [0,3,4,5] []) (.seq (.reg [i1 6 (.mov (.c (.int .i64 0)))] [0,3,4,5,6] []) (.seq (.block 0 (.loop [0,3,4,5,6] (.seq (.seq (.reg [im 10 6,im 11 0,i1 12 (.len 0 (.t 11)),i1 13 (.bin .lss (.t 10) (.t 12))] [0,3,4,5,6,13] []) (.cond (.t 13) (.skip) (.exit 0))) (.block 1 (.seq (.reg [im 14 0,im 15 6,i1 16 (.idxs (.t 14) (.t 15)),im 7 16] [0,3,4,5,6,7] []) (.seq (.seq (.reg [im 17 7,i1 18 (.bin .eql (.t 17) (.c (.int .u8 32))),im 19 18,
  .grp 19 false [s1 20 (.mov (.t 7)),s1 21 (.bin .eql (.t 20) (.c (.int .u8 9)))],i1 22 (.pick (.t 19) (.c (.bool true)) (.t 21)),im 23 22,
  .grp 23 false [s1 24 (.mov (.t 7)),s1 25 (.bin .eql (.t 24) (.c (.int .u8 10)))],i1 26 (.pick (.t 23) (.c (.bool true)) (.t 25))] [0,3,4,5,6,7,26] []) (.cond (.t 26) (.seq (.reg [im 27 5,i1 28 (.bin .add (.t 27) (.c (.int .i64 1))),im 5 28] [0,3,4,5,6,7] []) (.seq (.seq (.reg [im 29 7,i1 30 (.bin .eql (.t 29) (.c (.int .u8 10)))] [0,3,4,5,6,30] []) (.cond (.t 30) (.seq (.reg [im 31 4,i1 32 (.bin .add (.t 31) (.c (.int .i64 1))),im 4 32] [0,3,4,6] []) (.reg [i1 5 (.mov (.c (.int .i64 1)))] [0,3,4,5,6] [])) (.skip))) (.seq (.reg [im 33 6,i1 34 (.bin .add (.t 33) (.c (.int .i64 1))),im 6 34] [0,3,4,5,6] []) (.exit 1)))) (.skip))) (.seq (.reg [im 35 0,im 36 6,i1 37 (.slics (.t 35) (some (.t 36)) none),i1 38 (.call (.f 128) [.t 37]),im 8 38] [0,3,4,5,6,7,8] []) (.seq (.reg [im 39 0,im 40 6,im 41 6,im 42 8,i1 43 (.bin .add (.t 41) (.t 42)),i1 44 (.slics (.t 39) (some (.t 40)) (some (.t 43))),im 9 44] [0,3,4,5,6,7,8,9] []) (.seq (.seq (.reg [im 45 8,i1 46 (.bin .eql (.t 45) (.c (.int .i64 0)))] [0,3,4,5,6,7,8,9,46] []) (.cond (.t 46) (.seq (.reg [im 47 7,i1 48 (.call (.f 129) [.t 47]),im 9 48] [0,3,4,5,6,9] []) (.reg [i1 8 (.mov (.c (.int .i64 1)))] [0,3,4,5,6,8,9] [])) (.skip))) (.seq (.reg [im 49 3,im 50 9,im 51 4,im 52 5,i1 53 (.build [.str ⟨#[]⟩,.int .i64 0,.int .i64 0] [(0,1,.t 50),(1,1,.t 51),(2,1,.t 52)]),i1 54 (.bslicr 149 3 [.t 53]),i1 55 (.app 149 3 32 (.t 49) (.t 54)),im 3 55] [0,3,4,5,6,8,9] []) (.seq (.seq (.reg [im 56 9,i1 57 (.bin .eql (.t 56) (.c (.str ⟨#[63]⟩)))] [0,3,4,5,6,8,57] []) (.cond (.t 57) (.seq (.reg [im 58 3,im 2 58] [2] []) (.ret)) (.skip))) (.seq (.reg [im 59 6,im 60 8,i1 61 (.bin .add (.t 59) (.t 60)),im 6 61] [0,3,4,5,6,8] []) (.reg [im 62 5,im 63 8,i1 64 (.bin .add (.t 62) (.t 63)),im 5 64] [0,3,4,5,6] []))))))))))))) (.seq (.reg [im 65 3,im 66 4,im 67 5,i1 68 (.build [.str ⟨#[]⟩,.int .i64 0,.int .i64 0] [(1,1,.t 66),(2,1,.t 67)]),i1 69 (.bslicr 149 3 [.t 68]),i1 70 (.app 149 3 32 (.t 65) (.t 69)),im 2 70] [2] []) (.ret)))))))
abbrev nrx83:Nat:=83
def C83_4 (QF:AEnd→q00→Prop) (r0:LE→q00→Prop) (v0 v3 v4 v5 v6 v8 v9:AV) (S:q00):Prop:=bdW [.str ⟨#[]⟩,.int .i64 0,.int .i64 0] [(0,1,v9),(1,1,v4),(2,1,v5)] fun v53=>srW 3 [v53] fun v54=>apW S 149 3 32 v3 v54 fun v55 S=>biW .eql v9 (.str ⟨#[63]⟩) fun v57=>cnW v57 (rtW [.tmp v55] QF S) (biW .add v6 v8 fun v61=>biW .add v5 v8 fun v64=>rcW r0 [(0,v0),(3,v55),(4,v4),(5,v64),(6,v61)] S)
def C83_3 (QF:AEnd→q00→Prop) (r0:LE→q00→Prop) (v0 v3 v4 v5 v6 v7 v26:AV) (S:q00):Prop:=cnW v26 (biW .add v5 (.int .i64 1) fun v28=>biW .eql v7 (.int .u8 10) fun v30=>cnW v30 (biW .add v4 (.int .i64 1) fun v32=>biW .add v6 (.int .i64 1) fun v34=>rcW r0 [(0,v0),(3,v3),(4,v32),(5,(.int .i64 1)),(6,v34)] S) (biW .add v6 (.int .i64 1) fun v34=>rcW r0 [(0,v0),(3,v3),(4,v4),(5,v28),(6,v34)] S)) (ssW v0 (some v6) none fun v37=>caW PG S (.func (.func 128) [] []) [v37] (fun v38 S=>biW .add v6 v38 fun v43=>ssW v0 (some v6) (some v43) fun v44=>biW .eql v38 (.int .i64 0) fun v46=>cnW v46 (caW PG S (.func (.func 129) [] []) [v7] (fun v48 S=>C83_4 QF r0 v0 v3 v4 v5 v6 (.int .i64 1) v48 S) (pqW QF)) (C83_4 QF r0 v0 v3 v4 v5 v6 v38 v44 S)) (pqW QF))
def C83_2 (QF:AEnd→q00→Prop) (r0:LE→q00→Prop) (v0 v3 v4 v5 v6 v7 v22:AV) (S:q00):Prop:=grW v22 false (biW .eql v7 (.int .u8 10) fun v25=>pkW v22 (.bool true) v25 fun v26=>C83_3 QF r0 v0 v3 v4 v5 v6 v7 v26 S) (pkW v22 (.bool true) q05 fun v26=>C83_3 QF r0 v0 v3 v4 v5 v6 v7 v26 S)
def C83_1 (QF:AEnd→q00→Prop) (r0:LE→q00→Prop) (v0 v3 v4 v5 v6:AV) (S:q00):Prop:=lnW S 0 v0 fun v12=>biW .lss v6 v12 fun v13=>cnW v13 (isW v0 v6 fun v16=>biW .eql v16 (.int .u8 32) fun v18=>grW v18 false (biW .eql v16 (.int .u8 9) fun v21=>pkW v18 (.bool true) v21 fun v22=>C83_2 QF r0 v0 v3 v4 v5 v6 v16 v22 S) (pkW v18 (.bool true) q05 fun v22=>C83_2 QF r0 v0 v3 v4 v5 v6 v16 v22 S)) (bdW [.str ⟨#[]⟩,.int .i64 0,.int .i64 0] [(1,1,v4),(2,1,v5)] fun v68=>srW 3 [v68] fun v69=>apW S 149 3 32 v3 v69 fun v70 S=>rtW [.tmp v70] QF S)
def Bx83 (QF:AEnd→q00→Prop) (v0:AV) (S:q00):Prop:=LoopP (fun r0 l S=>C83_1 QF r0 (lget l 0) (lget l 3) (lget l 4) (lget l 5) (lget l 6) S) [(0,v0),(3,(.nils)),(4,(.int .i64 1)),(5,(.int .i64 1)),(6,(.int .i64 0))] S
theorem wx83 {QF:AEnd→q00→Prop} {v0:AV} {S:q00} (h:Bx83 QF v0 S):ACalls PG nrx83 [v0] S QF:=
 q02 (F:=tfx83) (by kernel_rfl) rfl (by kernel_rfl) h
end Go.HL
