/- A part of a proof. -/
import Derived.Test.YtadmdlpmikoghaaGreatKiHlP
set_option maxRecDepth 100000
set_option linter.unusedVariables false
namespace Go.HL
def tfx111:TFunc where
 n:=16
 args:=4
 res:=[.tmp 6]
 code:=.seq (.reg [i1 6 (.mov (.c (.bool false)))] [0,1,2,3] []) (.seq (.regl [0,2,4,1,3,5,6,7,8,9] [ia 7 0 2,im 9 0,im 11 1,il 8 1 7,i1 10 (.lookup (false,[.str]) false (.nils) (.t 8) (.t 9)),i1 12 (.iaddr 1 (.t 10) (.t 11)),il 13 1 12,il 14 1 3,i1 15 (.bin .eql (.t 13) (.t 14)),im 6 15] [6] []) (.ret))
abbrev nrx111:Nat:=111
def Bx111 (QF:AEnd→q00→Prop) (v0 v1 v2 v3:AV) (S:q00):Prop:=faW 0 v2 fun v7=>ldW S 1 false v7 fun v8=>lkW S (false,[.str]) false (.nils) v8 v0 fun v10=>iaW 1 v10 v1 fun v12=>ldW S 1 false v12 fun v13=>ldW S 1 false v3 fun v14=>biW .eql v13 v14 fun v15=>rtW [.tmp v15] QF S
theorem wx111 {QF:AEnd→q00→Prop} {v0 v1 v2 v3:AV} {S:q00} (h:Bx111 QF v0 v1 v2 v3 S):ACalls PG nrx111 [v0,v1,v2,v3] S QF:=
 q02 (F:=tfx111) (by kernel_rfl) rfl (by kernel_rfl) h
def tfx112:TFunc where
 n:=42
 args:=2
 res:=[.tmp 4]
 code:=.seq (.reg [i1 4 (.mov (.c (.nils)))] [0,1] []) (.seq (.reg [im 8 0,im 9 1,i1 10 (.call (.f 155) [.t 8,.t 9]),im 5 10] [0,1,5] []) (.seq (.seq (.reg [im 11 5,i1 12 (.bin .eql (.t 11) (.c (.int .i64 (-1))))] [0,1,5,12] []) (.cond (.t 12) (.seq (.reg [im 13 0,im 4 13] [4] []) (.ret)) (.skip))) (.seq (.seq (.reg [im 14 5,i1 15 (.bin .add (.t 14) (.c (.int .i64 1))),im 6 15] [0,1,5,6] []) (.block 0 (.loop [0,1,5,6] (.seq (.seq (.reg [im 16 6,im 17 0,i1 18 (.len 1 (.t 17)),i1 19 (.bin .lss (.t 16) (.t 18))] [0,1,5,6,19] []) (.cond (.t 19) (.skip) (.exit 0))) (.seq (.block 1 (.seq (.reg [im 22 0,im 23 6,i1 24 (.iaddr 6 (.t 22) (.t 23)),iL 25 6 24,
  .box2 7 41 [.str ⟨#[]⟩,.str ⟨#[]⟩,.str ⟨#[]⟩,.str ⟨#[]⟩,.str ⟨#[]⟩,.str ⟨#[]⟩] 6 (.t 25)] [0,1,5,6,7] []) (.seq (.reg [im 26 1,iL 27 6 7,i1 28 (.call (.t 26) [.t 27]),i1 29 (.not (.t 28))] [0,1,5,6,7,29] []) (.cond (.t 29) (.seq (.reg [im 30 0,im 31 5,iL 32 6 7,i1 33 (.iaddr 6 (.t 30) (.t 31)),i0 (.store 6 (.t 33) (.t 32))] [0,1,5,6] []) (.reg [im 34 5,i1 35 (.bin .add (.t 34) (.c (.int .i64 1))),im 5 35] [0,1,5,6] [])) (.skip))))) (.reg [im 20 6,i1 21 (.bin .add (.t 20) (.c (.int .i64 1))),im 6 21] [0,1,5,6] [])))))) (.seq (.reg [im 36 0,im 37 5,i1 38 (.slicl 6 (.t 36) (some (.t 37)) none),i0 (.ext (.clr 6 [.str ⟨#[]⟩,.str ⟨#[]⟩,.str ⟨#[]⟩,.str ⟨#[]⟩,.str ⟨#[]⟩,.str ⟨#[]⟩]) [.t 38])] [0,5] []) (.seq (.reg [im 39 0,im 40 5,i1 41 (.slicl 6 (.t 39) none (some (.t 40))),im 4 41] [4] []) (.ret))))))
abbrev nrx112:Nat:=112
def C112_1 (QF:AEnd→q00→Prop) (r0:LE→q00→Prop) (v0 v1 v5 v6:AV) (S:q00):Prop:=lnW S 1 v0 fun v18=>biW .lss v6 v18 fun v19=>cnW v19 (iaW 6 v0 v6 fun v24=>ldW S 6 true v24 fun v25=>bfW 6 v25 fun v7=>ldW S 6 true v7 fun v27=>caW PG S v1 [v27] (fun v28 S=>ntW v28 fun v29=>cnW v29 (ldW S 6 true v7 fun v32=>iaW 6 v0 v5 fun v33=>stW S 6 v33 v32 fun S=>biW .add v5 (.int .i64 1) fun v35=>biW .add v6 (.int .i64 1) fun v21=>rcW r0 [(0,v0),(1,v1),(5,v35),(6,v21)] S) (biW .add v6 (.int .i64 1) fun v21=>rcW r0 [(0,v0),(1,v1),(5,v5),(6,v21)] S)) (pqW QF)) (slW 6 v0 (some v5) none fun v38=>xtW (.clr 6 [.str ⟨#[]⟩,.str ⟨#[]⟩,.str ⟨#[]⟩,.str ⟨#[]⟩,.str ⟨#[]⟩,.str ⟨#[]⟩]) [v38] S fun _v S=>slW 6 v0 none (some v5) fun v41=>rtW [.tmp v41] QF S)
def Bx112 (QF:AEnd→q00→Prop) (v0 v1:AV) (S:q00):Prop:=caW PG S (.func (.func 155) [] []) [v0,v1] (fun v10 S=>biW .eql v10 (.int .i64 (-1)) fun v12=>cnW v12 (rtW [.tmp v0] QF S) (biW .add v10 (.int .i64 1) fun v15=>LoopP (fun r0 l S=>C112_1 QF r0 (lget l 0) (lget l 1) (lget l 5) (lget l 6) S) [(0,v0),(1,v1),(5,v10),(6,v15)] S)) (pqW QF)
theorem wx112 {QF:AEnd→q00→Prop} {v0 v1:AV} {S:q00} (h:Bx112 QF v0 v1 S):ACalls PG nrx112 [v0,v1] S QF:=
 q02 (F:=tfx112) (by kernel_rfl) rfl (by kernel_rfl) h
def tfx113:TFunc where
 n:=8
 args:=1
 res:=[.tmp 2]
 code:=.seq (.reg [i1 2 (.mov (.c (.nils)))] [0] []) (.seq (.seq (.reg [im 3 0,i1 4 (.ext (.eqns false) [.t 3])] [0,4] []) (.cond (.t 4) (.seq (.reg [i1 2 (.mov (.c (.nils)))] [2] []) (.ret)) (.skip))) (.seq (.reg [i1 5 (.bslice 41 6 []),im 6 0,i1 7 (.app 41 6 96 (.t 5) (.t 6)),im 2 7] [2] []) (.ret)))
abbrev nrx113:Nat:=113
def Bx113 (QF:AEnd→q00→Prop) (v0:AV) (S:q00):Prop:=xtW (.eqns false) [v0] S fun v4 S=>cnW v4 (rtW [.tmp (.nils)] QF S) (bsW S 41 6 [] fun v5 S=>apW S 41 6 96 v5 v0 fun v7 S=>rtW [.tmp v7] QF S)
theorem wx113 {QF:AEnd→q00→Prop} {v0:AV} {S:q00} (h:Bx113 QF v0 S):ACalls PG nrx113 [v0] S QF:=
 q02 (F:=tfx113) (by kernel_rfl) rfl (by kernel_rfl) h
def tfx114:TFunc where
 n:=8
 args:=2
 res:=[.tmp 3]
 code:=.seq (.reg [i1 2 (.boxr 41 6 (.t 0)),i1 3 (.mov (.c (.bool false)))] [1,2] []) (.seq (.reg [iL 4 1 1,iL 5 6 2,i1 6 (.call (.f 49) [.t 4,.t 5]),i1 7 (.bin .neq (.t 6) (.c (.int .i64 0))),im 3 7] [3] []) (.ret))
abbrev nrx114:Nat:=114
def Bx114 (QF:AEnd→q00→Prop) (v0 v1:AV) (S:q00):Prop:=brW 6 v0 fun v2=>ldW S 1 true v1 fun v4=>ldW S 6 true v2 fun v5=>caW PG S (.func (.func 49) [] []) [v4,v5] (fun v6 S=>biW .neq v6 (.int .i64 0) fun v7=>rtW [.tmp v7] QF S) (pqW QF)
theorem wx114 {QF:AEnd→q00→Prop} {v0 v1:AV} {S:q00} (h:Bx114 QF v0 v1 S):ACalls PG nrx114 [v0,v1] S QF:=
 q02 (F:=tfx114) (by kernel_rfl) rfl (by kernel_rfl) h
def tfx115:TFunc where
 n:=148
 args:=5
 res:=[]
 code:=.seq (.reg [i1 10 (.mov (.c (.bool true)))] [0,1,2,3,4,10] []) (.seq (.reg [i1 11 (.mov (.c (.bool true)))] [0,1,2,3,4,10,11] []) (.block 0 (.loop [0,1,2,3,4,10,11] (.block 1 (.seq (.reg [im 21 2,im 22 1,i1 23 (.bin .sub (.t 21) (.t 22)),im 12 23] [0,1,2,3,4,10,11,12] []) (.seq (.seq (.reg [im 24 12,i1 25 (.bin .leq (.t 24) (.c (.int .i64 12)))] [0,1,2,3,4,10,11,12,25] []) (.cond (.t 25) (.seq (.reg [im 26 0,im 27 1,im 28 2,im 29 4,i1 30 (.call (.f 156) [.t 26,.t 27,.t 28,.t 29])] [] []) (.ret)) (.skip))) (.seq (.seq (.reg [im 31 3,i1 32 (.bin .eql (.t 31) (.c (.int .i64 0)))] [0,1,2,3,4,10,11,12,32] []) (.cond (.t 32) (.seq (.reg [im 33 0,im 34 1,im 35 2,im 36 4,i1 37 (.call (.f 157) [.t 33,.t 34,.t 35,.t 36])] [] []) (.ret)) (.skip))) (.seq (.seq (.reg [im 38 10,i1 39 (.not (.t 38))] [0,1,2,3,4,10,11,12,39] []) (.cond (.t 39) (.seq (.reg [im 40 0,im 41 1,im 42 2,im 43 4,i1 44 (.call (.f 158) [.t 40,.t 41,.t 42,.t 43])] [0,1,2,3,4,10,11,12] []) (.reg [im 45 3,i1 46 (.bin .sub (.t 45) (.c (.int .i64 1))),im 3 46] [0,1,2,3,4,10,11,12] [])) (.skip))) (.seq (.reg [im 48 0,im 49 1,im 50 2,im 51 4,i1 52 (.call (.f 159) [.t 48,.t 49,.t 50,.t 51]),im 47 52,i1 53 (.extr (.t 47) 0),i1 54 (.extr (.t 47) 1),im 13 53,im 14 54] [0,1,2,3,4,10,11,12,13,14] []) (.seq (.seq (.reg [im 55 14,i1 56 (.bin .eql (.t 55) (.c (.int .i64 2)))] [0,1,2,3,4,10,11,12,13,14,56] []) (.cond (.t 56) (.seq (.reg [im 57 0,im 58 1,im 59 2,im 60 4,i1 61 (.call (.f 160) [.t 57,.t 58,.t 59,.t 60])] [0,1,2,3,4,10,11,12,13] []) (.seq (.reg [im 62 2,i1 63 (.bin .sub (.t 62) (.c (.int .i64 1))),im 64 13,im 65 1,i1 66 (.bin .sub (.t 64) (.t 65)),i1 67 (.bin .sub (.t 63) (.t 66)),im 13 67] [0,1,2,3,4,10,11,12,13] []) (.reg [i1 14 (.mov (.c (.int .i64 1)))] [0,1,2,3,4,10,11,12,13,14] []))) (.skip))) (.seq (.seq (.reg [im 68 10,im 69 68,
  .grp 69 true [s1 70 (.mov (.t 11))],i1 71 (.pick (.t 69) (.t 70) (.c (.bool false))),im 72 71,
  .grp 72 true [s1 73 (.mov (.t 14)),s1 74 (.bin .eql (.t 73) (.c (.int .i64 1)))],i1 75 (.pick (.t 72) (.t 74) (.c (.bool false)))] [0,1,2,3,4,10,11,12,13,75] []) (.cond (.t 75) (.seq (.reg [im 76 0,im 77 1,im 78 2,im 79 4,i1 80 (.call (.f 161) [.t 76,.t 77,.t 78,.t 79])] [0,1,2,3,4,10,11,12,13,80] []) (.cond (.t 80) (.ret) (.skip))) (.skip))) (.seq (.seq (.regl [0,1,2,3,4,5,6,7,9,10,11,8,12,13,14,15,16] [im 81 1,i1 82 (.bin .gtr (.t 81) (.c (.int .i64 0))),im 83 82,
  .grp 83 true [s1 84 (.mov (.t 4)),s1 85 (.mov (.t 0)),s1 86 (.mov (.t 1)),s1 87 (.bin .sub (.t 86) (.c (.int .i64 1))),s1 88 (.iaddr 2 (.t 85) (.t 87)),s1 90 (.mov (.t 0)),s1 91 (.mov (.t 13)),s1 92 (.iaddr 2 (.t 90) (.t 91)),s1 89 (.load 2 true (.t 88)),s1 93 (.load 2 true (.t 92)),s1 94 (.call (.t 84) [.t 89,.t 93]),s1 95 (.bin .lss (.t 94) (.c (.int .i64 0))),s1 96 (.not (.t 95))],i1 97 (.pick (.t 83) (.t 96) (.c (.bool false)))] [0,1,2,3,4,10,11,12,13,97] []) (.cond (.t 97) (.seq (.reg [im 98 0,im 99 1,im 100 2,im 101 13,im 102 4,i1 103 (.call (.f 162) [.t 98,.t 99,.t 100,.t 101,.t 102]),im 15 103] [0,2,3,4,10,11,15] []) (.seq (.reg [im 104 15,im 1 104] [0,1,2,3,4,10,11] []) (.exit 1))) (.skip))) (.seq (.reg [im 106 0,im 107 1,im 108 2,im 109 13,im 110 4,i1 111 (.call (.f 163) [.t 106,.t 107,.t 108,.t 109,.t 110]),im 105 111,i1 112 (.extr (.t 105) 0),i1 113 (.extr (.t 105) 1),im 16 112,im 17 113] [0,1,2,3,4,12,16,17] []) (.seq (.reg [im 114 17,im 11 114] [0,1,2,3,4,11,12,16] []) (.seq (.reg [im 115 16,im 116 1,i1 117 (.bin .sub (.t 115) (.t 116)),im 118 2,im 119 16,i1 120 (.bin .sub (.t 118) (.t 119)),im 18 117,im 19 120] [0,1,2,3,4,11,12,16,18,19] []) (.seq (.reg [im 121 12,i1 122 (.bin .quo (.t 121) (.c (.int .i64 8))),im 20 122] [0,1,2,3,4,11,16,18,19,20] []) (.seq (.reg [im 123 18,im 124 19,i1 125 (.bin .lss (.t 123) (.t 124))] [0,1,2,3,4,11,16,18,19,20,125] []) (.cond (.t 125) (.seq (.reg [im 126 18,im 127 20,i1 128 (.bin .geq (.t 126) (.t 127)),im 10 128] [0,1,2,3,4,10,11,16] []) (.seq (.reg [im 129 0,im 130 1,im 131 16,im 132 3,im 133 4,i1 134 (.call (.f 115) [.t 129,.t 130,.t 131,.t 132,.t 133])] [0,2,3,4,10,11,16] []) (.reg [im 135 16,i1 136 (.bin .add (.t 135) (.c (.int .i64 1))),im 1 136] [0,1,2,3,4,10,11] []))) (.seq (.reg [im 137 19,im 138 20,i1 139 (.bin .geq (.t 137) (.t 138)),im 10 139] [0,1,2,3,4,10,11,16] []) (.seq (.reg [im 140 0,im 141 16,i1 142 (.bin .add (.t 141) (.c (.int .i64 1))),im 143 2,im 144 3,im 145 4,i1 146 (.call (.f 115) [.t 140,.t 142,.t 143,.t 144,.t 145])] [0,1,3,4,10,11,16] []) (.reg [im 147 16,im 2 147] [0,1,2,3,4,10,11] [])))))))))))))))))))))
abbrev nrx115:Nat:=115
def C115_7 (QF:AEnd→q00→Prop) (r0:LE→q00→Prop) (v0 v1 v2 v3 v4 v10 v11 v12 v13 v97:AV) (S:q00):Prop:=cnW v97 (caW PG S (.func (.func 162) [] []) [v0,v1,v2,v13,v4] (fun v103 S=>rcW r0 [(0,v0),(1,v103),(2,v2),(3,v3),(4,v4),(10,v10),(11,v11)] S) (pqW QF)) (caW PG S (.func (.func 163) [] []) [v0,v1,v2,v13,v4] (fun v111 S=>exW 0 v111 fun v112=>exW 1 v111 fun v113=>biW .sub v112 v1 fun v117=>biW .sub v2 v112 fun v120=>biW .quo v12 (.int .i64 8) fun v122=>biW .lss v117 v120 fun v125=>cnW v125 (biW .geq v117 v122 fun v128=>caW PG S (.func (.func 115) [] []) [v0,v1,v112,v3,v4] (fun v134 S=>biW .add v112 (.int .i64 1) fun v136=>rcW r0 [(0,v0),(1,v136),(2,v2),(3,v3),(4,v4),(10,v128),(11,v113)] S) (pqW QF)) (biW .geq v120 v122 fun v139=>biW .add v112 (.int .i64 1) fun v142=>caW PG S (.func (.func 115) [] []) [v0,v142,v2,v3,v4] (fun v146 S=>rcW r0 [(0,v0),(1,v1),(2,v112),(3,v3),(4,v4),(10,v139),(11,v113)] S) (pqW QF))) (pqW QF))
def C115_6 (QF:AEnd→q00→Prop) (r0:LE→q00→Prop) (v0 v1 v2 v3 v4 v10 v11 v12 v13:AV) (S:q00):Prop:=biW .gtr v1 (.int .i64 0) fun v82=>grW v82 true (biW .sub v1 (.int .i64 1) fun v87=>iaW 2 v0 v87 fun v88=>iaW 2 v0 v13 fun v92=>ldW S 2 true v88 fun v89=>ldW S 2 true v92 fun v93=>caW PG S v4 [v89,v93] (fun v94 S=>biW .lss v94 (.int .i64 0) fun v95=>ntW v95 fun v96=>pkW v82 v96 (.bool false) fun v97=>C115_7 QF r0 v0 v1 v2 v3 v4 v10 v11 v12 v13 v97 S) (pqW QF)) (pkW v82 q05 (.bool false) fun v97=>C115_7 QF r0 v0 v1 v2 v3 v4 v10 v11 v12 v13 v97 S)
def C115_5 (QF:AEnd→q00→Prop) (r0:LE→q00→Prop) (v0 v1 v2 v3 v4 v10 v11 v12 v13 v75:AV) (S:q00):Prop:=cnW v75 (caW PG S (.func (.func 161) [] []) [v0,v1,v2,v4] (fun v80 S=>cnW v80 (rtW [] QF S) (C115_6 QF r0 v0 v1 v2 v3 v4 v10 v11 v12 v13 S)) (pqW QF)) (C115_6 QF r0 v0 v1 v2 v3 v4 v10 v11 v12 v13 S)
def C115_4 (QF:AEnd→q00→Prop) (r0:LE→q00→Prop) (v0 v1 v2 v3 v4 v10 v11 v12 v13 v14 v71:AV) (S:q00):Prop:=grW v71 true (biW .eql v14 (.int .i64 1) fun v74=>pkW v71 v74 (.bool false) fun v75=>C115_5 QF r0 v0 v1 v2 v3 v4 v10 v11 v12 v13 v75 S) (pkW v71 q05 (.bool false) fun v75=>C115_5 QF r0 v0 v1 v2 v3 v4 v10 v11 v12 v13 v75 S)
def C115_3 (QF:AEnd→q00→Prop) (r0:LE→q00→Prop) (v0 v1 v2 v3 v4 v10 v11 v12 v13 v14:AV) (S:q00):Prop:=grW v10 true (pkW v10 v11 (.bool false) fun v71=>C115_4 QF r0 v0 v1 v2 v3 v4 v10 v11 v12 v13 v14 v71 S) (pkW v10 q05 (.bool false) fun v71=>C115_4 QF r0 v0 v1 v2 v3 v4 v10 v11 v12 v13 v14 v71 S)
def C115_2 (QF:AEnd→q00→Prop) (r0:LE→q00→Prop) (v0 v1 v2 v3 v4 v10 v11 v12:AV) (S:q00):Prop:=caW PG S (.func (.func 159) [] []) [v0,v1,v2,v4] (fun v52 S=>exW 0 v52 fun v53=>exW 1 v52 fun v54=>biW .eql v54 (.int .i64 2) fun v56=>cnW v56 (caW PG S (.func (.func 160) [] []) [v0,v1,v2,v4] (fun v61 S=>biW .sub v2 (.int .i64 1) fun v63=>biW .sub v53 v1 fun v66=>biW .sub v63 v66 fun v67=>C115_3 QF r0 v0 v1 v2 v3 v4 v10 v11 v12 v67 (.int .i64 1) S) (pqW QF)) (C115_3 QF r0 v0 v1 v2 v3 v4 v10 v11 v12 v53 v54 S)) (pqW QF)
def C115_1 (QF:AEnd→q00→Prop) (r0:LE→q00→Prop) (v0 v1 v2 v3 v4 v10 v11:AV) (S:q00):Prop:=biW .sub v2 v1 fun v23=>biW .leq v23 (.int .i64 12) fun v25=>cnW v25 (caW PG S (.func (.func 156) [] []) [v0,v1,v2,v4] (fun v30 S=>rtW [] QF S) (pqW QF)) (biW .eql v3 (.int .i64 0) fun v32=>cnW v32 (caW PG S (.func (.func 157) [] []) [v0,v1,v2,v4] (fun v37 S=>rtW [] QF S) (pqW QF)) (ntW v10 fun v39=>cnW v39 (caW PG S (.func (.func 158) [] []) [v0,v1,v2,v4] (fun v44 S=>biW .sub v3 (.int .i64 1) fun v46=>C115_2 QF r0 v0 v1 v2 v46 v4 v10 v11 v23 S) (pqW QF)) (C115_2 QF r0 v0 v1 v2 v3 v4 v10 v11 v23 S)))
def Bx115 (QF:AEnd→q00→Prop) (v0 v1 v2 v3 v4:AV) (S:q00):Prop:=LoopP (fun r0 l S=>C115_1 QF r0 (lget l 0) (lget l 1) (lget l 2) (lget l 3) (lget l 4) (lget l 10) (lget l 11) S) [(0,v0),(1,v1),(2,v2),(3,v3),(4,v4),(10,(.bool true)),(11,(.bool true))] S
theorem wx115 {QF:AEnd→q00→Prop} {v0 v1 v2 v3 v4:AV} {S:q00} (h:Bx115 QF v0 v1 v2 v3 v4 S):ACalls PG nrx115 [v0,v1,v2,v3,v4] S QF:=
 q02 (F:=tfx115) (by kernel_rfl) rfl (by kernel_rfl) h
def tfx116:TFunc where
 n:=8
 args:=1
 res:=[.tmp 2]
 code:=.seq (.reg [i1 2 (.mov (.c (.int .i64 0)))] [0] []) (.seq (.cond (.c (.bool false)) (.seq (.reg [im 3 0,i1 4 (.conv .u32 (.t 3)),i1 5 (.call (.f 164) [.t 4]),im 2 5] [2] []) (.ret)) (.skip)) (.seq (.reg [im 6 0,i1 7 (.call (.f 165) [.t 6]),im 2 7] [2] []) (.ret)))
abbrev nrx116:Nat:=116
def Bx116 (QF:AEnd→q00→Prop) (v0:AV) (S:q00):Prop:=cnW (.bool false) (cvW .u32 v0 fun v4=>caW PG S (.func (.func 164) [] []) [v4] (fun v5 S=>rtW [.tmp v5] QF S) (pqW QF)) (caW PG S (.func (.func 165) [] []) [v0] (fun v7 S=>rtW [.tmp v7] QF S) (pqW QF))
theorem wx116 {QF:AEnd→q00→Prop} {v0:AV} {S:q00} (h:Bx116 QF v0 S):ACalls PG nrx116 [v0] S QF:=
 q02 (F:=tfx116) (by kernel_rfl) rfl (by kernel_rfl) h
def tfx117:TFunc where
 n:=8
 args:=2
 res:=[.tmp 4]
 code:=.seq (.reg [i1 4 (.mov (.c (.int .i64 0)))] [0,1] []) (.seq (.reg [im 5 0,im 6 1,i1 7 (.call (.f 166) [.t 5,.t 6]),im 4 7] [4] []) (.ret))
abbrev nrx117:Nat:=117
def Bx117 (QF:AEnd→q00→Prop) (v0 v1:AV) (S:q00):Prop:=caW PG S (.func (.func 166) [] []) [v0,v1] (fun v7 S=>rtW [.tmp v7] QF S) (pqW QF)
theorem wx117 {QF:AEnd→q00→Prop} {v0 v1:AV} {S:q00} (h:Bx117 QF v0 v1 S):ACalls PG nrx117 [v0,v1] S QF:=
 q02 (F:=tfx117) (by kernel_rfl) rfl (by kernel_rfl) h
def tfx124:TFunc where
 n:=19
 args:=1
 res:=[.tmp 2]
 code:=.seq (.reg [i1 1 (.boxr 27 2 (.t 0)),i1 2 (.mov (.c (.str ⟨#[]⟩)))] [1] []) (.seq (.seq (.reg [ia 3 0 1,il 4 1 3,i1 5 (.call (.f 144) [.t 4]),i1 6 (.not (.t 5)),im 7 6,
  .grp 7 false [s1 8 (.faddr 1 (.t 1)),s1 9 (.load 1 false (.t 8)),s1 10 (.call (.f 168) [.t 9]),s1 11 (.not (.t 10))],i1 12 (.pick (.t 7) (.c (.bool true)) (.t 11))] [1,12] []) (.cond (.t 12) (.seq (.reg [i1 2 (.mov (.c (.str ⟨#[]⟩)))] [2] []) (.ret)) (.skip))) (.seq (.reg [ia 13 0 1,il 14 1 13,i1 15 (.bin .add (.t 14) (.c (.str ⟨#[58]⟩))),ia 16 1 1,il 17 1 16,i1 18 (.bin .add (.t 15) (.t 17)),im 2 18] [2] []) (.ret)))
abbrev nrx124:Nat:=124
def C124_1 (QF:AEnd→q00→Prop) (v1 v12:AV) (S:q00):Prop:=cnW v12 (rtW [.tmp (.str ⟨#[]⟩)] QF S) (faW 0 v1 fun v13=>ldW S 1 false v13 fun v14=>biW .add v14 (.str ⟨#[58]⟩) fun v15=>faW 1 v1 fun v16=>ldW S 1 false v16 fun v17=>biW .add v15 v17 fun v18=>rtW [.tmp v18] QF S)
def Bx124 (QF:AEnd→q00→Prop) (v0:AV) (S:q00):Prop:=brW 2 v0 fun v1=>faW 0 v1 fun v3=>ldW S 1 false v3 fun v4=>caW PG S (.func (.func 144) [] []) [v4] (fun v5 S=>ntW v5 fun v6=>grW v6 false (faW 1 v1 fun v8=>ldW S 1 false v8 fun v9=>caW PG S (.func (.func 168) [] []) [v9] (fun v10 S=>ntW v10 fun v11=>pkW v6 (.bool true) v11 fun v12=>C124_1 QF v1 v12 S) (pqW QF)) (pkW v6 (.bool true) q05 fun v12=>C124_1 QF v1 v12 S)) (pqW QF)
theorem wx124 {QF:AEnd→q00→Prop} {v0:AV} {S:q00} (h:Bx124 QF v0 S):ACalls PG nrx124 [v0] S QF:=
 q02 (F:=tfx124) (by kernel_rfl) rfl (by kernel_rfl) h
def tfx125:TFunc where
 n:=26
 args:=1
 res:=[.tmp 2]
 code:=.seq (.reg [i1 1 (.boxr 39 3 (.t 0)),i1 2 (.mov (.c (.str ⟨#[]⟩)))] [1] []) (.seq (.reg [ia 4 0 1,iL 5 2 4,i1 6 (.call (.f 124) [.t 5]),im 3 6] [1,3] []) (.seq (.block 0 (.seq (.reg [im 8 3,i1 9 (.bin .eql (.t 8) (.c (.str ⟨#[]⟩))),im 10 9,
  .grp 10 false [s1 11 (.faddr 2 (.t 1)),s1 12 (.load 1 false (.t 11)),s1 13 (.bin .eql (.t 12) (.c (.str ⟨#[]⟩)))],i1 14 (.pick (.t 10) (.c (.bool true)) (.t 13)),im 7 14] [1,3,7] []) (.cond (.t 7) (.seq (.reg [im 15 3,im 2 15] [2] []) (.ret)) (.seq (.reg [ia 17 2 1,il 18 1 17,i1 19 (.call (.f 144) [.t 18]),i1 20 (.not (.t 19)),im 16 20] [1,3,16] []) (.cond (.t 16) (.seq (.reg [i1 2 (.mov (.c (.str ⟨#[]⟩)))] [2] []) (.ret)) (.skip)))))) (.seq (.reg [im 21 3,i1 22 (.bin .add (.t 21) (.c (.str ⟨#[35]⟩))),ia 23 2 1,il 24 1 23,i1 25 (.bin .add (.t 22) (.t 24)),im 2 25] [2] []) (.ret))))
abbrev nrx125:Nat:=125
def C125_1 (QF:AEnd→q00→Prop) (v1 v3 v14:AV) (S:q00):Prop:=cnW v14 (rtW [.tmp v3] QF S) (faW 2 v1 fun v17=>ldW S 1 false v17 fun v18=>caW PG S (.func (.func 144) [] []) [v18] (fun v19 S=>ntW v19 fun v20=>cnW v20 (rtW [.tmp (.str ⟨#[]⟩)] QF S) (biW .add v3 (.str ⟨#[35]⟩) fun v22=>faW 2 v1 fun v23=>ldW S 1 false v23 fun v24=>biW .add v22 v24 fun v25=>rtW [.tmp v25] QF S)) (pqW QF))
def Bx125 (QF:AEnd→q00→Prop) (v0:AV) (S:q00):Prop:=brW 3 v0 fun v1=>faW 0 v1 fun v4=>ldW S 2 true v4 fun v5=>caW PG S (.func (.func 124) [] []) [v5] (fun v6 S=>biW .eql v6 (.str ⟨#[]⟩) fun v9=>grW v9 false (faW 2 v1 fun v11=>ldW S 1 false v11 fun v12=>biW .eql v12 (.str ⟨#[]⟩) fun v13=>pkW v9 (.bool true) v13 fun v14=>C125_1 QF v1 v6 v14 S) (pkW v9 (.bool true) q05 fun v14=>C125_1 QF v1 v6 v14 S)) (pqW QF)
theorem wx125 {QF:AEnd→q00→Prop} {v0:AV} {S:q00} (h:Bx125 QF v0 S):ACalls PG nrx125 [v0] S QF:=
 q02 (F:=tfx125) (by kernel_rfl) rfl (by kernel_rfl) h
def tfx127:TFunc where
 n:=19
 args:=2
 res:=[.tmp 4]
 code:=.seq (.reg [i1 4 (.mov (.c (.int .i64 0)))] [0,1] []) (.seq (.seq (.reg [im 6 0,i1 7 (.len 1 (.t 6)),i1 8 (.mov (.c (.int .i64 0)))] [0,1,7,8] []) (.block 0 (.loop [0,1,7,8] (.seq (.reg [i1 9 (.bin .lss (.t 8) (.t 7))] [0,1,7,8,9] []) (.seq (.cond (.t 9) (.skip) (.exit 0)) (.seq (.block 1 (.seq (.reg [im 10 8,im 5 10] [0,1,5,7,8] []) (.seq (.reg [im 11 1,im 12 0,im 13 5,i1 14 (.iaddr 2 (.t 12) (.t 13)),iL 15 2 14,i1 16 (.call (.t 11) [.t 15])] [0,1,5,7,8,16] []) (.cond (.t 16) (.seq (.reg [im 17 5,im 4 17] [4] []) (.ret)) (.skip))))) (.reg [i1 18 (.bin .add (.t 8) (.c (.int .i64 1))),im 8 18] [0,1,7,8] []))))))) (.seq (.reg [i1 4 (.mov (.c (.int .i64 (-1))))] [4] []) (.ret)))
abbrev nrx127:Nat:=127
def C127_1 (QF:AEnd→q00→Prop) (r0:LE→q00→Prop) (v0 v1 v7 v8:AV) (S:q00):Prop:=biW .lss v8 v7 fun v9=>cnW v9 (iaW 2 v0 v8 fun v14=>ldW S 2 true v14 fun v15=>caW PG S v1 [v15] (fun v16 S=>cnW v16 (rtW [.tmp v8] QF S) (biW .add v8 (.int .i64 1) fun v18=>rcW r0 [(0,v0),(1,v1),(7,v7),(8,v18)] S)) (pqW QF)) (rtW [.tmp (.int .i64 (-1))] QF S)
def Bx127 (QF:AEnd→q00→Prop) (v0 v1:AV) (S:q00):Prop:=lnW S 1 v0 fun v7=>LoopP (fun r0 l S=>C127_1 QF r0 (lget l 0) (lget l 1) (lget l 7) (lget l 8) S) [(0,v0),(1,v1),(7,v7),(8,(.int .i64 0))] S
theorem wx127 {QF:AEnd→q00→Prop} {v0 v1:AV} {S:q00} (h:Bx127 QF v0 v1 S):ACalls PG nrx127 [v0,v1] S QF:=
 q02 (F:=tfx127) (by kernel_rfl) rfl (by kernel_rfl) h
def tfx128:TFunc where
 n:=45
 args:=1
 res:=[.tmp 2]
 code:=.seq (.reg [i1 2 (.mov (.c (.int .i64 0)))] [0] []) (.seq (.reg [i1 3 (.mov (.c (.int .i64 0)))] [0,3] []) (.seq (.block 0 (.loop [0,3] (.seq (.seq (.reg [im 4 3,im 5 0,i1 6 (.len 0 (.t 5)),i1 7 (.bin .lss (.t 4) (.t 6)),im 8 7,
  .grp 8 true [s1 9 (.mov (.t 0)),s1 10 (.mov (.t 3)),s1 11 (.idxs (.t 9) (.t 10)),s1 12 (.bin .geq (.t 11) (.c (.int .u8 97))),s1 13 (.mov (.t 12))],
  .grp 13 true [s1 14 (.mov (.t 0)),s1 15 (.mov (.t 3)),s1 16 (.idxs (.t 14) (.t 15)),s1 17 (.bin .leq (.t 16) (.c (.int .u8 122)))],
  .grp 8 true [s1 18 (.pick (.t 13) (.t 17) (.c (.bool false))),s1 19 (.mov (.t 18))],
  .grp 19 false [s1 20 (.mov (.t 3)),s1 21 (.bin .gtr (.t 20) (.c (.int .i64 0))),s1 22 (.mov (.t 21))],
  .grp 22 true [s1 23 (.mov (.t 0)),s1 24 (.mov (.t 3)),s1 25 (.idxs (.t 23) (.t 24)),s1 26 (.bin .eql (.t 25) (.c (.int .u8 95))),s1 27 (.mov (.t 26))],
  .grp 27 false [s1 28 (.mov (.t 0)),s1 29 (.mov (.t 3)),s1 30 (.idxs (.t 28) (.t 29)),s1 31 (.bin .geq (.t 30) (.c (.int .u8 48))),s1 32 (.mov (.t 31))],
  .grp 32 true [s1 33 (.mov (.t 0)),s1 34 (.mov (.t 3)),s1 35 (.idxs (.t 33) (.t 34)),s1 36 (.bin .leq (.t 35) (.c (.int .u8 57)))],
  .grp 27 false [s1 37 (.pick (.t 32) (.t 36) (.c (.bool false)))],
  .grp 22 true [s1 38 (.pick (.t 27) (.c (.bool true)) (.t 37))],
  .grp 19 false [s1 39 (.pick (.t 22) (.t 38) (.c (.bool false)))],
  .grp 8 true [s1 40 (.pick (.t 19) (.c (.bool true)) (.t 39))],i1 41 (.pick (.t 8) (.t 40) (.c (.bool false)))] [0,3,41] []) (.cond (.t 41) (.skip) (.exit 0))) (.block 1 (.reg [im 42 3,i1 43 (.bin .add (.t 42) (.c (.int .i64 1))),im 3 43] [0,3] []))))) (.seq (.reg [im 44 3,im 2 44] [2] []) (.ret))))
abbrev nrx128:Nat:=128
def C128_11 (QF:AEnd→q00→Prop) (r0:LE→q00→Prop) (v0 v3 v8 v19 v39:AV) (S:q00):Prop:=grW v8 true (pkW v19 (.bool true) v39 fun v40=>pkW v8 v40 (.bool false) fun v41=>cnW v41 (biW .add v3 (.int .i64 1) fun v43=>rcW r0 [(0,v0),(3,v43)] S) (rtW [.tmp v3] QF S)) (pkW v8 q05 (.bool false) fun v41=>cnW v41 (biW .add v3 (.int .i64 1) fun v43=>rcW r0 [(0,v0),(3,v43)] S) (rtW [.tmp v3] QF S))
def C128_10 (QF:AEnd→q00→Prop) (r0:LE→q00→Prop) (v0 v3 v8 v19 v22 v38:AV) (S:q00):Prop:=grW v19 false (pkW v22 v38 (.bool false) fun v39=>C128_11 QF r0 v0 v3 v8 v19 v39 S) (C128_11 QF r0 v0 v3 v8 v19 q05 S)
def C128_9 (QF:AEnd→q00→Prop) (r0:LE→q00→Prop) (v0 v3 v8 v19 v22 v27 v37:AV) (S:q00):Prop:=grW v22 true (pkW v27 (.bool true) v37 fun v38=>C128_10 QF r0 v0 v3 v8 v19 v22 v38 S) (C128_10 QF r0 v0 v3 v8 v19 v22 q05 S)
def C128_8 (QF:AEnd→q00→Prop) (r0:LE→q00→Prop) (v0 v3 v8 v19 v22 v27 v32 v36:AV) (S:q00):Prop:=grW v27 false (pkW v32 v36 (.bool false) fun v37=>C128_9 QF r0 v0 v3 v8 v19 v22 v27 v37 S) (C128_9 QF r0 v0 v3 v8 v19 v22 v27 q05 S)
def C128_7 (QF:AEnd→q00→Prop) (r0:LE→q00→Prop) (v0 v3 v8 v19 v22 v27 v32:AV) (S:q00):Prop:=grW v32 true (isW v0 v3 fun v35=>biW .leq v35 (.int .u8 57) fun v36=>C128_8 QF r0 v0 v3 v8 v19 v22 v27 v32 v36 S) (C128_8 QF r0 v0 v3 v8 v19 v22 v27 v32 q05 S)
def C128_6 (QF:AEnd→q00→Prop) (r0:LE→q00→Prop) (v0 v3 v8 v19 v22 v27:AV) (S:q00):Prop:=grW v27 false (isW v0 v3 fun v30=>biW .geq v30 (.int .u8 48) fun v31=>C128_7 QF r0 v0 v3 v8 v19 v22 v27 v31 S) (C128_7 QF r0 v0 v3 v8 v19 v22 v27 q05 S)
def C128_5 (QF:AEnd→q00→Prop) (r0:LE→q00→Prop) (v0 v3 v8 v19 v22:AV) (S:q00):Prop:=grW v22 true (isW v0 v3 fun v25=>biW .eql v25 (.int .u8 95) fun v26=>C128_6 QF r0 v0 v3 v8 v19 v22 v26 S) (C128_6 QF r0 v0 v3 v8 v19 v22 q05 S)
def C128_4 (QF:AEnd→q00→Prop) (r0:LE→q00→Prop) (v0 v3 v8 v19:AV) (S:q00):Prop:=grW v19 false (biW .gtr v3 (.int .i64 0) fun v21=>C128_5 QF r0 v0 v3 v8 v19 v21 S) (C128_5 QF r0 v0 v3 v8 v19 q05 S)
def C128_3 (QF:AEnd→q00→Prop) (r0:LE→q00→Prop) (v0 v3 v8 v13 v17:AV) (S:q00):Prop:=grW v8 true (pkW v13 v17 (.bool false) fun v18=>C128_4 QF r0 v0 v3 v8 v18 S) (C128_4 QF r0 v0 v3 v8 q05 S)
def C128_2 (QF:AEnd→q00→Prop) (r0:LE→q00→Prop) (v0 v3 v8 v13:AV) (S:q00):Prop:=grW v13 true (isW v0 v3 fun v16=>biW .leq v16 (.int .u8 122) fun v17=>C128_3 QF r0 v0 v3 v8 v13 v17 S) (C128_3 QF r0 v0 v3 v8 v13 q05 S)
def C128_1 (QF:AEnd→q00→Prop) (r0:LE→q00→Prop) (v0 v3:AV) (S:q00):Prop:=lnW S 0 v0 fun v6=>biW .lss v3 v6 fun v7=>grW v7 true (isW v0 v3 fun v11=>biW .geq v11 (.int .u8 97) fun v12=>C128_2 QF r0 v0 v3 v7 v12 S) (C128_2 QF r0 v0 v3 v7 q05 S)
def Bx128 (QF:AEnd→q00→Prop) (v0:AV) (S:q00):Prop:=LoopP (fun r0 l S=>C128_1 QF r0 (lget l 0) (lget l 3) S) [(0,v0),(3,(.int .i64 0))] S
theorem wx128 {QF:AEnd→q00→Prop} {v0:AV} {S:q00} (h:Bx128 QF v0 S):ACalls PG nrx128 [v0] S QF:=
 q02 (F:=tfx128) (by kernel_rfl) rfl (by kernel_rfl) h
def tfx129:TFunc where
 n:=21
 args:=1
 res:=[.tmp 2]
 code:=.seq (.reg [i1 2 (.mov (.c (.str ⟨#[]⟩)))] [0] []) (.seq (.reg [i1 3 (.mov (.c (.str ⟨#[58,124,35,43,45,38,46,40,41]⟩)))] [0,3] []) (.seq (.seq (.reg [i1 4 (.mov (.c (.int .i64 0)))] [0,3,4] []) (.block 0 (.loop [0,3,4] (.seq (.seq (.reg [im 5 4,im 6 3,i1 7 (.len 0 (.t 6)),i1 8 (.bin .lss (.t 5) (.t 7))] [0,3,4,8] []) (.cond (.t 8) (.skip) (.exit 0))) (.seq (.block 1 (.seq (.reg [im 11 3,im 12 4,i1 13 (.idxs (.t 11) (.t 12)),im 14 0,i1 15 (.bin .eql (.t 13) (.t 14))] [0,3,4,15] []) (.cond (.t 15) (.seq (.reg [im 16 3,im 17 4,im 18 4,i1 19 (.bin .add (.t 18) (.c (.int .i64 1))),i1 20 (.slics (.t 16) (some (.t 17)) (some (.t 19))),im 2 20] [2] []) (.ret)) (.skip)))) (.reg [im 9 4,i1 10 (.bin .add (.t 9) (.c (.int .i64 1))),im 4 10] [0,3,4] [])))))) (.seq (.reg [i1 2 (.mov (.c (.str ⟨#[63]⟩)))] [2] []) (.ret))))
abbrev nrx129:Nat:=129
def C129_1 (QF:AEnd→q00→Prop) (r0:LE→q00→Prop) (v0 v3 v4:AV) (S:q00):Prop:=lnW S 0 v3 fun v7=>biW .lss v4 v7 fun v8=>cnW v8 (isW v3 v4 fun v13=>biW .eql v13 v0 fun v15=>cnW v15 (biW .add v4 (.int .i64 1) fun v19=>ssW v3 (some v4) (some v19) fun v20=>rtW [.tmp v20] QF S) (biW .add v4 (.int .i64 1) fun v10=>rcW r0 [(0,v0),(3,v3),(4,v10)] S)) (rtW [.tmp (.str ⟨#[63]⟩)] QF S)
def Bx129 (QF:AEnd→q00→Prop) (v0:AV) (S:q00):Prop:=LoopP (fun r0 l S=>C129_1 QF r0 (lget l 0) (lget l 3) (lget l 4) S) [(0,v0),(3,(.str ⟨#[58,124,35,43,45,38,46,40,41]⟩)),(4,(.int .i64 0))] S
theorem wx129 {QF:AEnd→q00→Prop} {v0:AV} {S:q00} (h:Bx129 QF v0 S):ACalls PG nrx129 [v0] S QF:=
 q02 (F:=tfx129) (by kernel_rfl) rfl (by kernel_rfl) h
end Go.HL
