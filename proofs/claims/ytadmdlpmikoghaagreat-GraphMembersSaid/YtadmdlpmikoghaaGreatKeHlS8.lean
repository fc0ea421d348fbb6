/- A part of a proof. -/
import Derived.Test.YtadmdlpmikoghaaGreatKeHlP
set_option maxRecDepth 100000
set_option linter.unusedVariables false
namespace Go.HL
variable {QF:QT} {S:q00} {v0 v1 v2 v3 v4 v5 v6 v7 v8:AV}
def x5b:TFunc where
 n:=16
 args:=4
 res:=[.tmp 6]
 code:=js (jr [jo 6 false] [0,1,2,3]) (js (.regl [0,2,4,1,3,5,6,7,8,9] [ia 7 0 2,im 9 0,im 11 1,il 8 1 7,i1 10 (.lookup (false,[.str]) false (.nils) (.t 8) (.t 9)),ja 12 1 10 11,il 13 1 12,il 14 1 3,jt 15 .eql 13 14,im 6 15] [6] []) jR)
abbrev ydi:Nat:=111
def xd8 (QF:QT) (v0 v1 v2 v3:AV) (S:q00):Prop:=faW 0 v2 fun v7=>ldW S 1 false v7 fun v8=>lkW S (false,[.str]) false (.nils) v8 v0 fun v10=>iaW 1 v10 v1 fun v12=>ldW S 1 false v12 fun v13=>ldW S 1 false v3 fun v14=>biW .eql v13 v14 fun v15=>rtW [.tmp v15] QF S
theorem xg5 (h:xd8 QF v0 v1 v2 v3 S):ACalls PG ydi [v0,v1,v2,v3] S QF:=wq x5b h
def x5a:TFunc where
 n:=42
 args:=2
 res:=[.tmp 4]
 code:=js (jr [i1 4 (.mov (.c (.nils)))] [0,1]) (js (jr [im 8 0,im 9 1,jf 10 155 [.t 8,.t 9],im 5 10] [0,1,5]) (js (js (jr [im 11 5,jb 12 .eql 11 .i64 (-1)] [0,1,5,12]) (jd 12 (js (jr [im 13 0,im 4 13] [4]) jR) jz)) (js (js (jr [im 14 5,jb 15 .add 14 .i64 1,im 6 15] [0,1,5,6]) (jB 0 (.loop [0,1,5,6] (js (js (jr [im 16 6,im 17 0,jl 18 1 17,jt 19 .lss 16 18] [0,1,5,6,19]) (jd 19 jz (jE 0))) (js (jB 1 (js (.reg [im 22 0,im 23 6,ja 24 6 22 23,iL 25 6 24,
  .box2 7 41 [.str ⟨#[]⟩,.str ⟨#[]⟩,.str ⟨#[]⟩,.str ⟨#[]⟩,.str ⟨#[]⟩,.str ⟨#[]⟩] 6 (.t 25)] [0,1,5,6,7] []) (js (jr [im 26 1,iL 27 6 7,i1 28 (.call (.t 26) [.t 27]),jk 29 28] [0,1,5,6,7,29]) (jd 29 (js (jr [im 30 0,im 31 5,iL 32 6 7,ja 33 6 30 31,jS 6 33 32] [0,1,5,6]) (jr [im 34 5,jb 35 .add 34 .i64 1,im 5 35] [0,1,5,6])) jz)))) (jr [im 20 6,jb 21 .add 20 .i64 1,im 6 21] [0,1,5,6])))))) (js (.reg [im 36 0,im 37 5,i1 38 (.slicl 6 (.t 36) (some (.t 37)) none),i0 (.ext (.clr 6 [.str ⟨#[]⟩,.str ⟨#[]⟩,.str ⟨#[]⟩,.str ⟨#[]⟩,.str ⟨#[]⟩,.str ⟨#[]⟩]) [.t 38])] [0,5] []) (js (jr [im 39 0,im 40 5,i1 41 (.slicl 6 (.t 39) none (some (.t 40))),im 4 41] [4]) jR)))))
abbrev yuc:Nat:=112
def ywf (QF:QT) (r0:RT) (v0 v1 v5 v6:AV) (S:q00):Prop:=lnW S 1 v0 fun v18=>biW .lss v6 v18 fun v19=>cnW v19 (iaW 6 v0 v6 fun v24=>ldW S 6 true v24 fun v25=>bfW 6 v25 fun v7=>ldW S 6 true v7 fun v27=>caW PG S v1 [v27] (fun v28 S=>ntW v28 fun v29=>cnW v29 (ldW S 6 true v7 fun v32=>iaW 6 v0 v5 fun v33=>stW S 6 v33 v32 fun S=>biW .add v5 (.int .i64 1) fun v35=>biW .add v6 (.int .i64 1) fun v21=>rcW r0 [(0,v0),(1,v1),(5,v35),(6,v21)] S) (biW .add v6 (.int .i64 1) fun v21=>rcW r0 [(0,v0),(1,v1),(5,v5),(6,v21)] S)) (pqW QF)) (slW 6 v0 (some v5) none fun v38=>xtW (.clr 6 [.str ⟨#[]⟩,.str ⟨#[]⟩,.str ⟨#[]⟩,.str ⟨#[]⟩,.str ⟨#[]⟩,.str ⟨#[]⟩]) [v38] S fun _v S=>slW 6 v0 none (some v5) fun v41=>rtW [.tmp v41] QF S)
def xd7 (QF:QT) (v0 v1:AV) (S:q00):Prop:=caW PG S (jF 155) [v0,v1] (fun v10 S=>biW .eql v10 (.int .i64 (-1)) fun v12=>cnW v12 (rtW [.tmp v0] QF S) (biW .add v10 (.int .i64 1) fun v15=>LoopP (fun r0 l S=>ywf QF r0 (y00 l 0) (y00 l 1) (y00 l 5) (y00 l 6) S) [(0,v0),(1,v1),(5,v10),(6,v15)] S)) (pqW QF)
theorem xg4 (h:xd7 QF v0 v1 S):ACalls PG yuc [v0,v1] S QF:=wq x5a h
def x59:TFunc where
 n:=8
 args:=1
 res:=[.tmp 2]
 code:=js (jr [i1 2 (.mov (.c (.nils)))] [0]) (js (js (jr [im 3 0,i1 4 (.ext (.eqns false) [.t 3])] [0,4]) (jd 4 (js (jr [i1 2 (.mov (.c (.nils)))] [2]) jR) jz)) (js (jr [i1 5 (.bslice 41 6 []),im 6 0,i1 7 (.app 41 6 96 (.t 5) (.t 6)),im 2 7] [2]) jR))
abbrev yub:Nat:=113
def xd6 (QF:QT) (v0:AV) (S:q00):Prop:=xtW (.eqns false) [v0] S fun v4 S=>cnW v4 (rtW [.tmp (.nils)] QF S) (bsW S 41 6 [] fun v5 S=>apW S 41 6 96 v5 v0 fun v7 S=>rtW [.tmp v7] QF S)
theorem xg3 (h:xd6 QF v0 S):ACalls PG yub [v0] S QF:=wq x59 h
def x58:TFunc where
 n:=8
 args:=2
 res:=[.tmp 3]
 code:=js (jr [jx 2 41 6 0,jo 3 false] [1,2]) (js (jr [iL 4 1 1,iL 5 6 2,jf 6 49 [.t 4,.t 5],jb 7 .neq 6 .i64 0,im 3 7] [3]) jR)
abbrev yjx:Nat:=114
def xd5 (QF:QT) (v0 v1:AV) (S:q00):Prop:=brW 6 v0 fun v2=>ldW S 1 true v1 fun v4=>ldW S 6 true v2 fun v5=>caW PG S (jF 49) [v4,v5] (fun v6 S=>biW .neq v6 (.int .i64 0) fun v7=>rtW [.tmp v7] QF S) (pqW QF)
theorem xg2 (h:xd5 QF v0 v1 S):ACalls PG yjx [v0,v1] S QF:=wq x58 h
def x57:TFunc where
 n:=148
 args:=5
 res:=[]
 code:=js (jr [jo 10 true] [0,1,2,3,4,10]) (js (jr [jo 11 true] [0,1,2,3,4,10,11]) (jB 0 (.loop [0,1,2,3,4,10,11] (jB 1 (js (jr [im 21 2,im 22 1,jt 23 .sub 21 22,im 12 23] [0,1,2,3,4,10,11,12]) (js (js (jr [im 24 12,jb 25 .leq 24 .i64 12] [0,1,2,3,4,10,11,12,25]) (jd 25 (js (jr [im 26 0,im 27 1,im 28 2,im 29 4,jf 30 156 [.t 26,.t 27,.t 28,.t 29]] []) jR) jz)) (js (js (jr [im 31 3,jb 32 .eql 31 .i64 0] [0,1,2,3,4,10,11,12,32]) (jd 32 (js (jr [im 33 0,im 34 1,im 35 2,im 36 4,jf 37 157 [.t 33,.t 34,.t 35,.t 36]] []) jR) jz)) (js (js (jr [im 38 10,jk 39 38] [0,1,2,3,4,10,11,12,39]) (jd 39 (js (jr [im 40 0,im 41 1,im 42 2,im 43 4,jf 44 158 [.t 40,.t 41,.t 42,.t 43]] [0,1,2,3,4,10,11,12]) (jr [im 45 3,jb 46 .sub 45 .i64 1,im 3 46] [0,1,2,3,4,10,11,12])) jz)) (js (jr [im 48 0,im 49 1,im 50 2,im 51 4,jf 52 159 [.t 48,.t 49,.t 50,.t 51],im 47 52,je 53 47 0,je 54 47 1,im 13 53,im 14 54] [0,1,2,3,4,10,11,12,13,14]) (js (js (jr [im 55 14,jb 56 .eql 55 .i64 2] [0,1,2,3,4,10,11,12,13,14,56]) (jd 56 (js (jr [im 57 0,im 58 1,im 59 2,im 60 4,jf 61 160 [.t 57,.t 58,.t 59,.t 60]] [0,1,2,3,4,10,11,12,13]) (js (jr [im 62 2,jb 63 .sub 62 .i64 1,im 64 13,im 65 1,jt 66 .sub 64 65,jt 67 .sub 63 66,im 13 67] [0,1,2,3,4,10,11,12,13]) (jr [jc 14 .i64 1] [0,1,2,3,4,10,11,12,13,14]))) jz)) (js (js (jr [im 68 10,im 69 68,
  .grp 69 true [s1 70 (.mov (.t 11))],jp 71 69 70,im 72 71,
  .grp 72 true [s1 73 (.mov (.t 14)),s1 74 (.bin .eql (.t 73) (.c (.int .i64 1)))],jp 75 72 74] [0,1,2,3,4,10,11,12,13,75]) (jd 75 (js (jr [im 76 0,im 77 1,im 78 2,im 79 4,jf 80 161 [.t 76,.t 77,.t 78,.t 79]] [0,1,2,3,4,10,11,12,13,80]) (jd 80 jR jz)) jz)) (js (js (.regl [0,1,2,3,4,5,6,7,9,10,11,8,12,13,14,15,16] [im 81 1,jb 82 .gtr 81 .i64 0,im 83 82,
  .grp 83 true [s1 84 (.mov (.t 4)),s1 85 (.mov (.t 0)),s1 86 (.mov (.t 1)),s1 87 (.bin .sub (.t 86) (.c (.int .i64 1))),s1 88 (.iaddr 2 (.t 85) (.t 87)),s1 90 (.mov (.t 0)),s1 91 (.mov (.t 13)),s1 92 (.iaddr 2 (.t 90) (.t 91)),s1 89 (.load 2 true (.t 88)),s1 93 (.load 2 true (.t 92)),s1 94 (.call (.t 84) [.t 89,.t 93]),s1 95 (.bin .lss (.t 94) (.c (.int .i64 0))),s1 96 (.not (.t 95))],jp 97 83 96] [0,1,2,3,4,10,11,12,13,97] []) (jd 97 (js (jr [im 98 0,im 99 1,im 100 2,im 101 13,im 102 4,jf 103 162 [.t 98,.t 99,.t 100,.t 101,.t 102],im 15 103] [0,2,3,4,10,11,15]) (js (jr [im 104 15,im 1 104] [0,1,2,3,4,10,11]) (jE 1))) jz)) (js (jr [im 106 0,im 107 1,im 108 2,im 109 13,im 110 4,jf 111 163 [.t 106,.t 107,.t 108,.t 109,.t 110],im 105 111,je 112 105 0,je 113 105 1,im 16 112,im 17 113] [0,1,2,3,4,12,16,17]) (js (jr [im 114 17,im 11 114] [0,1,2,3,4,11,12,16]) (js (jr [im 115 16,im 116 1,jt 117 .sub 115 116,im 118 2,im 119 16,jt 120 .sub 118 119,im 18 117,im 19 120] [0,1,2,3,4,11,12,16,18,19]) (js (jr [im 121 12,jb 122 .quo 121 .i64 8,im 20 122] [0,1,2,3,4,11,16,18,19,20]) (js (jr [im 123 18,im 124 19,jt 125 .lss 123 124] [0,1,2,3,4,11,16,18,19,20,125]) (jd 125 (js (jr [im 126 18,im 127 20,jt 128 .geq 126 127,im 10 128] [0,1,2,3,4,10,11,16]) (js (jr [im 129 0,im 130 1,im 131 16,im 132 3,im 133 4,jf 134 115 [.t 129,.t 130,.t 131,.t 132,.t 133]] [0,2,3,4,10,11,16]) (jr [im 135 16,jb 136 .add 135 .i64 1,im 1 136] [0,1,2,3,4,10,11]))) (js (jr [im 137 19,im 138 20,jt 139 .geq 137 138,im 10 139] [0,1,2,3,4,10,11,16]) (js (jr [im 140 0,im 141 16,jb 142 .add 141 .i64 1,im 143 2,im 144 3,im 145 4,jf 146 115 [.t 140,.t 142,.t 143,.t 144,.t 145]] [0,1,3,4,10,11,16]) (jr [im 147 16,im 2 147] [0,1,2,3,4,10,11])))))))))))))))))))))
abbrev yjw:Nat:=115
def yag (QF:QT) (r0:RT) (v0 v1 v2 v3 v4 v10 v11 v12 v13 v97:AV) (S:q00):Prop:=cnW v97 (caW PG S (jF 162) [v0,v1,v2,v13,v4] (fun v103 S=>rcW r0 [(0,v0),(1,v103),(2,v2),(3,v3),(4,v4),(10,v10),(11,v11)] S) (pqW QF)) (caW PG S (jF 163) [v0,v1,v2,v13,v4] (fun v111 S=>exW 0 v111 fun v112=>exW 1 v111 fun v113=>biW .sub v112 v1 fun v117=>biW .sub v2 v112 fun v120=>biW .quo v12 (.int .i64 8) fun v122=>biW .lss v117 v120 fun v125=>cnW v125 (biW .geq v117 v122 fun v128=>caW PG S (jF 115) [v0,v1,v112,v3,v4] (fun v134 S=>biW .add v112 (.int .i64 1) fun v136=>rcW r0 [(0,v0),(1,v136),(2,v2),(3,v3),(4,v4),(10,v128),(11,v113)] S) (pqW QF)) (biW .geq v120 v122 fun v139=>biW .add v112 (.int .i64 1) fun v142=>caW PG S (jF 115) [v0,v142,v2,v3,v4] (fun v146 S=>rcW r0 [(0,v0),(1,v1),(2,v112),(3,v3),(4,v4),(10,v139),(11,v113)] S) (pqW QF))) (pqW QF))
def yg4 (QF:QT) (r0:RT) (v0 v1 v2 v3 v4 v10 v11 v12 v13:AV) (S:q00):Prop:=biW .gtr v1 (.int .i64 0) fun v82=>grW v82 true (biW .sub v1 (.int .i64 1) fun v87=>iaW 2 v0 v87 fun v88=>iaW 2 v0 v13 fun v92=>ldW S 2 true v88 fun v89=>ldW S 2 true v92 fun v93=>caW PG S v4 [v89,v93] (fun v94 S=>biW .lss v94 (.int .i64 0) fun v95=>ntW v95 fun v96=>pkW v82 v96 (.bool false) fun v97=>yag QF r0 v0 v1 v2 v3 v4 v10 v11 v12 v13 v97 S) (pqW QF)) (pkW v82 q07 (.bool false) fun v97=>yag QF r0 v0 v1 v2 v3 v4 v10 v11 v12 v13 v97 S)
def yah (QF:QT) (r0:RT) (v0 v1 v2 v3 v4 v10 v11 v12 v13 v75:AV) (S:q00):Prop:=cnW v75 (caW PG S (jF 161) [v0,v1,v2,v4] (fun v80 S=>cnW v80 (rtW [] QF S) (yg4 QF r0 v0 v1 v2 v3 v4 v10 v11 v12 v13 S)) (pqW QF)) (yg4 QF r0 v0 v1 v2 v3 v4 v10 v11 v12 v13 S)
def yai (QF:QT) (r0:RT) (v0 v1 v2 v3 v4 v10 v11 v12 v13 v14 v71:AV) (S:q00):Prop:=grW v71 true (biW .eql v14 (.int .i64 1) fun v74=>pkW v71 v74 (.bool false) fun v75=>yah QF r0 v0 v1 v2 v3 v4 v10 v11 v12 v13 v75 S) (pkW v71 q07 (.bool false) fun v75=>yah QF r0 v0 v1 v2 v3 v4 v10 v11 v12 v13 v75 S)
def y4x (QF:QT) (r0:RT) (v0 v1 v2 v3 v4 v10 v11 v12 v13 v14:AV) (S:q00):Prop:=grW v10 true (pkW v10 v11 (.bool false) fun v71=>yai QF r0 v0 v1 v2 v3 v4 v10 v11 v12 v13 v14 v71 S) (pkW v10 q07 (.bool false) fun v71=>yai QF r0 v0 v1 v2 v3 v4 v10 v11 v12 v13 v14 v71 S)
def yg5 (QF:QT) (r0:RT) (v0 v1 v2 v3 v4 v10 v11 v12:AV) (S:q00):Prop:=caW PG S (jF 159) [v0,v1,v2,v4] (fun v52 S=>exW 0 v52 fun v53=>exW 1 v52 fun v54=>biW .eql v54 (.int .i64 2) fun v56=>cnW v56 (caW PG S (jF 160) [v0,v1,v2,v4] (fun v61 S=>biW .sub v2 (.int .i64 1) fun v63=>biW .sub v53 v1 fun v66=>biW .sub v63 v66 fun v67=>y4x QF r0 v0 v1 v2 v3 v4 v10 v11 v12 v67 (.int .i64 1) S) (pqW QF)) (y4x QF r0 v0 v1 v2 v3 v4 v10 v11 v12 v53 v54 S)) (pqW QF)
def yo1 (QF:QT) (r0:RT) (v0 v1 v2 v3 v4 v10 v11:AV) (S:q00):Prop:=biW .sub v2 v1 fun v23=>biW .leq v23 (.int .i64 12) fun v25=>cnW v25 (caW PG S (jF 156) [v0,v1,v2,v4] (fun v30 S=>rtW [] QF S) (pqW QF)) (biW .eql v3 (.int .i64 0) fun v32=>cnW v32 (caW PG S (jF 157) [v0,v1,v2,v4] (fun v37 S=>rtW [] QF S) (pqW QF)) (ntW v10 fun v39=>cnW v39 (caW PG S (jF 158) [v0,v1,v2,v4] (fun v44 S=>biW .sub v3 (.int .i64 1) fun v46=>yg5 QF r0 v0 v1 v2 v46 v4 v10 v11 v23 S) (pqW QF)) (yg5 QF r0 v0 v1 v2 v3 v4 v10 v11 v23 S)))
def x24 (QF:QT) (v0 v1 v2 v3 v4:AV) (S:q00):Prop:=LoopP (fun r0 l S=>yo1 QF r0 (y00 l 0) (y00 l 1) (y00 l 2) (y00 l 3) (y00 l 4) (y00 l 10) (y00 l 11) S) [(0,v0),(1,v1),(2,v2),(3,v3),(4,v4),(10,(.bool true)),(11,(.bool true))] S
theorem x2n (h:x24 QF v0 v1 v2 v3 v4 S):ACalls PG yjw [v0,v1,v2,v3,v4] S QF:=wq x57 h
def x56:TFunc where
 n:=8
 args:=1
 res:=[.tmp 2]
 code:=js (jr [jc 2 .i64 0] [0]) (js (.cond (.c (.bool false)) (js (jr [im 3 0,i1 4 (.conv .u32 (.t 3)),jf 5 164 [.t 4],im 2 5] [2]) jR) jz) (js (jr [im 6 0,jf 7 165 [.t 6],im 2 7] [2]) jR))
abbrev yua:Nat:=116
def xd4 (QF:QT) (v0:AV) (S:q00):Prop:=cnW (.bool false) (cvW .u32 v0 fun v4=>caW PG S (jF 164) [v4] (fun v5 S=>rtW [.tmp v5] QF S) (pqW QF)) (caW PG S (jF 165) [v0] (fun v7 S=>rtW [.tmp v7] QF S) (pqW QF))
theorem xg1 (h:xd4 QF v0 S):ACalls PG yua [v0] S QF:=wq x56 h
def x55:TFunc where
 n:=8
 args:=2
 res:=[.tmp 4]
 code:=js (jr [jc 4 .i64 0] [0,1]) (js (jr [im 5 0,im 6 1,jf 7 166 [.t 5,.t 6],im 4 7] [4]) jR)
abbrev yu9:Nat:=117
def xd3 (QF:QT) (v0 v1:AV) (S:q00):Prop:=caW PG S (jF 166) [v0,v1] (fun v7 S=>rtW [.tmp v7] QF S) (pqW QF)
theorem xg0 (h:xd3 QF v0 v1 S):ACalls PG yu9 [v0,v1] S QF:=wq x55 h
def x54:TFunc where
 n:=45
 args:=1
 res:=[.tmp 2]
 code:=js (jr [jx 1 24 1 0,i1 2 (.mov (.c (.nils)))] [1]) (js (jr [i1 3 (.mov (.c (.nils)))] [1,3]) (js (js (jr [jc 4 .i64 0] [1,3,4]) (jB 0 (.loop [1,3,4] (js (js (jr [im 7 4,ia 8 0 1,il 9 1 8,jl 10 1 9,jt 11 .lss 7 10] [1,3,4,11]) (jd 11 jz (jE 0))) (js (jB 1 (js (jr [jc 5 .i64 0] [1,3,4,5]) (jB 2 (.loop [1,3,4,5] (js (js (jr [im 14 5,ia 15 0 1,il 16 1 15,im 17 4,ja 18 2 16 17,ia 19 1 18,il 20 1 19,jl 21 1 20,jt 22 .lss 14 21] [1,3,4,5,22]) (jd 22 jz (jE 2))) (js (jB 3 (js (.regl [1,2,4,8,0,3,5,6,7,9,10,11,12] [im 26 4,ia 27 0 1,im 29 4,im 33 5,iL 25 1 1,il 28 1 27,ja 30 2 28 29,ia 31 1 30,il 32 1 31,ja 34 6 32 33,iL 35 6 34,jf 36 167 [.t 25,.t 26,.t 35],im 6 36] [1,3,4,5,6] []) (jr [im 37 3,im 38 4,im 39 5,im 40 6,i1 41 (.build [.int .i64 0,.int .i64 0,.nils] [(0,1,.t 38),(1,1,.t 39),(2,1,.t 40)]),i1 42 (.bslicr 251 3 [.t 41]),i1 43 (.app 251 3 40 (.t 37) (.t 42)),im 3 43] [1,3,4,5]))) (jr [im 23 5,jb 24 .add 23 .i64 1,im 5 24] [1,3,4,5]))))))) (jr [im 12 4,jb 13 .add 12 .i64 1,im 4 13] [1,3,4])))))) (js (jr [im 44 3,im 2 44] [2]) jR)))
abbrev yu8:Nat:=118
def ywd (QF:QT) (r0:RT) (r1:RT) (v1 v3 v4 v5:AV) (S:q00):Prop:=faW 0 v1 fun v15=>ldW S 1 false v15 fun v16=>iaW 2 v16 v4 fun v18=>faW 1 v18 fun v19=>ldW S 1 false v19 fun v20=>lnW S 1 v20 fun v21=>biW .lss v5 v21 fun v22=>cnW v22 (faW 0 v1 fun v27=>ldW S 1 true v1 fun v25=>ldW S 1 false v27 fun v28=>iaW 2 v28 v4 fun v30=>faW 1 v30 fun v31=>ldW S 1 false v31 fun v32=>iaW 6 v32 v5 fun v34=>ldW S 6 true v34 fun v35=>caW PG S (jF 167) [v25,v4,v35] (fun v36 S=>bdW [.int .i64 0,.int .i64 0,.nils] [(0,1,v4),(1,1,v5),(2,1,v36)] fun v41=>srW 3 [v41] fun v42=>apW S 251 3 40 v3 v42 fun v43 S=>biW .add v5 (.int .i64 1) fun v24=>rcW r1 [(1,v1),(3,v43),(4,v4),(5,v24)] S) (pqW QF)) (biW .add v4 (.int .i64 1) fun v13=>rcW r0 [(1,v1),(3,v3),(4,v13)] S)
def ywe (QF:QT) (r0:RT) (v1 v3 v4:AV) (S:q00):Prop:=faW 0 v1 fun v8=>ldW S 1 false v8 fun v9=>lnW S 1 v9 fun v10=>biW .lss v4 v10 fun v11=>cnW v11 (LoopP (fun r1 l S=>ywd QF r0 r1 (y00 l 1) (y00 l 3) (y00 l 4) (y00 l 5) S) [(1,v1),(3,v3),(4,v4),(5,(.int .i64 0))] S) (rtW [.tmp v3] QF S)
def xd2 (QF:QT) (v0:AV) (S:q00):Prop:=brW 1 v0 fun v1=>LoopP (fun r0 l S=>ywe QF r0 (y00 l 1) (y00 l 3) (y00 l 4) S) [(1,v1),(3,(.nils)),(4,(.int .i64 0))] S
theorem xfz (h:xd2 QF v0 S):ACalls PG yu8 [v0] S QF:=wq x54 h
def x53:TFunc where
 n:=88
 args:=2
 res:=[.tmp 4]
 code:=js (jr [jo 4 false] [0,1]) (js (jr [jo 5 false] [0,1,5]) (js (js (jr [jc 6 .i64 0] [0,1,5,6]) (jB 0 (.loop [0,1,5,6] (js (js (jr [im 12 6,im 13 0,jl 14 1 13,jt 15 .lss 12 14] [0,1,5,6,15]) (jd 15 jz (jE 0))) (js (jB 1 (js (jr [im 18 0,im 19 6,ja 20 3 18 19,ia 21 0 20,il 22 1 21,im 7 22] [0,1,5,6,7]) (js (jr [im 23 0,im 24 6,ja 25 3 23 24,ia 26 1 25,il 27 1 26,im 8 27] [0,1,5,6,7,8]) (js (jr [jc 9 .i64 0] [0,1,5,6,7,8,9]) (jB 2 (.loop [0,1,5,6,7,8,9] (js (js (jr [im 28 9,im 29 0,im 30 6,ja 31 3 29 30,ia 32 2 31,il 33 1 32,jl 34 1 33,jt 35 .lss 28 34] [0,1,5,6,7,8,9,35]) (jd 35 jz (jE 2))) (js (jB 3 (js (jr [im 38 0,im 39 6,ja 40 3 38 39,ia 41 2 40,il 42 1 41,im 43 9,ja 44 3 42 43,iL 45 3 44,
  .box2 10 253 [.int .i64 0,.int .i64 0,.bool false] 3 (.t 45)] [0,1,5,6,7,8,9,10]) (js (.regl [0,1,5,2,3,4,6,7,8,9] [im 46 1,ia 47 0 10,ia 51 1 10,il 48 1 47,ja 49 1 46 48,il 50 1 49,il 52 1 51,ja 53 1 50 52,il 54 1 53,im 11 54] [0,1,5,6,7,8,9,10,11] []) (js (js (jr [ia 55 2 10,il 56 1 55] [0,1,5,6,7,8,9,11,56]) (jd 56 (jr [im 57 11,jb 58 .add 57 .i64 1,im 11 58] [0,1,5,6,7,8,9,11]) jz)) (js (jr [im 59 1,im 60 7,ja 61 1 59 60,il 62 1 61,im 63 8,ja 64 1 62 63,il 65 1 64,im 66 11,jt 67 .lss 65 66,im 68 67,
  .grp 68 true [s1 69 (.mov (.t 1)),s1 70 (.mov (.t 7)),s1 71 (.iaddr 1 (.t 69) (.t 70)),s1 72 (.load 1 false (.t 71)),s1 73 (.mov (.t 8)),s1 74 (.iaddr 1 (.t 72) (.t 73)),s1 75 (.load 1 false (.t 74)),s1 76 (.mov (.t 0)),s1 77 (.len 1 (.t 76)),s1 78 (.bin .leq (.t 75) (.t 77))],jp 79 68 78] [0,1,5,6,7,8,9,11,79]) (jd 79 (js (jr [im 80 1,im 81 7,ja 82 1 80 81,il 83 1 82,im 84 8,im 85 11,ja 86 1 83 84,jS 1 86 85] [0,1,6,7,8,9]) (jr [jo 5 true] [0,1,5,6,7,8,9])) jz)))))) (jr [im 36 9,jb 37 .add 36 .i64 1,im 9 37] [0,1,5,6,7,8,9]))))))))) (jr [im 16 6,jb 17 .add 16 .i64 1,im 6 17] [0,1,5,6])))))) (js (jr [im 87 5,im 4 87] [4]) jR)))
abbrev yu7:Nat:=119
def yaf (QF:QT) (r0:RT) (r1:RT) (v0 v1 v5 v6 v7 v8 v9 v11 v79:AV) (S:q00):Prop:=cnW v79 (iaW 1 v1 v7 fun v82=>ldW S 1 false v82 fun v83=>iaW 1 v83 v8 fun v86=>stW S 1 v86 v11 fun S=>biW .add v9 (.int .i64 1) fun v37=>rcW r1 [(0,v0),(1,v1),(5,(.bool true)),(6,v6),(7,v7),(8,v8),(9,v37)] S) (biW .add v9 (.int .i64 1) fun v37=>rcW r1 [(0,v0),(1,v1),(5,v5),(6,v6),(7,v7),(8,v8),(9,v37)] S)
def yg3 (QF:QT) (r0:RT) (r1:RT) (v0 v1 v5 v6 v7 v8 v9 v11:AV) (S:q00):Prop:=iaW 1 v1 v7 fun v61=>ldW S 1 false v61 fun v62=>iaW 1 v62 v8 fun v64=>ldW S 1 false v64 fun v65=>biW .lss v65 v11 fun v67=>grW v67 true (iaW 1 v1 v7 fun v71=>ldW S 1 false v71 fun v72=>iaW 1 v72 v8 fun v74=>ldW S 1 false v74 fun v75=>lnW S 1 v0 fun v77=>biW .leq v75 v77 fun v78=>pkW v67 v78 (.bool false) fun v79=>yaf QF r0 r1 v0 v1 v5 v6 v7 v8 v9 v11 v79 S) (pkW v67 q07 (.bool false) fun v79=>yaf QF r0 r1 v0 v1 v5 v6 v7 v8 v9 v11 v79 S)
def ywb (QF:QT) (r0:RT) (r1:RT) (v0 v1 v5 v6 v7 v8 v9:AV) (S:q00):Prop:=iaW 3 v0 v6 fun v31=>faW 2 v31 fun v32=>ldW S 1 false v32 fun v33=>lnW S 1 v33 fun v34=>biW .lss v9 v34 fun v35=>cnW v35 (iaW 3 v0 v6 fun v40=>faW 2 v40 fun v41=>ldW S 1 false v41 fun v42=>iaW 3 v42 v9 fun v44=>ldW S 3 true v44 fun v45=>bfW 3 v45 fun v10=>faW 0 v10 fun v47=>faW 1 v10 fun v51=>ldW S 1 false v47 fun v48=>iaW 1 v1 v48 fun v49=>ldW S 1 false v49 fun v50=>ldW S 1 false v51 fun v52=>iaW 1 v50 v52 fun v53=>ldW S 1 false v53 fun v54=>faW 2 v10 fun v55=>ldW S 1 false v55 fun v56=>cnW v56 (biW .add v54 (.int .i64 1) fun v58=>yg3 QF r0 r1 v0 v1 v5 v6 v7 v8 v9 v58 S) (yg3 QF r0 r1 v0 v1 v5 v6 v7 v8 v9 v54 S)) (biW .add v6 (.int .i64 1) fun v17=>rcW r0 [(0,v0),(1,v1),(5,v5),(6,v17)] S)
def ywc (QF:QT) (r0:RT) (v0 v1 v5 v6:AV) (S:q00):Prop:=lnW S 1 v0 fun v14=>biW .lss v6 v14 fun v15=>cnW v15 (iaW 3 v0 v6 fun v20=>faW 0 v20 fun v21=>ldW S 1 false v21 fun v22=>iaW 3 v0 v6 fun v25=>faW 1 v25 fun v26=>ldW S 1 false v26 fun v27=>LoopP (fun r1 l S=>ywb QF r0 r1 (y00 l 0) (y00 l 1) (y00 l 5) (y00 l 6) (y00 l 7) (y00 l 8) (y00 l 9) S) [(0,v0),(1,v1),(5,v5),(6,v6),(7,v22),(8,v27),(9,(.int .i64 0))] S) (rtW [.tmp v5] QF S)
def xd1 (QF:QT) (v0 v1:AV) (S:q00):Prop:=LoopP (fun r0 l S=>ywc QF r0 (y00 l 0) (y00 l 1) (y00 l 5) (y00 l 6) S) [(0,v0),(1,v1),(5,(.bool false)),(6,(.int .i64 0))] S
theorem xfy (h:xd1 QF v0 v1 S):ACalls PG yu7 [v0,v1] S QF:=wq x53 h
def x52:TFunc where
 n:=33
 args:=1
 res:=[.tmp 2]
 code:=js (jr [jx 1 41 6 0,i1 2 (.mov (.c (.str ⟨#[]⟩)))] [1]) (js (jr [ia 6 0 1,iL 7 2 6,jf 8 40 [.t 7],im 3 8] [1,3]) (js (jr [ia 9 3 1,iL 10 3 9,jf 11 39 [.t 10],im 4 11] [1,3,4]) (js (jr [ia 12 2 1,il 13 1 12,jf 14 78 [.t 13],im 5 14] [1,3,4,5]) (js (js (.reg [im 15 3,i1 16 (.bin .eql (.t 15) (.c (.str ⟨#[]⟩))),im 17 16,
  .grp 17 false [s1 18 (.mov (.t 4)),s1 19 (.bin .eql (.t 18) (.c (.str ⟨#[]⟩)))],jq 20 17 19,im 21 20,
  .grp 21 false [s1 22 (.mov (.t 5)),s1 23 (.not (.t 22))],jq 24 21 23] [1,3,4,24] []) (jd 24 (js (jr [i1 2 (.mov (.c (.str ⟨#[]⟩)))] [2]) jR) jz)) (js (jr [im 25 3,i1 26 (.bin .add (.t 25) (.c (.str ⟨#[35]⟩))),ia 27 2 1,il 28 1 27,jt 29 .add 26 28,i1 30 (.bin .add (.t 29) (.c (.str ⟨#[64]⟩))),im 31 4,jt 32 .add 30 31,im 2 32] [2]) jR)))))
abbrev yu6:Nat:=120
def y4w (QF:QT) (v1 v3 v4 v24:AV) (S:q00):Prop:=cnW v24 (rtW [.tmp (.str ⟨#[]⟩)] QF S) (biW .add v3 (.str ⟨#[35]⟩) fun v26=>faW 2 v1 fun v27=>ldW S 1 false v27 fun v28=>biW .add v26 v28 fun v29=>biW .add v29 (.str ⟨#[64]⟩) fun v30=>biW .add v30 v4 fun v32=>rtW [.tmp v32] QF S)
def yae (QF:QT) (v1 v3 v4 v5 v20:AV) (S:q00):Prop:=grW v20 false (ntW v5 fun v23=>pkW v20 (.bool true) v23 fun v24=>y4w QF v1 v3 v4 v24 S) (pkW v20 (.bool true) q07 fun v24=>y4w QF v1 v3 v4 v24 S)
def xd0 (QF:QT) (v0:AV) (S:q00):Prop:=brW 6 v0 fun v1=>faW 0 v1 fun v6=>ldW S 2 true v6 fun v7=>caW PG S (jF 40) [v7] (fun v8 S=>faW 3 v1 fun v9=>ldW S 3 true v9 fun v10=>caW PG S (jF 39) [v10] (fun v11 S=>faW 2 v1 fun v12=>ldW S 1 false v12 fun v13=>caW PG S (jF 78) [v13] (fun v14 S=>biW .eql v8 (.str ⟨#[]⟩) fun v16=>grW v16 false (biW .eql v11 (.str ⟨#[]⟩) fun v19=>pkW v16 (.bool true) v19 fun v20=>yae QF v1 v8 v11 v14 v20 S) (pkW v16 (.bool true) q07 fun v20=>yae QF v1 v8 v11 v14 v20 S)) (pqW QF)) (pqW QF)) (pqW QF)
theorem xfx (h:xd0 QF v0 S):ACalls PG yu6 [v0] S QF:=wq x52 h
def x51:TFunc where
 n:=24
 args:=2
 res:=[.tmp 4]
 code:=js (jr [jx 2 27 2 0,jx 3 27 2 1,jo 4 false] [2,3]) (js (jr [ia 5 0 2,il 6 1 5,ia 7 0 3,il 8 1 7,jt 9 .lss 6 8,im 10 9,
  .grp 10 false [s1 11 (.faddr 0 (.t 2)),s1 12 (.load 1 false (.t 11)),s1 13 (.faddr 0 (.t 3)),s1 14 (.load 1 false (.t 13)),s1 15 (.bin .eql (.t 12) (.t 14)),s1 16 (.mov (.t 15))],
  .grp 16 true [s1 17 (.faddr 1 (.t 2)),s1 18 (.load 1 false (.t 17)),s1 19 (.faddr 1 (.t 3)),s1 20 (.load 1 false (.t 19)),s1 21 (.bin .lss (.t 18) (.t 20))],
  .grp 10 false [s1 22 (.pick (.t 16) (.t 21) (.c (.bool false)))],jq 23 10 22,im 4 23] [4]) jR)
abbrev yu5:Nat:=123
def yad (QF:QT) (v10 v16 v21:AV) (S:q00):Prop:=grW v10 false (pkW v16 v21 (.bool false) fun v22=>pkW v10 (.bool true) v22 fun v23=>rtW [.tmp v23] QF S) (pkW v10 (.bool true) q07 fun v23=>rtW [.tmp v23] QF S)
def yg2 (QF:QT) (v2 v3 v10 v16:AV) (S:q00):Prop:=grW v16 true (faW 1 v2 fun v17=>ldW S 1 false v17 fun v18=>faW 1 v3 fun v19=>ldW S 1 false v19 fun v20=>biW .lss v18 v20 fun v21=>yad QF v10 v16 v21 S) (yad QF v10 v16 q07 S)
def xcz (QF:QT) (v0 v1:AV) (S:q00):Prop:=brW 2 v0 fun v2=>brW 2 v1 fun v3=>faW 0 v2 fun v5=>ldW S 1 false v5 fun v6=>faW 0 v3 fun v7=>ldW S 1 false v7 fun v8=>biW .lss v6 v8 fun v9=>grW v9 false (faW 0 v2 fun v11=>ldW S 1 false v11 fun v12=>faW 0 v3 fun v13=>ldW S 1 false v13 fun v14=>biW .eql v12 v14 fun v15=>yg2 QF v2 v3 v9 v15 S) (yg2 QF v2 v3 v9 q07 S)
theorem xfw (h:xcz QF v0 v1 S):ACalls PG yu5 [v0,v1] S QF:=wq x51 h
def x50:TFunc where
 n:=19
 args:=1
 res:=[.tmp 2]
 code:=js (jr [jx 1 27 2 0,i1 2 (.mov (.c (.str ⟨#[]⟩)))] [1]) (js (js (.reg [ia 3 0 1,il 4 1 3,jf 5 144 [.t 4],jk 6 5,im 7 6,
  .grp 7 false [s1 8 (.faddr 1 (.t 1)),s1 9 (.load 1 false (.t 8)),s1 10 (.call (.f 168) [.t 9]),s1 11 (.not (.t 10))],jq 12 7 11] [1,12] []) (jd 12 (js (jr [i1 2 (.mov (.c (.str ⟨#[]⟩)))] [2]) jR) jz)) (js (jr [ia 13 0 1,il 14 1 13,i1 15 (.bin .add (.t 14) (.c (.str ⟨#[58]⟩))),ia 16 1 1,il 17 1 16,jt 18 .add 15 17,im 2 18] [2]) jR))
abbrev yu4:Nat:=124
def yac (QF:QT) (v1 v12:AV) (S:q00):Prop:=cnW v12 (rtW [.tmp (.str ⟨#[]⟩)] QF S) (faW 0 v1 fun v13=>ldW S 1 false v13 fun v14=>biW .add v14 (.str ⟨#[58]⟩) fun v15=>faW 1 v1 fun v16=>ldW S 1 false v16 fun v17=>biW .add v15 v17 fun v18=>rtW [.tmp v18] QF S)
def xcy (QF:QT) (v0:AV) (S:q00):Prop:=brW 2 v0 fun v1=>faW 0 v1 fun v3=>ldW S 1 false v3 fun v4=>caW PG S (jF 144) [v4] (fun v5 S=>ntW v5 fun v6=>grW v6 false (faW 1 v1 fun v8=>ldW S 1 false v8 fun v9=>caW PG S (jF 168) [v9] (fun v10 S=>ntW v10 fun v11=>pkW v6 (.bool true) v11 fun v12=>yac QF v1 v12 S) (pqW QF)) (pkW v6 (.bool true) q07 fun v12=>yac QF v1 v12 S)) (pqW QF)
theorem xfv (h:xcy QF v0 S):ACalls PG yu4 [v0] S QF:=wq x50 h
def x4z:TFunc where
 n:=26
 args:=1
 res:=[.tmp 2]
 code:=js (jr [jx 1 39 3 0,i1 2 (.mov (.c (.str ⟨#[]⟩)))] [1]) (js (jr [ia 4 0 1,iL 5 2 4,jf 6 124 [.t 5],im 3 6] [1,3]) (js (jB 0 (js (.reg [im 8 3,i1 9 (.bin .eql (.t 8) (.c (.str ⟨#[]⟩))),im 10 9,
  .grp 10 false [s1 11 (.faddr 2 (.t 1)),s1 12 (.load 1 false (.t 11)),s1 13 (.bin .eql (.t 12) (.c (.str ⟨#[]⟩)))],jq 14 10 13,im 7 14] [1,3,7] []) (jd 7 (js (jr [im 15 3,im 2 15] [2]) jR) (js (jr [ia 17 2 1,il 18 1 17,jf 19 144 [.t 18],jk 20 19,im 16 20] [1,3,16]) (jd 16 (js (jr [i1 2 (.mov (.c (.str ⟨#[]⟩)))] [2]) jR) jz))))) (js (jr [im 21 3,i1 22 (.bin .add (.t 21) (.c (.str ⟨#[35]⟩))),ia 23 2 1,il 24 1 23,jt 25 .add 22 24,im 2 25] [2]) jR)))
abbrev yu3:Nat:=125
def yab (QF:QT) (v1 v3 v14:AV) (S:q00):Prop:=cnW v14 (rtW [.tmp v3] QF S) (faW 2 v1 fun v17=>ldW S 1 false v17 fun v18=>caW PG S (jF 144) [v18] (fun v19 S=>ntW v19 fun v20=>cnW v20 (rtW [.tmp (.str ⟨#[]⟩)] QF S) (biW .add v3 (.str ⟨#[35]⟩) fun v22=>faW 2 v1 fun v23=>ldW S 1 false v23 fun v24=>biW .add v22 v24 fun v25=>rtW [.tmp v25] QF S)) (pqW QF))
def xcx (QF:QT) (v0:AV) (S:q00):Prop:=brW 3 v0 fun v1=>faW 0 v1 fun v4=>ldW S 2 true v4 fun v5=>caW PG S (jF 124) [v5] (fun v6 S=>biW .eql v6 (.str ⟨#[]⟩) fun v9=>grW v9 false (faW 2 v1 fun v11=>ldW S 1 false v11 fun v12=>biW .eql v12 (.str ⟨#[]⟩) fun v13=>pkW v9 (.bool true) v13 fun v14=>yab QF v1 v6 v14 S) (pkW v9 (.bool true) q07 fun v14=>yab QF v1 v6 v14 S)) (pqW QF)
theorem xfu (h:xcx QF v0 S):ACalls PG yu3 [v0] S QF:=wq x4z h
def x4y:TFunc where
 n:=19
 args:=2
 res:=[.tmp 4]
 code:=js (jr [jc 4 .i64 0] [0,1]) (js (js (jr [im 6 0,jl 7 1 6,jc 8 .i64 0] [0,1,7,8]) (jB 0 (.loop [0,1,7,8] (js (jr [jt 9 .lss 8 7] [0,1,7,8,9]) (js (jd 9 jz (jE 0)) (js (jB 1 (js (jr [im 10 8,im 5 10] [0,1,5,7,8]) (js (jr [im 11 1,im 12 0,im 13 5,ja 14 2 12 13,iL 15 2 14,i1 16 (.call (.t 11) [.t 15])] [0,1,5,7,8,16]) (jd 16 (js (jr [im 17 5,im 4 17] [4]) jR) jz)))) (jr [jb 18 .add 8 .i64 1,im 8 18] [0,1,7,8]))))))) (js (jr [jc 4 .i64 (-1)] [4]) jR))
abbrev yu2:Nat:=127
def ywa (QF:QT) (r0:RT) (v0 v1 v7 v8:AV) (S:q00):Prop:=biW .lss v8 v7 fun v9=>cnW v9 (iaW 2 v0 v8 fun v14=>ldW S 2 true v14 fun v15=>caW PG S v1 [v15] (fun v16 S=>cnW v16 (rtW [.tmp v8] QF S) (biW .add v8 (.int .i64 1) fun v18=>rcW r0 [(0,v0),(1,v1),(7,v7),(8,v18)] S)) (pqW QF)) (rtW [.tmp (.int .i64 (-1))] QF S)
def xcw (QF:QT) (v0 v1:AV) (S:q00):Prop:=lnW S 1 v0 fun v7=>LoopP (fun r0 l S=>ywa QF r0 (y00 l 0) (y00 l 1) (y00 l 7) (y00 l 8) S) [(0,v0),(1,v1),(7,v7),(8,(.int .i64 0))] S
theorem xft (h:xcw QF v0 v1 S):ACalls PG yu2 [v0,v1] S QF:=wq x4y h
def x4x:TFunc where
 n:=45
 args:=1
 res:=[.tmp 2]
 code:=js (jr [jc 2 .i64 0] [0]) (js (jr [jc 3 .i64 0] [0,3]) (js (jB 0 (.loop [0,3] (js (js (jr [im 4 3,im 5 0,jl 6 0 5,jt 7 .lss 4 6,im 8 7,
  .grp 8 true [s1 9 (.mov (.t 0)),s1 10 (.mov (.t 3)),s1 11 (.idxs (.t 9) (.t 10)),s1 12 (.bin .geq (.t 11) (.c (.int .u8 97))),s1 13 (.mov (.t 12))],
  .grp 13 true [s1 14 (.mov (.t 0)),s1 15 (.mov (.t 3)),s1 16 (.idxs (.t 14) (.t 15)),s1 17 (.bin .leq (.t 16) (.c (.int .u8 122)))],
  .grp 8 true [s1 18 (.pick (.t 13) (.t 17) (.c (.bool false))),s1 19 (.mov (.t 18))],
  .grp 19 false [s1 20 (.mov (.t 3)),s1 21 (.bin .gtr (.t 20) (.c (.int .i64 0))),s1 22 (.mov (.t 21))],
  .grp 22 true [s1 23 (.mov (.t 0)),s1 24 (.mov (.t 3)),s1 25 (.idxs (.t 23) (.t 24)),s1 26 (.bin .eql (.t 25) (.c (.int .u8 95))),s1 27 (.mov (.t 26))],
  .grp 27 false [s1 28 (.mov (.t 0)),s1 29 (.mov (.t 3)),s1 30 (.idxs (.t 28) (.t 29)),s1 31 (.bin .geq (.t 30) (.c (.int .u8 48))),s1 32 (.mov (.t 31))],
  .grp 32 true [s1 33 (.mov (.t 0)),s1 34 (.mov (.t 3)),s1 35 (.idxs (.t 33) (.t 34)),s1 36 (.bin .leq (.t 35) (.c (.int .u8 57)))],
  .grp 27 false [s1 37 (.pick (.t 32) (.t 36) (.c (.bool false)))],
  .grp 22 true [s1 38 (.pick (.t 27) (.c (.bool true)) (.t 37))],
  .grp 19 false [s1 39 (.pick (.t 22) (.t 38) (.c (.bool false)))],
  .grp 8 true [s1 40 (.pick (.t 19) (.c (.bool true)) (.t 39))],jp 41 8 40] [0,3,41]) (jd 41 jz (jE 0))) (jB 1 (jr [im 42 3,jb 43 .add 42 .i64 1,im 3 43] [0,3]))))) (js (jr [im 44 3,im 2 44] [2]) jR)))
abbrev yu1:Nat:=128
def y6v (QF:QT) (r0:RT) (v0 v3 v8 v19 v39:AV) (S:q00):Prop:=grW v8 true (pkW v19 (.bool true) v39 fun v40=>pkW v8 v40 (.bool false) fun v41=>cnW v41 (biW .add v3 (.int .i64 1) fun v43=>rcW r0 [(0,v0),(3,v43)] S) (rtW [.tmp v3] QF S)) (pkW v8 q07 (.bool false) fun v41=>cnW v41 (biW .add v3 (.int .i64 1) fun v43=>rcW r0 [(0,v0),(3,v43)] S) (rtW [.tmp v3] QF S))
def y6w (QF:QT) (r0:RT) (v0 v3 v8 v19 v22 v38:AV) (S:q00):Prop:=grW v19 false (pkW v22 v38 (.bool false) fun v39=>y6v QF r0 v0 v3 v8 v19 v39 S) (y6v QF r0 v0 v3 v8 v19 q07 S)
def yfu (QF:QT) (r0:RT) (v0 v3 v8 v19 v22 v27 v37:AV) (S:q00):Prop:=grW v22 true (pkW v27 (.bool true) v37 fun v38=>y6w QF r0 v0 v3 v8 v19 v22 v38 S) (y6w QF r0 v0 v3 v8 v19 v22 q07 S)
def yfv (QF:QT) (r0:RT) (v0 v3 v8 v19 v22 v27 v32 v36:AV) (S:q00):Prop:=grW v27 false (pkW v32 v36 (.bool false) fun v37=>yfu QF r0 v0 v3 v8 v19 v22 v27 v37 S) (yfu QF r0 v0 v3 v8 v19 v22 v27 q07 S)
def yfw (QF:QT) (r0:RT) (v0 v3 v8 v19 v22 v27 v32:AV) (S:q00):Prop:=grW v32 true (isW v0 v3 fun v35=>biW .leq v35 (.int .u8 57) fun v36=>yfv QF r0 v0 v3 v8 v19 v22 v27 v32 v36 S) (yfv QF r0 v0 v3 v8 v19 v22 v27 v32 q07 S)
def yfx (QF:QT) (r0:RT) (v0 v3 v8 v19 v22 v27:AV) (S:q00):Prop:=grW v27 false (isW v0 v3 fun v30=>biW .geq v30 (.int .u8 48) fun v31=>yfw QF r0 v0 v3 v8 v19 v22 v27 v31 S) (yfw QF r0 v0 v3 v8 v19 v22 v27 q07 S)
def yfy (QF:QT) (r0:RT) (v0 v3 v8 v19 v22:AV) (S:q00):Prop:=grW v22 true (isW v0 v3 fun v25=>biW .eql v25 (.int .u8 95) fun v26=>yfx QF r0 v0 v3 v8 v19 v22 v26 S) (yfx QF r0 v0 v3 v8 v19 v22 q07 S)
def yfz (QF:QT) (r0:RT) (v0 v3 v8 v19:AV) (S:q00):Prop:=grW v19 false (biW .gtr v3 (.int .i64 0) fun v21=>yfy QF r0 v0 v3 v8 v19 v21 S) (yfy QF r0 v0 v3 v8 v19 q07 S)
def yg0 (QF:QT) (r0:RT) (v0 v3 v8 v13 v17:AV) (S:q00):Prop:=grW v8 true (pkW v13 v17 (.bool false) fun v18=>yfz QF r0 v0 v3 v8 v18 S) (yfz QF r0 v0 v3 v8 q07 S)
def yg1 (QF:QT) (r0:RT) (v0 v3 v8 v13:AV) (S:q00):Prop:=grW v13 true (isW v0 v3 fun v16=>biW .leq v16 (.int .u8 122) fun v17=>yg0 QF r0 v0 v3 v8 v13 v17 S) (yg0 QF r0 v0 v3 v8 v13 q07 S)
def yo0 (QF:QT) (r0:RT) (v0 v3:AV) (S:q00):Prop:=lnW S 0 v0 fun v6=>biW .lss v3 v6 fun v7=>grW v7 true (isW v0 v3 fun v11=>biW .geq v11 (.int .u8 97) fun v12=>yg1 QF r0 v0 v3 v7 v12 S) (yg1 QF r0 v0 v3 v7 q07 S)
def xcv (QF:QT) (v0:AV) (S:q00):Prop:=LoopP (fun r0 l S=>yo0 QF r0 (y00 l 0) (y00 l 3) S) [(0,v0),(3,(.int .i64 0))] S
theorem xfs (h:xcv QF v0 S):ACalls PG yu1 [v0] S QF:=wq x4x h
def x4w:TFunc where
 n:=21
 args:=1
 res:=[.tmp 2]
 code:=js (jr [i1 2 (.mov (.c (.str ⟨#[]⟩)))] [0]) (js (jr [i1 3 (.mov (.c (.str ⟨#[58,124,35,43,45,38,46,40,41]⟩)))] [0,3]) (js (js (jr [jc 4 .i64 0] [0,3,4]) (jB 0 (.loop [0,3,4] (js (js (jr [im 5 4,im 6 3,jl 7 0 6,jt 8 .lss 5 7] [0,3,4,8]) (jd 8 jz (jE 0))) (js (jB 1 (js (jr [im 11 3,im 12 4,i1 13 (.idxs (.t 11) (.t 12)),im 14 0,jt 15 .eql 13 14] [0,3,4,15]) (jd 15 (js (jr [im 16 3,im 17 4,im 18 4,jb 19 .add 18 .i64 1,i1 20 (.slics (.t 16) (some (.t 17)) (some (.t 19))),im 2 20] [2]) jR) jz))) (jr [im 9 4,jb 10 .add 9 .i64 1,im 4 10] [0,3,4])))))) (js (jr [i1 2 (.mov (.c (.str ⟨#[63]⟩)))] [2]) jR)))
abbrev yu0:Nat:=129
def yw9 (QF:QT) (r0:RT) (v0 v3 v4:AV) (S:q00):Prop:=lnW S 0 v3 fun v7=>biW .lss v4 v7 fun v8=>cnW v8 (isW v3 v4 fun v13=>biW .eql v13 v0 fun v15=>cnW v15 (biW .add v4 (.int .i64 1) fun v19=>ssW v3 (some v4) (some v19) fun v20=>rtW [.tmp v20] QF S) (biW .add v4 (.int .i64 1) fun v10=>rcW r0 [(0,v0),(3,v3),(4,v10)] S)) (rtW [.tmp (.str ⟨#[63]⟩)] QF S)
def xcu (QF:QT) (v0:AV) (S:q00):Prop:=LoopP (fun r0 l S=>yw9 QF r0 (y00 l 0) (y00 l 3) (y00 l 4) S) [(0,v0),(3,(.str ⟨#[58,124,35,43,45,38,46,40,41]⟩)),(4,(.int .i64 0))] S
theorem xfr (h:xcu QF v0 S):ACalls PG yu0 [v0] S QF:=wq x4w h
end Go.HL
