/- A part of a proof. -/
import Derived.Test.YtadmdlpmikoghaaGreatKhHlP
set_option maxRecDepth 100000
set_option linter.unusedVariables false
namespace Go.HL
def tf_ref12_plain:TFunc where
  n:=136
  args:=1
  res:=[.cell 2 3 true]
  code:=.seq (.reg [i1 1 (.boxr 24 1 (.t 0)),
    i1 2 (.alloc 88 [.int .i64 0,.int .i64 0,.int .i64 0])] [1,2] []) (.seq (.reg [i1 11 (.load 1 true (.t 1)),
    i1 12 (.call (.f 149) [.t 11]),
    i1 3 (.mov (.t 12))] [1,2,3] []) (.seq (.seq (.reg [i1 13 (.mov (.t 3)),
    i1 14 (.not (.t 13)),
    i1 15 (.mov (.t 14)),
    .grp 15 false [s1 16 (.faddr 0 (.t 1)),s1 17 (.load 1 false (.t 16)),s1 18 (.len 1 (.t 17)),s1 19 (.bin .eql (.t 18) (.c (.int .i64 0)))],
    i1 20 (.pick (.t 15) (.c (.bool true)) (.t 19))] [1,2,20] []) (.cond (.t 20) (.seq (.reg [i1 21 (.build [.int .i64 0,.int .i64 0,.int .i64 0] [(1,1,.c (.int .i64 (-1))),(2,1,.c (.int .i64 1))]),
    i0 (.store 3 (.t 2) (.t 21))] [2] []) (.ret)) (.skip))) (.seq (.seq (.reg [i1 22 (.faddr 0 (.t 1)),
    i1 23 (.load 1 false (.t 22)),
    i1 24 (.len 1 (.t 23)),
    i1 25 (.bin .gtr (.t 24) (.c (.int .i64 16)))] [1,2,25] []) (.cond (.t 25) (.seq (.reg [i1 26 (.build [.int .i64 0,.int .i64 0,.int .i64 0] [(1,1,.c (.int .i64 (-1))),(2,1,.c (.int .i64 2))]),
    i0 (.store 3 (.t 2) (.t 26))] [2] []) (.ret)) (.skip))) (.seq (.seq (.reg [i1 4 (.mov (.c (.int .i64 0)))] [1,2,4] []) (.block 0 (.loop [1,2,4] (.seq (.seq (.reg [i1 27 (.mov (.t 4)),
    i1 28 (.faddr 0 (.t 1)),
    i1 29 (.load 1 false (.t 28)),
    i1 30 (.len 1 (.t 29)),
    i1 31 (.bin .lss (.t 27) (.t 30))] [1,2,4,31] []) (.cond (.t 31) (.skip) (.exit 0))) (.seq (.block 1 (.seq (.reg [i1 34 (.faddr 0 (.t 1)),
    i1 35 (.load 1 false (.t 34)),
    i1 36 (.mov (.t 4)),
    i1 37 (.iaddr 2 (.t 35) (.t 36)),
    i1 38 (.faddr 1 (.t 37)),
    i1 39 (.load 1 false (.t 38)),
    i1 40 (.len 1 (.t 39)),
    i1 41 (.bin .gtr (.t 40) (.c (.int .i64 16)))] [1,2,4,41] []) (.cond (.t 41) (.seq (.reg [i1 42 (.mov (.t 4)),
    i1 43 (.build [.int .i64 0,.int .i64 0,.int .i64 0] [(0,1,.t 42),(1,1,.c (.int .i64 (-1))),(2,1,.c (.int .i64 2))]),
    i0 (.store 3 (.t 2) (.t 43))] [2] []) (.ret)) (.skip)))) (.reg [i1 32 (.mov (.t 4)),
    i1 33 (.bin .add (.t 32) (.c (.int .i64 1))),
    i1 4 (.mov (.t 33))] [1,2,4] [])))))) (.seq (.seq (.reg [i1 5 (.mov (.c (.int .i64 0)))] [1,2,5] []) (.block 2 (.loop [1,2,5] (.seq (.seq (.reg [i1 44 (.mov (.t 5)),
    i1 45 (.faddr 0 (.t 1)),
    i1 46 (.load 1 false (.t 45)),
    i1 47 (.len 1 (.t 46)),
    i1 48 (.bin .lss (.t 44) (.t 47))] [1,2,5,48] []) (.cond (.t 48) (.skip) (.exit 2))) (.seq (.block 3 (.seq (.regl [1,3,8,0,2,4,5,6,7,9] [i1 52 (.faddr 0 (.t 1)),
    i1 54 (.mov (.t 5)),
    i1 59 (.mov (.t 5)),
    i1 51 (.load 1 true (.t 1)),
    i1 53 (.load 1 false (.t 52)),
    i1 55 (.iaddr 2 (.t 53) (.t 54)),
    i1 56 (.faddr 0 (.t 55)),
    i1 57 (.load 1 false (.t 56)),
    i1 58 (.call (.f 66) [.t 51,.t 57]),
    i1 60 (.bin .lss (.t 58) (.t 59))] [1,2,5,60] []) (.cond (.t 60) (.seq (.reg [i1 61 (.mov (.t 5)),
    i1 62 (.build [.int .i64 0,.int .i64 0,.int .i64 0] [(0,1,.t 61),(1,1,.c (.int .i64 (-1))),(2,1,.c (.int .i64 7))]),
    i0 (.store 3 (.t 2) (.t 62))] [2] []) (.ret)) (.skip)))) (.reg [i1 49 (.mov (.t 5)),
    i1 50 (.bin .add (.t 49) (.c (.int .i64 1))),
    i1 5 (.mov (.t 50))] [1,2,5] [])))))) (.seq (.seq (.reg [i1 6 (.mov (.c (.int .i64 0)))] [1,2,6] []) (.block 4 (.loop [1,2,6] (.seq (.seq (.reg [i1 63 (.mov (.t 6)),
    i1 64 (.faddr 0 (.t 1)),
    i1 65 (.load 1 false (.t 64)),
    i1 66 (.len 1 (.t 65)),
    i1 67 (.bin .lss (.t 63) (.t 66))] [1,2,6,67] []) (.cond (.t 67) (.skip) (.exit 4))) (.seq (.block 5 (.seq (.reg [i1 7 (.mov (.c (.int .i64 0)))] [1,2,6,7] []) (.block 6 (.loop [1,2,6,7] (.seq (.seq (.reg [i1 70 (.mov (.t 7)),
    i1 71 (.faddr 0 (.t 1)),
    i1 72 (.load 1 false (.t 71)),
    i1 73 (.mov (.t 6)),
    i1 74 (.iaddr 2 (.t 72) (.t 73)),
    i1 75 (.faddr 1 (.t 74)),
    i1 76 (.load 1 false (.t 75)),
    i1 77 (.len 1 (.t 76)),
    i1 78 (.bin .lss (.t 70) (.t 77))] [1,2,6,7,78] []) (.cond (.t 78) (.skip) (.exit 6))) (.seq (.block 7 (.seq (.regl [1,2,4,8,13,0,3,5,6,7,9,10,11,12,14] [i1 82 (.mov (.t 6)),
    i1 83 (.faddr 0 (.t 1)),
    i1 85 (.mov (.t 6)),
    i1 89 (.mov (.t 7)),
    i1 94 (.mov (.t 7)),
    i1 81 (.load 1 true (.t 1)),
    i1 84 (.load 1 false (.t 83)),
    i1 86 (.iaddr 2 (.t 84) (.t 85)),
    i1 87 (.faddr 1 (.t 86)),
    i1 88 (.load 1 false (.t 87)),
    i1 90 (.iaddr 6 (.t 88) (.t 89)),
    i1 91 (.faddr 0 (.t 90)),
    i1 92 (.load 1 false (.t 91)),
    i1 93 (.call (.f 67) [.t 81,.t 82,.t 92]),
    i1 95 (.bin .lss (.t 93) (.t 94))] [1,2,6,7,95] []) (.cond (.t 95) (.seq (.reg [i1 96 (.mov (.t 6)),
    i1 97 (.mov (.t 7)),
    i1 98 (.build [.int .i64 0,.int .i64 0,.int .i64 0] [(0,1,.t 96),(1,1,.t 97),(2,1,.c (.int .i64 7))]),
    i0 (.store 3 (.t 2) (.t 98))] [2] []) (.ret)) (.skip)))) (.reg [i1 79 (.mov (.t 7)),
    i1 80 (.bin .add (.t 79) (.c (.int .i64 1))),
    i1 7 (.mov (.t 80))] [1,2,6,7] []))))))) (.reg [i1 68 (.mov (.t 6)),
    i1 69 (.bin .add (.t 68) (.c (.int .i64 1))),
    i1 6 (.mov (.t 69))] [1,2,6] [])))))) (.seq (.seq (.reg [i1 8 (.mov (.c (.int .i64 0)))] [1,2,8] []) (.block 8 (.loop [1,2,8] (.seq (.seq (.reg [i1 99 (.mov (.t 8)),
    i1 100 (.faddr 0 (.t 1)),
    i1 101 (.load 1 false (.t 100)),
    i1 102 (.len 1 (.t 101)),
    i1 103 (.bin .lss (.t 99) (.t 102))] [1,2,8,103] []) (.cond (.t 103) (.skip) (.exit 8))) (.seq (.block 9 (.seq (.reg [i1 9 (.mov (.c (.int .i64 0)))] [1,2,8,9] []) (.block 10 (.loop [1,2,8,9] (.seq (.seq (.reg [i1 106 (.mov (.t 9)),
    i1 107 (.faddr 0 (.t 1)),
    i1 108 (.load 1 false (.t 107)),
    i1 109 (.mov (.t 8)),
    i1 110 (.iaddr 2 (.t 108) (.t 109)),
    i1 111 (.faddr 1 (.t 110)),
    i1 112 (.load 1 false (.t 111)),
    i1 113 (.len 1 (.t 112)),
    i1 114 (.bin .lss (.t 106) (.t 113))] [1,2,8,9,114] []) (.cond (.t 114) (.skip) (.exit 10))) (.seq (.block 11 (.seq (.regl [1,2,4,8,0,3,5,6,7,9,10,11,12] [i1 118 (.mov (.t 8)),
    i1 119 (.faddr 0 (.t 1)),
    i1 121 (.mov (.t 8)),
    i1 125 (.mov (.t 9)),
    i1 117 (.load 1 true (.t 1)),
    i1 120 (.load 1 false (.t 119)),
    i1 122 (.iaddr 2 (.t 120) (.t 121)),
    i1 123 (.faddr 1 (.t 122)),
    i1 124 (.load 1 false (.t 123)),
    i1 126 (.iaddr 6 (.t 124) (.t 125)),
    i1 127 (.load 6 true (.t 126)),
    i1 128 (.call (.f 150) [.t 117,.t 118,.t 127]),
    i1 10 (.mov (.t 128))] [1,2,8,9,10] []) (.seq (.reg [i1 129 (.mov (.t 10)),
    i1 130 (.bin .neq (.t 129) (.c (.int .i64 0)))] [1,2,8,9,10,130] []) (.cond (.t 130) (.seq (.reg [i1 131 (.mov (.t 8)),
    i1 132 (.mov (.t 9)),
    i1 133 (.mov (.t 10)),
    i1 134 (.build [.int .i64 0,.int .i64 0,.int .i64 0] [(0,1,.t 131),(1,1,.t 132),(2,1,.t 133)]),
    i0 (.store 3 (.t 2) (.t 134))] [2] []) (.ret)) (.skip))))) (.reg [i1 115 (.mov (.t 9)),
    i1 116 (.bin .add (.t 115) (.c (.int .i64 1))),
    i1 9 (.mov (.t 116))] [1,2,8,9] []))))))) (.reg [i1 104 (.mov (.t 8)),
    i1 105 (.bin .add (.t 104) (.c (.int .i64 1))),
    i1 8 (.mov (.t 105))] [1,2,8] [])))))) (.seq (.reg [i1 135 (.build [.int .i64 0,.int .i64 0,.int .i64 0] []),
    i0 (.store 3 (.t 2) (.t 135))] [2] []) (.ret)))))))))
abbrev nr_ref12_plain:Nat:=102
def C_ref12_plain_7 (QF:AEnd→Store→Prop) (r0:LE→Store→Prop) (r1:LE→Store→Prop) (v1 v2 v6 v7:AV) (S:Store):Prop:=
  faW 0 v1 fun v71=>
  ldW S 1 false v71 fun v72=>
  iaW 2 v72 v6 fun v74=>
  faW 1 v74 fun v75=>
  ldW S 1 false v75 fun v76=>
  lnW S 1 v76 fun v77=>
  biW .lss v7 v77 fun v78=>
  cnW v78 (faW 0 v1 fun v83=>
  ldW S 1 true v1 fun v81=>
  ldW S 1 false v83 fun v84=>
  iaW 2 v84 v6 fun v86=>
  faW 1 v86 fun v87=>
  ldW S 1 false v87 fun v88=>
  iaW 6 v88 v7 fun v90=>
  faW 0 v90 fun v91=>
  ldW S 1 false v91 fun v92=>
  caW PG S (.func (.func 67) [] []) [v81,v6,v92] (fun v93 S=>
  biW .lss v93 v7 fun v95=>
  cnW v95 (bdW [.int .i64 0,.int .i64 0,.int .i64 0] [(0,1,v6),(1,1,v7),(2,1,(.int .i64 7))] fun v98=>
  stW S 3 v2 v98 fun S=>
  rtW [.cell v2 3 true] QF S)
  (biW .add v7 (.int .i64 1) fun v80=>
  rcW r1 [(1,v1),(2,v2),(6,v6),(7,v80)] S)) (pqW QF))
  (biW .add v6 (.int .i64 1) fun v69=>
  rcW r0 [(1,v1),(2,v2),(6,v69)] S)
def C_ref12_plain_6 (QF:AEnd→Store→Prop) (r0:LE→Store→Prop) (r1:LE→Store→Prop) (v1 v2 v8 v9:AV) (S:Store):Prop:=
  faW 0 v1 fun v107=>
  ldW S 1 false v107 fun v108=>
  iaW 2 v108 v8 fun v110=>
  faW 1 v110 fun v111=>
  ldW S 1 false v111 fun v112=>
  lnW S 1 v112 fun v113=>
  biW .lss v9 v113 fun v114=>
  cnW v114 (faW 0 v1 fun v119=>
  ldW S 1 true v1 fun v117=>
  ldW S 1 false v119 fun v120=>
  iaW 2 v120 v8 fun v122=>
  faW 1 v122 fun v123=>
  ldW S 1 false v123 fun v124=>
  iaW 6 v124 v9 fun v126=>
  ldW S 6 true v126 fun v127=>
  caW PG S (.func (.func 150) [] []) [v117,v8,v127] (fun v128 S=>
  biW .neq v128 (.int .i64 0) fun v130=>
  cnW v130 (bdW [.int .i64 0,.int .i64 0,.int .i64 0] [(0,1,v8),(1,1,v9),(2,1,v128)] fun v134=>
  stW S 3 v2 v134 fun S=>
  rtW [.cell v2 3 true] QF S)
  (biW .add v9 (.int .i64 1) fun v116=>
  rcW r1 [(1,v1),(2,v2),(8,v8),(9,v116)] S)) (pqW QF))
  (biW .add v8 (.int .i64 1) fun v105=>
  rcW r0 [(1,v1),(2,v2),(8,v105)] S)
def C_ref12_plain_5 (QF:AEnd→Store→Prop) (r0:LE→Store→Prop) (v1 v2 v8:AV) (S:Store):Prop:=
  faW 0 v1 fun v100=>
  ldW S 1 false v100 fun v101=>
  lnW S 1 v101 fun v102=>
  biW .lss v8 v102 fun v103=>
  cnW v103 (LoopP (fun r1 l S=>C_ref12_plain_6 QF r0 r1 (lget l 1) (lget l 2) (lget l 8) (lget l 9) S) [(1,v1),(2,v2),(8,v8),(9,(.int .i64 0))] S)
  (bdW [.int .i64 0,.int .i64 0,.int .i64 0] [] fun v135=>
  stW S 3 v2 v135 fun S=>
  rtW [.cell v2 3 true] QF S)
def C_ref12_plain_4 (QF:AEnd→Store→Prop) (r0:LE→Store→Prop) (v1 v2 v6:AV) (S:Store):Prop:=
  faW 0 v1 fun v64=>
  ldW S 1 false v64 fun v65=>
  lnW S 1 v65 fun v66=>
  biW .lss v6 v66 fun v67=>
  cnW v67 (LoopP (fun r1 l S=>C_ref12_plain_7 QF r0 r1 (lget l 1) (lget l 2) (lget l 6) (lget l 7) S) [(1,v1),(2,v2),(6,v6),(7,(.int .i64 0))] S)
  (LoopP (fun r0 l S=>C_ref12_plain_5 QF r0 (lget l 1) (lget l 2) (lget l 8) S) [(1,v1),(2,v2),(8,(.int .i64 0))] S)
def C_ref12_plain_3 (QF:AEnd→Store→Prop) (r0:LE→Store→Prop) (v1 v2 v5:AV) (S:Store):Prop:=
  faW 0 v1 fun v45=>
  ldW S 1 false v45 fun v46=>
  lnW S 1 v46 fun v47=>
  biW .lss v5 v47 fun v48=>
  cnW v48 (faW 0 v1 fun v52=>
  ldW S 1 true v1 fun v51=>
  ldW S 1 false v52 fun v53=>
  iaW 2 v53 v5 fun v55=>
  faW 0 v55 fun v56=>
  ldW S 1 false v56 fun v57=>
  caW PG S (.func (.func 66) [] []) [v51,v57] (fun v58 S=>
  biW .lss v58 v5 fun v60=>
  cnW v60 (bdW [.int .i64 0,.int .i64 0,.int .i64 0] [(0,1,v5),(1,1,(.int .i64 (-1))),(2,1,(.int .i64 7))] fun v62=>
  stW S 3 v2 v62 fun S=>
  rtW [.cell v2 3 true] QF S)
  (biW .add v5 (.int .i64 1) fun v50=>
  rcW r0 [(1,v1),(2,v2),(5,v50)] S)) (pqW QF))
  (LoopP (fun r0 l S=>C_ref12_plain_4 QF r0 (lget l 1) (lget l 2) (lget l 6) S) [(1,v1),(2,v2),(6,(.int .i64 0))] S)
def C_ref12_plain_2 (QF:AEnd→Store→Prop) (r0:LE→Store→Prop) (v1 v2 v4:AV) (S:Store):Prop:=
  faW 0 v1 fun v28=>
  ldW S 1 false v28 fun v29=>
  lnW S 1 v29 fun v30=>
  biW .lss v4 v30 fun v31=>
  cnW v31 (faW 0 v1 fun v34=>
  ldW S 1 false v34 fun v35=>
  iaW 2 v35 v4 fun v37=>
  faW 1 v37 fun v38=>
  ldW S 1 false v38 fun v39=>
  lnW S 1 v39 fun v40=>
  biW .gtr v40 (.int .i64 16) fun v41=>
  cnW v41 (bdW [.int .i64 0,.int .i64 0,.int .i64 0] [(0,1,v4),(1,1,(.int .i64 (-1))),(2,1,(.int .i64 2))] fun v43=>
  stW S 3 v2 v43 fun S=>
  rtW [.cell v2 3 true] QF S)
  (biW .add v4 (.int .i64 1) fun v33=>
  rcW r0 [(1,v1),(2,v2),(4,v33)] S))
  (LoopP (fun r0 l S=>C_ref12_plain_3 QF r0 (lget l 1) (lget l 2) (lget l 5) S) [(1,v1),(2,v2),(5,(.int .i64 0))] S)
def C_ref12_plain_1 (QF:AEnd→Store→Prop) (v1 v2 v20:AV) (S:Store):Prop:=
  cnW v20 (bdW [.int .i64 0,.int .i64 0,.int .i64 0] [(1,1,(.int .i64 (-1))),(2,1,(.int .i64 1))] fun v21=>
  stW S 3 v2 v21 fun S=>
  rtW [.cell v2 3 true] QF S)
  (faW 0 v1 fun v22=>
  ldW S 1 false v22 fun v23=>
  lnW S 1 v23 fun v24=>
  biW .gtr v24 (.int .i64 16) fun v25=>
  cnW v25 (bdW [.int .i64 0,.int .i64 0,.int .i64 0] [(1,1,(.int .i64 (-1))),(2,1,(.int .i64 2))] fun v26=>
  stW S 3 v2 v26 fun S=>
  rtW [.cell v2 3 true] QF S)
  (LoopP (fun r0 l S=>C_ref12_plain_2 QF r0 (lget l 1) (lget l 2) (lget l 4) S) [(1,v1),(2,v2),(4,(.int .i64 0))] S))
def B_ref12_plain (QF:AEnd→Store→Prop) (v0:AV) (S:Store):Prop:=
  brW 1 v0 fun v1=>
  alW S 88 [.int .i64 0,.int .i64 0,.int .i64 0] fun v2 S=>
  ldW S 1 true v1 fun v11=>
  caW PG S (.func (.func 149) [] []) [v11] (fun v12 S=>
  ntW v12 fun v14=>
  grW v14 false (faW 0 v1 fun v16=>
  ldW S 1 false v16 fun v17=>
  lnW S 1 v17 fun v18=>
  biW .eql v18 (.int .i64 0) fun v19=>
  pkW v14 (.bool true) v19 fun v20=>
  C_ref12_plain_1 QF v1 v2 v20 S)
  (pkW v14 (.bool true) undefA fun v20=>
  C_ref12_plain_1 QF v1 v2 v20 S)) (pqW QF)
theorem w_ref12_plain {QF:AEnd→Store→Prop} {v0:AV} {S:Store} (h:B_ref12_plain QF v0 S):ACalls PG nr_ref12_plain [v0] S QF:=
  acalls_tf (F:=tf_ref12_plain) (by kernel_rfl) rfl (by kernel_rfl) h
def tf_ref12_many:TFunc where
  n:=22
  args:=1
  res:=[.tmp 2]
  code:=.seq (.reg [i1 1 (.boxr 24 1 (.t 0)),
    i1 2 (.mov (.c (.int .i64 0)))] [1] []) (.seq (.reg [i1 3 (.mov (.c (.int .i64 0)))] [1,3] []) (.seq (.seq (.reg [i1 4 (.mov (.c (.int .i64 0)))] [1,3,4] []) (.block 0 (.loop [1,3,4] (.seq (.seq (.reg [i1 5 (.mov (.t 4)),
    i1 6 (.faddr 0 (.t 1)),
    i1 7 (.load 1 false (.t 6)),
    i1 8 (.len 1 (.t 7)),
    i1 9 (.bin .lss (.t 5) (.t 8))] [1,3,4,9] []) (.cond (.t 9) (.skip) (.exit 0))) (.seq (.block 1 (.reg [i1 12 (.mov (.t 3)),
    i1 13 (.faddr 0 (.t 1)),
    i1 14 (.load 1 false (.t 13)),
    i1 15 (.mov (.t 4)),
    i1 16 (.iaddr 2 (.t 14) (.t 15)),
    i1 17 (.faddr 1 (.t 16)),
    i1 18 (.load 1 false (.t 17)),
    i1 19 (.len 1 (.t 18)),
    i1 20 (.bin .add (.t 12) (.t 19)),
    i1 3 (.mov (.t 20))] [1,3,4] [])) (.reg [i1 10 (.mov (.t 4)),
    i1 11 (.bin .add (.t 10) (.c (.int .i64 1))),
    i1 4 (.mov (.t 11))] [1,3,4] [])))))) (.seq (.reg [i1 21 (.mov (.t 3)),
    i1 2 (.mov (.t 21))] [2] []) (.ret))))
abbrev nr_ref12_many:Nat:=103
def C_ref12_many_1 (QF:AEnd→Store→Prop) (r0:LE→Store→Prop) (v1 v3 v4:AV) (S:Store):Prop:=
  faW 0 v1 fun v6=>
  ldW S 1 false v6 fun v7=>
  lnW S 1 v7 fun v8=>
  biW .lss v4 v8 fun v9=>
  cnW v9 (faW 0 v1 fun v13=>
  ldW S 1 false v13 fun v14=>
  iaW 2 v14 v4 fun v16=>
  faW 1 v16 fun v17=>
  ldW S 1 false v17 fun v18=>
  lnW S 1 v18 fun v19=>
  biW .add v3 v19 fun v20=>
  biW .add v4 (.int .i64 1) fun v11=>
  rcW r0 [(1,v1),(3,v20),(4,v11)] S)
  (rtW [.tmp v3] QF S)
def B_ref12_many (QF:AEnd→Store→Prop) (v0:AV) (S:Store):Prop:=
  brW 1 v0 fun v1=>
  LoopP (fun r0 l S=>C_ref12_many_1 QF r0 (lget l 1) (lget l 3) (lget l 4) S) [(1,v1),(3,(.int .i64 0)),(4,(.int .i64 0))] S
theorem w_ref12_many {QF:AEnd→Store→Prop} {v0:AV} {S:Store} (h:B_ref12_many QF v0 S):ACalls PG nr_ref12_many [v0] S QF:=
  acalls_tf (F:=tf_ref12_many) (by kernel_rfl) rfl (by kernel_rfl) h
def tf_ref14_add:TFunc where
  n:=23
  args:=2
  res:=[.tmp 4]
  code:=.seq (.reg [i1 3 (.boxr 27 2 (.t 1)),
    i1 4 (.mov (.c (.nils)))] [0,3] []) (.seq (.seq (.reg [i1 5 (.mov (.c (.int .i64 0)))] [0,3,5] []) (.block 0 (.loop [0,3,5] (.seq (.seq (.reg [i1 6 (.mov (.t 5)),
    i1 7 (.mov (.t 0)),
    i1 8 (.len 1 (.t 7)),
    i1 9 (.bin .lss (.t 6) (.t 8))] [0,3,5,9] []) (.cond (.t 9) (.skip) (.exit 0))) (.seq (.block 1 (.seq (.regl [0,1,2,3,4,5] [i1 12 (.mov (.t 0)),
    i1 13 (.mov (.t 5)),
    i1 14 (.iaddr 2 (.t 12) (.t 13)),
    i1 15 (.load 2 true (.t 14)),
    i1 16 (.load 2 true (.t 3)),
    i1 17 (.eqp false (true,[.str,.str]) (.t 15) (.t 16))] [0,3,5,17] []) (.cond (.t 17) (.seq (.reg [i1 18 (.mov (.t 0)),
    i1 4 (.mov (.t 18))] [4] []) (.ret)) (.skip)))) (.reg [i1 10 (.mov (.t 5)),
    i1 11 (.bin .add (.t 10) (.c (.int .i64 1))),
    i1 5 (.mov (.t 11))] [0,3,5] [])))))) (.seq (.reg [i1 19 (.mov (.t 0)),
    i1 20 (.load 2 true (.t 3)),
    i1 21 (.bslicr 27 2 [.t 20]),
    i1 22 (.app 27 2 32 (.t 19) (.t 21)),
    i1 4 (.mov (.t 22))] [4] []) (.ret)))
abbrev nr_ref14_add:Nat:=106
def C_ref14_add_1 (QF:AEnd→Store→Prop) (r0:LE→Store→Prop) (v0 v3 v5:AV) (S:Store):Prop:=
  lnW S 1 v0 fun v8=>
  biW .lss v5 v8 fun v9=>
  cnW v9 (iaW 2 v0 v5 fun v14=>
  ldW S 2 true v14 fun v15=>
  ldW S 2 true v3 fun v16=>
  eqW false (true,[.str,.str]) v15 v16 fun v17=>
  cnW v17 (rtW [.tmp v0] QF S)
  (biW .add v5 (.int .i64 1) fun v11=>
  rcW r0 [(0,v0),(3,v3),(5,v11)] S))
  (ldW S 2 true v3 fun v20=>
  srW 2 [v20] fun v21=>
  apW S 27 2 32 v0 v21 fun v22 S=>
  rtW [.tmp v22] QF S)
def B_ref14_add (QF:AEnd→Store→Prop) (v0 v1:AV) (S:Store):Prop:=
  brW 2 v1 fun v3=>
  LoopP (fun r0 l S=>C_ref14_add_1 QF r0 (lget l 0) (lget l 3) (lget l 5) S) [(0,v0),(3,v3),(5,(.int .i64 0))] S
theorem w_ref14_add {QF:AEnd→Store→Prop} {v0 v1:AV} {S:Store} (h:B_ref14_add QF v0 v1 S):ACalls PG nr_ref14_add [v0,v1] S QF:=
  acalls_tf (F:=tf_ref14_add) (by kernel_rfl) rfl (by kernel_rfl) h
def tf_ref14_World_round:TFunc where
  n:=115
  args:=3
  res:=[.tmp 6]
  code:=.seq (.reg [i1 6 (.mov (.c (.bool false)))] [0,1,2] []) (.seq (.reg [i1 7 (.mov (.c (.bool false)))] [0,1,2,7] []) (.seq (.seq (.reg [i1 8 (.mov (.c (.int .i64 0)))] [0,1,2,7,8] []) (.block 0 (.loop [0,1,2,7,8] (.seq (.seq (.reg [i1 14 (.mov (.t 8)),
    i1 15 (.mov (.t 0)),
    i1 16 (.nilck (.t 15)),
    i1 17 (.faddr 2 (.t 16)),
    i1 18 (.load 1 false (.t 17)),
    i1 19 (.len 1 (.t 18)),
    i1 20 (.bin .lss (.t 14) (.t 19))] [0,1,2,7,8,20] []) (.cond (.t 20) (.skip) (.exit 0))) (.seq (.block 1 (.seq (.reg [i1 23 (.mov (.t 0)),
    i1 24 (.nilck (.t 23)),
    i1 25 (.faddr 2 (.t 24)),
    i1 26 (.load 1 false (.t 25)),
    i1 27 (.mov (.t 8)),
    i1 28 (.iaddr 2 (.t 26) (.t 27)),
    i1 29 (.load 2 true (.t 28)),
    .box2 9 27 [.str ⟨#[]⟩,.str ⟨#[]⟩] 2 (.t 29)] [0,1,2,7,8,9] []) (.seq (.reg [i1 10 (.mov (.c (.int .i64 0)))] [0,1,2,7,8,9,10] []) (.block 2 (.loop [0,1,2,7,8,9,10] (.seq (.seq (.reg [i1 30 (.mov (.t 10)),
    i1 31 (.mov (.t 0)),
    i1 32 (.nilck (.t 31)),
    i1 33 (.faddr 0 (.t 32)),
    i1 34 (.faddr 0 (.t 33)),
    i1 35 (.load 1 false (.t 34)),
    i1 36 (.len 1 (.t 35)),
    i1 37 (.bin .lss (.t 30) (.t 36))] [0,1,2,7,8,9,10,37] []) (.cond (.t 37) (.skip) (.exit 2))) (.seq (.block 3 (.seq (.reg [i1 11 (.mov (.c (.int .i64 0)))] [0,1,2,7,8,9,10,11] []) (.block 4 (.loop [0,1,2,7,8,9,10,11] (.seq (.seq (.regl [0,1,2,3,4,6,5,7,8,9,10,11,12,13,14,15,16,18,22,17,19,20,21,23,24,25] [i1 40 (.mov (.t 11)),
    i1 41 (.mov (.t 0)),
    i1 42 (.nilck (.t 41)),
    i1 43 (.faddr 0 (.t 42)),
    i1 44 (.faddr 0 (.t 43)),
    i1 46 (.mov (.t 10)),
    i1 45 (.load 1 false (.t 44)),
    i1 47 (.iaddr 2 (.t 45) (.t 46)),
    i1 48 (.faddr 1 (.t 47)),
    i1 49 (.load 1 false (.t 48)),
    i1 50 (.len 1 (.t 49)),
    i1 51 (.bin .lss (.t 40) (.t 50)),
    i1 52 (.mov (.t 51)),
    .grp 52 true [s1 53 (.mov (.t 0)),s1 54 (.nilck (.t 53)),s1 55 (.faddr 0 (.t 54)),s1 56 (.faddr 0 (.t 55)),s1 58 (.mov (.t 10)),s1 62 (.faddr 0 (.t 9)),s1 57 (.load 1 false (.t 56)),s1 59 (.iaddr 2 (.t 57) (.t 58)),s1 60 (.faddr 0 (.t 59)),s1 61 (.load 1 false (.t 60)),s1 63 (.load 1 false (.t 62)),s1 64 (.bin .eql (.t 61) (.t 63))],
    i1 65 (.pick (.t 52) (.t 64) (.c (.bool false)))] [0,1,2,7,8,9,10,11,65] []) (.cond (.t 65) (.skip) (.exit 4))) (.seq (.block 5 (.seq (.reg [i1 68 (.mov (.t 0)),
    i1 69 (.nilck (.t 68)),
    i1 70 (.faddr 0 (.t 69)),
    i1 71 (.faddr 0 (.t 70)),
    i1 72 (.load 1 false (.t 71)),
    i1 73 (.mov (.t 10)),
    i1 74 (.iaddr 2 (.t 72) (.t 73)),
    i1 75 (.faddr 1 (.t 74)),
    i1 76 (.load 1 false (.t 75)),
    i1 77 (.mov (.t 11)),
    i1 78 (.iaddr 6 (.t 76) (.t 77)),
    i1 79 (.load 6 true (.t 78)),
    .box2 12 53 [.str ⟨#[]⟩,.nils,.int .i64 0,.str ⟨#[]⟩,.str ⟨#[]⟩,.nils] 6 (.t 79)] [0,1,2,7,8,9,10,11,12] []) (.seq (.reg [i1 80 (.mov (.t 0)),
    i1 81 (.load 2 true (.t 9)),
    i1 82 (.faddr 0 (.t 12)),
    i1 83 (.load 1 false (.t 82)),
    i1 84 (.call (.f 55) [.t 80,.t 81,.t 83]),
    i1 13 (.mov (.t 84))] [0,1,2,7,8,9,10,11,12,13] []) (.seq (.seq (.reg [i1 85 (.mov (.t 13)),
    i1 86 (.mov (.t 85)),
    .grp 86 false [s1 87 (.mov (.t 1)),s1 88 (.mov (.t 10)),s1 89 (.iaddr 1 (.t 87) (.t 88)),s1 90 (.load 1 false (.t 89)),s1 91 (.mov (.t 11)),s1 92 (.iaddr 1 (.t 90) (.t 91)),s1 93 (.load 1 false (.t 92)),s1 94 (.mov (.t 2)),s1 95 (.bin .neq (.t 93) (.t 94))],
    i1 96 (.pick (.t 86) (.c (.bool true)) (.t 95))] [0,1,2,7,8,9,10,11,12,96] []) (.cond (.t 96) (.exit 5) (.skip))) (.seq (.reg [i1 97 (.mov (.t 0)),
    i1 98 (.load 2 true (.t 9)),
    i1 99 (.load 6 true (.t 12)),
    i1 100 (.call (.f 152) [.t 97,.t 98,.t 99])] [0,1,2,7,8,9,10,11,12,100] []) (.cond (.t 100) (.seq (.regl [0,1,2,3,6,4,5,7,8,9,10,11,12,13] [i1 101 (.mov (.t 0)),
    i1 102 (.mov (.t 0)),
    i1 103 (.nilck (.t 102)),
    i1 104 (.faddr 5 (.t 103)),
    i1 107 (.faddr 0 (.t 12)),
    i1 105 (.load 1 false (.t 104)),
    i1 106 (.load 2 true (.t 9)),
    i1 108 (.load 1 false (.t 107)),
    i1 109 (.build [.str ⟨#[]⟩,.str ⟨#[]⟩,.str ⟨#[]⟩] [(0,2,.t 106),(2,1,.t 108)]),
    i1 110 (.bslicr 175 3 [.t 109]),
    i1 111 (.app 175 3 48 (.t 105) (.t 110)),
    i1 112 (.nilck (.t 101)),
    i1 113 (.faddr 5 (.t 112)),
    i0 (.store 1 (.t 113) (.t 111))] [0,1,2,8,9,10,11] []) (.reg [i1 7 (.mov (.c (.bool true)))] [0,1,2,7,8,9,10,11] [])) (.skip))))))) (.reg [i1 66 (.mov (.t 11)),
    i1 67 (.bin .add (.t 66) (.c (.int .i64 1))),
    i1 11 (.mov (.t 67))] [0,1,2,7,8,9,10,11] []))))))) (.reg [i1 38 (.mov (.t 10)),
    i1 39 (.bin .add (.t 38) (.c (.int .i64 1))),
    i1 10 (.mov (.t 39))] [0,1,2,7,8,9,10] [])))))))) (.reg [i1 21 (.mov (.t 8)),
    i1 22 (.bin .add (.t 21) (.c (.int .i64 1))),
    i1 8 (.mov (.t 22))] [0,1,2,7,8] [])))))) (.seq (.reg [i1 114 (.mov (.t 7)),
    i1 6 (.mov (.t 114))] [6] []) (.ret))))
abbrev nr_ref14_World_round:Nat:=107
def C_ref14_World_round_5 (QF:AEnd→Store→Prop) (r0:LE→Store→Prop) (r1:LE→Store→Prop) (r2:LE→Store→Prop) (v0 v1 v2 v7 v8 v9 v10 v11 v12 v96:AV) (S:Store):Prop:=
  cnW v96 (biW .add v11 (.int .i64 1) fun v67=>
  rcW r2 [(0,v0),(1,v1),(2,v2),(7,v7),(8,v8),(9,v9),(10,v10),(11,v67)] S)
  (ldW S 2 true v9 fun v98=>
  ldW S 6 true v12 fun v99=>
  caW PG S (.func (.func 152) [] []) [v0,v98,v99] (fun v100 S=>
  cnW v100 (nkW v0 fun v103=>
  faW 5 v103 fun v104=>
  faW 0 v12 fun v107=>
  ldW S 1 false v104 fun v105=>
  ldW S 2 true v9 fun v106=>
  ldW S 1 false v107 fun v108=>
  bdW [.str ⟨#[]⟩,.str ⟨#[]⟩,.str ⟨#[]⟩] [(0,2,v106),(2,1,v108)] fun v109=>
  srW 3 [v109] fun v110=>
  apW S 175 3 48 v105 v110 fun v111 S=>
  nkW v0 fun v112=>
  faW 5 v112 fun v113=>
  stW S 1 v113 v111 fun S=>
  biW .add v11 (.int .i64 1) fun v67=>
  rcW r2 [(0,v0),(1,v1),(2,v2),(7,(.bool true)),(8,v8),(9,v9),(10,v10),(11,v67)] S)
  (biW .add v11 (.int .i64 1) fun v67=>
  rcW r2 [(0,v0),(1,v1),(2,v2),(7,v7),(8,v8),(9,v9),(10,v10),(11,v67)] S)) (pqW QF))
def C_ref14_World_round_4 (QF:AEnd→Store→Prop) (r0:LE→Store→Prop) (r1:LE→Store→Prop) (r2:LE→Store→Prop) (v0 v1 v2 v7 v8 v9 v10 v11 v65:AV) (S:Store):Prop:=
  cnW v65 (nkW v0 fun v69=>
  faW 0 v69 fun v70=>
  faW 0 v70 fun v71=>
  ldW S 1 false v71 fun v72=>
  iaW 2 v72 v10 fun v74=>
  faW 1 v74 fun v75=>
  ldW S 1 false v75 fun v76=>
  iaW 6 v76 v11 fun v78=>
  ldW S 6 true v78 fun v79=>
  bfW 6 v79 fun v12=>
  ldW S 2 true v9 fun v81=>
  faW 0 v12 fun v82=>
  ldW S 1 false v82 fun v83=>
  caW PG S (.func (.func 55) [] []) [v0,v81,v83] (fun v84 S=>
  grW v84 false (iaW 1 v1 v10 fun v89=>
  ldW S 1 false v89 fun v90=>
  iaW 1 v90 v11 fun v92=>
  ldW S 1 false v92 fun v93=>
  biW .neq v93 v2 fun v95=>
  pkW v84 (.bool true) v95 fun v96=>
  C_ref14_World_round_5 QF r0 r1 r2 v0 v1 v2 v7 v8 v9 v10 v11 v12 v96 S)
  (pkW v84 (.bool true) undefA fun v96=>
  C_ref14_World_round_5 QF r0 r1 r2 v0 v1 v2 v7 v8 v9 v10 v11 v12 v96 S)) (pqW QF))
  (biW .add v10 (.int .i64 1) fun v39=>
  rcW r1 [(0,v0),(1,v1),(2,v2),(7,v7),(8,v8),(9,v9),(10,v39)] S)
def C_ref14_World_round_3 (QF:AEnd→Store→Prop) (r0:LE→Store→Prop) (r1:LE→Store→Prop) (r2:LE→Store→Prop) (v0 v1 v2 v7 v8 v9 v10 v11:AV) (S:Store):Prop:=
  nkW v0 fun v42=>
  faW 0 v42 fun v43=>
  faW 0 v43 fun v44=>
  ldW S 1 false v44 fun v45=>
  iaW 2 v45 v10 fun v47=>
  faW 1 v47 fun v48=>
  ldW S 1 false v48 fun v49=>
  lnW S 1 v49 fun v50=>
  biW .lss v11 v50 fun v51=>
  grW v51 true (nkW v0 fun v54=>
  faW 0 v54 fun v55=>
  faW 0 v55 fun v56=>
  faW 0 v9 fun v62=>
  ldW S 1 false v56 fun v57=>
  iaW 2 v57 v10 fun v59=>
  faW 0 v59 fun v60=>
  ldW S 1 false v60 fun v61=>
  ldW S 1 false v62 fun v63=>
  biW .eql v61 v63 fun v64=>
  pkW v51 v64 (.bool false) fun v65=>
  C_ref14_World_round_4 QF r0 r1 r2 v0 v1 v2 v7 v8 v9 v10 v11 v65 S)
  (pkW v51 undefA (.bool false) fun v65=>
  C_ref14_World_round_4 QF r0 r1 r2 v0 v1 v2 v7 v8 v9 v10 v11 v65 S)
def C_ref14_World_round_2 (QF:AEnd→Store→Prop) (r0:LE→Store→Prop) (r1:LE→Store→Prop) (v0 v1 v2 v7 v8 v9 v10:AV) (S:Store):Prop:=
  nkW v0 fun v32=>
  faW 0 v32 fun v33=>
  faW 0 v33 fun v34=>
  ldW S 1 false v34 fun v35=>
  lnW S 1 v35 fun v36=>
  biW .lss v10 v36 fun v37=>
  cnW v37 (LoopP (fun r2 l S=>C_ref14_World_round_3 QF r0 r1 r2 (lget l 0) (lget l 1) (lget l 2) (lget l 7) (lget l 8) (lget l 9) (lget l 10) (lget l 11) S) [(0,v0),(1,v1),(2,v2),(7,v7),(8,v8),(9,v9),(10,v10),(11,(.int .i64 0))] S)
  (biW .add v8 (.int .i64 1) fun v22=>
  rcW r0 [(0,v0),(1,v1),(2,v2),(7,v7),(8,v22)] S)
def C_ref14_World_round_1 (QF:AEnd→Store→Prop) (r0:LE→Store→Prop) (v0 v1 v2 v7 v8:AV) (S:Store):Prop:=
  nkW v0 fun v16=>
  faW 2 v16 fun v17=>
  ldW S 1 false v17 fun v18=>
  lnW S 1 v18 fun v19=>
  biW .lss v8 v19 fun v20=>
  cnW v20 (nkW v0 fun v24=>
  faW 2 v24 fun v25=>
  ldW S 1 false v25 fun v26=>
  iaW 2 v26 v8 fun v28=>
  ldW S 2 true v28 fun v29=>
  bfW 2 v29 fun v9=>
  LoopP (fun r1 l S=>C_ref14_World_round_2 QF r0 r1 (lget l 0) (lget l 1) (lget l 2) (lget l 7) (lget l 8) (lget l 9) (lget l 10) S) [(0,v0),(1,v1),(2,v2),(7,v7),(8,v8),(9,v9),(10,(.int .i64 0))] S)
  (rtW [.tmp v7] QF S)
def B_ref14_World_round (QF:AEnd→Store→Prop) (v0 v1 v2:AV) (S:Store):Prop:=
  LoopP (fun r0 l S=>C_ref14_World_round_1 QF r0 (lget l 0) (lget l 1) (lget l 2) (lget l 7) (lget l 8) S) [(0,v0),(1,v1),(2,v2),(7,(.bool false)),(8,(.int .i64 0))] S
theorem w_ref14_World_round {QF:AEnd→Store→Prop} {v0 v1 v2:AV} {S:Store} (h:B_ref14_World_round QF v0 v1 v2 S):ACalls PG nr_ref14_World_round [v0,v1,v2] S QF:=
  acalls_tf (F:=tf_ref14_World_round) (by kernel_rfl) rfl (by kernel_rfl) h
end Go.HL
