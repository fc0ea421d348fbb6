/- A part of a proof. -/
import Derived.Test.YtadmdlpmikoghaaGreatKfHlP
set_option maxRecDepth 100000
set_option linter.unusedVariables false
namespace Go.HL
def tfx191:TFunc where
 n:=51
 args:=2
 res:=[.tmp 4,.tmp 5]
 code:=.seq (.reg [i1 4 (.mov (.c (.int .u64 0))),i1 5 (.mov (.c (.int .u64 0)))] [0,1] []) (.seq (.reg [im 14 0,i1 15 (.bin .and (.t 14) (.c (.int .u64 4294967295))),im 6 15] [0,1,6] []) (.seq (.reg [im 16 0,i1 17 (.bin .shr (.t 16) (.c (.int .u64 32))),im 7 17] [0,1,6,7] []) (.seq (.reg [im 18 1,i1 19 (.bin .and (.t 18) (.c (.int .u64 4294967295))),im 8 19] [0,1,6,7,8] []) (.seq (.reg [im 20 1,i1 21 (.bin .shr (.t 20) (.c (.int .u64 32))),im 9 21] [0,1,6,7,8,9] []) (.seq (.reg [im 22 6,im 23 8,i1 24 (.bin .mul (.t 22) (.t 23)),im 10 24] [0,1,6,7,8,9,10] []) (.seq (.reg [im 25 7,im 26 8,i1 27 (.bin .mul (.t 25) (.t 26)),im 28 10,i1 29 (.bin .shr (.t 28) (.c (.int .u64 32))),i1 30 (.bin .add (.t 27) (.t 29)),im 11 30] [0,1,6,7,9,11] []) (.seq (.reg [im 31 11,i1 32 (.bin .and (.t 31) (.c (.int .u64 4294967295))),im 12 32] [0,1,6,7,9,11,12] []) (.seq (.reg [im 33 11,i1 34 (.bin .shr (.t 33) (.c (.int .u64 32))),im 13 34] [0,1,6,7,9,12,13] []) (.seq (.reg [im 35 12,im 36 6,im 37 9,i1 38 (.bin .mul (.t 36) (.t 37)),i1 39 (.bin .add (.t 35) (.t 38)),im 12 39] [0,1,7,9,12,13] []) (.seq (.reg [im 40 7,im 41 9,i1 42 (.bin .mul (.t 40) (.t 41)),im 43 13,i1 44 (.bin .add (.t 42) (.t 43)),im 45 12,i1 46 (.bin .shr (.t 45) (.c (.int .u64 32))),i1 47 (.bin .add (.t 44) (.t 46)),im 4 47] [0,1,4] []) (.seq (.reg [im 48 0,im 49 1,i1 50 (.bin .mul (.t 48) (.t 49)),im 5 50] [4,5] []) (.ret))))))))))))
abbrev nrx191:Nat:=191
def Bx191 (QF:AEnd→q00→Prop) (v0 v1:AV) (S:q00):Prop:=biW .and v0 (.int .u64 4294967295) fun v15=>biW .shr v0 (.int .u64 32) fun v17=>biW .and v1 (.int .u64 4294967295) fun v19=>biW .shr v1 (.int .u64 32) fun v21=>biW .mul v15 v19 fun v24=>biW .mul v17 v19 fun v27=>biW .shr v24 (.int .u64 32) fun v29=>biW .add v27 v29 fun v30=>biW .and v30 (.int .u64 4294967295) fun v32=>biW .shr v30 (.int .u64 32) fun v34=>biW .mul v15 v21 fun v38=>biW .add v32 v38 fun v39=>biW .mul v17 v21 fun v42=>biW .add v42 v34 fun v44=>biW .shr v39 (.int .u64 32) fun v46=>biW .add v44 v46 fun v47=>biW .mul v0 v1 fun v50=>rtW [.tmp v47,.tmp v50] QF S
theorem wx191 {QF:AEnd→q00→Prop} {v0 v1:AV} {S:q00} (h:Bx191 QF v0 v1 S):ACalls PG nrx191 [v0,v1] S QF:=
 q02 (F:=tfx191) (by kernel_rfl) rfl (by kernel_rfl) h
def tfx192:TFunc where
 n:=86
 args:=3
 res:=[.tmp 6]
 code:=.seq (.reg [i1 3 (.boxr 182 1 (.t 0)),i1 4 (.boxr 27 2 (.t 1)),i1 5 (.boxr 51 4 (.t 2)),i1 6 (.mov (.c (.bool false)))] [3,4,5] []) (.seq (.seq (.reg [ia 7 0 5,il 8 1 7] [3,4,5,8] []) (.block 0 (.seq (.reg [i1 10 (.bin .eql (.t 8) (.c (.int .i64 0))),im 9 10] [3,4,5,8,9] []) (.cond (.t 9) (.seq (.regl [5,0,1,2,3,4,6,7,8,9] [ia 16 1 5,il 11 1 3,i1 12 (.nilck (.t 11)),ia 13 2 12,il 14 1 13,iL 15 2 4,il 17 1 16,i1 18 (.build [.str ⟨#[]⟩,.str ⟨#[]⟩,.str ⟨#[]⟩] [(0,2,.t 15),(2,1,.t 17)]),i1 19 (.lookup (true,[.str,.str,.str]) false (.bool false) (.t 14) (.t 18)),im 6 19] [6] []) (.ret)) (.seq (.reg [i1 21 (.bin .eql (.t 8) (.c (.int .i64 1))),im 20 21] [3,4,5,8,20] []) (.cond (.t 20) (.seq (.regl [5,9,0,1,2,3,4,6,7,8,10,11] [ia 27 1 5,i1 31 (.mkf (.func 211) [] [.t 3,.t 5]),il 22 1 3,i1 23 (.nilck (.t 22)),ia 24 0 23,il 25 1 24,iL 26 2 4,il 28 1 27,i1 29 (.build [.str ⟨#[]⟩,.str ⟨#[]⟩,.str ⟨#[]⟩] [(0,2,.t 26),(2,1,.t 28)]),i1 30 (.lookup (true,[.str,.str,.str]) false (.nils) (.t 25) (.t 29)),i1 32 (.call (.f 147) [.t 30,.t 31]),im 6 32] [6] []) (.ret)) (.seq (.reg [i1 34 (.bin .eql (.t 8) (.c (.int .i64 2))),im 33 34] [3,4,5,8,33] []) (.cond (.t 33) (.seq (.regl [2,0,1,3,4,5,6,7,10,8,9,11,12,13,14,15,16] [ia 37 3 5,il 35 1 3,iL 36 2 4,il 38 1 37,i1 39 (.iaddr 4 (.t 38) (.c (.int .i64 0))),iL 40 4 39,i1 41 (.call (.f 192) [.t 35,.t 36,.t 40]),im 42 41,
  .grp 42 false [s1 45 (.faddr 3 (.t 5)),s1 43 (.load 1 false (.t 3)),s1 44 (.load 2 true (.t 4)),s1 46 (.load 1 false (.t 45)),s1 47 (.iaddr 4 (.t 46) (.c (.int .i64 1))),s1 48 (.load 4 true (.t 47)),s1 49 (.call (.f 192) [.t 43,.t 44,.t 48])],i1 50 (.pick (.t 42) (.c (.bool true)) (.t 49)),im 6 50] [6] []) (.ret)) (.seq (.reg [i1 52 (.bin .eql (.t 8) (.c (.int .i64 3))),im 51 52] [3,4,5,51] []) (.cond (.t 51) (.seq (.regl [2,0,1,3,4,5,6,7,10,8,9,11,12,13,14,15,16] [ia 55 3 5,il 53 1 3,iL 54 2 4,il 56 1 55,i1 57 (.iaddr 4 (.t 56) (.c (.int .i64 0))),iL 58 4 57,i1 59 (.call (.f 192) [.t 53,.t 54,.t 58]),im 60 59,
  .grp 60 true [s1 63 (.faddr 3 (.t 5)),s1 61 (.load 1 false (.t 3)),s1 62 (.load 2 true (.t 4)),s1 64 (.load 1 false (.t 63)),s1 65 (.iaddr 4 (.t 64) (.c (.int .i64 1))),s1 66 (.load 4 true (.t 65)),s1 67 (.call (.f 192) [.t 61,.t 62,.t 66])],i1 68 (.pick (.t 60) (.t 67) (.c (.bool false))),im 6 68] [6] []) (.ret)) (.skip))))))))))) (.seq (.regl [2,0,1,3,4,5,6,7,10,8,9,11,12,13,14,15,16,17] [ia 71 3 5,il 69 1 3,iL 70 2 4,il 72 1 71,i1 73 (.iaddr 4 (.t 72) (.c (.int .i64 0))),iL 74 4 73,i1 75 (.call (.f 192) [.t 69,.t 70,.t 74]),im 76 75,
  .grp 76 true [s1 79 (.faddr 3 (.t 5)),s1 77 (.load 1 false (.t 3)),s1 78 (.load 2 true (.t 4)),s1 80 (.load 1 false (.t 79)),s1 81 (.iaddr 4 (.t 80) (.c (.int .i64 1))),s1 82 (.load 4 true (.t 81)),s1 83 (.call (.f 192) [.t 77,.t 78,.t 82]),s1 84 (.not (.t 83))],i1 85 (.pick (.t 76) (.t 84) (.c (.bool false))),im 6 85] [6] []) (.ret)))
abbrev nrx192:Nat:=192
def Bx192 (QF:AEnd→q00→Prop) (v0 v1 v2:AV) (S:q00):Prop:=brW 1 v0 fun v3=>brW 2 v1 fun v4=>brW 4 v2 fun v5=>faW 0 v5 fun v7=>ldW S 1 false v7 fun v8=>biW .eql v8 (.int .i64 0) fun v10=>cnW v10 (faW 1 v5 fun v16=>ldW S 1 false v3 fun v11=>nkW v11 fun v12=>faW 2 v12 fun v13=>ldW S 1 false v13 fun v14=>ldW S 2 true v4 fun v15=>ldW S 1 false v16 fun v17=>bdW [.str ⟨#[]⟩,.str ⟨#[]⟩,.str ⟨#[]⟩] [(0,2,v15),(2,1,v17)] fun v18=>lkW S (true,[.str,.str,.str]) false (.bool false) v14 v18 fun v19=>rtW [.tmp v19] QF S) (biW .eql v8 (.int .i64 1) fun v21=>cnW v21 (faW 1 v5 fun v27=>ldW S 1 false v3 fun v22=>nkW v22 fun v23=>faW 0 v23 fun v24=>ldW S 1 false v24 fun v25=>ldW S 2 true v4 fun v26=>ldW S 1 false v27 fun v28=>bdW [.str ⟨#[]⟩,.str ⟨#[]⟩,.str ⟨#[]⟩] [(0,2,v26),(2,1,v28)] fun v29=>lkW S (true,[.str,.str,.str]) false (.nils) v25 v29 fun v30=>caW PG S (.func (.func 147) [] []) [v30,(.func (.func 211) [] [v3,v5])] (fun v32 S=>rtW [.tmp v32] QF S) (pqW QF)) (biW .eql v8 (.int .i64 2) fun v34=>cnW v34 (faW 3 v5 fun v37=>ldW S 1 false v3 fun v35=>ldW S 2 true v4 fun v36=>ldW S 1 false v37 fun v38=>iaW 4 v38 (.int .i64 0) fun v39=>ldW S 4 true v39 fun v40=>caW PG S (.func (.func 192) [] []) [v35,v36,v40] (fun v41 S=>grW v41 false (faW 3 v5 fun v45=>ldW S 1 false v3 fun v43=>ldW S 2 true v4 fun v44=>ldW S 1 false v45 fun v46=>iaW 4 v46 (.int .i64 1) fun v47=>ldW S 4 true v47 fun v48=>caW PG S (.func (.func 192) [] []) [v43,v44,v48] (fun v49 S=>pkW v41 (.bool true) v49 fun v50=>rtW [.tmp v50] QF S) (pqW QF)) (pkW v41 (.bool true) q07 fun v50=>rtW [.tmp v50] QF S)) (pqW QF)) (biW .eql v8 (.int .i64 3) fun v52=>cnW v52 (faW 3 v5 fun v55=>ldW S 1 false v3 fun v53=>ldW S 2 true v4 fun v54=>ldW S 1 false v55 fun v56=>iaW 4 v56 (.int .i64 0) fun v57=>ldW S 4 true v57 fun v58=>caW PG S (.func (.func 192) [] []) [v53,v54,v58] (fun v59 S=>grW v59 true (faW 3 v5 fun v63=>ldW S 1 false v3 fun v61=>ldW S 2 true v4 fun v62=>ldW S 1 false v63 fun v64=>iaW 4 v64 (.int .i64 1) fun v65=>ldW S 4 true v65 fun v66=>caW PG S (.func (.func 192) [] []) [v61,v62,v66] (fun v67 S=>pkW v59 v67 (.bool false) fun v68=>rtW [.tmp v68] QF S) (pqW QF)) (pkW v59 q07 (.bool false) fun v68=>rtW [.tmp v68] QF S)) (pqW QF)) (faW 3 v5 fun v71=>ldW S 1 false v3 fun v69=>ldW S 2 true v4 fun v70=>ldW S 1 false v71 fun v72=>iaW 4 v72 (.int .i64 0) fun v73=>ldW S 4 true v73 fun v74=>caW PG S (.func (.func 192) [] []) [v69,v70,v74] (fun v75 S=>grW v75 true (faW 3 v5 fun v79=>ldW S 1 false v3 fun v77=>ldW S 2 true v4 fun v78=>ldW S 1 false v79 fun v80=>iaW 4 v80 (.int .i64 1) fun v81=>ldW S 4 true v81 fun v82=>caW PG S (.func (.func 192) [] []) [v77,v78,v82] (fun v83 S=>ntW v83 fun v84=>pkW v75 v84 (.bool false) fun v85=>rtW [.tmp v85] QF S) (pqW QF)) (pkW v75 q07 (.bool false) fun v85=>rtW [.tmp v85] QF S)) (pqW QF)))))
theorem wx192 {QF:AEnd→q00→Prop} {v0 v1 v2:AV} {S:q00} (h:Bx192 QF v0 v1 v2 S):ACalls PG nrx192 [v0,v1,v2] S QF:=
 q02 (F:=tfx192) (by kernel_rfl) rfl (by kernel_rfl) h
def tfx193:TFunc where
 n:=33
 args:=2
 res:=[.tmp 3]
 code:=.seq (.reg [i1 2 (.boxr 39 3 (.t 0)),i1 3 (.mov (.c (.bool false)))] [1,2] []) (.seq (.regl [0,1,2,3,4,5,6,7,8,9,10,11,12,13,14,15,16,21,23,17,18,19,20,22,24,25,26,27,28,29] [ia 4 2 2,il 5 1 4,i1 6 (.bin .eql (.t 5) (.c (.str ⟨#[]⟩))),im 7 6,
  .grp 7 true [s1 8 (.faddr 0 (.t 2)),s1 9 (.load 2 true (.t 8)),s1 10 (.load 1 false (.t 1)),s1 11 (.nilck (.t 10)),s1 12 (.faddr 3 (.t 11)),s1 13 (.load 2 true (.t 12)),s1 14 (.eqp false (true,[.str,.str]) (.t 9) (.t 13))],i1 15 (.pick (.t 7) (.t 14) (.c (.bool false))),im 16 15,
  .grp 16 false [s1 17 (.faddr 2 (.t 2)),s1 18 (.load 1 false (.t 17)),s1 19 (.bin .neq (.t 18) (.c (.str ⟨#[]⟩))),s1 20 (.mov (.t 19))],
  .grp 20 true [s1 25 (.faddr 0 (.t 2)),s1 27 (.faddr 2 (.t 2)),s1 21 (.load 1 false (.t 1)),s1 22 (.nilck (.t 21)),s1 23 (.faddr 2 (.t 22)),s1 24 (.load 1 false (.t 23)),s1 26 (.load 2 true (.t 25)),s1 28 (.load 1 false (.t 27)),s1 29 (.build [.str ⟨#[]⟩,.str ⟨#[]⟩,.str ⟨#[]⟩] [(0,2,.t 26),(2,1,.t 28)]),s1 30 (.lookup (true,[.str,.str,.str]) false (.bool false) (.t 24) (.t 29))],
  .grp 16 false [s1 31 (.pick (.t 20) (.t 30) (.c (.bool false)))],i1 32 (.pick (.t 16) (.c (.bool true)) (.t 31)),im 3 32] [3] []) (.ret))
abbrev nrx193:Nat:=193
def C193_3 (QF:AEnd→q00→Prop) (v16 v20 v30:AV) (S:q00):Prop:=grW v16 false (pkW v20 v30 (.bool false) fun v31=>pkW v16 (.bool true) v31 fun v32=>rtW [.tmp v32] QF S) (pkW v16 (.bool true) q07 fun v32=>rtW [.tmp v32] QF S)
def C193_2 (QF:AEnd→q00→Prop) (v1 v2 v16 v20:AV) (S:q00):Prop:=grW v20 true (faW 0 v2 fun v25=>faW 2 v2 fun v27=>ldW S 1 false v1 fun v21=>nkW v21 fun v22=>faW 2 v22 fun v23=>ldW S 1 false v23 fun v24=>ldW S 2 true v25 fun v26=>ldW S 1 false v27 fun v28=>bdW [.str ⟨#[]⟩,.str ⟨#[]⟩,.str ⟨#[]⟩] [(0,2,v26),(2,1,v28)] fun v29=>lkW S (true,[.str,.str,.str]) false (.bool false) v24 v29 fun v30=>C193_3 QF v16 v20 v30 S) (C193_3 QF v16 v20 q07 S)
def C193_1 (QF:AEnd→q00→Prop) (v1 v2 v15:AV) (S:q00):Prop:=grW v15 false (faW 2 v2 fun v17=>ldW S 1 false v17 fun v18=>biW .neq v18 (.str ⟨#[]⟩) fun v19=>C193_2 QF v1 v2 v15 v19 S) (C193_2 QF v1 v2 v15 q07 S)
def Bx193 (QF:AEnd→q00→Prop) (v0 v1:AV) (S:q00):Prop:=brW 3 v0 fun v2=>faW 2 v2 fun v4=>ldW S 1 false v4 fun v5=>biW .eql v5 (.str ⟨#[]⟩) fun v6=>grW v6 true (faW 0 v2 fun v8=>ldW S 2 true v8 fun v9=>ldW S 1 false v1 fun v10=>nkW v10 fun v11=>faW 3 v11 fun v12=>ldW S 2 true v12 fun v13=>eqW false (true,[.str,.str]) v9 v13 fun v14=>pkW v6 v14 (.bool false) fun v15=>C193_1 QF v1 v2 v15 S) (pkW v6 q07 (.bool false) fun v15=>C193_1 QF v1 v2 v15 S)
theorem wx193 {QF:AEnd→q00→Prop} {v0 v1:AV} {S:q00} (h:Bx193 QF v0 v1 S):ACalls PG nrx193 [v0,v1] S QF:=
 q02 (F:=tfx193) (by kernel_rfl) rfl (by kernel_rfl) h
def tfx194:TFunc where
 n:=82
 args:=5
 res:=[]
 code:=.seq (.reg [im 12 1,im 10 12] [0,2,3,4,10] []) (.block 0 (.loop [0,2,3,4,10] (.block 1 (.seq (.reg [im 13 10,i1 14 (.bin .mul (.c (.int .i64 2)) (.t 13)),i1 15 (.bin .add (.t 14) (.c (.int .i64 1))),im 11 15] [0,2,3,4,10,11] []) (.seq (.seq (.reg [im 16 11,im 17 2,i1 18 (.bin .geq (.t 16) (.t 17))] [0,2,3,4,10,11,18] []) (.cond (.t 18) (.exit 0) (.skip))) (.seq (.seq (.regl [0,1,2,3,4,5,6,7,8,9,10,12,13,14,15,16,17,11,18,19,20,21] [im 19 11,i1 20 (.bin .add (.t 19) (.c (.int .i64 1))),im 21 2,i1 22 (.bin .lss (.t 20) (.t 21)),im 23 22,
  .grp 23 true [s1 24 (.mov (.t 4)),s1 25 (.mov (.t 0)),s1 26 (.mov (.t 3)),s1 27 (.mov (.t 11)),s1 28 (.bin .add (.t 26) (.t 27)),s1 29 (.iaddr 2 (.t 25) (.t 28)),s1 31 (.mov (.t 0)),s1 32 (.mov (.t 3)),s1 33 (.mov (.t 11)),s1 34 (.bin .add (.t 32) (.t 33)),s1 35 (.bin .add (.t 34) (.c (.int .i64 1))),s1 36 (.iaddr 2 (.t 31) (.t 35)),s1 30 (.load 2 true (.t 29)),s1 37 (.load 2 true (.t 36)),s1 38 (.call (.t 24) [.t 30,.t 37]),s1 39 (.bin .lss (.t 38) (.c (.int .i64 0)))],i1 40 (.pick (.t 23) (.t 39) (.c (.bool false)))] [0,2,3,4,10,11,40] []) (.cond (.t 40) (.reg [im 41 11,i1 42 (.bin .add (.t 41) (.c (.int .i64 1))),im 11 42] [0,2,3,4,10,11] []) (.skip))) (.seq (.seq (.regl [0,1,2,3,4,5,7,8,9,10,11,6,12,13,14,15] [im 43 4,im 44 0,im 45 3,im 46 10,i1 47 (.bin .add (.t 45) (.t 46)),i1 48 (.iaddr 2 (.t 44) (.t 47)),im 50 0,im 51 3,im 52 11,i1 53 (.bin .add (.t 51) (.t 52)),i1 54 (.iaddr 2 (.t 50) (.t 53)),iL 49 2 48,iL 55 2 54,i1 56 (.call (.t 43) [.t 49,.t 55]),i1 57 (.bin .lss (.t 56) (.c (.int .i64 0))),i1 58 (.not (.t 57))] [0,2,3,4,10,11,58] []) (.cond (.t 58) (.ret) (.skip))) (.seq (.regl [0,1,2,3,4,5,6,7,8,9,10,11,12,14,15,16,17,18,13,19,20,21,22,23] [im 59 0,im 60 3,im 61 10,i1 62 (.bin .add (.t 60) (.t 61)),im 63 0,im 64 3,im 65 11,i1 66 (.bin .add (.t 64) (.t 65)),im 67 0,im 68 3,im 69 11,i1 70 (.bin .add (.t 68) (.t 69)),i1 71 (.iaddr 2 (.t 67) (.t 70)),im 73 0,im 74 3,im 75 10,i1 76 (.bin .add (.t 74) (.t 75)),i1 77 (.iaddr 2 (.t 73) (.t 76)),iL 72 2 71,iL 78 2 77,i1 79 (.iaddr 2 (.t 59) (.t 62)),i0 (.store 2 (.t 79) (.t 72)),i1 80 (.iaddr 2 (.t 63) (.t 66)),i0 (.store 2 (.t 80) (.t 78))] [0,2,3,4,11] []) (.reg [im 81 11,im 10 81] [0,2,3,4,10] [])))))))))
abbrev nrx194:Nat:=194
def C194_3 (QF:AEnd→q00→Prop) (r0:LE→q00→Prop) (v0 v2 v3 v4 v10 v11:AV) (S:q00):Prop:=biW .add v3 v10 fun v47=>iaW 2 v0 v47 fun v48=>biW .add v3 v11 fun v53=>iaW 2 v0 v53 fun v54=>ldW S 2 true v48 fun v49=>ldW S 2 true v54 fun v55=>caW PG S v4 [v49,v55] (fun v56 S=>biW .lss v56 (.int .i64 0) fun v57=>ntW v57 fun v58=>cnW v58 (rtW [] QF S) (biW .add v3 v10 fun v62=>biW .add v3 v11 fun v66=>biW .add v3 v11 fun v70=>iaW 2 v0 v70 fun v71=>biW .add v3 v10 fun v76=>iaW 2 v0 v76 fun v77=>ldW S 2 true v71 fun v72=>ldW S 2 true v77 fun v78=>iaW 2 v0 v62 fun v79=>stW S 2 v79 v72 fun S=>iaW 2 v0 v66 fun v80=>stW S 2 v80 v78 fun S=>rcW r0 [(0,v0),(2,v2),(3,v3),(4,v4),(10,v11)] S)) (pqW QF)
def C194_2 (QF:AEnd→q00→Prop) (r0:LE→q00→Prop) (v0 v2 v3 v4 v10 v11 v40:AV) (S:q00):Prop:=cnW v40 (biW .add v11 (.int .i64 1) fun v42=>C194_3 QF r0 v0 v2 v3 v4 v10 v42 S) (C194_3 QF r0 v0 v2 v3 v4 v10 v11 S)
def C194_1 (QF:AEnd→q00→Prop) (r0:LE→q00→Prop) (v0 v2 v3 v4 v10:AV) (S:q00):Prop:=biW .mul (.int .i64 2) v10 fun v14=>biW .add v14 (.int .i64 1) fun v15=>biW .geq v15 v2 fun v18=>cnW v18 (rtW [] QF S) (biW .add v15 (.int .i64 1) fun v20=>biW .lss v20 v2 fun v22=>grW v22 true (biW .add v3 v15 fun v28=>iaW 2 v0 v28 fun v29=>biW .add v3 v15 fun v34=>biW .add v34 (.int .i64 1) fun v35=>iaW 2 v0 v35 fun v36=>ldW S 2 true v29 fun v30=>ldW S 2 true v36 fun v37=>caW PG S v4 [v30,v37] (fun v38 S=>biW .lss v38 (.int .i64 0) fun v39=>pkW v22 v39 (.bool false) fun v40=>C194_2 QF r0 v0 v2 v3 v4 v10 v15 v40 S) (pqW QF)) (pkW v22 q07 (.bool false) fun v40=>C194_2 QF r0 v0 v2 v3 v4 v10 v15 v40 S))
def Bx194 (QF:AEnd→q00→Prop) (v0 v1 v2 v3 v4:AV) (S:q00):Prop:=LoopP (fun r0 l S=>C194_1 QF r0 (lget l 0) (lget l 2) (lget l 3) (lget l 4) (lget l 10) S) [(0,v0),(2,v2),(3,v3),(4,v4),(10,v1)] S
theorem wx194 {QF:AEnd→q00→Prop} {v0 v1 v2 v3 v4:AV} {S:q00} (h:Bx194 QF v0 v1 v2 v3 v4 S):ACalls PG nrx194 [v0,v1,v2,v3,v4] S QF:=
 q02 (F:=tfx194) (by kernel_rfl) rfl (by kernel_rfl) h
def tfx195:TFunc where
 n:=7
 args:=1
 res:=[.tmp 2]
 code:=.seq (.reg [i1 2 (.mov (.c (.int .u64 0)))] [0] []) (.seq (.reg [im 3 0,i1 4 (.conv .u64 (.t 3)),i1 5 (.call (.f 116) [.t 4]),i1 6 (.bin .shl (.c (.int .u64 1)) (.t 5)),im 2 6] [2] []) (.ret))
abbrev nrx195:Nat:=195
def Bx195 (QF:AEnd→q00→Prop) (v0:AV) (S:q00):Prop:=cvW .u64 v0 fun v4=>caW PG S (.func (.func 116) [] []) [v4] (fun v5 S=>biW .shl (.int .u64 1) v5 fun v6=>rtW [.tmp v6] QF S) (pqW QF)
theorem wx195 {QF:AEnd→q00→Prop} {v0:AV} {S:q00} (h:Bx195 QF v0 S):ACalls PG nrx195 [v0] S QF:=
 q02 (F:=tfx195) (by kernel_rfl) rfl (by kernel_rfl) h
def tfx196:TFunc where
 n:=33
 args:=1
 res:=[.tmp 2]
 code:=.seq (.reg [i1 2 (.mov (.c (.int .u64 0)))] [0] []) (.seq (.regl [0,1,3,4,2,5,6,7,8,9] [im 3 0,i1 4 (.nilck (.t 3)),im 6 0,i1 7 (.nilck (.t 6)),il 5 1 4,il 8 1 7,i1 9 (.bin .shl (.t 8) (.c (.int .u64 13))),i1 10 (.bin .xor (.t 5) (.t 9)),i1 11 (.nilck (.t 3)),i0 (.store 1 (.t 11) (.t 10))] [0] []) (.seq (.regl [0,1,3,4,2,5,6,7,8,9] [im 12 0,i1 13 (.nilck (.t 12)),im 15 0,i1 16 (.nilck (.t 15)),il 14 1 13,il 17 1 16,i1 18 (.bin .shr (.t 17) (.c (.int .u64 7))),i1 19 (.bin .xor (.t 14) (.t 18)),i1 20 (.nilck (.t 12)),i0 (.store 1 (.t 20) (.t 19))] [0] []) (.seq (.regl [0,1,3,4,2,5,6,7,8,9] [im 21 0,i1 22 (.nilck (.t 21)),im 24 0,i1 25 (.nilck (.t 24)),il 23 1 22,il 26 1 25,i1 27 (.bin .shl (.t 26) (.c (.int .u64 17))),i1 28 (.bin .xor (.t 23) (.t 27)),i1 29 (.nilck (.t 21)),i0 (.store 1 (.t 29) (.t 28))] [0] []) (.seq (.reg [im 30 0,i1 31 (.nilck (.t 30)),il 32 1 31,im 2 32] [2] []) (.ret)))))
abbrev nrx196:Nat:=196
def Bx196 (QF:AEnd→q00→Prop) (v0:AV) (S:q00):Prop:=nkW v0 fun v4=>nkW v0 fun v7=>ldW S 1 false v4 fun v5=>ldW S 1 false v7 fun v8=>biW .shl v8 (.int .u64 13) fun v9=>biW .xor v5 v9 fun v10=>nkW v0 fun v11=>stW S 1 v11 v10 fun S=>nkW v0 fun v13=>nkW v0 fun v16=>ldW S 1 false v13 fun v14=>ldW S 1 false v16 fun v17=>biW .shr v17 (.int .u64 7) fun v18=>biW .xor v14 v18 fun v19=>nkW v0 fun v20=>stW S 1 v20 v19 fun S=>nkW v0 fun v22=>nkW v0 fun v25=>ldW S 1 false v22 fun v23=>ldW S 1 false v25 fun v26=>biW .shl v26 (.int .u64 17) fun v27=>biW .xor v23 v27 fun v28=>nkW v0 fun v29=>stW S 1 v29 v28 fun S=>nkW v0 fun v31=>ldW S 1 false v31 fun v32=>rtW [.tmp v32] QF S
theorem wx196 {QF:AEnd→q00→Prop} {v0:AV} {S:q00} (h:Bx196 QF v0 S):ACalls PG nrx196 [v0] S QF:=
 q02 (F:=tfx196) (by kernel_rfl) rfl (by kernel_rfl) h
def tfx197:TFunc where
 n:=18
 args:=4
 res:=[.tmp 8]
 code:=.seq (.reg [i1 8 (.mov (.c (.int .i64 0)))] [0,1,2,3] []) (.seq (.reg [im 9 0,im 10 1,i1 11 (.bin .sub (.t 10) (.c (.int .i64 1))),im 12 1,im 13 1,i1 14 (.bin .add (.t 13) (.c (.int .i64 1))),im 15 2,im 16 3,i1 17 (.call (.f 198) [.t 9,.t 11,.t 12,.t 14,.t 15,.t 16]),im 8 17] [8] []) (.ret))
abbrev nrx197:Nat:=197
def Bx197 (QF:AEnd→q00→Prop) (v0 v1 v2 v3:AV) (S:q00):Prop:=biW .sub v1 (.int .i64 1) fun v11=>biW .add v1 (.int .i64 1) fun v14=>caW PG S (.func (.func 198) [] []) [v0,v11,v1,v14,v2,v3] (fun v17 S=>rtW [.tmp v17] QF S) (pqW QF)
theorem wx197 {QF:AEnd→q00→Prop} {v0 v1 v2 v3:AV} {S:q00} (h:Bx197 QF v0 v1 v2 v3 S):ACalls PG nrx197 [v0,v1,v2,v3] S QF:=
 q02 (F:=tfx197) (by kernel_rfl) rfl (by kernel_rfl) h
def tfx198:TFunc where
 n:=41
 args:=6
 res:=[.tmp 12]
 code:=.seq (.reg [i1 12 (.mov (.c (.int .i64 0)))] [0,1,2,3,4,5] []) (.seq (.reg [im 14 0,im 15 1,im 16 2,im 17 4,im 18 5,i1 19 (.call (.f 212) [.t 14,.t 15,.t 16,.t 17,.t 18]),im 13 19,i1 20 (.extr (.t 13) 0),i1 21 (.extr (.t 13) 1),im 1 20,im 2 21] [0,1,2,3,4,5] []) (.seq (.reg [im 23 0,im 24 2,im 25 3,im 26 4,im 27 5,i1 28 (.call (.f 212) [.t 23,.t 24,.t 25,.t 26,.t 27]),im 22 28,i1 29 (.extr (.t 22) 0),i1 30 (.extr (.t 22) 1),im 2 29,im 3 30] [0,1,2,4,5] []) (.seq (.reg [im 32 0,im 33 1,im 34 2,im 35 4,im 36 5,i1 37 (.call (.f 212) [.t 32,.t 33,.t 34,.t 35,.t 36]),im 31 37,i1 38 (.extr (.t 31) 0),i1 39 (.extr (.t 31) 1),im 1 38,im 2 39] [2] []) (.seq (.reg [im 40 2,im 12 40] [12] []) (.ret)))))
abbrev nrx198:Nat:=198
def Bx198 (QF:AEnd→q00→Prop) (v0 v1 v2 v3 v4 v5:AV) (S:q00):Prop:=caW PG S (.func (.func 212) [] []) [v0,v1,v2,v4,v5] (fun v19 S=>exW 0 v19 fun v20=>exW 1 v19 fun v21=>caW PG S (.func (.func 212) [] []) [v0,v21,v3,v4,v5] (fun v28 S=>exW 0 v28 fun v29=>exW 1 v28 fun v30=>caW PG S (.func (.func 212) [] []) [v0,v20,v29,v4,v5] (fun v37 S=>exW 0 v37 fun v38=>exW 1 v37 fun v39=>rtW [.tmp v39] QF S) (pqW QF)) (pqW QF)) (pqW QF)
theorem wx198 {QF:AEnd→q00→Prop} {v0 v1 v2 v3 v4 v5:AV} {S:q00} (h:Bx198 QF v0 v1 v2 v3 v4 v5 S):ACalls PG nrx198 [v0,v1,v2,v3,v4,v5] S QF:=
 q02 (F:=tfx198) (by kernel_rfl) rfl (by kernel_rfl) h
def tfx200:TFunc where
 n:=18
 args:=1
 res:=[.tmp 2]
 code:=.seq (.reg [i1 2 (.mov (.c (.bool false)))] [0] []) (.seq (.reg [im 3 0,i1 4 (.call (.f 183) [.t 3]),im 5 4,
  .grp 5 false [s1 6 (.mov (.t 0)),s1 7 (.call (.f 201) [.t 6])],i1 8 (.pick (.t 5) (.c (.bool true)) (.t 7)),im 9 8,
  .grp 9 false [s1 10 (.mov (.t 0)),s1 11 (.call (.f 184) [.t 10])],i1 12 (.pick (.t 9) (.c (.bool true)) (.t 11)),im 13 12,
  .grp 13 false [s1 14 (.mov (.t 0)),s1 15 (.call (.f 202) [.c (.str ⟨#[95,46,45]⟩),.t 14]),s1 16 (.bin .geq (.t 15) (.c (.int .i64 0)))],i1 17 (.pick (.t 13) (.c (.bool true)) (.t 16)),im 2 17] [2] []) (.ret))
abbrev nrx200:Nat:=200
def C200_2 (QF:AEnd→q00→Prop) (v0 v12:AV) (S:q00):Prop:=grW v12 false (caW PG S (.func (.func 202) [] []) [(.str ⟨#[95,46,45]⟩),v0] (fun v15 S=>biW .geq v15 (.int .i64 0) fun v16=>pkW v12 (.bool true) v16 fun v17=>rtW [.tmp v17] QF S) (pqW QF)) (pkW v12 (.bool true) q07 fun v17=>rtW [.tmp v17] QF S)
def C200_1 (QF:AEnd→q00→Prop) (v0 v8:AV) (S:q00):Prop:=grW v8 false (caW PG S (.func (.func 184) [] []) [v0] (fun v11 S=>pkW v8 (.bool true) v11 fun v12=>C200_2 QF v0 v12 S) (pqW QF)) (pkW v8 (.bool true) q07 fun v12=>C200_2 QF v0 v12 S)
def Bx200 (QF:AEnd→q00→Prop) (v0:AV) (S:q00):Prop:=caW PG S (.func (.func 183) [] []) [v0] (fun v4 S=>grW v4 false (caW PG S (.func (.func 201) [] []) [v0] (fun v7 S=>pkW v4 (.bool true) v7 fun v8=>C200_1 QF v0 v8 S) (pqW QF)) (pkW v4 (.bool true) q07 fun v8=>C200_1 QF v0 v8 S)) (pqW QF)
theorem wx200 {QF:AEnd→q00→Prop} {v0:AV} {S:q00} (h:Bx200 QF v0 S):ACalls PG nrx200 [v0] S QF:=
 q02 (F:=tfx200) (by kernel_rfl) rfl (by kernel_rfl) h
def tfx201:TFunc where
 n:=9
 args:=1
 res:=[.tmp 2]
 code:=.seq (.reg [i1 2 (.mov (.c (.bool false)))] [0] []) (.seq (.reg [im 3 0,i1 4 (.bin .geq (.t 3) (.c (.int .u8 65))),im 5 4,
  .grp 5 true [s1 6 (.mov (.t 0)),s1 7 (.bin .leq (.t 6) (.c (.int .u8 90)))],i1 8 (.pick (.t 5) (.t 7) (.c (.bool false))),im 2 8] [2] []) (.ret))
abbrev nrx201:Nat:=201
def Bx201 (QF:AEnd→q00→Prop) (v0:AV) (S:q00):Prop:=biW .geq v0 (.int .u8 65) fun v4=>grW v4 true (biW .leq v0 (.int .u8 90) fun v7=>pkW v4 v7 (.bool false) fun v8=>rtW [.tmp v8] QF S) (pkW v4 q07 (.bool false) fun v8=>rtW [.tmp v8] QF S)
theorem wx201 {QF:AEnd→q00→Prop} {v0:AV} {S:q00} (h:Bx201 QF v0 S):ACalls PG nrx201 [v0] S QF:=
 q02 (F:=tfx201) (by kernel_rfl) rfl (by kernel_rfl) h
def tfx202:TFunc where
 n:=8
 args:=2
 res:=[.tmp 4]
 code:=.seq (.reg [i1 4 (.mov (.c (.int .i64 0)))] [0,1] []) (.seq (.reg [im 5 0,im 6 1,i1 7 (.call (.f 213) [.t 5,.t 6]),im 4 7] [4] []) (.ret))
abbrev nrx202:Nat:=202
def Bx202 (QF:AEnd→q00→Prop) (v0 v1:AV) (S:q00):Prop:=caW PG S (.func (.func 213) [] []) [v0,v1] (fun v7 S=>rtW [.tmp v7] QF S) (pqW QF)
theorem wx202 {QF:AEnd→q00→Prop} {v0 v1:AV} {S:q00} (h:Bx202 QF v0 v1 S):ACalls PG nrx202 [v0,v1] S QF:=
 q02 (F:=tfx202) (by kernel_rfl) rfl (by kernel_rfl) h
def tfx203:TFunc where
 n:=50
 args:=1
 res:=[.cell 2 4 true]
 code:=.seq (.reg [i1 2 (.alloc 51 [.int .i64 0,.str ⟨#[]⟩,.str ⟨#[]⟩,.nils])] [0,2] []) (.seq (.reg [im 7 0,i1 8 (.call (.f 87) [.t 7]),
  .box2 3 149 [.str ⟨#[]⟩,.int .i64 0,.int .i64 0] 3 (.t 8)] [0,2,3] []) (.seq (.seq (.reg [im 9 0,i1 10 (.call (.f 84) [.t 9,.c (.str ⟨#[40]⟩)])] [0,2,3,10] []) (.cond (.t 10) (.seq (.reg [im 11 0,i1 12 (.nilck (.t 11)),ia 13 2 12,il 14 1 13,i1 15 (.bin .add (.t 14) (.c (.int .i64 1))),i1 16 (.nilck (.t 11)),ia 17 2 16,i0 (.store 1 (.t 17) (.t 15))] [0,2,3] []) (.seq (.seq (.reg [im 18 0,i1 19 (.nilck (.t 18)),ia 20 2 19,il 21 1 20,i1 22 (.bin .gtr (.t 21) (.c (.int .i64 12)))] [0,2,3,22] []) (.cond (.t 22) (.seq (.reg [im 23 0,iL 24 3 3,i1 25 (.call (.f 88) [.t 23,.t 24,.c (.int .i64 9)])] [2] []) (.seq (.reg [i1 26 (.build [.int .i64 0,.str ⟨#[]⟩,.str ⟨#[]⟩,.nils] []),i0 (.store 4 (.t 2) (.t 26))] [2] []) (.ret))) (.skip))) (.seq (.reg [im 27 0,i1 28 (.call (.f 132) [.t 27]),
  .box2 4 51 [.int .i64 0,.str ⟨#[]⟩,.str ⟨#[]⟩,.nils] 4 (.t 28)] [0,2,4] []) (.seq (.reg [im 29 0,i1 30 (.call (.f 130) [.t 29,.c (.str ⟨#[41]⟩)])] [0,2,4] []) (.seq (.reg [im 31 0,i1 32 (.nilck (.t 31)),ia 33 2 32,il 34 1 33,i1 35 (.bin .sub (.t 34) (.c (.int .i64 1))),i1 36 (.nilck (.t 31)),ia 37 2 36,i0 (.store 1 (.t 37) (.t 35))] [2,4] []) (.seq (.reg [iL 38 4 4,i0 (.store 4 (.t 2) (.t 38))] [2] []) (.ret))))))) (.skip))) (.seq (.reg [im 39 0,i1 40 (.call (.f 85) [.t 39]),im 5 40] [0,2,5] []) (.seq (.seq (.reg [im 41 0,i1 42 (.call (.f 84) [.t 41,.c (.str ⟨#[46]⟩)])] [0,2,5,42] []) (.cond (.t 42) (.seq (.reg [im 43 0,i1 44 (.call (.f 85) [.t 43]),im 6 44] [2,5,6] []) (.seq (.reg [im 45 5,im 46 6,i1 47 (.build [.int .i64 0,.str ⟨#[]⟩,.str ⟨#[]⟩,.nils] [(0,1,.c (.int .i64 1)),(1,1,.t 45),(2,1,.t 46)]),i0 (.store 4 (.t 2) (.t 47))] [2] []) (.ret))) (.skip))) (.seq (.reg [im 48 5,i1 49 (.build [.int .i64 0,.str ⟨#[]⟩,.str ⟨#[]⟩,.nils] [(0,1,.c (.int .i64 0)),(1,1,.t 48)]),i0 (.store 4 (.t 2) (.t 49))] [2] []) (.ret))))))
abbrev nrx203:Nat:=203
def Bx203 (QF:AEnd→q00→Prop) (v0:AV) (S:q00):Prop:=alW S 51 [.int .i64 0,.str ⟨#[]⟩,.str ⟨#[]⟩,.nils] fun v2 S=>caW PG S (.func (.func 87) [] []) [v0] (fun v8 S=>bfW 3 v8 fun v3=>caW PG S (.func (.func 84) [] []) [v0,(.str ⟨#[40]⟩)] (fun v10 S=>cnW v10 (nkW v0 fun v12=>faW 2 v12 fun v13=>ldW S 1 false v13 fun v14=>biW .add v14 (.int .i64 1) fun v15=>nkW v0 fun v16=>faW 2 v16 fun v17=>stW S 1 v17 v15 fun S=>nkW v0 fun v19=>faW 2 v19 fun v20=>ldW S 1 false v20 fun v21=>biW .gtr v21 (.int .i64 12) fun v22=>cnW v22 (ldW S 3 true v3 fun v24=>caW PG S (.func (.func 88) [] []) [v0,v24,(.int .i64 9)] (fun v25 S=>bdW [.int .i64 0,.str ⟨#[]⟩,.str ⟨#[]⟩,.nils] [] fun v26=>stW S 4 v2 v26 fun S=>rtW [.cell v2 4 true] QF S) (pqW QF)) (caW PG S (.func (.func 132) [] []) [v0] (fun v28 S=>bfW 4 v28 fun v4=>caW PG S (.func (.func 130) [] []) [v0,(.str ⟨#[41]⟩)] (fun v30 S=>nkW v0 fun v32=>faW 2 v32 fun v33=>ldW S 1 false v33 fun v34=>biW .sub v34 (.int .i64 1) fun v35=>nkW v0 fun v36=>faW 2 v36 fun v37=>stW S 1 v37 v35 fun S=>ldW S 4 true v4 fun v38=>stW S 4 v2 v38 fun S=>rtW [.cell v2 4 true] QF S) (pqW QF)) (pqW QF))) (caW PG S (.func (.func 85) [] []) [v0] (fun v40 S=>caW PG S (.func (.func 84) [] []) [v0,(.str ⟨#[46]⟩)] (fun v42 S=>cnW v42 (caW PG S (.func (.func 85) [] []) [v0] (fun v44 S=>bdW [.int .i64 0,.str ⟨#[]⟩,.str ⟨#[]⟩,.nils] [(0,1,(.int .i64 1)),(1,1,v40),(2,1,v44)] fun v47=>stW S 4 v2 v47 fun S=>rtW [.cell v2 4 true] QF S) (pqW QF)) (bdW [.int .i64 0,.str ⟨#[]⟩,.str ⟨#[]⟩,.nils] [(0,1,(.int .i64 0)),(1,1,v40)] fun v49=>stW S 4 v2 v49 fun S=>rtW [.cell v2 4 true] QF S)) (pqW QF)) (pqW QF))) (pqW QF)) (pqW QF)
theorem wx203 {QF:AEnd→q00→Prop} {v0:AV} {S:q00} (h:Bx203 QF v0 S):ACalls PG nrx203 [v0] S QF:=
 q02 (F:=tfx203) (by kernel_rfl) rfl (by kernel_rfl) h
def tfx204:TFunc where
 n:=25
 args:=1
 res:=[.tmp 2]
 code:=.seq (.reg [i1 1 (.boxr 51 4 (.t 0)),i1 2 (.mov (.c (.int .i64 0)))] [1] []) (.seq (.reg [i1 3 (.mov (.c (.int .i64 0)))] [1,3] []) (.seq (.seq (.reg [i1 4 (.mov (.c (.int .i64 0)))] [1,3,4] []) (.block 0 (.loop [1,3,4] (.seq (.seq (.reg [im 6 4,ia 7 3 1,il 8 1 7,i1 9 (.len 1 (.t 8)),i1 10 (.bin .lss (.t 6) (.t 9))] [1,3,4,10] []) (.cond (.t 10) (.skip) (.exit 0))) (.seq (.block 1 (.seq (.reg [ia 13 3 1,il 14 1 13,im 15 4,i1 16 (.iaddr 4 (.t 14) (.t 15)),iL 17 4 16,i1 18 (.call (.f 204) [.t 17]),im 5 18] [1,3,4,5] []) (.seq (.reg [im 19 5,im 20 3,i1 21 (.bin .gtr (.t 19) (.t 20))] [1,3,4,5,21] []) (.cond (.t 21) (.reg [im 22 5,im 3 22] [1,3,4] []) (.skip))))) (.reg [im 11 4,i1 12 (.bin .add (.t 11) (.c (.int .i64 1))),im 4 12] [1,3,4] [])))))) (.seq (.reg [im 23 3,i1 24 (.bin .add (.t 23) (.c (.int .i64 1))),im 2 24] [2] []) (.ret))))
abbrev nrx204:Nat:=204
def C204_1 (QF:AEnd→q00→Prop) (r0:LE→q00→Prop) (v1 v3 v4:AV) (S:q00):Prop:=faW 3 v1 fun v7=>ldW S 1 false v7 fun v8=>lnW S 1 v8 fun v9=>biW .lss v4 v9 fun v10=>cnW v10 (faW 3 v1 fun v13=>ldW S 1 false v13 fun v14=>iaW 4 v14 v4 fun v16=>ldW S 4 true v16 fun v17=>caW PG S (.func (.func 204) [] []) [v17] (fun v18 S=>biW .gtr v18 v3 fun v21=>cnW v21 (biW .add v4 (.int .i64 1) fun v12=>rcW r0 [(1,v1),(3,v18),(4,v12)] S) (biW .add v4 (.int .i64 1) fun v12=>rcW r0 [(1,v1),(3,v3),(4,v12)] S)) (pqW QF)) (biW .add v3 (.int .i64 1) fun v24=>rtW [.tmp v24] QF S)
def Bx204 (QF:AEnd→q00→Prop) (v0:AV) (S:q00):Prop:=brW 4 v0 fun v1=>LoopP (fun r0 l S=>C204_1 QF r0 (lget l 1) (lget l 3) (lget l 4) S) [(1,v1),(3,(.int .i64 0)),(4,(.int .i64 0))] S
theorem wx204 {QF:AEnd→q00→Prop} {v0:AV} {S:q00} (h:Bx204 QF v0 S):ACalls PG nrx204 [v0] S QF:=
 q02 (F:=tfx204) (by kernel_rfl) rfl (by kernel_rfl) h
end Go.HL
