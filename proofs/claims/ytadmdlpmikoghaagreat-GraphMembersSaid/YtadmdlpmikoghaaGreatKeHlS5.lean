/- A part of a proof. -/
import Derived.Test.YtadmdlpmikoghaaGreatKeHlP
set_option maxRecDepth 100000
set_option linter.unusedVariables false
namespace Go.HL
variable {QF:QT} {S:q00} {v0 v1 v2 v3 v4 v5 v6 v7 v8:AV}
def xh2:TFunc where
 n:=34
 args:=3
 res:=[.tmp 6]
 code:=js (jr [jx 3 24 1 0,jc 6 .i64 0] [1,2,3]) (js (js (jr [im 8 1,jb 9 .lss 8 .i64 0] [1,2,3,9]) (jd 9 (js (jr [jc 6 .i64 (-1)] [6]) jR) jz)) (js (js (jr [jc 7 .i64 0] [1,2,3,7]) (jB 0 (.loop [1,2,3,7] (js (js (jr [im 10 7,ia 11 0 3,il 12 1 11,im 13 1,ja 14 2 12 13,ia 15 1 14,il 16 1 15,jl 17 1 16,jt 18 .lss 10 17] [1,2,3,7,18]) (jd 18 jz (jE 0))) (js (jB 1 (js (jr [ia 21 0 3,il 22 1 21,im 23 1,ja 24 2 22 23,ia 25 1 24,il 26 1 25,im 27 7,ja 28 6 26 27,ia 29 0 28,il 30 1 29,im 31 2,jt 32 .eql 30 31] [1,2,3,7,32]) (jd 32 (js (jr [im 33 7,im 6 33] [6]) jR) jz))) (jr [im 19 7,jb 20 .add 19 .i64 1,im 7 20] [1,2,3,7])))))) (js (jr [jc 6 .i64 (-1)] [6]) jR)))
abbrev yb3:Nat:=67
def xa3 (QF:QT) (r0:RT) (v1 v2 v3 v7:AV) (S:q00):Prop:=faW 0 v3 fun v11=>ldW S 1 false v11 fun v12=>iaW 2 v12 v1 fun v14=>faW 1 v14 fun v15=>ldW S 1 false v15 fun v16=>lnW S 1 v16 fun v17=>biW .lss v7 v17 fun v18=>cnW v18 (faW 0 v3 fun v21=>ldW S 1 false v21 fun v22=>iaW 2 v22 v1 fun v24=>faW 1 v24 fun v25=>ldW S 1 false v25 fun v26=>iaW 6 v26 v7 fun v28=>faW 0 v28 fun v29=>ldW S 1 false v29 fun v30=>biW .eql v30 v2 fun v32=>cnW v32 (rtW [.tmp v7] QF S) (biW .add v7 (.int .i64 1) fun v20=>rcW r0 [(1,v1),(2,v2),(3,v3),(7,v20)] S)) (rtW [.tmp (.int .i64 (-1))] QF S)
def xjg (QF:QT) (v0 v1 v2:AV) (S:q00):Prop:=brW 1 v0 fun v3=>biW .lss v1 (.int .i64 0) fun v9=>cnW v9 (rtW [.tmp (.int .i64 (-1))] QF S) (LoopP (fun r0 l S=>xa3 QF r0 (y00 l 1) (y00 l 2) (y00 l 3) (y00 l 7) S) [(1,v1),(2,v2),(3,v3),(7,(.int .i64 0))] S)
theorem xky (h:xjg QF v0 v1 v2 S):ACalls PG yb3 [v0,v1,v2] S QF:=wq xh2 h
def xh1:TFunc where
 n:=80
 args:=2
 res:=[.tmp 4]
 code:=js (jr [jx 2 24 1 0,jx 3 41 6 1,jc 4 .i64 0] [2,3]) (js (js (jr [iL 10 6 3,jf 11 120 [.t 10],i1 12 (.bin .eql (.t 11) (.c (.str ⟨#[]⟩)))] [2,3,12]) (jd 12 (js (jr [jc 4 .i64 1] [4]) jR) jz)) (js (.reg [iL 14 1 2,ia 15 0 3,ia 16 0 15,il 17 1 16,ia 18 2 3,il 19 1 18,jf 20 28 [.t 14,.t 17,.t 19],im 13 20,je 21 13 0,je 22 13 1,
  .box2 5 53 [.str ⟨#[]⟩,.nils,.int .i64 0,.str ⟨#[]⟩,.str ⟨#[]⟩,.nils] 6 (.t 21),im 6 22] [2,3,5,6] []) (js (jr [jo 7 false] [2,3,5,6,7]) (js (js (jr [jc 8 .i64 0] [2,3,5,6,7,8]) (jB 0 (.loop [2,3,5,6,7,8] (js (js (jr [im 23 8,ia 24 0 2,il 25 1 24,jl 26 1 25,jt 27 .lss 23 26] [2,3,5,6,7,8,27]) (jd 27 jz (jE 0))) (js (jB 1 (.regl [0,1,2,4,8,9,10,3,5,6,7,11,12,13,14] [im 30 7,im 31 30,
  .grp 31 false [s1 32 (.faddr 0 (.t 2)),s1 34 (.mov (.t 8)),s1 38 (.faddr 3 (.t 3)),s1 39 (.faddr 0 (.t 38)),s1 40 (.faddr 0 (.t 39)),s1 33 (.load 1 false (.t 32)),s1 35 (.iaddr 2 (.t 33) (.t 34)),s1 36 (.faddr 0 (.t 35)),s1 37 (.load 1 false (.t 36)),s1 41 (.load 1 false (.t 40)),s1 42 (.bin .eql (.t 37) (.t 41))],jq 43 31 42,im 7 43] [2,3,5,6,7,8] [])) (jr [im 28 8,jb 29 .add 28 .i64 1,im 8 29] [2,3,5,6,7,8])))))) (js (js (jr [im 44 6,jk 45 44,im 46 45,
  .grp 46 false [s1 47 (.mov (.t 7)),s1 48 (.not (.t 47))],jq 49 46 48] [3,5,49]) (jd 49 (js (jr [jc 4 .i64 6] [4]) jR) jz)) (js (js (jr [jc 9 .i64 0] [3,5,9]) (jB 2 (.loop [3,5,9] (js (js (jr [im 50 9,ia 51 1 5,il 52 1 51,jl 53 1 52,jt 54 .lss 50 53] [3,5,9,54]) (jd 54 jz (jE 2))) (js (jB 3 (js (.regl [0,2,6,7,8,1,3,4,5,9,10,11,12,14,18,19,13,15,16,17,20,21,22] [ia 57 1 5,im 59 9,ia 63 3 3,ia 64 0 63,ia 65 0 64,il 58 1 57,ja 60 2 58 59,ia 61 0 60,il 62 1 61,il 66 1 65,jt 67 .eql 62 66,im 68 67,
  .grp 68 true [s1 69 (.faddr 1 (.t 5)),s1 71 (.mov (.t 9)),s1 75 (.faddr 3 (.t 3)),s1 76 (.faddr 2 (.t 75)),s1 70 (.load 1 false (.t 69)),s1 72 (.iaddr 2 (.t 70) (.t 71)),s1 73 (.faddr 1 (.t 72)),s1 74 (.load 1 false (.t 73)),s1 77 (.load 1 false (.t 76)),s1 78 (.bin .eql (.t 74) (.t 77))],jp 79 68 78] [3,5,9,79] []) (jd 79 (js (jr [jc 4 .i64 0] [4]) jR) jz))) (jr [im 55 9,jb 56 .add 55 .i64 1,im 9 56] [3,5,9])))))) (js (jr [jc 4 .i64 10] [4]) jR)))))))
abbrev x6o:Nat:=68
def xa2 (QF:QT) (r0:RT) (v3 v5 v9:AV) (S:q00):Prop:=faW 1 v5 fun v51=>ldW S 1 false v51 fun v52=>lnW S 1 v52 fun v53=>biW .lss v9 v53 fun v54=>cnW v54 (faW 1 v5 fun v57=>faW 3 v3 fun v63=>faW 0 v63 fun v64=>faW 0 v64 fun v65=>ldW S 1 false v57 fun v58=>iaW 2 v58 v9 fun v60=>faW 0 v60 fun v61=>ldW S 1 false v61 fun v62=>ldW S 1 false v65 fun v66=>biW .eql v62 v66 fun v67=>grW v67 true (faW 1 v5 fun v69=>faW 3 v3 fun v75=>faW 2 v75 fun v76=>ldW S 1 false v69 fun v70=>iaW 2 v70 v9 fun v72=>faW 1 v72 fun v73=>ldW S 1 false v73 fun v74=>ldW S 1 false v76 fun v77=>biW .eql v74 v77 fun v78=>pkW v67 v78 (.bool false) fun v79=>cnW v79 (rtW [.tmp (.int .i64 0)] QF S) (biW .add v9 (.int .i64 1) fun v56=>rcW r0 [(3,v3),(5,v5),(9,v56)] S)) (pkW v67 q07 (.bool false) fun v79=>cnW v79 (rtW [.tmp (.int .i64 0)] QF S) (biW .add v9 (.int .i64 1) fun v56=>rcW r0 [(3,v3),(5,v5),(9,v56)] S))) (rtW [.tmp (.int .i64 10)] QF S)
def yig (QF:QT) (v3 v5 v49:AV) (S:q00):Prop:=cnW v49 (rtW [.tmp (.int .i64 6)] QF S) (LoopP (fun r0 l S=>xa2 QF r0 (y00 l 3) (y00 l 5) (y00 l 9) S) [(3,v3),(5,v5),(9,(.int .i64 0))] S)
def x1r (QF:QT) (r0:RT) (v2 v3 v5 v6 v7 v8:AV) (S:q00):Prop:=faW 0 v2 fun v24=>ldW S 1 false v24 fun v25=>lnW S 1 v25 fun v26=>biW .lss v8 v26 fun v27=>cnW v27 (grW v7 false (faW 0 v2 fun v32=>faW 3 v3 fun v38=>faW 0 v38 fun v39=>faW 0 v39 fun v40=>ldW S 1 false v32 fun v33=>iaW 2 v33 v8 fun v35=>faW 0 v35 fun v36=>ldW S 1 false v36 fun v37=>ldW S 1 false v40 fun v41=>biW .eql v37 v41 fun v42=>pkW v7 (.bool true) v42 fun v43=>biW .add v8 (.int .i64 1) fun v29=>rcW r0 [(2,v2),(3,v3),(5,v5),(6,v6),(7,v43),(8,v29)] S) (pkW v7 (.bool true) q07 fun v43=>biW .add v8 (.int .i64 1) fun v29=>rcW r0 [(2,v2),(3,v3),(5,v5),(6,v6),(7,v43),(8,v29)] S)) (ntW v6 fun v45=>grW v45 false (ntW v7 fun v48=>pkW v45 (.bool true) v48 fun v49=>yig QF v3 v5 v49 S) (pkW v45 (.bool true) q07 fun v49=>yig QF v3 v5 v49 S))
def xjf (QF:QT) (v0 v1:AV) (S:q00):Prop:=brW 1 v0 fun v2=>brW 6 v1 fun v3=>ldW S 6 true v3 fun v10=>caW PG S (jF 120) [v10] (fun v11 S=>biW .eql v11 (.str ⟨#[]⟩) fun v12=>cnW v12 (rtW [.tmp (.int .i64 1)] QF S) (ldW S 1 true v2 fun v14=>faW 0 v3 fun v15=>faW 0 v15 fun v16=>ldW S 1 false v16 fun v17=>faW 2 v3 fun v18=>ldW S 1 false v18 fun v19=>caW PG S (jF 28) [v14,v17,v19] (fun v20 S=>exW 0 v20 fun v21=>exW 1 v20 fun v22=>bfW 6 v21 fun v5=>LoopP (fun r0 l S=>x1r QF r0 (y00 l 2) (y00 l 3) (y00 l 5) (y00 l 6) (y00 l 7) (y00 l 8) S) [(2,v2),(3,v3),(5,v5),(6,v22),(7,(.bool false)),(8,(.int .i64 0))] S) (pqW QF))) (pqW QF)
theorem xkx (h:xjf QF v0 v1 S):ACalls PG x6o [v0,v1] S QF:=wq xh1 h
def xh0:TFunc where
 n:=62
 args:=1
 res:=[.tmp 2]
 code:=js (jr [i1 2 (.mov (.c (.nils)))] [0]) (js (jr [i1 3 (.mov (.c (.nils)))] [0,3]) (js (js (jr [jc 4 .i64 0] [0,3,4]) (jB 0 (.loop [0,3,4] (js (js (jr [im 7 4,im 8 0,jl 9 1 8,jt 10 .lss 7 9] [0,3,4,10]) (jd 10 jz (jE 0))) (js (jB 1 (js (jr [jc 5 .i64 0] [0,3,4,5]) (js (jB 2 (.loop [0,3,4,5] (js (js (.regl [0,1,2,3,4,5,6,7,9,10,11,8,12,13,14] [im 13 5,im 14 3,jl 15 1 14,jt 16 .lss 13 15,im 17 16,
  .grp 17 true [s1 18 (.mov (.t 3)),s1 19 (.mov (.t 5)),s1 20 (.iaddr 2 (.t 18) (.t 19)),s1 22 (.mov (.t 0)),s1 23 (.mov (.t 4)),s1 24 (.iaddr 2 (.t 22) (.t 23)),s1 21 (.load 2 true (.t 20)),s1 25 (.load 2 true (.t 24)),s1 26 (.call (.f 123) [.t 21,.t 25])],jp 27 17 26] [0,3,4,5,27] []) (jd 27 jz (jE 2))) (jB 3 (jr [im 28 5,jb 29 .add 28 .i64 1,im 5 29] [0,3,4,5]))))) (js (js (.regl [0,1,2,3,4,5,6,7,9,10,11,8,12,13,14] [im 30 5,im 31 3,jl 32 1 31,jt 33 .lss 30 32,im 34 33,
  .grp 34 true [s1 35 (.mov (.t 3)),s1 36 (.mov (.t 5)),s1 37 (.iaddr 2 (.t 35) (.t 36)),s1 39 (.mov (.t 0)),s1 40 (.mov (.t 4)),s1 41 (.iaddr 2 (.t 39) (.t 40)),s1 38 (.load 2 true (.t 37)),s1 42 (.load 2 true (.t 41)),s1 43 (.eqp false (true,[.str,.str]) (.t 38) (.t 42))],jp 44 34 43] [0,3,4,5,44] []) (jd 44 (jE 1) jz)) (js (jr [im 45 3,im 46 5,i1 47 (.slicl 2 (.t 45) (some (.t 46)) none),i1 48 (.app 27 2 32 (.c (.nils)) (.t 47)),im 6 48] [0,3,4,5,6]) (js (.regl [0,1,2,3,4,5,6,7,8,9] [im 49 3,im 50 5,i1 51 (.slicl 2 (.t 49) none (some (.t 50))),im 52 0,im 53 4,ja 54 2 52 53,iL 55 2 54,i1 56 (.bslicr 27 2 [.t 55]),i1 57 (.app 27 2 32 (.t 51) (.t 56)),im 3 57] [0,3,4,6] []) (jr [im 58 3,im 59 6,i1 60 (.app 27 2 32 (.t 58) (.t 59)),im 3 60] [0,3,4]))))))) (jr [im 11 4,jb 12 .add 11 .i64 1,im 4 12] [0,3,4])))))) (js (jr [im 61 3,im 2 61] [2]) jR)))
abbrev x6n:Nat:=75
def yn0 (QF:QT) (r0:RT) (v0 v3 v4 v5 v44:AV) (S:q00):Prop:=cnW v44 (biW .add v4 (.int .i64 1) fun v12=>rcW r0 [(0,v0),(3,v3),(4,v12)] S) (slW 2 v3 (some v5) none fun v47=>apW S 27 2 32 (.nils) v47 fun v48 S=>slW 2 v3 none (some v5) fun v51=>iaW 2 v0 v4 fun v54=>ldW S 2 true v54 fun v55=>srW 2 [v55] fun v56=>apW S 27 2 32 v51 v56 fun v57 S=>apW S 27 2 32 v57 v48 fun v60 S=>biW .add v4 (.int .i64 1) fun v12=>rcW r0 [(0,v0),(3,v60),(4,v12)] S)
def yn1 (QF:QT) (r0:RT) (r1:RT) (v0 v3 v4 v5 v27:AV) (S:q00):Prop:=cnW v27 (biW .add v5 (.int .i64 1) fun v29=>rcW r1 [(0,v0),(3,v3),(4,v4),(5,v29)] S) (lnW S 1 v3 fun v32=>biW .lss v5 v32 fun v33=>grW v33 true (iaW 2 v3 v5 fun v37=>iaW 2 v0 v4 fun v41=>ldW S 2 true v37 fun v38=>ldW S 2 true v41 fun v42=>eqW false (true,[.str,.str]) v38 v42 fun v43=>pkW v33 v43 (.bool false) fun v44=>yn0 QF r0 v0 v3 v4 v5 v44 S) (pkW v33 q07 (.bool false) fun v44=>yn0 QF r0 v0 v3 v4 v5 v44 S))
def x9y (QF:QT) (r0:RT) (r1:RT) (v0 v3 v4 v5:AV) (S:q00):Prop:=lnW S 1 v3 fun v15=>biW .lss v5 v15 fun v16=>grW v16 true (iaW 2 v3 v5 fun v20=>iaW 2 v0 v4 fun v24=>ldW S 2 true v20 fun v21=>ldW S 2 true v24 fun v25=>caW PG S (jF 123) [v21,v25] (fun v26 S=>pkW v16 v26 (.bool false) fun v27=>yn1 QF r0 r1 v0 v3 v4 v5 v27 S) (pqW QF)) (pkW v16 q07 (.bool false) fun v27=>yn1 QF r0 r1 v0 v3 v4 v5 v27 S)
def x9z (QF:QT) (r0:RT) (v0 v3 v4:AV) (S:q00):Prop:=lnW S 1 v0 fun v9=>biW .lss v4 v9 fun v10=>cnW v10 (LoopP (fun r1 l S=>x9y QF r0 r1 (y00 l 0) (y00 l 3) (y00 l 4) (y00 l 5) S) [(0,v0),(3,v3),(4,v4),(5,(.int .i64 0))] S) (rtW [.tmp v3] QF S)
def xje (QF:QT) (v0:AV) (S:q00):Prop:=LoopP (fun r0 l S=>x9z QF r0 (y00 l 0) (y00 l 3) (y00 l 4) S) [(0,v0),(3,(.nils)),(4,(.int .i64 0))] S
theorem xkw (h:xje QF v0 S):ACalls PG x6n [v0] S QF:=wq xh0 h
def xgz:TFunc where
 n:=59
 args:=1
 res:=[.tmp 2]
 code:=js (jr [jo 2 false] [0]) (js (js (.reg [im 6 0,jl 7 0 6,jb 8 .eql 7 .i64 0,im 9 8,
  .grp 9 false [s1 10 (.mov (.t 0)),s1 11 (.len 0 (.t 10)),s1 12 (.bin .gtr (.t 11) (.c (.int .i64 16)))],jq 13 9 12,im 14 13,
  .grp 14 false [s1 15 (.mov (.t 0)),s1 16 (.bin .eql (.t 15) (.c (.str ⟨#[116,121,112,101]⟩)))],jq 17 14 16,im 18 17,
  .grp 18 false [s1 19 (.mov (.t 0)),s1 20 (.bin .eql (.t 19) (.c (.str ⟨#[114,101,108,97,116,105,111,110]⟩)))],jq 21 18 20,im 22 21,
  .grp 22 false [s1 23 (.mov (.t 0)),s1 24 (.bin .eql (.t 23) (.c (.str ⟨#[100,101,102,105,110,101]⟩)))],jq 25 22 24] [0,25] []) (jd 25 (js (jr [jo 2 false] [2]) jR) jz)) (js (js (jr [jc 3 .i64 0] [0,3]) (jB 0 (.loop [0,3] (js (js (jr [im 26 3,im 27 0,jl 28 0 27,jt 29 .lss 26 28] [0,3,29]) (jd 29 jz (jE 0))) (js (jB 1 (js (jr [im 32 0,im 33 3,i1 34 (.idxs (.t 32) (.t 33)),im 4 34] [0,3,4]) (js (jr [im 35 4,jb 36 .geq 35 .u8 97,im 37 36,
  .grp 37 true [s1 38 (.mov (.t 4)),s1 39 (.bin .leq (.t 38) (.c (.int .u8 122)))],jp 40 37 39,im 5 40] [0,3,4,5]) (js (jr [im 41 5,jk 42 41,im 43 42,
  .grp 43 true [s1 44 (.mov (.t 3)),s1 45 (.bin .eql (.t 44) (.c (.int .i64 0))),s1 46 (.mov (.t 45))],
  .grp 46 false [s1 47 (.mov (.t 4)),s1 48 (.bin .neq (.t 47) (.c (.int .u8 95))),s1 49 (.mov (.t 48))],
  .grp 49 true [s1 50 (.mov (.t 4)),s1 51 (.bin .lss (.t 50) (.c (.int .u8 48))),s1 52 (.mov (.t 51))],
  .grp 52 false [s1 53 (.mov (.t 4)),s1 54 (.bin .gtr (.t 53) (.c (.int .u8 57)))],
  .grp 49 true [s1 55 (.pick (.t 52) (.c (.bool true)) (.t 54))],
  .grp 46 false [s1 56 (.pick (.t 49) (.t 55) (.c (.bool false)))],
  .grp 43 true [s1 57 (.pick (.t 46) (.c (.bool true)) (.t 56))],jp 58 43 57] [0,3,58]) (jd 58 (js (jr [jo 2 false] [2]) jR) jz))))) (jr [im 30 3,jb 31 .add 30 .i64 1,im 3 31] [0,3])))))) (js (jr [jo 2 true] [2]) jR)))
abbrev x6m:Nat:=78
def ymx (QF:QT) (r0:RT) (v0 v3 v43 v46 v56:AV) (S:q00):Prop:=grW v43 true (pkW v46 (.bool true) v56 fun v57=>pkW v43 v57 (.bool false) fun v58=>cnW v58 (rtW [.tmp (.bool false)] QF S) (biW .add v3 (.int .i64 1) fun v31=>rcW r0 [(0,v0),(3,v31)] S)) (pkW v43 q07 (.bool false) fun v58=>cnW v58 (rtW [.tmp (.bool false)] QF S) (biW .add v3 (.int .i64 1) fun v31=>rcW r0 [(0,v0),(3,v31)] S))
def ymy (QF:QT) (r0:RT) (v0 v3 v43 v46 v49 v55:AV) (S:q00):Prop:=grW v46 false (pkW v49 v55 (.bool false) fun v56=>ymx QF r0 v0 v3 v43 v46 v56 S) (ymx QF r0 v0 v3 v43 v46 q07 S)
def ymz (QF:QT) (r0:RT) (v0 v3 v43 v46 v49 v52 v54:AV) (S:q00):Prop:=grW v49 true (pkW v52 (.bool true) v54 fun v55=>ymy QF r0 v0 v3 v43 v46 v49 v55 S) (ymy QF r0 v0 v3 v43 v46 v49 q07 S)
def x1j (QF:QT) (r0:RT) (v0 v3 v4 v43 v46 v49 v52:AV) (S:q00):Prop:=grW v52 false (biW .gtr v4 (.int .u8 57) fun v54=>ymz QF r0 v0 v3 v43 v46 v49 v52 v54 S) (ymz QF r0 v0 v3 v43 v46 v49 v52 q07 S)
def x1k (QF:QT) (r0:RT) (v0 v3 v4 v43 v46 v49:AV) (S:q00):Prop:=grW v49 true (biW .lss v4 (.int .u8 48) fun v51=>x1j QF r0 v0 v3 v4 v43 v46 v49 v51 S) (x1j QF r0 v0 v3 v4 v43 v46 v49 q07 S)
def x1l (QF:QT) (r0:RT) (v0 v3 v4 v43 v46:AV) (S:q00):Prop:=grW v46 false (biW .neq v4 (.int .u8 95) fun v48=>x1k QF r0 v0 v3 v4 v43 v46 v48 S) (x1k QF r0 v0 v3 v4 v43 v46 q07 S)
def x1m (QF:QT) (r0:RT) (v0 v3 v4 v40:AV) (S:q00):Prop:=ntW v40 fun v42=>grW v42 true (biW .eql v3 (.int .i64 0) fun v45=>x1l QF r0 v0 v3 v4 v42 v45 S) (x1l QF r0 v0 v3 v4 v42 q07 S)
def x9x (QF:QT) (r0:RT) (v0 v3:AV) (S:q00):Prop:=lnW S 0 v0 fun v28=>biW .lss v3 v28 fun v29=>cnW v29 (isW v0 v3 fun v34=>biW .geq v34 (.int .u8 97) fun v36=>grW v36 true (biW .leq v34 (.int .u8 122) fun v39=>pkW v36 v39 (.bool false) fun v40=>x1m QF r0 v0 v3 v34 v40 S) (pkW v36 q07 (.bool false) fun v40=>x1m QF r0 v0 v3 v34 v40 S)) (rtW [.tmp (.bool true)] QF S)
def x1n (QF:QT) (v0 v25:AV) (S:q00):Prop:=cnW v25 (rtW [.tmp (.bool false)] QF S) (LoopP (fun r0 l S=>x9x QF r0 (y00 l 0) (y00 l 3) S) [(0,v0),(3,(.int .i64 0))] S)
def x1o (QF:QT) (v0 v21:AV) (S:q00):Prop:=grW v21 false (biW .eql v0 (.str ⟨#[100,101,102,105,110,101]⟩) fun v24=>pkW v21 (.bool true) v24 fun v25=>x1n QF v0 v25 S) (pkW v21 (.bool true) q07 fun v25=>x1n QF v0 v25 S)
def x1p (QF:QT) (v0 v17:AV) (S:q00):Prop:=grW v17 false (biW .eql v0 (.str ⟨#[114,101,108,97,116,105,111,110]⟩) fun v20=>pkW v17 (.bool true) v20 fun v21=>x1o QF v0 v21 S) (pkW v17 (.bool true) q07 fun v21=>x1o QF v0 v21 S)
def x1q (QF:QT) (v0 v13:AV) (S:q00):Prop:=grW v13 false (biW .eql v0 (.str ⟨#[116,121,112,101]⟩) fun v16=>pkW v13 (.bool true) v16 fun v17=>x1p QF v0 v17 S) (pkW v13 (.bool true) q07 fun v17=>x1p QF v0 v17 S)
def xjd (QF:QT) (v0:AV) (S:q00):Prop:=lnW S 0 v0 fun v7=>biW .eql v7 (.int .i64 0) fun v8=>grW v8 false (lnW S 0 v0 fun v11=>biW .gtr v11 (.int .i64 16) fun v12=>pkW v8 (.bool true) v12 fun v13=>x1q QF v0 v13 S) (pkW v8 (.bool true) q07 fun v13=>x1q QF v0 v13 S)
theorem xkv (h:xjd QF v0 S):ACalls PG x6m [v0] S QF:=wq xgz h
def xgy:TFunc where
 n:=62
 args:=1
 res:=[.tmp 2]
 code:=js (jr [jo 2 false] [0]) (js (js (jr [im 7 0,jl 8 0 7,jb 9 .eql 8 .i64 0,im 10 9,
  .grp 10 false [s1 11 (.mov (.t 0)),s1 12 (.len 0 (.t 11)),s1 13 (.bin .gtr (.t 12) (.c (.int .i64 24)))],jq 14 10 13] [0,14]) (jd 14 (js (jr [jo 2 false] [2]) jR) jz)) (js (js (jr [jc 3 .i64 0] [0,3]) (jB 0 (.loop [0,3] (js (js (jr [im 15 3,im 16 0,jl 17 0 16,jt 18 .lss 15 17] [0,3,18]) (jd 18 jz (jE 0))) (js (jB 1 (js (jr [im 21 0,im 22 3,i1 23 (.idxs (.t 21) (.t 22)),im 4 23] [0,3,4]) (js (jr [im 24 4,jb 25 .geq 24 .u8 97,im 26 25,
  .grp 26 true [s1 27 (.mov (.t 4)),s1 28 (.bin .leq (.t 27) (.c (.int .u8 122)))],jp 29 26 28,im 30 29,
  .grp 30 false [s1 31 (.mov (.t 4)),s1 32 (.bin .geq (.t 31) (.c (.int .u8 65))),s1 33 (.mov (.t 32))],
  .grp 33 true [s1 34 (.mov (.t 4)),s1 35 (.bin .leq (.t 34) (.c (.int .u8 90)))],
  .grp 30 false [s1 36 (.pick (.t 33) (.t 35) (.c (.bool false)))],jq 37 30 36,im 5 37] [0,3,4,5]) (js (jr [im 38 4,jb 39 .geq 38 .u8 48,im 40 39,
  .grp 40 true [s1 41 (.mov (.t 4)),s1 42 (.bin .leq (.t 41) (.c (.int .u8 57)))],jp 43 40 42,im 6 43] [0,3,4,5,6]) (js (jr [im 44 5,jk 45 44,im 46 45,
  .grp 46 true [s1 47 (.mov (.t 6)),s1 48 (.not (.t 47))],jp 49 46 48,im 50 49,
  .grp 50 true [s1 51 (.mov (.t 4)),s1 52 (.bin .neq (.t 51) (.c (.int .u8 95)))],jp 53 50 52,im 54 53,
  .grp 54 true [s1 55 (.mov (.t 4)),s1 56 (.bin .neq (.t 55) (.c (.int .u8 46)))],jp 57 54 56,im 58 57,
  .grp 58 true [s1 59 (.mov (.t 4)),s1 60 (.bin .neq (.t 59) (.c (.int .u8 45)))],jp 61 58 60] [0,3,61]) (jd 61 (js (jr [jo 2 false] [2]) jR) jz)))))) (jr [im 19 3,jb 20 .add 19 .i64 1,im 3 20] [0,3])))))) (js (jr [jo 2 true] [2]) jR)))
abbrev x6l:Nat:=79
def ymw (QF:QT) (r0:RT) (v0 v3 v4 v57:AV) (S:q00):Prop:=grW v57 true (biW .neq v4 (.int .u8 45) fun v60=>pkW v57 v60 (.bool false) fun v61=>cnW v61 (rtW [.tmp (.bool false)] QF S) (biW .add v3 (.int .i64 1) fun v20=>rcW r0 [(0,v0),(3,v20)] S)) (pkW v57 q07 (.bool false) fun v61=>cnW v61 (rtW [.tmp (.bool false)] QF S) (biW .add v3 (.int .i64 1) fun v20=>rcW r0 [(0,v0),(3,v20)] S))
def x1b (QF:QT) (r0:RT) (v0 v3 v4 v53:AV) (S:q00):Prop:=grW v53 true (biW .neq v4 (.int .u8 46) fun v56=>pkW v53 v56 (.bool false) fun v57=>ymw QF r0 v0 v3 v4 v57 S) (pkW v53 q07 (.bool false) fun v57=>ymw QF r0 v0 v3 v4 v57 S)
def x1c (QF:QT) (r0:RT) (v0 v3 v4 v49:AV) (S:q00):Prop:=grW v49 true (biW .neq v4 (.int .u8 95) fun v52=>pkW v49 v52 (.bool false) fun v53=>x1b QF r0 v0 v3 v4 v53 S) (pkW v49 q07 (.bool false) fun v53=>x1b QF r0 v0 v3 v4 v53 S)
def x1d (QF:QT) (r0:RT) (v0 v3 v4 v5 v43:AV) (S:q00):Prop:=ntW v5 fun v45=>grW v45 true (ntW v43 fun v48=>pkW v45 v48 (.bool false) fun v49=>x1c QF r0 v0 v3 v4 v49 S) (pkW v45 q07 (.bool false) fun v49=>x1c QF r0 v0 v3 v4 v49 S)
def x1e (QF:QT) (r0:RT) (v0 v3 v4 v37:AV) (S:q00):Prop:=biW .geq v4 (.int .u8 48) fun v39=>grW v39 true (biW .leq v4 (.int .u8 57) fun v42=>pkW v39 v42 (.bool false) fun v43=>x1d QF r0 v0 v3 v4 v37 v43 S) (pkW v39 q07 (.bool false) fun v43=>x1d QF r0 v0 v3 v4 v37 v43 S)
def x1f (QF:QT) (r0:RT) (v0 v3 v4 v30 v33 v35:AV) (S:q00):Prop:=grW v30 false (pkW v33 v35 (.bool false) fun v36=>pkW v30 (.bool true) v36 fun v37=>x1e QF r0 v0 v3 v4 v37 S) (pkW v30 (.bool true) q07 fun v37=>x1e QF r0 v0 v3 v4 v37 S)
def x1g (QF:QT) (r0:RT) (v0 v3 v4 v30 v33:AV) (S:q00):Prop:=grW v33 true (biW .leq v4 (.int .u8 90) fun v35=>x1f QF r0 v0 v3 v4 v30 v33 v35 S) (x1f QF r0 v0 v3 v4 v30 v33 q07 S)
def x1h (QF:QT) (r0:RT) (v0 v3 v4 v29:AV) (S:q00):Prop:=grW v29 false (biW .geq v4 (.int .u8 65) fun v32=>x1g QF r0 v0 v3 v4 v29 v32 S) (x1g QF r0 v0 v3 v4 v29 q07 S)
def x9w (QF:QT) (r0:RT) (v0 v3:AV) (S:q00):Prop:=lnW S 0 v0 fun v17=>biW .lss v3 v17 fun v18=>cnW v18 (isW v0 v3 fun v23=>biW .geq v23 (.int .u8 97) fun v25=>grW v25 true (biW .leq v23 (.int .u8 122) fun v28=>pkW v25 v28 (.bool false) fun v29=>x1h QF r0 v0 v3 v23 v29 S) (pkW v25 q07 (.bool false) fun v29=>x1h QF r0 v0 v3 v23 v29 S)) (rtW [.tmp (.bool true)] QF S)
def x1i (QF:QT) (v0 v14:AV) (S:q00):Prop:=cnW v14 (rtW [.tmp (.bool false)] QF S) (LoopP (fun r0 l S=>x9w QF r0 (y00 l 0) (y00 l 3) S) [(0,v0),(3,(.int .i64 0))] S)
def xjc (QF:QT) (v0:AV) (S:q00):Prop:=lnW S 0 v0 fun v8=>biW .eql v8 (.int .i64 0) fun v9=>grW v9 false (lnW S 0 v0 fun v12=>biW .gtr v12 (.int .i64 24) fun v13=>pkW v9 (.bool true) v13 fun v14=>x1i QF v0 v14 S) (pkW v9 (.bool true) q07 fun v14=>x1i QF v0 v14 S)
theorem xku (h:xjc QF v0 S):ACalls PG x6l [v0] S QF:=wq xgy h
def xgx:TFunc where
 n:=9
 args:=2
 res:=[.tmp 4]
 code:=js (jr [jo 4 false] [0,1]) (js (jr [im 5 0,im 6 1,jf 7 127 [.t 5,.t 6],jb 8 .geq 7 .i64 0,im 4 8] [4]) jR)
abbrev x6k:Nat:=80
def xjb (QF:QT) (v0 v1:AV) (S:q00):Prop:=caW PG S (jF 127) [v0,v1] (fun v7 S=>biW .geq v7 (.int .i64 0) fun v8=>rtW [.tmp v8] QF S) (pqW QF)
theorem xkt (h:xjb QF v0 v1 S):ACalls PG x6k [v0,v1] S QF:=wq xgx h
def xgw:TFunc where
 n:=71
 args:=1
 res:=[.tmp 2]
 code:=js (jr [i1 2 (.mov (.c (.nils)))] [0]) (js (jr [i1 3 (.mov (.c (.nils)))] [0,3]) (js (jr [jc 4 .i64 1] [0,3,4]) (js (jr [jc 5 .i64 1] [0,3,4,5]) (js (jr [jc 6 .i64 0] [0,3,4,5,6]) (js (jB 0 (.loop [0,3,4,5,6] (js (js (jr [im 10 6,im 11 0,jl 12 0 11,jt 13 .lss 10 12] [0,3,4,5,6,13]) (jd 13 jz (jE 0))) (jB 1 (js (jr [im 14 0,im 15 6,i1 16 (.idxs (.t 14) (.t 15)),im 7 16] [0,3,4,5,6,7]) (js (js (jr [im 17 7,jb 18 .eql 17 .u8 32,im 19 18,
  .grp 19 false [s1 20 (.mov (.t 7)),s1 21 (.bin .eql (.t 20) (.c (.int .u8 9)))],jq 22 19 21,im 23 22,
  .grp 23 false [s1 24 (.mov (.t 7)),s1 25 (.bin .eql (.t 24) (.c (.int .u8 10)))],jq 26 23 25] [0,3,4,5,6,7,26]) (jd 26 (js (jr [im 27 5,jb 28 .add 27 .i64 1,im 5 28] [0,3,4,5,6,7]) (js (js (jr [im 29 7,jb 30 .eql 29 .u8 10] [0,3,4,5,6,30]) (jd 30 (js (jr [im 31 4,jb 32 .add 31 .i64 1,im 4 32] [0,3,4,6]) (jr [jc 5 .i64 1] [0,3,4,5,6])) jz)) (js (jr [im 33 6,jb 34 .add 33 .i64 1,im 6 34] [0,3,4,5,6]) (jE 1)))) jz)) (js (jr [im 35 0,im 36 6,i1 37 (.slics (.t 35) (some (.t 36)) none),jf 38 128 [.t 37],im 8 38] [0,3,4,5,6,7,8]) (js (jr [im 39 0,im 40 6,im 41 6,im 42 8,jt 43 .add 41 42,i1 44 (.slics (.t 39) (some (.t 40)) (some (.t 43))),im 9 44] [0,3,4,5,6,7,8,9]) (js (js (jr [im 45 8,jb 46 .eql 45 .i64 0] [0,3,4,5,6,7,8,9,46]) (jd 46 (js (jr [im 47 7,jf 48 129 [.t 47],im 9 48] [0,3,4,5,6,9]) (jr [jc 8 .i64 1] [0,3,4,5,6,8,9])) jz)) (js (.reg [im 49 3,im 50 9,im 51 4,im 52 5,i1 53 (.build [.str ⟨#[]⟩,.int .i64 0,.int .i64 0] [(0,1,.t 50),(1,1,.t 51),(2,1,.t 52)]),i1 54 (.bslicr 149 3 [.t 53]),i1 55 (.app 149 3 32 (.t 49) (.t 54)),im 3 55] [0,3,4,5,6,8,9] []) (js (js (jr [im 56 9,i1 57 (.bin .eql (.t 56) (.c (.str ⟨#[63]⟩)))] [0,3,4,5,6,8,57]) (jd 57 (js (jr [im 58 3,im 2 58] [2]) jR) jz)) (js (jr [im 59 6,im 60 8,jt 61 .add 59 60,im 6 61] [0,3,4,5,6,8]) (jr [im 62 5,im 63 8,jt 64 .add 62 63,im 5 64] [0,3,4,5,6]))))))))))))) (js (.reg [im 65 3,im 66 4,im 67 5,i1 68 (.build [.str ⟨#[]⟩,.int .i64 0,.int .i64 0] [(1,1,.t 66),(2,1,.t 67)]),i1 69 (.bslicr 149 3 [.t 68]),i1 70 (.app 149 3 32 (.t 65) (.t 69)),im 2 70] [2] []) jR))))))
abbrev x6j:Nat:=83
def yrq (QF:QT) (r0:RT) (v0 v3 v4 v5 v6 v8 v9:AV) (S:q00):Prop:=bdW [.str ⟨#[]⟩,.int .i64 0,.int .i64 0] [(0,1,v9),(1,1,v4),(2,1,v5)] fun v53=>srW 3 [v53] fun v54=>apW S 149 3 32 v3 v54 fun v55 S=>biW .eql v9 (.str ⟨#[63]⟩) fun v57=>cnW v57 (rtW [.tmp v55] QF S) (biW .add v6 v8 fun v61=>biW .add v5 v8 fun v64=>rcW r0 [(0,v0),(3,v55),(4,v4),(5,v64),(6,v61)] S)
def yrr (QF:QT) (r0:RT) (v0 v3 v4 v5 v6 v7 v26:AV) (S:q00):Prop:=cnW v26 (biW .add v5 (.int .i64 1) fun v28=>biW .eql v7 (.int .u8 10) fun v30=>cnW v30 (biW .add v4 (.int .i64 1) fun v32=>biW .add v6 (.int .i64 1) fun v34=>rcW r0 [(0,v0),(3,v3),(4,v32),(5,(.int .i64 1)),(6,v34)] S) (biW .add v6 (.int .i64 1) fun v34=>rcW r0 [(0,v0),(3,v3),(4,v4),(5,v28),(6,v34)] S)) (ssW v0 (some v6) none fun v37=>caW PG S (jF 128) [v37] (fun v38 S=>biW .add v6 v38 fun v43=>ssW v0 (some v6) (some v43) fun v44=>biW .eql v38 (.int .i64 0) fun v46=>cnW v46 (caW PG S (jF 129) [v7] (fun v48 S=>yrq QF r0 v0 v3 v4 v5 v6 (.int .i64 1) v48 S) (pqW QF)) (yrq QF r0 v0 v3 v4 v5 v6 v38 v44 S)) (pqW QF))
def x1a (QF:QT) (r0:RT) (v0 v3 v4 v5 v6 v7 v22:AV) (S:q00):Prop:=grW v22 false (biW .eql v7 (.int .u8 10) fun v25=>pkW v22 (.bool true) v25 fun v26=>yrr QF r0 v0 v3 v4 v5 v6 v7 v26 S) (pkW v22 (.bool true) q07 fun v26=>yrr QF r0 v0 v3 v4 v5 v6 v7 v26 S)
def x9v (QF:QT) (r0:RT) (v0 v3 v4 v5 v6:AV) (S:q00):Prop:=lnW S 0 v0 fun v12=>biW .lss v6 v12 fun v13=>cnW v13 (isW v0 v6 fun v16=>biW .eql v16 (.int .u8 32) fun v18=>grW v18 false (biW .eql v16 (.int .u8 9) fun v21=>pkW v18 (.bool true) v21 fun v22=>x1a QF r0 v0 v3 v4 v5 v6 v16 v22 S) (pkW v18 (.bool true) q07 fun v22=>x1a QF r0 v0 v3 v4 v5 v6 v16 v22 S)) (bdW [.str ⟨#[]⟩,.int .i64 0,.int .i64 0] [(1,1,v4),(2,1,v5)] fun v68=>srW 3 [v68] fun v69=>apW S 149 3 32 v3 v69 fun v70 S=>rtW [.tmp v70] QF S)
def xja (QF:QT) (v0:AV) (S:q00):Prop:=LoopP (fun r0 l S=>x9v QF r0 (y00 l 0) (y00 l 3) (y00 l 4) (y00 l 5) (y00 l 6) S) [(0,v0),(3,(.nils)),(4,(.int .i64 1)),(5,(.int .i64 1)),(6,(.int .i64 0))] S
theorem xks (h:xja QF v0 S):ACalls PG x6j [v0] S QF:=wq xgw h
end Go.HL
