/- A part of a proof. -/
import Derived.Test.YtadmdlpmikoghaaGreatKeHlP
set_option maxRecDepth 100000
set_option linter.unusedVariables false
namespace Go.HL
variable {QF:QT} {S:q00} {v0 v1 v2 v3 v4 v5 v6 v7 v8:AV}
def x31:TFunc where
 n:=19
 args:=2
 res:=[.tmp 4]
 code:=js (jr [jc 4 .i64 0] [0,1]) (js (js (jr [im 6 0,jl 7 1 6,jc 8 .i64 0] [0,1,7,8]) (jB 0 (.loop [0,1,7,8] (js (jr [jt 9 .lss 8 7] [0,1,7,8,9]) (js (jd 9 jz (jE 0)) (js (jB 1 (js (jr [im 10 8,im 5 10] [0,1,5,7,8]) (js (jr [im 11 1,im 12 0,im 13 5,ja 14 6 12 13,iL 15 6 14,i1 16 (.call (.t 11) [.t 15])] [0,1,5,7,8,16]) (jd 16 (js (jr [im 17 5,im 4 17] [4]) jR) jz)))) (jr [jb 18 .add 8 .i64 1,im 8 18] [0,1,7,8]))))))) (js (jr [jc 4 .i64 (-1)] [4]) jR))
abbrev ysf:Nat:=205
def yv2 (QF:QT) (r0:RT) (v0 v1 v7 v8:AV) (S:q00):Prop:=biW .lss v8 v7 fun v9=>cnW v9 (iaW 6 v0 v8 fun v14=>ldW S 6 true v14 fun v15=>caW PG S v1 [v15] (fun v16 S=>cnW v16 (rtW [.tmp v8] QF S) (biW .add v8 (.int .i64 1) fun v18=>rcW r0 [(0,v0),(1,v1),(7,v7),(8,v18)] S)) (pqW QF)) (rtW [.tmp (.int .i64 (-1))] QF S)
def xb1 (QF:QT) (v0 v1:AV) (S:q00):Prop:=lnW S 1 v0 fun v7=>LoopP (fun r0 l S=>yv2 QF r0 (y00 l 0) (y00 l 1) (y00 l 7) (y00 l 8) S) [(0,v0),(1,v1),(7,v7),(8,(.int .i64 0))] S
theorem xdy (h:xb1 QF v0 v1 S):ACalls PG ysf [v0,v1] S QF:=wq x31 h
def x30:TFunc where
 n:=67
 args:=2
 res:=[.tmp 4]
 code:=js (jr [jx 2 51 4 0,jo 4 false] [1,2]) (js (jB 0 (js (jr [im 6 1,jb 7 .eql 6 .i64 0,im 5 7] [1,2,5]) (jd 5 (js (jr [jo 4 false] [4]) jR) (js (jr [ia 9 0 2,il 10 1 9,jb 11 .eql 10 .i64 0,im 8 11] [1,2,8]) (jd 8 (js (jr [ia 12 1 2,il 13 1 12,jf 14 144 [.t 13],im 15 14,
  .grp 15 true [s1 16 (.faddr 3 (.t 2)),s1 17 (.load 1 false (.t 16)),s1 18 (.len 1 (.t 17)),s1 19 (.bin .eql (.t 18) (.c (.int .i64 0)))],jp 20 15 19,im 4 20] [4]) jR) (js (jr [ia 22 0 2,il 23 1 22,jb 24 .eql 23 .i64 1,im 21 24] [1,2,21]) (jd 21 (js (.reg [ia 25 1 2,il 26 1 25,jf 27 144 [.t 26],im 28 27,
  .grp 28 true [s1 29 (.faddr 2 (.t 2)),s1 30 (.load 1 false (.t 29)),s1 31 (.call (.f 144) [.t 30])],jp 32 28 31,im 33 32,
  .grp 33 true [s1 34 (.faddr 3 (.t 2)),s1 35 (.load 1 false (.t 34)),s1 36 (.len 1 (.t 35)),s1 37 (.bin .eql (.t 36) (.c (.int .i64 0)))],jp 38 33 37,im 4 38] [4] []) jR) jz))))))) (js (.reg [ia 39 0 2,il 40 1 39,jf 41 214 [.t 40],i1 42 (.bin .neq (.t 41) (.c (.str ⟨#[]⟩))),im 43 42,
  .grp 43 true [s1 44 (.faddr 3 (.t 2)),s1 45 (.load 1 false (.t 44)),s1 46 (.len 1 (.t 45)),s1 47 (.bin .eql (.t 46) (.c (.int .i64 2)))],jp 48 43 47,im 49 48,
  .grp 49 true [s1 50 (.faddr 3 (.t 2)),s1 51 (.load 1 false (.t 50)),s1 52 (.iaddr 4 (.t 51) (.c (.int .i64 0))),s1 53 (.load 4 true (.t 52)),s1 54 (.mov (.t 1)),s1 55 (.bin .sub (.t 54) (.c (.int .i64 1))),s1 56 (.call (.f 206) [.t 53,.t 55])],jp 57 49 56,im 58 57,
  .grp 58 true [s1 59 (.faddr 3 (.t 2)),s1 60 (.load 1 false (.t 59)),s1 61 (.iaddr 4 (.t 60) (.c (.int .i64 1))),s1 62 (.load 4 true (.t 61)),s1 63 (.mov (.t 1)),s1 64 (.bin .sub (.t 63) (.c (.int .i64 1))),s1 65 (.call (.f 206) [.t 62,.t 64])],jp 66 58 65,im 4 66] [4] []) jR))
abbrev yse:Nat:=206
def yfa (QF:QT) (v2 v32:AV) (S:q00):Prop:=grW v32 true (faW 3 v2 fun v34=>ldW S 1 false v34 fun v35=>lnW S 1 v35 fun v36=>biW .eql v36 (.int .i64 0) fun v37=>pkW v32 v37 (.bool false) fun v38=>rtW [.tmp v38] QF S) (pkW v32 q07 (.bool false) fun v38=>rtW [.tmp v38] QF S)
def y9t (QF:QT) (v1 v2 v57:AV) (S:q00):Prop:=grW v57 true (faW 3 v2 fun v59=>ldW S 1 false v59 fun v60=>iaW 4 v60 (.int .i64 1) fun v61=>ldW S 4 true v61 fun v62=>biW .sub v1 (.int .i64 1) fun v64=>caW PG S (jF 206) [v62,v64] (fun v65 S=>pkW v57 v65 (.bool false) fun v66=>rtW [.tmp v66] QF S) (pqW QF)) (pkW v57 q07 (.bool false) fun v66=>rtW [.tmp v66] QF S)
def yfb (QF:QT) (v1 v2 v48:AV) (S:q00):Prop:=grW v48 true (faW 3 v2 fun v50=>ldW S 1 false v50 fun v51=>iaW 4 v51 (.int .i64 0) fun v52=>ldW S 4 true v52 fun v53=>biW .sub v1 (.int .i64 1) fun v55=>caW PG S (jF 206) [v53,v55] (fun v56 S=>pkW v48 v56 (.bool false) fun v57=>y9t QF v1 v2 v57 S) (pqW QF)) (pkW v48 q07 (.bool false) fun v57=>y9t QF v1 v2 v57 S)
def x21 (QF:QT) (v0 v1:AV) (S:q00):Prop:=brW 4 v0 fun v2=>biW .eql v1 (.int .i64 0) fun v7=>cnW v7 (rtW [.tmp (.bool false)] QF S) (faW 0 v2 fun v9=>ldW S 1 false v9 fun v10=>biW .eql v10 (.int .i64 0) fun v11=>cnW v11 (faW 1 v2 fun v12=>ldW S 1 false v12 fun v13=>caW PG S (jF 144) [v13] (fun v14 S=>grW v14 true (faW 3 v2 fun v16=>ldW S 1 false v16 fun v17=>lnW S 1 v17 fun v18=>biW .eql v18 (.int .i64 0) fun v19=>pkW v14 v19 (.bool false) fun v20=>rtW [.tmp v20] QF S) (pkW v14 q07 (.bool false) fun v20=>rtW [.tmp v20] QF S)) (pqW QF)) (faW 0 v2 fun v22=>ldW S 1 false v22 fun v23=>biW .eql v23 (.int .i64 1) fun v24=>cnW v24 (faW 1 v2 fun v25=>ldW S 1 false v25 fun v26=>caW PG S (jF 144) [v26] (fun v27 S=>grW v27 true (faW 2 v2 fun v29=>ldW S 1 false v29 fun v30=>caW PG S (jF 144) [v30] (fun v31 S=>pkW v27 v31 (.bool false) fun v32=>yfa QF v2 v32 S) (pqW QF)) (pkW v27 q07 (.bool false) fun v32=>yfa QF v2 v32 S)) (pqW QF)) (faW 0 v2 fun v39=>ldW S 1 false v39 fun v40=>caW PG S (jF 214) [v40] (fun v41 S=>biW .neq v41 (.str ⟨#[]⟩) fun v42=>grW v42 true (faW 3 v2 fun v44=>ldW S 1 false v44 fun v45=>lnW S 1 v45 fun v46=>biW .eql v46 (.int .i64 2) fun v47=>pkW v42 v47 (.bool false) fun v48=>yfb QF v1 v2 v48 S) (pkW v42 q07 (.bool false) fun v48=>yfb QF v1 v2 v48 S)) (pqW QF))))
theorem x2k (h:x21 QF v0 v1 S):ACalls PG yse [v0,v1] S QF:=wq x30 h
def x2z:TFunc where
 n:=9
 args:=2
 res:=[.tmp 4]
 code:=js (jr [jo 4 false] [0,1]) (js (jr [im 5 0,im 6 1,jf 7 215 [.t 5,.t 6],jb 8 .geq 7 .i64 0,im 4 8] [4]) jR)
abbrev ysd:Nat:=207
def xb0 (QF:QT) (v0 v1:AV) (S:q00):Prop:=caW PG S (jF 215) [v0,v1] (fun v7 S=>biW .geq v7 (.int .i64 0) fun v8=>rtW [.tmp v8] QF S) (pqW QF)
theorem xdx (h:xb0 QF v0 v1 S):ACalls PG ysd [v0,v1] S QF:=wq x2z h
def x2y:TFunc where
 n:=6
 args:=1
 res:=[.tmp 2]
 code:=js (jr [jx 1 171 2 0,jo 2 false] [1]) (js (jr [iL 3 2 1,jf 4 209 [.t 3],jk 5 4,im 2 5] [2]) jR)
abbrev ysc:Nat:=208
def xaz (QF:QT) (v0:AV) (S:q00):Prop:=brW 2 v0 fun v1=>ldW S 2 true v1 fun v3=>caW PG S (jF 209) [v3] (fun v4 S=>ntW v4 fun v5=>rtW [.tmp v5] QF S) (pqW QF)
theorem xdw (h:xaz QF v0 S):ACalls PG ysc [v0] S QF:=wq x2y h
def x2x:TFunc where
 n:=16
 args:=1
 res:=[.tmp 2]
 code:=js (jr [jx 1 171 2 0,jo 2 false] [1]) (js (.reg [ia 3 0 1,il 4 1 3,jf 5 144 [.t 4],im 6 5,
  .grp 6 true [s1 7 (.faddr 1 (.t 1)),s1 8 (.load 1 false (.t 7)),s1 9 (.bin .eql (.t 8) (.c (.str ⟨#[]⟩))),s1 10 (.mov (.t 9))],
  .grp 10 false [s1 11 (.faddr 1 (.t 1)),s1 12 (.load 1 false (.t 11)),s1 13 (.call (.f 144) [.t 12])],
  .grp 6 true [s1 14 (.pick (.t 10) (.c (.bool true)) (.t 13))],jp 15 6 14,im 2 15] [2] []) jR)
abbrev ysb:Nat:=209
def y9s (QF:QT) (v6 v10 v13:AV) (S:q00):Prop:=grW v6 true (pkW v10 (.bool true) v13 fun v14=>pkW v6 v14 (.bool false) fun v15=>rtW [.tmp v15] QF S) (pkW v6 q07 (.bool false) fun v15=>rtW [.tmp v15] QF S)
def yna (QF:QT) (v1 v6 v10:AV) (S:q00):Prop:=grW v10 false (faW 1 v1 fun v11=>ldW S 1 false v11 fun v12=>caW PG S (jF 144) [v12] (fun v13 S=>y9s QF v6 v10 v13 S) (pqW QF)) (y9s QF v6 v10 q07 S)
def xay (QF:QT) (v0:AV) (S:q00):Prop:=brW 2 v0 fun v1=>faW 0 v1 fun v3=>ldW S 1 false v3 fun v4=>caW PG S (jF 144) [v4] (fun v5 S=>grW v5 true (faW 1 v1 fun v7=>ldW S 1 false v7 fun v8=>biW .eql v8 (.str ⟨#[]⟩) fun v9=>yna QF v1 v5 v9 S) (yna QF v1 v5 q07 S)) (pqW QF)
theorem xdv (h:xay QF v0 S):ACalls PG ysb [v0] S QF:=wq x2x h
def x2w:TFunc where
 n:=63
 args:=2
 res:=[.tmp 4]
 code:=js (jr [jx 2 51 4 0,jo 4 false] [1,2]) (js (js (jr [im 7 1,jb 8 .eql 7 .i64 0,im 9 8,
  .grp 9 false [s1 10 (.faddr 0 (.t 2)),s1 11 (.load 1 false (.t 10)),s1 12 (.bin .lss (.t 11) (.c (.int .i64 0)))],jq 13 9 12,im 14 13,
  .grp 14 false [s1 15 (.faddr 0 (.t 2)),s1 16 (.load 1 false (.t 15)),s1 17 (.bin .gtr (.t 16) (.c (.int .i64 4)))],jq 18 14 17] [1,2,18]) (jd 18 (js (jr [jo 4 false] [4]) jR) jz)) (js (js (jr [ia 19 0 2,il 20 1 19,jb 21 .leq 20 .i64 1] [1,2,21]) (jd 21 (js (jr [ia 22 1 2,il 23 1 22,jf 24 78 [.t 23],im 5 24] [2,5]) (js (jr [ia 25 2 2,il 26 1 25,jf 27 78 [.t 26],im 6 27] [2,5,6]) (js (jr [im 28 5,im 29 28,
  .grp 29 true [s1 30 (.faddr 3 (.t 2)),s1 31 (.load 1 false (.t 30)),s1 32 (.len 1 (.t 31)),s1 33 (.bin .eql (.t 32) (.c (.int .i64 0)))],jp 34 29 33,im 35 34,
  .grp 35 true [s1 36 (.faddr 0 (.t 2)),s1 37 (.load 1 false (.t 36)),s1 38 (.bin .eql (.t 37) (.c (.int .i64 0))),s1 39 (.mov (.t 38))],
  .grp 39 false [s1 40 (.mov (.t 6))],
  .grp 35 true [s1 41 (.pick (.t 39) (.c (.bool true)) (.t 40))],jp 42 35 41,im 4 42] [4]) jR))) jz)) (js (js (jr [ia 43 3 2,il 44 1 43,jl 45 1 44,jb 46 .neq 45 .i64 2] [1,2,46]) (jd 46 (js (jr [jo 4 false] [4]) jR) jz)) (js (.reg [ia 47 3 2,il 48 1 47,i1 49 (.iaddr 4 (.t 48) (.c (.int .i64 0))),iL 50 4 49,im 51 1,jb 52 .sub 51 .i64 1,jf 53 210 [.t 50,.t 52],im 54 53,
  .grp 54 true [s1 55 (.faddr 3 (.t 2)),s1 56 (.load 1 false (.t 55)),s1 57 (.iaddr 4 (.t 56) (.c (.int .i64 1))),s1 58 (.load 4 true (.t 57)),s1 59 (.mov (.t 1)),s1 60 (.bin .sub (.t 59) (.c (.int .i64 1))),s1 61 (.call (.f 210) [.t 58,.t 60])],jp 62 54 61,im 4 62] [4] []) jR))))
abbrev ysa:Nat:=210
def yn7 (QF:QT) (v35 v39 v40:AV) (S:q00):Prop:=grW v35 true (pkW v39 (.bool true) v40 fun v41=>pkW v35 v41 (.bool false) fun v42=>rtW [.tmp v42] QF S) (pkW v35 q07 (.bool false) fun v42=>rtW [.tmp v42] QF S)
def yn8 (QF:QT) (v6 v35 v39:AV) (S:q00):Prop:=grW v39 false (yn7 QF v35 v39 v6 S) (yn7 QF v35 v39 q07 S)
def yn9 (QF:QT) (v2 v6 v34:AV) (S:q00):Prop:=grW v34 true (faW 0 v2 fun v36=>ldW S 1 false v36 fun v37=>biW .eql v37 (.int .i64 0) fun v38=>yn8 QF v6 v34 v38 S) (yn8 QF v6 v34 q07 S)
def yf8 (QF:QT) (v1 v2 v18:AV) (S:q00):Prop:=cnW v18 (rtW [.tmp (.bool false)] QF S) (faW 0 v2 fun v19=>ldW S 1 false v19 fun v20=>biW .leq v20 (.int .i64 1) fun v21=>cnW v21 (faW 1 v2 fun v22=>ldW S 1 false v22 fun v23=>caW PG S (jF 78) [v23] (fun v24 S=>faW 2 v2 fun v25=>ldW S 1 false v25 fun v26=>caW PG S (jF 78) [v26] (fun v27 S=>grW v24 true (faW 3 v2 fun v30=>ldW S 1 false v30 fun v31=>lnW S 1 v31 fun v32=>biW .eql v32 (.int .i64 0) fun v33=>pkW v24 v33 (.bool false) fun v34=>yn9 QF v2 v27 v34 S) (pkW v24 q07 (.bool false) fun v34=>yn9 QF v2 v27 v34 S)) (pqW QF)) (pqW QF)) (faW 3 v2 fun v43=>ldW S 1 false v43 fun v44=>lnW S 1 v44 fun v45=>biW .neq v45 (.int .i64 2) fun v46=>cnW v46 (rtW [.tmp (.bool false)] QF S) (faW 3 v2 fun v47=>ldW S 1 false v47 fun v48=>iaW 4 v48 (.int .i64 0) fun v49=>ldW S 4 true v49 fun v50=>biW .sub v1 (.int .i64 1) fun v52=>caW PG S (jF 210) [v50,v52] (fun v53 S=>grW v53 true (faW 3 v2 fun v55=>ldW S 1 false v55 fun v56=>iaW 4 v56 (.int .i64 1) fun v57=>ldW S 4 true v57 fun v58=>biW .sub v1 (.int .i64 1) fun v60=>caW PG S (jF 210) [v58,v60] (fun v61 S=>pkW v53 v61 (.bool false) fun v62=>rtW [.tmp v62] QF S) (pqW QF)) (pkW v53 q07 (.bool false) fun v62=>rtW [.tmp v62] QF S)) (pqW QF))))
def yf9 (QF:QT) (v1 v2 v13:AV) (S:q00):Prop:=grW v13 false (faW 0 v2 fun v15=>ldW S 1 false v15 fun v16=>biW .gtr v16 (.int .i64 4) fun v17=>pkW v13 (.bool true) v17 fun v18=>yf8 QF v1 v2 v18 S) (pkW v13 (.bool true) q07 fun v18=>yf8 QF v1 v2 v18 S)
def x20 (QF:QT) (v0 v1:AV) (S:q00):Prop:=brW 4 v0 fun v2=>biW .eql v1 (.int .i64 0) fun v8=>grW v8 false (faW 0 v2 fun v10=>ldW S 1 false v10 fun v11=>biW .lss v11 (.int .i64 0) fun v12=>pkW v8 (.bool true) v12 fun v13=>yf9 QF v1 v2 v13 S) (pkW v8 (.bool true) q07 fun v13=>yf9 QF v1 v2 v13 S)
theorem x2j (h:x20 QF v0 v1 S):ACalls PG ysa [v0,v1] S QF:=wq x2w h
def x2v:TFunc where
 n:=20
 args:=3
 res:=[.tmp 4]
 code:=js (jr [jx 3 39 3 0,jo 4 false] [1,2,3]) (js (.regl [0,1,2,3,8,10,4,5,6,7,9,11,12,13,14,15] [ia 5 2 3,il 6 1 5,i1 7 (.bin .eql (.t 6) (.c (.str ⟨#[]⟩))),im 8 7,
  .grp 8 true [s1 13 (.faddr 0 (.t 3)),s1 15 (.faddr 2 (.t 2)),s1 9 (.load 1 false (.t 1)),s1 10 (.nilck (.t 9)),s1 11 (.faddr 2 (.t 10)),s1 12 (.load 1 false (.t 11)),s1 14 (.load 2 true (.t 13)),s1 16 (.load 1 false (.t 15)),s1 17 (.build [.str ⟨#[]⟩,.str ⟨#[]⟩,.str ⟨#[]⟩] [(0,2,.t 14),(2,1,.t 16)]),s1 18 (.lookup (true,[.str,.str,.str]) false (.bool false) (.t 12) (.t 17))],jp 19 8 18,im 4 19] [4] []) jR)
abbrev ys9:Nat:=211
def xax (QF:QT) (v0 v1 v2:AV) (S:q00):Prop:=brW 3 v0 fun v3=>faW 2 v3 fun v5=>ldW S 1 false v5 fun v6=>biW .eql v6 (.str ⟨#[]⟩) fun v7=>grW v7 true (faW 0 v3 fun v13=>faW 2 v2 fun v15=>ldW S 1 false v1 fun v9=>nkW v9 fun v10=>faW 2 v10 fun v11=>ldW S 1 false v11 fun v12=>ldW S 2 true v13 fun v14=>ldW S 1 false v15 fun v16=>bdW [.str ⟨#[]⟩,.str ⟨#[]⟩,.str ⟨#[]⟩] [(0,2,v14),(2,1,v16)] fun v17=>lkW S (true,[.str,.str,.str]) false (.bool false) v12 v17 fun v18=>pkW v7 v18 (.bool false) fun v19=>rtW [.tmp v19] QF S) (pkW v7 q07 (.bool false) fun v19=>rtW [.tmp v19] QF S)
theorem xdu (h:xax QF v0 v1 v2 S):ACalls PG ys9 [v0,v1,v2] S QF:=wq x2v h
def x2u:TFunc where
 n:=32
 args:=5
 res:=[.tmp 10,.tmp 11]
 code:=js (jr [jc 10 .i64 0,jc 11 .i64 0] [0,1,2,3,4]) (js (js (.regl [0,1,2,3,5,6,7,4,8,9,10] [im 12 4,im 13 0,im 14 2,ja 15 2 13 14,im 17 0,im 18 1,ja 19 2 17 18,iL 16 2 15,iL 20 2 19,i1 21 (.call (.t 12) [.t 16,.t 20]),jb 22 .lss 21 .i64 0] [1,2,3,22] []) (jd 22 (js (jr [im 23 3,jn 24 23,il 25 1 24,jb 26 .add 25 .i64 1,jn 27 23,jS 1 27 26] [1,2]) (js (jr [im 28 2,im 29 1,im 10 28,im 11 29] [10,11]) jR)) jz)) (js (jr [im 30 1,im 31 2,im 10 30,im 11 31] [10,11]) jR))
abbrev ys8:Nat:=212
def xaw (QF:QT) (v0 v1 v2 v3 v4:AV) (S:q00):Prop:=iaW 2 v0 v2 fun v15=>iaW 2 v0 v1 fun v19=>ldW S 2 true v15 fun v16=>ldW S 2 true v19 fun v20=>caW PG S v4 [v16,v20] (fun v21 S=>biW .lss v21 (.int .i64 0) fun v22=>cnW v22 (nkW v3 fun v24=>ldW S 1 false v24 fun v25=>biW .add v25 (.int .i64 1) fun v26=>nkW v3 fun v27=>stW S 1 v27 v26 fun S=>rtW [.tmp v2,.tmp v1] QF S) (rtW [.tmp v1,.tmp v2] QF S)) (pqW QF)
theorem xdt (h:xaw QF v0 v1 v2 v3 v4 S):ACalls PG ys8 [v0,v1,v2,v3,v4] S QF:=wq x2u h
def x2t:TFunc where
 n:=8
 args:=2
 res:=[.tmp 4]
 code:=js (jr [jc 4 .i64 0] [0,1]) (js (jr [im 5 0,im 6 1,jf 7 216 [.t 5,.t 6],im 4 7] [4]) jR)
abbrev ys7:Nat:=213
def xav (QF:QT) (v0 v1:AV) (S:q00):Prop:=caW PG S (jF 216) [v0,v1] (fun v7 S=>rtW [.tmp v7] QF S) (pqW QF)
theorem xds (h:xav QF v0 v1 S):ACalls PG ys7 [v0,v1] S QF:=wq x2t h
def x2s:TFunc where
 n:=10
 args:=1
 res:=[.tmp 2]
 code:=js (jr [i1 2 (.mov (.c (.str ⟨#[]⟩)))] [0]) (js (js (jr [im 3 0] [3]) (jB 0 (js (jr [jb 5 .eql 3 .i64 2,im 4 5] [3,4]) (jd 4 (js (jr [i1 2 (.mov (.c (.str ⟨#[32,43,32]⟩)))] [2]) jR) (js (jr [jb 7 .eql 3 .i64 3,im 6 7] [3,6]) (jd 6 (js (jr [i1 2 (.mov (.c (.str ⟨#[32,38,32]⟩)))] [2]) jR) (js (jr [jb 9 .eql 3 .i64 4,im 8 9] [8]) (jd 8 (js (jr [i1 2 (.mov (.c (.str ⟨#[32,45,32]⟩)))] [2]) jR) jz)))))))) (js (jr [i1 2 (.mov (.c (.str ⟨#[]⟩)))] [2]) jR))
abbrev ys6:Nat:=214
def xau (QF:QT) (v0:AV) (S:q00):Prop:=biW .eql v0 (.int .i64 2) fun v5=>cnW v5 (rtW [.tmp (.str ⟨#[32,43,32]⟩)] QF S) (biW .eql v0 (.int .i64 3) fun v7=>cnW v7 (rtW [.tmp (.str ⟨#[32,38,32]⟩)] QF S) (biW .eql v0 (.int .i64 4) fun v9=>cnW v9 (rtW [.tmp (.str ⟨#[32,45,32]⟩)] QF S) (rtW [.tmp (.str ⟨#[]⟩)] QF S)))
theorem xdr (h:xau QF v0 S):ACalls PG ys6 [v0] S QF:=wq x2s h
def x2r:TFunc where
 n:=19
 args:=2
 res:=[.tmp 4]
 code:=js (jr [jc 4 .i64 0] [0,1]) (js (js (jr [im 6 0,jl 7 1 6,jc 8 .i64 0] [0,1,7,8]) (jB 0 (.loop [0,1,7,8] (js (jr [jt 9 .lss 8 7] [0,1,7,8,9]) (js (jd 9 jz (jE 0)) (js (jB 1 (js (jr [im 10 8,im 5 10] [0,1,5,7,8]) (js (jr [im 11 1,im 12 0,im 13 5,ja 14 2 12 13,iL 15 2 14,i1 16 (.call (.t 11) [.t 15])] [0,1,5,7,8,16]) (jd 16 (js (jr [im 17 5,im 4 17] [4]) jR) jz)))) (jr [jb 18 .add 8 .i64 1,im 8 18] [0,1,7,8]))))))) (js (jr [jc 4 .i64 (-1)] [4]) jR))
abbrev ys5:Nat:=215
def yv1 (QF:QT) (r0:RT) (v0 v1 v7 v8:AV) (S:q00):Prop:=biW .lss v8 v7 fun v9=>cnW v9 (iaW 2 v0 v8 fun v14=>ldW S 2 true v14 fun v15=>caW PG S v1 [v15] (fun v16 S=>cnW v16 (rtW [.tmp v8] QF S) (biW .add v8 (.int .i64 1) fun v18=>rcW r0 [(0,v0),(1,v1),(7,v7),(8,v18)] S)) (pqW QF)) (rtW [.tmp (.int .i64 (-1))] QF S)
def xat (QF:QT) (v0 v1:AV) (S:q00):Prop:=lnW S 1 v0 fun v7=>LoopP (fun r0 l S=>yv1 QF r0 (y00 l 0) (y00 l 1) (y00 l 7) (y00 l 8) S) [(0,v0),(1,v1),(7,v7),(8,(.int .i64 0))] S
theorem xdq (h:xat QF v0 v1 S):ACalls PG ys5 [v0,v1] S QF:=wq x2r h
end Go.HL
