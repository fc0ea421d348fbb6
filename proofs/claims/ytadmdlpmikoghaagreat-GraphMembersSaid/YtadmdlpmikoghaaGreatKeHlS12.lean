/- A part of a proof. -/
import Derived.Test.YtadmdlpmikoghaaGreatKeHlP
set_option maxRecDepth 100000
set_option linter.unusedVariables false
namespace Go.HL
variable {QF:QT} {S:q00} {v0 v1 v2 v3 v4 v5 v6 v7 v8:AV}
def x3x:TFunc where
 n:=37
 args:=1
 res:=[.cell 2 4 true]
 code:=js (.reg [i1 2 (.alloc 51 [.int .i64 0,.str ⟨#[]⟩,.str ⟨#[]⟩,.nils])] [0,2] []) (js (.reg [im 6 0,jf 7 203 [.t 6],i1 3 (.alloc 51 [.int .i64 0,.str ⟨#[]⟩,.str ⟨#[]⟩,.nils]),jS 4 3 7] [0,2,3] []) (js (jB 0 (.loop [0,2,3] (js (js (.reg [im 8 0,jn 9 8,ia 10 3 9,ia 11 2 10,il 12 1 11,jb 13 .eql 12 .i64 0,im 14 13,
  .grp 14 true [s1 15 (.mov (.t 0)),s1 16 (.call (.f 87) [.t 15]),s1 17 (.field 0 1 false (.t 16)),s1 18 (.bin .eql (.t 17) (.c (.str ⟨#[38]⟩)))],jp 19 14 18] [0,2,3,19] []) (jd 19 jz (jE 0))) (jB 1 (js (.reg [im 20 0,jf 21 87 [.t 20],
  .box2 4 149 [.str ⟨#[]⟩,.int .i64 0,.int .i64 0] 3 (.t 21)] [0,2,3,4] []) (js (jr [im 22 0,jn 23 22,ia 24 1 23,il 25 1 24,jb 26 .add 25 .i64 1,jn 27 22,ia 28 1 27,jS 1 28 26] [0,2,3,4]) (js (.reg [im 29 0,jf 30 203 [.t 29],
  .box2 5 51 [.int .i64 0,.str ⟨#[]⟩,.str ⟨#[]⟩,.nils] 4 (.t 30)] [0,2,3,4,5] []) (jr [im 31 0,iL 32 3 4,iL 33 4 3,iL 34 4 5,jf 35 172 [.t 31,.c (.int .i64 3),.t 32,.t 33,.t 34],jS 4 3 35] [0,2,3])))))))) (js (.reg [iL 36 4 3,jS 4 2 36] [2] [2]) jR)))
abbrev yt7:Nat:=171
def y9z (QF:QT) (r0:RT) (v0 v2 v3 v19:AV) (S:q00):Prop:=cnW v19 (caW PG S (jF 87) [v0] (fun v21 S=>bfW 3 v21 fun v4=>nkW v0 fun v23=>faW 1 v23 fun v24=>ldW S 1 false v24 fun v25=>biW .add v25 (.int .i64 1) fun v26=>nkW v0 fun v27=>faW 1 v27 fun v28=>stW S 1 v28 v26 fun S=>caW PG S (jF 203) [v0] (fun v30 S=>bfW 4 v30 fun v5=>ldW S 3 true v4 fun v32=>ldW S 4 true v3 fun v33=>ldW S 4 true v5 fun v34=>caW PG S (jF 172) [v0,(.int .i64 3),v32,v33,v34] (fun v35 S=>stW S 4 v3 v35 fun S=>rcW r0 [(0,v0),(2,v2),(3,v3)] S) (pqW QF)) (pqW QF)) (pqW QF)) (ldW S 4 true v3 fun v36=>stW S 4 v2 v36 fun S=>fzW S v2 fun v2 S=>rtW [.cell v2 4 true] QF S)
def yve (QF:QT) (r0:RT) (v0 v2 v3:AV) (S:q00):Prop:=nkW v0 fun v9=>faW 3 v9 fun v10=>faW 2 v10 fun v11=>ldW S 1 false v11 fun v12=>biW .eql v12 (.int .i64 0) fun v13=>grW v13 true (caW PG S (jF 87) [v0] (fun v16 S=>fdW 0 1 false v16 fun v17=>biW .eql v17 (.str ⟨#[38]⟩) fun v18=>pkW v13 v18 (.bool false) fun v19=>y9z QF r0 v0 v2 v3 v19 S) (pqW QF)) (pkW v13 q07 (.bool false) fun v19=>y9z QF r0 v0 v2 v3 v19 S)
def xbw (QF:QT) (v0:AV) (S:q00):Prop:=alW S 51 [.int .i64 0,.str ⟨#[]⟩,.str ⟨#[]⟩,.nils] fun v2 S=>caW PG S (jF 203) [v0] (fun v7 S=>alW S 51 [.int .i64 0,.str ⟨#[]⟩,.str ⟨#[]⟩,.nils] fun v3 S=>stW S 4 v3 v7 fun S=>LoopP (fun r0 l S=>yve QF r0 (y00 l 0) (y00 l 2) (y00 l 3) S) [(0,v0),(2,v2),(3,v3)] S) (pqW QF)
theorem xet (h:xbw QF v0 S):ACalls PG yt7 [v0] S QF:=wq x3x h
def x3w:TFunc where
 n:=32
 args:=5
 res:=[.cell 10 4 true]
 code:=js (.reg [jx 7 149 3 2,jx 8 51 4 3,jx 9 51 4 4,i1 10 (.alloc 51 [.int .i64 0,.str ⟨#[]⟩,.str ⟨#[]⟩,.nils])] [0,1,7,8,9,10] []) (js (.reg [im 12 1,iL 13 4 8,iL 14 4 9,i1 15 (.bslicr 51 4 [.t 13,.t 14]),i1 16 (.build [.int .i64 0,.str ⟨#[]⟩,.str ⟨#[]⟩,.nils] [(0,1,.t 12),(3,1,.t 15)]),
  .box2 11 51 [.int .i64 0,.str ⟨#[]⟩,.str ⟨#[]⟩,.nils] 4 (.t 16)] [0,7,10,11] []) (js (js (.reg [im 17 0,jn 18 17,ia 19 3 18,ia 20 2 19,il 21 1 20,jb 22 .eql 21 .i64 0,im 23 22,
  .grp 23 true [s1 24 (.load 4 true (.t 11)),s1 25 (.call (.f 204) [.t 24]),s1 26 (.bin .gtr (.t 25) (.c (.int .i64 12)))],jp 27 23 26] [0,7,10,11,27] []) (jd 27 (jr [im 28 0,iL 29 3 7,jf 30 88 [.t 28,.t 29,.c (.int .i64 9)]] [10,11]) jz)) (js (.reg [iL 31 4 11,jS 4 10 31] [10] [10]) jR)))
abbrev yt6:Nat:=172
def yfk (QF:QT) (v10 v11:AV) (S:q00):Prop:=ldW S 4 true v11 fun v31=>stW S 4 v10 v31 fun S=>fzW S v10 fun v10 S=>rtW [.cell v10 4 true] QF S
def yfl (QF:QT) (v0 v7 v10 v11 v27:AV) (S:q00):Prop:=cnW v27 (ldW S 3 true v7 fun v29=>caW PG S (jF 88) [v0,v29,(.int .i64 9)] (fun v30 S=>yfk QF v10 v11 S) (pqW QF)) (yfk QF v10 v11 S)
def xbv (QF:QT) (v0 v1 v2 v3 v4:AV) (S:q00):Prop:=brW 3 v2 fun v7=>brW 4 v3 fun v8=>brW 4 v4 fun v9=>alW S 51 [.int .i64 0,.str ⟨#[]⟩,.str ⟨#[]⟩,.nils] fun v10 S=>ldW S 4 true v8 fun v13=>ldW S 4 true v9 fun v14=>srW 4 [v13,v14] fun v15=>bdW [.int .i64 0,.str ⟨#[]⟩,.str ⟨#[]⟩,.nils] [(0,1,v1),(3,1,v15)] fun v16=>bfW 4 v16 fun v11=>nkW v0 fun v18=>faW 3 v18 fun v19=>faW 2 v19 fun v20=>ldW S 1 false v20 fun v21=>biW .eql v21 (.int .i64 0) fun v22=>grW v22 true (ldW S 4 true v11 fun v24=>caW PG S (jF 204) [v24] (fun v25 S=>biW .gtr v25 (.int .i64 12) fun v26=>pkW v22 v26 (.bool false) fun v27=>yfl QF v0 v7 v10 v11 v27 S) (pqW QF)) (pkW v22 q07 (.bool false) fun v27=>yfl QF v0 v7 v10 v11 v27 S)
theorem xes (h:xbv QF v0 v1 v2 v3 v4 S):ACalls PG yt6 [v0,v1,v2,v3,v4] S QF:=wq x3w h
def x3v:TFunc where
 n:=9
 args:=2
 res:=[.tmp 4]
 code:=js (jr [jo 4 false] [0,1]) (js (jr [im 5 0,im 6 1,jf 7 205 [.t 5,.t 6],jb 8 .geq 7 .i64 0,im 4 8] [4]) jR)
abbrev yt5:Nat:=173
def xbu (QF:QT) (v0 v1:AV) (S:q00):Prop:=caW PG S (jF 205) [v0,v1] (fun v7 S=>biW .geq v7 (.int .i64 0) fun v8=>rtW [.tmp v8] QF S) (pqW QF)
theorem xer (h:xbu QF v0 v1 S):ACalls PG yt5 [v0,v1] S QF:=wq x3v h
def x3u:TFunc where
 n:=6
 args:=1
 res:=[.tmp 2]
 code:=js (jr [jx 1 53 6 0,jo 2 false] [1]) (js (jr [iL 3 6 1,jf 4 175 [.t 3],jk 5 4,im 2 5] [2]) jR)
abbrev yt4:Nat:=174
def xbt (QF:QT) (v0:AV) (S:q00):Prop:=brW 6 v0 fun v1=>ldW S 6 true v1 fun v3=>caW PG S (jF 175) [v3] (fun v4 S=>ntW v4 fun v5=>rtW [.tmp v5] QF S) (pqW QF)
theorem xeq (h:xbt QF v0 S):ACalls PG yt4 [v0] S QF:=wq x3u h
def x3t:TFunc where
 n:=24
 args:=1
 res:=[.tmp 2]
 code:=js (jr [jx 1 53 6 0,jo 2 false] [1]) (js (js (jr [ia 3 1 1,il 4 1 3,jl 5 1 4,jb 6 .eql 5 .i64 0] [1,6]) (jd 6 (js (.reg [ia 7 0 1,il 8 1 7,jf 9 144 [.t 8],im 10 9,
  .grp 10 true [s1 11 (.faddr 2 (.t 1)),s1 12 (.load 4 true (.t 11)),s1 13 (.call (.f 206) [.t 12,.c (.int .i64 12)])],jp 14 10 13,im 2 14] [2] []) jR) jz)) (js (.reg [ia 15 0 1,il 16 1 15,jf 17 144 [.t 16],im 18 17,
  .grp 18 true [s1 19 (.faddr 1 (.t 1)),s1 20 (.load 1 false (.t 19)),s1 21 (.call (.f 207) [.t 20,.f 208]),s1 22 (.not (.t 21))],jp 23 18 22,im 2 23] [2] []) jR))
abbrev yt3:Nat:=175
def xbs (QF:QT) (v0:AV) (S:q00):Prop:=brW 6 v0 fun v1=>faW 1 v1 fun v3=>ldW S 1 false v3 fun v4=>lnW S 1 v4 fun v5=>biW .eql v5 (.int .i64 0) fun v6=>cnW v6 (faW 0 v1 fun v7=>ldW S 1 false v7 fun v8=>caW PG S (jF 144) [v8] (fun v9 S=>grW v9 true (faW 2 v1 fun v11=>ldW S 4 true v11 fun v12=>caW PG S (jF 206) [v12,(.int .i64 12)] (fun v13 S=>pkW v9 v13 (.bool false) fun v14=>rtW [.tmp v14] QF S) (pqW QF)) (pkW v9 q07 (.bool false) fun v14=>rtW [.tmp v14] QF S)) (pqW QF)) (faW 0 v1 fun v15=>ldW S 1 false v15 fun v16=>caW PG S (jF 144) [v16] (fun v17 S=>grW v17 true (faW 1 v1 fun v19=>ldW S 1 false v19 fun v20=>caW PG S (jF 207) [v20,(jF 208)] (fun v21 S=>ntW v21 fun v22=>pkW v17 v22 (.bool false) fun v23=>rtW [.tmp v23] QF S) (pqW QF)) (pkW v17 q07 (.bool false) fun v23=>rtW [.tmp v23] QF S)) (pqW QF))
theorem xep (h:xbs QF v0 S):ACalls PG yt3 [v0] S QF:=wq x3t h
def x3s:TFunc where
 n:=42
 args:=3
 res:=[.tmp 6]
 code:=js (jr [jx 3 51 4 0,jo 6 false] [1,2,3]) (js (js (jr [ia 9 3 3,il 10 1 9,jl 11 1 10,jc 12 .i64 0] [1,2,3,10,11,12]) (jB 0 (.loop [1,2,3,10,11,12] (js (jr [jt 13 .lss 12 11] [1,2,3,10,11,12,13]) (js (jd 13 jz (jE 0)) (js (jB 1 (js (.reg [im 14 12,ja 15 4 10 12,iL 16 4 15,i1 8 (.alloc 51 [.int .i64 0,.str ⟨#[]⟩,.str ⟨#[]⟩,.nils]),im 7 14,jS 4 8 16] [1,2,3,7,8,10,11,12] [8]) (js (jr [iL 17 4 8,im 18 1,im 19 18,
  .grp 19 false [s1 20 (.faddr 0 (.t 3)),s1 21 (.load 1 false (.t 20)),s1 22 (.bin .eql (.t 21) (.c (.int .i64 4))),s1 23 (.mov (.t 22))],
  .grp 23 true [s1 24 (.mov (.t 7)),s1 25 (.bin .eql (.t 24) (.c (.int .i64 1)))],
  .grp 19 false [s1 26 (.pick (.t 23) (.t 25) (.c (.bool false)))],jq 27 19 26,im 28 2,jf 29 176 [.t 17,.t 27,.t 28],jk 30 29] [1,2,3,10,11,12,30]) (jd 30 (js (jr [jo 6 false] [6]) jR) jz)))) (jr [jb 31 .add 12 .i64 1,im 12 31] [1,2,3,10,11,12]))))))) (js (.reg [ia 32 3 3,il 33 1 32,jl 34 1 33,jb 35 .gtr 34 .i64 0,im 36 35,
  .grp 36 false [s1 37 (.mov (.t 2)),s1 38 (.load 4 true (.t 3)),s1 39 (.mov (.t 1)),s1 40 (.call (.t 37) [.t 38,.t 39])],jq 41 36 40,im 6 41] [6] []) jR))
abbrev yt2:Nat:=176
def yfj (QF:QT) (r0:RT) (v1 v2 v3 v10 v11 v12 v17 v27:AV) (S:q00):Prop:=caW PG S (jF 176) [v17,v27,v2] (fun v29 S=>ntW v29 fun v30=>cnW v30 (rtW [.tmp (.bool false)] QF S) (biW .add v12 (.int .i64 1) fun v31=>rcW r0 [(1,v1),(2,v2),(3,v3),(10,v10),(11,v11),(12,v31)] S)) (pqW QF)
def yni (QF:QT) (r0:RT) (v1 v2 v3 v10 v11 v12 v17 v19 v23 v25:AV) (S:q00):Prop:=grW v19 false (pkW v23 v25 (.bool false) fun v26=>pkW v19 (.bool true) v26 fun v27=>yfj QF r0 v1 v2 v3 v10 v11 v12 v17 v27 S) (pkW v19 (.bool true) q07 fun v27=>yfj QF r0 v1 v2 v3 v10 v11 v12 v17 v27 S)
def ynj (QF:QT) (r0:RT) (v1 v2 v3 v7 v10 v11 v12 v17 v19 v23:AV) (S:q00):Prop:=grW v23 true (biW .eql v7 (.int .i64 1) fun v25=>yni QF r0 v1 v2 v3 v10 v11 v12 v17 v19 v23 v25 S) (yni QF r0 v1 v2 v3 v10 v11 v12 v17 v19 v23 q07 S)
def ynk (QF:QT) (r0:RT) (v1 v2 v3 v10 v11 v12:AV) (S:q00):Prop:=biW .lss v12 v11 fun v13=>cnW v13 (iaW 4 v10 v12 fun v15=>ldW S 4 true v15 fun v16=>alW S 51 [.int .i64 0,.str ⟨#[]⟩,.str ⟨#[]⟩,.nils] fun v8 S=>stW S 4 v8 v16 fun S=>fzW S v8 fun v8 S=>ldW S 4 true v8 fun v17=>grW v1 false (faW 0 v3 fun v20=>ldW S 1 false v20 fun v21=>biW .eql v21 (.int .i64 4) fun v22=>ynj QF r0 v1 v2 v3 v12 v10 v11 v12 v17 v1 v22 S) (ynj QF r0 v1 v2 v3 v12 v10 v11 v12 v17 v1 q07 S)) (faW 3 v3 fun v32=>ldW S 1 false v32 fun v33=>lnW S 1 v33 fun v34=>biW .gtr v34 (.int .i64 0) fun v35=>grW v35 false (ldW S 4 true v3 fun v38=>caW PG S v2 [v38,v1] (fun v40 S=>pkW v35 (.bool true) v40 fun v41=>rtW [.tmp v41] QF S) (pqW QF)) (pkW v35 (.bool true) q07 fun v41=>rtW [.tmp v41] QF S))
def xbr (QF:QT) (v0 v1 v2:AV) (S:q00):Prop:=brW 4 v0 fun v3=>faW 3 v3 fun v9=>ldW S 1 false v9 fun v10=>lnW S 1 v10 fun v11=>LoopP (fun r0 l S=>ynk QF r0 (y00 l 1) (y00 l 2) (y00 l 3) (y00 l 10) (y00 l 11) (y00 l 12) S) [(1,v1),(2,v2),(3,v3),(10,v10),(11,v11),(12,(.int .i64 0))] S
theorem xeo (h:xbr QF v0 v1 v2 S):ACalls PG yt2 [v0,v1,v2] S QF:=wq x3s h
def x3r:TFunc where
 n:=14
 args:=5
 res:=[.tmp 7]
 code:=js (jr [jx 5 51 4 0,jo 7 false] [2,3,4,5]) (js (jr [il 8 1 2,il 9 1 3,iL 10 4 5,jf 11 178 [.t 8,.t 9,.t 10],jS 1 4 11] [4]) (js (jr [il 12 1 4,jb 13 .eql 12 .i64 0,im 7 13] [7]) jR))
abbrev yjr:Nat:=177
def xbq (QF:QT) (v0 v1 v2 v3 v4:AV) (S:q00):Prop:=brW 4 v0 fun v5=>ldW S 1 false v2 fun v8=>ldW S 1 false v3 fun v9=>ldW S 4 true v5 fun v10=>caW PG S (jF 178) [v8,v9,v10] (fun v11 S=>stW S 1 v4 v11 fun S=>ldW S 1 false v4 fun v12=>biW .eql v12 (.int .i64 0) fun v13=>rtW [.tmp v13] QF S) (pqW QF)
theorem xen (h:xbq QF v0 v1 v2 v3 v4 S):ACalls PG yjr [v0,v1,v2,v3,v4] S QF:=wq x3r h
def x3q:TFunc where
 n:=41
 args:=3
 res:=[.tmp 6]
 code:=js (jr [jx 5 51 4 2,jc 6 .i64 0] [0,1,5]) (js (jr [im 10 0,im 11 1,ia 12 1 5,il 13 1 12,jf 14 96 [.t 10,.t 11,.t 13],im 9 14,je 15 9 0,je 16 9 1,
  .box2 7 163 [.int .i64 0,.int .i64 0] 2 (.t 15),im 8 16] [0,5,7,8]) (js (jB 0 (js (jr [im 18 8,jk 19 18,im 17 19] [0,5,7,17]) (jd 17 (js (jr [jc 6 .i64 6] [6]) jR) (js (jr [ia 21 0 5,il 22 1 21,jb 23 .eql 22 .i64 0,im 20 23] [0,5,7,20]) (jd 20 (js (jr [jc 6 .i64 0] [6]) jR) (js (jr [im 25 0,iL 26 2 7,jf 27 97 [.t 25,.t 26],i1 28 (.field 1 1 false (.t 27)),jl 29 1 28,jb 30 .eql 29 .i64 0,im 24 30] [0,5,7,24]) (jd 24 (js (jr [jc 6 .i64 10] [6]) jR) (js (.regl [0,1,4,2,5,3,6,7,8,9] [im 32 0,im 33 0,ia 36 2 5,iL 34 2 7,il 37 1 36,
  .one { d:=some 35,o:=.call (.f 97) [.t 33,.t 34],x:=[36] },jf 38 180 [.t 32,.t 35,.t 37],jl 39 1 38,jb 40 .eql 39 .i64 0,im 31 40] [31] []) (jd 31 (js (jr [jc 6 .i64 6] [6]) jR) jz))))))))) (js (jr [jc 6 .i64 0] [6]) jR)))
abbrev yt1:Nat:=178
def xbp (QF:QT) (v0 v1 v2:AV) (S:q00):Prop:=brW 4 v2 fun v5=>faW 1 v5 fun v12=>ldW S 1 false v12 fun v13=>caW PG S (jF 96) [v0,v1,v13] (fun v14 S=>exW 0 v14 fun v15=>exW 1 v14 fun v16=>bfW 2 v15 fun v7=>ntW v16 fun v19=>cnW v19 (rtW [.tmp (.int .i64 6)] QF S) (faW 0 v5 fun v21=>ldW S 1 false v21 fun v22=>biW .eql v22 (.int .i64 0) fun v23=>cnW v23 (rtW [.tmp (.int .i64 0)] QF S) (ldW S 2 true v7 fun v26=>caW PG S (jF 97) [v0,v26] (fun v27 S=>fdW 1 1 false v27 fun v28=>lnW S 1 v28 fun v29=>biW .eql v29 (.int .i64 0) fun v30=>cnW v30 (rtW [.tmp (.int .i64 10)] QF S) (faW 2 v5 fun v36=>ldW S 2 true v7 fun v34=>ldW S 1 false v36 fun v37=>caW PG S (jF 97) [v0,v34] (fun v35 S1=>kpW [v36] S S1 ( caW PG S1 (jF 180) [v0,v35,v37] (fun v38 S=>lnW S 1 v38 fun v39=>biW .eql v39 (.int .i64 0) fun v40=>cnW v40 (rtW [.tmp (.int .i64 6)] QF S) (rtW [.tmp (.int .i64 0)] QF S)) (pqW QF))) (pqW QF))) (pqW QF)))) (pqW QF)
theorem xem (h:xbp QF v0 v1 v2 S):ACalls PG yt1 [v0,v1,v2] S QF:=wq x3q h
def x3p:TFunc where
 n:=49
 args:=5
 res:=[.tmp 7]
 code:=js (jr [jx 5 51 4 0,jo 7 false] [1,2,3,4,5]) (js (jr [il 13 1 2,ia 14 0 3,il 15 1 14,ia 16 1 5,il 17 1 16,jf 18 96 [.t 13,.t 15,.t 17],im 12 18,je 19 12 0,je 20 12 1,
  .box2 8 163 [.int .i64 0,.int .i64 0] 2 (.t 19),im 9 20] [1,2,4,5,8]) (js (jr [il 21 1 4,iL 22 2 8,im 23 1,i1 24 (.build [.int .i64 0,.int .i64 0,.bool false] [(0,2,.t 22),(2,1,.t 23)]),i1 25 (.bslicr 227 3 [.t 24]),i1 26 (.app 227 3 24 (.t 21) (.t 25)),jS 1 4 26] [1,2,4,5,8]) (js (js (jr [ia 27 0 5,il 28 1 27,jb 29 .eql 28 .i64 1] [1,2,4,5,8,29]) (jd 29 (js (.regl [4,8,0,1,2,5,3,6,7] [ia 34 2 5,jc 38 .i64 0,il 30 1 2,il 31 1 2,iL 32 2 8,il 35 1 34,
  .one { d:=some 33,o:=.call (.f 97) [.t 31,.t 32],x:=[2,34] },jf 36 180 [.t 30,.t 33,.t 35],jl 37 1 36] [1,4,36,37,38] []) (jB 0 (.loop [1,4,36,37,38] (js (jr [jt 39 .lss 38 37] [1,4,36,37,38,39]) (js (jd 39 jz (jE 0)) (js (jB 1 (js (jr [ja 40 2 36 38,iL 41 2 40,
  .box2 11 163 [.int .i64 0,.int .i64 0] 2 (.t 41)] [1,4,11,36,37,38]) (jr [il 42 1 4,iL 43 2 11,im 44 1,i1 45 (.build [.int .i64 0,.int .i64 0,.bool false] [(0,2,.t 43),(2,1,.t 44)]),i1 46 (.bslicr 227 3 [.t 45]),i1 47 (.app 227 3 24 (.t 42) (.t 46)),jS 1 4 47] [1,4,36,37,38]))) (jr [jb 48 .add 38 .i64 1,im 38 48] [1,4,36,37,38]))))))) jz)) (js (jr [jo 7 true] [7]) jR))))
abbrev yjq:Nat:=179
def yvd (QF:QT) (r0:RT) (v1 v4 v36 v37 v38:AV) (S:q00):Prop:=biW .lss v38 v37 fun v39=>cnW v39 (iaW 2 v36 v38 fun v40=>ldW S 2 true v40 fun v41=>bfW 2 v41 fun v11=>ldW S 1 false v4 fun v42=>ldW S 2 true v11 fun v43=>bdW [.int .i64 0,.int .i64 0,.bool false] [(0,2,v43),(2,1,v1)] fun v45=>srW 3 [v45] fun v46=>apW S 227 3 24 v42 v46 fun v47 S=>stW S 1 v4 v47 fun S=>biW .add v38 (.int .i64 1) fun v48=>rcW r0 [(1,v1),(4,v4),(36,v36),(37,v37),(38,v48)] S) (rtW [.tmp (.bool true)] QF S)
def xbo (QF:QT) (v0 v1 v2 v3 v4:AV) (S:q00):Prop:=brW 4 v0 fun v5=>ldW S 1 false v2 fun v13=>faW 0 v3 fun v14=>ldW S 1 false v14 fun v15=>faW 1 v5 fun v16=>ldW S 1 false v16 fun v17=>caW PG S (jF 96) [v13,v15,v17] (fun v18 S=>exW 0 v18 fun v19=>exW 1 v18 fun v20=>bfW 2 v19 fun v8=>ldW S 1 false v4 fun v21=>ldW S 2 true v8 fun v22=>bdW [.int .i64 0,.int .i64 0,.bool false] [(0,2,v22),(2,1,v1)] fun v24=>srW 3 [v24] fun v25=>apW S 227 3 24 v21 v25 fun v26 S=>stW S 1 v4 v26 fun S=>faW 0 v5 fun v27=>ldW S 1 false v27 fun v28=>biW .eql v28 (.int .i64 1) fun v29=>cnW v29 (faW 2 v5 fun v34=>ldW S 1 false v2 fun v30=>ldW S 1 false v2 fun v31=>ldW S 2 true v8 fun v32=>ldW S 1 false v34 fun v35=>caW PG S (jF 97) [v31,v32] (fun v33 S1=>kpW [v2,v34] S S1 ( caW PG S1 (jF 180) [v30,v33,v35] (fun v36 S=>lnW S 1 v36 fun v37=>LoopP (fun r0 l S=>yvd QF r0 (y00 l 1) (y00 l 4) (y00 l 36) (y00 l 37) (y00 l 38) S) [(1,v1),(4,v4),(36,v36),(37,v37),(38,(.int .i64 0))] S) (pqW QF))) (pqW QF)) (rtW [.tmp (.bool true)] QF S)) (pqW QF)
theorem xel (h:xbo QF v0 v1 v2 v3 v4 S):ACalls PG yjq [v0,v1,v2,v3,v4] S QF:=wq x3p h
def x3o:TFunc where
 n:=39
 args:=3
 res:=[.tmp 6]
 code:=js (jr [jx 4 53 6 1,i1 6 (.mov (.c (.nils)))] [0,2,4]) (js (jr [i1 7 (.mov (.c (.nils)))] [0,2,4,7]) (js (js (jr [ia 12 1 4,il 13 1 12,jl 14 1 13,jc 15 .i64 0] [0,2,7,13,14,15]) (jB 0 (.loop [0,2,7,13,14,15] (js (jr [jt 16 .lss 15 14] [0,2,7,13,14,15,16]) (js (jd 16 jz (jE 0)) (js (jB 1 (js (.reg [ja 17 2 13 15,iL 18 2 17,
  .box2 9 171 [.str ⟨#[]⟩,.str ⟨#[]⟩] 2 (.t 18)] [0,2,7,9,13,14,15] []) (js (jr [im 20 0,ia 21 0 9,il 22 1 21,im 23 2,jf 24 96 [.t 20,.t 22,.t 23],im 19 24,je 25 19 0,je 26 19 1,
  .box2 10 163 [.int .i64 0,.int .i64 0] 2 (.t 25),im 11 26] [0,2,7,9,10,11,13,14,15]) (js (.reg [im 27 11,im 28 27,
  .grp 28 true [s1 29 (.faddr 1 (.t 9)),s1 30 (.load 1 false (.t 29)),s1 31 (.bin .eql (.t 30) (.c (.str ⟨#[]⟩)))],jp 32 28 31] [0,2,7,10,13,14,15,32] []) (jd 32 (jr [im 33 7,iL 34 2 10,i1 35 (.bslicr 163 2 [.t 34]),i1 36 (.app 163 2 16 (.t 33) (.t 35)),im 7 36] [0,2,7,13,14,15]) jz))))) (jr [jb 37 .add 15 .i64 1,im 15 37] [0,2,7,13,14,15]))))))) (js (jr [im 38 7,im 6 38] [6]) jR)))
abbrev yt0:Nat:=180
def yfi (QF:QT) (r0:RT) (v0 v2 v7 v10 v13 v14 v15 v32:AV) (S:q00):Prop:=cnW v32 (ldW S 2 true v10 fun v34=>srW 2 [v34] fun v35=>apW S 163 2 16 v7 v35 fun v36 S=>biW .add v15 (.int .i64 1) fun v37=>rcW r0 [(0,v0),(2,v2),(7,v36),(13,v13),(14,v14),(15,v37)] S) (biW .add v15 (.int .i64 1) fun v37=>rcW r0 [(0,v0),(2,v2),(7,v7),(13,v13),(14,v14),(15,v37)] S)
def yvc (QF:QT) (r0:RT) (v0 v2 v7 v13 v14 v15:AV) (S:q00):Prop:=biW .lss v15 v14 fun v16=>cnW v16 (iaW 2 v13 v15 fun v17=>ldW S 2 true v17 fun v18=>bfW 2 v18 fun v9=>faW 0 v9 fun v21=>ldW S 1 false v21 fun v22=>caW PG S (jF 96) [v0,v22,v2] (fun v24 S=>exW 0 v24 fun v25=>exW 1 v24 fun v26=>bfW 2 v25 fun v10=>grW v26 true (faW 1 v9 fun v29=>ldW S 1 false v29 fun v30=>biW .eql v30 (.str ⟨#[]⟩) fun v31=>pkW v26 v31 (.bool false) fun v32=>yfi QF r0 v0 v2 v7 v10 v13 v14 v15 v32 S) (pkW v26 q07 (.bool false) fun v32=>yfi QF r0 v0 v2 v7 v10 v13 v14 v15 v32 S)) (pqW QF)) (rtW [.tmp v7] QF S)
def xbn (QF:QT) (v0 v1 v2:AV) (S:q00):Prop:=brW 6 v1 fun v4=>faW 1 v4 fun v12=>ldW S 1 false v12 fun v13=>lnW S 1 v13 fun v14=>LoopP (fun r0 l S=>yvc QF r0 (y00 l 0) (y00 l 2) (y00 l 7) (y00 l 13) (y00 l 14) (y00 l 15) S) [(0,v0),(2,v2),(7,(.nils)),(13,v13),(14,v14),(15,(.int .i64 0))] S
theorem xek (h:xbn QF v0 v1 v2 S):ACalls PG yt0 [v0,v1,v2] S QF:=wq x3o h
def x3n:TFunc where
 n:=29
 args:=3
 res:=[.tmp 6]
 code:=js (jr [jo 6 false] [0,1,2]) (js (js (jr [im 8 0,jl 9 0 8,jc 10 .i64 0] [0,1,2,9,10]) (jB 0 (.loop [0,1,2,9,10] (js (jr [jt 11 .lss 10 9] [0,1,2,9,10,11]) (js (jd 11 jz (jE 0)) (js (jB 1 (js (jr [im 12 10,im 7 12] [0,1,2,7,9,10]) (js (jr [im 13 2,im 14 0,im 15 7,i1 16 (.idxs (.t 14) (.t 15)),i1 17 (.call (.t 13) [.t 16]),jk 18 17] [0,1,2,9,10,18]) (jd 18 (js (jr [jo 6 false] [6]) jR) jz)))) (jr [jb 19 .add 10 .i64 1,im 10 19] [0,1,2,9,10]))))))) (js (jr [im 20 0,jl 21 0 20,jb 22 .gtr 21 .i64 0,im 23 22,
  .grp 23 true [s1 24 (.mov (.t 0)),s1 25 (.len 0 (.t 24)),s1 26 (.mov (.t 1)),s1 27 (.bin .leq (.t 25) (.t 26))],jp 28 23 27,im 6 28] [6]) jR))
abbrev ysz:Nat:=181
def yvb (QF:QT) (r0:RT) (v0 v1 v2 v9 v10:AV) (S:q00):Prop:=biW .lss v10 v9 fun v11=>cnW v11 (isW v0 v10 fun v16=>caW PG S v2 [v16] (fun v17 S=>ntW v17 fun v18=>cnW v18 (rtW [.tmp (.bool false)] QF S) (biW .add v10 (.int .i64 1) fun v19=>rcW r0 [(0,v0),(1,v1),(2,v2),(9,v9),(10,v19)] S)) (pqW QF)) (lnW S 0 v0 fun v21=>biW .gtr v21 (.int .i64 0) fun v22=>grW v22 true (lnW S 0 v0 fun v25=>biW .leq v25 v1 fun v27=>pkW v22 v27 (.bool false) fun v28=>rtW [.tmp v28] QF S) (pkW v22 q07 (.bool false) fun v28=>rtW [.tmp v28] QF S))
def xbm (QF:QT) (v0 v1 v2:AV) (S:q00):Prop:=lnW S 0 v0 fun v9=>LoopP (fun r0 l S=>yvb QF r0 (y00 l 0) (y00 l 1) (y00 l 2) (y00 l 9) (y00 l 10) S) [(0,v0),(1,v1),(2,v2),(9,v9),(10,(.int .i64 0))] S
theorem xej (h:xbm QF v0 v1 v2 S):ACalls PG ysz [v0,v1,v2] S QF:=wq x3n h
def x3m:TFunc where
 n:=13
 args:=1
 res:=[.tmp 2]
 code:=js (jr [jo 2 false] [0]) (js (.reg [im 3 0,jf 4 183 [.t 3],im 5 4,
  .grp 5 false [s1 6 (.mov (.t 0)),s1 7 (.call (.f 184) [.t 6])],jq 8 5 7,im 9 8,
  .grp 9 false [s1 10 (.mov (.t 0)),s1 11 (.bin .eql (.t 10) (.c (.int .u8 95)))],jq 12 9 11,im 2 12] [2] []) jR)
abbrev ysy:Nat:=182
def yfh (QF:QT) (v0 v8:AV) (S:q00):Prop:=grW v8 false (biW .eql v0 (.int .u8 95) fun v11=>pkW v8 (.bool true) v11 fun v12=>rtW [.tmp v12] QF S) (pkW v8 (.bool true) q07 fun v12=>rtW [.tmp v12] QF S)
def xbl (QF:QT) (v0:AV) (S:q00):Prop:=caW PG S (jF 183) [v0] (fun v4 S=>grW v4 false (caW PG S (jF 184) [v0] (fun v7 S=>pkW v4 (.bool true) v7 fun v8=>yfh QF v0 v8 S) (pqW QF)) (pkW v4 (.bool true) q07 fun v8=>yfh QF v0 v8 S)) (pqW QF)
theorem xei (h:xbl QF v0 S):ACalls PG ysy [v0] S QF:=wq x3m h
def x3l:TFunc where
 n:=9
 args:=1
 res:=[.tmp 2]
 code:=js (jr [jo 2 false] [0]) (js (jr [im 3 0,jb 4 .geq 3 .u8 97,im 5 4,
  .grp 5 true [s1 6 (.mov (.t 0)),s1 7 (.bin .leq (.t 6) (.c (.int .u8 122)))],jp 8 5 7,im 2 8] [2]) jR)
abbrev ysx:Nat:=183
def xbk (QF:QT) (v0:AV) (S:q00):Prop:=biW .geq v0 (.int .u8 97) fun v4=>grW v4 true (biW .leq v0 (.int .u8 122) fun v7=>pkW v4 v7 (.bool false) fun v8=>rtW [.tmp v8] QF S) (pkW v4 q07 (.bool false) fun v8=>rtW [.tmp v8] QF S)
theorem xeh (h:xbk QF v0 S):ACalls PG ysx [v0] S QF:=wq x3l h
def x3k:TFunc where
 n:=9
 args:=1
 res:=[.tmp 2]
 code:=js (jr [jo 2 false] [0]) (js (jr [im 3 0,jb 4 .geq 3 .u8 48,im 5 4,
  .grp 5 true [s1 6 (.mov (.t 0)),s1 7 (.bin .leq (.t 6) (.c (.int .u8 57)))],jp 8 5 7,im 2 8] [2]) jR)
abbrev ysw:Nat:=184
def xbj (QF:QT) (v0:AV) (S:q00):Prop:=biW .geq v0 (.int .u8 48) fun v4=>grW v4 true (biW .leq v0 (.int .u8 57) fun v7=>pkW v4 v7 (.bool false) fun v8=>rtW [.tmp v8] QF S) (pkW v4 q07 (.bool false) fun v8=>rtW [.tmp v8] QF S)
theorem xeg (h:xbj QF v0 S):ACalls PG ysw [v0] S QF:=wq x3k h
def x3j:TFunc where
 n:=19
 args:=2
 res:=[.tmp 4]
 code:=js (jr [jc 4 .i64 0] [0,1]) (js (js (jr [im 6 0,jl 7 1 6,jc 8 .i64 0] [0,1,7,8]) (jB 0 (.loop [0,1,7,8] (js (jr [jt 9 .lss 8 7] [0,1,7,8,9]) (js (jd 9 jz (jE 0)) (js (jB 1 (js (jr [im 10 8,im 5 10] [0,1,5,7,8]) (js (jr [im 11 1,im 12 0,im 13 5,ja 14 3 12 13,iL 15 3 14,i1 16 (.call (.t 11) [.t 15])] [0,1,5,7,8,16]) (jd 16 (js (jr [im 17 5,im 4 17] [4]) jR) jz)))) (jr [jb 18 .add 8 .i64 1,im 8 18] [0,1,7,8]))))))) (js (jr [jc 4 .i64 (-1)] [4]) jR))
abbrev yjp:Nat:=186
def ynh (QF:QT) (r0:RT) (v0 v1 v7 v8:AV) (S:q00):Prop:=biW .lss v8 v7 fun v9=>cnW v9 (iaW 3 v0 v8 fun v14=>ldW S 3 true v14 fun v15=>caW PG S v1 [v15] (fun v16 S=>cnW v16 (rtW [.tmp v8] QF S) (biW .add v8 (.int .i64 1) fun v18=>rcW r0 [(0,v0),(1,v1),(7,v7),(8,v18)] S)) (pqW QF)) (rtW [.tmp (.int .i64 (-1))] QF S)
def x22 (QF:QT) (v0 v1:AV) (S:q00):Prop:=lnW S 1 v0 fun v7=>LoopP (fun r0 l S=>ynh QF r0 (y00 l 0) (y00 l 1) (y00 l 7) (y00 l 8) S) [(0,v0),(1,v1),(7,v7),(8,(.int .i64 0))] S
theorem x2l (h:x22 QF v0 v1 S):ACalls PG yjp [v0,v1] S QF:=wq x3j h
def x3i:TFunc where
 n:=57
 args:=1
 res:=[.tmp 2]
 code:=js (jr [jx 1 53 6 0,jo 2 false] [1]) (js (jr [ia 7 0 1,il 8 1 7,jf 9 78 [.t 8],im 3 9] [1,3]) (js (js (jr [im 10 3,jk 11 10] [1,11]) (jd 11 (js (jr [jo 2 false] [2]) jR) jz)) (js (js (jr [jc 4 .i64 0] [1,4]) (jB 0 (.loop [1,4] (js (js (jr [im 12 4,ia 13 1 1,il 14 1 13,jl 15 1 14,jt 16 .lss 12 15] [1,4,16]) (jd 16 jz (jE 0))) (js (jB 1 (js (jr [ia 19 1 1,il 20 1 19,im 21 4,ja 22 2 20 21,ia 23 0 22,il 24 1 23,jf 25 78 [.t 24],im 5 25] [1,4,5]) (js (jr [ia 26 1 1,il 27 1 26,im 28 4,ja 29 2 27 28,ia 30 1 29,il 31 1 30,jf 32 78 [.t 31],im 6 32] [1,4,5,6]) (js (.reg [im 33 5,jk 34 33,im 35 34,
  .grp 35 false [s1 36 (.faddr 1 (.t 1)),s1 37 (.load 1 false (.t 36)),s1 38 (.mov (.t 4)),s1 39 (.iaddr 2 (.t 37) (.t 38)),s1 40 (.faddr 1 (.t 39)),s1 41 (.load 1 false (.t 40)),s1 42 (.bin .neq (.t 41) (.c (.str ⟨#[]⟩))),s1 43 (.mov (.t 42))],
  .grp 43 true [s1 44 (.mov (.t 6)),s1 45 (.not (.t 44))],
  .grp 35 false [s1 46 (.pick (.t 43) (.t 45) (.c (.bool false)))],jq 47 35 46] [1,4,47] []) (jd 47 (js (jr [jo 2 false] [2]) jR) jz))))) (jr [im 17 4,jb 18 .add 17 .i64 1,im 4 18] [1,4])))))) (js (.reg [ia 48 1 1,il 49 1 48,jl 50 1 49,jb 51 .gtr 50 .i64 0,im 52 51,
  .grp 52 false [s1 53 (.faddr 2 (.t 1)),s1 54 (.load 4 true (.t 53)),s1 55 (.call (.f 210) [.t 54,.c (.int .i64 12)])],jq 56 52 55,im 2 56] [2] []) jR))))
abbrev ysv:Nat:=187
def ynf (QF:QT) (r0:RT) (v1 v4 v35 v43 v45:AV) (S:q00):Prop:=grW v35 false (pkW v43 v45 (.bool false) fun v46=>pkW v35 (.bool true) v46 fun v47=>cnW v47 (rtW [.tmp (.bool false)] QF S) (biW .add v4 (.int .i64 1) fun v18=>rcW r0 [(1,v1),(4,v18)] S)) (pkW v35 (.bool true) q07 fun v47=>cnW v47 (rtW [.tmp (.bool false)] QF S) (biW .add v4 (.int .i64 1) fun v18=>rcW r0 [(1,v1),(4,v18)] S))
def yng (QF:QT) (r0:RT) (v1 v4 v6 v35 v43:AV) (S:q00):Prop:=grW v43 true (ntW v6 fun v45=>ynf QF r0 v1 v4 v35 v43 v45 S) (ynf QF r0 v1 v4 v35 v43 q07 S)
def yva (QF:QT) (r0:RT) (v1 v4:AV) (S:q00):Prop:=faW 1 v1 fun v13=>ldW S 1 false v13 fun v14=>lnW S 1 v14 fun v15=>biW .lss v4 v15 fun v16=>cnW v16 (faW 1 v1 fun v19=>ldW S 1 false v19 fun v20=>iaW 2 v20 v4 fun v22=>faW 0 v22 fun v23=>ldW S 1 false v23 fun v24=>caW PG S (jF 78) [v24] (fun v25 S=>faW 1 v1 fun v26=>ldW S 1 false v26 fun v27=>iaW 2 v27 v4 fun v29=>faW 1 v29 fun v30=>ldW S 1 false v30 fun v31=>caW PG S (jF 78) [v31] (fun v32 S=>ntW v25 fun v34=>grW v34 false (faW 1 v1 fun v36=>ldW S 1 false v36 fun v37=>iaW 2 v37 v4 fun v39=>faW 1 v39 fun v40=>ldW S 1 false v40 fun v41=>biW .neq v41 (.str ⟨#[]⟩) fun v42=>yng QF r0 v1 v4 v32 v34 v42 S) (yng QF r0 v1 v4 v32 v34 q07 S)) (pqW QF)) (pqW QF)) (faW 1 v1 fun v48=>ldW S 1 false v48 fun v49=>lnW S 1 v49 fun v50=>biW .gtr v50 (.int .i64 0) fun v51=>grW v51 false (faW 2 v1 fun v53=>ldW S 4 true v53 fun v54=>caW PG S (jF 210) [v54,(.int .i64 12)] (fun v55 S=>pkW v51 (.bool true) v55 fun v56=>rtW [.tmp v56] QF S) (pqW QF)) (pkW v51 (.bool true) q07 fun v56=>rtW [.tmp v56] QF S))
def xbi (QF:QT) (v0:AV) (S:q00):Prop:=brW 6 v0 fun v1=>faW 0 v1 fun v7=>ldW S 1 false v7 fun v8=>caW PG S (jF 78) [v8] (fun v9 S=>ntW v9 fun v11=>cnW v11 (rtW [.tmp (.bool false)] QF S) (LoopP (fun r0 l S=>yva QF r0 (y00 l 1) (y00 l 4) S) [(1,v1),(4,(.int .i64 0))] S)) (pqW QF)
theorem xef (h:xbi QF v0 S):ACalls PG ysv [v0] S QF:=wq x3i h
def x3h:TFunc where
 n:=85
 args:=3
 res:=[.tmp 6]
 code:=js (jr [jx 3 24 1 0,jx 5 51 4 2,jc 6 .i64 0] [1,3,5]) (js (js (jr [jc 7 .i64 0] [1,3,5,7]) (jB 0 (.loop [1,3,5,7] (js (js (jr [im 13 7,ia 14 3 5,il 15 1 14,jl 16 1 15,jt 17 .lss 13 16] [1,3,5,7,17]) (jd 17 jz (jE 0))) (js (jB 1 (js (.regl [1,2,4,0,3,5,6,7,8] [im 21 1,ia 22 3 5,im 24 7,iL 20 1 3,il 23 1 22,ja 25 4 23 24,iL 26 4 25,jf 27 188 [.t 20,.t 21,.t 26],im 8 27] [1,3,5,7,8] []) (js (jr [im 28 8,jb 29 .neq 28 .i64 0] [1,3,5,7,8,29]) (jd 29 (js (jr [im 30 8,im 6 30] [6]) jR) jz)))) (jr [im 18 7,jb 19 .add 18 .i64 1,im 7 19] [1,3,5,7])))))) (js (js (jr [ia 31 3 5,il 32 1 31,jl 33 1 32,jb 34 .gtr 33 .i64 0] [1,3,5,34]) (jd 34 (js (jr [jc 6 .i64 0] [6]) jR) jz)) (js (jr [iL 35 1 3,im 36 1,ia 37 1 5,il 38 1 37,jf 39 67 [.t 35,.t 36,.t 38],im 9 39] [1,3,5,9]) (js (js (jr [im 40 9,jb 41 .lss 40 .i64 0] [1,3,5,9,41]) (jd 41 (js (jr [jc 6 .i64 6] [6]) jR) jz)) (js (js (jr [ia 42 0 5,il 43 1 42,jb 44 .eql 43 .i64 0] [1,3,5,9,44]) (jd 44 (js (jr [jc 6 .i64 0] [6]) jR) jz)) (js (jr [ia 45 0 3,il 46 1 45,im 47 1,ja 48 2 46 47,ia 49 1 48,il 50 1 49,im 51 9,ja 52 6 50 51,ia 53 1 52,il 54 1 53,im 10 54] [3,5,10]) (js (js (jr [im 55 10,jl 56 1 55,jb 57 .eql 56 .i64 0] [3,5,10,57]) (jd 57 (js (jr [jc 6 .i64 10] [6]) jR) jz)) (js (js (jr [jc 11 .i64 0] [3,5,10,11]) (jB 2 (.loop [3,5,10,11] (js (js (jr [im 58 11,im 59 10,jl 60 1 59,jt 61 .lss 58 60] [3,5,10,11,61]) (jd 61 jz (jE 2))) (js (jB 3 (js (.regl [2,3,4,5,8,0,1,6,9,7,10,11] [im 66 10,im 67 11,ja 68 2 66 67,ia 69 0 68,ia 72 2 5,iL 64 1 3,iL 65 1 3,il 70 1 69,il 73 1 72,
  .one { d:=some 71,o:=.call (.f 66) [.t 65,.t 70],x:=[3,72] },jf 74 67 [.t 64,.t 71,.t 73],im 12 74] [3,5,10,11,12] []) (js (jr [im 75 10,im 76 11,ja 77 2 75 76,ia 78 1 77,il 79 1 78,i1 80 (.bin .eql (.t 79) (.c (.str ⟨#[]⟩))),im 81 80,
  .grp 81 true [s1 82 (.mov (.t 12)),s1 83 (.bin .geq (.t 82) (.c (.int .i64 0)))],jp 84 81 83] [3,5,10,11,84]) (jd 84 (js (jr [jc 6 .i64 0] [6]) jR) jz)))) (jr [im 62 11,jb 63 .add 62 .i64 1,im 11 63] [3,5,10,11])))))) (js (jr [jc 6 .i64 6] [6]) jR)))))))))
abbrev ysu:Nat:=188
def yv8 (QF:QT) (r0:RT) (v3 v5 v10 v11:AV) (S:q00):Prop:=lnW S 1 v10 fun v60=>biW .lss v11 v60 fun v61=>cnW v61 (iaW 2 v10 v11 fun v68=>faW 0 v68 fun v69=>faW 2 v5 fun v72=>ldW S 1 true v3 fun v64=>ldW S 1 true v3 fun v65=>ldW S 1 false v69 fun v70=>ldW S 1 false v72 fun v73=>caW PG S (jF 66) [v65,v70] (fun v71 S1=>kpW [v3,v72] S S1 ( caW PG S1 (jF 67) [v64,v71,v73] (fun v74 S=>iaW 2 v10 v11 fun v77=>faW 1 v77 fun v78=>ldW S 1 false v78 fun v79=>biW .eql v79 (.str ⟨#[]⟩) fun v80=>grW v80 true (biW .geq v74 (.int .i64 0) fun v83=>pkW v80 v83 (.bool false) fun v84=>cnW v84 (rtW [.tmp (.int .i64 0)] QF S) (biW .add v11 (.int .i64 1) fun v63=>rcW r0 [(3,v3),(5,v5),(10,v10),(11,v63)] S)) (pkW v80 q07 (.bool false) fun v84=>cnW v84 (rtW [.tmp (.int .i64 0)] QF S) (biW .add v11 (.int .i64 1) fun v63=>rcW r0 [(3,v3),(5,v5),(10,v10),(11,v63)] S))) (pqW QF))) (pqW QF)) (rtW [.tmp (.int .i64 6)] QF S)
def yv9 (QF:QT) (r0:RT) (v1 v3 v5 v7:AV) (S:q00):Prop:=faW 3 v5 fun v14=>ldW S 1 false v14 fun v15=>lnW S 1 v15 fun v16=>biW .lss v7 v16 fun v17=>cnW v17 (faW 3 v5 fun v22=>ldW S 1 true v3 fun v20=>ldW S 1 false v22 fun v23=>iaW 4 v23 v7 fun v25=>ldW S 4 true v25 fun v26=>caW PG S (jF 188) [v20,v1,v26] (fun v27 S=>biW .neq v27 (.int .i64 0) fun v29=>cnW v29 (rtW [.tmp v27] QF S) (biW .add v7 (.int .i64 1) fun v19=>rcW r0 [(1,v1),(3,v3),(5,v5),(7,v19)] S)) (pqW QF)) (faW 3 v5 fun v31=>ldW S 1 false v31 fun v32=>lnW S 1 v32 fun v33=>biW .gtr v33 (.int .i64 0) fun v34=>cnW v34 (rtW [.tmp (.int .i64 0)] QF S) (ldW S 1 true v3 fun v35=>faW 1 v5 fun v37=>ldW S 1 false v37 fun v38=>caW PG S (jF 67) [v35,v1,v38] (fun v39 S=>biW .lss v39 (.int .i64 0) fun v41=>cnW v41 (rtW [.tmp (.int .i64 6)] QF S) (faW 0 v5 fun v42=>ldW S 1 false v42 fun v43=>biW .eql v43 (.int .i64 0) fun v44=>cnW v44 (rtW [.tmp (.int .i64 0)] QF S) (faW 0 v3 fun v45=>ldW S 1 false v45 fun v46=>iaW 2 v46 v1 fun v48=>faW 1 v48 fun v49=>ldW S 1 false v49 fun v50=>iaW 6 v50 v39 fun v52=>faW 1 v52 fun v53=>ldW S 1 false v53 fun v54=>lnW S 1 v54 fun v56=>biW .eql v56 (.int .i64 0) fun v57=>cnW v57 (rtW [.tmp (.int .i64 10)] QF S) (LoopP (fun r0 l S=>yv8 QF r0 (y00 l 3) (y00 l 5) (y00 l 10) (y00 l 11) S) [(3,v3),(5,v5),(10,v54),(11,(.int .i64 0))] S)))) (pqW QF)))
def xbh (QF:QT) (v0 v1 v2:AV) (S:q00):Prop:=brW 1 v0 fun v3=>brW 4 v2 fun v5=>LoopP (fun r0 l S=>yv9 QF r0 (y00 l 1) (y00 l 3) (y00 l 5) (y00 l 7) S) [(1,v1),(3,v3),(5,v5),(7,(.int .i64 0))] S
theorem xee (h:xbh QF v0 v1 v2 S):ACalls PG ysu [v0,v1,v2] S QF:=wq x3h h
end Go.HL
