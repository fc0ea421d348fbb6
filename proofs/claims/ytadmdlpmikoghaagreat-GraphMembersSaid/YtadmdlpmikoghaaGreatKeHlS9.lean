/- A part of a proof. -/
import Derived.Test.YtadmdlpmikoghaaGreatKeHlP
set_option maxRecDepth 100000
set_option linter.unusedVariables false
namespace Go.HL
variable {QF:QT} {S:q00} {v0 v1 v2 v3 v4 v5 v6 v7 v8:AV}
def x4v:TFunc where
 n:=14
 args:=2
 res:=[]
 code:=js (jr [im 5 0,im 6 1,jf 7 84 [.t 5,.t 6],im 4 7] [0,4]) (js (jr [im 8 4,jk 9 8] [0,9]) (jd 9 (jr [im 10 0,im 11 0,jf 12 87 [.t 11],jf 13 88 [.t 10,.t 12,.c (.int .i64 8)]] []) jz))
abbrev ytz:Nat:=130
def xct (QF:QT) (v0 v1:AV) (S:q00):Prop:=caW PG S (jF 84) [v0,v1] (fun v7 S=>ntW v7 fun v9=>cnW v9 (caW PG S (jF 87) [v0] (fun v12 S=>caW PG S (jF 88) [v0,v12,(.int .i64 8)] (fun v13 S=>rtW [] QF S) (pqW QF)) (pqW QF)) (rtW [] QF S)) (pqW QF)
theorem xfq (h:xct QF v0 v1 S):ACalls PG ytz [v0,v1] S QF:=wq x4v h
def x4u:TFunc where
 n:=13
 args:=1
 res:=[.cell 2 2 true]
 code:=js (.reg [i1 2 (.alloc 171 [.str ⟨#[]⟩,.str ⟨#[]⟩])] [0,2] []) (js (.reg [im 4 0,jf 5 85 [.t 4],i1 6 (.build [.str ⟨#[]⟩,.str ⟨#[]⟩] [(0,1,.t 5)]),i1 3 (.alloc 171 [.str ⟨#[]⟩,.str ⟨#[]⟩]),jS 2 3 6] [0,2,3] []) (js (js (.reg [im 7 0,i1 8 (.call (.f 84) [.t 7,.c (.str ⟨#[35]⟩)])] [0,2,3,8] []) (jd 8 (jr [im 9 0,jf 10 85 [.t 9],ia 11 1 3,jS 1 11 10] [2,3]) jz)) (js (.reg [iL 12 2 3,jS 2 2 12] [2] [2]) jR)))
abbrev yty:Nat:=131
def yft (QF:QT) (v2 v3:AV) (S:q00):Prop:=ldW S 2 true v3 fun v12=>stW S 2 v2 v12 fun S=>fzW S v2 fun v2 S=>rtW [.cell v2 2 true] QF S
def xcs (QF:QT) (v0:AV) (S:q00):Prop:=alW S 171 [.str ⟨#[]⟩,.str ⟨#[]⟩] fun v2 S=>caW PG S (jF 85) [v0] (fun v5 S=>bdW [.str ⟨#[]⟩,.str ⟨#[]⟩] [(0,1,v5)] fun v6=>alW S 171 [.str ⟨#[]⟩,.str ⟨#[]⟩] fun v3 S=>stW S 2 v3 v6 fun S=>caW PG S (jF 84) [v0,(.str ⟨#[35]⟩)] (fun v8 S=>cnW v8 (caW PG S (jF 85) [v0] (fun v10 S=>faW 1 v3 fun v11=>stW S 1 v11 v10 fun S=>yft QF v2 v3 S) (pqW QF)) (yft QF v2 v3 S)) (pqW QF)) (pqW QF)
theorem xfp (h:xcs QF v0 S):ACalls PG yty [v0] S QF:=wq x4u h
def x4t:TFunc where
 n:=48
 args:=1
 res:=[.cell 2 4 true]
 code:=js (.reg [i1 2 (.alloc 51 [.int .i64 0,.str ⟨#[]⟩,.str ⟨#[]⟩,.nils])] [0,2] []) (js (.reg [im 7 0,jf 8 171 [.t 7],i1 3 (.alloc 51 [.int .i64 0,.str ⟨#[]⟩,.str ⟨#[]⟩,.nils]),jS 4 3 8] [0,2,3] []) (js (jB 0 (.loop [0,2,3] (js (js (.reg [im 9 0,jn 10 9,ia 11 3 10,ia 12 2 11,il 13 1 12,jb 14 .eql 13 .i64 0,im 15 14,
  .grp 15 true [s1 16 (.mov (.t 0)),s1 17 (.call (.f 87) [.t 16]),s1 18 (.field 0 1 false (.t 17)),s1 19 (.bin .eql (.t 18) (.c (.str ⟨#[43]⟩))),s1 20 (.mov (.t 19))],
  .grp 20 false [s1 21 (.mov (.t 0)),s1 22 (.call (.f 87) [.t 21]),s1 23 (.field 0 1 false (.t 22)),s1 24 (.bin .eql (.t 23) (.c (.str ⟨#[45]⟩)))],
  .grp 15 true [s1 25 (.pick (.t 20) (.c (.bool true)) (.t 24))],jp 26 15 25] [0,2,3,26] []) (jd 26 jz (jE 0))) (jB 1 (js (.reg [im 27 0,jf 28 87 [.t 27],
  .box2 4 149 [.str ⟨#[]⟩,.int .i64 0,.int .i64 0] 3 (.t 28)] [0,2,3,4] []) (js (jr [jc 5 .i64 2] [0,2,3,4,5]) (js (js (jr [ia 29 0 4,il 30 1 29,i1 31 (.bin .eql (.t 30) (.c (.str ⟨#[45]⟩)))] [0,2,3,4,5,31]) (jd 31 (jr [jc 5 .i64 4] [0,2,3,4,5]) jz)) (js (jr [im 32 0,jn 33 32,ia 34 1 33,il 35 1 34,jb 36 .add 35 .i64 1,jn 37 32,ia 38 1 37,jS 1 38 36] [0,2,3,4,5]) (js (.reg [im 39 0,jf 40 171 [.t 39],
  .box2 6 51 [.int .i64 0,.str ⟨#[]⟩,.str ⟨#[]⟩,.nils] 4 (.t 40)] [0,2,3,4,5,6] []) (jr [im 41 0,im 42 5,iL 43 3 4,iL 44 4 3,iL 45 4 6,jf 46 172 [.t 41,.t 42,.t 43,.t 44,.t 45],jS 4 3 46] [0,2,3])))))))))) (js (.reg [iL 47 4 3,jS 4 2 47] [2] [2]) jR)))
abbrev ydh:Nat:=132
def yfs (QF:QT) (r0:RT) (v0 v2 v3 v4 v5:AV) (S:q00):Prop:=nkW v0 fun v33=>faW 1 v33 fun v34=>ldW S 1 false v34 fun v35=>biW .add v35 (.int .i64 1) fun v36=>nkW v0 fun v37=>faW 1 v37 fun v38=>stW S 1 v38 v36 fun S=>caW PG S (jF 171) [v0] (fun v40 S=>bfW 4 v40 fun v6=>ldW S 3 true v4 fun v43=>ldW S 4 true v3 fun v44=>ldW S 4 true v6 fun v45=>caW PG S (jF 172) [v0,v5,v43,v44,v45] (fun v46 S=>stW S 4 v3 v46 fun S=>rcW r0 [(0,v0),(2,v2),(3,v3)] S) (pqW QF)) (pqW QF)
def y4u (QF:QT) (r0:RT) (v0 v2 v3 v26:AV) (S:q00):Prop:=cnW v26 (caW PG S (jF 87) [v0] (fun v28 S=>bfW 3 v28 fun v4=>faW 0 v4 fun v29=>ldW S 1 false v29 fun v30=>biW .eql v30 (.str ⟨#[45]⟩) fun v31=>cnW v31 (yfs QF r0 v0 v2 v3 v4 (.int .i64 4) S) (yfs QF r0 v0 v2 v3 v4 (.int .i64 2) S)) (pqW QF)) (ldW S 4 true v3 fun v47=>stW S 4 v2 v47 fun S=>fzW S v2 fun v2 S=>rtW [.cell v2 4 true] QF S)
def y4v (QF:QT) (r0:RT) (v0 v2 v3 v15 v20 v24:AV) (S:q00):Prop:=grW v15 true (pkW v20 (.bool true) v24 fun v25=>pkW v15 v25 (.bool false) fun v26=>y4u QF r0 v0 v2 v3 v26 S) (pkW v15 q07 (.bool false) fun v26=>y4u QF r0 v0 v2 v3 v26 S)
def yaa (QF:QT) (r0:RT) (v0 v2 v3 v15 v20:AV) (S:q00):Prop:=grW v20 false (caW PG S (jF 87) [v0] (fun v22 S=>fdW 0 1 false v22 fun v23=>biW .eql v23 (.str ⟨#[45]⟩) fun v24=>y4v QF r0 v0 v2 v3 v15 v20 v24 S) (pqW QF)) (y4v QF r0 v0 v2 v3 v15 v20 q07 S)
def yw8 (QF:QT) (r0:RT) (v0 v2 v3:AV) (S:q00):Prop:=nkW v0 fun v10=>faW 3 v10 fun v11=>faW 2 v11 fun v12=>ldW S 1 false v12 fun v13=>biW .eql v13 (.int .i64 0) fun v14=>grW v14 true (caW PG S (jF 87) [v0] (fun v17 S=>fdW 0 1 false v17 fun v18=>biW .eql v18 (.str ⟨#[43]⟩) fun v19=>yaa QF r0 v0 v2 v3 v14 v19 S) (pqW QF)) (yaa QF r0 v0 v2 v3 v14 q07 S)
def xcr (QF:QT) (v0:AV) (S:q00):Prop:=alW S 51 [.int .i64 0,.str ⟨#[]⟩,.str ⟨#[]⟩,.nils] fun v2 S=>caW PG S (jF 171) [v0] (fun v8 S=>alW S 51 [.int .i64 0,.str ⟨#[]⟩,.str ⟨#[]⟩,.nils] fun v3 S=>stW S 4 v3 v8 fun S=>LoopP (fun r0 l S=>yw8 QF r0 (y00 l 0) (y00 l 2) (y00 l 3) S) [(0,v0),(2,v2),(3,v3)] S) (pqW QF)
theorem xfo (h:xcr QF v0 S):ACalls PG ydh [v0] S QF:=wq x4t h
def x4s:TFunc where
 n:=27
 args:=2
 res:=[.tmp 4,.tmp 5,.tmp 6]
 code:=js (jr [i1 4 (.mov (.c (.str ⟨#[]⟩))),i1 5 (.mov (.c (.str ⟨#[]⟩))),jo 6 false] [0,1]) (js (js (jr [jc 7 .i64 0] [0,1,7]) (jB 0 (.loop [0,1,7] (js (js (jr [im 8 7,im 9 0,jl 10 0 9,jt 11 .lss 8 10] [0,1,7,11]) (jd 11 jz (jE 0))) (js (jB 1 (js (jr [im 14 0,im 15 7,i1 16 (.idxs (.t 14) (.t 15)),im 17 1,jt 18 .eql 16 17] [0,1,7,18]) (jd 18 (js (.regl [0,1,2,3,4,5,6,7,8,9] [im 19 0,im 20 7,i1 21 (.slics (.t 19) none (some (.t 20))),im 22 0,im 23 7,jb 24 .add 23 .i64 1,i1 25 (.slics (.t 22) (some (.t 24)) none),im 4 21,im 5 25,jo 6 true] [4,5,6] []) jR) jz))) (jr [im 12 7,jb 13 .add 12 .i64 1,im 7 13] [0,1,7])))))) (js (jr [im 26 0,im 4 26,i1 5 (.mov (.c (.str ⟨#[]⟩))),jo 6 false] [4,5,6]) jR))
abbrev ytx:Nat:=133
def yw7 (QF:QT) (r0:RT) (v0 v1 v7:AV) (S:q00):Prop:=lnW S 0 v0 fun v10=>biW .lss v7 v10 fun v11=>cnW v11 (isW v0 v7 fun v16=>biW .eql v16 v1 fun v18=>cnW v18 (ssW v0 none (some v7) fun v21=>biW .add v7 (.int .i64 1) fun v24=>ssW v0 (some v24) none fun v25=>rtW [.tmp v21,.tmp v25,.tmp (.bool true)] QF S) (biW .add v7 (.int .i64 1) fun v13=>rcW r0 [(0,v0),(1,v1),(7,v13)] S)) (rtW [.tmp v0,.tmp (.str ⟨#[]⟩),.tmp (.bool false)] QF S)
def xcq (QF:QT) (v0 v1:AV) (S:q00):Prop:=LoopP (fun r0 l S=>yw7 QF r0 (y00 l 0) (y00 l 1) (y00 l 7) S) [(0,v0),(1,v1),(7,(.int .i64 0))] S
theorem xfn (h:xcq QF v0 v1 S):ACalls PG ytx [v0,v1] S QF:=wq x4s h
def x4r:TFunc where
 n:=33
 args:=1
 res:=[.cell 2 2 true,.tmp 3]
 code:=js (.reg [i1 2 (.alloc 27 [.str ⟨#[]⟩,.str ⟨#[]⟩]),jo 3 false] [0,2] []) (js (jr [im 10 0,jf 11 133 [.t 10,.c (.int .u8 58)],im 9 11,je 12 9 0,je 13 9 1,je 14 9 2,im 4 12,im 5 13,im 6 14] [2,4,5,6]) (js (jr [im 15 4,jf 16 78 [.t 15],im 7 16] [2,4,5,6,7]) (js (jr [im 17 5,jf 18 79 [.t 17],im 8 18] [2,4,5,6,7,8]) (js (js (jr [im 19 6,jk 20 19,im 21 20,
  .grp 21 false [s1 22 (.mov (.t 7)),s1 23 (.not (.t 22))],jq 24 21 23,im 25 24,
  .grp 25 false [s1 26 (.mov (.t 8)),s1 27 (.not (.t 26))],jq 28 25 27] [2,4,5,28]) (jd 28 (js (.reg [i1 29 (.build [.str ⟨#[]⟩,.str ⟨#[]⟩] []),jS 2 2 29,jo 3 false] [2,3] []) jR) jz)) (js (.reg [im 30 4,im 31 5,i1 32 (.build [.str ⟨#[]⟩,.str ⟨#[]⟩] [(0,1,.t 30),(1,1,.t 31)]),jS 2 2 32,jo 3 true] [2,3] []) jR)))))
abbrev ytw:Nat:=134
def yny (QF:QT) (v2 v4 v5 v28:AV) (S:q00):Prop:=cnW v28 (bdW [.str ⟨#[]⟩,.str ⟨#[]⟩] [] fun v29=>stW S 2 v2 v29 fun S=>rtW [.cell v2 2 true,.tmp (.bool false)] QF S) (bdW [.str ⟨#[]⟩,.str ⟨#[]⟩] [(0,1,v4),(1,1,v5)] fun v32=>stW S 2 v2 v32 fun S=>rtW [.cell v2 2 true,.tmp (.bool true)] QF S)
def ynz (QF:QT) (v2 v4 v5 v8 v24:AV) (S:q00):Prop:=grW v24 false (ntW v8 fun v27=>pkW v24 (.bool true) v27 fun v28=>yny QF v2 v4 v5 v28 S) (pkW v24 (.bool true) q07 fun v28=>yny QF v2 v4 v5 v28 S)
def xcp (QF:QT) (v0:AV) (S:q00):Prop:=alW S 27 [.str ⟨#[]⟩,.str ⟨#[]⟩] fun v2 S=>caW PG S (jF 133) [v0,(.int .u8 58)] (fun v11 S=>exW 0 v11 fun v12=>exW 1 v11 fun v13=>exW 2 v11 fun v14=>caW PG S (jF 78) [v12] (fun v16 S=>caW PG S (jF 79) [v13] (fun v18 S=>ntW v14 fun v20=>grW v20 false (ntW v16 fun v23=>pkW v20 (.bool true) v23 fun v24=>ynz QF v2 v12 v13 v18 v24 S) (pkW v20 (.bool true) q07 fun v24=>ynz QF v2 v12 v13 v18 v24 S)) (pqW QF)) (pqW QF)) (pqW QF)
theorem xfm (h:xcp QF v0 S):ACalls PG ytw [v0] S QF:=wq x4r h
def x4q:TFunc where
 n:=36
 args:=1
 res:=[.cell 2 3 true,.tmp 3]
 code:=js (.reg [i1 2 (.alloc 39 [.str ⟨#[]⟩,.str ⟨#[]⟩,.str ⟨#[]⟩]),jo 3 false] [0,2] []) (js (jr [im 11 0,jf 12 133 [.t 11,.c (.int .u8 35)],im 10 12,je 13 10 0,je 14 10 1,je 15 10 2,im 4 13,im 5 14,im 6 15] [2,4,5,6]) (js (.reg [im 17 4,jf 18 134 [.t 17],im 16 18,je 19 16 0,je 20 16 1,
  .box2 7 27 [.str ⟨#[]⟩,.str ⟨#[]⟩] 2 (.t 19),im 8 20] [2,5,6,7,8] []) (js (jr [im 21 5,jf 22 78 [.t 21],im 9 22] [2,5,6,7,8,9]) (js (js (jr [im 23 8,jk 24 23,im 25 24,
  .grp 25 false [s1 26 (.mov (.t 6)),s1 27 (.mov (.t 26))],
  .grp 27 true [s1 28 (.mov (.t 9)),s1 29 (.not (.t 28))],
  .grp 25 false [s1 30 (.pick (.t 27) (.t 29) (.c (.bool false)))],jq 31 25 30] [2,5,7,31]) (jd 31 (js (.reg [i1 32 (.build [.str ⟨#[]⟩,.str ⟨#[]⟩,.str ⟨#[]⟩] []),jS 3 2 32,jo 3 false] [2,3] []) jR) jz)) (js (.reg [iL 33 2 7,im 34 5,i1 35 (.build [.str ⟨#[]⟩,.str ⟨#[]⟩,.str ⟨#[]⟩] [(0,2,.t 33),(2,1,.t 34)]),jS 3 2 35,jo 3 true] [2,3] []) jR)))))
abbrev ytv:Nat:=135
def ynv (QF:QT) (v2 v5 v7 v31:AV) (S:q00):Prop:=cnW v31 (bdW [.str ⟨#[]⟩,.str ⟨#[]⟩,.str ⟨#[]⟩] [] fun v32=>stW S 3 v2 v32 fun S=>rtW [.cell v2 3 true,.tmp (.bool false)] QF S) (ldW S 2 true v7 fun v33=>bdW [.str ⟨#[]⟩,.str ⟨#[]⟩,.str ⟨#[]⟩] [(0,2,v33),(2,1,v5)] fun v35=>stW S 3 v2 v35 fun S=>rtW [.cell v2 3 true,.tmp (.bool true)] QF S)
def ynw (QF:QT) (v2 v5 v7 v25 v27 v29:AV) (S:q00):Prop:=grW v25 false (pkW v27 v29 (.bool false) fun v30=>pkW v25 (.bool true) v30 fun v31=>ynv QF v2 v5 v7 v31 S) (pkW v25 (.bool true) q07 fun v31=>ynv QF v2 v5 v7 v31 S)
def ynx (QF:QT) (v2 v5 v7 v9 v25 v27:AV) (S:q00):Prop:=grW v27 true (ntW v9 fun v29=>ynw QF v2 v5 v7 v25 v27 v29 S) (ynw QF v2 v5 v7 v25 v27 q07 S)
def xco (QF:QT) (v0:AV) (S:q00):Prop:=alW S 39 [.str ⟨#[]⟩,.str ⟨#[]⟩,.str ⟨#[]⟩] fun v2 S=>caW PG S (jF 133) [v0,(.int .u8 35)] (fun v12 S=>exW 0 v12 fun v13=>exW 1 v12 fun v14=>exW 2 v12 fun v15=>caW PG S (jF 134) [v13] (fun v18 S=>exW 0 v18 fun v19=>exW 1 v18 fun v20=>bfW 2 v19 fun v7=>caW PG S (jF 78) [v14] (fun v22 S=>ntW v20 fun v24=>grW v24 false (ynx QF v2 v14 v7 v22 v24 v15 S) (ynx QF v2 v14 v7 v22 v24 q07 S)) (pqW QF)) (pqW QF)) (pqW QF)
theorem xfl (h:xco QF v0 S):ACalls PG ytv [v0] S QF:=wq x4q h
def x4p:TFunc where
 n:=22
 args:=1
 res:=[.tmp 2]
 code:=js (jr [jx 1 24 1 0,jo 2 false] [1]) (js (js (jr [ia 5 0 1,il 6 1 5,jl 7 1 6,jc 8 .i64 0] [6,7,8]) (jB 0 (.loop [6,7,8] (js (jr [jt 9 .lss 8 7] [6,7,8,9]) (js (jd 9 jz (jE 0)) (js (jB 1 (js (.reg [ja 10 2 6 8,iL 11 2 10,
  .box2 4 46 [.str ⟨#[]⟩,.nils] 2 (.t 11)] [4,6,7,8] []) (js (.reg [ia 12 0 4,il 13 1 12,jf 14 144 [.t 13],jk 15 14,im 16 15,
  .grp 16 false [s1 17 (.faddr 1 (.t 4)),s1 18 (.load 1 false (.t 17)),s1 19 (.call (.f 173) [.t 18,.f 174])],jq 20 16 19] [6,7,8,20] []) (jd 20 (js (jr [jo 2 false] [2]) jR) jz)))) (jr [jb 21 .add 8 .i64 1,im 8 21] [6,7,8]))))))) (js (jr [jo 2 true] [2]) jR))
abbrev ytu:Nat:=136
def yw6 (QF:QT) (r0:RT) (v6 v7 v8:AV) (S:q00):Prop:=biW .lss v8 v7 fun v9=>cnW v9 (iaW 2 v6 v8 fun v10=>ldW S 2 true v10 fun v11=>bfW 2 v11 fun v4=>faW 0 v4 fun v12=>ldW S 1 false v12 fun v13=>caW PG S (jF 144) [v13] (fun v14 S=>ntW v14 fun v15=>grW v15 false (faW 1 v4 fun v17=>ldW S 1 false v17 fun v18=>caW PG S (jF 173) [v18,(jF 174)] (fun v19 S=>pkW v15 (.bool true) v19 fun v20=>cnW v20 (rtW [.tmp (.bool false)] QF S) (biW .add v8 (.int .i64 1) fun v21=>rcW r0 [(6,v6),(7,v7),(8,v21)] S)) (pqW QF)) (pkW v15 (.bool true) q07 fun v20=>cnW v20 (rtW [.tmp (.bool false)] QF S) (biW .add v8 (.int .i64 1) fun v21=>rcW r0 [(6,v6),(7,v7),(8,v21)] S))) (pqW QF)) (rtW [.tmp (.bool true)] QF S)
def xcn (QF:QT) (v0:AV) (S:q00):Prop:=brW 1 v0 fun v1=>faW 0 v1 fun v5=>ldW S 1 false v5 fun v6=>lnW S 1 v6 fun v7=>LoopP (fun r0 l S=>yw6 QF r0 (y00 l 6) (y00 l 7) (y00 l 8) S) [(6,v6),(7,v7),(8,(.int .i64 0))] S
theorem xfk (h:xcn QF v0 S):ACalls PG ytu [v0] S QF:=wq x4p h
def x4o:TFunc where
 n:=54
 args:=1
 res:=[.cell 2 3 true]
 code:=js (jr [jx 1 24 1 0,i1 2 (.alloc 88 [.int .i64 0,.int .i64 0,.int .i64 0])] [1,2]) (js (jr [i1 6 (.build [.int .i64 0,.int .i64 0,.int .i64 0] [(1,1,.c (.int .i64 (-1))),(2,1,.c (.int .i64 2))]),i1 3 (.alloc 88 [.int .i64 0,.int .i64 0,.int .i64 0]),jS 3 3 6] [1,2,3]) (js (js (jr [ia 7 0 1,il 8 1 7,jl 9 1 8,jb 10 .gtr 9 .i64 16] [1,2,3,10]) (jd 10 (js (jr [iL 11 3 3,jS 3 2 11] [2]) jR) jz)) (js (js (jr [ia 12 0 1,il 13 1 12,jl 14 1 13,jc 15 .i64 0] [1,2,3,14,15]) (jB 0 (.loop [1,2,3,14,15] (js (jr [jt 16 .lss 15 14] [1,2,3,14,15,16]) (js (jd 16 jz (jE 0)) (js (jB 1 (js (jr [im 17 15,ia 18 0 3,jS 1 18 17] [1,2,3,14,15]) (js (jr [ia 19 0 1,il 20 1 19,ia 21 0 3,il 22 1 21,ja 23 2 20 22,ia 24 1 23,il 25 1 24,jl 26 1 25,jb 27 .gtr 26 .i64 16] [1,2,3,14,15,27]) (jd 27 (js (jr [iL 28 3 3,jS 3 2 28] [2]) jR) jz)))) (jr [jb 29 .add 15 .i64 1,im 15 29] [1,2,3,14,15]))))))) (js (jr [ia 30 2 3,i0 (.store 1 (.t 30) (.c (.int .i64 7)))] [1,2,3]) (js (jr [i1 31 (.mkmap (false,[.str])),im 4 31] [1,2,3,4]) (js (js (jr [ia 32 0 1,il 33 1 32,jl 34 1 33,jc 35 .i64 0] [1,2,3,4,34,35]) (jB 2 (.loop [1,2,3,4,34,35] (js (jr [jt 36 .lss 35 34] [1,2,3,4,34,35,36]) (js (jd 36 jz (jE 2)) (js (jB 3 (js (jr [im 37 35,ia 38 0 3,jS 1 38 37] [1,2,3,4,34,35]) (js (jr [ia 39 0 1,il 40 1 39,ia 41 0 3,il 42 1 41,ja 43 2 40 42,ia 44 0 43,il 45 1 44,im 5 45] [1,2,3,4,5,34,35]) (js (js (jr [im 46 4,im 47 5,i1 48 (.lookup (false,[.str]) false (.bool false) (.t 46) (.t 47))] [1,2,3,4,5,34,35,48]) (jd 48 (js (jr [iL 49 3 3,jS 3 2 49] [2]) jR) jz)) (jr [im 50 4,im 51 5,i0 (.mupd (false,[.str]) (.t 50) (.t 51) (.c (.bool true)))] [1,2,3,4,34,35]))))) (jr [jb 52 .add 35 .i64 1,im 35 52] [1,2,3,4,34,35]))))))) (js (jr [i1 53 (.build [.int .i64 0,.int .i64 0,.int .i64 0] []),jS 3 2 53] [2]) jR)))))))
abbrev ytt:Nat:=137
def yw4 (QF:QT) (r0:RT) (v1 v2 v3 v4 v34 v35:AV) (S:q00):Prop:=biW .lss v35 v34 fun v36=>cnW v36 (faW 0 v3 fun v38=>stW S 1 v38 v35 fun S=>faW 0 v1 fun v39=>ldW S 1 false v39 fun v40=>faW 0 v3 fun v41=>ldW S 1 false v41 fun v42=>iaW 2 v40 v42 fun v43=>faW 0 v43 fun v44=>ldW S 1 false v44 fun v45=>lkW S (false,[.str]) false (.bool false) v4 v45 fun v48=>cnW v48 (ldW S 3 true v3 fun v49=>stW S 3 v2 v49 fun S=>rtW [.cell v2 3 true] QF S) (muW S (false,[.str]) v4 v45 (.bool true) fun S=>biW .add v35 (.int .i64 1) fun v52=>rcW r0 [(1,v1),(2,v2),(3,v3),(4,v4),(34,v34),(35,v52)] S)) (bdW [.int .i64 0,.int .i64 0,.int .i64 0] [] fun v53=>stW S 3 v2 v53 fun S=>rtW [.cell v2 3 true] QF S)
def yw5 (QF:QT) (r0:RT) (v1 v2 v3 v14 v15:AV) (S:q00):Prop:=biW .lss v15 v14 fun v16=>cnW v16 (faW 0 v3 fun v18=>stW S 1 v18 v15 fun S=>faW 0 v1 fun v19=>ldW S 1 false v19 fun v20=>faW 0 v3 fun v21=>ldW S 1 false v21 fun v22=>iaW 2 v20 v22 fun v23=>faW 1 v23 fun v24=>ldW S 1 false v24 fun v25=>lnW S 1 v25 fun v26=>biW .gtr v26 (.int .i64 16) fun v27=>cnW v27 (ldW S 3 true v3 fun v28=>stW S 3 v2 v28 fun S=>rtW [.cell v2 3 true] QF S) (biW .add v15 (.int .i64 1) fun v29=>rcW r0 [(1,v1),(2,v2),(3,v3),(14,v14),(15,v29)] S)) (faW 2 v3 fun v30=>stW S 1 v30 (.int .i64 7) fun S=>mmW S (false,[.str]) fun v31 S=>faW 0 v1 fun v32=>ldW S 1 false v32 fun v33=>lnW S 1 v33 fun v34=>LoopP (fun r0 l S=>yw4 QF r0 (y00 l 1) (y00 l 2) (y00 l 3) (y00 l 4) (y00 l 34) (y00 l 35) S) [(1,v1),(2,v2),(3,v3),(4,v31),(34,v34),(35,(.int .i64 0))] S)
def xcm (QF:QT) (v0:AV) (S:q00):Prop:=brW 1 v0 fun v1=>alW S 88 [.int .i64 0,.int .i64 0,.int .i64 0] fun v2 S=>bdW [.int .i64 0,.int .i64 0,.int .i64 0] [(1,1,(.int .i64 (-1))),(2,1,(.int .i64 2))] fun v6=>alW S 88 [.int .i64 0,.int .i64 0,.int .i64 0] fun v3 S=>stW S 3 v3 v6 fun S=>faW 0 v1 fun v7=>ldW S 1 false v7 fun v8=>lnW S 1 v8 fun v9=>biW .gtr v9 (.int .i64 16) fun v10=>cnW v10 (ldW S 3 true v3 fun v11=>stW S 3 v2 v11 fun S=>rtW [.cell v2 3 true] QF S) (faW 0 v1 fun v12=>ldW S 1 false v12 fun v13=>lnW S 1 v13 fun v14=>LoopP (fun r0 l S=>yw5 QF r0 (y00 l 1) (y00 l 2) (y00 l 3) (y00 l 14) (y00 l 15) S) [(1,v1),(2,v2),(3,v3),(14,v14),(15,(.int .i64 0))] S)
theorem xfj (h:xcm QF v0 S):ACalls PG ytt [v0] S QF:=wq x4o h
def x4n:TFunc where
 n:=22
 args:=4
 res:=[.tmp 7]
 code:=js (jr [jx 4 163 2 0,jx 5 46 2 1,jx 6 53 6 2,jc 7 .i64 0] [3,4,5,6]) (js (js (jr [il 11 1 3,ia 12 0 5,il 13 1 12,ia 14 0 6,il 15 1 14,jf 16 96 [.t 11,.t 13,.t 15],im 10 16,je 17 10 0,je 18 10 1,
  .box2 8 163 [.int .i64 0,.int .i64 0] 2 (.t 17),im 9 18] [4,8]) (js (jr [iL 19 2 8,iL 20 2 4,i1 21 (.eqp true (true,[.int .i64,.int .i64]) (.t 19) (.t 20))] [21]) (jd 21 (js (jr [jc 7 .i64 7] [7]) jR) jz))) (js (jr [jc 7 .i64 0] [7]) jR))
abbrev yjv:Nat:=138
def xcl (QF:QT) (v0 v1 v2 v3:AV) (S:q00):Prop:=brW 2 v0 fun v4=>brW 2 v1 fun v5=>brW 6 v2 fun v6=>ldW S 1 false v3 fun v11=>faW 0 v5 fun v12=>ldW S 1 false v12 fun v13=>faW 0 v6 fun v14=>ldW S 1 false v14 fun v15=>caW PG S (jF 96) [v11,v13,v15] (fun v16 S=>exW 0 v16 fun v17=>exW 1 v16 fun v18=>bfW 2 v17 fun v8=>ldW S 2 true v8 fun v19=>ldW S 2 true v4 fun v20=>eqW true (true,[.int .i64,.int .i64]) v19 v20 fun v21=>cnW v21 (rtW [.tmp (.int .i64 7)] QF S) (rtW [.tmp (.int .i64 0)] QF S)) (pqW QF)
theorem xfi (h:xcl QF v0 v1 v2 v3 S):ACalls PG yjv [v0,v1,v2,v3] S QF:=wq x4n h
def x4m:TFunc where
 n:=13
 args:=4
 res:=[.tmp 7]
 code:=js (jr [jx 4 163 2 0,jx 5 46 2 1,jx 6 53 6 2,jc 7 .i64 0] [3,5,6]) (js (jr [il 8 1 3,ia 9 0 5,il 10 1 9,iL 11 6 6,jf 12 140 [.t 8,.t 10,.t 11],im 7 12] [7]) jR)
abbrev yju:Nat:=139
def xck (QF:QT) (v0 v1 v2 v3:AV) (S:q00):Prop:=brW 2 v0 fun v4=>brW 2 v1 fun v5=>brW 6 v2 fun v6=>ldW S 1 false v3 fun v8=>faW 0 v5 fun v9=>ldW S 1 false v9 fun v10=>ldW S 6 true v6 fun v11=>caW PG S (jF 140) [v8,v10,v11] (fun v12 S=>rtW [.tmp v12] QF S) (pqW QF)
theorem xfh (h:xck QF v0 v1 v2 v3 S):ACalls PG yju [v0,v1,v2,v3] S QF:=wq x4m h
def x4l:TFunc where
 n:=61
 args:=3
 res:=[.tmp 6]
 code:=js (jr [jx 3 155 1 0,jx 4 9 1 1,jx 5 53 6 2,jc 6 .i64 0] [3,4,5]) (js (jr [i1 7 (.alloc 30 [.int .i64 0]),i0 (.store 1 (.t 7) (.c (.int .i64 0)))] [3,4,5,7]) (js (js (jr [ia 14 1 5,il 15 1 14,jl 16 1 15,jc 17 .i64 0] [3,4,5,7,15,16,17]) (jB 0 (.loop [3,4,5,7,15,16,17] (js (jr [jt 18 .lss 17 16] [3,4,5,7,15,16,17,18]) (js (jd 18 jz (jE 0)) (js (jB 1 (js (.reg [ja 19 2 15 17,iL 20 2 19,
  .box2 9 171 [.str ⟨#[]⟩,.str ⟨#[]⟩] 2 (.t 20)] [3,4,5,7,9,15,16,17] []) (js (.regl [4,0,1,2,3,5,6,7,8,9,10,11] [ia 26 0 9,il 22 1 3,jn 23 22,ia 24 1 23,il 25 1 24,il 27 1 26,i1 28 (.lookup (false,[.str]) true (.int .i64 0) (.t 25) (.t 27)),im 21 28,je 29 21 0,je 30 21 1,im 10 29,im 11 30] [3,4,5,7,9,11,15,16,17] []) (js (jr [il 32 1 3,ia 33 0 9,il 34 1 33,ia 35 1 9,il 36 1 35,jf 37 96 [.t 32,.t 34,.t 36],im 31 37,je 38 31 0,je 39 31 1,
  .box2 12 163 [.int .i64 0,.int .i64 0] 2 (.t 38),im 13 39] [3,4,5,7,9,11,13,15,16,17]) (js (.reg [im 40 11,jk 41 40,im 42 41,
  .grp 42 false [s1 43 (.faddr 1 (.t 9)),s1 44 (.load 1 false (.t 43)),s1 45 (.bin .neq (.t 44) (.c (.str ⟨#[]⟩))),s1 46 (.mov (.t 45))],
  .grp 46 true [s1 47 (.mov (.t 13)),s1 48 (.not (.t 47))],
  .grp 42 false [s1 49 (.pick (.t 46) (.t 48) (.c (.bool false)))],jq 50 42 49] [3,4,5,7,15,16,17,50] []) (jd 50 (js (jr [jc 6 .i64 6] [6]) jR) jz)))))) (jr [jb 51 .add 17 .i64 1,im 17 51] [3,4,5,7,15,16,17]))))))) (js (js (jr [ia 52 1 5,il 53 1 52,jl 54 1 53,jb 55 .eql 54 .i64 0] [3,4,5,7,55]) (jd 55 (jr [ia 56 2 5,iL 57 4 56,i1 58 (.mkf (.func 177) [] [.t 3,.t 4,.t 7]),jf 59 176 [.t 57,.c (.bool false),.t 58]] [7]) jz)) (js (jr [il 60 1 7,im 6 60] [6]) jR))))
abbrev yts:Nat:=140
def yns (QF:QT) (r0:RT) (v3 v4 v5 v7 v15 v16 v17 v50:AV) (S:q00):Prop:=cnW v50 (rtW [.tmp (.int .i64 6)] QF S) (biW .add v17 (.int .i64 1) fun v51=>rcW r0 [(3,v3),(4,v4),(5,v5),(7,v7),(15,v15),(16,v16),(17,v51)] S)
def ynt (QF:QT) (r0:RT) (v3 v4 v5 v7 v15 v16 v17 v42 v46 v48:AV) (S:q00):Prop:=grW v42 false (pkW v46 v48 (.bool false) fun v49=>pkW v42 (.bool true) v49 fun v50=>yns QF r0 v3 v4 v5 v7 v15 v16 v17 v50 S) (pkW v42 (.bool true) q07 fun v50=>yns QF r0 v3 v4 v5 v7 v15 v16 v17 v50 S)
def ynu (QF:QT) (r0:RT) (v3 v4 v5 v7 v13 v15 v16 v17 v42 v46:AV) (S:q00):Prop:=grW v46 true (ntW v13 fun v48=>ynt QF r0 v3 v4 v5 v7 v15 v16 v17 v42 v46 v48 S) (ynt QF r0 v3 v4 v5 v7 v15 v16 v17 v42 v46 q07 S)
def yw3 (QF:QT) (r0:RT) (v3 v4 v5 v7 v15 v16 v17:AV) (S:q00):Prop:=biW .lss v17 v16 fun v18=>cnW v18 (iaW 2 v15 v17 fun v19=>ldW S 2 true v19 fun v20=>bfW 2 v20 fun v9=>faW 0 v9 fun v26=>ldW S 1 false v3 fun v22=>nkW v22 fun v23=>faW 1 v23 fun v24=>ldW S 1 false v24 fun v25=>ldW S 1 false v26 fun v27=>lkW S (false,[.str]) true (.int .i64 0) v25 v27 fun v28=>exW 0 v28 fun v29=>exW 1 v28 fun v30=>ldW S 1 false v3 fun v32=>faW 0 v9 fun v33=>ldW S 1 false v33 fun v34=>faW 1 v9 fun v35=>ldW S 1 false v35 fun v36=>caW PG S (jF 96) [v32,v34,v36] (fun v37 S=>exW 0 v37 fun v38=>exW 1 v37 fun v39=>bfW 2 v38 fun v12=>ntW v30 fun v41=>grW v41 false (faW 1 v9 fun v43=>ldW S 1 false v43 fun v44=>biW .neq v44 (.str ⟨#[]⟩) fun v45=>ynu QF r0 v3 v4 v5 v7 v39 v15 v16 v17 v41 v45 S) (ynu QF r0 v3 v4 v5 v7 v39 v15 v16 v17 v41 q07 S)) (pqW QF)) (faW 1 v5 fun v52=>ldW S 1 false v52 fun v53=>lnW S 1 v53 fun v54=>biW .eql v54 (.int .i64 0) fun v55=>cnW v55 (faW 2 v5 fun v56=>ldW S 4 true v56 fun v57=>caW PG S (jF 176) [v57,(.bool false),(.func (.func 177) [] [v3,v4,v7])] (fun v59 S=>ldW S 1 false v7 fun v60=>rtW [.tmp v60] QF S) (pqW QF)) (ldW S 1 false v7 fun v60=>rtW [.tmp v60] QF S))
def xcj (QF:QT) (v0 v1 v2:AV) (S:q00):Prop:=brW 1 v0 fun v3=>brW 1 v1 fun v4=>brW 6 v2 fun v5=>alW S 30 [.int .i64 0] fun v7 S=>stW S 1 v7 (.int .i64 0) fun S=>faW 1 v5 fun v14=>ldW S 1 false v14 fun v15=>lnW S 1 v15 fun v16=>LoopP (fun r0 l S=>yw3 QF r0 (y00 l 3) (y00 l 4) (y00 l 5) (y00 l 7) (y00 l 15) (y00 l 16) (y00 l 17) S) [(3,v3),(4,v4),(5,v5),(7,v7),(15,v15),(16,v16),(17,(.int .i64 0))] S
theorem xfg (h:xcj QF v0 v1 v2 S):ACalls PG yts [v0,v1,v2] S QF:=wq x4l h
def x4k:TFunc where
 n:=15
 args:=5
 res:=[.tmp 8]
 code:=js (jr [jx 5 163 2 0,jx 6 46 2 1,jx 7 53 6 2,jc 8 .i64 0] [3,4,5,6,7]) (js (.regl [0,1,2,3,4,5,6] [il 9 1 4,iL 10 2 5,il 11 1 3,iL 12 2 6,iL 13 6 7,
  .one { d:=some 14,o:=.call (.f 142) [.t 11,.t 12,.t 13],x:=[4,5] },i0 (.mupd (true,[.int .i64,.int .i64]) (.t 9) (.t 10) (.t 14))] [] []) (js (jr [jc 8 .i64 0] [8]) jR))
abbrev yjt:Nat:=141
def xci (QF:QT) (v0 v1 v2 v3 v4:AV) (S:q00):Prop:=brW 2 v0 fun v5=>brW 2 v1 fun v6=>brW 6 v2 fun v7=>ldW S 1 false v4 fun v9=>ldW S 2 true v5 fun v10=>ldW S 1 false v3 fun v11=>ldW S 2 true v6 fun v12=>ldW S 6 true v7 fun v13=>caW PG S (jF 142) [v11,v12,v13] (fun v14 S1=>kpW [v4,v5] S S1 ( muW S1 (true,[.int .i64,.int .i64]) v9 v10 v14 fun S=>rtW [.tmp (.int .i64 0)] QF S)) (pqW QF)
theorem xff (h:xci QF v0 v1 v2 v3 v4 S):ACalls PG yjt [v0,v1,v2,v3,v4] S QF:=wq x4k h
def x4j:TFunc where
 n:=50
 args:=3
 res:=[.tmp 6]
 code:=js (jr [jx 3 155 1 0,jx 4 46 2 1,jx 5 53 6 2,i1 6 (.mov (.c (.nils)))] [3,4,5]) (js (jr [i1 7 (.alloc 224 [.nils])] [3,4,5,7]) (js (js (jr [ia 12 1 5,il 13 1 12,jl 14 1 13,jc 15 .i64 0] [3,4,5,7,13,14,15]) (jB 0 (.loop [3,4,5,7,13,14,15] (js (jr [jt 16 .lss 15 14] [3,4,5,7,13,14,15,16]) (js (jd 16 jz (jE 0)) (js (jB 1 (js (.reg [ja 17 2 13 15,iL 18 2 17,
  .box2 9 171 [.str ⟨#[]⟩,.str ⟨#[]⟩] 2 (.t 18)] [3,4,5,7,9,13,14,15] []) (js (jr [il 20 1 3,ia 21 0 9,il 22 1 21,ia 23 1 9,il 24 1 23,jf 25 96 [.t 20,.t 22,.t 24],im 19 25,je 26 19 0,je 27 19 1,
  .box2 10 163 [.int .i64 0,.int .i64 0] 2 (.t 26),im 11 27] [3,4,5,7,9,10,11,13,14,15]) (js (.reg [im 28 11,im 29 28,
  .grp 29 true [s1 30 (.faddr 1 (.t 9)),s1 31 (.load 1 false (.t 30)),s1 32 (.bin .neq (.t 31) (.c (.str ⟨#[]⟩)))],jp 33 29 32] [3,4,5,7,10,13,14,15,33] []) (jd 33 (jr [il 34 1 7,iL 35 2 10,i1 36 (.build [.int .i64 0,.int .i64 0,.bool false] [(0,2,.t 35),(2,1,.c (.bool false))]),i1 37 (.bslicr 227 3 [.t 36]),i1 38 (.app 227 3 24 (.t 34) (.t 37)),jS 1 7 38] [3,4,5,7,13,14,15]) jz))))) (jr [jb 39 .add 15 .i64 1,im 15 39] [3,4,5,7,13,14,15]))))))) (js (js (jr [ia 40 1 5,il 41 1 40,jl 42 1 41,jb 43 .gtr 42 .i64 0] [3,4,5,7,43]) (jd 43 (js (jr [il 44 1 7,im 6 44] [6]) jR) jz)) (js (jr [ia 45 2 5,iL 46 4 45,i1 47 (.mkf (.func 179) [] [.t 3,.t 4,.t 7]),jf 48 176 [.t 46,.c (.bool false),.t 47]] [7]) (js (jr [il 49 1 7,im 6 49] [6]) jR)))))
abbrev ytr:Nat:=142
def yfr (QF:QT) (r0:RT) (v3 v4 v5 v7 v10 v13 v14 v15 v33:AV) (S:q00):Prop:=cnW v33 (ldW S 1 false v7 fun v34=>ldW S 2 true v10 fun v35=>bdW [.int .i64 0,.int .i64 0,.bool false] [(0,2,v35),(2,1,(.bool false))] fun v36=>srW 3 [v36] fun v37=>apW S 227 3 24 v34 v37 fun v38 S=>stW S 1 v7 v38 fun S=>biW .add v15 (.int .i64 1) fun v39=>rcW r0 [(3,v3),(4,v4),(5,v5),(7,v7),(13,v13),(14,v14),(15,v39)] S) (biW .add v15 (.int .i64 1) fun v39=>rcW r0 [(3,v3),(4,v4),(5,v5),(7,v7),(13,v13),(14,v14),(15,v39)] S)
def yw2 (QF:QT) (r0:RT) (v3 v4 v5 v7 v13 v14 v15:AV) (S:q00):Prop:=biW .lss v15 v14 fun v16=>cnW v16 (iaW 2 v13 v15 fun v17=>ldW S 2 true v17 fun v18=>bfW 2 v18 fun v9=>ldW S 1 false v3 fun v20=>faW 0 v9 fun v21=>ldW S 1 false v21 fun v22=>faW 1 v9 fun v23=>ldW S 1 false v23 fun v24=>caW PG S (jF 96) [v20,v22,v24] (fun v25 S=>exW 0 v25 fun v26=>exW 1 v25 fun v27=>bfW 2 v26 fun v10=>grW v27 true (faW 1 v9 fun v30=>ldW S 1 false v30 fun v31=>biW .neq v31 (.str ⟨#[]⟩) fun v32=>pkW v27 v32 (.bool false) fun v33=>yfr QF r0 v3 v4 v5 v7 v10 v13 v14 v15 v33 S) (pkW v27 q07 (.bool false) fun v33=>yfr QF r0 v3 v4 v5 v7 v10 v13 v14 v15 v33 S)) (pqW QF)) (faW 1 v5 fun v40=>ldW S 1 false v40 fun v41=>lnW S 1 v41 fun v42=>biW .gtr v42 (.int .i64 0) fun v43=>cnW v43 (ldW S 1 false v7 fun v44=>rtW [.tmp v44] QF S) (faW 2 v5 fun v45=>ldW S 4 true v45 fun v46=>caW PG S (jF 176) [v46,(.bool false),(.func (.func 179) [] [v3,v4,v7])] (fun v48 S=>ldW S 1 false v7 fun v49=>rtW [.tmp v49] QF S) (pqW QF)))
def xch (QF:QT) (v0 v1 v2:AV) (S:q00):Prop:=brW 1 v0 fun v3=>brW 2 v1 fun v4=>brW 6 v2 fun v5=>alW S 224 [.nils] fun v7 S=>faW 1 v5 fun v12=>ldW S 1 false v12 fun v13=>lnW S 1 v13 fun v14=>LoopP (fun r0 l S=>yw2 QF r0 (y00 l 3) (y00 l 4) (y00 l 5) (y00 l 7) (y00 l 13) (y00 l 14) (y00 l 15) S) [(3,v3),(4,v4),(5,v5),(7,v7),(13,v13),(14,v14),(15,(.int .i64 0))] S
theorem xfe (h:xch QF v0 v1 v2 S):ACalls PG ytr [v0,v1,v2] S QF:=wq x4j h
def x4i:TFunc where
 n:=46
 args:=6
 res:=[.tmp 9]
 code:=js (jr [jx 6 163 2 0,jx 7 46 2 1,jx 8 53 6 2,jc 9 .i64 0] [3,4,5,6]) (js (js (jr [il 13 1 3,iL 14 2 6,i1 15 (.lookup (true,[.int .i64,.int .i64]) false (.nils) (.t 13) (.t 14)),jl 16 1 15,jc 17 .i64 0] [3,4,5,6,15,16,17]) (jB 0 (.loop [3,4,5,6,15,16,17] (js (jr [jt 18 .lss 17 16] [3,4,5,6,15,16,17,18]) (js (jd 18 jz (jE 0)) (js (jB 1 (js (jr [ja 19 3 15 17,iL 20 3 19,
  .box2 11 227 [.int .i64 0,.int .i64 0,.bool false] 3 (.t 20)] [3,4,5,6,11,15,16,17]) (js (jr [il 21 1 4,ia 22 0 11,iL 23 2 22,i1 24 (.lookup (true,[.int .i64,.int .i64]) false (.int .i64 0) (.t 21) (.t 23)),im 12 24] [3,4,5,6,11,12,15,16,17]) (js (js (jr [ia 25 2 11,il 26 1 25] [3,4,5,6,12,15,16,17,26]) (jd 26 (jr [im 27 12,jb 28 .add 27 .i64 1,im 12 28] [3,4,5,6,12,15,16,17]) jz)) (js (.regl [3,0,1,2,4,5,6,7,8,9,10,11,12] [im 32 12,il 29 1 4,iL 30 2 6,i1 31 (.lookup (true,[.int .i64,.int .i64]) false (.int .i64 0) (.t 29) (.t 30)),jt 33 .lss 31 32,im 34 33,
  .grp 34 true [s1 35 (.load 1 false (.t 4)),s1 36 (.load 2 true (.t 6)),s1 37 (.lookup (true,[.int .i64,.int .i64]) false (.int .i64 0) (.t 35) (.t 36)),s1 38 (.load 1 false (.t 3)),s1 39 (.len 2 (.t 38)),s1 40 (.bin .leq (.t 37) (.t 39))],jp 41 34 40] [3,4,5,6,12,15,16,17,41] []) (jd 41 (jr [il 42 1 4,iL 43 2 6,im 44 12,i0 (.mupd (true,[.int .i64,.int .i64]) (.t 42) (.t 43) (.t 44)),i0 (.store 1 (.t 5) (.c (.bool true)))] [3,4,5,6,15,16,17]) jz)))))) (jr [jb 45 .add 17 .i64 1,im 17 45] [3,4,5,6,15,16,17]))))))) (js (jr [jc 9 .i64 0] [9]) jR))
abbrev yjs:Nat:=143
def yfp (QF:QT) (r0:RT) (v3 v4 v5 v6 v12 v15 v16 v17 v41:AV) (S:q00):Prop:=cnW v41 (ldW S 1 false v4 fun v42=>ldW S 2 true v6 fun v43=>muW S (true,[.int .i64,.int .i64]) v42 v43 v12 fun S=>stW S 1 v5 (.bool true) fun S=>biW .add v17 (.int .i64 1) fun v45=>rcW r0 [(3,v3),(4,v4),(5,v5),(6,v6),(15,v15),(16,v16),(17,v45)] S) (biW .add v17 (.int .i64 1) fun v45=>rcW r0 [(3,v3),(4,v4),(5,v5),(6,v6),(15,v15),(16,v16),(17,v45)] S)
def yfq (QF:QT) (r0:RT) (v3 v4 v5 v6 v12 v15 v16 v17:AV) (S:q00):Prop:=ldW S 1 false v4 fun v29=>ldW S 2 true v6 fun v30=>lkW S (true,[.int .i64,.int .i64]) false (.int .i64 0) v29 v30 fun v31=>biW .lss v31 v12 fun v33=>grW v33 true (ldW S 1 false v4 fun v35=>ldW S 2 true v6 fun v36=>lkW S (true,[.int .i64,.int .i64]) false (.int .i64 0) v35 v36 fun v37=>ldW S 1 false v3 fun v38=>lnW S 2 v38 fun v39=>biW .leq v37 v39 fun v40=>pkW v33 v40 (.bool false) fun v41=>yfp QF r0 v3 v4 v5 v6 v12 v15 v16 v17 v41 S) (pkW v33 q07 (.bool false) fun v41=>yfp QF r0 v3 v4 v5 v6 v12 v15 v16 v17 v41 S)
def yw1 (QF:QT) (r0:RT) (v3 v4 v5 v6 v15 v16 v17:AV) (S:q00):Prop:=biW .lss v17 v16 fun v18=>cnW v18 (iaW 3 v15 v17 fun v19=>ldW S 3 true v19 fun v20=>bfW 3 v20 fun v11=>ldW S 1 false v4 fun v21=>faW 0 v11 fun v22=>ldW S 2 true v22 fun v23=>lkW S (true,[.int .i64,.int .i64]) false (.int .i64 0) v21 v23 fun v24=>faW 2 v11 fun v25=>ldW S 1 false v25 fun v26=>cnW v26 (biW .add v24 (.int .i64 1) fun v28=>yfq QF r0 v3 v4 v5 v6 v28 v15 v16 v17 S) (yfq QF r0 v3 v4 v5 v6 v24 v15 v16 v17 S)) (rtW [.tmp (.int .i64 0)] QF S)
def xcg (QF:QT) (v0 v1 v2 v3 v4 v5:AV) (S:q00):Prop:=brW 2 v0 fun v6=>brW 2 v1 fun v7=>brW 6 v2 fun v8=>ldW S 1 false v3 fun v13=>ldW S 2 true v6 fun v14=>lkW S (true,[.int .i64,.int .i64]) false (.nils) v13 v14 fun v15=>lnW S 1 v15 fun v16=>LoopP (fun r0 l S=>yw1 QF r0 (y00 l 3) (y00 l 4) (y00 l 5) (y00 l 6) (y00 l 15) (y00 l 16) (y00 l 17) S) [(3,v3),(4,v4),(5,v5),(6,v6),(15,v15),(16,v16),(17,(.int .i64 0))] S
theorem xfd (h:xcg QF v0 v1 v2 v3 v4 v5 S):ACalls PG yjs [v0,v1,v2,v3,v4,v5] S QF:=wq x4i h
def x4h:TFunc where
 n:=15
 args:=1
 res:=[.tmp 2]
 code:=js (jr [jo 2 false] [0]) (js (js (jr [im 3 0] [0,3]) (jB 0 (js (js (jr [i1 5 (.bin .eql (.t 3) (.c (.str ⟨#[116,121,112,101]⟩))),im 4 5] [0,3,4]) (jd 4 jz (js (jr [i1 6 (.bin .eql (.t 3) (.c (.str ⟨#[114,101,108,97,116,105,111,110]⟩))),im 4 6] [0,3,4]) (jd 4 jz (jr [i1 7 (.bin .eql (.t 3) (.c (.str ⟨#[100,101,102,105,110,101]⟩))),im 4 7] [0,4]))))) (jd 4 (js (jr [jo 2 false] [2]) jR) jz)))) (js (.reg [im 8 0,jf 9 181 [.t 8,.c (.int .i64 16),.f 182],im 10 9,
  .grp 10 true [s1 11 (.mov (.t 0)),s1 12 (.idxs (.t 11) (.c (.int .i64 0))),s1 13 (.call (.f 183) [.t 12])],jp 14 10 13,im 2 14] [2] []) jR))
abbrev ytq:Nat:=144
def yfo (QF:QT) (v0 v4:AV) (S:q00):Prop:=cnW v4 (rtW [.tmp (.bool false)] QF S) (caW PG S (jF 181) [v0,(.int .i64 16),(jF 182)] (fun v9 S=>grW v9 true (isW v0 (.int .i64 0) fun v12=>caW PG S (jF 183) [v12] (fun v13 S=>pkW v9 v13 (.bool false) fun v14=>rtW [.tmp v14] QF S) (pqW QF)) (pkW v9 q07 (.bool false) fun v14=>rtW [.tmp v14] QF S)) (pqW QF))
def xcf (QF:QT) (v0:AV) (S:q00):Prop:=biW .eql v0 (.str ⟨#[116,121,112,101]⟩) fun v5=>cnW v5 (yfo QF v0 v5 S) (biW .eql v0 (.str ⟨#[114,101,108,97,116,105,111,110]⟩) fun v6=>cnW v6 (yfo QF v0 v6 S) (biW .eql v0 (.str ⟨#[100,101,102,105,110,101]⟩) fun v7=>yfo QF v0 v7 S))
theorem xfc (h:xcf QF v0 S):ACalls PG ytq [v0] S QF:=wq x4h h
def x4g:TFunc where
 n:=19
 args:=2
 res:=[.tmp 4]
 code:=js (jr [jx 3 171 2 1,jc 4 .i64 0] [0,3]) (js (js (jr [im 6 0,jl 7 1 6,jc 8 .i64 0] [0,3,7,8]) (jB 0 (.loop [0,3,7,8] (js (jr [jt 9 .lss 8 7] [0,3,7,8,9]) (js (jd 9 jz (jE 0)) (js (jB 1 (js (jr [im 10 8,im 5 10] [0,3,5,7,8]) (js (.regl [1,2,3,0,4,5] [im 12 0,im 13 5,ja 14 2 12 13,iL 11 2 3,iL 15 2 14,i1 16 (.eqp false (true,[.str,.str]) (.t 11) (.t 15))] [0,3,5,7,8,16] []) (jd 16 (js (jr [im 17 5,im 4 17] [4]) jR) jz)))) (jr [jb 18 .add 8 .i64 1,im 8 18] [0,3,7,8]))))))) (js (jr [jc 4 .i64 (-1)] [4]) jR))
abbrev ytp:Nat:=145
def yw0 (QF:QT) (r0:RT) (v0 v3 v7 v8:AV) (S:q00):Prop:=biW .lss v8 v7 fun v9=>cnW v9 (iaW 2 v0 v8 fun v14=>ldW S 2 true v3 fun v11=>ldW S 2 true v14 fun v15=>eqW false (true,[.str,.str]) v11 v15 fun v16=>cnW v16 (rtW [.tmp v8] QF S) (biW .add v8 (.int .i64 1) fun v18=>rcW r0 [(0,v0),(3,v3),(7,v7),(8,v18)] S)) (rtW [.tmp (.int .i64 (-1))] QF S)
def xce (QF:QT) (v0 v1:AV) (S:q00):Prop:=brW 2 v1 fun v3=>lnW S 1 v0 fun v7=>LoopP (fun r0 l S=>yw0 QF r0 (y00 l 0) (y00 l 3) (y00 l 7) (y00 l 8) S) [(0,v0),(3,v3),(7,v7),(8,(.int .i64 0))] S
theorem xfb (h:xce QF v0 v1 S):ACalls PG ytp [v0,v1] S QF:=wq x4g h
end Go.HL
