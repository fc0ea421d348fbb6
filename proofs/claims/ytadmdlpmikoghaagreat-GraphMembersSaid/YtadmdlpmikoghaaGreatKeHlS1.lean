/- A part of a proof. -/
import Derived.Test.YtadmdlpmikoghaaGreatKeHlP
set_option maxRecDepth 100000
set_option linter.unusedVariables false
namespace Go.HL
variable {QF:QT} {S:q00} {v0 v1 v2 v3 v4 v5 v6 v7 v8:AV}
def xhy:TFunc where
 n:=14
 args:=2
 res:=[.tmp 4]
 code:=js (jr [jx 2 24 1 0,jo 4 false] [1,2]) (js (jr [iL 6 1 2,jf 7 46 [.t 6,.c (.int .i64 60)],im 5 7] [1,5]) (js (jr [im 8 5,im 9 8,
  .grp 9 true [s1 10 (.mov (.t 1)),s1 11 (.len 1 (.t 10)),s1 12 (.bin .leq (.t 11) (.c (.int .i64 30)))],jp 13 9 12,im 4 13] [4]) jR))
abbrev x7i:Nat:=17
def xkb (QF:QT) (v0 v1:AV) (S:q00):Prop:=brW 1 v0 fun v2=>ldW S 1 true v2 fun v6=>caW PG S (jF 46) [v6,(.int .i64 60)] (fun v7 S=>grW v7 true (lnW S 1 v1 fun v11=>biW .leq v11 (.int .i64 30) fun v12=>pkW v7 v12 (.bool false) fun v13=>rtW [.tmp v13] QF S) (pkW v7 q07 (.bool false) fun v13=>rtW [.tmp v13] QF S)) (pqW QF)
theorem xlu (h:xkb QF v0 v1 S):ACalls PG x7i [v0,v1] S QF:=wq xhy h
def xhx:TFunc where
 n:=28
 args:=5
 res:=[.tmp 10]
 code:=js (jr [jx 5 24 1 0,jx 7 27 2 2,jx 9 27 2 4,jo 10 false] [1,3,5,7,9]) (js (jr [iL 14 1 5,im 15 1,iL 16 2 7,iL 17 2 9,jf 18 54 [.t 14,.t 15,.t 16,.t 17],im 13 18,je 19 13 0,je 20 13 1,im 11 19,im 12 20] [3,7,11,12]) (js (.reg [im 21 12,im 22 21,
  .grp 22 true [s1 23 (.mov (.t 11)),s1 24 (.load 2 true (.t 7)),s1 25 (.mov (.t 3)),s1 26 (.call (.f 55) [.t 23,.t 24,.t 25])],jp 27 22 26,im 10 27] [10] []) jR))
abbrev yyi:Nat:=20
def xka (QF:QT) (v0 v1 v2 v3 v4:AV) (S:q00):Prop:=brW 1 v0 fun v5=>brW 2 v2 fun v7=>brW 2 v4 fun v9=>ldW S 1 true v5 fun v14=>ldW S 2 true v7 fun v16=>ldW S 2 true v9 fun v17=>caW PG S (jF 54) [v14,v1,v16,v17] (fun v18 S=>exW 0 v18 fun v19=>exW 1 v18 fun v20=>grW v20 true (ldW S 2 true v7 fun v24=>caW PG S (jF 55) [v19,v24,v3] (fun v26 S=>pkW v20 v26 (.bool false) fun v27=>rtW [.tmp v27] QF S) (pqW QF)) (pkW v20 q07 (.bool false) fun v27=>rtW [.tmp v27] QF S)) (pqW QF)
theorem xlt (h:xka QF v0 v1 v2 v3 v4 S):ACalls PG yyi [v0,v1,v2,v3,v4] S QF:=wq xhx h
def xhw:TFunc where
 n:=46
 args:=0
 res:=[.tmp 0]
 code:=js (jr [jo 0 false] []) (js (.reg [i1 7 (.call (.f 44) [.c (.str ⟨#[116,121,112,101,32,117,115,101,114,32,116,121,112,101,32,100,111,99,32,114,101,108,97,116,105,111,110,32,111,119,110,101,114,58,32,117,115,101,114,32,114,101,108,97,116,105,111,110,32,110,111,58,32,117,115,101,114,32,100,101,102,105,110,101,32,99,97,110,58,32,111,119,110,101,114,32,45,32,110,111]⟩)]),im 6 7,je 8 6 0,je 9 6 1,i1 1 (.alloc 24 [.nils]),i1 2 (.alloc 82 [.int .i64 0,.int .i64 0,.int .i64 0]),jS 1 1 8,jS 3 2 9] [1] [1]) (js (.reg [i1 10 (.bslicr 9 1 [.c (.str ⟨#[100,111,99,58,49,35,111,119,110,101,114,64,117,115,101,114,58,97]⟩),.c (.str ⟨#[100,111,99,58,49,35,111,119,110,101,114,64,117,115,101,114,58,98]⟩),.c (.str ⟨#[100,111,99,58,49,35,110,111,64,117,115,101,114,58,98]⟩)]),jf 11 45 [.t 10],im 3 11] [1,3] []) (js (.reg [i1 12 (.build [.str ⟨#[]⟩,.str ⟨#[]⟩] [(0,1,.c (.str ⟨#[100,111,99]⟩)),(1,1,.c (.str ⟨#[49]⟩))]),
  .box2 4 27 [.str ⟨#[]⟩,.str ⟨#[]⟩] 2 (.t 12)] [1,3,4] []) (js (.reg [iL 13 1 1,im 14 3,iL 15 2 4,i1 16 (.call (.f 23) [.t 13,.t 14,.t 15,.c (.str ⟨#[99,97,110]⟩)]),im 5 16] [1,3,4,5] []) (js (.regl [0,1,2,3,4,5,7,6,8,9,10,12,14,15,11,13,16,17,18,19,21,23,24,20,22,25,26,27,28,29] [im 17 5,jl 18 1 17,jb 19 .eql 18 .i64 1,im 20 19,
  .grp 20 true [s1 21 (.mov (.t 5)),s1 22 (.iaddr 2 (.t 21) (.c (.int .i64 0))),s1 24 (.build [.str ⟨#[]⟩,.str ⟨#[]⟩] [(0,1,.c (.str ⟨#[117,115,101,114]⟩)),(1,1,.c (.str ⟨#[97]⟩))]),s1 23 (.load 2 true (.t 22)),s1 25 (.eqp false (true,[.str,.str]) (.t 23) (.t 24))],jp 26 20 25,im 27 26,
  .grp 27 true [s1 29 (.mov (.t 3)),s1 31 (.mov (.t 5)),s1 32 (.iaddr 2 (.t 31) (.c (.int .i64 0))),s1 28 (.load 1 true (.t 1)),s1 30 (.load 2 true (.t 4)),s1 33 (.load 2 true (.t 32)),s1 34 (.call (.f 22) [.t 28,.t 29,.t 30,.c (.str ⟨#[99,97,110]⟩),.t 33])],jp 35 27 34,im 36 35,
  .grp 36 true [s1 38 (.mov (.t 3)),s1 40 (.mov (.t 5)),s1 41 (.iaddr 2 (.t 40) (.c (.int .i64 0))),s1 37 (.load 1 true (.t 1)),s1 39 (.load 2 true (.t 4)),s1 42 (.load 2 true (.t 41)),s1 43 (.call (.f 22) [.t 37,.t 38,.t 39,.c (.str ⟨#[110,111,116,104,105,110,103]⟩),.t 42]),s1 44 (.not (.t 43))],jp 45 36 44,im 0 45] [0] []) jR)))))
abbrev x7g:Nat:=21
def x1y (QF:QT) (v1 v3 v4 v5 v35:AV) (S:q00):Prop:=grW v35 true (iaW 2 v5 (.int .i64 0) fun v41=>ldW S 1 true v1 fun v37=>ldW S 2 true v4 fun v39=>ldW S 2 true v41 fun v42=>caW PG S (jF 22) [v37,v3,v39,(.str ⟨#[110,111,116,104,105,110,103]⟩),v42] (fun v43 S=>ntW v43 fun v44=>pkW v35 v44 (.bool false) fun v45=>rtW [.tmp v45] QF S) (pqW QF)) (pkW v35 q07 (.bool false) fun v45=>rtW [.tmp v45] QF S)
def x1z (QF:QT) (v1 v3 v4 v5 v26:AV) (S:q00):Prop:=grW v26 true (iaW 2 v5 (.int .i64 0) fun v32=>ldW S 1 true v1 fun v28=>ldW S 2 true v4 fun v30=>ldW S 2 true v32 fun v33=>caW PG S (jF 22) [v28,v3,v30,(.str ⟨#[99,97,110]⟩),v33] (fun v34 S=>pkW v26 v34 (.bool false) fun v35=>x1y QF v1 v3 v4 v5 v35 S) (pqW QF)) (pkW v26 q07 (.bool false) fun v35=>x1y QF v1 v3 v4 v5 v35 S)
def xk9 (QF:QT) (S:q00):Prop:=caW PG S (jF 44) [(.str ⟨#[116,121,112,101,32,117,115,101,114,32,116,121,112,101,32,100,111,99,32,114,101,108,97,116,105,111,110,32,111,119,110,101,114,58,32,117,115,101,114,32,114,101,108,97,116,105,111,110,32,110,111,58,32,117,115,101,114,32,100,101,102,105,110,101,32,99,97,110,58,32,111,119,110,101,114,32,45,32,110,111]⟩)] (fun v7 S=>exW 0 v7 fun v8=>exW 1 v7 fun v9=>alW S 24 [.nils] fun v1 S=>alW S 82 [.int .i64 0,.int .i64 0,.int .i64 0] fun v2 S=>stW S 1 v1 v8 fun S=>stW S 3 v2 v9 fun S=>fzW S v1 fun v1 S=>srW 1 [(.str ⟨#[100,111,99,58,49,35,111,119,110,101,114,64,117,115,101,114,58,97]⟩),(.str ⟨#[100,111,99,58,49,35,111,119,110,101,114,64,117,115,101,114,58,98]⟩),(.str ⟨#[100,111,99,58,49,35,110,111,64,117,115,101,114,58,98]⟩)] fun v10=>caW PG S (jF 45) [v10] (fun v11 S=>bdW [.str ⟨#[]⟩,.str ⟨#[]⟩] [(0,1,(.str ⟨#[100,111,99]⟩)),(1,1,(.str ⟨#[49]⟩))] fun v12=>bfW 2 v12 fun v4=>ldW S 1 true v1 fun v13=>ldW S 2 true v4 fun v15=>caW PG S (jF 23) [v13,v11,v15,(.str ⟨#[99,97,110]⟩)] (fun v16 S=>lnW S 1 v16 fun v18=>biW .eql v18 (.int .i64 1) fun v19=>grW v19 true (iaW 2 v16 (.int .i64 0) fun v22=>bdW [.str ⟨#[]⟩,.str ⟨#[]⟩] [(0,1,(.str ⟨#[117,115,101,114]⟩)),(1,1,(.str ⟨#[97]⟩))] fun v24=>ldW S 2 true v22 fun v23=>eqW false (true,[.str,.str]) v23 v24 fun v25=>pkW v19 v25 (.bool false) fun v26=>x1z QF v1 v11 v4 v16 v26 S) (pkW v19 q07 (.bool false) fun v26=>x1z QF v1 v11 v4 v16 v26 S)) (pqW QF)) (pqW QF)) (pqW QF)
theorem xls (h:xk9 QF S):ACalls PG x7g [] S QF:=wq xhw h
def xhv:TFunc where
 n:=33
 args:=5
 res:=[.tmp 10]
 code:=js (jr [jx 5 24 1 0,jx 7 27 2 2,jx 9 27 2 4,jo 10 false] [1,3,5,7,9]) (js (jr [iL 14 1 5,jf 15 56 [.t 14],im 13 15,je 16 13 0,je 17 13 1,im 11 16,im 12 17] [1,3,5,7,9,11,12]) (js (.regl [0,1,3,5,11,2,4,7,8,10,12,6,9,13,14,15] [im 18 12,im 19 18,
  .grp 19 true [s1 21 (.mov (.t 11)),s1 23 (.mov (.t 1)),s1 29 (.mov (.t 3)),s1 20 (.load 1 true (.t 5)),s1 22 (.load 1 true (.t 5)),s1 25 (.load 2 true (.t 7)),s1 26 (.load 2 true (.t 9)),s1 28 (.load 2 true (.t 7)),s1 30 (.build [.str ⟨#[]⟩,.str ⟨#[]⟩,.str ⟨#[]⟩] [(0,2,.t 28),(2,1,.t 29)]),{ d:=some 24,o:=.call (.f 58) [.t 22,.t 23],x:=[5,7,9] },{ d:=some 27,o:=.call (.f 57) [.t 20,.t 21,.t 24,.t 25,.t 26],x:=[7] },s1 31 (.lookup (true,[.str,.str,.str]) false (.bool false) (.t 27) (.t 30))],jp 32 19 31,im 10 32] [10] []) jR))
abbrev x7f:Nat:=22
def xk8 (QF:QT) (v0 v1 v2 v3 v4:AV) (S:q00):Prop:=brW 1 v0 fun v5=>brW 2 v2 fun v7=>brW 2 v4 fun v9=>ldW S 1 true v5 fun v14=>caW PG S (jF 56) [v14] (fun v15 S=>exW 0 v15 fun v16=>exW 1 v15 fun v17=>grW v17 true (ldW S 1 true v5 fun v20=>ldW S 1 true v5 fun v22=>ldW S 2 true v7 fun v25=>ldW S 2 true v9 fun v26=>ldW S 2 true v7 fun v28=>bdW [.str ⟨#[]⟩,.str ⟨#[]⟩,.str ⟨#[]⟩] [(0,2,v28),(2,1,v3)] fun v30=>caW PG S (jF 58) [v22,v1] (fun v24 S1=>kpW [v5,v7,v9] S S1 ( caW PG S1 (jF 57) [v20,v16,v24,v25,v26] (fun v27 S2=>kpW [v7] S1 S2 ( lkW S2 (true,[.str,.str,.str]) false (.bool false) v27 v30 fun v31=>pkW v17 v31 (.bool false) fun v32=>rtW [.tmp v32] QF S2)) (pqW QF))) (pqW QF)) (pkW v17 q07 (.bool false) fun v32=>rtW [.tmp v32] QF S)) (pqW QF)
theorem xlr (h:xk8 QF v0 v1 v2 v3 v4 S):ACalls PG x7f [v0,v1,v2,v3,v4] S QF:=wq xhv h
def xhu:TFunc where
 n:=59
 args:=4
 res:=[.tmp 8]
 code:=js (jr [jx 4 24 1 0,jx 6 27 2 2,i1 8 (.mov (.c (.nils)))] [1,3,4,6]) (js (jr [iL 15 1 4,jf 16 56 [.t 15],im 14 16,je 17 14 0,je 18 14 1,im 9 17,im 10 18] [1,3,4,6,9,10]) (js (js (jr [im 19 10,jk 20 19] [1,3,4,6,9,20]) (jd 20 (js (jr [i1 8 (.mov (.c (.nils)))] [8]) jR) jz)) (js (jr [iL 21 1 4,im 22 1,jf 23 58 [.t 21,.t 22],im 1 23] [1,3,4,6,9]) (js (jr [i1 11 (.mov (.c (.nils)))] [1,3,4,6,9,11]) (js (js (jr [im 24 1,jl 25 1 24,jc 26 .i64 0] [1,3,4,6,9,11,24,25,26]) (jB 0 (.loop [1,3,4,6,9,11,24,25,26] (js (jr [jt 27 .lss 26 25] [1,3,4,6,9,11,24,25,26,27]) (js (jd 27 jz (jE 0)) (js (jB 1 (js (.reg [ja 28 6 24 26,iL 29 6 28,
  .box2 13 41 [.str ⟨#[]⟩,.str ⟨#[]⟩,.str ⟨#[]⟩,.str ⟨#[]⟩,.str ⟨#[]⟩,.str ⟨#[]⟩] 6 (.t 29)] [1,3,4,6,9,11,13,24,25,26] []) (js (.regl [0,1,2,3,4,6,7,9,10,14,5,8,11,13,15,12,16,17] [ia 30 3 13,ia 31 2 30,il 32 1 31,i1 33 (.bin .eql (.t 32) (.c (.str ⟨#[]⟩))),im 34 33,
  .grp 34 true [s1 36 (.mov (.t 9)),s1 37 (.mov (.t 1)),s1 39 (.faddr 3 (.t 13)),s1 40 (.faddr 0 (.t 39)),s1 44 (.mov (.t 3)),s1 35 (.load 1 true (.t 4)),s1 38 (.load 2 true (.t 6)),s1 41 (.load 2 true (.t 40)),s1 43 (.load 2 true (.t 6)),s1 45 (.build [.str ⟨#[]⟩,.str ⟨#[]⟩,.str ⟨#[]⟩] [(0,2,.t 43),(2,1,.t 44)]),{ d:=some 42,o:=.call (.f 57) [.t 35,.t 36,.t 37,.t 38,.t 41],x:=[6] },s1 46 (.lookup (true,[.str,.str,.str]) false (.bool false) (.t 42) (.t 45))],jp 47 34 46] [1,3,4,6,9,11,13,24,25,26,47] []) (jd 47 (jr [im 48 11,ia 49 3 13,ia 50 0 49,iL 51 2 50,i1 52 (.bslicr 27 2 [.t 51]),i1 53 (.app 27 2 32 (.t 48) (.t 52)),im 11 53] [1,3,4,6,9,11,24,25,26]) jz)))) (jr [jb 54 .add 26 .i64 1,im 26 54] [1,3,4,6,9,11,24,25,26]))))))) (js (jr [im 55 11,jf 56 59 [.t 55,.f 60]] [11]) (js (jr [im 57 11,jf 58 63 [.t 57],im 8 58] [8]) jR)))))))
abbrev x7e:Nat:=23
def yn6 (QF:QT) (r0:RT) (v1 v3 v4 v6 v9 v11 v13 v24 v25 v26 v47:AV) (S:q00):Prop:=cnW v47 (faW 3 v13 fun v49=>faW 0 v49 fun v50=>ldW S 2 true v50 fun v51=>srW 2 [v51] fun v52=>apW S 27 2 32 v11 v52 fun v53 S=>biW .add v26 (.int .i64 1) fun v54=>rcW r0 [(1,v1),(3,v3),(4,v4),(6,v6),(9,v9),(11,v53),(24,v24),(25,v25),(26,v54)] S) (biW .add v26 (.int .i64 1) fun v54=>rcW r0 [(1,v1),(3,v3),(4,v4),(6,v6),(9,v9),(11,v11),(24,v24),(25,v25),(26,v54)] S)
def xas (QF:QT) (r0:RT) (v1 v3 v4 v6 v9 v11 v24 v25 v26:AV) (S:q00):Prop:=biW .lss v26 v25 fun v27=>cnW v27 (iaW 6 v24 v26 fun v28=>ldW S 6 true v28 fun v29=>bfW 6 v29 fun v13=>faW 3 v13 fun v30=>faW 2 v30 fun v31=>ldW S 1 false v31 fun v32=>biW .eql v32 (.str ⟨#[]⟩) fun v33=>grW v33 true (faW 3 v13 fun v39=>faW 0 v39 fun v40=>ldW S 1 true v4 fun v35=>ldW S 2 true v6 fun v38=>ldW S 2 true v40 fun v41=>ldW S 2 true v6 fun v43=>bdW [.str ⟨#[]⟩,.str ⟨#[]⟩,.str ⟨#[]⟩] [(0,2,v43),(2,1,v3)] fun v45=>caW PG S (jF 57) [v35,v9,v1,v38,v41] (fun v42 S1=>kpW [v6] S S1 ( lkW S1 (true,[.str,.str,.str]) false (.bool false) v42 v45 fun v46=>pkW v33 v46 (.bool false) fun v47=>yn6 QF r0 v1 v3 v4 v6 v9 v11 v13 v24 v25 v26 v47 S1)) (pqW QF)) (pkW v33 q07 (.bool false) fun v47=>yn6 QF r0 v1 v3 v4 v6 v9 v11 v13 v24 v25 v26 v47 S)) (caW PG S (jF 59) [v11,(jF 60)] (fun v56 S=>caW PG S (jF 63) [v11] (fun v58 S=>rtW [.tmp v58] QF S) (pqW QF)) (pqW QF))
def xk7 (QF:QT) (v0 v1 v2 v3:AV) (S:q00):Prop:=brW 1 v0 fun v4=>brW 2 v2 fun v6=>ldW S 1 true v4 fun v15=>caW PG S (jF 56) [v15] (fun v16 S=>exW 0 v16 fun v17=>exW 1 v16 fun v18=>ntW v18 fun v20=>cnW v20 (rtW [.tmp (.nils)] QF S) (ldW S 1 true v4 fun v21=>caW PG S (jF 58) [v21,v1] (fun v23 S=>lnW S 1 v23 fun v25=>LoopP (fun r0 l S=>xas QF r0 (y00 l 1) (y00 l 3) (y00 l 4) (y00 l 6) (y00 l 9) (y00 l 11) (y00 l 24) (y00 l 25) (y00 l 26) S) [(1,v23),(3,v3),(4,v4),(6,v6),(9,v17),(11,(.nils)),(24,v23),(25,v25),(26,(.int .i64 0))] S) (pqW QF))) (pqW QF)
theorem xlq (h:xk7 QF v0 v1 v2 v3 S):ACalls PG x7e [v0,v1,v2,v3] S QF:=wq xhu h
def xht:TFunc where
 n:=26
 args:=2
 res:=[.tmp 4]
 code:=js (jr [jo 4 false] [0,1]) (js (js (jr [im 6 0,jl 7 1 6,im 8 1,jl 9 1 8,jt 10 .neq 7 9] [0,1,10]) (jd 10 (js (jr [jo 4 false] [4]) jR) jz)) (js (js (jr [jc 5 .i64 0] [0,1,5]) (jB 0 (.loop [0,1,5] (js (js (jr [im 11 5,im 12 0,jl 13 1 12,jt 14 .lss 11 13] [0,1,5,14]) (jd 14 jz (jE 0))) (js (jB 1 (js (.regl [0,1,2,4,5,6,3,7,8] [im 17 0,im 18 5,ja 19 2 17 18,im 21 1,im 22 5,ja 23 2 21 22,iL 20 2 19,iL 24 2 23,i1 25 (.eqp true (true,[.str,.str]) (.t 20) (.t 24))] [0,1,5,25] []) (jd 25 (js (jr [jo 4 false] [4]) jR) jz))) (jr [im 15 5,jb 16 .add 15 .i64 1,im 5 16] [0,1,5])))))) (js (jr [jo 4 true] [4]) jR)))
abbrev x7d:Nat:=24
def xar (QF:QT) (r0:RT) (v0 v1 v5:AV) (S:q00):Prop:=lnW S 1 v0 fun v13=>biW .lss v5 v13 fun v14=>cnW v14 (iaW 2 v0 v5 fun v19=>iaW 2 v1 v5 fun v23=>ldW S 2 true v19 fun v20=>ldW S 2 true v23 fun v24=>eqW true (true,[.str,.str]) v20 v24 fun v25=>cnW v25 (rtW [.tmp (.bool false)] QF S) (biW .add v5 (.int .i64 1) fun v16=>rcW r0 [(0,v0),(1,v1),(5,v16)] S)) (rtW [.tmp (.bool true)] QF S)
def xk6 (QF:QT) (v0 v1:AV) (S:q00):Prop:=lnW S 1 v0 fun v7=>lnW S 1 v1 fun v9=>biW .neq v7 v9 fun v10=>cnW v10 (rtW [.tmp (.bool false)] QF S) (LoopP (fun r0 l S=>xar QF r0 (y00 l 0) (y00 l 1) (y00 l 5) S) [(0,v0),(1,v1),(5,(.int .i64 0))] S)
theorem xlp (h:xk6 QF v0 v1 S):ACalls PG x7d [v0,v1] S QF:=wq xht h
def xhs:TFunc where
 n:=39
 args:=4
 res:=[.tmp 8]
 code:=js (jr [jx 4 24 1 0,jx 6 27 2 2,i1 8 (.mov (.c (.nils)))] [1,3,4,6]) (js (jr [i1 9 (.mov (.c (.nils)))] [1,3,4,6,9]) (js (jr [iL 12 1 4,im 13 1,jf 14 29 [.t 12,.t 13],jf 15 64 [.t 14],im 10 15] [1,3,4,6,9,10]) (js (js (jr [jc 11 .i64 0] [1,3,4,6,9,10,11]) (jB 0 (.loop [1,3,4,6,9,10,11] (js (js (jr [im 16 11,im 17 10,jl 18 1 17,jt 19 .lss 16 18] [1,3,4,6,9,10,11,19]) (jd 19 jz (jE 0))) (js (jB 1 (js (.regl [1,3,4,5,6,0,2,7,8] [im 23 1,im 25 3,im 26 10,im 27 11,ja 28 2 26 27,iL 22 1 4,iL 24 2 6,iL 29 2 28,jf 30 20 [.t 22,.t 23,.t 24,.t 25,.t 29]] [1,3,4,6,9,10,11,30] []) (jd 30 (jr [im 31 9,im 32 10,im 33 11,ja 34 2 32 33,iL 35 2 34,i1 36 (.bslicr 27 2 [.t 35]),i1 37 (.app 27 2 32 (.t 31) (.t 36)),im 9 37] [1,3,4,6,9,10,11]) jz))) (jr [im 20 11,jb 21 .add 20 .i64 1,im 11 21] [1,3,4,6,9,10,11])))))) (js (jr [im 38 9,im 8 38] [8]) jR))))
abbrev x7c:Nat:=25
def xaq (QF:QT) (r0:RT) (v1 v3 v4 v6 v9 v10 v11:AV) (S:q00):Prop:=lnW S 1 v10 fun v18=>biW .lss v11 v18 fun v19=>cnW v19 (iaW 2 v10 v11 fun v28=>ldW S 1 true v4 fun v22=>ldW S 2 true v6 fun v24=>ldW S 2 true v28 fun v29=>caW PG S (jF 20) [v22,v1,v24,v3,v29] (fun v30 S=>cnW v30 (iaW 2 v10 v11 fun v34=>ldW S 2 true v34 fun v35=>srW 2 [v35] fun v36=>apW S 27 2 32 v9 v36 fun v37 S=>biW .add v11 (.int .i64 1) fun v21=>rcW r0 [(1,v1),(3,v3),(4,v4),(6,v6),(9,v37),(10,v10),(11,v21)] S) (biW .add v11 (.int .i64 1) fun v21=>rcW r0 [(1,v1),(3,v3),(4,v4),(6,v6),(9,v9),(10,v10),(11,v21)] S)) (pqW QF)) (rtW [.tmp v9] QF S)
def xk5 (QF:QT) (v0 v1 v2 v3:AV) (S:q00):Prop:=brW 1 v0 fun v4=>brW 2 v2 fun v6=>ldW S 1 true v4 fun v12=>caW PG S (jF 29) [v12,v1] (fun v14 S=>caW PG S (jF 64) [v14] (fun v15 S=>LoopP (fun r0 l S=>xaq QF r0 (y00 l 1) (y00 l 3) (y00 l 4) (y00 l 6) (y00 l 9) (y00 l 10) (y00 l 11) S) [(1,v1),(3,v3),(4,v4),(6,v6),(9,(.nils)),(10,v15),(11,(.int .i64 0))] S) (pqW QF)) (pqW QF)
theorem xlo (h:xk5 QF v0 v1 v2 v3 S):ACalls PG x7c [v0,v1,v2,v3] S QF:=wq xhs h
end Go.HL
