/- A part of a proof. -/
import Derived.Test.YtadmdlpmikoghaaGreatKeHlP
set_option maxRecDepth 100000
set_option linter.unusedVariables false
namespace Go.HL
variable {QF:QT} {S:q00} {v0 v1 v2 v3 v4 v5 v6 v7 v8:AV}
def xgv:TFunc where
 n:=33
 args:=2
 res:=[.tmp 4]
 code:=js (jr [jo 4 false] [0,1]) (js (js (.regl [0,1,2,3,4,5,6,7,8,9,11,12,13,18,10,14,15,16,17,19,20] [im 5 0,jn 6 5,ia 7 3 6,ia 8 2 7,il 9 1 8,jb 10 .neq 9 .i64 0,im 11 10,
  .grp 11 false [s1 12 (.mov (.t 0)),s1 13 (.nilck (.t 12)),s1 14 (.faddr 0 (.t 13)),s1 16 (.mov (.t 0)),s1 17 (.nilck (.t 16)),s1 18 (.faddr 1 (.t 17)),s1 23 (.mov (.t 1)),s1 15 (.load 1 false (.t 14)),s1 19 (.load 1 false (.t 18)),s1 20 (.iaddr 3 (.t 15) (.t 19)),s1 21 (.faddr 0 (.t 20)),s1 22 (.load 1 false (.t 21)),s1 24 (.bin .neq (.t 22) (.t 23))],jq 25 11 24] [0,25] []) (jd 25 (js (jr [jo 4 false] [4]) jR) jz)) (js (jr [im 26 0,jn 27 26,ia 28 1 27,il 29 1 28,jb 30 .add 29 .i64 1,jn 31 26,ia 32 1 31,jS 1 32 30] []) (js (jr [jo 4 true] [4]) jR)))
abbrev x6i:Nat:=84
def ymv (QF:QT) (v0 v25:AV) (S:q00):Prop:=cnW v25 (rtW [.tmp (.bool false)] QF S) (nkW v0 fun v27=>faW 1 v27 fun v28=>ldW S 1 false v28 fun v29=>biW .add v29 (.int .i64 1) fun v30=>nkW v0 fun v31=>faW 1 v31 fun v32=>stW S 1 v32 v30 fun S=>rtW [.tmp (.bool true)] QF S)
def xj9 (QF:QT) (v0 v1:AV) (S:q00):Prop:=nkW v0 fun v6=>faW 3 v6 fun v7=>faW 2 v7 fun v8=>ldW S 1 false v8 fun v9=>biW .neq v9 (.int .i64 0) fun v10=>grW v10 false (nkW v0 fun v13=>faW 0 v13 fun v14=>nkW v0 fun v17=>faW 1 v17 fun v18=>ldW S 1 false v14 fun v15=>ldW S 1 false v18 fun v19=>iaW 3 v15 v19 fun v20=>faW 0 v20 fun v21=>ldW S 1 false v21 fun v22=>biW .neq v22 v1 fun v24=>pkW v10 (.bool true) v24 fun v25=>ymv QF v0 v25 S) (pkW v10 (.bool true) q07 fun v25=>ymv QF v0 v25 S)
theorem xkr (h:xj9 QF v0 v1 S):ACalls PG x6i [v0,v1] S QF:=wq xgv h
def xgu:TFunc where
 n:=32
 args:=1
 res:=[.tmp 2]
 code:=js (jr [i1 2 (.mov (.c (.str ⟨#[]⟩)))] [0]) (js (.reg [im 5 0,jf 6 87 [.t 5],
  .box2 3 149 [.str ⟨#[]⟩,.int .i64 0,.int .i64 0] 3 (.t 6)] [0,3] []) (js (jr [ia 7 0 3,il 8 1 7,jf 9 78 [.t 8],im 4 9] [0,3,4]) (js (js (jr [im 10 4,jk 11 10,im 12 11,
  .grp 12 false [s1 13 (.mov (.t 0)),s1 14 (.nilck (.t 13)),s1 15 (.faddr 3 (.t 14)),s1 16 (.faddr 2 (.t 15)),s1 17 (.load 1 false (.t 16)),s1 18 (.bin .neq (.t 17) (.c (.int .i64 0)))],jq 19 12 18] [0,3,19]) (jd 19 (js (jr [im 20 0,iL 21 3 3,jf 22 88 [.t 20,.t 21,.c (.int .i64 8)]] []) (js (jr [i1 2 (.mov (.c (.str ⟨#[]⟩)))] [2]) jR)) jz)) (js (jr [im 23 0,jn 24 23,ia 25 1 24,il 26 1 25,jb 27 .add 26 .i64 1,jn 28 23,ia 29 1 28,jS 1 29 27] [3]) (js (jr [ia 30 0 3,il 31 1 30,im 2 31] [2]) jR)))))
abbrev x6h:Nat:=85
def ymu (QF:QT) (v0 v3 v19:AV) (S:q00):Prop:=cnW v19 (ldW S 3 true v3 fun v21=>caW PG S (jF 88) [v0,v21,(.int .i64 8)] (fun v22 S=>rtW [.tmp (.str ⟨#[]⟩)] QF S) (pqW QF)) (nkW v0 fun v24=>faW 1 v24 fun v25=>ldW S 1 false v25 fun v26=>biW .add v26 (.int .i64 1) fun v27=>nkW v0 fun v28=>faW 1 v28 fun v29=>stW S 1 v29 v27 fun S=>faW 0 v3 fun v30=>ldW S 1 false v30 fun v31=>rtW [.tmp v31] QF S)
def xj8 (QF:QT) (v0:AV) (S:q00):Prop:=caW PG S (jF 87) [v0] (fun v6 S=>bfW 3 v6 fun v3=>faW 0 v3 fun v7=>ldW S 1 false v7 fun v8=>caW PG S (jF 78) [v8] (fun v9 S=>ntW v9 fun v11=>grW v11 false (nkW v0 fun v14=>faW 3 v14 fun v15=>faW 2 v15 fun v16=>ldW S 1 false v16 fun v17=>biW .neq v17 (.int .i64 0) fun v18=>pkW v11 (.bool true) v18 fun v19=>ymu QF v0 v3 v19 S) (pkW v11 (.bool true) q07 fun v19=>ymu QF v0 v3 v19 S)) (pqW QF)) (pqW QF)
theorem xkq (h:xj8 QF v0 S):ACalls PG x6h [v0] S QF:=wq xgu h
def xgt:TFunc where
 n:=42
 args:=1
 res:=[.cell 2 6 true,.tmp 3]
 code:=js (.reg [i1 2 (.alloc 53 [.str ⟨#[]⟩,.nils,.int .i64 0,.str ⟨#[]⟩,.str ⟨#[]⟩,.nils]),jo 3 false] [0,2] []) (js (.reg [i1 5 (.build [.str ⟨#[]⟩,.nils,.int .i64 0,.str ⟨#[]⟩,.str ⟨#[]⟩,.nils] []),i1 4 (.alloc 53 [.str ⟨#[]⟩,.nils,.int .i64 0,.str ⟨#[]⟩,.str ⟨#[]⟩,.nils]),jS 6 4 5] [0,2,4] []) (js (js (.reg [im 6 0,i1 7 (.call (.f 84) [.t 6,.c (.str ⟨#[114,101,108,97,116,105,111,110]⟩)])] [0,2,4,7] []) (jd 7 (js (jr [im 8 0,jf 9 85 [.t 8],ia 10 0 4,jS 1 10 9] [0,2,4]) (js (.reg [im 11 0,i1 12 (.call (.f 130) [.t 11,.c (.str ⟨#[58]⟩)])] [0,2,4] []) (js (.regl [0,2,1,3,4,5,6,7] [ia 13 1 4,im 15 0,il 14 1 13,
  .one { d:=some 16,o:=.call (.f 131) [.t 15],x:=[13] },i1 17 (.bslicr 171 2 [.t 16]),i1 18 (.app 171 2 32 (.t 14) (.t 17)),ia 19 1 4,jS 1 19 18] [0,2,4] []) (js (jB 0 (.loop [0,2,4] (js (js (.reg [im 20 0,i1 21 (.call (.f 84) [.t 20,.c (.str ⟨#[124]⟩)])] [0,2,4,21] []) (jd 21 jz (jE 0))) (jB 1 (.regl [0,2,1,3,4,5,6,7] [ia 22 1 4,im 24 0,il 23 1 22,
  .one { d:=some 25,o:=.call (.f 131) [.t 24],x:=[22] },i1 26 (.bslicr 171 2 [.t 25]),i1 27 (.app 171 2 32 (.t 23) (.t 26)),ia 28 1 4,jS 1 28 27] [0,2,4] []))))) (js (jr [iL 29 6 4,jS 6 2 29,jo 3 true] [2,3]) jR))))) jz)) (js (js (.reg [im 30 0,i1 31 (.call (.f 84) [.t 30,.c (.str ⟨#[100,101,102,105,110,101]⟩)])] [0,2,4,31] []) (jd 31 (js (jr [im 32 0,jf 33 85 [.t 32],ia 34 0 4,jS 1 34 33] [0,2,4]) (js (.reg [im 35 0,i1 36 (.call (.f 130) [.t 35,.c (.str ⟨#[58]⟩)])] [0,2,4] []) (js (jr [im 37 0,jf 38 132 [.t 37],ia 39 2 4,jS 4 39 38] [2,4]) (js (jr [iL 40 6 4,jS 6 2 40,jo 3 true] [2,3]) jR)))) jz)) (js (jr [iL 41 6 4,jS 6 2 41,jo 3 false] [2,3]) jR))))
abbrev x6g:Nat:=86
def x9u (QF:QT) (r0:RT) (v0 v2 v4:AV) (S:q00):Prop:=caW PG S (jF 84) [v0,(.str ⟨#[124]⟩)] (fun v21 S=>cnW v21 (faW 1 v4 fun v22=>ldW S 1 false v22 fun v23=>caW PG S (jF 131) [v0] (fun v25 S2=>kpW [v22] S S2 ( srW 2 [v25] fun v26=>apW S2 171 2 32 v23 v26 fun v27 S=>faW 1 v4 fun v28=>stW S 1 v28 v27 fun S=>rcW r0 [(0,v0),(2,v2),(4,v4)] S)) (pqW QF)) (ldW S 6 true v4 fun v29=>stW S 6 v2 v29 fun S=>rtW [.cell v2 6 true,.tmp (.bool true)] QF S)) (pqW QF)
def xj7 (QF:QT) (v0:AV) (S:q00):Prop:=alW S 53 [.str ⟨#[]⟩,.nils,.int .i64 0,.str ⟨#[]⟩,.str ⟨#[]⟩,.nils] fun v2 S=>bdW [.str ⟨#[]⟩,.nils,.int .i64 0,.str ⟨#[]⟩,.str ⟨#[]⟩,.nils] [] fun v5=>alW S 53 [.str ⟨#[]⟩,.nils,.int .i64 0,.str ⟨#[]⟩,.str ⟨#[]⟩,.nils] fun v4 S=>stW S 6 v4 v5 fun S=>caW PG S (jF 84) [v0,(.str ⟨#[114,101,108,97,116,105,111,110]⟩)] (fun v7 S=>cnW v7 (caW PG S (jF 85) [v0] (fun v9 S=>faW 0 v4 fun v10=>stW S 1 v10 v9 fun S=>caW PG S (jF 130) [v0,(.str ⟨#[58]⟩)] (fun v12 S=>faW 1 v4 fun v13=>ldW S 1 false v13 fun v14=>caW PG S (jF 131) [v0] (fun v16 S1=>kpW [v13] S S1 ( srW 2 [v16] fun v17=>apW S1 171 2 32 v14 v17 fun v18 S=>faW 1 v4 fun v19=>stW S 1 v19 v18 fun S=>LoopP (fun r0 l S=>x9u QF r0 (y00 l 0) (y00 l 2) (y00 l 4) S) [(0,v0),(2,v2),(4,v4)] S)) (pqW QF)) (pqW QF)) (pqW QF)) (caW PG S (jF 84) [v0,(.str ⟨#[100,101,102,105,110,101]⟩)] (fun v31 S=>cnW v31 (caW PG S (jF 85) [v0] (fun v33 S=>faW 0 v4 fun v34=>stW S 1 v34 v33 fun S=>caW PG S (jF 130) [v0,(.str ⟨#[58]⟩)] (fun v36 S=>caW PG S (jF 132) [v0] (fun v38 S=>faW 2 v4 fun v39=>stW S 4 v39 v38 fun S=>ldW S 6 true v4 fun v40=>stW S 6 v2 v40 fun S=>rtW [.cell v2 6 true,.tmp (.bool true)] QF S) (pqW QF)) (pqW QF)) (pqW QF)) (ldW S 6 true v4 fun v41=>stW S 6 v2 v41 fun S=>rtW [.cell v2 6 true,.tmp (.bool false)] QF S)) (pqW QF))) (pqW QF)
theorem xkp (h:xj7 QF v0 S):ACalls PG x6g [v0] S QF:=wq xgt h
def xgs:TFunc where
 n:=13
 args:=1
 res:=[.cell 2 3 true]
 code:=js (.reg [i1 2 (.alloc 149 [.str ⟨#[]⟩,.int .i64 0,.int .i64 0])] [0,2] []) (js (.regl [0,1,2,4,5,6,3,7,8,9,10] [im 3 0,jn 4 3,ia 5 0 4,im 7 0,jn 8 7,ia 9 1 8,il 6 1 5,il 10 1 9,ja 11 3 6 10,iL 12 3 11,jS 3 2 12] [2] [2]) jR)
abbrev x6f:Nat:=87
def xj6 (QF:QT) (v0:AV) (S:q00):Prop:=alW S 149 [.str ⟨#[]⟩,.int .i64 0,.int .i64 0] fun v2 S=>nkW v0 fun v4=>faW 0 v4 fun v5=>nkW v0 fun v8=>faW 1 v8 fun v9=>ldW S 1 false v5 fun v6=>ldW S 1 false v9 fun v10=>iaW 3 v6 v10 fun v11=>ldW S 3 true v11 fun v12=>stW S 3 v2 v12 fun S=>fzW S v2 fun v2 S=>rtW [.cell v2 3 true] QF S
theorem xko (h:xj6 QF v0 S):ACalls PG x6f [v0] S QF:=wq xgs h
def xgr:TFunc where
 n:=21
 args:=3
 res:=[]
 code:=js (jr [jx 4 149 3 1] [0,2,4]) (js (jr [im 6 0,jn 7 6,ia 8 3 7,ia 9 2 8,il 10 1 9,jb 11 .eql 10 .i64 0] [0,2,4,11]) (jd 11 (jr [im 12 0,ia 13 1 4,il 14 1 13,ia 15 2 4,il 16 1 15,im 17 2,i1 18 (.build [.int .i64 0,.int .i64 0,.int .i64 0] [(0,1,.t 14),(1,1,.t 16),(2,1,.t 17)]),jn 19 12,ia 20 3 19,jS 3 20 18] []) jz))
abbrev x6e:Nat:=88
def xj5 (QF:QT) (v0 v1 v2:AV) (S:q00):Prop:=brW 3 v1 fun v4=>nkW v0 fun v7=>faW 3 v7 fun v8=>faW 2 v8 fun v9=>ldW S 1 false v9 fun v10=>biW .eql v10 (.int .i64 0) fun v11=>cnW v11 (faW 1 v4 fun v13=>ldW S 1 false v13 fun v14=>faW 2 v4 fun v15=>ldW S 1 false v15 fun v16=>bdW [.int .i64 0,.int .i64 0,.int .i64 0] [(0,1,v14),(1,1,v16),(2,1,v2)] fun v18=>nkW v0 fun v19=>faW 3 v19 fun v20=>stW S 3 v20 v18 fun S=>rtW [] QF S) (rtW [] QF S)
theorem xkn (h:xj5 QF v0 v1 v2 S):ACalls PG x6e [v0,v1,v2] S QF:=wq xgr h
def xgq:TFunc where
 n:=62
 args:=1
 res:=[.cell 2 6 true,.tmp 3]
 code:=js (.reg [i1 2 (.alloc 41 [.str ⟨#[]⟩,.str ⟨#[]⟩,.str ⟨#[]⟩,.str ⟨#[]⟩,.str ⟨#[]⟩,.str ⟨#[]⟩]),jo 3 false] [0,2] []) (js (jr [im 16 0,jf 17 133 [.t 16,.c (.int .u8 64)],im 15 17,je 18 15 0,je 19 15 1,je 20 15 2,im 4 18,im 5 19,im 6 20] [2,4,5,6]) (js (jr [im 22 4,jf 23 133 [.t 22,.c (.int .u8 35)],im 21 23,je 24 21 0,je 25 21 1,je 26 21 2,im 7 24,im 8 25,im 9 26] [2,5,6,7,8,9]) (js (.reg [im 28 7,jf 29 134 [.t 28],im 27 29,je 30 27 0,je 31 27 1,
  .box2 10 27 [.str ⟨#[]⟩,.str ⟨#[]⟩] 2 (.t 30),im 11 31] [2,5,6,8,9,10,11] []) (js (.reg [im 33 5,jf 34 135 [.t 33],im 32 34,je 35 32 0,je 36 32 1,
  .box2 12 39 [.str ⟨#[]⟩,.str ⟨#[]⟩,.str ⟨#[]⟩] 3 (.t 35),im 13 36] [2,6,8,9,10,11,12,13] []) (js (jr [im 37 8,jf 38 78 [.t 37],im 14 38] [2,6,8,9,10,11,12,13,14]) (js (js (jr [im 39 6,jk 40 39,im 41 40,
  .grp 41 false [s1 42 (.mov (.t 9)),s1 43 (.not (.t 42))],jq 44 41 43,im 45 44,
  .grp 45 false [s1 46 (.mov (.t 11)),s1 47 (.not (.t 46))],jq 48 45 47,im 49 48,
  .grp 49 false [s1 50 (.mov (.t 13)),s1 51 (.not (.t 50))],jq 52 49 51,im 53 52,
  .grp 53 false [s1 54 (.mov (.t 14)),s1 55 (.not (.t 54))],jq 56 53 55] [2,8,10,12,56]) (jd 56 (js (.reg [i1 57 (.build [.str ⟨#[]⟩,.str ⟨#[]⟩,.str ⟨#[]⟩,.str ⟨#[]⟩,.str ⟨#[]⟩,.str ⟨#[]⟩] []),jS 6 2 57,jo 3 false] [2,3] []) jR) jz)) (js (.reg [iL 58 2 10,im 59 8,iL 60 3 12,i1 61 (.build [.str ⟨#[]⟩,.str ⟨#[]⟩,.str ⟨#[]⟩,.str ⟨#[]⟩,.str ⟨#[]⟩,.str ⟨#[]⟩] [(0,2,.t 58),(2,1,.t 59),(3,3,.t 60)]),jS 6 2 61,jo 3 true] [2,3] []) jR)))))))
abbrev x6d:Nat:=89
def x16 (QF:QT) (v2 v8 v10 v12 v56:AV) (S:q00):Prop:=cnW v56 (bdW [.str ⟨#[]⟩,.str ⟨#[]⟩,.str ⟨#[]⟩,.str ⟨#[]⟩,.str ⟨#[]⟩,.str ⟨#[]⟩] [] fun v57=>stW S 6 v2 v57 fun S=>rtW [.cell v2 6 true,.tmp (.bool false)] QF S) (ldW S 2 true v10 fun v58=>ldW S 3 true v12 fun v60=>bdW [.str ⟨#[]⟩,.str ⟨#[]⟩,.str ⟨#[]⟩,.str ⟨#[]⟩,.str ⟨#[]⟩,.str ⟨#[]⟩] [(0,2,v58),(2,1,v8),(3,3,v60)] fun v61=>stW S 6 v2 v61 fun S=>rtW [.cell v2 6 true,.tmp (.bool true)] QF S)
def x17 (QF:QT) (v2 v8 v10 v12 v14 v52:AV) (S:q00):Prop:=grW v52 false (ntW v14 fun v55=>pkW v52 (.bool true) v55 fun v56=>x16 QF v2 v8 v10 v12 v56 S) (pkW v52 (.bool true) q07 fun v56=>x16 QF v2 v8 v10 v12 v56 S)
def x18 (QF:QT) (v2 v8 v10 v12 v13 v14 v48:AV) (S:q00):Prop:=grW v48 false (ntW v13 fun v51=>pkW v48 (.bool true) v51 fun v52=>x17 QF v2 v8 v10 v12 v14 v52 S) (pkW v48 (.bool true) q07 fun v52=>x17 QF v2 v8 v10 v12 v14 v52 S)
def x19 (QF:QT) (v2 v8 v10 v11 v12 v13 v14 v44:AV) (S:q00):Prop:=grW v44 false (ntW v11 fun v47=>pkW v44 (.bool true) v47 fun v48=>x18 QF v2 v8 v10 v12 v13 v14 v48 S) (pkW v44 (.bool true) q07 fun v48=>x18 QF v2 v8 v10 v12 v13 v14 v48 S)
def xj4 (QF:QT) (v0:AV) (S:q00):Prop:=alW S 41 [.str ⟨#[]⟩,.str ⟨#[]⟩,.str ⟨#[]⟩,.str ⟨#[]⟩,.str ⟨#[]⟩,.str ⟨#[]⟩] fun v2 S=>caW PG S (jF 133) [v0,(.int .u8 64)] (fun v17 S=>exW 0 v17 fun v18=>exW 1 v17 fun v19=>exW 2 v17 fun v20=>caW PG S (jF 133) [v18,(.int .u8 35)] (fun v23 S=>exW 0 v23 fun v24=>exW 1 v23 fun v25=>exW 2 v23 fun v26=>caW PG S (jF 134) [v24] (fun v29 S=>exW 0 v29 fun v30=>exW 1 v29 fun v31=>bfW 2 v30 fun v10=>caW PG S (jF 135) [v19] (fun v34 S=>exW 0 v34 fun v35=>exW 1 v34 fun v36=>bfW 3 v35 fun v12=>caW PG S (jF 78) [v25] (fun v38 S=>ntW v20 fun v40=>grW v40 false (ntW v26 fun v43=>pkW v40 (.bool true) v43 fun v44=>x19 QF v2 v25 v10 v31 v12 v36 v38 v44 S) (pkW v40 (.bool true) q07 fun v44=>x19 QF v2 v25 v10 v31 v12 v36 v38 v44 S)) (pqW QF)) (pqW QF)) (pqW QF)) (pqW QF)) (pqW QF)
theorem xkm (h:xj4 QF v0 S):ACalls PG x6d [v0] S QF:=wq xgq h
def xgp:TFunc where
 n:=32
 args:=2
 res:=[.tmp 4]
 code:=js (jr [jx 2 51 4 0,jc 4 .i64 0] [1,2]) (js (js (jr [ia 6 3 2,il 7 1 6,jl 8 1 7,im 9 1,jt 10 .gtr 8 9] [1,2,10]) (jd 10 (js (jr [jc 4 .i64 0] [4]) jR) jz)) (js (jr [im 11 1,jb 12 .sub 11 .i64 1,im 1 12] [1,2]) (js (js (jr [jc 5 .i64 0] [1,2,5]) (jB 0 (.loop [1,2,5] (js (js (jr [im 13 5,ia 14 3 2,il 15 1 14,jl 16 1 15,jt 17 .lss 13 16,im 18 17,
  .grp 18 true [s1 19 (.mov (.t 1)),s1 20 (.bin .gtr (.t 19) (.c (.int .i64 0)))],jp 21 18 20] [1,2,5,21]) (jd 21 jz (jE 0))) (js (jB 1 (jr [ia 24 3 2,il 25 1 24,im 26 5,ja 27 4 25 26,iL 28 4 27,im 29 1,jf 30 90 [.t 28,.t 29],im 1 30] [1,2,5])) (jr [im 22 5,jb 23 .add 22 .i64 1,im 5 23] [1,2,5])))))) (js (jr [im 31 1,im 4 31] [4]) jR))))
abbrev x6c:Nat:=90
def x15 (QF:QT) (r0:RT) (v1 v2 v5 v21:AV) (S:q00):Prop:=cnW v21 (faW 3 v2 fun v24=>ldW S 1 false v24 fun v25=>iaW 4 v25 v5 fun v27=>ldW S 4 true v27 fun v28=>caW PG S (jF 90) [v28,v1] (fun v30 S=>biW .add v5 (.int .i64 1) fun v23=>rcW r0 [(1,v30),(2,v2),(5,v23)] S) (pqW QF)) (rtW [.tmp v1] QF S)
def x9t (QF:QT) (r0:RT) (v1 v2 v5:AV) (S:q00):Prop:=faW 3 v2 fun v14=>ldW S 1 false v14 fun v15=>lnW S 1 v15 fun v16=>biW .lss v5 v16 fun v17=>grW v17 true (biW .gtr v1 (.int .i64 0) fun v20=>pkW v17 v20 (.bool false) fun v21=>x15 QF r0 v1 v2 v5 v21 S) (pkW v17 q07 (.bool false) fun v21=>x15 QF r0 v1 v2 v5 v21 S)
def xj3 (QF:QT) (v0 v1:AV) (S:q00):Prop:=brW 4 v0 fun v2=>faW 3 v2 fun v6=>ldW S 1 false v6 fun v7=>lnW S 1 v7 fun v8=>biW .gtr v8 v1 fun v10=>cnW v10 (rtW [.tmp (.int .i64 0)] QF S) (biW .sub v1 (.int .i64 1) fun v12=>LoopP (fun r0 l S=>x9t QF r0 (y00 l 1) (y00 l 2) (y00 l 5) S) [(1,v12),(2,v2),(5,(.int .i64 0))] S)
theorem xkl (h:xj3 QF v0 v1 S):ACalls PG x6c [v0,v1] S QF:=wq xgp h
def xgo:TFunc where
 n:=86
 args:=1
 res:=[.tmp 2]
 code:=js (jr [jx 1 24 1 0,i1 2 (.mov (.c (.nilp)))] [1]) (js (jr [iL 12 1 1,i1 13 (.mkmap (false,[.str])),i1 14 (.mkmap (false,[.str])),i1 15 (.build [.nils,.map none,.map none] [(0,1,.t 12),(1,1,.t 13),(2,1,.t 14)]),jx 16 219 3 15,im 3 16] [1,3]) (js (js (jr [ia 17 0 1,il 18 1 17,jl 19 1 18,jc 20 .i64 0] [3,18,19,20]) (jB 0 (.loop [3,18,19,20] (js (jr [jt 21 .lss 20 19] [3,18,19,20,21]) (js (jd 21 jz (jE 0)) (js (jB 1 (js (.reg [im 22 20,ja 23 2 18 20,iL 24 2 23,i1 5 (.alloc 46 [.str ⟨#[]⟩,.nils]),im 4 22,jS 2 5 24] [3,4,5,18,19,20] [5]) (js (js (.regl [0,1,2,4,3,5,6,7,8,9,10,11] [im 26 3,jn 27 26,ia 28 1 27,ia 30 0 5,il 29 1 28,il 31 1 30,i1 32 (.lookup (false,[.str]) true (.int .i64 0) (.t 29) (.t 31)),im 25 32,je 33 25 0,je 34 25 1,im 6 33,im 7 34] [3,4,5,7,18,19,20] []) (js (jr [im 35 7] [3,4,5,18,19,20,35]) (jd 35 (jE 1) jz))) (js (.regl [0,1,2,4,6,3,5,7] [im 36 3,jn 37 36,ia 38 1 37,ia 40 0 5,im 42 4,il 39 1 38,il 41 1 40,i0 (.mupd (false,[.str]) (.t 39) (.t 41) (.t 42))] [3,5,18,19,20] []) (js (.regl [0,1,2,4,3,5,6,7] [im 43 3,jn 44 43,ia 45 2 44,ia 47 0 5,il 46 1 45,il 48 1 47,i1 49 (.mkmap (false,[.str])),i0 (.mupd (false,[.str]) (.t 46) (.t 48) (.t 49))] [3,5,18,19,20] []) (js (jr [ia 50 1 5,il 51 1 50,jl 52 1 51,jc 53 .i64 0] [3,5,18,19,20,51,52,53]) (jB 2 (.loop [3,5,18,19,20,51,52,53] (js (jr [jt 54 .lss 53 52] [3,5,18,19,20,51,52,53,54]) (js (jd 54 jz (jE 2)) (js (jB 3 (js (.reg [im 55 53,ja 56 6 51 53,iL 57 6 56,i1 9 (.alloc 53 [.str ⟨#[]⟩,.nils,.int .i64 0,.str ⟨#[]⟩,.str ⟨#[]⟩,.nils]),im 8 55,jS 6 9 57] [3,5,8,9,18,19,20,51,52,53] [9]) (js (.regl [0,1,2,4,7,3,5,6,8,9,10,11,12,13,14] [im 59 3,jn 60 59,ia 61 2 60,ia 63 0 5,ia 66 0 9,il 62 1 61,il 64 1 63,i1 65 (.lookup (false,[.str]) false (.map none) (.t 62) (.t 64)),il 67 1 66,i1 68 (.lookup (false,[.str]) true (.int .i64 0) (.t 65) (.t 67)),im 58 68,je 69 58 0,je 70 58 1,im 10 69,im 11 70] [3,5,8,9,11,18,19,20,51,52,53] []) (js (jr [im 71 11,jk 72 71] [3,5,8,9,18,19,20,51,52,53,72]) (jd 72 (.regl [0,1,2,4,7,9,3,5,6,8,10] [im 73 3,jn 74 73,ia 75 2 74,ia 77 0 5,ia 80 0 9,im 82 8,il 76 1 75,il 78 1 77,i1 79 (.lookup (false,[.str]) false (.map none) (.t 76) (.t 78)),il 81 1 80,i0 (.mupd (false,[.str]) (.t 79) (.t 81) (.t 82))] [3,5,18,19,20,51,52,53] []) jz))))) (jr [jb 83 .add 53 .i64 1,im 53 83] [3,5,18,19,20,51,52,53])))))))))))) (jr [jb 84 .add 20 .i64 1,im 20 84] [3,18,19,20]))))))) (js (jr [im 85 3,im 2 85] [2]) jR)))
abbrev x6b:Nat:=91
def x9r (QF:QT) (r0:RT) (r1:RT) (v3 v5 v18 v19 v20 v51 v52 v53:AV) (S:q00):Prop:=biW .lss v53 v52 fun v54=>cnW v54 (iaW 6 v51 v53 fun v56=>ldW S 6 true v56 fun v57=>alW S 53 [.str ⟨#[]⟩,.nils,.int .i64 0,.str ⟨#[]⟩,.str ⟨#[]⟩,.nils] fun v9 S=>stW S 6 v9 v57 fun S=>fzW S v9 fun v9 S=>nkW v3 fun v60=>faW 2 v60 fun v61=>faW 0 v5 fun v63=>faW 0 v9 fun v66=>ldW S 1 false v61 fun v62=>ldW S 1 false v63 fun v64=>lkW S (false,[.str]) false (.map none) v62 v64 fun v65=>ldW S 1 false v66 fun v67=>lkW S (false,[.str]) true (.int .i64 0) v65 v67 fun v68=>exW 0 v68 fun v69=>exW 1 v68 fun v70=>ntW v70 fun v72=>cnW v72 (nkW v3 fun v74=>faW 2 v74 fun v75=>faW 0 v5 fun v77=>faW 0 v9 fun v80=>ldW S 1 false v75 fun v76=>ldW S 1 false v77 fun v78=>lkW S (false,[.str]) false (.map none) v76 v78 fun v79=>ldW S 1 false v80 fun v81=>muW S (false,[.str]) v79 v81 v53 fun S=>biW .add v53 (.int .i64 1) fun v83=>rcW r1 [(3,v3),(5,v5),(18,v18),(19,v19),(20,v20),(51,v51),(52,v52),(53,v83)] S) (biW .add v53 (.int .i64 1) fun v83=>rcW r1 [(3,v3),(5,v5),(18,v18),(19,v19),(20,v20),(51,v51),(52,v52),(53,v83)] S)) (biW .add v20 (.int .i64 1) fun v84=>rcW r0 [(3,v3),(18,v18),(19,v19),(20,v84)] S)
def x9s (QF:QT) (r0:RT) (v3 v18 v19 v20:AV) (S:q00):Prop:=biW .lss v20 v19 fun v21=>cnW v21 (iaW 2 v18 v20 fun v23=>ldW S 2 true v23 fun v24=>alW S 46 [.str ⟨#[]⟩,.nils] fun v5 S=>stW S 2 v5 v24 fun S=>fzW S v5 fun v5 S=>nkW v3 fun v27=>faW 1 v27 fun v28=>faW 0 v5 fun v30=>ldW S 1 false v28 fun v29=>ldW S 1 false v30 fun v31=>lkW S (false,[.str]) true (.int .i64 0) v29 v31 fun v32=>exW 0 v32 fun v33=>exW 1 v32 fun v34=>cnW v34 (biW .add v20 (.int .i64 1) fun v84=>rcW r0 [(3,v3),(18,v18),(19,v19),(20,v84)] S) (nkW v3 fun v37=>faW 1 v37 fun v38=>faW 0 v5 fun v40=>ldW S 1 false v38 fun v39=>ldW S 1 false v40 fun v41=>muW S (false,[.str]) v39 v41 v20 fun S=>nkW v3 fun v44=>faW 2 v44 fun v45=>faW 0 v5 fun v47=>ldW S 1 false v45 fun v46=>ldW S 1 false v47 fun v48=>mmW S (false,[.str]) fun v49 S=>muW S (false,[.str]) v46 v48 v49 fun S=>faW 1 v5 fun v50=>ldW S 1 false v50 fun v51=>lnW S 1 v51 fun v52=>LoopP (fun r1 l S=>x9r QF r0 r1 (y00 l 3) (y00 l 5) (y00 l 18) (y00 l 19) (y00 l 20) (y00 l 51) (y00 l 52) (y00 l 53) S) [(3,v3),(5,v5),(18,v18),(19,v19),(20,v20),(51,v51),(52,v52),(53,(.int .i64 0))] S)) (rtW [.tmp v3] QF S)
def xj2 (QF:QT) (v0:AV) (S:q00):Prop:=brW 1 v0 fun v1=>ldW S 1 true v1 fun v12=>mmW S (false,[.str]) fun v13 S=>mmW S (false,[.str]) fun v14 S=>bdW [.nils,.map none,.map none] [(0,1,v12),(1,1,v13),(2,1,v14)] fun v15=>brW 3 v15 fun v16=>faW 0 v1 fun v17=>ldW S 1 false v17 fun v18=>lnW S 1 v18 fun v19=>LoopP (fun r0 l S=>x9s QF r0 (y00 l 3) (y00 l 18) (y00 l 19) (y00 l 20) S) [(3,v16),(18,v18),(19,v19),(20,(.int .i64 0))] S
theorem xkk (h:xj2 QF v0 S):ACalls PG x6b [v0] S QF:=wq xgo h
def xgn:TFunc where
 n:=38
 args:=1
 res:=[.cell 2 3 true]
 code:=js (jr [jx 1 155 1 0,i1 2 (.alloc 88 [.int .i64 0,.int .i64 0,.int .i64 0])] [1,2]) (js (js (.reg [il 4 1 1,jn 5 4,ia 6 0 5,ia 7 0 6,il 8 1 7,jl 9 1 8,jb 10 .eql 9 .i64 0,im 11 10,
  .grp 11 false [s1 12 (.load 1 false (.t 1)),s1 13 (.nilck (.t 12)),s1 14 (.faddr 0 (.t 13)),s1 15 (.load 1 true (.t 14)),s1 16 (.call (.f 136) [.t 15]),s1 17 (.not (.t 16))],jq 18 11 17] [1,2,18] []) (jd 18 (js (jr [i1 19 (.build [.int .i64 0,.int .i64 0,.int .i64 0] [(1,1,.c (.int .i64 (-1))),(2,1,.c (.int .i64 1))]),jS 3 2 19] [2]) jR) jz)) (js (jr [il 20 1 1,jn 21 20,ia 22 0 21,iL 23 1 22,jf 24 137 [.t 23],i1 3 (.alloc 88 [.int .i64 0,.int .i64 0,.int .i64 0]),jS 3 3 24] [1,2,3]) (js (js (jr [ia 25 2 3,il 26 1 25,jb 27 .eql 26 .i64 0] [1,2,3,27]) (jd 27 (jr [il 28 1 1,i1 29 (.mkf (.func 138) [] [.t 1]),jf 30 94 [.t 28,.t 29],jS 3 3 30] [1,2,3]) jz)) (js (js (jr [ia 31 2 3,il 32 1 31,jb 33 .eql 32 .i64 0] [1,2,3,33]) (jd 33 (jr [il 34 1 1,i1 35 (.mkf (.func 139) [] [.t 1]),jf 36 94 [.t 34,.t 35],jS 3 3 36] [2,3]) jz)) (js (jr [iL 37 3 3,jS 3 2 37] [2]) jR)))))
abbrev x6a:Nat:=92
def x13 (QF:QT) (v2 v3:AV) (S:q00):Prop:=ldW S 3 true v3 fun v37=>stW S 3 v2 v37 fun S=>rtW [.cell v2 3 true] QF S
def x14 (QF:QT) (v1 v2 v3:AV) (S:q00):Prop:=faW 2 v3 fun v31=>ldW S 1 false v31 fun v32=>biW .eql v32 (.int .i64 0) fun v33=>cnW v33 (ldW S 1 false v1 fun v34=>caW PG S (jF 94) [v34,(.func (.func 139) [] [v1])] (fun v36 S=>stW S 3 v3 v36 fun S=>x13 QF v2 v3 S) (pqW QF)) (x13 QF v2 v3 S)
def yrp (QF:QT) (v1 v2 v18:AV) (S:q00):Prop:=cnW v18 (bdW [.int .i64 0,.int .i64 0,.int .i64 0] [(1,1,(.int .i64 (-1))),(2,1,(.int .i64 1))] fun v19=>stW S 3 v2 v19 fun S=>rtW [.cell v2 3 true] QF S) (ldW S 1 false v1 fun v20=>nkW v20 fun v21=>faW 0 v21 fun v22=>ldW S 1 true v22 fun v23=>caW PG S (jF 137) [v23] (fun v24 S=>alW S 88 [.int .i64 0,.int .i64 0,.int .i64 0] fun v3 S=>stW S 3 v3 v24 fun S=>faW 2 v3 fun v25=>ldW S 1 false v25 fun v26=>biW .eql v26 (.int .i64 0) fun v27=>cnW v27 (ldW S 1 false v1 fun v28=>caW PG S (jF 94) [v28,(.func (.func 138) [] [v1])] (fun v30 S=>stW S 3 v3 v30 fun S=>x14 QF v1 v2 v3 S) (pqW QF)) (x14 QF v1 v2 v3 S)) (pqW QF))
def xj1 (QF:QT) (v0:AV) (S:q00):Prop:=brW 1 v0 fun v1=>alW S 88 [.int .i64 0,.int .i64 0,.int .i64 0] fun v2 S=>ldW S 1 false v1 fun v4=>nkW v4 fun v5=>faW 0 v5 fun v6=>faW 0 v6 fun v7=>ldW S 1 false v7 fun v8=>lnW S 1 v8 fun v9=>biW .eql v9 (.int .i64 0) fun v10=>grW v10 false (ldW S 1 false v1 fun v12=>nkW v12 fun v13=>faW 0 v13 fun v14=>ldW S 1 true v14 fun v15=>caW PG S (jF 136) [v15] (fun v16 S=>ntW v16 fun v17=>pkW v10 (.bool true) v17 fun v18=>yrp QF v1 v2 v18 S) (pqW QF)) (pkW v10 (.bool true) q07 fun v18=>yrp QF v1 v2 v18 S)
theorem xkj (h:xj1 QF v0 S):ACalls PG x6a [v0] S QF:=wq xgn h
def xgm:TFunc where
 n:=20
 args:=1
 res:=[.tmp 2,.tmp 3]
 code:=js (jr [jx 1 155 1 0,i1 2 (.mov (.c (.map none))),jc 3 .i64 0] [1]) (js (.reg [i1 7 (.mkmap (true,[.int .i64,.int .i64])),i1 8 (.mkmap (true,[.int .i64,.int .i64])),i1 4 (.alloc 158 [.map none]),i1 5 (.alloc 223 [.map none]),jS 1 4 7,jS 1 5 8] [1,4,5] [4,5]) (js (jr [il 9 1 1,i1 10 (.mkf (.func 141) [] [.t 1,.t 5]),jf 11 94 [.t 9,.t 10]] [1,4,5]) (js (js (jr [i1 6 (.alloc 4 [.bool false]),i0 (.store 1 (.t 6) (.c (.bool true)))] [1,4,5,6]) (jB 0 (.loop [1,4,5,6] (js (js (jr [il 12 1 6] [1,4,5,6,12]) (jd 12 jz (jE 0))) (js (jB 1 (js (jr [i0 (.store 1 (.t 6) (.c (.bool false)))] [1,4,5,6]) (jr [il 13 1 1,i1 14 (.mkf (.func 143) [] [.t 5,.t 4,.t 6]),jf 15 94 [.t 13,.t 14]] [1,4,5,6]))) (js (jr [il 16 1 6] [1,4,5,16]) (jr [i1 6 (.alloc 4 [.bool false]),jS 1 6 16] [1,4,5,6]))))))) (js (jr [il 17 1 4,il 18 1 5,jl 19 2 18,im 2 17,im 3 19] [2,3]) jR))))
abbrev x69:Nat:=93
def x9q (QF:QT) (r0:RT) (v1 v4 v5 v6:AV) (S:q00):Prop:=ldW S 1 false v6 fun v12=>cnW v12 (stW S 1 v6 (.bool false) fun S=>ldW S 1 false v1 fun v13=>caW PG S (jF 94) [v13,(.func (.func 143) [] [v5,v4,v6])] (fun v15 S=>ldW S 1 false v6 fun v16=>alW S 4 [.bool false] fun v6 S=>stW S 1 v6 v16 fun S=>rcW r0 [(1,v1),(4,v4),(5,v5),(6,v6)] S) (pqW QF)) (ldW S 1 false v4 fun v17=>ldW S 1 false v5 fun v18=>lnW S 2 v18 fun v19=>rtW [.tmp v17,.tmp v19] QF S)
def xj0 (QF:QT) (v0:AV) (S:q00):Prop:=brW 1 v0 fun v1=>mmW S (true,[.int .i64,.int .i64]) fun v7 S=>mmW S (true,[.int .i64,.int .i64]) fun v8 S=>alW S 158 [.map none] fun v4 S=>alW S 223 [.map none] fun v5 S=>stW S 1 v4 v7 fun S=>stW S 1 v5 v8 fun S=>fzW S v4 fun v4 S=>fzW S v5 fun v5 S=>ldW S 1 false v1 fun v9=>caW PG S (jF 94) [v9,(.func (.func 141) [] [v1,v5])] (fun v11 S=>alW S 4 [.bool false] fun v6 S=>stW S 1 v6 (.bool true) fun S=>LoopP (fun r0 l S=>x9q QF r0 (y00 l 1) (y00 l 4) (y00 l 5) (y00 l 6) S) [(1,v1),(4,v4),(5,v5),(6,v6)] S) (pqW QF)
theorem xki (h:xj0 QF v0 S):ACalls PG x69 [v0] S QF:=wq xgm h
def xgl:TFunc where
 n:=45
 args:=2
 res:=[.cell 4 3 true]
 code:=js (jr [i1 4 (.alloc 88 [.int .i64 0,.int .i64 0,.int .i64 0])] [0,1,4]) (js (js (jr [im 10 0,jn 11 10,ia 12 0 11,ia 13 0 12,il 14 1 13,jl 15 1 14,jc 16 .i64 0] [1,4,14,15,16]) (jB 0 (.loop [1,4,14,15,16] (js (jr [jt 17 .lss 16 15] [1,4,14,15,16,17]) (js (jd 17 jz (jE 0)) (js (jB 1 (js (.reg [im 18 16,ja 19 2 14 16,iL 20 2 19,i1 6 (.alloc 46 [.str ⟨#[]⟩,.nils]),im 5 18,jS 2 6 20] [1,4,5,6,14,15,16] [6]) (js (jr [ia 21 1 6,il 22 1 21,jl 23 1 22,jc 24 .i64 0] [1,4,5,6,14,15,16,22,23,24]) (jB 2 (.loop [1,4,5,6,14,15,16,22,23,24] (js (jr [jt 25 .lss 24 23] [1,4,5,6,14,15,16,22,23,24,25]) (js (jd 25 jz (jE 2)) (js (jB 3 (js (.reg [im 26 24,ja 27 6 22 24,iL 28 6 27,i1 8 (.alloc 53 [.str ⟨#[]⟩,.nils,.int .i64 0,.str ⟨#[]⟩,.str ⟨#[]⟩,.nils]),im 7 26,jS 6 8 28] [1,4,5,6,7,8,14,15,16,22,23,24] [8]) (js (jr [im 29 1,im 30 5,im 31 7,i1 32 (.build [.int .i64 0,.int .i64 0] [(0,1,.t 30),(1,1,.t 31)]),iL 33 2 6,iL 34 6 8,i1 35 (.call (.t 29) [.t 32,.t 33,.t 34]),im 9 35] [1,4,5,6,7,9,14,15,16,22,23,24]) (js (jr [im 36 9,jb 37 .neq 36 .i64 0] [1,4,5,6,7,9,14,15,16,22,23,24,37]) (jd 37 (js (jr [im 38 5,im 39 7,im 40 9,i1 41 (.build [.int .i64 0,.int .i64 0,.int .i64 0] [(0,1,.t 38),(1,1,.t 39),(2,1,.t 40)]),jS 3 4 41] [4]) jR) jz))))) (jr [jb 42 .add 24 .i64 1,im 24 42] [1,4,5,6,14,15,16,22,23,24]))))))))) (jr [jb 43 .add 16 .i64 1,im 16 43] [1,4,14,15,16]))))))) (js (jr [i1 44 (.build [.int .i64 0,.int .i64 0,.int .i64 0] []),jS 3 4 44] [4]) jR))
abbrev yyg:Nat:=94
def x9o (QF:QT) (r0:RT) (r1:RT) (v1 v4 v5 v6 v14 v15 v16 v22 v23 v24:AV) (S:q00):Prop:=biW .lss v24 v23 fun v25=>cnW v25 (iaW 6 v22 v24 fun v27=>ldW S 6 true v27 fun v28=>alW S 53 [.str ⟨#[]⟩,.nils,.int .i64 0,.str ⟨#[]⟩,.str ⟨#[]⟩,.nils] fun v8 S=>stW S 6 v8 v28 fun S=>fzW S v8 fun v8 S=>bdW [.int .i64 0,.int .i64 0] [(0,1,v5),(1,1,v24)] fun v32=>ldW S 2 true v6 fun v33=>ldW S 6 true v8 fun v34=>caW PG S v1 [v32,v33,v34] (fun v35 S=>biW .neq v35 (.int .i64 0) fun v37=>cnW v37 (bdW [.int .i64 0,.int .i64 0,.int .i64 0] [(0,1,v5),(1,1,v24),(2,1,v35)] fun v41=>stW S 3 v4 v41 fun S=>rtW [.cell v4 3 true] QF S) (biW .add v24 (.int .i64 1) fun v42=>rcW r1 [(1,v1),(4,v4),(5,v5),(6,v6),(14,v14),(15,v15),(16,v16),(22,v22),(23,v23),(24,v42)] S)) (pqW QF)) (biW .add v16 (.int .i64 1) fun v43=>rcW r0 [(1,v1),(4,v4),(14,v14),(15,v15),(16,v43)] S)
def x9p (QF:QT) (r0:RT) (v1 v4 v14 v15 v16:AV) (S:q00):Prop:=biW .lss v16 v15 fun v17=>cnW v17 (iaW 2 v14 v16 fun v19=>ldW S 2 true v19 fun v20=>alW S 46 [.str ⟨#[]⟩,.nils] fun v6 S=>stW S 2 v6 v20 fun S=>fzW S v6 fun v6 S=>faW 1 v6 fun v21=>ldW S 1 false v21 fun v22=>lnW S 1 v22 fun v23=>LoopP (fun r1 l S=>x9o QF r0 r1 (y00 l 1) (y00 l 4) (y00 l 5) (y00 l 6) (y00 l 14) (y00 l 15) (y00 l 16) (y00 l 22) (y00 l 23) (y00 l 24) S) [(1,v1),(4,v4),(5,v16),(6,v6),(14,v14),(15,v15),(16,v16),(22,v22),(23,v23),(24,(.int .i64 0))] S) (bdW [.int .i64 0,.int .i64 0,.int .i64 0] [] fun v44=>stW S 3 v4 v44 fun S=>rtW [.cell v4 3 true] QF S)
def xiz (QF:QT) (v0 v1:AV) (S:q00):Prop:=alW S 88 [.int .i64 0,.int .i64 0,.int .i64 0] fun v4 S=>nkW v0 fun v11=>faW 0 v11 fun v12=>faW 0 v12 fun v13=>ldW S 1 false v13 fun v14=>lnW S 1 v14 fun v15=>LoopP (fun r0 l S=>x9p QF r0 (y00 l 1) (y00 l 4) (y00 l 14) (y00 l 15) (y00 l 16) S) [(1,v1),(4,v4),(14,v14),(15,v15),(16,(.int .i64 0))] S
theorem xkh (h:xiz QF v0 v1 S):ACalls PG yyg [v0,v1] S QF:=wq xgl h
def xgk:TFunc where
 n:=14
 args:=5
 res:=[.tmp 8]
 code:=js (jr [jx 5 163 2 0,jx 6 46 2 1,jx 7 53 6 2,jc 8 .i64 0] [3,4,5]) (js (js (.regl [0,1,2,3,4] [il 9 1 3,iL 10 2 5,i1 11 (.lookup (true,[.int .i64,.int .i64]) false (.int .i64 0) (.t 9) (.t 10)),il 12 1 4,jt 13 .gtr 11 12] [13] []) (jd 13 (js (jr [jc 8 .i64 11] [8]) jR) jz)) (js (jr [jc 8 .i64 0] [8]) jR))
abbrev yyf:Nat:=95
def xiy (QF:QT) (v0 v1 v2 v3 v4:AV) (S:q00):Prop:=brW 2 v0 fun v5=>brW 2 v1 fun v6=>brW 6 v2 fun v7=>ldW S 1 false v3 fun v9=>ldW S 2 true v5 fun v10=>lkW S (true,[.int .i64,.int .i64]) false (.int .i64 0) v9 v10 fun v11=>ldW S 1 false v4 fun v12=>biW .gtr v11 v12 fun v13=>cnW v13 (rtW [.tmp (.int .i64 11)] QF S) (rtW [.tmp (.int .i64 0)] QF S)
theorem xkg (h:xiy QF v0 v1 v2 v3 v4 S):ACalls PG yyf [v0,v1,v2,v3,v4] S QF:=wq xgk h
def xgj:TFunc where
 n:=39
 args:=3
 res:=[.cell 6 2 true,.tmp 7]
 code:=js (jr [i1 6 (.alloc 163 [.int .i64 0,.int .i64 0]),jo 7 false] [0,1,2,6]) (js (jr [im 13 0,jn 14 13,ia 15 1 14,il 16 1 15,im 17 1,i1 18 (.lookup (false,[.str]) true (.int .i64 0) (.t 16) (.t 17)),im 12 18,je 19 12 0,je 20 12 1,im 8 19,im 9 20] [0,1,2,6,8,9]) (js (jr [im 22 0,jn 23 22,ia 24 2 23,il 25 1 24,im 26 1,i1 27 (.lookup (false,[.str]) false (.map none) (.t 25) (.t 26)),im 28 2,i1 29 (.lookup (false,[.str]) true (.int .i64 0) (.t 27) (.t 28)),im 21 29,je 30 21 0,je 31 21 1,im 10 30,im 11 31] [6,8,9,10,11]) (js (.reg [im 32 8,im 33 10,i1 34 (.build [.int .i64 0,.int .i64 0] [(0,1,.t 32),(1,1,.t 33)]),im 35 9,im 36 35,
  .grp 36 true [s1 37 (.mov (.t 11))],jp 38 36 37,jS 2 6 34,im 7 38] [6,7] [6]) jR)))
abbrev x68:Nat:=96
def xix (QF:QT) (v0 v1 v2:AV) (S:q00):Prop:=alW S 163 [.int .i64 0,.int .i64 0] fun v6 S=>nkW v0 fun v14=>faW 1 v14 fun v15=>ldW S 1 false v15 fun v16=>lkW S (false,[.str]) true (.int .i64 0) v16 v1 fun v18=>exW 0 v18 fun v19=>exW 1 v18 fun v20=>nkW v0 fun v23=>faW 2 v23 fun v24=>ldW S 1 false v24 fun v25=>lkW S (false,[.str]) false (.map none) v25 v1 fun v27=>lkW S (false,[.str]) true (.int .i64 0) v27 v2 fun v29=>exW 0 v29 fun v30=>exW 1 v29 fun v31=>bdW [.int .i64 0,.int .i64 0] [(0,1,v19),(1,1,v30)] fun v34=>grW v20 true (pkW v20 v31 (.bool false) fun v38=>stW S 2 v6 v34 fun S=>fzW S v6 fun v6 S=>rtW [.cell v6 2 true,.tmp v38] QF S) (pkW v20 q07 (.bool false) fun v38=>stW S 2 v6 v34 fun S=>fzW S v6 fun v6 S=>rtW [.cell v6 2 true,.tmp v38] QF S)
theorem xkf (h:xix QF v0 v1 v2 S):ACalls PG x68 [v0,v1,v2] S QF:=wq xgj h
def xgi:TFunc where
 n:=19
 args:=2
 res:=[.cell 4 6 true]
 code:=js (.reg [jx 3 163 2 1,i1 4 (.alloc 53 [.str ⟨#[]⟩,.nils,.int .i64 0,.str ⟨#[]⟩,.str ⟨#[]⟩,.nils])] [0,3,4] []) (js (.regl [0,1,2,3,5,10,4,6,7,8,9,11,12,13,14] [im 5 0,jn 6 5,ia 7 0 6,ia 8 0 7,ia 10 0 3,ia 15 1 3,il 9 1 8,il 11 1 10,ja 12 2 9 11,ia 13 1 12,il 14 1 13,il 16 1 15,ja 17 6 14 16,iL 18 6 17,jS 6 4 18] [4] [4]) jR)
abbrev x67:Nat:=97
def xiw (QF:QT) (v0 v1:AV) (S:q00):Prop:=brW 2 v1 fun v3=>alW S 53 [.str ⟨#[]⟩,.nils,.int .i64 0,.str ⟨#[]⟩,.str ⟨#[]⟩,.nils] fun v4 S=>nkW v0 fun v6=>faW 0 v6 fun v7=>faW 0 v7 fun v8=>faW 0 v3 fun v10=>faW 1 v3 fun v15=>ldW S 1 false v8 fun v9=>ldW S 1 false v10 fun v11=>iaW 2 v9 v11 fun v12=>faW 1 v12 fun v13=>ldW S 1 false v13 fun v14=>ldW S 1 false v15 fun v16=>iaW 6 v14 v16 fun v17=>ldW S 6 true v17 fun v18=>stW S 6 v4 v18 fun S=>fzW S v4 fun v4 S=>rtW [.cell v4 6 true] QF S
theorem xke (h:xiw QF v0 v1 S):ACalls PG x67 [v0,v1] S QF:=wq xgi h
def xgh:TFunc where
 n:=31
 args:=1
 res:=[.tmp 2]
 code:=js (jr [jx 1 41 6 0,i1 2 (.mov (.c (.str ⟨#[]⟩)))] [1]) (js (.regl [0,3,1,4,2,5,6,7] [ia 5 0 1,ia 8 3 1,iL 6 2 5,iL 9 3 8,
  .one { d:=some 7,o:=.call (.f 124) [.t 6],x:=[8] },jf 10 125 [.t 9],im 3 7,im 4 10] [1,3,4] []) (js (js (.reg [im 11 3,i1 12 (.bin .eql (.t 11) (.c (.str ⟨#[]⟩))),im 13 12,
  .grp 13 false [s1 14 (.mov (.t 4)),s1 15 (.bin .eql (.t 14) (.c (.str ⟨#[]⟩)))],jq 16 13 15,im 17 16,
  .grp 17 false [s1 18 (.faddr 2 (.t 1)),s1 19 (.load 1 false (.t 18)),s1 20 (.call (.f 144) [.t 19]),s1 21 (.not (.t 20))],jq 22 17 21] [1,3,4,22] []) (jd 22 (js (jr [i1 2 (.mov (.c (.str ⟨#[]⟩)))] [2]) jR) jz)) (js (jr [im 23 3,i1 24 (.bin .add (.t 23) (.c (.str ⟨#[35]⟩))),ia 25 2 1,il 26 1 25,jt 27 .add 24 26,i1 28 (.bin .add (.t 27) (.c (.str ⟨#[64]⟩))),im 29 4,jt 30 .add 28 29,im 2 30] [2]) jR)))
abbrev x66:Nat:=98
def yif (QF:QT) (v1 v3 v4 v22:AV) (S:q00):Prop:=cnW v22 (rtW [.tmp (.str ⟨#[]⟩)] QF S) (biW .add v3 (.str ⟨#[35]⟩) fun v24=>faW 2 v1 fun v25=>ldW S 1 false v25 fun v26=>biW .add v24 v26 fun v27=>biW .add v27 (.str ⟨#[64]⟩) fun v28=>biW .add v28 v4 fun v30=>rtW [.tmp v30] QF S)
def ymt (QF:QT) (v1 v3 v4 v16:AV) (S:q00):Prop:=grW v16 false (faW 2 v1 fun v18=>ldW S 1 false v18 fun v19=>caW PG S (jF 144) [v19] (fun v20 S=>ntW v20 fun v21=>pkW v16 (.bool true) v21 fun v22=>yif QF v1 v3 v4 v22 S) (pqW QF)) (pkW v16 (.bool true) q07 fun v22=>yif QF v1 v3 v4 v22 S)
def xiv (QF:QT) (v0:AV) (S:q00):Prop:=brW 6 v0 fun v1=>faW 0 v1 fun v5=>faW 3 v1 fun v8=>ldW S 2 true v5 fun v6=>ldW S 3 true v8 fun v9=>caW PG S (jF 124) [v6] (fun v7 S1=>kpW [v8] S S1 ( caW PG S1 (jF 125) [v9] (fun v10 S=>biW .eql v7 (.str ⟨#[]⟩) fun v12=>grW v12 false (biW .eql v10 (.str ⟨#[]⟩) fun v15=>pkW v12 (.bool true) v15 fun v16=>ymt QF v1 v7 v10 v16 S) (pkW v12 (.bool true) q07 fun v16=>ymt QF v1 v7 v10 v16 S)) (pqW QF))) (pqW QF)
theorem xkd (h:xiv QF v0 S):ACalls PG x66 [v0] S QF:=wq xgh h
def xgg:TFunc where
 n:=11
 args:=2
 res:=[.tmp 3]
 code:=js (jr [jx 2 46 2 0,jo 3 false] [1,2]) (js (jr [ia 4 0 2,il 5 1 4,ia 6 3 1,ia 7 0 6,ia 8 0 7,il 9 1 8,jt 10 .eql 5 9,im 3 10] [3]) jR)
abbrev x65:Nat:=99
def xiu (QF:QT) (v0 v1:AV) (S:q00):Prop:=brW 2 v0 fun v2=>faW 0 v2 fun v4=>ldW S 1 false v4 fun v5=>faW 3 v1 fun v6=>faW 0 v6 fun v7=>faW 0 v7 fun v8=>ldW S 1 false v8 fun v9=>biW .eql v5 v9 fun v10=>rtW [.tmp v10] QF S
theorem xkc (h:xiu QF v0 v1 S):ACalls PG x65 [v0,v1] S QF:=wq xgg h
def x5j:TFunc where
 n:=9
 args:=2
 res:=[.tmp 4]
 code:=js (jr [jx 3 171 2 1,jo 4 false] [0,3]) (js (jr [im 5 0,iL 6 2 3,jf 7 145 [.t 5,.t 6],jb 8 .geq 7 .i64 0,im 4 8] [4]) jR)
abbrev yuj:Nat:=100
def xdg (QF:QT) (v0 v1:AV) (S:q00):Prop:=brW 2 v1 fun v3=>ldW S 2 true v3 fun v6=>caW PG S (jF 145) [v0,v6] (fun v7 S=>biW .geq v7 (.int .i64 0) fun v8=>rtW [.tmp v8] QF S) (pqW QF)
theorem xgd (h:xdg QF v0 v1 S):ACalls PG yuj [v0,v1] S QF:=wq x5j h
end Go.HL
