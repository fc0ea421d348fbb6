/- A part of a proof. -/
import Derived.Test.YtadmdlpmikoghaaGreatKeHlP
set_option maxRecDepth 100000
set_option linter.unusedVariables false
namespace Go.HL
variable {QF:QT} {S:q00} {v0 v1 v2 v3 v4 v5 v6 v7 v8:AV}
def xhr:TFunc where
 n:=12
 args:=1
 res:=[.tmp 2,.tmp 3]
 code:=js (jr [jx 1 24 1 0,i1 2 (.mov (.c (.nils))),jo 3 false] [1]) (js (jr [iL 5 1 1,jf 6 52 [.t 5],
  .box2 4 88 [.int .i64 0,.int .i64 0,.int .i64 0] 3 (.t 6)] [1,4]) (js (js (jr [ia 7 2 4,il 8 1 7,jb 9 .neq 8 .i64 0] [1,9]) (jd 9 (js (jr [i1 2 (.mov (.c (.nils))),jo 3 false] [2,3]) jR) jz)) (js (jr [iL 10 1 1,jf 11 65 [.t 10],im 2 11,jo 3 true] [2,3]) jR)))
abbrev x7b:Nat:=27
def xk4 (QF:QT) (v0:AV) (S:q00):Prop:=brW 1 v0 fun v1=>ldW S 1 true v1 fun v5=>caW PG S (jF 52) [v5] (fun v6 S=>bfW 3 v6 fun v4=>faW 2 v4 fun v7=>ldW S 1 false v7 fun v8=>biW .neq v8 (.int .i64 0) fun v9=>cnW v9 (rtW [.tmp (.nils),.tmp (.bool false)] QF S) (ldW S 1 true v1 fun v10=>caW PG S (jF 65) [v10] (fun v11 S=>rtW [.tmp v11,.tmp (.bool true)] QF S) (pqW QF))) (pqW QF)
theorem xln (h:xk4 QF v0 S):ACalls PG x7b [v0] S QF:=wq xhr h
def xhq:TFunc where
 n:=29
 args:=3
 res:=[.cell 6 6 true,.tmp 7]
 code:=js (.reg [jx 3 24 1 0,i1 6 (.alloc 53 [.str ⟨#[]⟩,.nils,.int .i64 0,.str ⟨#[]⟩,.str ⟨#[]⟩,.nils]),jo 7 false] [1,2,3,6] []) (js (jr [iL 10 1 3,im 11 1,jf 12 66 [.t 10,.t 11],im 8 12] [2,3,6,8]) (js (jr [iL 13 1 3,im 14 8,im 15 2,jf 16 67 [.t 13,.t 14,.t 15],im 9 16] [3,6,8,9]) (js (js (jr [im 17 9,jb 18 .lss 17 .i64 0] [3,6,8,9,18]) (jd 18 (js (.reg [i1 19 (.build [.str ⟨#[]⟩,.nils,.int .i64 0,.str ⟨#[]⟩,.str ⟨#[]⟩,.nils] []),jS 6 6 19,jo 7 false] [6,7] []) jR) jz)) (js (jr [ia 20 0 3,il 21 1 20,im 22 8,ja 23 2 21 22,ia 24 1 23,il 25 1 24,im 26 9,ja 27 6 25 26,iL 28 6 27,jS 6 6 28,jo 7 true] [6,7]) jR))))
abbrev x7a:Nat:=28
def xk3 (QF:QT) (v0 v1 v2:AV) (S:q00):Prop:=brW 1 v0 fun v3=>alW S 53 [.str ⟨#[]⟩,.nils,.int .i64 0,.str ⟨#[]⟩,.str ⟨#[]⟩,.nils] fun v6 S=>ldW S 1 true v3 fun v10=>caW PG S (jF 66) [v10,v1] (fun v12 S=>ldW S 1 true v3 fun v13=>caW PG S (jF 67) [v13,v12,v2] (fun v16 S=>biW .lss v16 (.int .i64 0) fun v18=>cnW v18 (bdW [.str ⟨#[]⟩,.nils,.int .i64 0,.str ⟨#[]⟩,.str ⟨#[]⟩,.nils] [] fun v19=>stW S 6 v6 v19 fun S=>rtW [.cell v6 6 true,.tmp (.bool false)] QF S) (faW 0 v3 fun v20=>ldW S 1 false v20 fun v21=>iaW 2 v21 v12 fun v23=>faW 1 v23 fun v24=>ldW S 1 false v24 fun v25=>iaW 6 v25 v16 fun v27=>ldW S 6 true v27 fun v28=>stW S 6 v6 v28 fun S=>rtW [.cell v6 6 true,.tmp (.bool true)] QF S)) (pqW QF)) (pqW QF)
theorem xlm (h:xk3 QF v0 v1 v2 S):ACalls PG x7a [v0,v1,v2] S QF:=wq xhq h
def xhp:TFunc where
 n:=28
 args:=2
 res:=[.tmp 4]
 code:=js (jr [jx 2 24 1 0,i1 4 (.mov (.c (.nils)))] [1,2]) (js (jr [i1 5 (.mov (.c (.nils)))] [1,2,5]) (js (js (jr [jc 6 .i64 0] [1,2,5,6]) (jB 0 (.loop [1,2,5,6] (js (js (jr [im 7 6,im 8 1,jl 9 1 8,jt 10 .lss 7 9] [1,2,5,6,10]) (jd 10 jz (jE 0))) (js (jB 1 (js (.regl [1,2,3,0,4,5,6] [im 14 1,im 15 6,ja 16 6 14 15,iL 13 1 2,iL 17 6 16,jf 18 68 [.t 13,.t 17],jb 19 .eql 18 .i64 0] [1,2,5,6,19] []) (jd 19 (jr [im 20 5,im 21 1,im 22 6,ja 23 6 21 22,iL 24 6 23,i1 25 (.bslicr 41 6 [.t 24]),i1 26 (.app 41 6 96 (.t 20) (.t 25)),im 5 26] [1,2,5,6]) jz))) (jr [im 11 6,jb 12 .add 11 .i64 1,im 6 12] [1,2,5,6])))))) (js (jr [im 27 5,im 4 27] [4]) jR)))
abbrev x79:Nat:=29
def xap (QF:QT) (r0:RT) (v1 v2 v5 v6:AV) (S:q00):Prop:=lnW S 1 v1 fun v9=>biW .lss v6 v9 fun v10=>cnW v10 (iaW 6 v1 v6 fun v16=>ldW S 1 true v2 fun v13=>ldW S 6 true v16 fun v17=>caW PG S (jF 68) [v13,v17] (fun v18 S=>biW .eql v18 (.int .i64 0) fun v19=>cnW v19 (iaW 6 v1 v6 fun v23=>ldW S 6 true v23 fun v24=>srW 6 [v24] fun v25=>apW S 41 6 96 v5 v25 fun v26 S=>biW .add v6 (.int .i64 1) fun v12=>rcW r0 [(1,v1),(2,v2),(5,v26),(6,v12)] S) (biW .add v6 (.int .i64 1) fun v12=>rcW r0 [(1,v1),(2,v2),(5,v5),(6,v12)] S)) (pqW QF)) (rtW [.tmp v5] QF S)
def xk2 (QF:QT) (v0 v1:AV) (S:q00):Prop:=brW 1 v0 fun v2=>LoopP (fun r0 l S=>xap QF r0 (y00 l 1) (y00 l 2) (y00 l 5) (y00 l 6) S) [(1,v1),(2,v2),(5,(.nils)),(6,(.int .i64 0))] S
theorem xll (h:xk2 QF v0 v1 S):ACalls PG x79 [v0,v1] S QF:=wq xhp h
def xho:TFunc where
 n:=26
 args:=1
 res:=[.tmp 2]
 code:=js (jr [jx 1 39 3 0,i1 2 (.mov (.c (.str ⟨#[]⟩)))] [1]) (js (jr [ia 5 0 1,iL 6 2 5,jf 7 40 [.t 6],im 3 7] [1,3]) (js (jr [ia 8 2 1,il 9 1 8,jf 10 78 [.t 9],im 4 10] [1,3,4]) (js (js (.reg [im 11 3,i1 12 (.bin .eql (.t 11) (.c (.str ⟨#[]⟩))),im 13 12,
  .grp 13 false [s1 14 (.faddr 2 (.t 1)),s1 15 (.load 1 false (.t 14)),s1 16 (.bin .eql (.t 15) (.c (.str ⟨#[]⟩)))],jq 17 13 16] [1,3,4,17] []) (jd 17 (js (jr [im 18 3,im 2 18] [2]) jR) jz)) (js (js (jr [im 19 4,jk 20 19] [1,3,20]) (jd 20 (js (jr [i1 2 (.mov (.c (.str ⟨#[]⟩)))] [2]) jR) jz)) (js (jr [im 21 3,i1 22 (.bin .add (.t 21) (.c (.str ⟨#[35]⟩))),ia 23 2 1,il 24 1 23,jt 25 .add 22 24,im 2 25] [2]) jR)))))
abbrev x78:Nat:=39
def yn5 (QF:QT) (v1 v3 v4 v17:AV) (S:q00):Prop:=cnW v17 (rtW [.tmp v3] QF S) (ntW v4 fun v20=>cnW v20 (rtW [.tmp (.str ⟨#[]⟩)] QF S) (biW .add v3 (.str ⟨#[35]⟩) fun v22=>faW 2 v1 fun v23=>ldW S 1 false v23 fun v24=>biW .add v22 v24 fun v25=>rtW [.tmp v25] QF S))
def xk1 (QF:QT) (v0:AV) (S:q00):Prop:=brW 3 v0 fun v1=>faW 0 v1 fun v5=>ldW S 2 true v5 fun v6=>caW PG S (jF 40) [v6] (fun v7 S=>faW 2 v1 fun v8=>ldW S 1 false v8 fun v9=>caW PG S (jF 78) [v9] (fun v10 S=>biW .eql v7 (.str ⟨#[]⟩) fun v12=>grW v12 false (faW 2 v1 fun v14=>ldW S 1 false v14 fun v15=>biW .eql v15 (.str ⟨#[]⟩) fun v16=>pkW v12 (.bool true) v16 fun v17=>yn5 QF v1 v7 v10 v17 S) (pkW v12 (.bool true) q07 fun v17=>yn5 QF v1 v7 v10 v17 S)) (pqW QF)) (pqW QF)
theorem xlk (h:xk1 QF v0 S):ACalls PG x78 [v0] S QF:=wq xho h
def xhn:TFunc where
 n:=23
 args:=1
 res:=[.tmp 2]
 code:=js (jr [jx 1 27 2 0,i1 2 (.mov (.c (.str ⟨#[]⟩)))] [1]) (js (jr [ia 5 0 1,il 6 1 5,jf 7 78 [.t 6],im 3 7] [1,3]) (js (jr [ia 8 1 1,il 9 1 8,jf 10 79 [.t 9],im 4 10] [1,3,4]) (js (js (jr [im 11 3,jk 12 11,im 13 12,
  .grp 13 false [s1 14 (.mov (.t 4)),s1 15 (.not (.t 14))],jq 16 13 15] [1,16]) (jd 16 (js (jr [i1 2 (.mov (.c (.str ⟨#[]⟩)))] [2]) jR) jz)) (js (jr [ia 17 0 1,il 18 1 17,i1 19 (.bin .add (.t 18) (.c (.str ⟨#[58]⟩))),ia 20 1 1,il 21 1 20,jt 22 .add 19 21,im 2 22] [2]) jR))))
abbrev x77:Nat:=40
def x1x (QF:QT) (v1 v16:AV) (S:q00):Prop:=cnW v16 (rtW [.tmp (.str ⟨#[]⟩)] QF S) (faW 0 v1 fun v17=>ldW S 1 false v17 fun v18=>biW .add v18 (.str ⟨#[58]⟩) fun v19=>faW 1 v1 fun v20=>ldW S 1 false v20 fun v21=>biW .add v19 v21 fun v22=>rtW [.tmp v22] QF S)
def xk0 (QF:QT) (v0:AV) (S:q00):Prop:=brW 2 v0 fun v1=>faW 0 v1 fun v5=>ldW S 1 false v5 fun v6=>caW PG S (jF 78) [v6] (fun v7 S=>faW 1 v1 fun v8=>ldW S 1 false v8 fun v9=>caW PG S (jF 79) [v9] (fun v10 S=>ntW v7 fun v12=>grW v12 false (ntW v10 fun v15=>pkW v12 (.bool true) v15 fun v16=>x1x QF v1 v16 S) (pkW v12 (.bool true) q07 fun v16=>x1x QF v1 v16 S)) (pqW QF)) (pqW QF)
theorem xlj (h:xk0 QF v0 S):ACalls PG x77 [v0] S QF:=wq xhn h
end Go.HL
