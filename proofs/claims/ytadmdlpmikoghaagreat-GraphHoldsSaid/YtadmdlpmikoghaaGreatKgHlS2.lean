/- A part of a proof. -/
import Derived.Test.YtadmdlpmikoghaaGreatKgHlP
set_option maxRecDepth 100000
set_option linter.unusedVariables false
namespace Go.HL
def tfx27:TFunc where
 n:=12
 args:=1
 res:=[.tmp 2,.tmp 3]
 code:=.seq (.reg [i1 1 (.boxr 24 1 (.t 0)),i1 2 (.mov (.c (.nils))),i1 3 (.mov (.c (.bool false)))] [1] []) (.seq (.reg [iL 5 1 1,i1 6 (.call (.f 52) [.t 5]),
  .box2 4 88 [.int .i64 0,.int .i64 0,.int .i64 0] 3 (.t 6)] [1,4] []) (.seq (.seq (.reg [ia 7 2 4,il 8 1 7,i1 9 (.bin .neq (.t 8) (.c (.int .i64 0)))] [1,9] []) (.cond (.t 9) (.seq (.reg [i1 2 (.mov (.c (.nils))),i1 3 (.mov (.c (.bool false)))] [2,3] []) (.ret)) (.skip))) (.seq (.reg [iL 10 1 1,i1 11 (.call (.f 65) [.t 10]),im 2 11,i1 3 (.mov (.c (.bool true)))] [2,3] []) (.ret))))
abbrev nrx27:Nat:=27
def Bx27 (QF:AEnd→q00→Prop) (v0:AV) (S:q00):Prop:=brW 1 v0 fun v1=>ldW S 1 true v1 fun v5=>caW PG S (.func (.func 52) [] []) [v5] (fun v6 S=>bfW 3 v6 fun v4=>faW 2 v4 fun v7=>ldW S 1 false v7 fun v8=>biW .neq v8 (.int .i64 0) fun v9=>cnW v9 (rtW [.tmp (.nils),.tmp (.bool false)] QF S) (ldW S 1 true v1 fun v10=>caW PG S (.func (.func 65) [] []) [v10] (fun v11 S=>rtW [.tmp v11,.tmp (.bool true)] QF S) (pqW QF))) (pqW QF)
theorem wx27 {QF:AEnd→q00→Prop} {v0:AV} {S:q00} (h:Bx27 QF v0 S):ACalls PG nrx27 [v0] S QF:=
 q04 (F:=tfx27) (by kernel_rfl) rfl (by kernel_rfl) h
def tfx28:TFunc where
 n:=29
 args:=3
 res:=[.cell 6 6 true,.tmp 7]
 code:=.seq (.reg [i1 3 (.boxr 24 1 (.t 0)),i1 6 (.alloc 53 [.str ⟨#[]⟩,.nils,.int .i64 0,.str ⟨#[]⟩,.str ⟨#[]⟩,.nils]),i1 7 (.mov (.c (.bool false)))] [1,2,3,6] []) (.seq (.reg [iL 10 1 3,im 11 1,i1 12 (.call (.f 66) [.t 10,.t 11]),im 8 12] [2,3,6,8] []) (.seq (.reg [iL 13 1 3,im 14 8,im 15 2,i1 16 (.call (.f 67) [.t 13,.t 14,.t 15]),im 9 16] [3,6,8,9] []) (.seq (.seq (.reg [im 17 9,i1 18 (.bin .lss (.t 17) (.c (.int .i64 0)))] [3,6,8,9,18] []) (.cond (.t 18) (.seq (.reg [i1 19 (.build [.str ⟨#[]⟩,.nils,.int .i64 0,.str ⟨#[]⟩,.str ⟨#[]⟩,.nils] []),i0 (.store 6 (.t 6) (.t 19)),i1 7 (.mov (.c (.bool false)))] [6,7] []) (.ret)) (.skip))) (.seq (.reg [ia 20 0 3,il 21 1 20,im 22 8,i1 23 (.iaddr 2 (.t 21) (.t 22)),ia 24 1 23,il 25 1 24,im 26 9,i1 27 (.iaddr 6 (.t 25) (.t 26)),iL 28 6 27,i0 (.store 6 (.t 6) (.t 28)),i1 7 (.mov (.c (.bool true)))] [6,7] []) (.ret)))))
abbrev nrx28:Nat:=28
def Bx28 (QF:AEnd→q00→Prop) (v0 v1 v2:AV) (S:q00):Prop:=brW 1 v0 fun v3=>alW S 53 [.str ⟨#[]⟩,.nils,.int .i64 0,.str ⟨#[]⟩,.str ⟨#[]⟩,.nils] fun v6 S=>ldW S 1 true v3 fun v10=>caW PG S (.func (.func 66) [] []) [v10,v1] (fun v12 S=>ldW S 1 true v3 fun v13=>caW PG S (.func (.func 67) [] []) [v13,v12,v2] (fun v16 S=>biW .lss v16 (.int .i64 0) fun v18=>cnW v18 (bdW [.str ⟨#[]⟩,.nils,.int .i64 0,.str ⟨#[]⟩,.str ⟨#[]⟩,.nils] [] fun v19=>stW S 6 v6 v19 fun S=>rtW [.cell v6 6 true,.tmp (.bool false)] QF S) (faW 0 v3 fun v20=>ldW S 1 false v20 fun v21=>iaW 2 v21 v12 fun v23=>faW 1 v23 fun v24=>ldW S 1 false v24 fun v25=>iaW 6 v25 v16 fun v27=>ldW S 6 true v27 fun v28=>stW S 6 v6 v28 fun S=>rtW [.cell v6 6 true,.tmp (.bool true)] QF S)) (pqW QF)) (pqW QF)
theorem wx28 {QF:AEnd→q00→Prop} {v0 v1 v2:AV} {S:q00} (h:Bx28 QF v0 v1 v2 S):ACalls PG nrx28 [v0,v1,v2] S QF:=
 q04 (F:=tfx28) (by kernel_rfl) rfl (by kernel_rfl) h
def tfx29:TFunc where
 n:=28
 args:=2
 res:=[.tmp 4]
 code:=.seq (.reg [i1 2 (.boxr 24 1 (.t 0)),i1 4 (.mov (.c (.nils)))] [1,2] []) (.seq (.reg [i1 5 (.mov (.c (.nils)))] [1,2,5] []) (.seq (.seq (.reg [i1 6 (.mov (.c (.int .i64 0)))] [1,2,5,6] []) (.block 0 (.loop [1,2,5,6] (.seq (.seq (.reg [im 7 6,im 8 1,i1 9 (.len 1 (.t 8)),i1 10 (.bin .lss (.t 7) (.t 9))] [1,2,5,6,10] []) (.cond (.t 10) (.skip) (.exit 0))) (.seq (.block 1 (.seq (.regl [1,2,3,0,4,5,6] [im 14 1,im 15 6,i1 16 (.iaddr 6 (.t 14) (.t 15)),iL 13 1 2,iL 17 6 16,i1 18 (.call (.f 68) [.t 13,.t 17]),i1 19 (.bin .eql (.t 18) (.c (.int .i64 0)))] [1,2,5,6,19] []) (.cond (.t 19) (.reg [im 20 5,im 21 1,im 22 6,i1 23 (.iaddr 6 (.t 21) (.t 22)),iL 24 6 23,i1 25 (.bslicr 41 6 [.t 24]),i1 26 (.app 41 6 96 (.t 20) (.t 25)),im 5 26] [1,2,5,6] []) (.skip)))) (.reg [im 11 6,i1 12 (.bin .add (.t 11) (.c (.int .i64 1))),im 6 12] [1,2,5,6] [])))))) (.seq (.reg [im 27 5,im 4 27] [4] []) (.ret))))
abbrev nrx29:Nat:=29
def C29_1 (QF:AEnd→q00→Prop) (r0:LE→q00→Prop) (v1 v2 v5 v6:AV) (S:q00):Prop:=lnW S 1 v1 fun v9=>biW .lss v6 v9 fun v10=>cnW v10 (iaW 6 v1 v6 fun v16=>ldW S 1 true v2 fun v13=>ldW S 6 true v16 fun v17=>caW PG S (.func (.func 68) [] []) [v13,v17] (fun v18 S=>biW .eql v18 (.int .i64 0) fun v19=>cnW v19 (iaW 6 v1 v6 fun v23=>ldW S 6 true v23 fun v24=>srW 6 [v24] fun v25=>apW S 41 6 96 v5 v25 fun v26 S=>biW .add v6 (.int .i64 1) fun v12=>rcW r0 [(1,v1),(2,v2),(5,v26),(6,v12)] S) (biW .add v6 (.int .i64 1) fun v12=>rcW r0 [(1,v1),(2,v2),(5,v5),(6,v12)] S)) (pqW QF)) (rtW [.tmp v5] QF S)
def Bx29 (QF:AEnd→q00→Prop) (v0 v1:AV) (S:q00):Prop:=brW 1 v0 fun v2=>LoopP (fun r0 l S=>C29_1 QF r0 (lget l 1) (lget l 2) (lget l 5) (lget l 6) S) [(1,v1),(2,v2),(5,(.nils)),(6,(.int .i64 0))] S
theorem wx29 {QF:AEnd→q00→Prop} {v0 v1:AV} {S:q00} (h:Bx29 QF v0 v1 S):ACalls PG nrx29 [v0,v1] S QF:=
 q04 (F:=tfx29) (by kernel_rfl) rfl (by kernel_rfl) h
def tfx39:TFunc where
 n:=26
 args:=1
 res:=[.tmp 2]
 code:=.seq (.reg [i1 1 (.boxr 39 3 (.t 0)),i1 2 (.mov (.c (.str ⟨#[]⟩)))] [1] []) (.seq (.reg [ia 5 0 1,iL 6 2 5,i1 7 (.call (.f 40) [.t 6]),im 3 7] [1,3] []) (.seq (.reg [ia 8 2 1,il 9 1 8,i1 10 (.call (.f 78) [.t 9]),im 4 10] [1,3,4] []) (.seq (.seq (.reg [im 11 3,i1 12 (.bin .eql (.t 11) (.c (.str ⟨#[]⟩))),im 13 12,
  .grp 13 false [s1 14 (.faddr 2 (.t 1)),s1 15 (.load 1 false (.t 14)),s1 16 (.bin .eql (.t 15) (.c (.str ⟨#[]⟩)))],i1 17 (.pick (.t 13) (.c (.bool true)) (.t 16))] [1,3,4,17] []) (.cond (.t 17) (.seq (.reg [im 18 3,im 2 18] [2] []) (.ret)) (.skip))) (.seq (.seq (.reg [im 19 4,i1 20 (.not (.t 19))] [1,3,20] []) (.cond (.t 20) (.seq (.reg [i1 2 (.mov (.c (.str ⟨#[]⟩)))] [2] []) (.ret)) (.skip))) (.seq (.reg [im 21 3,i1 22 (.bin .add (.t 21) (.c (.str ⟨#[35]⟩))),ia 23 2 1,il 24 1 23,i1 25 (.bin .add (.t 22) (.t 24)),im 2 25] [2] []) (.ret))))))
abbrev nrx39:Nat:=39
def C39_1 (QF:AEnd→q00→Prop) (v1 v3 v4 v17:AV) (S:q00):Prop:=cnW v17 (rtW [.tmp v3] QF S) (ntW v4 fun v20=>cnW v20 (rtW [.tmp (.str ⟨#[]⟩)] QF S) (biW .add v3 (.str ⟨#[35]⟩) fun v22=>faW 2 v1 fun v23=>ldW S 1 false v23 fun v24=>biW .add v22 v24 fun v25=>rtW [.tmp v25] QF S))
def Bx39 (QF:AEnd→q00→Prop) (v0:AV) (S:q00):Prop:=brW 3 v0 fun v1=>faW 0 v1 fun v5=>ldW S 2 true v5 fun v6=>caW PG S (.func (.func 40) [] []) [v6] (fun v7 S=>faW 2 v1 fun v8=>ldW S 1 false v8 fun v9=>caW PG S (.func (.func 78) [] []) [v9] (fun v10 S=>biW .eql v7 (.str ⟨#[]⟩) fun v12=>grW v12 false (faW 2 v1 fun v14=>ldW S 1 false v14 fun v15=>biW .eql v15 (.str ⟨#[]⟩) fun v16=>pkW v12 (.bool true) v16 fun v17=>C39_1 QF v1 v7 v10 v17 S) (pkW v12 (.bool true) q06 fun v17=>C39_1 QF v1 v7 v10 v17 S)) (pqW QF)) (pqW QF)
theorem wx39 {QF:AEnd→q00→Prop} {v0:AV} {S:q00} (h:Bx39 QF v0 S):ACalls PG nrx39 [v0] S QF:=
 q04 (F:=tfx39) (by kernel_rfl) rfl (by kernel_rfl) h
def tfx40:TFunc where
 n:=23
 args:=1
 res:=[.tmp 2]
 code:=.seq (.reg [i1 1 (.boxr 27 2 (.t 0)),i1 2 (.mov (.c (.str ⟨#[]⟩)))] [1] []) (.seq (.reg [ia 5 0 1,il 6 1 5,i1 7 (.call (.f 78) [.t 6]),im 3 7] [1,3] []) (.seq (.reg [ia 8 1 1,il 9 1 8,i1 10 (.call (.f 79) [.t 9]),im 4 10] [1,3,4] []) (.seq (.seq (.reg [im 11 3,i1 12 (.not (.t 11)),im 13 12,
  .grp 13 false [s1 14 (.mov (.t 4)),s1 15 (.not (.t 14))],i1 16 (.pick (.t 13) (.c (.bool true)) (.t 15))] [1,16] []) (.cond (.t 16) (.seq (.reg [i1 2 (.mov (.c (.str ⟨#[]⟩)))] [2] []) (.ret)) (.skip))) (.seq (.reg [ia 17 0 1,il 18 1 17,i1 19 (.bin .add (.t 18) (.c (.str ⟨#[58]⟩))),ia 20 1 1,il 21 1 20,i1 22 (.bin .add (.t 19) (.t 21)),im 2 22] [2] []) (.ret)))))
abbrev nrx40:Nat:=40
def C40_1 (QF:AEnd→q00→Prop) (v1 v16:AV) (S:q00):Prop:=cnW v16 (rtW [.tmp (.str ⟨#[]⟩)] QF S) (faW 0 v1 fun v17=>ldW S 1 false v17 fun v18=>biW .add v18 (.str ⟨#[58]⟩) fun v19=>faW 1 v1 fun v20=>ldW S 1 false v20 fun v21=>biW .add v19 v21 fun v22=>rtW [.tmp v22] QF S)
def Bx40 (QF:AEnd→q00→Prop) (v0:AV) (S:q00):Prop:=brW 2 v0 fun v1=>faW 0 v1 fun v5=>ldW S 1 false v5 fun v6=>caW PG S (.func (.func 78) [] []) [v6] (fun v7 S=>faW 1 v1 fun v8=>ldW S 1 false v8 fun v9=>caW PG S (.func (.func 79) [] []) [v9] (fun v10 S=>ntW v7 fun v12=>grW v12 false (ntW v10 fun v15=>pkW v12 (.bool true) v15 fun v16=>C40_1 QF v1 v16 S) (pkW v12 (.bool true) q06 fun v16=>C40_1 QF v1 v16 S)) (pqW QF)) (pqW QF)
theorem wx40 {QF:AEnd→q00→Prop} {v0:AV} {S:q00} (h:Bx40 QF v0 S):ACalls PG nrx40 [v0] S QF:=
 q04 (F:=tfx40) (by kernel_rfl) rfl (by kernel_rfl) h
end Go.HL
