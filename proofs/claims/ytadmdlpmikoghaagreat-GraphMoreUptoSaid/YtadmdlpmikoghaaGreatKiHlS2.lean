/- A part of a proof. -/
import Derived.Test.YtadmdlpmikoghaaGreatKiHlP
set_option maxRecDepth 100000
set_option linter.unusedVariables false
namespace Go.HL
def tfx26:TFunc where
 n:=20
 args:=1
 res:=[.tmp 2]
 code:=.seq (.reg [i1 1 (.boxr 51 4 (.t 0)),i1 2 (.mov (.c (.bool false)))] [1] []) (.seq (.seq (.reg [ia 4 0 1,il 5 1 4,i1 6 (.bin .eql (.t 5) (.c (.int .i64 4)))] [1,6] []) (.cond (.t 6) (.seq (.reg [i1 2 (.mov (.c (.bool true)))] [2] []) (.ret)) (.skip))) (.seq (.seq (.reg [i1 3 (.mov (.c (.int .i64 0)))] [1,3] []) (.block 0 (.loop [1,3] (.seq (.seq (.reg [im 7 3,ia 8 3 1,il 9 1 8,i1 10 (.len 1 (.t 9)),i1 11 (.bin .lss (.t 7) (.t 10))] [1,3,11] []) (.cond (.t 11) (.skip) (.exit 0))) (.seq (.block 1 (.seq (.reg [ia 14 3 1,il 15 1 14,im 16 3,i1 17 (.iaddr 4 (.t 15) (.t 16)),iL 18 4 17,i1 19 (.call (.f 26) [.t 18])] [1,3,19] []) (.cond (.t 19) (.seq (.reg [i1 2 (.mov (.c (.bool true)))] [2] []) (.ret)) (.skip)))) (.reg [im 12 3,i1 13 (.bin .add (.t 12) (.c (.int .i64 1))),im 3 13] [1,3] [])))))) (.seq (.reg [i1 2 (.mov (.c (.bool false)))] [2] []) (.ret))))
abbrev nrx26:Nat:=26
def C26_1 (QF:AEnd→q00→Prop) (r0:LE→q00→Prop) (v1 v3:AV) (S:q00):Prop:=faW 3 v1 fun v8=>ldW S 1 false v8 fun v9=>lnW S 1 v9 fun v10=>biW .lss v3 v10 fun v11=>cnW v11 (faW 3 v1 fun v14=>ldW S 1 false v14 fun v15=>iaW 4 v15 v3 fun v17=>ldW S 4 true v17 fun v18=>caW PG S (.func (.func 26) [] []) [v18] (fun v19 S=>cnW v19 (rtW [.tmp (.bool true)] QF S) (biW .add v3 (.int .i64 1) fun v13=>rcW r0 [(1,v1),(3,v13)] S)) (pqW QF)) (rtW [.tmp (.bool false)] QF S)
def Bx26 (QF:AEnd→q00→Prop) (v0:AV) (S:q00):Prop:=brW 4 v0 fun v1=>faW 0 v1 fun v4=>ldW S 1 false v4 fun v5=>biW .eql v5 (.int .i64 4) fun v6=>cnW v6 (rtW [.tmp (.bool true)] QF S) (LoopP (fun r0 l S=>C26_1 QF r0 (lget l 1) (lget l 3) S) [(1,v1),(3,(.int .i64 0))] S)
theorem wx26 {QF:AEnd→q00→Prop} {v0:AV} {S:q00} (h:Bx26 QF v0 S):ACalls PG nrx26 [v0] S QF:=
 q02 (F:=tfx26) (by kernel_rfl) rfl (by kernel_rfl) h
end Go.HL
