/- A part of a proof. -/
import Derived.Test.YtadmdlpmikoghaaGreatKgHlP
set_option maxRecDepth 100000
set_option linter.unusedVariables false
namespace Go.HL
def tfx5:TFunc where
 n:=37
 args:=5
 res:=[.tmp 10]
 code:=.seq (.reg [i1 5 (.boxr 24 1 (.t 0)),i1 7 (.boxr 27 2 (.t 2)),i1 9 (.boxr 27 2 (.t 4)),i1 10 (.mov (.c (.bool false)))] [1,3,5,7,9] []) (.seq (.reg [i1 13 (.call (.f 21) []),im 11 13] [1,3,5,7,9,11] []) (.seq (.reg [iL 14 1 5,im 15 1,i1 16 (.call (.f 17) [.t 14,.t 15]),im 12 16] [1,3,5,7,9,11,12] []) (.seq (.seq (.reg [im 17 11,i1 18 (.not (.t 17)),im 19 18,
  .grp 19 false [s1 20 (.mov (.t 12)),s1 21 (.not (.t 20))],i1 22 (.pick (.t 19) (.c (.bool true)) (.t 21))] [1,3,5,7,9,11,22] []) (.cond (.t 22) (.seq (.reg [im 23 11,im 10 23] [10] []) (.ret)) (.skip))) (.seq (.regl [1,3,7,9,0,2,4,6,8,10,5,11,12,13] [im 25 1,im 27 3,im 31 1,im 33 3,iL 24 1 5,iL 26 2 7,iL 28 2 9,iL 30 1 5,iL 32 2 7,iL 34 2 9,
  .one { d:=some 29,o:=.call (.f 22) [.t 24,.t 25,.t 26,.t 27,.t 28],x:=[5,7,9] },i1 35 (.call (.f 20) [.t 30,.t 31,.t 32,.t 33,.t 34]),i1 36 (.eqp false (false,[.bool]) (.t 29) (.t 35)),im 10 36] [10] []) (.ret)))))
abbrev nrx5:Nat:=5
def C5_1 (QF:AEnd→q00→Prop) (v1 v3 v5 v7 v9 v11 v22:AV) (S:q00):Prop:=cnW v22 (rtW [.tmp v11] QF S) (ldW S 1 true v5 fun v24=>ldW S 2 true v7 fun v26=>ldW S 2 true v9 fun v28=>ldW S 1 true v5 fun v30=>ldW S 2 true v7 fun v32=>ldW S 2 true v9 fun v34=>caW PG S (.func (.func 22) [] []) [v24,v1,v26,v3,v28] (fun v29 S2=>kpW [v5,v7,v9] S S2 ( caW PG S2 (.func (.func 20) [] []) [v30,v1,v32,v3,v34] (fun v35 S=>eqW false (false,[.bool]) v29 v35 fun v36=>rtW [.tmp v36] QF S) (pqW QF))) (pqW QF))
def Bx5 (QF:AEnd→q00→Prop) (v0 v1 v2 v3 v4:AV) (S:q00):Prop:=brW 1 v0 fun v5=>brW 2 v2 fun v7=>brW 2 v4 fun v9=>caW PG S (.func (.func 21) [] []) [] (fun v13 S=>ldW S 1 true v5 fun v14=>caW PG S (.func (.func 17) [] []) [v14,v1] (fun v16 S=>ntW v13 fun v18=>grW v18 false (ntW v16 fun v21=>pkW v18 (.bool true) v21 fun v22=>C5_1 QF v1 v3 v5 v7 v9 v13 v22 S) (pkW v18 (.bool true) q06 fun v22=>C5_1 QF v1 v3 v5 v7 v9 v13 v22 S)) (pqW QF)) (pqW QF)
theorem wx5 {QF:AEnd→q00→Prop} {v0 v1 v2 v3 v4:AV} {S:q00} (h:Bx5 QF v0 v1 v2 v3 v4 S):ACalls PG nrx5 [v0,v1,v2,v3,v4] S QF:=
 q04 (F:=tfx5) (by kernel_rfl) rfl (by kernel_rfl) h
end Go.HL
