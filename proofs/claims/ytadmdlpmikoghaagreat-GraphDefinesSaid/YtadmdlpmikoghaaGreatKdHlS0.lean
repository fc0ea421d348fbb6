/- A part of a proof. -/
import Derived.Test.YtadmdlpmikoghaaGreatKdHlP
set_option maxRecDepth 100000
set_option linter.unusedVariables false
namespace Go.HL
def tfx9:TFunc where
 n:=71
 args:=5
 res:=[.tmp 10]
 code:=.seq (.reg [i1 5 (.boxr 24 1 (.t 0)),i1 7 (.boxr 27 2 (.t 2)),i1 9 (.boxr 27 2 (.t 4)),i1 10 (.mov (.c (.bool false)))] [1,3,5,7,9] []) (.seq (.reg [i1 18 (.call (.f 21) []),im 11 18] [1,3,5,7,9,11] []) (.seq (.reg [iL 19 1 5,im 20 1,i1 21 (.call (.f 17) [.t 19,.t 20]),im 12 21] [1,3,5,7,9,11,12] []) (.seq (.seq (.reg [im 22 11,i1 23 (.not (.t 22)),im 24 23,
  .grp 24 false [s1 25 (.mov (.t 12)),s1 26 (.not (.t 25))],i1 27 (.pick (.t 24) (.c (.bool true)) (.t 26))] [1,3,5,7,9,11,27] []) (.cond (.t 27) (.seq (.reg [im 28 11,im 10 28] [10] []) (.ret)) (.skip))) (.seq (.reg [iL 30 1 5,i1 31 (.call (.f 27) [.t 30]),im 29 31,i1 32 (.extr (.t 29) 0),i1 33 (.extr (.t 29) 1),im 13 32,im 14 33] [1,3,5,7,9,14] []) (.seq (.reg [iL 35 1 5,ia 36 0 7,il 37 1 36,im 38 3,i1 39 (.call (.f 28) [.t 35,.t 37,.t 38]),im 34 39,i1 40 (.extr (.t 34) 0),i1 41 (.extr (.t 34) 1),
  .box2 15 53 [.str ⟨#[]⟩,.nils,.int .i64 0,.str ⟨#[]⟩,.str ⟨#[]⟩,.nils] 6 (.t 40),im 16 41] [1,3,5,7,9,14,15,16] []) (.seq (.seq (.reg [im 42 14,i1 43 (.not (.t 42)),im 44 43,
  .grp 44 false [s1 45 (.mov (.t 16)),s1 46 (.not (.t 45))],i1 47 (.pick (.t 44) (.c (.bool true)) (.t 46)),im 48 47,
  .grp 48 false [s1 49 (.faddr 1 (.t 15)),s1 50 (.load 1 false (.t 49)),s1 51 (.len 1 (.t 50)),s1 52 (.bin .gtr (.t 51) (.c (.int .i64 0)))],i1 53 (.pick (.t 48) (.c (.bool true)) (.t 52))] [1,3,5,7,9,15,53] []) (.cond (.t 53) (.seq (.reg [i1 10 (.mov (.c (.bool true)))] [10] []) (.ret)) (.skip))) (.seq (.reg [iL 54 1 5,im 55 1,i1 56 (.call (.f 29) [.t 54,.t 55]),im 17 56] [1,3,5,7,9,15,17] []) (.seq (.regl [1,3,7,9,0,2,4,6,8,10,11,5,12,13,14] [im 58 1,im 60 3,im 64 17,ia 66 2 15,iL 57 1 5,iL 59 2 7,iL 61 2 9,iL 63 1 5,iL 65 2 7,iL 67 4 66,iL 68 2 9,
  .one { d:=some 62,o:=.call (.f 22) [.t 57,.t 58,.t 59,.t 60,.t 61],x:=[5,7,9,66] },i1 69 (.call (.f 30) [.t 63,.t 64,.t 65,.t 67,.t 68]),i1 70 (.eqp false (false,[.bool]) (.t 62) (.t 69)),im 10 70] [10] []) (.ret)))))))))
abbrev nrx9:Nat:=9
def C9_3 (QF:AEnd→q00→Prop) (v1 v3 v5 v7 v9 v15 v53:AV) (S:q00):Prop:=cnW v53 (rtW [.tmp (.bool true)] QF S) (ldW S 1 true v5 fun v54=>caW PG S (.func (.func 29) [] []) [v54,v1] (fun v56 S=>faW 2 v15 fun v66=>ldW S 1 true v5 fun v57=>ldW S 2 true v7 fun v59=>ldW S 2 true v9 fun v61=>ldW S 1 true v5 fun v63=>ldW S 2 true v7 fun v65=>ldW S 4 true v66 fun v67=>ldW S 2 true v9 fun v68=>caW PG S (.func (.func 22) [] []) [v57,v1,v59,v3,v61] (fun v62 S2=>kpW [v5,v7,v9,v66] S S2 ( caW PG S2 (.func (.func 30) [] []) [v63,v56,v65,v67,v68] (fun v69 S=>eqW false (false,[.bool]) v62 v69 fun v70=>rtW [.tmp v70] QF S) (pqW QF))) (pqW QF)) (pqW QF))
def C9_2 (QF:AEnd→q00→Prop) (v1 v3 v5 v7 v9 v15 v47:AV) (S:q00):Prop:=grW v47 false (faW 1 v15 fun v49=>ldW S 1 false v49 fun v50=>lnW S 1 v50 fun v51=>biW .gtr v51 (.int .i64 0) fun v52=>pkW v47 (.bool true) v52 fun v53=>C9_3 QF v1 v3 v5 v7 v9 v15 v53 S) (pkW v47 (.bool true) q06 fun v53=>C9_3 QF v1 v3 v5 v7 v9 v15 v53 S)
def C9_1 (QF:AEnd→q00→Prop) (v1 v3 v5 v7 v9 v11 v27:AV) (S:q00):Prop:=cnW v27 (rtW [.tmp v11] QF S) (ldW S 1 true v5 fun v30=>caW PG S (.func (.func 27) [] []) [v30] (fun v31 S=>exW 0 v31 fun v32=>exW 1 v31 fun v33=>ldW S 1 true v5 fun v35=>faW 0 v7 fun v36=>ldW S 1 false v36 fun v37=>caW PG S (.func (.func 28) [] []) [v35,v37,v3] (fun v39 S=>exW 0 v39 fun v40=>exW 1 v39 fun v41=>bfW 6 v40 fun v15=>ntW v33 fun v43=>grW v43 false (ntW v41 fun v46=>pkW v43 (.bool true) v46 fun v47=>C9_2 QF v1 v3 v5 v7 v9 v15 v47 S) (pkW v43 (.bool true) q06 fun v47=>C9_2 QF v1 v3 v5 v7 v9 v15 v47 S)) (pqW QF)) (pqW QF))
def Bx9 (QF:AEnd→q00→Prop) (v0 v1 v2 v3 v4:AV) (S:q00):Prop:=brW 1 v0 fun v5=>brW 2 v2 fun v7=>brW 2 v4 fun v9=>caW PG S (.func (.func 21) [] []) [] (fun v18 S=>ldW S 1 true v5 fun v19=>caW PG S (.func (.func 17) [] []) [v19,v1] (fun v21 S=>ntW v18 fun v23=>grW v23 false (ntW v21 fun v26=>pkW v23 (.bool true) v26 fun v27=>C9_1 QF v1 v3 v5 v7 v9 v18 v27 S) (pkW v23 (.bool true) q06 fun v27=>C9_1 QF v1 v3 v5 v7 v9 v18 v27 S)) (pqW QF)) (pqW QF)
theorem wx9 {QF:AEnd→q00→Prop} {v0 v1 v2 v3 v4:AV} {S:q00} (h:Bx9 QF v0 v1 v2 v3 v4 S):ACalls PG nrx9 [v0,v1,v2,v3,v4] S QF:=
 q04 (F:=tfx9) (by kernel_rfl) rfl (by kernel_rfl) h
end Go.HL
