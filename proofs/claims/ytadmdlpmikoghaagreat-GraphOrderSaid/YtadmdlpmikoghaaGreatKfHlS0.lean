/- A part of a proof. -/
import Derived.Test.YtadmdlpmikoghaaGreatKfHlP
set_option maxRecDepth 100000
set_option linter.unusedVariables false
namespace Go.HL
def tfx7:TFunc where
 n:=52
 args:=5
 res:=[.tmp 10]
 code:=.seq (.reg [i1 5 (.boxr 24 1 (.t 0)),i1 7 (.boxr 27 2 (.t 2)),i1 10 (.mov (.c (.bool false)))] [1,3,4,5,7] []) (.seq (.reg [i1 14 (.call (.f 21) []),im 11 14] [1,3,4,5,7,11] []) (.seq (.reg [iL 15 1 5,im 16 1,i1 17 (.call (.f 17) [.t 15,.t 16]),im 12 17] [1,3,4,5,7,11,12] []) (.seq (.seq (.reg [im 18 11,i1 19 (.not (.t 18)),im 20 19,
  .grp 20 false [s1 21 (.mov (.t 12)),s1 22 (.not (.t 21))],i1 23 (.pick (.t 20) (.c (.bool true)) (.t 22)),im 24 23,
  .grp 24 false [s1 25 (.mov (.t 4)),s1 26 (.bin .lss (.t 25) (.c (.int .i64 0)))],i1 27 (.pick (.t 24) (.c (.bool true)) (.t 26)),im 28 27,
  .grp 28 false [s1 29 (.mov (.t 4)),s1 30 (.mov (.t 1)),s1 31 (.len 1 (.t 30)),s1 32 (.bin .geq (.t 29) (.t 31))],i1 33 (.pick (.t 28) (.c (.bool true)) (.t 32))] [1,3,4,5,7,11,33] []) (.cond (.t 33) (.seq (.reg [im 34 11,im 10 34] [10] []) (.ret)) (.skip))) (.seq (.reg [im 35 1,im 36 4,i1 37 (.slicl 6 (.t 35) (some (.t 36)) none),i1 38 (.app 41 6 96 (.c (.nils)) (.t 37)),im 39 1,i1 40 (.app 41 6 96 (.t 38) (.t 39)),im 13 40] [1,3,5,7,13] []) (.seq (.regl [1,3,6,8,0,2,5,7,4,9,10,11] [im 42 1,im 44 3,im 47 13,im 49 3,iL 41 1 5,iL 43 2 7,iL 46 1 5,iL 48 2 7,
  .one { d:=some 45,o:=.call (.f 23) [.t 41,.t 42,.t 43,.t 44],x:=[5,7] },i1 50 (.call (.f 23) [.t 46,.t 47,.t 48,.t 49]),i1 51 (.call (.f 24) [.t 45,.t 50]),im 10 51] [10] []) (.ret))))))
abbrev nrx7:Nat:=7
def C7_3 (QF:AEnd→q00→Prop) (v1 v3 v4 v5 v7 v11 v33:AV) (S:q00):Prop:=cnW v33 (rtW [.tmp v11] QF S) (slW 6 v1 (some v4) none fun v37=>apW S 41 6 96 (.nils) v37 fun v38 S=>apW S 41 6 96 v38 v1 fun v40 S=>ldW S 1 true v5 fun v41=>ldW S 2 true v7 fun v43=>ldW S 1 true v5 fun v46=>ldW S 2 true v7 fun v48=>caW PG S (.func (.func 23) [] []) [v41,v1,v43,v3] (fun v45 S2=>kpW [v5,v7] S S2 ( caW PG S2 (.func (.func 23) [] []) [v46,v40,v48,v3] (fun v50 S=>caW PG S (.func (.func 24) [] []) [v45,v50] (fun v51 S=>rtW [.tmp v51] QF S) (pqW QF)) (pqW QF))) (pqW QF))
def C7_2 (QF:AEnd→q00→Prop) (v1 v3 v4 v5 v7 v11 v27:AV) (S:q00):Prop:=grW v27 false (lnW S 1 v1 fun v31=>biW .geq v4 v31 fun v32=>pkW v27 (.bool true) v32 fun v33=>C7_3 QF v1 v3 v4 v5 v7 v11 v33 S) (pkW v27 (.bool true) q07 fun v33=>C7_3 QF v1 v3 v4 v5 v7 v11 v33 S)
def C7_1 (QF:AEnd→q00→Prop) (v1 v3 v4 v5 v7 v11 v23:AV) (S:q00):Prop:=grW v23 false (biW .lss v4 (.int .i64 0) fun v26=>pkW v23 (.bool true) v26 fun v27=>C7_2 QF v1 v3 v4 v5 v7 v11 v27 S) (pkW v23 (.bool true) q07 fun v27=>C7_2 QF v1 v3 v4 v5 v7 v11 v27 S)
def Bx7 (QF:AEnd→q00→Prop) (v0 v1 v2 v3 v4:AV) (S:q00):Prop:=brW 1 v0 fun v5=>brW 2 v2 fun v7=>caW PG S (.func (.func 21) [] []) [] (fun v14 S=>ldW S 1 true v5 fun v15=>caW PG S (.func (.func 17) [] []) [v15,v1] (fun v17 S=>ntW v14 fun v19=>grW v19 false (ntW v17 fun v22=>pkW v19 (.bool true) v22 fun v23=>C7_1 QF v1 v3 v4 v5 v7 v14 v23 S) (pkW v19 (.bool true) q07 fun v23=>C7_1 QF v1 v3 v4 v5 v7 v14 v23 S)) (pqW QF)) (pqW QF)
theorem wx7 {QF:AEnd→q00→Prop} {v0 v1 v2 v3 v4:AV} {S:q00} (h:Bx7 QF v0 v1 v2 v3 v4 S):ACalls PG nrx7 [v0,v1,v2,v3,v4] S QF:=
 q02 (F:=tfx7) (by kernel_rfl) rfl (by kernel_rfl) h
end Go.HL
