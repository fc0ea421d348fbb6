/- A part of a proof. -/
import Derived.Test.YtadmdlpmikoghaaGreatKjHlT
set_option maxRecDepth 100000
set_option linter.unusedVariables false
namespace Go.HL
abbrev nrx11:Nat:=11
def Bx11 (QF:AEnd→q00→Prop) (v0 v1:AV) (S:q00):Prop:=caW PG S (.func (.func 31) [] []) [] (fun v6 S=>lnW S 1 v0 fun v8=>biW .gtr v8 (.int .i64 60) fun v9=>cnW v9 (rtW [.tmp v6] QF S) (grW v6 true (caW PG S (.func (.func 34) [] []) [v0,v1] (fun v15 S=>caW PG S (.func (.func 35) [] []) [v0,v1] (fun v18 S=>caW PG S (.func (.func 24) [] []) [v15,v18] (fun v19 S=>pkW v6 v19 (.bool false) fun v20=>rtW [.tmp v20] QF S) (pqW QF)) (pqW QF)) (pqW QF)) (pkW v6 q07 (.bool false) fun v20=>rtW [.tmp v20] QF S))) (pqW QF)
theorem wx11 {QF:AEnd→q00→Prop} {v0 v1:AV} {S:q00} (h:Bx11 QF v0 v1 S):ACalls PG nrx11 [v0,v1] S QF:=
 wgf [] [] [[0,1],[0,1,5],[0,1,5,9],[4],[4]] [] h
end Go.HL
