/- A part of a proof. -/
import Derived.Test.YtadmdlpmikoghaaGreatKhHlP
set_option maxRecDepth 100000
set_option linter.unusedVariables false
namespace Go.HL
def tf_ref12_all:TFunc where
  n:=56
  args:=3
  res:=[.tmp 6]
  code:=.seq (.reg [i1 3 (.boxr 24 1 (.t 0)),
    i1 5 (.boxr 53 6 (.t 2)),
    i1 6 (.mov (.c (.nils)))] [1,3,5] []) (.seq (.seq (.reg [i1 10 (.faddr 1 (.t 5)),
    i1 11 (.load 1 false (.t 10)),
    i1 12 (.len 1 (.t 11)),
    i1 13 (.bin .eql (.t 12) (.c (.int .i64 0)))] [1,3,5,13] []) (.cond (.t 13) (.seq (.reg [i1 14 (.load 1 true (.t 3)),
    i1 15 (.mov (.t 1)),
    i1 16 (.faddr 2 (.t 5)),
    i1 17 (.load 4 true (.t 16)),
    i1 18 (.call (.f 199) [.t 14,.t 15,.t 17,.c (.bool false)]),
    i1 6 (.mov (.t 18))] [6] []) (.ret)) (.skip))) (.seq (.reg [i1 7 (.mov (.c (.nils)))] [3,5,7] []) (.seq (.seq (.reg [i1 8 (.mov (.c (.int .i64 0)))] [3,5,7,8] []) (.block 0 (.loop [3,5,7,8] (.seq (.seq (.reg [i1 19 (.mov (.t 8)),
    i1 20 (.faddr 1 (.t 5)),
    i1 21 (.load 1 false (.t 20)),
    i1 22 (.len 1 (.t 21)),
    i1 23 (.bin .lss (.t 19) (.t 22))] [3,5,7,8,23] []) (.cond (.t 23) (.skip) (.exit 0))) (.seq (.block 1 (.seq (.reg [i1 26 (.faddr 1 (.t 5)),
    i1 27 (.load 1 false (.t 26)),
    i1 28 (.mov (.t 8)),
    i1 29 (.iaddr 2 (.t 27) (.t 28)),
    i1 30 (.faddr 1 (.t 29)),
    i1 31 (.load 1 false (.t 30)),
    i1 32 (.bin .neq (.t 31) (.c (.str ⟨#[]⟩)))] [3,5,7,8,32] []) (.cond (.t 32) (.seq (.regl [1,3,0,2,4,5,6,7,8] [i1 34 (.faddr 1 (.t 5)),
    i1 36 (.mov (.t 8)),
    i1 33 (.load 1 true (.t 3)),
    i1 35 (.load 1 false (.t 34)),
    i1 37 (.iaddr 2 (.t 35) (.t 36)),
    i1 38 (.faddr 0 (.t 37)),
    i1 39 (.load 1 false (.t 38)),
    i1 40 (.call (.f 66) [.t 33,.t 39]),
    i1 9 (.mov (.t 40))] [3,5,7,8,9] []) (.regl [0,1,3,4,6,2,5,7,8,9,10,11,12,13,14] [i1 41 (.mov (.t 7)),
    i1 42 (.mov (.t 9)),
    i1 44 (.mov (.t 9)),
    i1 45 (.faddr 1 (.t 5)),
    i1 47 (.mov (.t 8)),
    i1 43 (.load 1 true (.t 3)),
    i1 46 (.load 1 false (.t 45)),
    i1 48 (.iaddr 2 (.t 46) (.t 47)),
    i1 49 (.faddr 1 (.t 48)),
    i1 50 (.load 1 false (.t 49)),
    i1 51 (.call (.f 67) [.t 43,.t 44,.t 50]),
    i1 52 (.build [.int .i64 0,.int .i64 0,.bool false] [(0,1,.t 42),(1,1,.t 51)]),
    i1 53 (.bslicr 253 3 [.t 52]),
    i1 54 (.app 253 3 24 (.t 41) (.t 53)),
    i1 7 (.mov (.t 54))] [3,5,7,8] [])) (.skip)))) (.reg [i1 24 (.mov (.t 8)),
    i1 25 (.bin .add (.t 24) (.c (.int .i64 1))),
    i1 8 (.mov (.t 25))] [3,5,7,8] [])))))) (.seq (.reg [i1 55 (.mov (.t 7)),
    i1 6 (.mov (.t 55))] [6] []) (.ret)))))
abbrev nr_ref12_all:Nat:=167
def C_ref12_all_1 (QF:AEnd→Store→Prop) (r0:LE→Store→Prop) (v3 v5 v7 v8:AV) (S:Store):Prop:=
  faW 1 v5 fun v20=>
  ldW S 1 false v20 fun v21=>
  lnW S 1 v21 fun v22=>
  biW .lss v8 v22 fun v23=>
  cnW v23 (faW 1 v5 fun v26=>
  ldW S 1 false v26 fun v27=>
  iaW 2 v27 v8 fun v29=>
  faW 1 v29 fun v30=>
  ldW S 1 false v30 fun v31=>
  biW .neq v31 (.str ⟨#[]⟩) fun v32=>
  cnW v32 (faW 1 v5 fun v34=>
  ldW S 1 true v3 fun v33=>
  ldW S 1 false v34 fun v35=>
  iaW 2 v35 v8 fun v37=>
  faW 0 v37 fun v38=>
  ldW S 1 false v38 fun v39=>
  caW PG S (.func (.func 66) [] []) [v33,v39] (fun v40 S=>
  faW 1 v5 fun v45=>
  ldW S 1 true v3 fun v43=>
  ldW S 1 false v45 fun v46=>
  iaW 2 v46 v8 fun v48=>
  faW 1 v48 fun v49=>
  ldW S 1 false v49 fun v50=>
  caW PG S (.func (.func 67) [] []) [v43,v40,v50] (fun v51 S=>
  bdW [.int .i64 0,.int .i64 0,.bool false] [(0,1,v40),(1,1,v51)] fun v52=>
  srW 3 [v52] fun v53=>
  apW S 253 3 24 v7 v53 fun v54 S=>
  biW .add v8 (.int .i64 1) fun v25=>
  rcW r0 [(3,v3),(5,v5),(7,v54),(8,v25)] S) (pqW QF)) (pqW QF))
  (biW .add v8 (.int .i64 1) fun v25=>
  rcW r0 [(3,v3),(5,v5),(7,v7),(8,v25)] S))
  (rtW [.tmp v7] QF S)
def B_ref12_all (QF:AEnd→Store→Prop) (v0 v1 v2:AV) (S:Store):Prop:=
  brW 1 v0 fun v3=>
  brW 6 v2 fun v5=>
  faW 1 v5 fun v10=>
  ldW S 1 false v10 fun v11=>
  lnW S 1 v11 fun v12=>
  biW .eql v12 (.int .i64 0) fun v13=>
  cnW v13 (ldW S 1 true v3 fun v14=>
  faW 2 v5 fun v16=>
  ldW S 4 true v16 fun v17=>
  caW PG S (.func (.func 199) [] []) [v14,v1,v17,(.bool false)] (fun v18 S=>
  rtW [.tmp v18] QF S) (pqW QF))
  (LoopP (fun r0 l S=>C_ref12_all_1 QF r0 (lget l 3) (lget l 5) (lget l 7) (lget l 8) S) [(3,v3),(5,v5),(7,(.nils)),(8,(.int .i64 0))] S)
theorem w_ref12_all {QF:AEnd→Store→Prop} {v0 v1 v2:AV} {S:Store} (h:B_ref12_all QF v0 v1 v2 S):ACalls PG nr_ref12_all [v0,v1,v2] S QF:=
  acalls_tf (F:=tf_ref12_all) (by kernel_rfl) rfl (by kernel_rfl) h
def tf_names_ID:TFunc where
  n:=5
  args:=1
  res:=[.tmp 2]
  code:=.seq (.reg [i1 2 (.mov (.c (.bool false)))] [0] []) (.seq (.reg [i1 3 (.mov (.t 0)),
    i1 4 (.call (.f 181) [.t 3,.c (.int .i64 24),.f 200]),
    i1 2 (.mov (.t 4))] [2] []) (.ret))
abbrev nr_names_ID:Nat:=168
def B_names_ID (QF:AEnd→Store→Prop) (v0:AV) (S:Store):Prop:=
  caW PG S (.func (.func 181) [] []) [v0,(.int .i64 24),(.func (.func 200) [] [])] (fun v4 S=>
  rtW [.tmp v4] QF S) (pqW QF)
theorem w_names_ID {QF:AEnd→Store→Prop} {v0:AV} {S:Store} (h:B_names_ID QF v0 S):ACalls PG nr_names_ID [v0] S QF:=
  acalls_tf (F:=tf_names_ID) (by kernel_rfl) rfl (by kernel_rfl) h
end Go.HL
