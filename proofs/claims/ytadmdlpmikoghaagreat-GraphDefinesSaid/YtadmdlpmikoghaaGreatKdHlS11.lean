/- A part of a proof. -/
import Derived.Test.YtadmdlpmikoghaaGreatKdHlP
set_option maxRecDepth 100000
set_option linter.unusedVariables false
namespace Go.HL
def tfx165:TFunc where
 n:=25
 args:=1
 res:=[.tmp 2]
 code:=.seq (.reg [i1 2 (.mov (.c (.int .i64 0)))] [0,2] []) (.seq (.seq (.reg [im 3 0,i1 4 (.bin .geq (.t 3) (.c (.int .u64 4294967296)))] [0,2,4] []) (.cond (.t 4) (.seq (.reg [im 5 0,i1 6 (.bin .shr (.t 5) (.c (.int .u64 32))),im 0 6] [0] []) (.reg [i1 2 (.mov (.c (.int .i64 32)))] [0,2] [])) (.skip))) (.seq (.seq (.reg [im 7 0,i1 8 (.bin .geq (.t 7) (.c (.int .u64 65536)))] [0,2,8] []) (.cond (.t 8) (.seq (.reg [im 9 0,i1 10 (.bin .shr (.t 9) (.c (.int .u64 16))),im 0 10] [0,2] []) (.reg [im 11 2,i1 12 (.bin .add (.t 11) (.c (.int .i64 16))),im 2 12] [0,2] [])) (.skip))) (.seq (.seq (.reg [im 13 0,i1 14 (.bin .geq (.t 13) (.c (.int .u64 256)))] [0,2,14] []) (.cond (.t 14) (.seq (.reg [im 15 0,i1 16 (.bin .shr (.t 15) (.c (.int .u64 8))),im 0 16] [0,2] []) (.reg [im 17 2,i1 18 (.bin .add (.t 17) (.c (.int .i64 8))),im 2 18] [0,2] [])) (.skip))) (.seq (.reg [im 19 2,im 20 0,i1 21 (.conv .u8 (.t 20)),i1 22 (.idxs (.c (.str ⟨#[0,1,2,2,3,3,3,3,4,4,4,4,4,4,4,4,5,5,5,5,5,5,5,5,5,5,5,5,5,5,5,5,6,6,6,6,6,6,6,6,6,6,6,6,6,6,6,6,6,6,6,6,6,6,6,6,6,6,6,6,6,6,6,6,7,7,7,7,7,7,7,7,7,7,7,7,7,7,7,7,7,7,7,7,7,7,7,7,7,7,7,7,7,7,7,7,7,7,7,7,7,7,7,7,7,7,7,7,7,7,7,7,7,7,7,7,7,7,7,7,7,7,7,7,7,7,7,7,8,8,8,8,8,8,8,8,8,8,8,8,8,8,8,8,8,8,8,8,8,8,8,8,8,8,8,8,8,8,8,8,8,8,8,8,8,8,8,8,8,8,8,8,8,8,8,8,8,8,8,8,8,8,8,8,8,8,8,8,8,8,8,8,8,8,8,8,8,8,8,8,8,8,8,8,8,8,8,8,8,8,8,8,8,8,8,8,8,8,8,8,8,8,8,8,8,8,8,8,8,8,8,8,8,8,8,8,8,8,8,8,8,8,8,8,8,8,8,8,8,8,8,8,8,8,8,8]⟩)) (.t 21)),i1 23 (.conv .i64 (.t 22)),i1 24 (.bin .add (.t 19) (.t 23)),im 2 24] [2] []) (.ret)))))
abbrev nrx165:Nat:=165
def C165_3 (QF:AEnd→q00→Prop) (v0 v2:AV) (S:q00):Prop:=cvW .u8 v0 fun v21=>isW (.str ⟨#[0,1,2,2,3,3,3,3,4,4,4,4,4,4,4,4,5,5,5,5,5,5,5,5,5,5,5,5,5,5,5,5,6,6,6,6,6,6,6,6,6,6,6,6,6,6,6,6,6,6,6,6,6,6,6,6,6,6,6,6,6,6,6,6,7,7,7,7,7,7,7,7,7,7,7,7,7,7,7,7,7,7,7,7,7,7,7,7,7,7,7,7,7,7,7,7,7,7,7,7,7,7,7,7,7,7,7,7,7,7,7,7,7,7,7,7,7,7,7,7,7,7,7,7,7,7,7,7,8,8,8,8,8,8,8,8,8,8,8,8,8,8,8,8,8,8,8,8,8,8,8,8,8,8,8,8,8,8,8,8,8,8,8,8,8,8,8,8,8,8,8,8,8,8,8,8,8,8,8,8,8,8,8,8,8,8,8,8,8,8,8,8,8,8,8,8,8,8,8,8,8,8,8,8,8,8,8,8,8,8,8,8,8,8,8,8,8,8,8,8,8,8,8,8,8,8,8,8,8,8,8,8,8,8,8,8,8,8,8,8,8,8,8,8,8,8,8,8,8,8,8,8,8,8,8,8]⟩) v21 fun v22=>cvW .i64 v22 fun v23=>biW .add v2 v23 fun v24=>rtW [.tmp v24] QF S
def C165_2 (QF:AEnd→q00→Prop) (v0 v2:AV) (S:q00):Prop:=biW .geq v0 (.int .u64 256) fun v14=>cnW v14 (biW .shr v0 (.int .u64 8) fun v16=>biW .add v2 (.int .i64 8) fun v18=>C165_3 QF v16 v18 S) (C165_3 QF v0 v2 S)
def C165_1 (QF:AEnd→q00→Prop) (v0 v2:AV) (S:q00):Prop:=biW .geq v0 (.int .u64 65536) fun v8=>cnW v8 (biW .shr v0 (.int .u64 16) fun v10=>biW .add v2 (.int .i64 16) fun v12=>C165_2 QF v10 v12 S) (C165_2 QF v0 v2 S)
def Bx165 (QF:AEnd→q00→Prop) (v0:AV) (S:q00):Prop:=biW .geq v0 (.int .u64 4294967296) fun v4=>cnW v4 (biW .shr v0 (.int .u64 32) fun v6=>C165_1 QF v6 (.int .i64 32) S) (C165_1 QF v0 (.int .i64 0) S)
theorem wx165 {QF:AEnd→q00→Prop} {v0:AV} {S:q00} (h:Bx165 QF v0 S):ACalls PG nrx165 [v0] S QF:=
 q04 (F:=tfx165) (by kernel_rfl) rfl (by kernel_rfl) h
def tfx167:TFunc where
 n:=56
 args:=3
 res:=[.tmp 6]
 code:=.seq (.reg [i1 3 (.boxr 24 1 (.t 0)),i1 5 (.boxr 53 6 (.t 2)),i1 6 (.mov (.c (.nils)))] [1,3,5] []) (.seq (.seq (.reg [ia 10 1 5,il 11 1 10,i1 12 (.len 1 (.t 11)),i1 13 (.bin .eql (.t 12) (.c (.int .i64 0)))] [1,3,5,13] []) (.cond (.t 13) (.seq (.reg [iL 14 1 3,im 15 1,ia 16 2 5,iL 17 4 16,i1 18 (.call (.f 199) [.t 14,.t 15,.t 17,.c (.bool false)]),im 6 18] [6] []) (.ret)) (.skip))) (.seq (.reg [i1 7 (.mov (.c (.nils)))] [3,5,7] []) (.seq (.seq (.reg [i1 8 (.mov (.c (.int .i64 0)))] [3,5,7,8] []) (.block 0 (.loop [3,5,7,8] (.seq (.seq (.reg [im 19 8,ia 20 1 5,il 21 1 20,i1 22 (.len 1 (.t 21)),i1 23 (.bin .lss (.t 19) (.t 22))] [3,5,7,8,23] []) (.cond (.t 23) (.skip) (.exit 0))) (.seq (.block 1 (.seq (.reg [ia 26 1 5,il 27 1 26,im 28 8,i1 29 (.iaddr 2 (.t 27) (.t 28)),ia 30 1 29,il 31 1 30,i1 32 (.bin .neq (.t 31) (.c (.str ⟨#[]⟩)))] [3,5,7,8,32] []) (.cond (.t 32) (.seq (.regl [1,3,0,2,4,5,6,7,8] [ia 34 1 5,im 36 8,iL 33 1 3,il 35 1 34,i1 37 (.iaddr 2 (.t 35) (.t 36)),ia 38 0 37,il 39 1 38,i1 40 (.call (.f 66) [.t 33,.t 39]),im 9 40] [3,5,7,8,9] []) (.regl [0,1,3,4,6,2,5,7,8,9,10,11,12,13,14] [im 41 7,im 42 9,im 44 9,ia 45 1 5,im 47 8,iL 43 1 3,il 46 1 45,i1 48 (.iaddr 2 (.t 46) (.t 47)),ia 49 1 48,il 50 1 49,i1 51 (.call (.f 67) [.t 43,.t 44,.t 50]),i1 52 (.build [.int .i64 0,.int .i64 0,.bool false] [(0,1,.t 42),(1,1,.t 51)]),i1 53 (.bslicr 253 3 [.t 52]),i1 54 (.app 253 3 24 (.t 41) (.t 53)),im 7 54] [3,5,7,8] [])) (.skip)))) (.reg [im 24 8,i1 25 (.bin .add (.t 24) (.c (.int .i64 1))),im 8 25] [3,5,7,8] [])))))) (.seq (.reg [im 55 7,im 6 55] [6] []) (.ret)))))
abbrev nrx167:Nat:=167
def C167_1 (QF:AEnd→q00→Prop) (r0:LE→q00→Prop) (v3 v5 v7 v8:AV) (S:q00):Prop:=faW 1 v5 fun v20=>ldW S 1 false v20 fun v21=>lnW S 1 v21 fun v22=>biW .lss v8 v22 fun v23=>cnW v23 (faW 1 v5 fun v26=>ldW S 1 false v26 fun v27=>iaW 2 v27 v8 fun v29=>faW 1 v29 fun v30=>ldW S 1 false v30 fun v31=>biW .neq v31 (.str ⟨#[]⟩) fun v32=>cnW v32 (faW 1 v5 fun v34=>ldW S 1 true v3 fun v33=>ldW S 1 false v34 fun v35=>iaW 2 v35 v8 fun v37=>faW 0 v37 fun v38=>ldW S 1 false v38 fun v39=>caW PG S (.func (.func 66) [] []) [v33,v39] (fun v40 S=>faW 1 v5 fun v45=>ldW S 1 true v3 fun v43=>ldW S 1 false v45 fun v46=>iaW 2 v46 v8 fun v48=>faW 1 v48 fun v49=>ldW S 1 false v49 fun v50=>caW PG S (.func (.func 67) [] []) [v43,v40,v50] (fun v51 S=>bdW [.int .i64 0,.int .i64 0,.bool false] [(0,1,v40),(1,1,v51)] fun v52=>srW 3 [v52] fun v53=>apW S 253 3 24 v7 v53 fun v54 S=>biW .add v8 (.int .i64 1) fun v25=>rcW r0 [(3,v3),(5,v5),(7,v54),(8,v25)] S) (pqW QF)) (pqW QF)) (biW .add v8 (.int .i64 1) fun v25=>rcW r0 [(3,v3),(5,v5),(7,v7),(8,v25)] S)) (rtW [.tmp v7] QF S)
def Bx167 (QF:AEnd→q00→Prop) (v0 v1 v2:AV) (S:q00):Prop:=brW 1 v0 fun v3=>brW 6 v2 fun v5=>faW 1 v5 fun v10=>ldW S 1 false v10 fun v11=>lnW S 1 v11 fun v12=>biW .eql v12 (.int .i64 0) fun v13=>cnW v13 (ldW S 1 true v3 fun v14=>faW 2 v5 fun v16=>ldW S 4 true v16 fun v17=>caW PG S (.func (.func 199) [] []) [v14,v1,v17,(.bool false)] (fun v18 S=>rtW [.tmp v18] QF S) (pqW QF)) (LoopP (fun r0 l S=>C167_1 QF r0 (lget l 3) (lget l 5) (lget l 7) (lget l 8) S) [(3,v3),(5,v5),(7,(.nils)),(8,(.int .i64 0))] S)
theorem wx167 {QF:AEnd→q00→Prop} {v0 v1 v2:AV} {S:q00} (h:Bx167 QF v0 v1 v2 S):ACalls PG nrx167 [v0,v1,v2] S QF:=
 q04 (F:=tfx167) (by kernel_rfl) rfl (by kernel_rfl) h
def tfx168:TFunc where
 n:=5
 args:=1
 res:=[.tmp 2]
 code:=.seq (.reg [i1 2 (.mov (.c (.bool false)))] [0] []) (.seq (.reg [im 3 0,i1 4 (.call (.f 181) [.t 3,.c (.int .i64 24),.f 200]),im 2 4] [2] []) (.ret))
abbrev nrx168:Nat:=168
def Bx168 (QF:AEnd→q00→Prop) (v0:AV) (S:q00):Prop:=caW PG S (.func (.func 181) [] []) [v0,(.int .i64 24),(.func (.func 200) [] [])] (fun v4 S=>rtW [.tmp v4] QF S) (pqW QF)
theorem wx168 {QF:AEnd→q00→Prop} {v0:AV} {S:q00} (h:Bx168 QF v0 S):ACalls PG nrx168 [v0] S QF:=
 q04 (F:=tfx168) (by kernel_rfl) rfl (by kernel_rfl) h
end Go.HL
