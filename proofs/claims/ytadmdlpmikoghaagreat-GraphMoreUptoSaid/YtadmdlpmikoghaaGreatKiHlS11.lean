/- A part of a proof. -/
import Derived.Test.YtadmdlpmikoghaaGreatKiHlP
set_option maxRecDepth 100000
set_option linter.unusedVariables false
namespace Go.HL
def tfx165:TFunc where
 n:=25
 args:=1
 res:=[.tmp 2]
 code:=.seq (.reg [i1 2 (.mov (.c (.int .i64 0)))] [0,2] []) (.seq (.seq (.reg [im 3 0,i1 4 (.bin .geq (.t 3) (.c (.int .u64 4294967296)))] [0,2,4] []) (.cond (.t 4) (.seq (.reg [im 5 0,i1 6 (.bin .shr (.t 5) (.c (.int .u64 32))),im 0 6] [0] []) (.reg [i1 2 (.mov (.c (.int .i64 32)))] [0,2] [])) (.skip))) (.seq (.seq (.reg [im 7 0,i1 8 (.bin .geq (.t 7) (.c (.int .u64 65536)))] [0,2,8] []) (.cond (.t 8) (.seq (.reg [im 9 0,i1 10 (.bin .shr (.t 9) (.c (.int .u64 16))),im 0 10] [0,2] []) (.reg [im 11 2,i1 12 (.bin .add (.t 11) (.c (.int .i64 16))),im 2 12] [0,2] [])) (.skip))) (.seq (.seq (.reg [im 13 0,i1 14 (.bin .geq (.t 13) (.c (.int .u64 256)))] [0,2,14] []) (.cond (.t 14) (.seq (.reg [im 15 0,i1 16 (.bin .shr (.t 15) (.c (.int .u64 8))),im 0 16] [0,2] []) (.reg [im 17 2,i1 18 (.bin .add (.t 17) (.c (.int .i64 8))),im 2 18] [0,2] [])) (.skip))) (.seq (.reg [im 19 2,im 20 0,i1 21 (.conv .u8 (.t 20)),i1 22 (.idxs (.c (.str ⟨#[0,1,2,2,3,3,3,3,4,4,4,4,4,4,4,4,5,5,5,5,5,5,5,5,5,5,5,5,5,5,5,5,6,6,6,6,6,6,6,6,6,6,6,6,6,6,6,6,6,6,6,6,6,6,6,6,6,6,6,6,6,6,6,6,7,7,7,7,7,7,7,7,7,7,7,7,7,7,7,7,7,7,7,7,7,7,7,7,7,7,7,7,7,7,7,7,7,7,7,7,7,7,7,7,7,7,7,7,7,7,7,7,7,7,7,7,7,7,7,7,7,7,7,7,7,7,7,7,8,8,8,8,8,8,8,8,8,8,8,8,8,8,8,8,8,8,8,8,8,8,8,8,8,8,8,8,8,8,8,8,8,8,8,8,8,8,8,8,8,8,8,8,8,8,8,8,8,8,8,8,8,8,8,8,8,8,8,8,8,8,8,8,8,8,8,8,8,8,8,8,8,8,8,8,8,8,8,8,8,8,8,8,8,8,8,8,8,8,8,8,8,8,8,8,8,8,8,8,8,8,8,8,8,8,8,8,8,8,8,8,8,8,8,8,8,8,8,8,8,8,8,8,8,8,8,8]⟩)) (.t 21)),i1 23 (.conv .i64 (.t 22)),i1 24 (.bin .add (.t 19) (.t 23)),im 2 24] [2] []) (.ret)))))
abbrev nrx165:Nat:=165
def C165_3 (QF:AEnd→q00→Prop) (v0 v2:AV) (S:q00):Prop:=cvW .u8 v0 fun v21=>isW (.str ⟨#[0,1,2,2,3,3,3,3,4,4,4,4,4,4,4,4,5,5,5,5,5,5,5,5,5,5,5,5,5,5,5,5,6,6,6,6,6,6,6,6,6,6,6,6,6,6,6,6,6,6,6,6,6,6,6,6,6,6,6,6,6,6,6,6,7,7,7,7,7,7,7,7,7,7,7,7,7,7,7,7,7,7,7,7,7,7,7,7,7,7,7,7,7,7,7,7,7,7,7,7,7,7,7,7,7,7,7,7,7,7,7,7,7,7,7,7,7,7,7,7,7,7,7,7,7,7,7,7,8,8,8,8,8,8,8,8,8,8,8,8,8,8,8,8,8,8,8,8,8,8,8,8,8,8,8,8,8,8,8,8,8,8,8,8,8,8,8,8,8,8,8,8,8,8,8,8,8,8,8,8,8,8,8,8,8,8,8,8,8,8,8,8,8,8,8,8,8,8,8,8,8,8,8,8,8,8,8,8,8,8,8,8,8,8,8,8,8,8,8,8,8,8,8,8,8,8,8,8,8,8,8,8,8,8,8,8,8,8,8,8,8,8,8,8,8,8,8,8,8,8,8,8,8,8,8,8]⟩) v21 fun v22=>cvW .i64 v22 fun v23=>biW .add v2 v23 fun v24=>rtW [.tmp v24] QF S
def C165_2 (QF:AEnd→q00→Prop) (v0 v2:AV) (S:q00):Prop:=biW .geq v0 (.int .u64 256) fun v14=>cnW v14 (biW .shr v0 (.int .u64 8) fun v16=>biW .add v2 (.int .i64 8) fun v18=>C165_3 QF v16 v18 S) (C165_3 QF v0 v2 S)
def C165_1 (QF:AEnd→q00→Prop) (v0 v2:AV) (S:q00):Prop:=biW .geq v0 (.int .u64 65536) fun v8=>cnW v8 (biW .shr v0 (.int .u64 16) fun v10=>biW .add v2 (.int .i64 16) fun v12=>C165_2 QF v10 v12 S) (C165_2 QF v0 v2 S)
def Bx165 (QF:AEnd→q00→Prop) (v0:AV) (S:q00):Prop:=biW .geq v0 (.int .u64 4294967296) fun v4=>cnW v4 (biW .shr v0 (.int .u64 32) fun v6=>C165_1 QF v6 (.int .i64 32) S) (C165_1 QF v0 (.int .i64 0) S)
theorem wx165 {QF:AEnd→q00→Prop} {v0:AV} {S:q00} (h:Bx165 QF v0 S):ACalls PG nrx165 [v0] S QF:=
 q02 (F:=tfx165) (by kernel_rfl) rfl (by kernel_rfl) h
def tfx168:TFunc where
 n:=5
 args:=1
 res:=[.tmp 2]
 code:=.seq (.reg [i1 2 (.mov (.c (.bool false)))] [0] []) (.seq (.reg [im 3 0,i1 4 (.call (.f 181) [.t 3,.c (.int .i64 24),.f 200]),im 2 4] [2] []) (.ret))
abbrev nrx168:Nat:=168
def Bx168 (QF:AEnd→q00→Prop) (v0:AV) (S:q00):Prop:=caW PG S (.func (.func 181) [] []) [v0,(.int .i64 24),(.func (.func 200) [] [])] (fun v4 S=>rtW [.tmp v4] QF S) (pqW QF)
theorem wx168 {QF:AEnd→q00→Prop} {v0:AV} {S:q00} (h:Bx168 QF v0 S):ACalls PG nrx168 [v0] S QF:=
 q02 (F:=tfx168) (by kernel_rfl) rfl (by kernel_rfl) h
end Go.HL
