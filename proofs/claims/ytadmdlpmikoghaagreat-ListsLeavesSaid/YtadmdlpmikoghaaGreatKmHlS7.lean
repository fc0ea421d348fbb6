/- A part of a proof. -/
import Derived.Test.YtadmdlpmikoghaaGreatKmHlT
set_option maxRecDepth 100000
set_option linter.unusedVariables false
namespace Go.HL
abbrev nrx194:Nat:=194
def C194_3 (QF:AEnd→q00→Prop) (r0:LE→q00→Prop) (v0 v2 v3 v4 v10 v11:AV) (S:q00):Prop:=biW .add v3 v10 fun v47=>iaW 2 v0 v47 fun v48=>biW .add v3 v11 fun v53=>iaW 2 v0 v53 fun v54=>ldW S 2 true v48 fun v49=>ldW S 2 true v54 fun v55=>caW PG S v4 [v49,v55] (fun v56 S=>biW .lss v56 (.int .i64 0) fun v57=>ntW v57 fun v58=>cnW v58 (rtW [] QF S) (biW .add v3 v10 fun v62=>biW .add v3 v11 fun v66=>biW .add v3 v11 fun v70=>iaW 2 v0 v70 fun v71=>biW .add v3 v10 fun v76=>iaW 2 v0 v76 fun v77=>ldW S 2 true v71 fun v72=>ldW S 2 true v77 fun v78=>iaW 2 v0 v62 fun v79=>stW S 2 v79 v72 fun S=>iaW 2 v0 v66 fun v80=>stW S 2 v80 v78 fun S=>rcW r0 [(0,v0),(2,v2),(3,v3),(4,v4),(10,v11)] S)) (pqW QF)
def C194_2 (QF:AEnd→q00→Prop) (r0:LE→q00→Prop) (v0 v2 v3 v4 v10 v11 v40:AV) (S:q00):Prop:=cnW v40 (biW .add v11 (.int .i64 1) fun v42=>C194_3 QF r0 v0 v2 v3 v4 v10 v42 S) (C194_3 QF r0 v0 v2 v3 v4 v10 v11 S)
def C194_1 (QF:AEnd→q00→Prop) (r0:LE→q00→Prop) (v0 v2 v3 v4 v10:AV) (S:q00):Prop:=biW .mul (.int .i64 2) v10 fun v14=>biW .add v14 (.int .i64 1) fun v15=>biW .geq v15 v2 fun v18=>cnW v18 (rtW [] QF S) (biW .add v15 (.int .i64 1) fun v20=>biW .lss v20 v2 fun v22=>grW v22 true (biW .add v3 v15 fun v28=>iaW 2 v0 v28 fun v29=>biW .add v3 v15 fun v34=>biW .add v34 (.int .i64 1) fun v35=>iaW 2 v0 v35 fun v36=>ldW S 2 true v29 fun v30=>ldW S 2 true v36 fun v37=>caW PG S v4 [v30,v37] (fun v38 S=>biW .lss v38 (.int .i64 0) fun v39=>pkW v22 v39 (.bool false) fun v40=>C194_2 QF r0 v0 v2 v3 v4 v10 v15 v40 S) (pqW QF)) (pkW v22 q06 (.bool false) fun v40=>C194_2 QF r0 v0 v2 v3 v4 v10 v15 v40 S))
def Bx194 (QF:AEnd→q00→Prop) (v0 v1 v2 v3 v4:AV) (S:q00):Prop:=LoopP (fun r0 l S=>C194_1 QF r0 (lget l 0) (lget l 2) (lget l 3) (lget l 4) (lget l 10) S) [(0,v0),(2,v2),(3,v3),(4,v4),(10,v1)] S
theorem wx194 {QF:AEnd→q00→Prop} {v0 v1 v2 v3 v4:AV} {S:q00} (h:Bx194 QF v0 v1 v2 v3 v4 S):ACalls PG nrx194 [v0,v1,v2,v3,v4] S QF:=
 wgf [] [] [[0,2,3,4,10],[0,2,3,4,10],[0,2,3,4,10,11],[0,2,3,4,10,11,18],[0,2,3,4,10,11,40],[0,2,3,4,10,11],[0,2,3,4,10,11,58],[0,2,3,4,11],[0,2,3,4,10]] [.l [0,1,2,3,4,5,6,7,8,9,10,12,13,14,15,16,17,11,18,19,20,21] [],.l [0,1,2,3,4,5,7,8,9,10,11,6,12,13,14,15] [],.l [0,1,2,3,4,5,6,7,8,9,10,11,12,14,15,16,17,18,13,19,20,21,22,23] []] h
abbrev nrx195:Nat:=195
def Bx195 (QF:AEnd→q00→Prop) (v0:AV) (S:q00):Prop:=cvW .u64 v0 fun v4=>caW PG S (.func (.func 116) [] []) [v4] (fun v5 S=>biW .shl (.int .u64 1) v5 fun v6=>rtW [.tmp v6] QF S) (pqW QF)
theorem wx195 {QF:AEnd→q00→Prop} {v0:AV} {S:q00} (h:Bx195 QF v0 S):ACalls PG nrx195 [v0] S QF:=
 wgf [] [] [[0],[2]] [] h
abbrev nrx196:Nat:=196
def Bx196 (QF:AEnd→q00→Prop) (v0:AV) (S:q00):Prop:=nkW v0 fun v4=>nkW v0 fun v7=>ldW S 1 false v4 fun v5=>ldW S 1 false v7 fun v8=>biW .shl v8 (.int .u64 13) fun v9=>biW .xor v5 v9 fun v10=>nkW v0 fun v11=>stW S 1 v11 v10 fun S=>nkW v0 fun v13=>nkW v0 fun v16=>ldW S 1 false v13 fun v14=>ldW S 1 false v16 fun v17=>biW .shr v17 (.int .u64 7) fun v18=>biW .xor v14 v18 fun v19=>nkW v0 fun v20=>stW S 1 v20 v19 fun S=>nkW v0 fun v22=>nkW v0 fun v25=>ldW S 1 false v22 fun v23=>ldW S 1 false v25 fun v26=>biW .shl v26 (.int .u64 17) fun v27=>biW .xor v23 v27 fun v28=>nkW v0 fun v29=>stW S 1 v29 v28 fun S=>nkW v0 fun v31=>ldW S 1 false v31 fun v32=>rtW [.tmp v32] QF S
theorem wx196 {QF:AEnd→q00→Prop} {v0:AV} {S:q00} (h:Bx196 QF v0 S):ACalls PG nrx196 [v0] S QF:=
 wgf [] [] [[0],[0],[0],[0],[2]] [.l [0,1,3,4,2,5,6,7,8,9] [],.l [0,1,3,4,2,5,6,7,8,9] [],.l [0,1,3,4,2,5,6,7,8,9] []] h
abbrev nrx197:Nat:=197
def Bx197 (QF:AEnd→q00→Prop) (v0 v1 v2 v3:AV) (S:q00):Prop:=biW .sub v1 (.int .i64 1) fun v11=>biW .add v1 (.int .i64 1) fun v14=>caW PG S (.func (.func 198) [] []) [v0,v11,v1,v14,v2,v3] (fun v17 S=>rtW [.tmp v17] QF S) (pqW QF)
theorem wx197 {QF:AEnd→q00→Prop} {v0 v1 v2 v3:AV} {S:q00} (h:Bx197 QF v0 v1 v2 v3 S):ACalls PG nrx197 [v0,v1,v2,v3] S QF:=
 wgf [] [] [[0,1,2,3],[8]] [] h
abbrev nrx198:Nat:=198
def Bx198 (QF:AEnd→q00→Prop) (v0 v1 v2 v3 v4 v5:AV) (S:q00):Prop:=caW PG S (.func (.func 212) [] []) [v0,v1,v2,v4,v5] (fun v19 S=>exW 0 v19 fun v20=>exW 1 v19 fun v21=>caW PG S (.func (.func 212) [] []) [v0,v21,v3,v4,v5] (fun v28 S=>exW 0 v28 fun v29=>exW 1 v28 fun v30=>caW PG S (.func (.func 212) [] []) [v0,v20,v29,v4,v5] (fun v37 S=>exW 0 v37 fun v38=>exW 1 v37 fun v39=>rtW [.tmp v39] QF S) (pqW QF)) (pqW QF)) (pqW QF)
theorem wx198 {QF:AEnd→q00→Prop} {v0 v1 v2 v3 v4 v5:AV} {S:q00} (h:Bx198 QF v0 v1 v2 v3 v4 v5 S):ACalls PG nrx198 [v0,v1,v2,v3,v4,v5] S QF:=
 wgf [] [] [[0,1,2,3,4,5],[0,1,2,3,4,5],[0,1,2,4,5],[2],[12]] [] h
abbrev nrx200:Nat:=200
def C200_2 (QF:AEnd→q00→Prop) (v0 v12:AV) (S:q00):Prop:=grW v12 false (caW PG S (.func (.func 202) [] []) [(.str ⟨#[95,46,45]⟩),v0] (fun v15 S=>biW .geq v15 (.int .i64 0) fun v16=>pkW v12 (.bool true) v16 fun v17=>rtW [.tmp v17] QF S) (pqW QF)) (pkW v12 (.bool true) q06 fun v17=>rtW [.tmp v17] QF S)
def C200_1 (QF:AEnd→q00→Prop) (v0 v8:AV) (S:q00):Prop:=grW v8 false (caW PG S (.func (.func 184) [] []) [v0] (fun v11 S=>pkW v8 (.bool true) v11 fun v12=>C200_2 QF v0 v12 S) (pqW QF)) (pkW v8 (.bool true) q06 fun v12=>C200_2 QF v0 v12 S)
def Bx200 (QF:AEnd→q00→Prop) (v0:AV) (S:q00):Prop:=caW PG S (.func (.func 183) [] []) [v0] (fun v4 S=>grW v4 false (caW PG S (.func (.func 201) [] []) [v0] (fun v7 S=>pkW v4 (.bool true) v7 fun v8=>C200_1 QF v0 v8 S) (pqW QF)) (pkW v4 (.bool true) q06 fun v8=>C200_1 QF v0 v8 S)) (pqW QF)
theorem wx200 {QF:AEnd→q00→Prop} {v0:AV} {S:q00} (h:Bx200 QF v0 S):ACalls PG nrx200 [v0] S QF:=
 wgf [] [] [[0],[2]] [] h
abbrev nrx201:Nat:=201
def Bx201 (QF:AEnd→q00→Prop) (v0:AV) (S:q00):Prop:=biW .geq v0 (.int .u8 65) fun v4=>grW v4 true (biW .leq v0 (.int .u8 90) fun v7=>pkW v4 v7 (.bool false) fun v8=>rtW [.tmp v8] QF S) (pkW v4 q06 (.bool false) fun v8=>rtW [.tmp v8] QF S)
theorem wx201 {QF:AEnd→q00→Prop} {v0:AV} {S:q00} (h:Bx201 QF v0 S):ACalls PG nrx201 [v0] S QF:=
 wgf [] [] [[0],[2]] [] h
abbrev nrx202:Nat:=202
def Bx202 (QF:AEnd→q00→Prop) (v0 v1:AV) (S:q00):Prop:=caW PG S (.func (.func 213) [] []) [v0,v1] (fun v7 S=>rtW [.tmp v7] QF S) (pqW QF)
theorem wx202 {QF:AEnd→q00→Prop} {v0 v1:AV} {S:q00} (h:Bx202 QF v0 v1 S):ACalls PG nrx202 [v0,v1] S QF:=
 wgf [] [] [[0,1],[4]] [] h
abbrev nrx203:Nat:=203
def Bx203 (QF:AEnd→q00→Prop) (v0:AV) (S:q00):Prop:=alW S 51 [.int .i64 0,.str ⟨#[]⟩,.str ⟨#[]⟩,.nils] fun v2 S=>caW PG S (.func (.func 87) [] []) [v0] (fun v8 S=>bfW 3 v8 fun v3=>caW PG S (.func (.func 84) [] []) [v0,(.str ⟨#[40]⟩)] (fun v10 S=>cnW v10 (nkW v0 fun v12=>faW 2 v12 fun v13=>ldW S 1 false v13 fun v14=>biW .add v14 (.int .i64 1) fun v15=>nkW v0 fun v16=>faW 2 v16 fun v17=>stW S 1 v17 v15 fun S=>nkW v0 fun v19=>faW 2 v19 fun v20=>ldW S 1 false v20 fun v21=>biW .gtr v21 (.int .i64 12) fun v22=>cnW v22 (ldW S 3 true v3 fun v24=>caW PG S (.func (.func 88) [] []) [v0,v24,(.int .i64 9)] (fun v25 S=>bdW [.int .i64 0,.str ⟨#[]⟩,.str ⟨#[]⟩,.nils] [] fun v26=>stW S 4 v2 v26 fun S=>rtW [.cell v2 4 true] QF S) (pqW QF)) (caW PG S (.func (.func 132) [] []) [v0] (fun v28 S=>bfW 4 v28 fun v4=>caW PG S (.func (.func 130) [] []) [v0,(.str ⟨#[41]⟩)] (fun v30 S=>nkW v0 fun v32=>faW 2 v32 fun v33=>ldW S 1 false v33 fun v34=>biW .sub v34 (.int .i64 1) fun v35=>nkW v0 fun v36=>faW 2 v36 fun v37=>stW S 1 v37 v35 fun S=>ldW S 4 true v4 fun v38=>stW S 4 v2 v38 fun S=>rtW [.cell v2 4 true] QF S) (pqW QF)) (pqW QF))) (caW PG S (.func (.func 85) [] []) [v0] (fun v40 S=>caW PG S (.func (.func 84) [] []) [v0,(.str ⟨#[46]⟩)] (fun v42 S=>cnW v42 (caW PG S (.func (.func 85) [] []) [v0] (fun v44 S=>bdW [.int .i64 0,.str ⟨#[]⟩,.str ⟨#[]⟩,.nils] [(0,1,(.int .i64 1)),(1,1,v40),(2,1,v44)] fun v47=>stW S 4 v2 v47 fun S=>rtW [.cell v2 4 true] QF S) (pqW QF)) (bdW [.int .i64 0,.str ⟨#[]⟩,.str ⟨#[]⟩,.nils] [(0,1,(.int .i64 0)),(1,1,v40)] fun v49=>stW S 4 v2 v49 fun S=>rtW [.cell v2 4 true] QF S)) (pqW QF)) (pqW QF))) (pqW QF)) (pqW QF)
theorem wx203 {QF:AEnd→q00→Prop} {v0:AV} {S:q00} (h:Bx203 QF v0 S):ACalls PG nrx203 [v0] S QF:=
 wgf [] [3,4] [[0,2],[0,2,3],[0,2,3,10],[0,2,3],[0,2,3,22],[2],[2],[0,2,4],[0,2,4],[2,4],[2],[0,2,5],[0,2,5,42],[2,5,6],[2],[2]] [] h
abbrev nrx204:Nat:=204
def C204_1 (QF:AEnd→q00→Prop) (r0:LE→q00→Prop) (v1 v3 v4:AV) (S:q00):Prop:=faW 3 v1 fun v7=>ldW S 1 false v7 fun v8=>lnW S 1 v8 fun v9=>biW .lss v4 v9 fun v10=>cnW v10 (faW 3 v1 fun v13=>ldW S 1 false v13 fun v14=>iaW 4 v14 v4 fun v16=>ldW S 4 true v16 fun v17=>caW PG S (.func (.func 204) [] []) [v17] (fun v18 S=>biW .gtr v18 v3 fun v21=>cnW v21 (biW .add v4 (.int .i64 1) fun v12=>rcW r0 [(1,v1),(3,v18),(4,v12)] S) (biW .add v4 (.int .i64 1) fun v12=>rcW r0 [(1,v1),(3,v3),(4,v12)] S)) (pqW QF)) (biW .add v3 (.int .i64 1) fun v24=>rtW [.tmp v24] QF S)
def Bx204 (QF:AEnd→q00→Prop) (v0:AV) (S:q00):Prop:=brW 4 v0 fun v1=>LoopP (fun r0 l S=>C204_1 QF r0 (lget l 1) (lget l 3) (lget l 4) S) [(1,v1),(3,(.int .i64 0)),(4,(.int .i64 0))] S
theorem wx204 {QF:AEnd→q00→Prop} {v0:AV} {S:q00} (h:Bx204 QF v0 S):ACalls PG nrx204 [v0] S QF:=
 wgf [1] [] [[1],[1,3],[1,3,4],[1,3,4],[1,3,4,10],[1,3,4,5],[1,3,4,5,21],[1,3,4],[1,3,4],[2]] [] h
abbrev nrx205:Nat:=205
def C205_1 (QF:AEnd→q00→Prop) (r0:LE→q00→Prop) (v0 v1 v7 v8:AV) (S:q00):Prop:=biW .lss v8 v7 fun v9=>cnW v9 (iaW 6 v0 v8 fun v14=>ldW S 6 true v14 fun v15=>caW PG S v1 [v15] (fun v16 S=>cnW v16 (rtW [.tmp v8] QF S) (biW .add v8 (.int .i64 1) fun v18=>rcW r0 [(0,v0),(1,v1),(7,v7),(8,v18)] S)) (pqW QF)) (rtW [.tmp (.int .i64 (-1))] QF S)
def Bx205 (QF:AEnd→q00→Prop) (v0 v1:AV) (S:q00):Prop:=lnW S 1 v0 fun v7=>LoopP (fun r0 l S=>C205_1 QF r0 (lget l 0) (lget l 1) (lget l 7) (lget l 8) S) [(0,v0),(1,v1),(7,v7),(8,(.int .i64 0))] S
theorem wx205 {QF:AEnd→q00→Prop} {v0 v1:AV} {S:q00} (h:Bx205 QF v0 v1 S):ACalls PG nrx205 [v0,v1] S QF:=
 wgf [] [] [[0,1],[0,1,7,8],[0,1,7,8],[0,1,7,8,9],[0,1,5,7,8],[0,1,5,7,8,16],[4],[0,1,7,8],[4]] [] h
abbrev nrx206:Nat:=206
def C206_3 (QF:AEnd→q00→Prop) (v2 v32:AV) (S:q00):Prop:=grW v32 true (faW 3 v2 fun v34=>ldW S 1 false v34 fun v35=>lnW S 1 v35 fun v36=>biW .eql v36 (.int .i64 0) fun v37=>pkW v32 v37 (.bool false) fun v38=>rtW [.tmp v38] QF S) (pkW v32 q06 (.bool false) fun v38=>rtW [.tmp v38] QF S)
def C206_2 (QF:AEnd→q00→Prop) (v1 v2 v57:AV) (S:q00):Prop:=grW v57 true (faW 3 v2 fun v59=>ldW S 1 false v59 fun v60=>iaW 4 v60 (.int .i64 1) fun v61=>ldW S 4 true v61 fun v62=>biW .sub v1 (.int .i64 1) fun v64=>caW PG S (.func (.func 206) [] []) [v62,v64] (fun v65 S=>pkW v57 v65 (.bool false) fun v66=>rtW [.tmp v66] QF S) (pqW QF)) (pkW v57 q06 (.bool false) fun v66=>rtW [.tmp v66] QF S)
def C206_1 (QF:AEnd→q00→Prop) (v1 v2 v48:AV) (S:q00):Prop:=grW v48 true (faW 3 v2 fun v50=>ldW S 1 false v50 fun v51=>iaW 4 v51 (.int .i64 0) fun v52=>ldW S 4 true v52 fun v53=>biW .sub v1 (.int .i64 1) fun v55=>caW PG S (.func (.func 206) [] []) [v53,v55] (fun v56 S=>pkW v48 v56 (.bool false) fun v57=>C206_2 QF v1 v2 v57 S) (pqW QF)) (pkW v48 q06 (.bool false) fun v57=>C206_2 QF v1 v2 v57 S)
def Bx206 (QF:AEnd→q00→Prop) (v0 v1:AV) (S:q00):Prop:=brW 4 v0 fun v2=>biW .eql v1 (.int .i64 0) fun v7=>cnW v7 (rtW [.tmp (.bool false)] QF S) (faW 0 v2 fun v9=>ldW S 1 false v9 fun v10=>biW .eql v10 (.int .i64 0) fun v11=>cnW v11 (faW 1 v2 fun v12=>ldW S 1 false v12 fun v13=>caW PG S (.func (.func 144) [] []) [v13] (fun v14 S=>grW v14 true (faW 3 v2 fun v16=>ldW S 1 false v16 fun v17=>lnW S 1 v17 fun v18=>biW .eql v18 (.int .i64 0) fun v19=>pkW v14 v19 (.bool false) fun v20=>rtW [.tmp v20] QF S) (pkW v14 q06 (.bool false) fun v20=>rtW [.tmp v20] QF S)) (pqW QF)) (faW 0 v2 fun v22=>ldW S 1 false v22 fun v23=>biW .eql v23 (.int .i64 1) fun v24=>cnW v24 (faW 1 v2 fun v25=>ldW S 1 false v25 fun v26=>caW PG S (.func (.func 144) [] []) [v26] (fun v27 S=>grW v27 true (faW 2 v2 fun v29=>ldW S 1 false v29 fun v30=>caW PG S (.func (.func 144) [] []) [v30] (fun v31 S=>pkW v27 v31 (.bool false) fun v32=>C206_3 QF v2 v32 S) (pqW QF)) (pkW v27 q06 (.bool false) fun v32=>C206_3 QF v2 v32 S)) (pqW QF)) (faW 0 v2 fun v39=>ldW S 1 false v39 fun v40=>caW PG S (.func (.func 214) [] []) [v40] (fun v41 S=>biW .neq v41 (.str ⟨#[]⟩) fun v42=>grW v42 true (faW 3 v2 fun v44=>ldW S 1 false v44 fun v45=>lnW S 1 v45 fun v46=>biW .eql v46 (.int .i64 2) fun v47=>pkW v42 v47 (.bool false) fun v48=>C206_1 QF v1 v2 v48 S) (pkW v42 q06 (.bool false) fun v48=>C206_1 QF v1 v2 v48 S)) (pqW QF))))
theorem wx206 {QF:AEnd→q00→Prop} {v0 v1:AV} {S:q00} (h:Bx206 QF v0 v1 S):ACalls PG nrx206 [v0,v1] S QF:=
 wgf [2] [] [[1,2],[1,2,5],[4],[1,2,8],[4],[1,2,21],[4],[4]] [] h
abbrev nrx207:Nat:=207
def Bx207 (QF:AEnd→q00→Prop) (v0 v1:AV) (S:q00):Prop:=caW PG S (.func (.func 215) [] []) [v0,v1] (fun v7 S=>biW .geq v7 (.int .i64 0) fun v8=>rtW [.tmp v8] QF S) (pqW QF)
theorem wx207 {QF:AEnd→q00→Prop} {v0 v1:AV} {S:q00} (h:Bx207 QF v0 v1 S):ACalls PG nrx207 [v0,v1] S QF:=
 wgf [] [] [[0,1],[4]] [] h
abbrev nrx208:Nat:=208
def Bx208 (QF:AEnd→q00→Prop) (v0:AV) (S:q00):Prop:=brW 2 v0 fun v1=>ldW S 2 true v1 fun v3=>caW PG S (.func (.func 209) [] []) [v3] (fun v4 S=>ntW v4 fun v5=>rtW [.tmp v5] QF S) (pqW QF)
theorem wx208 {QF:AEnd→q00→Prop} {v0:AV} {S:q00} (h:Bx208 QF v0 S):ACalls PG nrx208 [v0] S QF:=
 wgf [1] [] [[1],[2]] [] h
abbrev nrx209:Nat:=209
def C209_2 (QF:AEnd→q00→Prop) (v6 v10 v13:AV) (S:q00):Prop:=grW v6 true (pkW v10 (.bool true) v13 fun v14=>pkW v6 v14 (.bool false) fun v15=>rtW [.tmp v15] QF S) (pkW v6 q06 (.bool false) fun v15=>rtW [.tmp v15] QF S)
def C209_1 (QF:AEnd→q00→Prop) (v1 v6 v10:AV) (S:q00):Prop:=grW v10 false (faW 1 v1 fun v11=>ldW S 1 false v11 fun v12=>caW PG S (.func (.func 144) [] []) [v12] (fun v13 S=>C209_2 QF v6 v10 v13 S) (pqW QF)) (C209_2 QF v6 v10 q06 S)
def Bx209 (QF:AEnd→q00→Prop) (v0:AV) (S:q00):Prop:=brW 2 v0 fun v1=>faW 0 v1 fun v3=>ldW S 1 false v3 fun v4=>caW PG S (.func (.func 144) [] []) [v4] (fun v5 S=>grW v5 true (faW 1 v1 fun v7=>ldW S 1 false v7 fun v8=>biW .eql v8 (.str ⟨#[]⟩) fun v9=>C209_1 QF v1 v5 v9 S) (C209_1 QF v1 v5 q06 S)) (pqW QF)
theorem wx209 {QF:AEnd→q00→Prop} {v0:AV} {S:q00} (h:Bx209 QF v0 S):ACalls PG nrx209 [v0] S QF:=
 wgf [1] [] [[1],[2]] [] h
abbrev nrx212:Nat:=212
def Bx212 (QF:AEnd→q00→Prop) (v0 v1 v2 v3 v4:AV) (S:q00):Prop:=iaW 2 v0 v2 fun v15=>iaW 2 v0 v1 fun v19=>ldW S 2 true v15 fun v16=>ldW S 2 true v19 fun v20=>caW PG S v4 [v16,v20] (fun v21 S=>biW .lss v21 (.int .i64 0) fun v22=>cnW v22 (nkW v3 fun v24=>ldW S 1 false v24 fun v25=>biW .add v25 (.int .i64 1) fun v26=>nkW v3 fun v27=>stW S 1 v27 v26 fun S=>rtW [.tmp v2,.tmp v1] QF S) (rtW [.tmp v1,.tmp v2] QF S)) (pqW QF)
theorem wx212 {QF:AEnd→q00→Prop} {v0 v1 v2 v3 v4:AV} {S:q00} (h:Bx212 QF v0 v1 v2 v3 v4 S):ACalls PG nrx212 [v0,v1,v2,v3,v4] S QF:=
 wgf [] [] [[0,1,2,3,4],[1,2,3,22],[1,2],[10,11],[10,11]] [.l [0,1,2,3,5,6,7,4,8,9,10] []] h
abbrev nrx213:Nat:=213
def Bx213 (QF:AEnd→q00→Prop) (v0 v1:AV) (S:q00):Prop:=caW PG S (.func (.func 216) [] []) [v0,v1] (fun v7 S=>rtW [.tmp v7] QF S) (pqW QF)
theorem wx213 {QF:AEnd→q00→Prop} {v0 v1:AV} {S:q00} (h:Bx213 QF v0 v1 S):ACalls PG nrx213 [v0,v1] S QF:=
 wgf [] [] [[0,1],[4]] [] h
abbrev nrx214:Nat:=214
def Bx214 (QF:AEnd→q00→Prop) (v0:AV) (S:q00):Prop:=biW .eql v0 (.int .i64 2) fun v5=>cnW v5 (rtW [.tmp (.str ⟨#[32,43,32]⟩)] QF S) (biW .eql v0 (.int .i64 3) fun v7=>cnW v7 (rtW [.tmp (.str ⟨#[32,38,32]⟩)] QF S) (biW .eql v0 (.int .i64 4) fun v9=>cnW v9 (rtW [.tmp (.str ⟨#[32,45,32]⟩)] QF S) (rtW [.tmp (.str ⟨#[]⟩)] QF S)))
theorem wx214 {QF:AEnd→q00→Prop} {v0:AV} {S:q00} (h:Bx214 QF v0 S):ACalls PG nrx214 [v0] S QF:=
 wgf [] [] [[0],[3],[3,4],[2],[3,6],[2],[8],[2],[2]] [] h
abbrev nrx215:Nat:=215
def C215_1 (QF:AEnd→q00→Prop) (r0:LE→q00→Prop) (v0 v1 v7 v8:AV) (S:q00):Prop:=biW .lss v8 v7 fun v9=>cnW v9 (iaW 2 v0 v8 fun v14=>ldW S 2 true v14 fun v15=>caW PG S v1 [v15] (fun v16 S=>cnW v16 (rtW [.tmp v8] QF S) (biW .add v8 (.int .i64 1) fun v18=>rcW r0 [(0,v0),(1,v1),(7,v7),(8,v18)] S)) (pqW QF)) (rtW [.tmp (.int .i64 (-1))] QF S)
def Bx215 (QF:AEnd→q00→Prop) (v0 v1:AV) (S:q00):Prop:=lnW S 1 v0 fun v7=>LoopP (fun r0 l S=>C215_1 QF r0 (lget l 0) (lget l 1) (lget l 7) (lget l 8) S) [(0,v0),(1,v1),(7,v7),(8,(.int .i64 0))] S
theorem wx215 {QF:AEnd→q00→Prop} {v0 v1:AV} {S:q00} (h:Bx215 QF v0 v1 S):ACalls PG nrx215 [v0,v1] S QF:=
 wgf [] [] [[0,1],[0,1,7,8],[0,1,7,8],[0,1,7,8,9],[0,1,5,7,8],[0,1,5,7,8,16],[4],[0,1,7,8],[4]] [] h
end Go.HL
