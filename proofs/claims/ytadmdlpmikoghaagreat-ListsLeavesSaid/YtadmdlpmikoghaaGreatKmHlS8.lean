/- A part of a proof. -/
import Derived.Test.YtadmdlpmikoghaaGreatKmHlT
import Derived.Test.YtadmdlpmikoghaaGreatKmHlR
set_option maxRecDepth 100000
set_option linter.unusedVariables false
namespace Go.HL
def tf_engine_Check_1:TFunc where
 n:=17
 args:=4
 res:=[]
 code:=.seq (.reg [im 7 3,i1 8 (.eqnil true (.t 7))] [0,1,2,3,8] []) (.cond (.t 8) (.seq (.seq (.reg [im 10 3,i1 11 (.asrt 100 true (.agg []) (.t 10)),im 9 11,i1 12 (.extr (.t 9) 0),i1 13 (.extr (.t 9) 1),
  .box2 4 100 [] 0 (.t 12),im 5 13] [0,1,2,3,5] []) (.seq (.reg [im 14 5,i1 15 (.not (.t 14))] [0,1,2,3,15] []) (.cond (.t 15) (.reg [im 16 3,i0 (.panic (.t 16))] [0,1,2] []) (.skip)))) (.reg [i0 (.store 1 (.t 0) (.c (.bool false))),i0 (.store 1 (.t 1) (.c (.int .i64 0))),i0 (.store 1 (.t 2) (.c (.int .i64 12)))] [] [])) (.skip))
def q25 (T:q00→Prop) (v0 v1 v2 v3:AV) (S:q00):Prop:=
 enW true v3 fun v8=>
 cnW v8 (taW 100 true (.agg []) v3 fun v11=>
 exW 0 v11 fun v12=>
 exW 1 v11 fun v13=>
 bfW 0 v12 fun v4=>
 ntW v13 fun v15=>
 cnW v15 (paW S v3 (fun _ _=>False))
 (stW S 1 v0 (.bool false) fun S=>
 stW S 1 v1 (.int .i64 0) fun S=>
 stW S 1 v2 (.int .i64 12) fun S=>
 T S))
 (T S)
theorem q8j {T:q00→Prop} {v0 v1 v2 v3:AV} {S:q00}:swp PG tf_engine_Check_1.code (fun _ S=>T S) (fun _ _ _=>False) (fun _ S=>T S) (fun _ _=>False) (q4t [v0,v1,v2,v3]) S=q25 T v0 v1 v2 v3 S:=by kernel_rfl
def dfx18:DFunc where
 n:=88
 args:=6
 res:=[.cell 12 1 false,.cell 13 1 false,.cell 14 1 false]
 pre:=[.reg [i1 6 (.boxr 24 1 (.t 0)),
  i1 8 (.boxr 27 2 (.t 2)),
  i1 10 (.boxr 27 2 (.t 4)),
  i1 12 (.alloc 4 [.bool false]),
  i1 13 (.alloc 3 [.int .i64 0]),
  i1 14 (.alloc 30 [.int .i64 0])] [1,3,5,6,8,10,12,13,14] [],
  .seq (.reg [i1 21 (.mov (.t 5)),
  i1 22 (.bin .lss (.t 21) (.c (.int .i64 0))),
  i1 23 (.mov (.t 22)),
  .grp 23 false [s1 24 (.mov (.t 5)),s1 25 (.bin .gtr (.t 24) (.c (.int .i64 100000)))],
  i1 26 (.pick (.t 23) (.c (.bool true)) (.t 25)),
  i1 27 (.mov (.t 26)),
  .grp 27 false [s1 28 (.load 1 true (.t 6)),s1 29 (.call (.f 47) [.t 28]),s1 30 (.field 2 1 false (.t 29)),s1 31 (.bin .neq (.t 30) (.c (.int .i64 0)))],
  i1 32 (.pick (.t 27) (.c (.bool true)) (.t 31))] [1,3,5,6,8,10,12,13,14,32] []) (.cond (.t 32) (.seq (.reg [i0 (.store 1 (.t 12) (.c (.bool false))),
  i0 (.store 1 (.t 13) (.c (.int .i64 0))),
  i0 (.store 1 (.t 14) (.c (.int .i64 1)))] [12,13,14] []) (.ret)) (.skip)),
  .seq (.reg [i1 34 (.load 1 true (.t 6)),
  i1 35 (.faddr 0 (.t 8)),
  i1 36 (.load 1 false (.t 35)),
  i1 37 (.mov (.t 3)),
  i1 38 (.call (.f 48) [.t 34,.t 36,.t 37]),
  i1 33 (.mov (.t 38)),
  i1 39 (.extr (.t 33) 0),
  i1 40 (.extr (.t 33) 1),
  .box2 15 53 [.str ⟨#[]⟩,.nils,.int .i64 0,.str ⟨#[]⟩,.str ⟨#[]⟩,.nils] 6 (.t 39),
  i1 16 (.mov (.t 40))] [1,3,5,6,8,10,12,13,14,16] []) (.seq (.reg [i1 41 (.mov (.t 16)),
  i1 42 (.not (.t 41))] [1,3,5,6,8,10,12,13,14,42] []) (.cond (.t 42) (.seq (.reg [i0 (.store 1 (.t 12) (.c (.bool false))),
  i0 (.store 1 (.t 13) (.c (.int .i64 0))),
  i0 (.store 1 (.t 14) (.c (.int .i64 6)))] [12,13,14] []) (.ret)) (.skip))),
  .reg [i1 43 (.load 1 true (.t 6)),
  i1 44 (.mkmap (true,[.str,.str,.str])),
  i1 45 (.load 2 true (.t 10)),
  i1 46 (.mov (.t 5)),
  i1 47 (.mkmap (true,[.str,.str,.str])),
  i1 48 (.build [.nils,.map none,.str ⟨#[]⟩,.str ⟨#[]⟩,.int .i64 0,.int .i64 0,.map none] [(0,1,.t 43),(1,1,.t 44),(2,2,.t 45),(4,1,.t 46),(6,1,.t 47)]),
  i1 49 (.box 94 7 (.t 48)),
  i1 17 (.mov (.t 49))] [1,3,6,8,12,13,14,17] [],
  .seq (.reg [i1 50 (.mov (.t 1)),
  i1 51 (.len 1 (.t 50)),
  i1 52 (.mov (.c (.int .i64 0)))] [3,6,8,12,13,14,17,50,51,52] []) (.block 0 (.loop [3,6,8,12,13,14,17,50,51,52] (.seq (.reg [i1 53 (.bin .lss (.t 52) (.t 51))] [3,6,8,12,13,14,17,50,51,52,53] []) (.seq (.cond (.t 53) (.skip) (.exit 0)) (.seq (.block 1 (.seq (.reg [i1 54 (.iaddr 6 (.t 50) (.t 52)),
  i1 55 (.load 6 true (.t 54)),
  .box2 19 41 [.str ⟨#[]⟩,.str ⟨#[]⟩,.str ⟨#[]⟩,.str ⟨#[]⟩,.str ⟨#[]⟩,.str ⟨#[]⟩] 6 (.t 55)] [3,6,8,12,13,14,17,19,50,51,52] []) (.seq (.reg [i1 56 (.load 1 true (.t 6)),
  i1 57 (.load 6 true (.t 19)),
  i1 58 (.call (.f 49) [.t 56,.t 57]),
  i1 59 (.bin .eql (.t 58) (.c (.int .i64 0)))] [3,6,8,12,13,14,17,19,50,51,52,59] []) (.cond (.t 59) (.seq (.reg [i1 60 (.faddr 0 (.t 19)),
  i1 61 (.load 2 true (.t 60)),
  i1 62 (.faddr 2 (.t 19)),
  i1 63 (.load 1 false (.t 62)),
  i1 64 (.build [.str ⟨#[]⟩,.str ⟨#[]⟩,.str ⟨#[]⟩] [(0,2,.t 61),(2,1,.t 63)]),
  .box2 20 97 [.str ⟨#[]⟩,.str ⟨#[]⟩,.str ⟨#[]⟩] 3 (.t 64)] [3,6,8,12,13,14,17,19,20,50,51,52] []) (.regl [0,1,2,5,3,4,6,7,8,9,11,10,12] [i1 65 (.mov (.t 17)),
  i1 66 (.nilck (.t 65)),
  i1 67 (.faddr 1 (.t 66)),
  i1 71 (.faddr 3 (.t 19)),
  i1 68 (.load 1 false (.t 67)),
  i1 69 (.load 3 true (.t 20)),
  i1 72 (.load 3 true (.t 71)),
  i1 73 (.bslicr 39 3 [.t 72]),
  i1 74 (.ment (true,[.str,.str,.str]) (.nils) (.t 68) (.t 69)),
  i1 70 (.extr (.t 74) 0),
  i1 76 (.extr (.t 74) 1),
  i1 75 (.app 39 3 48 (.t 70) (.t 73)),
  i0 (.mst (.t 68) (.t 76) (.t 75))] [3,6,8,12,13,14,17,50,51,52] [])) (.skip))))) (.reg [i1 77 (.bin .add (.t 52) (.c (.int .i64 1))),
  i1 52 (.mov (.t 77))] [3,6,8,12,13,14,17,50,51,52] []))))))]
 k:=78
 fid:=50
 caps:=[12,13,14]
 call:=[s1 79 (.mov (.t 17)),s1 80 (.load 2 true (.t 8)),s1 81 (.mov (.t 3)),s1 82 (.call (.f 51) [.t 79,.t 80,.t 81]),s0 (.store 1 (.t 12) (.t 82))]
 keep:=[12,13,14,17]
 post:=.seq (.regl [1,2,3,0,4,5,6,7] [i1 84 (.mov (.t 17)),
  i1 85 (.nilck (.t 84)),
  i1 86 (.faddr 5 (.t 85)),
  i1 83 (.load 1 false (.t 12)),
  i1 87 (.load 1 false (.t 86)),
  .one { d:=none,o:=.store 1 (.t 12) (.t 83),x:=[86] },
  i0 (.store 1 (.t 13) (.t 87)),
  i0 (.store 1 (.t 14) (.c (.int .i64 0)))] [12,13,14] []) (.ret)
abbrev nrx18:Nat:=18
def CA18_4 (QF:AEnd→q00→Prop) (K:LE→q00→Prop) (r0:LE→q00→Prop) (v3 v6 v8 v12 v13 v14 v17 v50 v51 v52:AV) (S:q00):Prop:=biW .add v52 (.int .i64 1) fun v77=>rcW r0 [(3,v3),(6,v6),(8,v8),(12,v12),(13,v13),(14,v14),(17,v17),(50,v50),(51,v51),(52,v77)] S
def CA18_3 (QF:AEnd→q00→Prop) (K:LE→q00→Prop) (r0:LE→q00→Prop) (v3 v6 v8 v12 v13 v14 v17 v50 v51 v52:AV) (S:q00):Prop:=biW .lss v52 v51 fun v53=>cnW v53 (iaW 6 v50 v52 fun v54=>ldW S 6 true v54 fun v55=>bfW 6 v55 fun v19=>ldW S 1 true v6 fun v56=>ldW S 6 true v19 fun v57=>caW PG S (.func (.func 49) [] []) [v56,v57] (fun v58 S=>biW .eql v58 (.int .i64 0) fun v59=>cnW v59 (faW 0 v19 fun v60=>ldW S 2 true v60 fun v61=>faW 2 v19 fun v62=>ldW S 1 false v62 fun v63=>bdW [.str ⟨#[]⟩,.str ⟨#[]⟩,.str ⟨#[]⟩] [(0,2,v61),(2,1,v63)] fun v64=>bfW 3 v64 fun v20=>nkW v17 fun v66=>faW 1 v66 fun v67=>faW 3 v19 fun v71=>ldW S 1 false v67 fun v68=>ldW S 3 true v20 fun v69=>ldW S 3 true v71 fun v72=>srW 3 [v72] fun v73=>meW S (true,[.str,.str,.str]) (.nils) v68 v69 fun v74 S=>exW 0 v74 fun v70=>exW 1 v74 fun v76=>apW S 39 3 48 v70 v73 fun v75 S=>mtW S v68 v76 v75 fun S=>CA18_4 QF K r0 v3 v6 v8 v12 v13 v14 v17 v50 v51 v52 S) (CA18_4 QF K r0 v3 v6 v8 v12 v13 v14 v17 v50 v51 v52 S)) (pqW QF)) (K [(3,v3),(6,v6),(8,v8),(12,v12),(13,v13),(14,v14),(17,v17),(50,v50),(51,v51),(52,v52),(53,v53)] S)
def CA18_2 (QF:AEnd→q00→Prop) (K:LE→q00→Prop) (v1 v3 v5 v6 v8 v10 v12 v13 v14 v32:AV) (S:q00):Prop:=cnW v32 (stW S 1 v12 (.bool false) fun S=>stW S 1 v13 (.int .i64 0) fun S=>stW S 1 v14 (.int .i64 1) fun S=>rtW [.cell v12 1 false,.cell v13 1 false,.cell v14 1 false] QF S) (ldW S 1 true v6 fun v34=>faW 0 v8 fun v35=>ldW S 1 false v35 fun v36=>caW PG S (.func (.func 48) [] []) [v34,v36,v3] (fun v38 S=>exW 0 v38 fun v39=>exW 1 v38 fun v40=>bfW 6 v39 fun v15=>ntW v40 fun v42=>cnW v42 (stW S 1 v12 (.bool false) fun S=>stW S 1 v13 (.int .i64 0) fun S=>stW S 1 v14 (.int .i64 6) fun S=>rtW [.cell v12 1 false,.cell v13 1 false,.cell v14 1 false] QF S) (ldW S 1 true v6 fun v43=>mmW S (true,[.str,.str,.str]) fun v44 S=>ldW S 2 true v10 fun v45=>mmW S (true,[.str,.str,.str]) fun v47 S=>bdW [.nils,.map none,.str ⟨#[]⟩,.str ⟨#[]⟩,.int .i64 0,.int .i64 0,.map none] [(0,1,v43),(1,1,v44),(2,2,v45),(4,1,v5),(6,1,v47)] fun v48=>bxW S 94 7 v48 fun v49 S=>lnW S 1 v1 fun v51=>LoopP (fun r0 l S=>CA18_3 QF K r0 (lget l 3) (lget l 6) (lget l 8) (lget l 12) (lget l 13) (lget l 14) (lget l 17) (lget l 50) (lget l 51) (lget l 52) S) [(3,v3),(6,v6),(8,v8),(12,v12),(13,v13),(14,v14),(17,v49),(50,v1),(51,v51),(52,(.int .i64 0))] S)) (pqW QF))
def CA18_1 (QF:AEnd→q00→Prop) (K:LE→q00→Prop) (v1 v3 v5 v6 v8 v10 v12 v13 v14 v26:AV) (S:q00):Prop:=grW v26 false (ldW S 1 true v6 fun v28=>caW PG S (.func (.func 47) [] []) [v28] (fun v29 S=>fdW 2 1 false v29 fun v30=>biW .neq v30 (.int .i64 0) fun v31=>pkW v26 (.bool true) v31 fun v32=>CA18_2 QF K v1 v3 v5 v6 v8 v10 v12 v13 v14 v32 S) (pqW QF)) (pkW v26 (.bool true) q06 fun v32=>CA18_2 QF K v1 v3 v5 v6 v8 v10 v12 v13 v14 v32 S)
def Ax18 (QF:AEnd→q00→Prop) (K:LE→q00→Prop) (v0 v1 v2 v3 v4 v5:AV) (S:q00):Prop:=brW 1 v0 fun v6=>brW 2 v2 fun v8=>brW 2 v4 fun v10=>alW S 4 [.bool false] fun v12 S=>alW S 3 [.int .i64 0] fun v13 S=>alW S 30 [.int .i64 0] fun v14 S=>biW .lss v5 (.int .i64 0) fun v22=>grW v22 false (biW .gtr v5 (.int .i64 100000) fun v25=>pkW v22 (.bool true) v25 fun v26=>CA18_1 QF K v1 v3 v5 v6 v8 v10 v12 v13 v14 v26 S) (pkW v22 (.bool true) q06 fun v26=>CA18_1 QF K v1 v3 v5 v6 v8 v10 v12 v13 v14 v26 S)
def Gx18 (En:LE→q00→Prop) (Pn:LE→AV→q00→Prop) (v3 v6 v8 v12 v13 v14 v17 v50 v51 v52 v53:AV) (S:q00):Prop:=
 ldW S 2 true v8 fun v80=>
 caW PG S (.func (.func 51) [] []) [v17,v80,v3] (fun v82 S=>
 stW S 1 v12 v82 fun S=>
 nkW v17 fun v85=>
 faW 5 v85 fun v86=>
 ldW S 1 false v12 fun v83=>
 ldW S 1 false v86 fun v87=>
 stW S 1 v12 v83 fun S1=>
 kpW [v86] S S1 (
 stW S1 1 v13 v87 fun S=>
 stW S 1 v14 (.int .i64 0) fun S=>
 En [(12,v12),(13,v13),(14,v14)] S)) (Pn [(12,v12),(13,v13),(14,v14),(17,v17)])
theorem a_engine_Check {QF:AEnd→q00→Prop} {K:LE→q00→Prop} {v0 v1 v2 v3 v4 v5:AV} {S:q00}:swpL PG dfx18.pre K (fun l S=>rtW (dfx18.res.map (toRW (lget l))) QF S) (pqW QF) (q4t [v0,v1,v2,v3,v4,v5]) S=Ax18 QF K v0 v1 v2 v3 v4 v5 S:=by kernel_rfl
theorem gx18 {En:LE→q00→Prop} {Pn:LE→AV→q00→Prop} {v3 v6 v8 v12 v13 v14 v17 v50 v51 v52 v53:AV} {S:q00}:dfrW PG dfx18 En Pn [(3,v3),(6,v6),(8,v8),(12,v12),(13,v13),(14,v14),(17,v17),(50,v50),(51,v51),(52,v52),(53,v53)] S=Gx18 En Pn v3 v6 v8 v12 v13 v14 v17 v50 v51 v52 v53 S:=by kernel_rfl
theorem wx18 {QF:AEnd→q00→Prop} {v0 v1 v2 v3 v4 v5:AV} {S:q00} (h:Ax18 QF (fun l S=>dfrW PG dfx18 (endW PG dfx18 tf_engine_Check_1 QF (dfx18.caps.map (lget l))) (panW PG dfx18 tf_engine_Check_1 QF (dfx18.caps.map (lget l))) l S) v0 v1 v2 v3 v4 v5 S):ACalls PG nrx18 [v0,v1,v2,v3,v4,v5] S QF:=
 acalls_dfr (D:=dfx18) (F:=tf_engine_Check_1) (k:=6) (by kernel_rfl) rfl (Eq.mpr a_engine_Check h)
def tf_lists_Expand_1:TFunc where
 n:=18
 args:=4
 res:=[]
 code:=.seq (.reg [im 7 3,i1 8 (.eqnil true (.t 7))] [0,1,2,3,8] []) (.cond (.t 8) (.seq (.seq (.reg [im 10 3,i1 11 (.asrt 135 true (.agg []) (.t 10)),im 9 11,i1 12 (.extr (.t 9) 0),i1 13 (.extr (.t 9) 1),
  .box2 4 135 [] 0 (.t 12),im 5 13] [0,1,2,3,5] []) (.seq (.reg [im 14 5,i1 15 (.not (.t 14))] [0,1,2,3,15] []) (.cond (.t 15) (.reg [im 16 3,i0 (.panic (.t 16))] [0,1,2] []) (.skip)))) (.reg [i1 17 (.build [.str ⟨#[]⟩,.nils,.nils] []),i0 (.store 3 (.t 0) (.t 17)),i0 (.store 1 (.t 1) (.c (.int .i64 0))),i0 (.store 1 (.t 2) (.c (.int .i64 12)))] [] [])) (.skip))
def q3w (T:q00→Prop) (v0 v1 v2:AV) (S:q00):Prop:=
 bdW [.str ⟨#[]⟩,.nils,.nils] [] fun v17=>
 stW S 3 v0 v17 fun S=>
 stW S 1 v1 (.int .i64 0) fun S=>
 stW S 1 v2 (.int .i64 12) fun S=>
 T S
def q24 (T:q00→Prop) (v0 v1 v2 v3:AV) (S:q00):Prop:=
 enW true v3 fun v8=>
 cnW v8 (taW 135 true (.agg []) v3 fun v11=>
 exW 0 v11 fun v12=>
 exW 1 v11 fun v13=>
 bfW 0 v12 fun v4=>
 ntW v13 fun v15=>
 cnW v15 (paW S v3 (fun _ _=>False))
 (q3w T v0 v1 v2 S))
 (T S)
theorem q8i {T:q00→Prop} {v0 v1 v2 v3:AV} {S:q00}:swp PG tf_lists_Expand_1.code (fun _ S=>T S) (fun _ _ _=>False) (fun _ S=>T S) (fun _ _=>False) (q4t [v0,v1,v2,v3]) S=q24 T v0 v1 v2 v3 S:=by kernel_rfl
def dfx36:DFunc where
 n:=77
 args:=5
 res:=[.cell 10 3 true,.cell 11 1 false,.cell 12 1 false]
 pre:=[.reg [i1 5 (.boxr 24 1 (.t 0)),
  i1 7 (.boxr 27 2 (.t 2)),
  i1 10 (.alloc 70 [.str ⟨#[]⟩,.nils,.nils]),
  i1 11 (.alloc 3 [.int .i64 0]),
  i1 12 (.alloc 30 [.int .i64 0])] [1,3,4,5,7,10,11,12] [],
  .seq (.reg [i1 19 (.load 1 true (.t 5)),
  i1 20 (.mov (.t 4)),
  i1 21 (.call (.f 69) [.t 19,.t 20]),
  i1 22 (.not (.t 21))] [1,3,4,5,7,10,11,12,22] []) (.cond (.t 22) (.seq (.reg [i1 23 (.load 3 true (.t 10)),
  i0 (.store 3 (.t 10) (.t 23)),
  i0 (.store 1 (.t 11) (.c (.int .i64 0))),
  i0 (.store 1 (.t 12) (.c (.int .i64 1)))] [10,11,12] []) (.ret)) (.skip)),
  .reg [i1 25 (.load 1 true (.t 5)),
  i1 26 (.faddr 0 (.t 7)),
  i1 27 (.load 1 false (.t 26)),
  i1 28 (.mov (.t 3)),
  i1 29 (.call (.f 48) [.t 25,.t 27,.t 28]),
  i1 24 (.mov (.t 29)),
  i1 30 (.extr (.t 24) 0),
  i1 31 (.extr (.t 24) 1),
  .box2 13 53 [.str ⟨#[]⟩,.nils,.int .i64 0,.str ⟨#[]⟩,.str ⟨#[]⟩,.nils] 6 (.t 30),
  i1 14 (.mov (.t 31))] [1,4,5,7,10,11,12,13,14] [],
  .seq (.reg [i1 32 (.mov (.t 14)),
  i1 33 (.not (.t 32))] [1,4,5,7,10,11,12,13,33] []) (.cond (.t 33) (.seq (.reg [i1 34 (.load 3 true (.t 10)),
  i0 (.store 3 (.t 10) (.t 34)),
  i0 (.store 1 (.t 11) (.c (.int .i64 0))),
  i0 (.store 1 (.t 12) (.c (.int .i64 6)))] [10,11,12] []) (.ret)) (.skip)),
  .reg [i1 35 (.load 1 true (.t 5)),
  i1 36 (.mkmap (true,[.str,.str,.str])),
  i1 37 (.mov (.t 4)),
  i1 38 (.mkmap (true,[.str,.str,.str])),
  i1 39 (.build [.nils,.map none,.int .i64 0,.int .i64 0,.map none] [(0,1,.t 35),(1,1,.t 36),(2,1,.t 37),(4,1,.t 38)]),
  i1 40 (.box 132 5 (.t 39)),
  i1 15 (.mov (.t 40))] [1,5,7,10,11,12,13,15] [],
  .seq (.reg [i1 41 (.load 1 true (.t 5)),
  i1 42 (.mov (.t 1)),
  i1 43 (.call (.f 70) [.t 41,.t 42]),
  i1 44 (.len 1 (.t 43)),
  i1 45 (.mov (.c (.int .i64 0)))] [7,10,11,12,13,15,43,44,45] []) (.block 0 (.loop [7,10,11,12,13,15,43,44,45] (.seq (.reg [i1 46 (.bin .lss (.t 45) (.t 44))] [7,10,11,12,13,15,43,44,45,46] []) (.seq (.cond (.t 46) (.skip) (.exit 0)) (.seq (.block 1 (.seq (.reg [i1 47 (.iaddr 6 (.t 43) (.t 45)),
  i1 48 (.load 6 true (.t 47)),
  .box2 17 41 [.str ⟨#[]⟩,.str ⟨#[]⟩,.str ⟨#[]⟩,.str ⟨#[]⟩,.str ⟨#[]⟩,.str ⟨#[]⟩] 6 (.t 48)] [7,10,11,12,13,15,17,43,44,45] []) (.seq (.reg [i1 49 (.faddr 0 (.t 17)),
  i1 50 (.load 2 true (.t 49)),
  i1 51 (.faddr 2 (.t 17)),
  i1 52 (.load 1 false (.t 51)),
  i1 53 (.build [.str ⟨#[]⟩,.str ⟨#[]⟩,.str ⟨#[]⟩] [(0,2,.t 50),(2,1,.t 52)]),
  .box2 18 134 [.str ⟨#[]⟩,.str ⟨#[]⟩,.str ⟨#[]⟩] 3 (.t 53)] [7,10,11,12,13,15,17,18,43,44,45] []) (.regl [0,1,2,5,3,4,6,7,8,9,11,10,12] [i1 54 (.mov (.t 15)),
  i1 55 (.nilck (.t 54)),
  i1 56 (.faddr 1 (.t 55)),
  i1 60 (.faddr 3 (.t 17)),
  i1 57 (.load 1 false (.t 56)),
  i1 58 (.load 3 true (.t 18)),
  i1 61 (.load 3 true (.t 60)),
  i1 62 (.bslicr 39 3 [.t 61]),
  i1 63 (.ment (true,[.str,.str,.str]) (.nils) (.t 57) (.t 58)),
  i1 59 (.extr (.t 63) 0),
  i1 65 (.extr (.t 63) 1),
  i1 64 (.app 39 3 48 (.t 59) (.t 62)),
  i0 (.mst (.t 57) (.t 65) (.t 64))] [7,10,11,12,13,15,43,44,45] [])))) (.reg [i1 66 (.bin .add (.t 45) (.c (.int .i64 1))),
  i1 45 (.mov (.t 66))] [7,10,11,12,13,15,43,44,45] []))))))]
 k:=67
 fid:=76
 caps:=[10,11,12]
 call:=[s1 68 (.mov (.t 15)),s1 69 (.load 2 true (.t 7)),s1 70 (.load 6 true (.t 13)),s1 71 (.call (.f 77) [.t 68,.t 69,.t 70]),s0 (.store 3 (.t 10) (.t 71))]
 keep:=[10,11,12,15]
 post:=.seq (.regl [1,2,3,0,4,5,6,7] [i1 73 (.mov (.t 15)),
  i1 74 (.nilck (.t 73)),
  i1 75 (.faddr 3 (.t 74)),
  i1 72 (.load 3 true (.t 10)),
  i1 76 (.load 1 false (.t 75)),
  .one { d:=none,o:=.store 3 (.t 10) (.t 72),x:=[75] },
  i0 (.store 1 (.t 11) (.t 76)),
  i0 (.store 1 (.t 12) (.c (.int .i64 0)))] [10,11,12] []) (.ret)
abbrev nrx36:Nat:=36
def CA36_1 (QF:AEnd→q00→Prop) (K:LE→q00→Prop) (r0:LE→q00→Prop) (v7 v10 v11 v12 v13 v15 v43 v44 v45:AV) (S:q00):Prop:=biW .lss v45 v44 fun v46=>cnW v46 (iaW 6 v43 v45 fun v47=>ldW S 6 true v47 fun v48=>bfW 6 v48 fun v17=>faW 0 v17 fun v49=>ldW S 2 true v49 fun v50=>faW 2 v17 fun v51=>ldW S 1 false v51 fun v52=>bdW [.str ⟨#[]⟩,.str ⟨#[]⟩,.str ⟨#[]⟩] [(0,2,v50),(2,1,v52)] fun v53=>bfW 3 v53 fun v18=>nkW v15 fun v55=>faW 1 v55 fun v56=>faW 3 v17 fun v60=>ldW S 1 false v56 fun v57=>ldW S 3 true v18 fun v58=>ldW S 3 true v60 fun v61=>srW 3 [v61] fun v62=>meW S (true,[.str,.str,.str]) (.nils) v57 v58 fun v63 S=>exW 0 v63 fun v59=>exW 1 v63 fun v65=>apW S 39 3 48 v59 v62 fun v64 S=>mtW S v57 v65 v64 fun S=>biW .add v45 (.int .i64 1) fun v66=>rcW r0 [(7,v7),(10,v10),(11,v11),(12,v12),(13,v13),(15,v15),(43,v43),(44,v44),(45,v66)] S) (K [(7,v7),(10,v10),(11,v11),(12,v12),(13,v13),(15,v15),(43,v43),(44,v44),(45,v45),(46,v46)] S)
def Ax36 (QF:AEnd→q00→Prop) (K:LE→q00→Prop) (v0 v1 v2 v3 v4:AV) (S:q00):Prop:=brW 1 v0 fun v5=>brW 2 v2 fun v7=>alW S 70 [.str ⟨#[]⟩,.nils,.nils] fun v10 S=>alW S 3 [.int .i64 0] fun v11 S=>alW S 30 [.int .i64 0] fun v12 S=>ldW S 1 true v5 fun v19=>caW PG S (.func (.func 69) [] []) [v19,v4] (fun v21 S=>ntW v21 fun v22=>cnW v22 (ldW S 3 true v10 fun v23=>stW S 3 v10 v23 fun S=>stW S 1 v11 (.int .i64 0) fun S=>stW S 1 v12 (.int .i64 1) fun S=>rtW [.cell v10 3 true,.cell v11 1 false,.cell v12 1 false] QF S) (ldW S 1 true v5 fun v25=>faW 0 v7 fun v26=>ldW S 1 false v26 fun v27=>caW PG S (.func (.func 48) [] []) [v25,v27,v3] (fun v29 S=>exW 0 v29 fun v30=>exW 1 v29 fun v31=>bfW 6 v30 fun v13=>ntW v31 fun v33=>cnW v33 (ldW S 3 true v10 fun v34=>stW S 3 v10 v34 fun S=>stW S 1 v11 (.int .i64 0) fun S=>stW S 1 v12 (.int .i64 6) fun S=>rtW [.cell v10 3 true,.cell v11 1 false,.cell v12 1 false] QF S) (ldW S 1 true v5 fun v35=>mmW S (true,[.str,.str,.str]) fun v36 S=>mmW S (true,[.str,.str,.str]) fun v38 S=>bdW [.nils,.map none,.int .i64 0,.int .i64 0,.map none] [(0,1,v35),(1,1,v36),(2,1,v4),(4,1,v38)] fun v39=>bxW S 132 5 v39 fun v40 S=>ldW S 1 true v5 fun v41=>caW PG S (.func (.func 70) [] []) [v41,v1] (fun v43 S=>lnW S 1 v43 fun v44=>LoopP (fun r0 l S=>CA36_1 QF K r0 (lget l 7) (lget l 10) (lget l 11) (lget l 12) (lget l 13) (lget l 15) (lget l 43) (lget l 44) (lget l 45) S) [(7,v7),(10,v10),(11,v11),(12,v12),(13,v13),(15,v40),(43,v43),(44,v44),(45,(.int .i64 0))] S) (pqW QF))) (pqW QF))) (pqW QF)
def Gx36 (En:LE→q00→Prop) (Pn:LE→AV→q00→Prop) (v7 v10 v11 v12 v13 v15 v43 v44 v45 v46:AV) (S:q00):Prop:=
 ldW S 2 true v7 fun v69=>
 ldW S 6 true v13 fun v70=>
 caW PG S (.func (.func 77) [] []) [v15,v69,v70] (fun v71 S=>
 stW S 3 v10 v71 fun S=>
 nkW v15 fun v74=>
 faW 3 v74 fun v75=>
 ldW S 3 true v10 fun v72=>
 ldW S 1 false v75 fun v76=>
 stW S 3 v10 v72 fun S1=>
 kpW [v75] S S1 (
 stW S1 1 v11 v76 fun S=>
 stW S 1 v12 (.int .i64 0) fun S=>
 En [(10,v10),(11,v11),(12,v12)] S)) (Pn [(10,v10),(11,v11),(12,v12),(15,v15)])
theorem a_lists_Expand {QF:AEnd→q00→Prop} {K:LE→q00→Prop} {v0 v1 v2 v3 v4:AV} {S:q00}:swpL PG dfx36.pre K (fun l S=>rtW (dfx36.res.map (toRW (lget l))) QF S) (pqW QF) (q4t [v0,v1,v2,v3,v4]) S=Ax36 QF K v0 v1 v2 v3 v4 S:=by kernel_rfl
theorem gx36 {En:LE→q00→Prop} {Pn:LE→AV→q00→Prop} {v7 v10 v11 v12 v13 v15 v43 v44 v45 v46:AV} {S:q00}:dfrW PG dfx36 En Pn [(7,v7),(10,v10),(11,v11),(12,v12),(13,v13),(15,v15),(43,v43),(44,v44),(45,v45),(46,v46)] S=Gx36 En Pn v7 v10 v11 v12 v13 v15 v43 v44 v45 v46 S:=by kernel_rfl
theorem wx36 {QF:AEnd→q00→Prop} {v0 v1 v2 v3 v4:AV} {S:q00} (h:Ax36 QF (fun l S=>dfrW PG dfx36 (endW PG dfx36 tf_lists_Expand_1 QF (dfx36.caps.map (lget l))) (panW PG dfx36 tf_lists_Expand_1 QF (dfx36.caps.map (lget l))) l S) v0 v1 v2 v3 v4 S):ACalls PG nrx36 [v0,v1,v2,v3,v4] S QF:=
 acalls_dfr (D:=dfx36) (F:=tf_lists_Expand_1) (k:=6) (by kernel_rfl) rfl (Eq.mpr a_lists_Expand h)
end Go.HL
