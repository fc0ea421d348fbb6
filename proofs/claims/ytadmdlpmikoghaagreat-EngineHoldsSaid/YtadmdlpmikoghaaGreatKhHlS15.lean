/- A part of a proof. -/
import Derived.Test.YtadmdlpmikoghaaGreatKhHlP
import Derived.Test.YtadmdlpmikoghaaGreatKhHlR
set_option maxRecDepth 100000
set_option linter.unusedVariables false
namespace Go.HL
def tf_engine_Check_1:TFunc where
  n:=17
  args:=4
  res:=[]
  code:=.seq (.reg [i1 7 (.mov (.t 3)),
    i1 8 (.eqnil true (.t 7))] [0,1,2,3,8] []) (.cond (.t 8) (.seq (.seq (.reg [i1 10 (.mov (.t 3)),
    i1 11 (.asrt 100 true (.agg []) (.t 10)),
    i1 9 (.mov (.t 11)),
    i1 12 (.extr (.t 9) 0),
    i1 13 (.extr (.t 9) 1),
    .box2 4 100 [] 0 (.t 12),
    i1 5 (.mov (.t 13))] [0,1,2,3,5] []) (.seq (.reg [i1 14 (.mov (.t 5)),
    i1 15 (.not (.t 14))] [0,1,2,3,15] []) (.cond (.t 15) (.reg [i1 16 (.mov (.t 3)),
    i0 (.panic (.t 16))] [0,1,2] []) (.skip)))) (.reg [i0 (.store 1 (.t 0) (.c (.bool false))),
    i0 (.store 1 (.t 1) (.c (.int .i64 0))),
    i0 (.store 1 (.t 2) (.c (.int .i64 12)))] [] [])) (.skip))
def B_engine_Check_1 (T:Store→Prop) (v0 v1 v2 v3:AV) (S:Store):Prop:=
  enW true v3 fun v8=>
  cnW v8 (taW 100 true (.agg []) v3 fun v11=>
  exW 0 v11 fun v12=>
  exW 1 v11 fun v13=>
  bfW 0 v12 fun v4=>
  ntW v13 fun v15=>
  cnW v15 (paW S v3 (fun _ _=>False))
  (stW S 1 v0 (.bool false) fun S=>
  stW S 1 v1 (.int .i64 0) fun S=>
  stW S 1 v2 (.int .i64 12) fun S=>
  T S))
  (T S)
theorem e_engine_Check_1 {T:Store→Prop} {v0 v1 v2 v3:AV} {S:Store}:swp PG tf_engine_Check_1.code (fun _ S=>T S) (fun _ _ _=>False) (fun _ S=>T S) (fun _ _=>False) (args0 [v0,v1,v2,v3]) S=B_engine_Check_1 T v0 v1 v2 v3 S:=by kernel_rfl
def df_engine_Check:DFunc where
  n:=88
  args:=6
  res:=[.cell 12 1 false,.cell 13 1 false,.cell 14 1 false]
  pre:=[.reg [i1 6 (.boxr 24 1 (.t 0)),
    i1 8 (.boxr 27 2 (.t 2)),
    i1 10 (.boxr 27 2 (.t 4)),
    i1 12 (.alloc 4 [.bool false]),
    i1 13 (.alloc 3 [.int .i64 0]),
    i1 14 (.alloc 30 [.int .i64 0])] [1,3,5,6,8,10,12,13,14] [],
    .seq (.reg [i1 21 (.mov (.t 5)),
    i1 22 (.bin .lss (.t 21) (.c (.int .i64 0))),
    i1 23 (.mov (.t 22)),
    .grp 23 false [s1 24 (.mov (.t 5)),s1 25 (.bin .gtr (.t 24) (.c (.int .i64 100000)))],
    i1 26 (.pick (.t 23) (.c (.bool true)) (.t 25)),
    i1 27 (.mov (.t 26)),
    .grp 27 false [s1 28 (.load 1 true (.t 6)),s1 29 (.call (.f 47) [.t 28]),s1 30 (.field 2 1 false (.t 29)),s1 31 (.bin .neq (.t 30) (.c (.int .i64 0)))],
    i1 32 (.pick (.t 27) (.c (.bool true)) (.t 31))] [1,3,5,6,8,10,12,13,14,32] []) (.cond (.t 32) (.seq (.reg [i0 (.store 1 (.t 12) (.c (.bool false))),
    i0 (.store 1 (.t 13) (.c (.int .i64 0))),
    i0 (.store 1 (.t 14) (.c (.int .i64 1)))] [12,13,14] []) (.ret)) (.skip)),
    .seq (.reg [i1 34 (.load 1 true (.t 6)),
    i1 35 (.faddr 0 (.t 8)),
    i1 36 (.load 1 false (.t 35)),
    i1 37 (.mov (.t 3)),
    i1 38 (.call (.f 48) [.t 34,.t 36,.t 37]),
    i1 33 (.mov (.t 38)),
    i1 39 (.extr (.t 33) 0),
    i1 40 (.extr (.t 33) 1),
    .box2 15 53 [.str ⟨#[]⟩,.nils,.int .i64 0,.str ⟨#[]⟩,.str ⟨#[]⟩,.nils] 6 (.t 39),
    i1 16 (.mov (.t 40))] [1,3,5,6,8,10,12,13,14,16] []) (.seq (.reg [i1 41 (.mov (.t 16)),
    i1 42 (.not (.t 41))] [1,3,5,6,8,10,12,13,14,42] []) (.cond (.t 42) (.seq (.reg [i0 (.store 1 (.t 12) (.c (.bool false))),
    i0 (.store 1 (.t 13) (.c (.int .i64 0))),
    i0 (.store 1 (.t 14) (.c (.int .i64 6)))] [12,13,14] []) (.ret)) (.skip))),
    .reg [i1 43 (.load 1 true (.t 6)),
    i1 44 (.mkmap (true,[.str,.str,.str])),
    i1 45 (.load 2 true (.t 10)),
    i1 46 (.mov (.t 5)),
    i1 47 (.mkmap (true,[.str,.str,.str])),
    i1 48 (.build [.nils,.map none,.str ⟨#[]⟩,.str ⟨#[]⟩,.int .i64 0,.int .i64 0,.map none] [(0,1,.t 43),(1,1,.t 44),(2,2,.t 45),(4,1,.t 46),(6,1,.t 47)]),
    i1 49 (.box 94 7 (.t 48)),
    i1 17 (.mov (.t 49))] [1,3,6,8,12,13,14,17] [],
    .seq (.reg [i1 50 (.mov (.t 1)),
    i1 51 (.len 1 (.t 50)),
    i1 52 (.mov (.c (.int .i64 0)))] [3,6,8,12,13,14,17,50,51,52] []) (.block 0 (.loop [3,6,8,12,13,14,17,50,51,52] (.seq (.reg [i1 53 (.bin .lss (.t 52) (.t 51))] [3,6,8,12,13,14,17,50,51,52,53] []) (.seq (.cond (.t 53) (.skip) (.exit 0)) (.seq (.block 1 (.seq (.reg [i1 54 (.iaddr 6 (.t 50) (.t 52)),
    i1 55 (.load 6 true (.t 54)),
    .box2 19 41 [.str ⟨#[]⟩,.str ⟨#[]⟩,.str ⟨#[]⟩,.str ⟨#[]⟩,.str ⟨#[]⟩,.str ⟨#[]⟩] 6 (.t 55)] [3,6,8,12,13,14,17,19,50,51,52] []) (.seq (.reg [i1 56 (.load 1 true (.t 6)),
    i1 57 (.load 6 true (.t 19)),
    i1 58 (.call (.f 49) [.t 56,.t 57]),
    i1 59 (.bin .eql (.t 58) (.c (.int .i64 0)))] [3,6,8,12,13,14,17,19,50,51,52,59] []) (.cond (.t 59) (.seq (.reg [i1 60 (.faddr 0 (.t 19)),
    i1 61 (.load 2 true (.t 60)),
    i1 62 (.faddr 2 (.t 19)),
    i1 63 (.load 1 false (.t 62)),
    i1 64 (.build [.str ⟨#[]⟩,.str ⟨#[]⟩,.str ⟨#[]⟩] [(0,2,.t 61),(2,1,.t 63)]),
    .box2 20 97 [.str ⟨#[]⟩,.str ⟨#[]⟩,.str ⟨#[]⟩] 3 (.t 64)] [3,6,8,12,13,14,17,19,20,50,51,52] []) (.regl [0,1,2,5,3,4,6,7,8,9,11,10,12] [i1 65 (.mov (.t 17)),
    i1 66 (.nilck (.t 65)),
    i1 67 (.faddr 1 (.t 66)),
    i1 71 (.faddr 3 (.t 19)),
    i1 68 (.load 1 false (.t 67)),
    i1 69 (.load 3 true (.t 20)),
    i1 72 (.load 3 true (.t 71)),
    i1 73 (.bslicr 39 3 [.t 72]),
    i1 74 (.ment (true,[.str,.str,.str]) (.nils) (.t 68) (.t 69)),
    i1 70 (.extr (.t 74) 0),
    i1 76 (.extr (.t 74) 1),
    i1 75 (.app 39 3 48 (.t 70) (.t 73)),
    i0 (.mst (.t 68) (.t 76) (.t 75))] [3,6,8,12,13,14,17,50,51,52] [])) (.skip))))) (.reg [i1 77 (.bin .add (.t 52) (.c (.int .i64 1))),
    i1 52 (.mov (.t 77))] [3,6,8,12,13,14,17,50,51,52] []))))))]
  k:=78
  fid:=50
  caps:=[12,13,14]
  call:=[s1 79 (.mov (.t 17)),s1 80 (.load 2 true (.t 8)),s1 81 (.mov (.t 3)),s1 82 (.call (.f 51) [.t 79,.t 80,.t 81]),s0 (.store 1 (.t 12) (.t 82))]
  keep:=[12,13,14,17]
  post:=.seq (.regl [1,2,3,0,4,5,6,7] [i1 84 (.mov (.t 17)),
    i1 85 (.nilck (.t 84)),
    i1 86 (.faddr 5 (.t 85)),
    i1 83 (.load 1 false (.t 12)),
    i1 87 (.load 1 false (.t 86)),
    .one { d:=none,o:=.store 1 (.t 12) (.t 83),x:=[86] },
    i0 (.store 1 (.t 13) (.t 87)),
    i0 (.store 1 (.t 14) (.c (.int .i64 0)))] [12,13,14] []) (.ret)
abbrev nr_engine_Check:Nat:=18
def CA_engine_Check_4 (QF:AEnd→Store→Prop) (K:LE→Store→Prop) (r0:LE→Store→Prop) (v3 v6 v8 v12 v13 v14 v17 v50 v51 v52:AV) (S:Store):Prop:=
  biW .add v52 (.int .i64 1) fun v77=>
  rcW r0 [(3,v3),(6,v6),(8,v8),(12,v12),(13,v13),(14,v14),(17,v17),(50,v50),(51,v51),(52,v77)] S
def CA_engine_Check_3 (QF:AEnd→Store→Prop) (K:LE→Store→Prop) (r0:LE→Store→Prop) (v3 v6 v8 v12 v13 v14 v17 v50 v51 v52:AV) (S:Store):Prop:=
  biW .lss v52 v51 fun v53=>
  cnW v53 (iaW 6 v50 v52 fun v54=>
  ldW S 6 true v54 fun v55=>
  bfW 6 v55 fun v19=>
  ldW S 1 true v6 fun v56=>
  ldW S 6 true v19 fun v57=>
  caW PG S (.func (.func 49) [] []) [v56,v57] (fun v58 S=>
  biW .eql v58 (.int .i64 0) fun v59=>
  cnW v59 (faW 0 v19 fun v60=>
  ldW S 2 true v60 fun v61=>
  faW 2 v19 fun v62=>
  ldW S 1 false v62 fun v63=>
  bdW [.str ⟨#[]⟩,.str ⟨#[]⟩,.str ⟨#[]⟩] [(0,2,v61),(2,1,v63)] fun v64=>
  bfW 3 v64 fun v20=>
  nkW v17 fun v66=>
  faW 1 v66 fun v67=>
  faW 3 v19 fun v71=>
  ldW S 1 false v67 fun v68=>
  ldW S 3 true v20 fun v69=>
  ldW S 3 true v71 fun v72=>
  srW 3 [v72] fun v73=>
  meW S (true,[.str,.str,.str]) (.nils) v68 v69 fun v74 S=>
  exW 0 v74 fun v70=>
  exW 1 v74 fun v76=>
  apW S 39 3 48 v70 v73 fun v75 S=>
  mtW S v68 v76 v75 fun S=>
  CA_engine_Check_4 QF K r0 v3 v6 v8 v12 v13 v14 v17 v50 v51 v52 S)
  (CA_engine_Check_4 QF K r0 v3 v6 v8 v12 v13 v14 v17 v50 v51 v52 S)) (pqW QF))
  (K [(3,v3),(6,v6),(8,v8),(12,v12),(13,v13),(14,v14),(17,v17),(50,v50),(51,v51),(52,v52),(53,v53)] S)
def CA_engine_Check_2 (QF:AEnd→Store→Prop) (K:LE→Store→Prop) (v1 v3 v5 v6 v8 v10 v12 v13 v14 v32:AV) (S:Store):Prop:=
  cnW v32 (stW S 1 v12 (.bool false) fun S=>
  stW S 1 v13 (.int .i64 0) fun S=>
  stW S 1 v14 (.int .i64 1) fun S=>
  rtW [.cell v12 1 false,.cell v13 1 false,.cell v14 1 false] QF S)
  (ldW S 1 true v6 fun v34=>
  faW 0 v8 fun v35=>
  ldW S 1 false v35 fun v36=>
  caW PG S (.func (.func 48) [] []) [v34,v36,v3] (fun v38 S=>
  exW 0 v38 fun v39=>
  exW 1 v38 fun v40=>
  bfW 6 v39 fun v15=>
  ntW v40 fun v42=>
  cnW v42 (stW S 1 v12 (.bool false) fun S=>
  stW S 1 v13 (.int .i64 0) fun S=>
  stW S 1 v14 (.int .i64 6) fun S=>
  rtW [.cell v12 1 false,.cell v13 1 false,.cell v14 1 false] QF S)
  (ldW S 1 true v6 fun v43=>
  mmW S (true,[.str,.str,.str]) fun v44 S=>
  ldW S 2 true v10 fun v45=>
  mmW S (true,[.str,.str,.str]) fun v47 S=>
  bdW [.nils,.map none,.str ⟨#[]⟩,.str ⟨#[]⟩,.int .i64 0,.int .i64 0,.map none] [(0,1,v43),(1,1,v44),(2,2,v45),(4,1,v5),(6,1,v47)] fun v48=>
  bxW S 94 7 v48 fun v49 S=>
  lnW S 1 v1 fun v51=>
  LoopP (fun r0 l S=>CA_engine_Check_3 QF K r0 (lget l 3) (lget l 6) (lget l 8) (lget l 12) (lget l 13) (lget l 14) (lget l 17) (lget l 50) (lget l 51) (lget l 52) S) [(3,v3),(6,v6),(8,v8),(12,v12),(13,v13),(14,v14),(17,v49),(50,v1),(51,v51),(52,(.int .i64 0))] S)) (pqW QF))
def CA_engine_Check_1 (QF:AEnd→Store→Prop) (K:LE→Store→Prop) (v1 v3 v5 v6 v8 v10 v12 v13 v14 v26:AV) (S:Store):Prop:=
  grW v26 false (ldW S 1 true v6 fun v28=>
  caW PG S (.func (.func 47) [] []) [v28] (fun v29 S=>
  fdW 2 1 false v29 fun v30=>
  biW .neq v30 (.int .i64 0) fun v31=>
  pkW v26 (.bool true) v31 fun v32=>
  CA_engine_Check_2 QF K v1 v3 v5 v6 v8 v10 v12 v13 v14 v32 S) (pqW QF))
  (pkW v26 (.bool true) undefA fun v32=>
  CA_engine_Check_2 QF K v1 v3 v5 v6 v8 v10 v12 v13 v14 v32 S)
def A_engine_Check (QF:AEnd→Store→Prop) (K:LE→Store→Prop) (v0 v1 v2 v3 v4 v5:AV) (S:Store):Prop:=
  brW 1 v0 fun v6=>
  brW 2 v2 fun v8=>
  brW 2 v4 fun v10=>
  alW S 4 [.bool false] fun v12 S=>
  alW S 3 [.int .i64 0] fun v13 S=>
  alW S 30 [.int .i64 0] fun v14 S=>
  biW .lss v5 (.int .i64 0) fun v22=>
  grW v22 false (biW .gtr v5 (.int .i64 100000) fun v25=>
  pkW v22 (.bool true) v25 fun v26=>
  CA_engine_Check_1 QF K v1 v3 v5 v6 v8 v10 v12 v13 v14 v26 S)
  (pkW v22 (.bool true) undefA fun v26=>
  CA_engine_Check_1 QF K v1 v3 v5 v6 v8 v10 v12 v13 v14 v26 S)
def G_engine_Check (En:LE→Store→Prop) (Pn:LE→AV→Store→Prop) (v3 v6 v8 v12 v13 v14 v17 v50 v51 v52 v53:AV) (S:Store):Prop:=
  ldW S 2 true v8 fun v80=>
  caW PG S (.func (.func 51) [] []) [v17,v80,v3] (fun v82 S=>
  stW S 1 v12 v82 fun S=>
  nkW v17 fun v85=>
  faW 5 v85 fun v86=>
  ldW S 1 false v12 fun v83=>
  ldW S 1 false v86 fun v87=>
  stW S 1 v12 v83 fun S1=>
  kpW [v86] S S1 (
  stW S1 1 v13 v87 fun S=>
  stW S 1 v14 (.int .i64 0) fun S=>
  En [(12,v12),(13,v13),(14,v14)] S)) (Pn [(12,v12),(13,v13),(14,v14),(17,v17)])
theorem a_engine_Check {QF:AEnd→Store→Prop} {K:LE→Store→Prop} {v0 v1 v2 v3 v4 v5:AV} {S:Store}:swpL PG df_engine_Check.pre K (fun l S=>rtW (df_engine_Check.res.map (toRW (lget l))) QF S) (pqW QF) (args0 [v0,v1,v2,v3,v4,v5]) S=A_engine_Check QF K v0 v1 v2 v3 v4 v5 S:=by kernel_rfl
theorem g_engine_Check {En:LE→Store→Prop} {Pn:LE→AV→Store→Prop} {v3 v6 v8 v12 v13 v14 v17 v50 v51 v52 v53:AV} {S:Store}:dfrW PG df_engine_Check En Pn [(3,v3),(6,v6),(8,v8),(12,v12),(13,v13),(14,v14),(17,v17),(50,v50),(51,v51),(52,v52),(53,v53)] S=G_engine_Check En Pn v3 v6 v8 v12 v13 v14 v17 v50 v51 v52 v53 S:=by kernel_rfl
theorem w_engine_Check {QF:AEnd→Store→Prop} {v0 v1 v2 v3 v4 v5:AV} {S:Store} (h:A_engine_Check QF (fun l S=>dfrW PG df_engine_Check (endW PG df_engine_Check tf_engine_Check_1 QF (df_engine_Check.caps.map (lget l))) (panW PG df_engine_Check tf_engine_Check_1 QF (df_engine_Check.caps.map (lget l))) l S) v0 v1 v2 v3 v4 v5 S):ACalls PG nr_engine_Check [v0,v1,v2,v3,v4,v5] S QF:=
  acalls_dfr (D:=df_engine_Check) (F:=tf_engine_Check_1) (k:=6) (by kernel_rfl) rfl (Eq.mpr a_engine_Check h)
end Go.HL
