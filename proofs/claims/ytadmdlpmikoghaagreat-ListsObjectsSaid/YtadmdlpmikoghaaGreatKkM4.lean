/- A part of a proof. -/
import Derived.Test.YtadmdlpmikoghaaGreatKkM3
import Derived.Lib.Strings
set_option maxRecDepth 4000
set_option linter.unusedSimpArgs false
set_option linter.unusedVariables false
namespace Go.HL
open Nat renaming reduceAdd→zA,reduceLeDiff→zB,reduceLT→zC,reduceSub→zD,reduceMul→zE,reduceEqDiff→zF,reduceBEq→zG
open Int renaming reduceAdd→zH,reduceToNat→zI
section
variable {E:q23} {B:Int} {bc bo bp:Nat} {S S' S2:q00} {es es':List (AV×AV×Nat)} {w w':Nat}
theorem dom_of (hS:StX E B bc bo bp es w S) (hT:StX E B bc bo bp es' w' S') (h:OutS bc bp S S') {b:Nat} (hb:sget S' b=none):sget S b=none:=by
 cases hq:sget S b with
 | none=>rfl
 | some o=>
  exfalso
  by_cases e1:b=bc
  ·subst e1;exact hT.nc hb
  ·by_cases e2:b=bp
   ·subst e2;exact hT.np hb
   ·rw [h b o e1 e2 hq] at hb;cases hb
theorem fin_last {b6 t1 t2:Nat} {lab:ByteArray} {v1 v2:AV} {ns:List ByteArray} {ks:List Nt} (hS:StX E B bc bo bp es w S) (hb6:sget S b6=none) (h1:StX E B bc bo bp es' w' S') (h2:OutS bc bp S S')
  (l1:LstN emp S' t1 1 v1 (ns.map fun s=>[AV.str s])) (l2:LstN emp S' t2 3 v2 (ks.map ntC)) (a1:∀ c,sget S c≠none→q0x v1 c∧q0x v2 c) (a6:q0x v1 b6∧q0x v2 b6) :
  rtW [.cell (.ptr b6 0) 3 true] (q65 E B bc bo bp es' S (some (.mk lab ns ks,w'))) (supd S' b6 (.cells tyNo [.str lab,v1,v2] 3)):=by
 have n6:=hS.ne hb6
 have hS3:OutS bc bp S (supd S' b6 (.cells tyNo [.str lab,v1,v2] 3)):=OutS.supd h2 (.inr (.inr hb6))
 refine fin_cell (S:=S) (cs':=ntC (.mk lab ns ks)) (by rw [objAt_supd,if_pos rfl]) rfl ?_ ⟨rfl,hS.cut (h1.upd n6 _),hS3.cut⟩
 have base:∀ {v:AV} {t sz:Nat} {rows:List (List AV)},LstN emp S' t sz v rows→(∀ c,sget S c≠none→q0x v c)→q0x v b6→Fr (cut S (supd S' b6 (.cells tyNo [.str lab,v1,v2] 3))) (supd S' b6 (.cells tyNo [.str lab,v1,v2] 3)) v (.sl sz rows):=by
  intro v t sz rows hl ha hb
  refine Fr.lst (t:=t) ((hl.upd hb _).rebase fun b off m cap hv=>?_)
  rw [cut_get]
  cases hq:sget S b with
  | none=>rfl
  | some y=>exact absurd rfl (ha b (by rw [hq];simp) _ _ _ _ hv)
 rw [q96]
 exact .cons (.same _) (.cons (base l1 (fun c hc=>(a1 c hc).1) a6.1) (.cons (base l2 (fun c hc=>(a1 c hc).2) a6.2) .nil))
theorem q43 (c:Nat):q0x .nils c:=fun b off n cap h=>by cases h
theorem q84 {b n cap c:Nat} (h:c≠b):q0x (.own b 0 n cap) c:=fun b' off n' cap' h'=>by cases h';exact h
theorem c_xnodeS (hX:XsOk E B bc bo bp) {fu:Nat} {P:List Nd} (hP:PathE es P) (hl:P.length+fu=50) {t:List Nd→NodeQ} (ht0:fu=0→t=fun _ _ _ _=>none)
  (ht1:∀ f,fu=f+1→∃ g:List Nd→NodeQ,t=xnT E g∧∀ P es,PathE es P→P.length+f=50→NodeOk E B bc bo bp (g P) es):NodeOk E B bc bo bp (xnS B t P) es:=by
 intro o r n fi fk ho hf w S hS
 obtain ⟨hti,ty,hty,hrn,hk⟩:=q1h hf
 have hr:r.refs.length=0→mayE 12 r.ex=true:=hX.may ty (List.mem_of_getElem? hty) r (List.mem_of_getElem? hk)
 have hr2:r.refs.length=0→fndE E.s ty.name 12 r.ex=true:=hX.fnd ty (List.mem_of_getElem? hty) r (List.mem_of_getElem? hk)
 have hc:=q07 hS.c
 have hoc:=hS.c
 have hrs:r.name.size≤1125899906842624:=((hX.s.at hty).at hk).name
 have hB:=hX.B
 refine wx77 ?_
 unfold Bx77
 (try simp only [rwp,zA,zB,zC,zD,zE,zF,zG,zH,zI,rwb,reduceIte,obC,q0i])
 intro b6 hb6
 have hS6:=hS.fresh hb6 (.cells tyNo [.str ⟨#[]⟩,.nils,.nils] 3)
 have n6:=hS.ne hb6
 have q:=q2x ho
 simp only [obC] at q
 refine q05 q ?_
 have hol:=q5v ho
 have hd:(ByteArray.mk #[35]).size=1:=rfl
 (try simp only [rwp,zA,zB,zC,zD,zE,zF,zG,zH,zI,rwb,reduceIte,ByteArray.size_append])
 refine ⟨by omega,by omega,fun b7 hb7=>?_⟩
 obtain ⟨d76,hb7'⟩:=frsh hb7
 have n7:=hS.ne hb7'
 generalize hlab:q4h o++⟨#[35]⟩++r.name=lab
 (try simp only [rwp,zA,zB,zC,zD,zE,zF,zG,zH,zI,rwb,reduceIte,n6.1,n7.1,hc,xpC,hoc,Ne.symm n6.1,Ne.symm n7.1])
 have hlab':labX o r=lab:=hlab
 have hw:=hS.w
 (simp (disch:=omega) only [q04])
 have hT0:OutS bc bp S (supd (supd (supd S b6 (.cells tyNo [.str ⟨#[]⟩,.nils,.nils] 3)) b7 (.cells tyNo [.str lab,.nils,.nils] 3)) bc (.cells tyXp [.sl 2 (E.s.map tyC),.map (some bo),.int .i64 B,.int .i64 ((w:Int)+1),.map (some bp)] 5)):=
  ((OutS.refl.supd (.inr (.inr hb6))).supd (.inr (.inr hb7'))).supd (.inl rfl)
 have gT6:sget (supd (supd (supd S b6 (.cells tyNo [.str ⟨#[]⟩,.nils,.nils] 3)) b7 (.cells tyNo [.str lab,.nils,.nils] 3)) bc (.cells tyXp [.sl 2 (E.s.map tyC),.map (some bo),.int .i64 B,.int .i64 ((w:Int)+1),.map (some bp)] 5)) b6=some (.cells tyNo [.str ⟨#[]⟩,.nils,.nils] 3):=by
  rw [q01,if_neg (Ne.symm n6.1),q01,if_neg d76,q01,if_pos rfl]
 have gT7:sget (supd (supd (supd S b6 (.cells tyNo [.str ⟨#[]⟩,.nils,.nils] 3)) b7 (.cells tyNo [.str lab,.nils,.nils] 3)) bc (.cells tyXp [.sl 2 (E.s.map tyC),.map (some bo),.int .i64 B,.int .i64 ((w:Int)+1),.map (some bp)] 5)) b7=some (.cells tyNo [.str lab,.nils,.nils] 3):=by
  rw [q01,if_neg (Ne.symm n7.1),q01,if_pos rfl]
 have hTs:¬ B<(w:Int)+1→StX E B bc bo bp es (w+1) (supd (supd (supd S b6 (.cells tyNo [.str ⟨#[]⟩,.nils,.nils] 3)) b7 (.cells tyNo [.str lab,.nils,.nils] 3)) bc (.cells tyXp [.sl 2 (E.s.map tyC),.map (some bo),.int .i64 B,.int .i64 ((w:Int)+1),.map (some bp)] 5)):=fun h=>
  StX.work ((hS.fresh hb6 _).upd n7 _) hX (by omega)
 generalize supd (supd (supd S b6 _) b7 _) bc _=T at hT0 gT6 gT7 hTs ⊢
 unfold xnS
 cases a1:decide (B<(w:Int)+1)
 ·have b1:=of_decide_eq_false a1
  rw [if_neg b1]
  have hT:=hTs b1
  have hcT:=q07 hT.c
  (try simp only [rwp,zA,zB,zC,zD,zE,zF,zG,zH,zI,rwb,reduceIte,C77_1,hcT,xpC])
  have hKp:KMap MD ndA T bp (fun n=>if n∈P then some (.bool true) else none):=by
   obtain ⟨clk,hp⟩:=hT.p
   exact ⟨es,clk,hp,fun x hx=>(by obtain ⟨n,e⟩:=hP.key x hx;rw [e];exact ke_nd.ok n),hP.get⟩
  have ho6:=objAt_some.2 gT6
  have ho7:=objAt_some.2 gT7
  refine KMap.lki hKp ke_nd ⟨o,r.name⟩ ?_
  by_cases hn:(⟨o,r.name⟩:Nd)∈P
  ·simp only [if_pos hn]
   (try simp only [rwp,zA,zB,zC,zD,zE,zF,zG,zH,zI,rwb,reduceIte])
   refine ⟨⟨rfl,rfl,trivial⟩,fun b hb=>?_⟩
   have hbS:=dom_of hS hT hT0 hb
   have d6:b≠b6:=by rintro rfl;rw [gT6] at hb;cases hb
   have d7:b≠b7:=by rintro rfl;rw [gT7] at hb;cases hb
   (try simp only [rwp,zA,zB,zC,zD,zE,zF,zG,zH,zI,rwb,reduceIte,ho6,ho7,d6,d7,Ne.symm d6,Ne.symm d7,d76,Ne.symm d76])
   rw [hlab']
   refine fin_last (t1:=tyStr) (t2:=tyNo) (S':=supd (supd T b (.cells tyStr [.str ⟨#[46,46]⟩] 1)) b7 (.cells tyNo [.str lab,.own b 0 1 1,.nils] 3)) hS hb6 ((hT.fresh hb _).upd n7 _) ((hT0.supd (.inr (.inr hbS))).supd (.inr (.inr hb7'))) ?_ LstN.nil (fun c hc=>⟨q84 (by rintro rfl;exact hc hbS),q43 c⟩) ⟨q84 (Ne.symm d6),q43 _⟩
   refine ⟨fun r hr=>by rw [List.mem_singleton.1 hr];rfl,.inr ⟨b,1,rfl,rfl,?_,Nat.le_refl _,by decide,by decide⟩⟩
   rw [q01,if_neg (Ne.symm d7),q01,if_pos rfl]
   rfl
  ·simp only [if_neg hn]
   obtain ⟨clk,hmp⟩:=hT.p
   (try simp only [rwp,zA,zB,zC,zD,zE,zF,zG,zH,zI,rwb,reduceIte,lnW_map,hmp,q7d])
   have hen:=hP.len
   by_cases hf0:fu=0
   ·rw [decide_eq_true (show ((es.length:Int)=50) by omega)]
    (try simp only [rwp,zA,zB,zC,zD,zE,zF,zG,zH,zI,rwb,reduceIte])
    rw [ht0 hf0]
    exact q5f ⟨rfl,hT0⟩
   ·rw [decide_eq_false (show ¬ ((es.length:Int)=50) by omega)]
    obtain ⟨f,hf1⟩:∃ f,fu=f+1:=⟨fu-1,by omega⟩
    obtain ⟨g,rfl,hg⟩:=ht1 f hf1
    unfold xnT
    rw [hlab']
    (try simp only [rwp,zA,zB,zC,zD,zE,zF,zG,zH,zI,rwb,reduceIte,C77_2])
    (refine q03 (fun h0=>?_) (fun h0=>?_)<;>(try simp only [hlc] at h0))
    ·rw [if_neg (show ¬ r.refs.length=0 by omega)]
     (try simp only [rwp,zA,zB,zC,zD,zE,zF,zG,zH,zI,rwb,reduceIte,hcT,xpC])
     refine KMap.lki hT.of ke_nd ⟨o,r.name⟩ ?_
     have hls:=ofA_ls (E.of ⟨o,r.name⟩)
     generalize q2p false .nils (ofA (E.of ⟨o,r.name⟩))=lv at hls ⊢
     have hxl:=hX.len ⟨o,r.name⟩
     have hxd:=hX.okd ⟨o,r.name⟩
     generalize E.of ⟨o,r.name⟩=xs at hls hxl hxd ⊢
     refine hls.ln ?_
     refine LoopP.introS (fun x:Nat×AV=>[(6,.ptr b6 0),(7,.ptr b7 0),(68,lv),(69,.int .i64 xs.length),(70,.int .i64 x.1)])
      (fun x S'=>x.1≤xs.length∧(∀ c,c≠b7→sget T c≠none→sget S' c=sget T c)∧sget S' b7=some (.cells tyNo [.str lab,x.2,.nils] 3)∧LstN emp S' tyStr 1 x.2 (((xs.take x.1).map q4v).map fun s=>[AV.str s])∧∀ c,sget T c≠none→q0x x.2 c) (fun x=>xs.length-x.1) (0,.nils)
      ⟨Nat.zero_le _,fun _ _ _=>rfl,gT7,LstN.nil,fun c _=>q43 c⟩ rfl ?_
     rintro ⟨i,v⟩ S2 ⟨hi,k1,k2,k3,k4⟩ kk hkk
     dsimp only at hi k1 k2 k3 k4 ⊢
     have st2:StX E B bc bo bp es (w+1) S2:=hT.mono (k1 bc (Ne.symm n7.1) hT.nc) (k1 bp (Ne.symm n7.2.1) hT.np) (k1 bo (Ne.symm n7.2.2) hT.no)
     have out2:OutS bc bp S S2:=fun c x u1 u2 u3=>by
      have h:=hT0 c x u1 u2 u3
      rw [k1 c (Ne.symm (q0f hb7' u3)) (by rw [h];simp)]
      exact h
     have g6:sget S2 b6=some (.cells tyNo [.str ⟨#[]⟩,.nils,.nils] 3):=(k1 b6 (Ne.symm d76) (by rw [gT6];simp)).trans gT6
     have o6:=objAt_some.2 g6
     have o7:=objAt_some.2 k2
     have c7:=q07 o7
     have hv1:=k3.one
     obtain ⟨ha1,-⟩:=one_aC hv1
     (try simp only [rwp,zA,zB,zC,zD,zE,zF,zG,zH,zI,rwb,reduceIte,C77_3])
     cases a2:decide ((i:Int)<xs.length)
     ·have e:i=xs.length:=by have:=of_decide_eq_false a2;omega
      subst e
      rw [List.take_length] at k3
      (try simp only [rwp,zA,zB,zC,zD,zE,zF,zG,zH,zI,rwb,reduceIte,o6,c7,hv1])
      exact fin_last hS hb6 st2 out2 k3 (LstN.nil (t:=tyNo)) (fun c hc=>⟨k4 c (fun h=>hc (dom_of hS hT hT0 h)),q43 c⟩) ⟨k4 b6 (by rw [gT6];simp),q43 _⟩
     ·have hlt:=of_decide_eq_true a2
      obtain ⟨x,hx⟩:=q0h hlt
      have hxo:=hxd x (List.mem_of_getElem? hx)
      (try simp only [rwp,zA,zB,zC,zD,zE,zF,zG,zH,zI,rwb,reduceIte])
      refine hls.ia hx ?_
      (try simp only [rwp,zA,zB,zC,zD,zE,zF,zG,zH,zI,rwb,reduceIte,ndC,c7])
      have q:=q42 hxo
      simp only [ndC] at q
      refine q05 q ?_
      (try simp only [rwp,zA,zB,zC,zD,zE,zF,zG,zH,zI,rwb,reduceIte])
      have hll:((xs.take i).map q4v).length≤i:=by rw [List.length_map];exact List.length_take_le _ _
      refine LstN.app (Sub.emp S2) k3 (xs:=[[.str (q4v x)]]) (fun r hr=>by rw [List.mem_singleton.1 hr];rfl) (q1t fun r hr=>by rw [List.mem_singleton.1 hr];rfl) (by simp only [List.length_map,List.length_singleton] at hll ⊢;omega) fun v' S4 j1 j2 j3=>?_
      have keep:∀ c,sget T c≠none→sget S4 c=sget S2 c∧q0x v' c:=fun c hc=>by
       have:sget S2 c≠none:=by
        by_cases e:c=b7
        ·rw [e,k2];simp
        ·rw [k1 c e hc];exact hc
       cases hq:sget S2 c with
       | none=>exact absurd hq this
       | some o=>exact j3 c o hq (k4 c hc)
      have g47:=(keep b7 (by rw [gT7];simp)).1.trans k2
      have o47:=objAt_some.2 g47
      have hv2:=j2.one
      obtain ⟨ha2,-⟩:=one_aC hv2
      (try simp only [rwp,zA,zB,zC,zD,zE,zF,zG,zH,zI,rwb,reduceIte,o47,hv2,ha2])
      (simp (disch:=omega) only [q04])
      refine q08 rfl (hkk (i+1,v') _ ⟨by dsimp only;omega,fun c u1 u2=>?_,?_,?_,fun c hc=>(keep c hc).2⟩ (by dsimp only;omega))
      ·rw [q01,if_neg (Ne.symm u1),(keep c u2).1]
       exact k1 c u1 u2
      ·rw [q01,if_pos rfl]
      ·rw [q0z hx,List.map_append,List.map_append]
       exact LstN.upd j2 (keep b7 (by rw [gT7];simp)).2 _
    ·rw [if_pos (show r.refs.length=0 by omega)]
     (try simp only [rwp,zA,zB,zC,zD,zE,zF,zG,zH,zI,rwb,reduceIte,hcT,xpC])
     have hg0:mget es (ndA ⟨o,r.name⟩)=none:=by rw [hP.get,if_neg hn]
     have hset:mset es (ndA ⟨o,r.name⟩) (.bool true) clk=(es++[(ndA ⟨o,r.name⟩,.bool true,clk)],clk+1):=by
      unfold mset
      rw [q4j hg0]
     have e2:mset es (.agg [.str o.ty,.str o.id,.str r.name]) (.bool true) clk=(es++[(ndA ⟨o,r.name⟩,.bool true,clk)],clk+1):=hset
     (try simp only [rwp,zA,zB,zC,zD,zE,zF,zG,zH,zI,rwb,reduceIte,muW_map,hmp])
     rw [e2]
     dsimp only
     have hT':StX E B bc bo bp (es++[(ndA ⟨o,r.name⟩,.bool true,clk)]) (w+1) (supd T bp (.map MD (es++[(ndA ⟨o,r.name⟩,.bool true,clk)]) (clk+1))):=
      ⟨by rw [q3d,if_neg hX.n1];exact hT.c,⟨clk+1,by rw [mapObj_supd_map,if_pos rfl]⟩,hT.of.upd (Ne.symm hX.n3) _,hT.w⟩
     have hnm:ty.name=o.ty:=by
      obtain ⟨⟨x,hx,h1⟩,-⟩:=firstI_some.1 hti
      rw [hty] at hx
      cases hx
      exact of_decide_eq_true h1
     have hr0:r.refs.length=0:=by omega
     have q:=c_xexpr hX (hg (⟨o,r.name⟩ :: P) _ (hP.push hn clk) (by simp only [List.length_cons];omega)) ho 12 r.ex (hr hr0) (by rw [← hnm];exact hr2 hr0) (w+1) _ hT'
     simp only [obC,q0d] at q
     refine q0b q ?_
     intro ae S3 hp
     unfold q65 at hp
     cases hs:xeQ E (g (⟨o,r.name⟩ :: P)) o 12 r.ex (w+1) with
     | none=>
      rw [hs] at hp
      obtain ⟨rfl,hp⟩:=hp
      exact ⟨rfl,fun c x u1 u2 u3=>hp c x u1 u2 (by rw [q01,if_neg (Ne.symm u2)];exact hT0 c x u1 u2 u3)⟩
     | some p=>
      obtain ⟨kk,w3⟩:=p
      rw [hs] at hp
      obtain ⟨rfl,k1,k2⟩:=hp
      dsimp only
      have h3:∀ c,c≠bc→c≠bp→sget S3 c=sget T c:=fun c u1 u2=>by rw [k2 c u1 u2,q01,if_neg (Ne.symm u2)]
      refine ⟨⟨q6g kk,rfl,trivial⟩,fun b hb=>?_⟩
      have hbb:=k1.ne hb
      have hbS:sget S b=none:=by
       refine dom_of hS hT hT0 ?_
       rw [← h3 b hbb.1 hbb.2.1];exact hb
      have g6:=(h3 b6 n6.1 n6.2.1).trans gT6
      have g7:=(h3 b7 n7.1 n7.2.1).trans gT7
      have d6:b≠b6:=by rintro rfl;rw [g6] at hb;cases hb
      have d7:b≠b7:=by rintro rfl;rw [g7] at hb;cases hb
      have o6:=objAt_some.2 g6
      have o7:=objAt_some.2 g7
      have hc3:=q07 k1.c
      obtain ⟨clk2,hm3⟩:=k1.p
      (try simp only [rwp,zA,zB,zC,zD,zE,zF,zG,zH,zI,rwb,reduceIte,o6,o7,d6,d7,Ne.symm d6,Ne.symm d7,d76,Ne.symm d76,hc3,xpC,n7.1,hbb.1])
      have hmb:∀ c,c=bp→sget (supd (supd S3 b (.cells 70 (ntC kk++[]) 3)) b7 (.cells tyNo [.str lab,.nils,.own b 0 1 1] 3)) c=some (.map MD (es++[(ndA ⟨o,r.name⟩,.bool true,clk)]) clk2):=by
       rintro c rfl
       rw [q01,if_neg n7.2.1,q01,if_neg hbb.2.1]
       exact mapObj_some.1 hm3
      refine ⟨bp,es++[(ndA ⟨o,r.name⟩,.bool true,clk)],clk2,rfl,hmb bp rfl,ke_nd.ok ⟨o,r.name⟩,?_⟩
      have hf':q15 (es++[(ndA ⟨o,r.name⟩,.bool true,clk)]) (.agg [.str o.ty,.str o.id,.str r.name])=some (es.length,.bool true,clk):=q8h (k:=ndA ⟨o,r.name⟩) (q3q (ke_nd.ok _)) (q4j hg0)
      rw [hf']
      dsimp only
      rw [List.eraseIdx_append_of_length_le (Nat.le_refl _),Nat.sub_self]
      simp only [List.eraseIdx_cons_zero,List.append_nil]
      (try simp only [rwp,zA,zB,zC,zD,zE,zF,zG,zH,zI,rwb,reduceIte,o6,o7,d6,d7,Ne.symm d6,Ne.symm d7,d76,Ne.symm d76,n7.2.1,n6.2.1,Ne.symm n7.2.1,Ne.symm n6.2.1])
      have hfin:StX E B bc bo bp es w3 (supd (supd (supd S3 b (.cells tyNo (ntC kk) 3)) b7 (.cells tyNo [.str lab,.nils,.own b 0 1 1] 3)) bp (.map MD es clk2)):=by
       have h1:=(k1.upd hbb (.cells tyNo (ntC kk) 3)).upd n7 (.cells tyNo [.str lab,.nils,.own b 0 1 1] 3)
       exact ⟨by rw [q3d,if_neg hX.n1];exact h1.c,⟨clk2,by rw [mapObj_supd_map,if_pos rfl]⟩,h1.of.upd (Ne.symm hX.n3) _,h1.w⟩
      have hout:OutS bc bp S (supd (supd (supd S3 b (.cells tyNo (ntC kk) 3)) b7 (.cells tyNo [.str lab,.nils,.own b 0 1 1] 3)) bp (.map MD es clk2)):=by
       refine OutS.supd (OutS.supd (OutS.supd (fun c x u1 u2 u3=>?_) (.inr (.inr hbS))) (.inr (.inr hb7'))) (.inr (.inl rfl))
       rw [h3 c u1 u2]
       exact hT0 c x u1 u2 u3
      refine fin_last (t1:=tyStr) (t2:=tyNo) hS hb6 hfin hout LstN.nil ?_ (fun c hc=>⟨q43 c,q84 (by rintro rfl;exact hc hbS)⟩) ⟨q43 _,q84 (Ne.symm d6)⟩
      refine ⟨fun r hr=>by rw [List.mem_singleton.1 hr];exact q6g kk,.inr ⟨b,1,rfl,rfl,?_,Nat.le_refl _,by decide,by simp⟩⟩
      rw [q01,if_neg (Ne.symm hbb.2.1),q01,if_neg (Ne.symm d7),q01,if_pos rfl]
      simp
 ·rw [if_pos (of_decide_eq_true a1)]
  (try simp only [rwp,zA,zB,zC,zD,zE,zF,zG,zH,zI,rwb,reduceIte])
  exact q5f ⟨rfl,hT0⟩
theorem c_xnode (hX:XsOk E B bc bo bp):∀ (fu:Nat) (P:List Nd) (es:List (AV×AV×Nat)),PathE es P→P.length+fu=50→NodeOk E B bc bo bp (xnQ E B fu P) es:=by
 intro fu
 induction fu with
 | zero=>
  intro P es hP hl
  exact c_xnodeS hX hP hl (fun _=>rfl) (fun f h=>by cases h)
 | succ fu ih=>
  intro P es hP hl
  exact c_xnodeS hX hP hl (fun h=>by cases h) (fun f h=>by cases h;exact ⟨xnQ E B fu,rfl,ih⟩)
end
set_option maxRecDepth 4000
def mayX (s:List Ty) (B:Int):Bool:=decide (0≤B)&&(decide (B≤100000)&&decide (errA (chkF s)=0))
theorem c_lmay {s:List Ty} (hs:OkS s) (hN:OkN s) (B:Int):AFun PG nrx69 [scA s,.int .i64 B] (.bool (mayX s B)):=by
 intro S
 refine wx69 ?_
 unfold Bx69 mayX
 have q1:=q7u hs hN
 obtain ⟨x,y,z,hc⟩:=chkF_fl s
 have hz:errA (chkF s)=z:=by rw [hc,q28]
 rw [hc] at q1
 rw [hz]
 simp only [scA,flA] at q1
 (try simp only [rwp,zA,zB,zC,zD,zE,zF,zG,zH,zI,rwb,reduceIte,scA])
 cases a1:decide (0≤B)
 ·(try simp only [rwp,zA,zB,zC,zD,zE,zF,zG,zH,zI,rwb,reduceIte,C69_1])
  exact q02 ⟨rfl,rfl⟩
 ·cases a2:decide (B≤100000)
  ·(try simp only [rwp,zA,zB,zC,zD,zE,zF,zG,zH,zI,rwb,reduceIte,C69_1])
   exact q02 ⟨rfl,rfl⟩
  ·(try simp only [rwp,zA,zB,zC,zD,zE,zF,zG,zH,zI,rwb,reduceIte,C69_1])
   refine q05 q1 ?_
   (try simp only [rwp,zA,zB,zC,zD,zE,zF,zG,zH,zI,rwb,reduceIte])
   exact q02 ⟨rfl,rfl⟩
theorem c_lcounts_1 {s:List Ty} (hs:OkS s) {t:Tu} (ht:OkU t):AFun PG nrx121 ([]++[.agg (tuC t)]++[.rop [.sl 2 (s.map tyC)]]) (.bool (!decide (q1v s t=0))):=by
 intro S
 refine wx121 ?_
 unfold Bx121
 have q:=q5o hs ht
 simp only [scA] at q
 (try simp only [rwp,zA,zB,zC,zD,zE,zF,zG,zH,zI,rwb,reduceIte,tuC])
 refine q05 q ?_
 (try simp only [rwp,zA,zB,zC,zD,zE,zF,zG,zH,zI,rwb,reduceIte])
 exact q02 ⟨rfl,rfl⟩
theorem c_lcounts {s:List Ty} (hs:OkS s) {l:List Tu} (hl:OkL l) (S:q00) :
  ACalls PG nrx70 [scA s,.sl 6 (l.map tuC)] S fun ae S'=>∃ a,ae=.ret a∧Sub S S'∧LstW S S' tyTu 6 a ((q0g s l).map tuC):=by
 refine wx70 ?_
 unfold Bx70
 have hn:=hl.n
 (try simp only [rwp,zA,zB,zC,zD,zE,zF,zG,zH,zI,rwb,reduceIte,scA])
 refine q0b (c_Clone (by omega) S) ?_
 rintro ae S1 ⟨a,rfl,h1,h2⟩
 dsimp only
 have q:=c_DeleteT (g:=nrx121) (fi:=[]) (ca:=[.rop [.sl 2 (s.map tyC)]]) (p:=fun t=>!decide (q1v s t=0)) h1 h2 (by omega) (fun i hi=>c_lcounts_1 hs (hl.ok _ (by
  have:at' l i=l[i]'hi:=by unfold at';simp [hi]
  rw [this]
  exact List.getElem_mem hi)))
 refine q0b q ?_
 rintro ae S2 ⟨a',rfl,h3,h4⟩
 dsimp only
 (try simp only [rwp,zA,zB,zC,zD,zE,zF,zG,zH,zI,rwb,reduceIte])
 refine q02 ⟨a',rfl,h3,?_⟩
 rw [vl_at] at h4
 have e:(l.filter fun t=>!(!decide (q1v s t=0)))=q0g s l:=by
  unfold q0g
  congr 1
  funext t
  rw [Bool.not_not]
 rw [e] at h4
 exact h4
def zNt:Nt:=.mk ⟨#[]⟩ [] []
def xT (t:Nt) (w e:Int):AV:=.tup [.agg (ntC t),.int .i64 w,.int .i64 e]
def whoZ:Ob:=⟨⟨#[]⟩,⟨#[]⟩⟩
def chkX (s:List Ty) (l:List Tu) (B:Int) (n:Nd):AV:=
 if mayX s B=true then (match q0l s n.o.ty n.rl with
  | none=>xT zNt 0 6
  | some (_,_,r)=>match xnQ (envE s l whoZ) B 50 [] n.o r 0 with
   | none=>xT zNt 0 12
   | some (t,w)=>xT t w 0)
 else xT zNt 0 1
section
variable {S0 S1:q00} {b1 b2 b3 t1 t2 t3:Nat} {x2 x3:AV} {QF:AEnd→q00→Prop}
abbrev res3x (b1 b2 b3:Nat):List RW:=[.cell (.ptr b1 0) 3 true,.cell (.ptr b2 0) 1 false,.cell (.ptr b3 0) 1 false]
theorem put3x {cs zs cs':List AV} (h1:q0j S1 b1=some (t1,zs,3)) (hz:zs.length=3) (hl:cs.length=3) (h2:q0j S1 b2=some (t2,[x2],1)) (h3:q0j S1 b3=some (t3,[x3],1)) (d1:b1≠b2) (d2:b1≠b3) (d3:b2≠b3)
  (n1:sget S0 b1=none) (n2:sget S0 b2=none) (n3:sget S0 b3=none) (hs:Sub S0 S1) {w e:Int} (ho:ones cs=true) (hf:∀ S,Frs S0 S cs cs') (hQ:QF (.ret (.tup [.agg cs',.int .i64 w,.int .i64 e])) S0) :
  stW S1 3 (.ptr b1 0) (.agg cs) fun S=>stW S 1 (.ptr b2 0) (.int .i64 w) fun S=>stW S 1 (.ptr b3 0) (.int .i64 e) fun S=>rtW (res3x b1 b2 b3) QF S:=by
 obtain ⟨c1,c2,c3,rfl⟩:∃ a b c,cs=[a,b,c]:=by
  match cs,hl with
  | [a,b,c],_=>exact ⟨a,b,c,rfl⟩
 obtain ⟨z1,z2,z3,rfl⟩:∃ a b c,zs=[a,b,c]:=by
  match zs,hz with
  | [a,b,c],_=>exact ⟨a,b,c,rfl⟩
 simp only [ones,Bool.and_eq_true] at ho
 (try simp only [rwp,zA,zB,zC,zD,zE,zF,zG,zH,zI,rwb,reduceIte,h1,h2,h3,d1,d2,d3,Ne.symm d1,Ne.symm d2,Ne.symm d3,ho.1,ho.2.1,ho.2.2.1])
 refine q5e S0 _ (Sub.supd n3 (Sub.supd n2 (Sub.supd n1 hs))) ?_ hQ
 (try simp only [rwp,zA,zB,zC,zD,zE,zF,zG,zH,zI,rwb,reduceIte,h1,h2,h3,d1,d2,d3,Ne.symm d1,Ne.symm d2,Ne.symm d3])
 exact Fr.tu (.cons (Fr.ag (hf _)) (.cons (.same _) (.cons (.same _) .nil)))
end
set_option maxRecDepth 4000
theorem nt_nil:∀ S0 S:q00,Frs S0 S [.str ⟨#[]⟩,.nils,.nils] (ntC zNt):=fun S0 S=>by
 unfold zNt
 rw [q96]
 exact .cons (.same _) (.cons (.nils 1) (.cons (.nils 3) .nil))
theorem okd_of {s:List Ty} {l:List Tu} (hl:OkL l) {who:Ob} (n:Nd):∀ x∈(envE s l who).of n,OkD x:=by
 intro x hx
 obtain ⟨t,ht,rfl⟩:=List.mem_map.1 (show x∈(ofF (q0g s l) n).map Tu.s from hx)
 exact ((q4n hl).ok t (List.mem_filter.1 ht).1).s
theorem c_Expand {s:List Ty} (hs:OkS s) (hN:OkN s) {l:List Tu} (hl:OkL l) {n:Nd} (hno:OkO n.o) (B:Int) :
  AFun PG nrx36 [scA s,.sl 6 (l.map tuC),.agg (obC n.o),.str n.rl,.int .i64 B] (chkX s l B n):=by
 intro S
 suffices key:∀ QF:AEnd→q00→Prop,QF (.ret (chkX s l B n)) S→ACalls PG nrx36 [scA s,.sl 6 (l.map tuC),.agg (obC n.o),.str n.rl,.int .i64 B] S QF from key _ ⟨rfl,rfl⟩
 intro QF hQ
 refine wx36 ?_
 unfold Ax36
 have q1:=c_lmay hs hN B
 have q2:=q1q hs n.o.ty n.rl
 simp only [scA] at q1 q2
 (try simp only [rwp,zA,zB,zC,zD,zE,zF,zG,zH,zI,rwb,reduceIte,scA,obC])
 intro b1 hb1 b2 hb2 b3 hb3
 obtain ⟨d21,hb2'⟩:=frsh hb2
 obtain ⟨d32,hb3'⟩:=frsh hb3
 obtain ⟨d31,hb3'⟩:=frsh hb3'
 generalize hS3:supd _ b3 _=S3
 have h31:q0j S3 b1=some (tyNo,[.str ⟨#[]⟩,.nils,.nils],3):=by rw [← hS3];(try simp only [rwp,zA,zB,zC,zD,zE,zF,zG,zH,zI,rwb,reduceIte,d21,d31,d32,Ne.symm d21,Ne.symm d31,Ne.symm d32])
 have h32:q0j S3 b2=some (3,[.int .i64 0],1):=by rw [← hS3];(try simp only [rwp,zA,zB,zC,zD,zE,zF,zG,zH,zI,rwb,reduceIte,d21,d31,d32,Ne.symm d21,Ne.symm d31,Ne.symm d32])
 have h33:q0j S3 b3=some (30,[.int .i64 0],1):=by rw [← hS3];(try simp only [rwp,zA,zB,zC,zD,zE,zF,zG,zH,zI,rwb,reduceIte,d21,d31,d32,Ne.symm d21,Ne.symm d31,Ne.symm d32])
 have hs3:Sub S S3:=by rw [← hS3];exact Sub.supd hb3' (Sub.supd hb2' (Sub.supd hb1 (Sub.refl _)))
 have c31:=q07 h31
 refine q05 q1 ?_
 unfold chkX at hQ
 cases hm:mayX s B
 ·rw [hm,if_neg (by simp)] at hQ
  (try simp only [rwp,zA,zB,zC,zD,zE,zF,zG,zH,zI,rwb,reduceIte,c31])
  exact put3x h31 rfl rfl h32 h33 (Ne.symm d21) (Ne.symm d31) (Ne.symm d32) hb1 hb2' hb3' hs3 rfl (fun _=>nt_nil _ _) hQ
 ·rw [hm,if_pos rfl] at hQ
  (try simp only [rwp,zA,zB,zC,zD,zE,zF,zG,zH,zI,rwb,reduceIte])
  have hm':=hm
  unfold mayX at hm'
  simp only [Bool.and_eq_true,decide_eq_true_eq] at hm'
  obtain ⟨hB0,hB1,hk⟩:=hm'
  have hg:=qa2 hk
  refine q0b (q2 _) ?_
  rintro ae S' ⟨rfl,rfl⟩
  cases hq:q0l s n.o.ty n.rl with
  | none=>
   rw [hq] at hQ
   dsimp only at hQ ⊢
   (try simp only [rwp,zA,zB,zC,zD,zE,zF,zG,zH,zI,rwb,reduceIte,q6w,c31])
   exact put3x h31 rfl rfl h32 h33 (Ne.symm d21) (Ne.symm d31) (Ne.symm d32) hb1 hb2' hb3' hs3 rfl (fun _=>nt_nil _ _) hQ
  | some p=>
   obtain ⟨i,k,r⟩:=p
   rw [hq] at hQ
   dsimp only at hQ ⊢
   (try simp only [rwp,zA,zB,zC,zD,zE,zF,zG,zH,zI,rwb,reduceIte,q0i])
   intro bo hbo bp hbp
   obtain ⟨dpo,hbp'⟩:=frsh hbp
   (try simp only [rwp,zA,zB,zC,zD,zE,zF,zG,zH,zI,rwb,reduceIte])
   refine ⟨rfl,rfl,fun bc hbc=>?_⟩
   obtain ⟨dcp,hbc'⟩:=frsh hbc
   obtain ⟨dco,hbc'⟩:=frsh hbc'
   have Sn:∀ {b:Nat},sget S' b=none→b≠b1∧b≠b2∧b≠b3∧sget S b=none:=by
    intro b hb
    refine ⟨?_,?_,?_,?_⟩
    ·rintro rfl;rw [objAt_some.1 h31] at hb;cases hb
    ·rintro rfl;rw [objAt_some.1 h32] at hb;cases hb
    ·rintro rfl;rw [objAt_some.1 h33] at hb;cases hb
    ·cases hq:sget S b with
     | none=>rfl
     | some o=>rw [hs3 b o hq] at hb;cases hb
   obtain ⟨o1,o2,o3,no⟩:=Sn hbo
   obtain ⟨p1,p2,p3,np⟩:=Sn hbp'
   obtain ⟨c1,c2,c3,nc⟩:=Sn hbc'
   generalize hS5:supd _ bc _=S5
   have g5:∀ c,sget S5 c=if bc=c then some (.cells tyXp (xpC (envE s l whoZ) B bo bp 0) 5) else if bp=c then some (.map MD [] 0) else if bo=c then some (.map MD [] 0) else sget S' c:=by
    intro c
    rw [← hS5,q01,q01,q01]
    rfl
   have f5:Sub S S5:=by rw [← hS5];exact Sub.supd nc (Sub.supd np (Sub.supd no hs3))
   have s51:sget S5 b1=some (.cells tyNo [.str ⟨#[]⟩,.nils,.nils] 3):=by rw [g5,if_neg c1,if_neg p1,if_neg o1];exact objAt_some.1 h31
   have s52:sget S5 b2=some (.cells 3 [.int .i64 0] 1):=by rw [g5,if_neg c2,if_neg p2,if_neg o2];exact objAt_some.1 h32
   have s53:sget S5 b3=some (.cells 30 [.int .i64 0] 1):=by rw [g5,if_neg c3,if_neg p3,if_neg o3];exact objAt_some.1 h33
   have s5p:sget S5 bp=some (.map MD [] 0):=by rw [g5,if_neg dcp,if_pos rfl]
   have s5c:sget S5 bc=some (.cells tyXp (xpC (envE s l whoZ) B bo bp 0) 5):=by rw [g5,if_pos rfl]
   have s5o:sget S5 bo=some (.map MD [] 0):=by rw [g5,if_neg dco,if_neg dpo,if_pos rfl]
   have hKs:∀ c,(c=b1∨c=b2∨c=b3∨c=bp∨c=bc)→c≠bo∧sget S5 c≠none:=by
    rintro c (rfl | rfl | rfl | rfl | rfl)
    ·exact ⟨Ne.symm o1,by rw [s51];simp⟩
    ·exact ⟨Ne.symm o2,by rw [s52];simp⟩
    ·exact ⟨Ne.symm o3,by rw [s53];simp⟩
    ·exact ⟨dpo,by rw [s5p];simp⟩
    ·exact ⟨dco,by rw [s5c];simp⟩
   have q3:=c_lcounts hs hl S5
   simp only [scA] at q3
   refine q0b q3 ?_
   rintro ae S6 ⟨cv,rfl,w1,w2⟩
   dsimp only
   have hlc:(q0g s l).length≤l.length:=List.length_filter_le _ _
   have hokc:=(q4n hl (s:=s)).ok
   have hln:=hl.n
   rw [w2.ln,List.length_map]
   refine LoopP.frz (S1:=S5) (l':=[(7,AV.rop [AV.str n.o.ty,AV.str n.o.id]),(10,.ptr b1 0),(11,.ptr b2 0),(12,.ptr b3 0),(13,.rop (rlC r)),(15,.ptr bc 0),(43,.sl 6 ((q0g s l).map tuC)),(44,.int .i64 (q0g s l).length),(45,.int .i64 0)]) (FrS.sub w1)
    (.cons (.same _) (.cons (.same _) (.cons (.same _) (.cons (.same _) (.cons (by rw [q0i];exact .same _) (.cons (.same _) (.cons (Fr.lstW w2) (.cons (.same _) (.cons (.same _) .nil))))))))) ?_
   have hLL:∀ n,ofL (q0g s l) n=((envE s l whoZ).of n).map ndC:=fun n=>rfl
   have hX:bo≠bc→bo≠bp→bp≠bc→XsOk (envE s l whoZ) B bc bo bp:=fun u1 u2 u3=>by
    refine ⟨hs,sc_may hg.may,sc_fnd hk,u3,u1,u2,hB1,fun m=>?_,okd_of hl⟩
    show ((ofF (q0g s l) m).map Tu.s).length≤100000
    rw [List.length_map]
    exact Nat.le_trans (List.length_filter_le _ _) (q4n hl).n
   generalize hL:q0g s l=L at hlc hokc hLL ⊢
   refine LoopP.introS (fun i:Nat=>[(7,AV.rop [AV.str n.o.ty,AV.str n.o.id]),(10,.ptr b1 0),(11,.ptr b2 0),(12,.ptr b3 0),(13,.rop (rlC r)),(15,.ptr bc 0),(43,.sl 6 (L.map tuC)),(44,.int .i64 L.length),(45,.int .i64 i)])
    (fun i S2=>i≤L.length∧Sub S S2∧(∃ es clk,OfM S S2 39 bo (fun c=>c=b1∨c=b2∨c=b3∨c=bp∨c=bc) (ofL (L.take i)) es clk)∧∀ c,(c=b1∨c=b2∨c=b3∨c=bp∨c=bc)→sget S2 c=sget S5 c) (fun i=>L.length-i) 0
    ⟨by omega,f5,⟨[],0,OfM.nil no s5o hKs⟩,fun c _=>rfl⟩ rfl ?_
   rintro i S2 ⟨hi,j1,⟨es,clk,hO⟩,j2⟩ kk hkk
   have s2c:=j2 bc (by simp)
   rw [s5c] at s2c
   have s2o:=objAt_some.2 s2c
   have hc2:=q07 s2o
   (try simp only [rwp,zA,zB,zC,zD,zE,zF,zG,zH,zI,rwb,reduceIte,CA36_1])
   cases a1:decide ((i:Int)<L.length)
   ·refine q41 ?_
    have hEnd:∀ (LL:LE) (x:AV) (S4:q00),LL=[(10,.ptr b1 0),(11,.ptr b2 0),(12,.ptr b3 0)]∨LL=[(10,.ptr b1 0),(11,.ptr b2 0),(12,.ptr b3 0),(15,.ptr bc 0)]→q2i (fun S=>rtW (res3x b1 b2 b3) QF S) (.ptr b1 0) (.ptr b2 0) (.ptr b3 0) x S4→cloW PG dfx36 tf_lists_Expand_1 QF [.ptr b1 0,.ptr b2 0,.ptr b3 0] x LL S4:=by
     rintro LL x S4 (rfl | rfl) h<;>exact Eq.mpr (q9l (T:=fun S=>rtW (res3x b1 b2 b3) QF S)) h
    have eil:i=L.length:=by have:=of_decide_eq_false a1;omega
    subst eil
    rw [List.take_length] at hO
    rw [gx36]
    unfold Gx36
    rw [q0i]
    (try simp only [rwp,zA,zB,zC,zD,zE,zF,zG,zH,zI,rwb,reduceIte])
    let Sz:q00:=supd (supd (supd (supd (supd (supd S b1 (.cells tyNo [.str ⟨#[]⟩,.nils,.nils] 3)) b2 (.cells 3 [.int .i64 0] 1)) b3 (.cells 30 [.int .i64 0] 1)) bo (.map MD (frzM (ofL L) es) clk)) bc (.cells tyXp (xpC (envE s l whoZ) B bo bp 0) 5)) bp (.map MD [] 0)
    have g0:∀ c,sget Sz c=if bp=c then some (.map MD [] 0) else if bc=c then some (.cells tyXp (xpC (envE s l whoZ) B bo bp 0) 5) else if bo=c then some (.map MD (frzM (ofL L) es) clk) else if b3=c then some (.cells 30 [.int .i64 0] 1) else if b2=c then some (.cells 3 [.int .i64 0] 1) else if b1=c then some (.cells tyNo [.str ⟨#[]⟩,.nils,.nils] 3) else sget S c:=fun c=>rfl
    have hof:∀ m,ofA ((envE s l whoZ).of m)=(mget es (ndA m)).map fun _=>AV.sl 3 (ofL L m):=by
     intro m
     unfold ofA
     cases hm:mget es (ndA m) with
     | none=>
      have:=hO.no m hm
      rw [hLL,List.map_eq_nil_iff] at this
      rw [this]
      rfl
     | some v=>
      have:=(hO.yes m v hm).1
      rw [hLL] at this ⊢
      rw [if_neg fun h=>this (by rw [h];rfl)]
      rfl
    have hfk:∀ x∈frzM (ofL L) es,∃ n,x.1=ndA n:=by
     intro x hx
     unfold frzM at hx
     obtain ⟨y,hy,rfl⟩:=List.mem_map.1 hx
     exact hO.key y hy
    have hSz:StX (envE s l whoZ) B bc bo bp [] 0 Sz:=by
     refine ⟨objAt_some.2 (by rw [g0,if_neg (Ne.symm dcp),if_pos rfl]),⟨0,mapObj_some.2 (by rw [g0,if_pos rfl])⟩,⟨frzM (ofL L) es,clk,mapObj_some.2 (by rw [g0,if_neg dpo,if_neg dco,if_pos rfl]),fun x hx=>?_,fun m=>?_⟩,by omega⟩
     ·obtain ⟨m,hm⟩:=hfk x hx
      rw [hm]
      exact ke_nd.ok m
     ·rw [mget_frz hO.key];exact (hof m).symm
    have q4:=c_xnode (hX (Ne.symm dco) (Ne.symm dpo) (Ne.symm dcp)) 50 [] [] ⟨fun x hx=>(by cases hx),rfl,fun m=>by simp [q9w]⟩ rfl n.o r n.rl i k hno hq 0 Sz hSz
    have hfr:FrS Sz S2:=by
     intro b o' hb
     rw [g0] at hb
     split at hb
     ·rename_i e;subst e;cases hb;exact ⟨_,(j2 _ (by simp)).trans s5p,.same _⟩
     ·split at hb
      ·rename_i e;subst e;cases hb;exact ⟨_,(j2 _ (by simp)).trans s5c,.same _⟩
      ·split at hb
       ·rename_i e
        subst e
        cases hb
        refine ⟨_,hO.map,hO.fr fun b hb=>?_⟩
        rw [g0] at hb
        split at hb
        ·rename_i e;exact .inr (.inl (by simp [e]))
        ·split at hb
         ·rename_i e;exact .inr (.inl (by simp [e]))
         ·split at hb
          ·rename_i e;exact .inl e.symm
          ·split at hb
           ·rename_i e;exact .inr (.inl (by simp [e]))
           ·split at hb
            ·rename_i e;exact .inr (.inl (by simp [e]))
            ·split at hb
             ·rename_i e;exact .inr (.inl (by simp [e]))
             ·exact .inr (.inr hb)
       ·split at hb
        ·rename_i e;subst e;cases hb;exact ⟨_,(j2 _ (by simp)).trans s53,.same _⟩
        ·split at hb
         ·rename_i e;subst e;cases hb;exact ⟨_,(j2 _ (by simp)).trans s52,.same _⟩
         ·split at hb
          ·rename_i e;subst e;cases hb;exact ⟨_,(j2 _ (by simp)).trans s51,.same _⟩
          ·exact ⟨_,j1 b o' hb,.same _⟩
    have t1:sget Sz b1=some (.cells tyNo [.str ⟨#[]⟩,.nils,.nils] 3):=by rw [g0,if_neg p1,if_neg c1,if_neg o1,if_neg d31,if_neg d21,if_pos rfl]
    have t2:sget Sz b2=some (.cells 3 [.int .i64 0] 1):=by rw [g0,if_neg p2,if_neg c2,if_neg o2,if_neg d32,if_pos rfl]
    have t3:sget Sz b3=some (.cells 30 [.int .i64 0] 1):=by rw [g0,if_neg p3,if_neg c3,if_neg o3,if_pos rfl]
    have hsub:∀ S3,OutS bc bp Sz S3→Sub S S3:=fun S3 ho c x hx=>by
     refine ho c x (q0f nc hx).symm (q0f np hx).symm ?_
     rw [g0,if_neg (q0f np hx),if_neg (q0f nc hx),if_neg (q0f no hx),if_neg (q0f hb3' hx),if_neg (q0f hb2' hx),if_neg (q0f hb1 hx)]
     exact hx
    simp only [obC,q0i] at q4
    refine q0b (ACalls.frz hfr (Frs.same _) q4) ?_
    intro ae S3 hq4
    unfold q65 at hq4
    cases ha:xnQ (envE s l whoZ) B 50 [] n.o r 0 with
    | none=>
     rw [ha] at hq4 hQ
     obtain ⟨rfl,hx⟩:=hq4
     dsimp only at hQ ⊢
     refine hEnd _ _ _ (.inr rfl) ?_
     unfold q2i
     (try simp only [rwp,zA,zB,zC,zD,zE,zF,zG,zH,zI,rwb,reduceIte,spX,q4d])
     exact put3x (objAt_some.2 (hx _ _ (Ne.symm c1) (Ne.symm p1) t1)) rfl rfl (objAt_some.2 (hx _ _ (Ne.symm c2) (Ne.symm p2) t2)) (objAt_some.2 (hx _ _ (Ne.symm c3) (Ne.symm p3) t3)) (Ne.symm d21) (Ne.symm d31) (Ne.symm d32) hb1 hb2' hb3' (hsub S3 hx) rfl (fun _=>nt_nil _ _) hQ
    | some p=>
     obtain ⟨⟨lb,ns,ks⟩,w3⟩:=p
     rw [ha] at hq4 hQ
     obtain ⟨rfl,k1,k2⟩:=hq4
     dsimp only at hQ ⊢
     have r1:=(k2 b1 (Ne.symm c1) (Ne.symm p1)).trans t1
     have r2:=(k2 b2 (Ne.symm c2) (Ne.symm p2)).trans t2
     have r3:=(k2 b3 (Ne.symm c3) (Ne.symm p3)).trans t3
     have hsE:=hsub S3 k2.s
     have rco:=k1.c
     have rcc:=q07 rco
     have r1o:=objAt_some.2 r1
     have r1c:=q07 r1o
     have r2o:=objAt_some.2 r2
     have r3o:=objAt_some.2 r3
     rw [q96]
     (try simp only [rwp,zA,zB,zC,zD,zE,zF,zG,zH,zI,rwb,reduceIte,r1o,r1c,rcc,rco,xpC,c1,Ne.symm c1,kpW_cons,d21,d31,d32,Ne.symm d21,Ne.symm d31,Ne.symm d32,r2o,r3o])
     refine ⟨fun _ _=>trivial,?_⟩
     refine hEnd _ _ _ (.inl rfl) ?_
     unfold q2i
     (try simp only [rwp,zA,zB,zC,zD,zE,zF,zG,zH,zI,rwb,reduceIte])
     refine q17 S (Sub.supd hb3' (Sub.supd hb2' (Sub.supd hb1 hsE))) ?_
     (try simp only [rwp,zA,zB,zC,zD,zE,zF,zG,zH,zI,rwb,reduceIte,r1o,r2o,r3o,d21,d31,d32,Ne.symm d21,Ne.symm d31,Ne.symm d32])
     unfold xT at hQ
     rw [q96] at hQ
     exact hQ
   ·have hlt:=of_decide_eq_true a1
    obtain ⟨t,ht⟩:=q0h hlt
    (try simp only [rwp,zA,zB,zC,zD,zE,zF,zG,zH,zI,rwb,reduceIte,ht,tuC])
    (try simp only [rwp,zA,zB,zC,zD,zE,zF,zG,zH,zI,rwb,reduceIte,hc2,xpC])
    have hnx:=ofL_take ht
    refine hO.push j1 (ndT t) rfl rfl ?_ fun S4 es2 clk2 u1 u2 u3=>?_
    ·have:(ofL (L.take i) (ndT t)).length≤i:=by
      unfold ofL ofF
      rw [List.length_map,List.length_map]
      exact Nat.le_trans (List.length_filter_le _ _) (List.length_take_le _ _)
     omega
    ·(simp (disch:=omega) only [q04])
     have e:ofL (L.take (i+1))=fun m=>if m=ndT t then ofL (L.take i) (ndT t)++[ndC t.s] else ofL (L.take i) m:=by
      funext m
      rw [hnx]
      by_cases hm:m=ndT t
      ·rw [if_pos hm,if_pos hm,hm]
      ·rw [if_neg hm,if_neg hm,List.append_nil]
     exact q08 rfl (hkk (i+1) S4 ⟨by omega,u1,⟨es2,clk2,by rw [e];exact u2⟩,fun c hc=>(u3 c hc).trans (j2 c hc)⟩ (by omega))
set_option maxRecDepth 4000
theorem bl_cmp:∀ (x y:List UInt8),Op.bytesLess x y=decide (Lib.compareBytes x y<0)
 | [],[]=>rfl
 | [],_ :: _=>rfl
 | _ :: _,[]=>rfl
 | a :: x,b :: y=>by
  have ih:=bl_cmp x y
  unfold Op.bytesLess Lib.compareBytes
  by_cases h1:a<b
  ·rw [if_pos h1,decide_eq_true h1];rfl
  ·rw [if_neg h1,decide_eq_false h1,Bool.false_or]
   by_cases h2:b<a
   ·rw [if_pos h2]
    have:(a==b)=false:=by
     rw [beq_eq_false_iff_ne]
     rintro rfl
     exact h1 h2
    rw [this];rfl
   ·rw [if_neg h2]
    have:a=b:=by
     rw [UInt8.lt_iff_toNat_lt] at h1 h2
     exact UInt8.toNat_inj.1 (by omega)
    rw [this,ih,beq_self_eq_true,Bool.true_and]
theorem c_less (a b:Ob):AFun PG nrx123 [.agg (obC a),.agg (obC b)] (.bool (ltO a b)):=by
 intro S
 refine wx123 ?_
 unfold Bx123
 have e:ltO a b=(decide (cmpB a.ty b.ty<0)||(decide (a.ty=b.ty)&&decide (cmpB a.id b.id<0))):=by
  unfold ltO cmpO
  by_cases h:cmpB a.ty b.ty=0
  ·rw [if_pos h,q8r h]
   have:cmpB b.ty b.ty=0:=cb_refl _
   rw [this]
   simp
  ·rw [if_neg h]
   have hne:¬ a.ty=b.ty:=fun he=>h (by rw [he];exact cb_refl _)
   rw [decide_eq_false hne,Bool.false_and,Bool.or_false]
 rw [e]
 (try simp only [rwp,zA,zB,zC,zD,zE,zF,zG,zH,zI,rwb,reduceIte,obC,Lib.toList_data,bl_cmp])
 cases a1:decide (cmpB a.ty b.ty<0)
 ·(try simp only [rwp,zA,zB,zC,zD,zE,zF,zG,zH,zI,rwb,reduceIte,C123_1])
  cases a2:decide (a.ty=b.ty)
  ·(try simp only [rwp,zA,zB,zC,zD,zE,zF,zG,zH,zI,rwb,reduceIte,C123_2])
   exact q02 ⟨rfl,rfl⟩
  ·(try simp only [rwp,zA,zB,zC,zD,zE,zF,zG,zH,zI,rwb,reduceIte,C123_2,Lib.toList_data,bl_cmp])
   exact q02 ⟨rfl,rfl⟩
 ·(try simp only [rwp,zA,zB,zC,zD,zE,zF,zG,zH,zI,rwb,reduceIte,C123_1,C123_2])
  exact q02 ⟨rfl,rfl⟩
theorem LstW.appL {S0 S:q00} {t sz bytes:Nat} {v x:AV} {rows xs:List (List AV)} {K:AV→q00→Prop} (hs:Sub S0 S) (h:LstW S0 S t sz v rows) (hap:appX S sz x=some (xs.length,xs.flatten)) (hx:∀ r∈xs,r.length=sz) (ho:ones xs.flatten=true) (hb:(rows.length+xs.length) * bytes≤140737488355328)
  (hK:∀ v' S',Sub S0 S'→LstW S0 S' t sz v' (rows++xs)→(∀ c o,sget S c=some o→q0x v c→sget S' c=some o∧q0x v' c)→K v' S'):apW S t sz bytes v x K:=by
 refine ⟨xs.length,xs.flatten,hap,ho,?_⟩
 obtain ⟨hr,h⟩:=h
 have hall:∀ r∈rows++xs,r.length=sz:=fun r hm=>(List.mem_append.1 hm).elim (hr r) (hx r)
 have hfx:=q25 hx
 have hfr:=q25 hr
 have hfl:(rows++xs).flatten.length=(rows.length+xs.length) * sz:=by rw [q25 hall,List.length_append]
 rcases h with ⟨rfl,rfl⟩ | ⟨b,cap,cs,rfl,h1,h2,h3,h4,h5,h6⟩
 ·dsimp only
  simp only [List.length_nil,Nat.zero_add] at hb
  refine ⟨hb,?_⟩
  split
  ·rename_i h0
   have:xs=[]:=List.length_eq_zero_iff.1 h0
   subst this
   exact hK _ _ hs LstW.nil fun c o hc _=>⟨hc,fun b off n cap e=>by cases e⟩
  ·intro b cap hbn k1 k2
   have hb0:=Sub.none hs hbn
   refine hK _ _ (hs.supd hb0) ⟨hall,.inr ⟨b,cap,xs.flatten,by simp,hb0,by rw [q01,if_pos rfl],?_,by rw [List.nil_append,hfx];exact Nat.le_refl _,by simpa using k1,k2⟩⟩ fun c o hc _=>?_
   ·rw [List.nil_append,List.take_of_length_le (by rw [hfx];exact Nat.le_refl _)]
   ·have hne:b≠c:=q0f hbn hc
    exact ⟨by rw [q01,if_neg hne];exact hc,fun b' off n cap h=>by cases h;exact Ne.symm hne⟩
 ·refine ⟨_,h2,h5,h6,h4,hb,fun b' cap' k1 k2 k3=>?_⟩
  rw [h3]
  have hb0:sget S0 b'=none:=by
   rcases k1 with rfl | k1
   ·exact h1
   ·exact Sub.none hs k1
  have hsub:Sub S0 (supd (sdel S b) b' (.cells t (rows.flatten++xs.flatten) (cap' * sz))):=by
   refine Sub.supd hb0 fun c o hc=>?_
   have hne:b≠c:=by rintro rfl;rw [h1] at hc;cases hc
   rw [q0a,if_neg hne]
   exact hs c o hc
  refine hK _ _ hsub ⟨hall,.inr ⟨b',cap',rows.flatten++xs.flatten,by simp,hb0,by rw [q01,if_pos rfl],?_,?_,by simpa using k2,k3⟩⟩ fun c o hc ha=>?_
  ·rw [← List.flatten_append,List.take_of_length_le (by rw [hfl,List.length_append];exact Nat.le_refl _)]
  ·rw [← List.flatten_append,hfl,List.length_append];exact Nat.le_refl _
  ·have hcb:c≠b:=ha b 0 _ _ rfl
   have hcb':b'≠c:=by
    rcases k1 with rfl | k1
    ·exact Ne.symm hcb
    ·exact q0f k1 hc
   exact ⟨by rw [q01,if_neg hcb',q0a,if_neg (Ne.symm hcb)];exact hc,fun b'' off n cap h=>by cases h;exact Ne.symm hcb'⟩
theorem Fr.lst14 {S0 S:q00} {t sz:Nat} {v:AV} {rows:List (List AV)} (h:LstW S0 S t sz v rows):Fr S0 S v (.sl sz rows):=by
 obtain ⟨hr,⟨rfl,rfl⟩ | ⟨b,cap,cs,rfl,h1,h2,h3,h4,h5,h6⟩⟩:=h
 ·exact .nils sz
 ·exact .ownW t sz b _ cap rows cs hr h1 h2 h3 rfl h5
theorem LstW.selfX {S0 S:q00} {t sz:Nat} {v:AV} {rows:List (List AV)} (h:LstW S0 S t sz v rows):appX S sz v=some (rows.length,rows.flatten):=by
 obtain ⟨hr,⟨rfl,rfl⟩ | ⟨b,cap,cs,rfl,h1,h2,h3,h4,h5,h6⟩⟩:=h
 ·rfl
 ·unfold appX
  dsimp only
  rw [h2]
  dsimp only
  rw [if_pos (by omega),List.drop_zero,h3]
theorem LstW.trunc {S0 S:q00} {t sz b n cap k:Nat} {rows:List (List AV)} (h:LstW S0 S t sz (.own b 0 n cap) rows) (hk:k≤n):LstW S0 S t sz (.own b 0 k cap) (rows.take k)∧rows.length=n∧n≤cap:=by
 obtain ⟨hr,⟨e,-⟩ | ⟨b1,cap1,cs,e,h1,h2,h3,h4,h5,h6⟩⟩:=h
 ·cases e
 ·cases e
  have hr':∀ r∈rows.take k,r.length=sz:=fun r hm=>hr r (List.mem_of_mem_take hm)
  have hl:(rows.take k).length=k:=by rw [List.length_take];omega
  refine ⟨⟨hr',.inr ⟨b,cap,cs,by rw [hl],h1,h2,?_,?_,by omega,h6⟩⟩,rfl,h5⟩
  ·have e1:rows.flatten.take (k * sz)=(rows.take k).flatten:=by
    have:=congrArg (List.take (k * sz)) (show (rows.take k).flatten++(rows.drop k).flatten=rows.flatten by rw [← List.flatten_append,List.take_append_drop])
    rw [← this,List.take_append_of_le_length (by rw [q25 hr',hl];exact Nat.le_refl _),List.take_of_length_le (by rw [q25 hr',hl];exact Nat.le_refl _)]
   rw [hl,← e1,← h3,List.take_take,Nat.min_eq_left (Nat.mul_le_mul_right _ hk)]
  ·rw [hl];exact Nat.le_trans (Nat.mul_le_mul_right _ hk) h4
theorem LstW.dropX {S0 S:q00} {t sz b n cap k:Nat} {rows:List (List AV)} (h:LstW S0 S t sz (.own b 0 n cap) rows) (hk:k≤n):appX S sz (.own b (if cap=k then 0 else 0+k * sz) (n-k) (cap-k))=some (n-k,(rows.drop k).flatten):=by
 obtain ⟨hr,⟨e,-⟩ | ⟨b1,cap1,cs,e,h1,h2,h3,h4,h5,h6⟩⟩:=h
 ·cases e
 ·cases e
  have hr':∀ r∈rows.take k,r.length=sz:=fun r hm=>hr r (List.mem_of_mem_take hm)
  have hl:(rows.take k).length=k:=by rw [List.length_take];omega
  unfold appX
  dsimp only
  rw [h2]
  dsimp only
  by_cases hc:cap=k
  ·have e0:rows.length-k=0:=by omega
   rw [if_pos hc,e0,Nat.zero_mul,if_pos (by omega),List.take_zero,List.drop_of_length_le (by omega)]
   rfl
  ·rw [if_neg hc,Nat.zero_add]
   have hsum:k * sz+(rows.length-k) * sz=rows.length * sz:=by rw [← Nat.add_mul];congr 1;omega
   rw [if_pos (by omega)]
   congr 2
   have e2:(cs.drop (k * sz)).take ((rows.length-k) * sz)=(cs.take (rows.length * sz)).drop (k * sz):=by rw [List.drop_take];congr 1;omega
   rw [e2,h3]
   have:=congrArg (List.drop (k * sz)) (show (rows.take k).flatten++(rows.drop k).flatten=rows.flatten by rw [← List.flatten_append,List.take_append_drop])
   rw [← this,List.drop_left' (by rw [q25 hr',hl])]
theorem sl_nil0 {sz:Nat} {k:IntKind} {K:AV→Prop}:slW sz .nils (some (.int k ((0:Nat):Int))) none K=K .nils:=rfl
theorem sl_nil1 {sz:Nat} {k:IntKind} {K:AV→Prop}:slW sz .nils none (some (.int k ((0:Nat):Int))) K=K .nils:=rfl
theorem appX_sl {S:q00} {sz:Nat} {xs:List (List AV)}:appX S sz (.sl sz xs)=some (xs.length,xs.flatten):=by simp [appX]
theorem ones_ob {M:List Ob}:ones (M.map obC).flatten=true:=q1t fun r hr=>by
 obtain ⟨o,-,rfl⟩:=List.mem_map.1 hr
 rfl
theorem len_ob {M:List Ob}:∀ r∈M.map obC,r.length=2:=fun r hr=>by
 obtain ⟨o,-,rfl⟩:=List.mem_map.1 hr
 rfl
theorem c_Sorted {M:List Ob} (hM:M.length≤1000):AFun PG nrx75 [.sl 2 (M.map obC)] (.sl 2 ((srtO ltO M).map obC)):=by
 intro S
 refine wx75 ?_
 unfold Bx75
 refine LoopP.introS (fun x:Nat×AV=>[(0,.sl 2 (M.map obC)),(3,x.2),(4,.int .i64 x.1)]) (fun x S'=>x.1≤M.length∧Sub S S'∧LstW S S' tyOb 2 x.2 ((srtO ltO (M.take x.1)).map obC)) (fun x=>M.length-x.1) (0,.nils)
  ⟨by dsimp only;omega,Sub.refl _,LstW.nil⟩ rfl ?_
 rintro ⟨i,ov⟩ S1 ⟨hi,s1,o1⟩ kk hkk
 dsimp only at hi o1 ⊢
 (try simp only [rwp,zA,zB,zC,zD,zE,zF,zG,zH,zI,rwb,reduceIte,C75_1,List.length_map])
 cases a1:decide ((i:Int)<M.length)
 ·have e:i=M.length:=by have:=of_decide_eq_false a1;omega
  subst e
  rw [List.take_length] at o1
  (try simp only [rwp,zA,zB,zC,zD,zE,zF,zG,zH,zI,rwb,reduceIte])
  exact q5e S _ s1 (Fr.lst14 o1) ⟨rfl,rfl⟩
 ·have hlt:=of_decide_eq_true a1
  obtain ⟨x,hx⟩:=q0h hlt
  have hnx:srtO ltO (M.take (i+1))=insO ltO (srtO ltO (M.take i)) x:=by rw [q0z hx,srtO_snoc]
  obtain ⟨-,-,hlen⟩:=q6c stO (M.take i) _ rfl
  have hti:=List.length_take_le i M
  generalize srtO ltO (M.take i)=L at o1 hnx hlen
  have hL:L.length≤1000:=by omega
  (try simp only [rwp,zA,zB,zC,zD,zE,zF,zG,zH,zI,rwb,reduceIte])
  refine LoopP.introS (fun k:Nat=>[(0,.sl 2 (M.map obC)),(3,ov),(4,.int .i64 i),(5,.int .i64 k)]) (fun k S'=>S'=S1∧k≤L.length∧∀ y∈L.take k,ltO y x=true) (fun k=>L.length-k) 0 ⟨rfl,by omega,fun y hy=>by simp at hy⟩ rfl ?_
  rintro k S2 ⟨e2,hk,hlo⟩ kk2 hkk2
  rw [e2]
  (try simp only [rwp,zA,zB,zC,zD,zE,zF,zG,zH,zI,rwb,reduceIte,C75_2])
  rw [o1.ln,List.length_map]
  have hnext:∀ {v':AV} {S3:q00},Sub S S3→LstW S S3 tyOb 2 v' ((insO ltO L x).map obC)→rcW kk [(0,.sl 2 (M.map obC)),(3,v'),(4,.int .i64 ((i:Int)+1))] S3:=by
   intro v' S3 h1 h2
   rw [show (i:Int)+1=((i+1:Nat):Int) by omega]
   exact q08 rfl (hkk (i+1,v') _ ⟨by dsimp only;omega,h1,by dsimp only;rw [hnx];exact h2⟩ (by dsimp only;omega))
  -- put in at k
  have put:(∀ y,L[k]?=some y→ltO y x=false∧¬ y=x)→C75_4 (fun ae S'=>ae=.ret (.sl 2 ((srtO ltO M).map obC))∧S'=S) kk (.sl 2 (M.map obC)) ov (.int .i64 i) (.int .i64 k) (.bool false) S1:=by
   intro hno
   have hins:insO ltO L x=L.take k++x :: L.drop k:=by
    rw [insO_at hlo]
    congr 1
    cases hd:L.drop k with
    | nil=>rfl
    | cons y r=>
     have hy:L[k]?=some y:=by
      have:=congrArg (fun l=>l[0]?) hd
      simpa using this
     obtain ⟨n1,n2⟩:=hno y hy
     unfold insO
     rw [if_neg (by rw [n1];simp),if_neg n2]
   have hrest:∀ (v48:AV) (S3:q00),Sub S S3→LstW S S3 tyOb 2 v48 ((L.drop k).map obC)→(∀ (tv:AV),LstW S S1 tyOb 2 tv ((L.take k).map obC)→(∀ b off n cap,tv=.own b off n cap→∃ n' cap',ov=.own b 0 n' cap')→LstW S S3 tyOb 2 tv ((L.take k).map obC)∧∀ b off n cap,tv=.own b off n cap→q0x v48 b)→∀ tv:AV,LstW S S1 tyOb 2 tv ((L.take k).map obC)→(∀ b off n cap,tv=.own b off n cap→∃ n' cap',ov=.own b 0 n' cap') →
     apW S3 27 2 32 tv (.sl 2 [obC x]) fun v57 S=>apW S 27 2 32 v57 v48 fun v60 S=>rcW kk [(0,.sl 2 (M.map obC)),(3,v60),(4,.int .i64 ((i:Int)+1))] S:=by
    intro v48 S3 s3 o3 hkeep tv ht htb
    obtain ⟨ht3,hta⟩:=hkeep tv ht htb
    have hlt:(L.take k).length=k:=by rw [List.length_take];omega
    refine LstW.appL s3 ht3 (xs:=[obC x]) appX_sl (fun r hr=>by rw [List.mem_singleton.1 hr];rfl) (q1t fun r hr=>by rw [List.mem_singleton.1 hr];rfl) (by simp only [List.length_map,List.length_singleton];omega) fun v57 S4 s4 o4 j4=>?_
    have hv48:∀ b off n cap,v48=.own b off n cap→q0x tv b:=by
     intro b off n cap e b' off' n' cap' e'
     exact Ne.symm (hta b' _ _ _ e' b _ _ _ e)
    obtain ⟨o48,-⟩:=LstW.keep o3 hv48 j4
    refine LstW.appL s4 o4 o48.selfX len_ob ones_ob (by simp only [List.length_map,List.length_append,List.length_singleton,List.length_drop];omega) fun v60 S5 s5 o5 _=>?_
    refine hnext s5 ?_
    rw [hins]
    simpa using o5
   (try simp only [rwp,zA,zB,zC,zD,zE,zF,zG,zH,zI,rwb,reduceIte,C75_4])
   obtain ⟨hr1,⟨rfl,e0⟩ | ⟨b,cap,cs,rfl,-⟩⟩:=id o1
   ·have e0:L=[]:=by simpa using e0
    subst e0
    have ek:k=0:=by simpa using hk
    subst ek
    (try simp only [rwp,zA,zB,zC,zD,zE,zF,zG,zH,zI,rwb,reduceIte,List.getElem?_map,hx,obC])
    (try (simp (disch:=omega) only [q04]))
    refine Eq.mpr sl_nil0 ?_
    refine ⟨0,[],rfl,rfl,by decide,?_⟩
    rw [if_pos rfl]
    refine Eq.mpr sl_nil1 ?_
    (try simp only [rwp,zA,zB,zC,zD,zE,zF,zG,zH,zI,rwb,reduceIte,List.getElem?_map,hx,obC])
    (try (simp (disch:=omega) only [q04]))
    exact hrest .nils S1 s1 LstW.nil (fun tv h1 h2=>⟨h1,fun b off n cap e=>by obtain ⟨n',cap',h⟩:=h2 b off n cap e;cases h⟩) .nils LstW.nil (fun b off n cap e=>by cases e)
   ·simp only [List.length_map] at o1 hrest ⊢
    have ho1:=o1
    obtain ⟨tr1,-,tr3⟩:=LstW.trunc (k:=k) o1 hk
    have dx:=LstW.dropX (k:=k) o1 hk
    rw [Nat.zero_add,← List.map_drop] at dx
    (try simp only [rwp,zA,zB,zC,zD,zE,zF,zG,zH,zI,rwb,reduceIte,List.getElem?_map,hx,obC])
    refine ⟨by omega,by omega,?_⟩
    refine LstW.appL s1 (LstW.nil (S0:=S)) (xs:=(L.drop k).map obC) (by rw [dx];simp) len_ob ones_ob (by simp only [List.length_map,List.length_drop,List.length_nil];omega) fun v48 S3 s3 o3 j3=>?_
    rw [List.nil_append] at o3
    refine ⟨by omega,by omega,?_⟩
    rw [show AV.own b (if cap=0 then 0 else 0) (k-0) (cap-0)=.own b 0 k cap by simp]
    (try (simp (disch:=omega) only [q04]))
    refine hrest v48 S3 s3 o3 (fun tv h1 h2=>?_) (.own b 0 k cap) (by rw [List.map_take];exact tr1) (fun b' off n' cap' e=>by cases e;exact ⟨L.length,cap,rfl⟩)
    obtain ⟨hr2,⟨e,e0⟩ | ⟨b2,cap2,cs2,e,g1,g2,g3⟩⟩:=id h1
    ·exact ⟨⟨hr2,.inl ⟨e,e0⟩⟩,fun b' off n' cap' e'=>by rw [e] at e';cases e'⟩
    ·have hk3:=j3 b2 _ g2 (fun _ _ _ _ e=>by cases e)
     exact ⟨⟨hr2,.inr ⟨b2,cap2,cs2,e,g1,hk3.1,g3⟩⟩,fun b' off n' cap' e'=>by rw [e] at e';cases e';exact hk3.2⟩
  rw [show ∀ K:AV→Prop,biW .lss (.int .i64 (k:Int)) (.int .i64 (L.length:Int)) K=K (.bool (decide ((k:Int)<L.length))) from fun K=>rfl]
  cases a2:decide ((k:Int)<L.length)
  ·(try simp only [rwp,zA,zB,zC,zD,zE,zF,zG,zH,zI,rwb,reduceIte,C75_3])
   rw [o1.ln,List.length_map]
   (try simp only [rwp,zA,zB,zC,zD,zE,zF,zG,zH,zI,rwb,reduceIte,a2])
   exact put fun y hy=>by
    have:=(List.getElem?_eq_some_iff.1 hy).1
    have:=of_decide_eq_false a2
    omega
  ·have hkl:=of_decide_eq_true a2
   obtain ⟨y,hy⟩:=q0h hkl
   obtain ⟨b1,cap,cs,rfl,hcs,hrow,hle⟩:=o1.get (i:=k) (r:=obC y) (by rw [List.getElem?_map,hy];rfl)
   simp only [List.length_map] at o1 put hnext hkk hkk2 hrow ⊢
   obtain ⟨rest,hd1⟩:=drop_two (hrow.trans (show obC y=[.str y.ty,.str y.id] from rfl))
   (try simp only [rwp,zA,zB,zC,zD,zE,zF,zG,zH,zI,rwb,reduceIte,hcs,List.length_map,Int.toNat_natCast,Nat.zero_add,hd1,List.getElem?_map,hx,obC])
   refine ⟨hkl,?_⟩
   refine q05 (c_less y x) ?_
   cases a3:ltO y x
   ·(try simp only [rwp,zA,zB,zC,zD,zE,zF,zG,zH,zI,rwb,reduceIte,C75_3])
    (try simp only [rwp,zA,zB,zC,zD,zE,zF,zG,zH,zI,rwb,reduceIte,a2,hcs,List.length_map,Int.toNat_natCast,Nat.zero_add,hd1,List.getElem?_map,hx,obC])
    refine ⟨hkl,?_⟩
    have hdec:=ob_dec14 (a:=y) (b:=x)
    cases a4:(decide (y.ty=x.ty)&&decide (y.id=x.id))
    ·rw [a4] at hdec
     exact put fun y' hy'=>by
      rw [hy] at hy'
      cases hy'
      exact ⟨a3,of_decide_eq_false hdec⟩
    ·rw [a4] at hdec
     have e:=of_decide_eq_true hdec
     (try simp only [rwp,zA,zB,zC,zD,zE,zF,zG,zH,zI,rwb,reduceIte,C75_4])
     (try (simp (disch:=omega) only [q04]))
     refine hnext s1 ?_
     have hins:insO ltO L x=L:=by
      rw [insO_at hlo]
      have hd:L.drop k=y :: L.drop (k+1):=by
       obtain ⟨h3,h4⟩:=List.getElem?_eq_some_iff.1 hy
       rw [← h4]
       exact List.drop_eq_getElem_cons h3
      conv=>rhs;rw [← List.take_append_drop k L]
      rw [hd]
      unfold insO
      rw [if_neg (by rw [a3];simp),if_pos e]
     rw [hins]
     exact o1
   ·(try simp only [rwp,zA,zB,zC,zD,zE,zF,zG,zH,zI,rwb,reduceIte,C75_3])
    (try (simp (disch:=omega) only [q04]))
    rw [show (k:Int)+1=((k+1:Nat):Int) by omega]
    refine q08 rfl (hkk2 (k+1) _ ⟨e2 ▸ rfl,by omega,fun z hz=>?_⟩ (by omega))
    rw [q0z hy] at hz
    rcases List.mem_append.1 hz with hz | hz
    ·exact hlo z hz
    ·rw [List.mem_singleton.1 hz];exact a3
set_option maxRecDepth 4000
structure Tk where
 s:ByteArray
 line:Int
 col:Int
instance:Inhabited Tk:=⟨⟨⟨#[]⟩,0,0⟩⟩
def tkC (t:Tk):List AV:=[.str t.s,.int .i64 t.line,.int .i64 t.col]
structure Rd where
 at':Nat
 op:Int
 dl:Int
 dc:Int
 de:Int
def rdC (T:List Tk) (r:Rd):List AV:=[.sl 3 (T.map tkC),.int .i64 r.at',.int .i64 r.op,.int .i64 r.dl,.int .i64 r.dc,.int .i64 r.de]
def rdO (T:List Tk) (r:Rd):AObj:=.cells 145 (rdC T r) 6
def AFunR (f b:Nat) (xs:List AV) (T:List Tk) (r:Rd) (v:AV) (r':Rd):Prop:=∀ S,sget S b=some (rdO T r)→ACalls PG f (.ptr b 0 :: xs) S fun ae S'=>ae=.ret v∧S'=supd S b (rdO T r')
theorem q8f {S:q00} {b:Nat} {T:List Tk} {r:Rd} (h:sget S b=some (rdO T r)):q0j S b=some (145,[.sl 3 (T.map tkC),.int .i64 r.at',.int .i64 r.op,.int .i64 r.dl,.int .i64 r.dc,.int .i64 r.de],6):=objAt_some.2 h
theorem q0t {S:q00} {b:Nat} {o:AObj} (h:sget S b=some o):supd S b o=S:=by
 funext c
 unfold supd
 by_cases hc:b=c
 ·subst hc;rw [if_pos rfl];exact h.symm
 ·rw [if_neg hc]
def nxP (T:List Tk) (r:Rd):Tk:=T.getD r.at' default
def q58 (t:Tk) (e:Int) (r:Rd):Rd:=if r.de=0 then { r with dl:=t.line,dc:=t.col,de:=e } else r
def isP (T:List Tk) (s:ByteArray) (r:Rd):Bool:=decide (r.de=0)&&decide ((nxP T r).s=s)
def isR (T:List Tk) (s:ByteArray) (r:Rd):Rd:=if isP T s r then { r with at':=r.at'+1 } else r
def q20 (T:List Tk) (s:ByteArray) (r:Rd):Rd:=if isP T s r then isR T s r else q58 (nxP T r) 8 r
def q2q (T:List Tk) (r:Rd):ByteArray:=if q0q (nxP T r).s=true∧r.de=0 then (nxP T r).s else ⟨#[]⟩
def q0o (T:List Tk) (r:Rd):Rd:=if q0q (nxP T r).s=true∧r.de=0 then { r with at':=r.at'+1 } else q58 (nxP T r) 8 r
structure OkTk (T:List Tk):Prop where
 len:T.length≤5000
 size:∀ t∈T,t.s.size≤1125899906842624
 last:∀ t,T[T.length-1]?=some t→t.s=⟨#[]⟩∨t.s=⟨#[63]⟩
def InR (T:List Tk) (r:Rd):Prop:=r.at'<T.length
theorem nx_get {T:List Tk} {r:Rd} (h:InR T r):T[r.at']?=some (nxP T r):=by
 unfold nxP InR at *
 rw [List.getD_eq_getElem?_getD,List.getElem?_eq_getElem h]
 rfl
theorem c_fail {T:List Tk} {r:Rd} {b:Nat} (t:Tk) (e:Int):AFunR nrx88 b [.agg (tkC t),.int .i64 e] T r (.tup []) (q58 t e r):=by
 intro S h
 have ho:=q8f h
 refine wx88 ?_
 unfold Bx88
 (try simp only [rwp,hwR,zA,zB,zC,zD,zE,zF,zG,zH,zI,tkC,q07 ho])
 (refine q03 (fun h0=>?_) (fun h0=>?_)<;>(try simp only [hlc] at h0))
 ·(try simp only [rwp,hwR,zA,zB,zC,zD,zE,zF,zG,zH,zI,ho])
  exact q2r ⟨rfl,by rw [q58,if_pos h0];rfl⟩
 ·exact q2r ⟨rfl,by rw [q58,if_neg h0,q0t h]⟩
theorem q5r {T:List Tk} {r:Rd} {b:Nat} (hT:OkTk T) (hr:InR T r):AFunR nrx87 b [] T r (.agg (tkC (nxP T r))) r:=by
 intro S h
 have ho:=q8f h
 have hx:=nx_get hr
 refine wx87 ?_
 unfold Bx87
 intro b2 hb2
 have hne:b2≠b:=q0f hb2 h
 (try simp only [rwp,hwR,zA,zB,zC,zD,zE,zF,zG,zH,zI,q07 ho,if_neg hne,hx,tkC])
 refine q17 S (by rw [q33 hb2];exact Sub.refl S) ?_
 (try simp only [rwp,hwR,zA,zB,zC,zD,zE,zF,zG,zH,zI])
 first | exact ⟨rfl,(q0t h).symm⟩ | exact (q0t h).symm
theorem c_is {T:List Tk} {r:Rd} {b:Nat} (hT:OkTk T) (hr:InR T r) (s:ByteArray):AFunR nrx84 b [.str s] T r (.bool (isP T s r)) (isR T s r):=by
 intro S h
 have ho:=q8f h
 have hx:=nx_get hr
 have hl:=hT.len
 have hr':r.at'<T.length:=hr
 refine wx84 ?_
 unfold Bx84
 (try simp only [rwp,hwR,zA,zB,zC,zD,zE,zF,zG,zH,zI,q07 ho])
 cases a1:decide (r.de=0) with
 | false=>
  (try simp only [rwp,hwR,zA,zB,zC,zD,zE,zF,zG,zH,zI,C84_1])
  have hp:isP T s r=false:=by rw [isP,a1];rfl
  exact q02 ⟨by rw [hp],by rw [isR,hp];exact (q0t h).symm⟩
 | true=>
  (try simp only [rwp,hwR,zA,zB,zC,zD,zE,zF,zG,zH,zI,hx,tkC])
  cases a2:decide ((nxP T r).s=s) with
  | false=>
   (try simp only [rwp,hwR,zA,zB,zC,zD,zE,zF,zG,zH,zI,C84_1])
   have hp:isP T s r=false:=by rw [isP,a1,a2];rfl
   exact q02 ⟨by rw [hp],by rw [isR,hp];exact (q0t h).symm⟩
  | true=>
   (try simp only [rwp,hwR,zA,zB,zC,zD,zE,zF,zG,zH,zI,C84_1,q07 ho,ho])
   have hp:isP T s r=true:=by rw [isP,a1,a2];rfl
   (simp (disch:=omega) only [q04])
   exact q02 ⟨by rw [hp],by rw [isR,hp];rfl⟩
theorem AFunR.ca {f b:Nat} {xs:List AV} {T:List Tk} {r r':Rd} {v:AV} (h:AFunR f b xs T r v r') {S:q00} (hS:sget S b=some (rdO T r)) {K Qp:AV→q00→Prop} (hK:K v (supd S b (rdO T r'))):caW PG S (.func (.func f) [] []) (.ptr b 0 :: xs) K Qp:=
 q0b (h S hS) fun ae S' ⟨h1,h2⟩=>by subst h1;subst h2;exact hK
theorem q1c {S:q00} {b:Nat} {T:List Tk} {r:Rd}:sget (supd S b (rdO T r)) b=some (rdO T r):=by rw [q01,if_pos rfl]
theorem q97 {T:List Tk} {s:ByteArray} {r:Rd} (h:isP T s r=false):isR T s r=r:=by rw [isR,h];rfl
theorem c_must {T:List Tk} {r:Rd} {b:Nat} (hT:OkTk T) (hr:InR T r) (s:ByteArray):AFunR nrx130 b [.str s] T r (.tup []) (q20 T s r):=by
 intro S h
 refine wx130 ?_
 unfold Bx130
 refine (c_is hT hr s).ca h ?_
 cases hp:isP T s r with
 | true=>
  (try simp only [rwp,hwR,zA,zB,zC,zD,zE,zF,zG,zH,zI])
  exact q2r ⟨rfl,by rw [q20,hp];rfl⟩
 | false=>
  (try simp only [rwp,hwR,zA,zB,zC,zD,zE,zF,zG,zH,zI])
  have hi:=q97 hp
  rw [hi]
  refine (q5r hT hr).ca q1c ?_
  (try simp only [rwp,hwR,zA,zB,zC,zD,zE,zF,zG,zH,zI,tkC])
  refine (c_fail (nxP T r) 8).ca q1c ?_
  (try simp only [rwp,hwR,zA,zB,zC,zD,zE,zF,zG,zH,zI])
  exact q2r ⟨rfl,by rw [q20,hp];rfl⟩
theorem c_name {T:List Tk} {r:Rd} {b:Nat} (hT:OkTk T) (hr:InR T r):AFunR nrx85 b [] T r (.str (q2q T r)) (q0o T r):=by
 intro S h
 have hx:=nx_get hr
 have hl:=hT.len
 have hr':r.at'<T.length:=hr
 refine wx85 ?_
 unfold Bx85
 refine (q5r hT hr).ca h ?_
 rw [q0t h]
 have ho:=q8f h
 (try simp only [rwp,hwR,zA,zB,zC,zD,zE,zF,zG,zH,zI,tkC])
 refine q05 (q0v (hT.size _ (List.mem_of_getElem? hx))) ?_
 cases hn:q0q (nxP T r).s with
 | false=>
  (try simp only [rwp,hwR,zA,zB,zC,zD,zE,zF,zG,zH,zI,C85_1])
  have hc:¬ (q0q (nxP T r).s=true∧r.de=0):=by rw [hn];simp
  refine (c_fail (nxP T r) 8).ca h ?_
  (try simp only [rwp,hwR,zA,zB,zC,zD,zE,zF,zG,zH,zI])
  exact q02 ⟨by rw [q2q,if_neg hc],by rw [q0o,if_neg hc]⟩
 | true=>
  (try simp only [rwp,hwR,zA,zB,zC,zD,zE,zF,zG,zH,zI,q07 ho])
  cases a1:decide (r.de=0) with
  | false=>
   have hc:¬ (q0q (nxP T r).s=true∧r.de=0):=fun h=>by rw [decide_eq_true h.2] at a1;cases a1
   (try simp only [rwp,hwR,zA,zB,zC,zD,zE,zF,zG,zH,zI,C85_1])
   refine (c_fail (nxP T r) 8).ca h ?_
   (try simp only [rwp,hwR,zA,zB,zC,zD,zE,zF,zG,zH,zI])
   exact q02 ⟨by rw [q2q,if_neg hc],by rw [q0o,if_neg hc]⟩
  | true=>
   have hc:q0q (nxP T r).s=true∧r.de=0:=⟨hn,of_decide_eq_true a1⟩
   (try simp only [rwp,hwR,zA,zB,zC,zD,zE,zF,zG,zH,zI,C85_1,q07 ho,ho])
   (simp (disch:=omega) only [q04])
   exact q02 ⟨by rw [q2q,if_pos hc],by rw [q0o,if_pos hc];rfl⟩
mutual
def hgt:Ex→Nat
 | .mk _ _ _ ks=>hgtL ks+1
def hgtL:List Ex→Nat
 | []=>0
 | e :: r=>max (hgt e) (hgtL r)
end
mutual
theorem hgt_le:∀ e:Ex,hgt e≤esz e
 | .mk _ _ _ ks=>by
  unfold hgt esz
  have:=hgtL_le ks
  omega
theorem hgtL_le:∀ l:List Ex,hgtL l≤eszL l
 | []=>by simp [hgtL]
 | e :: r=>by
  unfold hgtL eszL
  have h1:=hgt_le e
  have h2:=hgtL_le r
  omega
end
theorem c_Height:∀ (e:Ex),OkE e→esz e≤1125899906842624→AFun PG nrx204 [.agg (exC e)] (.int .i64 (hgt e)):=by
 intro e he
 induction he with
 | mk k n o ks hk hn ho hks ih=>
  intro hsz S
  have hle:=hgt_le (.mk k n o ks)
  rw [hgt] at hle
  refine wx204 ?_
  unfold Bx204
  (try simp only [rwp,hwR,zA,zB,zC,zD,zE,zF,zG,zH,zI,q0d,Ex.kind,Ex.name,Ex.over,Ex.kids])
  refine LoopP.introS (fun p:Nat×Nat=>[(1,.rop [.int .i64 k,.str n,.str o,.sl 4 (ks.map exC)]),(3,.int .i64 p.2),(4,.int .i64 p.1)])
   (fun p S'=>S'=S∧p.1≤ks.length∧max p.2 (hgtL (ks.drop p.1))=hgtL ks) (fun p=>ks.length-p.1) (0,0) ⟨rfl,by omega,by simp⟩ rfl ?_
  rintro ⟨i,m⟩ S1 ⟨rfl,hi,hf⟩ q hq
  dsimp only at hi hf
  (try simp only [rwp,hwR,zA,zB,zC,zD,zE,zF,zG,zH,zI,C204_1])
  (refine q03 (fun hlt=>?_) (fun hlt=>?_)<;>(try simp only [hlc] at hlt))
  ·obtain ⟨x,hx⟩:=q0h hlt
   have hkid:=esz_kid (k:=k) (n:=n) (o:=o) (List.mem_of_getElem? hx)
   rw [q0e hx,hgtL] at hf
   (try simp only [rwp,hwR,zA,zB,zC,zD,zE,zF,zG,zH,zI,hx])
   refine q05 (ih x (List.mem_of_getElem? hx) (by omega)) ?_
   (try simp only [rwp,hwR,zA,zB,zC,zD,zE,zF,zG,zH,zI])
   (refine q03 (fun hc=>?_) (fun hc=>?_)<;>(try simp only [hlc] at hc))
   ·(simp (disch:=omega) only [q04])
    exact q08 rfl (hq (i+1,hgt x) _ ⟨rfl,by dsimp only;omega,by dsimp only;omega⟩ (by dsimp only;omega))
   ·(simp (disch:=omega) only [q04])
    exact q08 rfl (hq (i+1,m) _ ⟨rfl,by dsimp only;omega,by dsimp only;omega⟩ (by dsimp only;omega))
  ·rw [q0u hlt,hgtL] at hf
   have:m=hgtL ks:=by omega
   subst this
   (simp (disch:=omega) only [q04])
   exact q02 ⟨by rw [hgt];rfl,rfl⟩
def twoE (k:Int) (a c:Ex):Ex:=.mk k ⟨#[]⟩ ⟨#[]⟩ [a,c]
def twoR (k:Int) (t:Tk) (a c:Ex) (r:Rd):Rd:=if r.de=0∧12<hgt (twoE k a c) then q58 t 9 r else r
theorem twoE_ok {k:Int} {a c:Ex} (ha:OkE a) (hc:OkE c):OkE (twoE k a c):=.mk k _ _ _ (by simp) (by decide) (by decide) fun e he=>by
 simp at he
 rcases he with rfl | rfl<;>assumption
theorem twoE_sz {k:Int} {a c:Ex}:esz (twoE k a c)=esz a+esz c+1:=by simp [twoE,esz,eszL];omega
theorem c_two {T:List Tk} {r:Rd} {b:Nat} (k:Int) (t:Tk) {a c:Ex} (ha:OkE a) (hc:OkE c) (hsz:r.de=0→esz a+esz c+1≤1125899906842624):AFunR nrx172 b [.int .i64 k,.agg (tkC t),.agg (exC a),.agg (exC c)] T r (.agg (exC (twoE k a c))) (twoR k t a c r):=by
 intro S h
 have ho:=q8f h
 refine wx172 ?_
 unfold Bx172
 (try simp only [rwp,hwR,zA,zB,zC,zD,zE,zF,zG,zH,zI,tkC,q0d])
 intro b2 hb2
 have hne:b2≠b:=q0f hb2 h
 (try simp only [rwp,hwR,zA,zB,zC,zD,zE,zF,zG,zH,zI,q07 ho,if_neg hne,q1e])
 have h2:∀ r2,sget (supd (supd S b2 (.cells 51 [.int .i64 0,.str ⟨#[]⟩,.str ⟨#[]⟩,.nils] 4)) b (rdO T r2)) b=some (rdO T r2):=fun r2=>q1c
 have hS0:sget (supd S b2 (.cells 51 [.int .i64 0,.str ⟨#[]⟩,.str ⟨#[]⟩,.nils] 4)) b=some (rdO T r):=by rw [q01,if_neg hne];exact h
 have fin:∀ S2 r',q0j S2 b2=some (51,[.int .i64 0,.str ⟨#[]⟩,.str ⟨#[]⟩,.nils],4)→(∀ x,b2≠x→sget S2 x=sget (supd S b (rdO T r')) x)→r'=twoR k t a c r →
   C172_2 (fun ae S'=>ae=.ret (.agg (exC (twoE k a c)))∧S'=supd S b (rdO T (twoR k t a c r))) (.ptr b2 0) (.rop [.int .i64 k,.str ⟨#[]⟩,.str ⟨#[]⟩,.sl 4 [exC a,exC c]]) S2:=by
  intro S2 r' hob hS2 hr'
  unfold C172_2
  have hb2':sget (supd S b (rdO T r')) b2=none:=by rw [q01,if_neg (Ne.symm hne)];exact hb2
  have hsub:Sub (supd S b (rdO T r')) (sdel (supd S2 b2 (.cells 51 [.int .i64 k,.str ⟨#[]⟩,.str ⟨#[]⟩,.sl 4 [exC a,exC c]] 4)) b2):=by
   intro x o hx
   have hxb:b2≠x:=by rintro rfl;rw [hb2'] at hx;cases hx
   rw [q0a,if_neg hxb,q01,if_neg hxb]
   rw [hS2 x hxb];exact hx
  simp only [q0d] at hsub
  (try simp only [rwp,hwR,zA,zB,zC,zD,zE,zF,zG,zH,zI,hob,q0d,q1e])
  refine q17 _ hsub ?_
  (try simp only [rwp,hwR,zA,zB,zC,zD,zE,zF,zG,zH,zI])
  refine ⟨?_,by rw [hr']⟩
  simp only [twoE,Ex.kind,Ex.name,Ex.over,Ex.kids,List.map_cons,List.map_nil,q0d]
 simp only [q0d] at fin
 cases a1:decide (r.de=0) with
 | false=>
  (try simp only [rwp,hwR,zA,zB,zC,zD,zE,zF,zG,zH,zI,C172_1])
  refine fin _ r q0m (fun x hx=>by rw [q01,if_neg hx,q0t h]) ?_
  rw [twoR,if_neg (fun h=>by rw [decide_eq_true h.1] at a1;cases a1)]
 | true=>
  have hde:=of_decide_eq_true a1
  (try simp only [rwp,hwR,zA,zB,zC,zD,zE,zF,zG,zH,zI])
  have hH:=c_Height (twoE k a c) (twoE_ok ha hc) (by rw [twoE_sz];exact hsz hde)
  simp only [twoE,q0d,Ex.kind,Ex.name,Ex.over,Ex.kids,List.map_cons,List.map_nil] at hH
  refine q05 hH ?_
  (try simp only [rwp,hwR,zA,zB,zC,zD,zE,zF,zG,zH,zI,C172_1])
  (refine q03 (fun hg=>?_) (fun hg=>?_)<;>(try simp only [hlc] at hg))
  ·refine (c_fail t 9).ca hS0 ?_
   refine fin _ (q58 t 9 r) (by rw [q0n (Ne.symm hne)];exact q0m) (fun x hx=>?_) ?_
   ·rw [q01,q01,q01,if_neg hx]
   ·rw [twoR,if_pos ⟨hde,by simp only [twoE];omega⟩]
  ·refine fin _ r q0m (fun x hx=>by rw [q01,if_neg hx,q0t h]) ?_
   rw [twoR,if_neg (fun h=>by have:=h.2;simp only [twoE] at this;omega)]
def zeroE:Ex:=.mk 0 ⟨#[]⟩ ⟨#[]⟩ []
def sLP:ByteArray:=⟨#[40]⟩
def sRP:ByteArray:=⟨#[41]⟩
def sDot:ByteArray:=⟨#[46]⟩
def q2f (T:List Tk) (ex:Rd→Ex×Rd) (r:Rd):Ex×Rd:=
 if isP T sLP r then
  (if 12<r.op+1 then (zeroE,q58 (nxP T r) 9 { isR T sLP r with op:=r.op+1 })
  else ((ex { isR T sLP r with op:=r.op+1 }).1,{ q20 T sRP (ex { isR T sLP r with op:=r.op+1 }).2 with op:=(q20 T sRP (ex { isR T sLP r with op:=r.op+1 }).2).op-1 }))
 else if isP T sDot (q0o T r) then (.mk 1 (q2q T r) (q2q T (isR T sDot (q0o T r))) [],q0o T (isR T sDot (q0o T r)))
 else (.mk 0 (q2q T r) ⟨#[]⟩ [],q0o T r)
def opL (T:List Tk) (tk:ByteArray→Option Int) (sub:Rd→Ex×Rd):Nat→Ex×Rd→Ex×Rd
 | 0,p=>p
 | f+1,(e,r)=>if r.de=0 then (match tk (nxP T r).s with
   | some k=>opL T tk sub f (twoE k e (sub { r with at':=r.at'+1 }).1,twoR k (nxP T r) e (sub { r with at':=r.at'+1 }).1 (sub { r with at':=r.at'+1 }).2)
   | none=>(e,r)) else (e,r)
def termK (s:ByteArray):Option Int:=if s=⟨#[38]⟩ then some 3 else none
def q9k (s:ByteArray):Option Int:=if s=⟨#[43]⟩ then some 2 else if s=⟨#[45]⟩ then some 4 else none
def q2y (T:List Tk) (ex:Rd→Ex×Rd) (r:Rd):Ex×Rd:=opL T termK (q2f T ex) T.length (q2f T ex r)
def q55 (T:List Tk) (ex:Rd→Ex×Rd) (r:Rd):Ex×Rd:=opL T q9k (q2y T ex) T.length (q2y T ex r)
def exprP (T:List Tk):Nat→Rd→Ex×Rd
 | 0=>q55 T fun r=>(zeroE,r)
 | n+1=>q55 T (exprP T n)
structure Pre (T:List Tk) (n:Nat) (r:Rd):Prop where
 inr:InR T r
 op0:0≤r.op
 op13:r.op≤13
 ok:r.de=0→r.op≤12∧12≤r.op+n
structure StepR (T:List Tk) (r r':Rd) (w:Nat):Prop where
 inr:InR T r'
 mono:r.at'≤r'.at'
 fault:r'.de=0→r.de=0
 op1:r.op≤r'.op
 op2:r'.op≤13
 op:r'.de=0→r'.op=r.op
 sz:r'.de=0→w+r.at'≤r'.at'
theorem StepR.pre {T:List Tk} {r r':Rd} {n w:Nat} (h:StepR T r r' w) (hp:Pre T n r):Pre T n r':=
 ⟨h.inr,by have:=hp.op0;have:=h.op1;omega,h.op2,fun h0=>by have h1:=h.op h0;rw [h1];exact hp.ok (h.fault h0)⟩
theorem StepR.trans {T:List Tk} {r r1 r2:Rd} {w1 w2:Nat} (h:StepR T r r1 w1) (k:StepR T r1 r2 w2):StepR T r r2 (w1+w2):=
 ⟨k.inr,Nat.le_trans h.mono k.mono,fun h0=>h.fault (k.fault h0),by have:=h.op1;have:=k.op1;omega,k.op2,fun h0=>(k.op h0).trans (h.op (k.fault h0)),fun h0=>by have:=h.sz (k.fault h0);have:=k.sz h0;omega⟩
theorem StepR.le {T:List Tk} {r r1:Rd} {w w':Nat} (h:StepR T r r1 w) (hw:w'≤w):StepR T r r1 w':=
 ⟨h.inr,h.mono,h.fault,h.op1,h.op2,h.op,fun h0=>by have:=h.sz h0;omega⟩
theorem StepR.refl {T:List Tk} {r:Rd} {n:Nat} (hp:Pre T n r):StepR T r r 0:=⟨hp.inr,Nat.le_refl _,id,Int.le_refl _,hp.op13,fun _=>rfl,fun _=>by omega⟩
theorem more_in {T:List Tk} (hT:OkTk T) {r:Rd} (hr:InR T r) (h1:(nxP T r).s≠⟨#[]⟩) (h2:(nxP T r).s≠⟨#[63]⟩):r.at'+1<T.length:=by
 have hx:=nx_get hr
 unfold InR at hr
 rcases Nat.lt_or_ge (r.at'+1) T.length with h | h
 ·exact h
 ·have e:T.length-1=r.at':=by omega
  have:=hT.last (nxP T r) (by rw [e];exact hx)
  rcases this with h3 | h3
  ·exact absurd h3 h1
  ·exact absurd h3 h2
theorem adv {T:List Tk} (hT:OkTk T) {r:Rd} {n:Nat} (hp:Pre T n r) (h1:(nxP T r).s≠⟨#[]⟩) (h2:(nxP T r).s≠⟨#[63]⟩):StepR T r { r with at':=r.at'+1 } 1:=
 ⟨more_in hT hp.inr h1 h2,Nat.le_succ _,id,Int.le_refl _,hp.op13,fun _=>rfl,fun _=>by dsimp only;omega⟩
theorem fail_any {T:List Tk} {r r1:Rd} (t:Tk) {e:Int} (he:e≠0) (w':Nat) (h1:InR T r1) (h2:r.at'≤r1.at') (h3:r.op≤r1.op) (h4:r1.op≤13):StepR T r (q58 t e r1) w':=by
 have hne:¬ (q58 t e r1).de=0:=by
  unfold q58
  split
  ·exact he
  ·assumption
 have e1:(q58 t e r1).at'=r1.at':=by unfold q58;split<;>rfl
 have e2:(q58 t e r1).op=r1.op:=by unfold q58;split<;>rfl
 exact ⟨by unfold InR;rw [e1];exact h1,by rw [e1];exact h2,fun h0=>absurd h0 hne,by rw [e2];exact h3,by rw [e2];exact h4,fun h0=>absurd h0 hne,fun h0=>absurd h0 hne⟩
theorem q7o {T:List Tk} {r r1:Rd} {w:Nat} (t:Tk) {e:Int} (he:e≠0) (w':Nat) (h:StepR T r r1 w):StepR T r (q58 t e r1) w':=fail_any t he w' h.inr h.mono h.op1 h.op2
theorem is_true {T:List Tk} {s:ByteArray} {r:Rd} (h:isP T s r=true):r.de=0∧(nxP T r).s=s:=by
 unfold isP at h
 simpa using h
theorem q2m {T:List Tk} (hT:OkTk T) {s:ByteArray} {r:Rd} {n:Nat} (hp:Pre T n r) (h:isP T s r=true) (h1:s≠⟨#[]⟩) (h2:s≠⟨#[63]⟩):StepR T r (isR T s r) 1:=by
 obtain ⟨-,h4⟩:=is_true h
 rw [isR,if_pos h]
 exact adv hT hp (by rw [h4];exact h1) (by rw [h4];exact h2)
theorem q4i {T:List Tk} (hT:OkTk T) {s:ByteArray} {r:Rd} {n:Nat} (hp:Pre T n r) (h1:s≠⟨#[]⟩) (h2:s≠⟨#[63]⟩):StepR T r (q20 T s r) 1:=by
 unfold q20
 cases h:isP T s r with
 | true=>rw [if_pos rfl];exact q2m hT hp h h1 h2
 | false=>rw [if_neg (by simp)];exact q7o _ (by decide) 1 (StepR.refl hp)
theorem name_some {s:ByteArray} (h:q0q s=true):s≠⟨#[]⟩∧s≠⟨#[63]⟩:=by
 constructor
 ·rintro rfl
  revert h
  decide +kernel
 ·rintro rfl
  revert h
  decide +kernel
theorem q1z {T:List Tk} (hT:OkTk T) {r:Rd} {n:Nat} (hp:Pre T n r):StepR T r (q0o T r) 1:=by
 unfold q0o
 split
 ·rename_i h
  obtain ⟨h1,h2⟩:=name_some h.1
  exact adv hT hp h1 h2
 ·exact q7o _ (by decide) 1 (StepR.refl hp)
theorem q2s {T:List Tk} (hT:OkTk T) {r:Rd} (hr:InR T r):(q2q T r).size≤1125899906842624:=by
 unfold q2q
 split
 ·exact hT.size _ (List.mem_of_getElem? (nx_get hr))
 ·exact Nat.zero_le _
theorem q46 {T:List Tk} {r r1:Rd} {w:Nat} (k:Int) (t:Tk) (a c:Ex) (h:StepR T r r1 w):StepR T r (twoR k t a c r1) w:=by
 unfold twoR
 split
 ·exact q7o _ (by decide) w h
 ·exact h
structure ExSt (T:List Tk) (r:Rd) (p:Ex×Rd):Prop where
 st:StepR T r p.2 (esz p.1)
 ok:OkE p.1
theorem q7b {k:Int} {n o:ByteArray} (hn:n.size≤1125899906842624) (ho:o.size≤1125899906842624):OkE (.mk k n o []):=.mk k n o [] (by simp) hn ho fun e he=>by (cases he)
theorem esz_leaf {k:Int} {n o:ByteArray}:esz (.mk k n o [])=1:=by simp [esz,eszL]
def Inner (T:List Tk) (n:Nat) (ex:Rd→Ex×Rd):Prop:=∀ m,n=m+1→∀ r,Pre T m r→ExSt T r (ex r)
theorem lp_pre {T:List Tk} (hT:OkTk T) {n:Nat} {r:Rd} (hp:Pre T n r) (h:isP T sLP r=true) (h12:¬ 12<r.op+1):∃ m,n=m+1∧Pre T m { isR T sLP r with op:=r.op+1 }:=by
 obtain ⟨h1,h2⟩:=is_true h
 obtain ⟨k1,k2⟩:=hp.ok h1
 have hs:=q2m hT hp h (by decide +kernel) (by decide +kernel)
 refine ⟨n-1,by omega,hs.inr,?_,?_,fun _=>?_⟩
 ·have:=hp.op0;dsimp only;omega
 ·dsimp only;omega
 ·dsimp only;omega
theorem atom_ok {T:List Tk} (hT:OkTk T) {n:Nat} {ex:Rd→Ex×Rd} (hex:Inner T n ex) {r:Rd} (hp:Pre T n r):ExSt T r (q2f T ex r):=by
 unfold q2f
 split
 ·rename_i h
  have hs:=q2m hT hp h (by decide +kernel) (by decide +kernel)
  obtain ⟨h1,h2⟩:=is_true h
  split
  ·rename_i h12
   have h5:r.op=12:=by have:=(hp.ok h1).1;omega
   refine ⟨?_,q7b (Nat.zero_le _) (Nat.zero_le _)⟩
   exact fail_any _ (by decide) _ hs.inr hs.mono (by dsimp only;omega) (by dsimp only;omega)
  ·rename_i h12
   obtain ⟨m,hm,hp2⟩:=lp_pre hT hp h h12
   have he:=hex m hm _ hp2
   generalize ex { isR T sLP r with op:=r.op+1 }=q at he
   obtain ⟨e,r3⟩:=q
   have hp3:=he.st.pre hp2
   have hm2:=q4i hT hp3 (s:=sRP) (by decide +kernel) (by decide +kernel)
   have h6:=he.st.trans hm2
   dsimp only at h6 ⊢
   refine ⟨⟨h6.inr,?_,fun h0=>?_,?_,?_,fun h0=>?_,fun h0=>?_⟩,he.ok⟩
   ·have:=hs.mono;have:=h6.mono;dsimp only at *;omega
   ·exact hs.fault (h6.fault h0)
   ·have:=h6.op1;dsimp only at *;omega
   ·have:=h6.op2;dsimp only at *;omega
   ·have:=h6.op h0;dsimp only at *;omega
   ·have h7:=h6.sz h0
    have h8:=hs.mono
    dsimp only at *;omega
 ·have hn:=q1z hT hp
  have hpn:=hn.pre hp
  split
  ·rename_i h
   have h1:=q2m hT hpn h (by decide +kernel) (by decide +kernel)
   have hp1:=h1.pre hpn
   have h2:=q1z hT hp1
   refine ⟨?_,q7b (q2s hT hp.inr) (q2s hT hp1.inr)⟩
   rw [esz_leaf]
   exact ((hn.trans h1).trans h2).le (by omega)
  ·refine ⟨?_,q7b (q2s hT hp.inr) (Nat.zero_le _)⟩
   rw [esz_leaf]
   exact hn
def Signs (tk:ByteArray→Option Int):Prop:=tk ⟨#[]⟩=none∧tk ⟨#[63]⟩=none
theorem opL_ok {T:List Tk} (hT:OkTk T) {n:Nat} {tk:ByteArray→Option Int} (htk:Signs tk) {sub:Rd→Ex×Rd} (hsub:∀ r,Pre T n r→ExSt T r (sub r)) {r0:Rd} (hp0:Pre T n r0):∀ {f:Nat} {p:Ex×Rd},ExSt T r0 p→ExSt T r0 (opL T tk sub f p)
 | 0,p,h=>h
 | f+1,(e,r),h=>by
  unfold opL
  split
  ·rename_i h0
   split
   ·rename_i k hk
    have hp:=h.st.pre hp0
    have ha:=adv hT hp (fun h1=>by rw [h1,htk.1] at hk;cases hk) (fun h1=>by rw [h1,htk.2] at hk;cases hk)
    have hs:=hsub _ (ha.pre hp)
    refine opL_ok hT htk hsub hp0 ⟨q46 _ _ _ _ ?_,twoE_ok h.ok hs.ok⟩
    have hst:=h.st
    have hss:=hs.st
    dsimp only at hst ha hss ⊢
    rw [twoE_sz]
    exact ((hst.trans ha).trans hss).le (by omega)
   ·exact h
  ·exact h
theorem signs_term:Signs termK:=⟨by decide +kernel,by decide +kernel⟩
theorem signs_expr:Signs q9k:=⟨by decide +kernel,by decide +kernel⟩
theorem term_ok {T:List Tk} (hT:OkTk T) {n:Nat} {ex:Rd→Ex×Rd} (hex:Inner T n ex) {r:Rd} (hp:Pre T n r):ExSt T r (q2y T ex r):=opL_ok hT signs_term (fun _ h=>atom_ok hT hex h) hp (atom_ok hT hex hp)
theorem exprOf_ok {T:List Tk} (hT:OkTk T) {n:Nat} {ex:Rd→Ex×Rd} (hex:Inner T n ex) {r:Rd} (hp:Pre T n r):ExSt T r (q55 T ex r):=opL_ok hT signs_expr (fun _ h=>term_ok hT hex h) hp (term_ok hT hex hp)
theorem expr_ok {T:List Tk} (hT:OkTk T):∀ {n:Nat} {r:Rd},Pre T n r→ExSt T r (exprP T n r)
 | 0,r,hp=>exprOf_ok hT (fun m h=>by omega) hp
 | n+1,r,hp=>exprOf_ok hT (fun m h r hr=>by
  have:n=m:=by omega
  subst this
  exact expr_ok hT hr) hp
set_option maxRecDepth 4000
theorem sub_both {S S1:q00} (h:Sub S S1) (b:Nat) (o:AObj):Sub (supd S b o) (supd S1 b o):=by
 intro x y hx
 rw [q01] at hx ⊢
 split
 ·rename_i hb;rw [if_pos hb] at hx;exact hx
 ·rename_i hb;rw [if_neg hb] at hx;exact h x y hx
theorem sub_cell {S:q00} {b b2:Nat} {o x y:AObj} (hb2:sget S b2=none) (hne:b2≠b):Sub (supd S b o) (supd (supd (supd S b2 x) b o) b2 y):=
 Sub.supd (by rw [q01,if_neg (Ne.symm hne)];exact hb2) (sub_both (Sub.fresh x hb2) b o)
theorem rd_lit {T:List Tk} {a:Nat} {o x y z:Int}:(AObj.cells 145 [.sl 3 (T.map tkC),.int .i64 a,.int .i64 o,.int .i64 x,.int .i64 y,.int .i64 z] 6)=rdO T ⟨a,o,x,y,z⟩:=rfl
abbrev c41:AObj:=.cells 51 [.int .i64 0,.str ⟨#[]⟩,.str ⟨#[]⟩,.nils] 4
def InnerW (T:List Tk) (n b:Nat) (ex:Rd→Ex×Rd):Prop:=∀ m,n=m+1→∀ r,Pre T m r→AFunR nrx132 b [] T r (.agg (exC (ex r).1)) (ex r).2
theorem c_atom {T:List Tk} (hT:OkTk T) {n b:Nat} {ex:Rd→Ex×Rd} (hex:Inner T n ex) (hexW:InnerW T n b ex) {r:Rd} (hp:Pre T n r):AFunR nrx203 b [] T r (.agg (exC (q2f T ex r).1)) (q2f T ex r).2:=by
 intro S h
 have hl:=hT.len
 have hr':r.at'<T.length:=hp.inr
 have h0:=hp.op0
 have h13:=hp.op13
 refine wx203 ?_
 unfold Bx203
 intro b2 hb2
 have hne:b2≠b:=q0f hb2 h
 have hS0:sget (supd S b2 c41) b=some (rdO T r):=by rw [q01,if_neg hne];exact h
 refine (q5r hT hp.inr).ca hS0 ?_
 rw [q0t hS0]
 (try simp only [rwp,hwR,zA,zB,zC,zD,zE,zF,zG,zH,zI,tkC])
 refine (c_is hT hp.inr sLP).ca hS0 ?_
 have fin:∀ (k:Int) (s o:ByteArray) (v:AV) (e:Ex) (r':Rd),e=.mk k s o e.kids→q2f T ex r=(e,r')→(v=.nils∧e.kids=[]∨v=.sl 4 (e.kids.map exC)) →
   rtW [.cell (.ptr b2 0) 4 true] (fun ae S'=>ae=.ret (.agg (exC (q2f T ex r).1))∧S'=supd S b (rdO T (q2f T ex r).2)) (supd (supd (supd S b2 c41) b (rdO T r')) b2 (.cells 51 [.int .i64 k,.str s,.str o,v] 4)):=by
  intro k s o v e r' he0 he hv
  rw [he]
  refine q5e (supd S b (rdO T r')) (.agg (exC e)) (sub_cell hb2 hne) ?_ ⟨rfl,rfl⟩
  rw [he0,q0d]
  (try simp only [rwp,hwR,zA,zB,zC,zD,zE,zF,zG,zH,zI])
  refine .ag (.cons (.same _) (.cons (.same _) (.cons (.same _) (.cons ?_ .nil))))
  rcases hv with ⟨rfl,h2⟩ | rfl
  ·rw [Ex.kids,h2];exact .nils 4
  ·exact .same _
 have hob:∀ o,q0j (supd (supd S b2 c41) b o) b2=some (51,[.int .i64 0,.str ⟨#[]⟩,.str ⟨#[]⟩,.nils],4):=fun o=>by rw [q0n (Ne.symm hne)];exact q0m
 cases hi:isP T sLP r with
 | true=>
  have hs:=q2m hT hp hi (by decide +kernel) (by decide +kernel)
  have hir:isR T sLP r={ r with at':=r.at'+1 }:=by rw [isR,if_pos hi]
  (try simp only [rwp,hwR,zA,zB,zC,zD,zE,zF,zG,zH,zI,q07 (q8f q1c),q8f q1c,hir])
  rw [q04 (by omega) (by omega)]
  simp only [rd_lit]
  (refine q03 (fun h12=>?_) (fun h12=>?_)<;>(try simp only [hlc] at h12))
  ·refine (c_fail (nxP T r) 9).ca q1c ?_
   (try simp only [rwp,hwR,zA,zB,zC,zD,zE,zF,zG,zH,zI,hob])
   refine fin 0 _ _ _ zeroE _ rfl ?_ (.inl ⟨rfl,rfl⟩)
   rw [q2f,if_pos hi,if_pos h12,hir]
  ·obtain ⟨m,hm,hp2⟩:=lp_pre hT hp hi h12
   have he:=hex m hm _ hp2
   rw [hir] at hp2 he
   refine (hexW m hm _ hp2).ca q1c ?_
   have hat:q2f T ex r=((ex { r with at':=r.at'+1,op:=r.op+1 }).1,{ q20 T sRP (ex { r with at':=r.at'+1,op:=r.op+1 }).2 with op:=(q20 T sRP (ex { r with at':=r.at'+1,op:=r.op+1 }).2).op-1 }):=by
    rw [q2f,if_pos hi,if_neg h12,hir]
   generalize ex { r with at':=r.at'+1,op:=r.op+1 }=q at he hat
   obtain ⟨e,r3⟩:=q
   have hp3:=he.st.pre hp2
   have hm2:=q4i hT hp3 (s:=sRP) (by decide +kernel) (by decide +kernel)
   have hp4:=hm2.pre hp3
   have o1:=hp4.op0
   have o2:=hp4.op13
   dsimp only at o1 o2
   (try simp only [rwp,hwR,zA,zB,zC,zD,zE,zF,zG,zH,zI,q0d])
   refine (c_must hT hp3.inr sRP).ca q1c ?_
   (try simp only [rwp,hwR,zA,zB,zC,zD,zE,zF,zG,zH,zI,q07 (q8f q1c),q8f q1c])
   rw [q04 (by omega) (by omega)]
   simp only [rd_lit]
   (try simp only [rwp,hwR,zA,zB,zC,zD,zE,zF,zG,zH,zI,hob,if_neg (Ne.symm hne)])
   have hf:=fin e.kind e.name e.over _ e _ (by cases e;rfl) hat (.inr rfl)
   simp only [q0d] at hf
   exact hf
 | false=>
  rw [q97 hi]
  have hn:=q1z hT hp
  have hpn:=hn.pre hp
  (try simp only [rwp,hwR,zA,zB,zC,zD,zE,zF,zG,zH,zI])
  refine (c_name hT hp.inr).ca q1c ?_
  (try simp only [rwp,hwR,zA,zB,zC,zD,zE,zF,zG,zH,zI])
  refine (c_is hT hpn.inr sDot).ca q1c ?_
  cases hd:isP T sDot (q0o T r) with
  | true=>
   have h1:=q2m hT hpn hd (by decide +kernel) (by decide +kernel)
   have hp1:=h1.pre hpn
   (try simp only [rwp,hwR,zA,zB,zC,zD,zE,zF,zG,zH,zI])
   refine (c_name hT hp1.inr).ca q1c ?_
   (try simp only [rwp,hwR,zA,zB,zC,zD,zE,zF,zG,zH,zI,hob])
   refine fin _ _ _ _ (.mk 1 (q2q T r) (q2q T (isR T sDot (q0o T r))) []) _ rfl ?_ (.inl ⟨rfl,rfl⟩)
   rw [q2f,if_neg (by rw [hi];simp),if_pos hd]
  | false=>
   rw [q97 hd]
   (try simp only [rwp,hwR,zA,zB,zC,zD,zE,zF,zG,zH,zI,hob])
   refine fin _ _ _ _ (.mk 0 (q2q T r) ⟨#[]⟩ []) _ rfl ?_ (.inl ⟨rfl,rfl⟩)
   rw [q2f,if_neg (by rw [hi];simp),if_neg (by rw [hd];simp)]
theorem opL_stop {T:List Tk} {tk:ByteArray→Option Int} {sub:Rd→Ex×Rd} {f:Nat} {p:Ex×Rd} (h:¬ (p.2.de=0∧(tk (nxP T p.2).s).isSome=true)):opL T tk sub f p=p:=by
 cases f with
 | zero=>rfl
 | succ f=>
  obtain ⟨e,r⟩:=p
  unfold opL
  split
  ·rename_i h0
   split
   ·rename_i k hk
    exact absurd ⟨h0,by rw [hk];rfl⟩ h
   ·rfl
  ·rfl
theorem opL_more {T:List Tk} (hT:OkTk T) {n:Nat} {tk:ByteArray→Option Int} (htk:Signs tk) {sub:Rd→Ex×Rd} (hsub:∀ r,Pre T n r→ExSt T r (sub r)):∀ {f g:Nat} {p:Ex×Rd},Pre T n p.2→T.length≤f+p.2.at'→T.length≤g+p.2.at'→opL T tk sub f p=opL T tk sub g p
 | 0,g,p,hp,h1,h2=>by have h3:p.2.at'<T.length:=hp.inr;omega
 | f+1,0,p,hp,h1,h2=>by have h3:p.2.at'<T.length:=hp.inr;omega
 | f+1,g+1,(e,r),hp,h1,h2=>by
  dsimp only at h1 h2
  unfold opL
  split
  ·rename_i h0
   split
   ·rename_i k hk
    have ha:=adv hT hp (fun h1=>by rw [h1,htk.1] at hk;cases hk) (fun h1=>by rw [h1,htk.2] at hk;cases hk)
    have hs:=hsub _ (ha.pre hp)
    have h5:=q46 k (nxP T r) e (sub { r with at':=r.at'+1 }).1 hs.st
    have h6:=h5.mono
    dsimp only at h6 hp
    exact opL_more hT htk hsub (h5.pre (ha.pre hp)) (by dsimp only;omega) (by dsimp only;omega)
   ·rfl
  ·rfl
structure TrI (S:q00) (b b2 b3:Nat) (T:List Tk) (p:Ex×Rd) (S':q00):Prop where
 rd:sget S' b=some (rdO T p.2)
 c3:sget S' b3=some (.cells 51 (exC p.1) 4)
 c2:sget S' b2=some c41
 oth:∀ x,b≠x→b3≠x→b2≠x→sget S' x=sget S x
theorem TrI.step {S S':q00} {b b2 b3:Nat} {T:List Tk} {p:Ex×Rd} (h:TrI S b b2 b3 T p S') (n1:b2≠b) (n2:b3≠b) (n3:b3≠b2) (e:Ex) (r':Rd):TrI S b b2 b3 T (e,r') (supd (supd S' b (rdO T r')) b3 (.cells 51 (exC e) 4)):=
 ⟨by rw [q01,if_neg n2,q01,if_pos rfl],by rw [q01,if_pos rfl],by rw [q01,if_neg n3,q01,if_neg (Ne.symm n1)];exact h.c2,fun x h1 h2 h3=>by rw [q01,if_neg h2,q01,if_neg h1];exact h.oth x h1 h2 h3⟩
theorem TrI.sub {S S':q00} {b b2 b3:Nat} {T:List Tk} {p:Ex×Rd} (h:TrI S b b2 b3 T p S') (n1:b2≠b) (n2:b3≠b) (n3:b3≠b2) (k2:sget S b2=none) (k3:sget S b3=none) (o:AObj):Sub (supd S b (rdO T p.2)) (sdel (supd S' b2 o) b2):=by
 intro x y hx
 have h2:b2≠x:=by
  rintro rfl
  rw [q01,if_neg (Ne.symm n1),k2] at hx;cases hx
 have h3:b3≠x:=by
  rintro rfl
  rw [q01,if_neg (Ne.symm n2),k3] at hx;cases hx
 rw [q0a,if_neg h2,q01,if_neg h2]
 rw [q01] at hx
 by_cases hb:b=x
 ·subst hb;rw [if_pos rfl] at hx;rw [h.rd];exact hx
 ·rw [if_neg hb] at hx;rw [h.oth x hb h3 h2];exact hx
theorem c_term {T:List Tk} (hT:OkTk T) {n b:Nat} {ex:Rd→Ex×Rd} (hex:Inner T n ex) (hexW:InnerW T n b ex) {r:Rd} (hp:Pre T n r):AFunR nrx171 b [] T r (.agg (exC (q2y T ex r).1)) (q2y T ex r).2:=by
 intro S h
 have hl:=hT.len
 refine wx171 ?_
 unfold Bx171
 intro b2 hb2
 have n1:b2≠b:=q0f hb2 h
 have hS0:sget (supd S b2 c41) b=some (rdO T r):=by rw [q01,if_neg n1];exact h
 (try simp only [rwp,hwR,zA,zB,zC,zD,zE,zF,zG,zH,zI])
 refine (c_atom hT hex hexW hp).ca hS0 ?_
 intro b3 hb3
 have n2:b3≠b:=q0f hb3 q1c
 have n3:b3≠b2:=q0f hb3 (x:=c41) (by rw [q01,if_neg (Ne.symm n1),q01,if_pos rfl])
 have k3:sget S b3=none:=by rw [q01,if_neg (Ne.symm n2),q01,if_neg (Ne.symm n3)] at hb3;exact hb3
 have hI0:TrI S b b2 b3 T (q2f T ex r) (supd (supd (supd S b2 c41) b (rdO T (q2f T ex r).2)) b3 (.cells 51 (exC (q2f T ex r).1) 4)):=
  ⟨by rw [q01,if_neg n2,q01,if_pos rfl],by rw [q01,if_pos rfl],by rw [q01,if_neg n3,q01,if_neg (Ne.symm n1),q01,if_pos rfl],fun x h1 h2 h3=>by rw [q01,if_neg h2,q01,if_neg h1,q01,if_neg h3]⟩
 have hat:=atom_ok hT hex hp
 have hfin:opL T termK (q2f T ex) T.length (q2f T ex r)=q2y T ex r:=rfl
 simp only [q0d] at hI0
 (try simp only [rwp,hwR,zA,zB,zC,zD,zE,zF,zG,zH,zI,q0d,q1e])
 rw [← q0d]
 simp only [← q0d] at hI0
 generalize q2f T ex r=p0 at hI0 hat hfin
 refine LoopP.introS (fun _:Ex×Rd=>[(0,.ptr b 0),(2,.ptr b2 0),(3,.ptr b3 0)])
  (fun p S'=>TrI S b b2 b3 T p S'∧ExSt T r p∧opL T termK (q2f T ex) T.length p=q2y T ex r) (fun p=>T.length-p.2.at') p0 ⟨by simpa only [q0d] using hI0,hat,hfin⟩ rfl ?_
 clear hI0 hat hfin
 rintro ⟨e,r1⟩ S1 ⟨hI,hE,hf⟩ q hq
 have hp1:=hE.st.pre hp
 have hin:r1.at'<T.length:=hp1.inr
 have ho:=q8f hI.rd
 (try simp only [rwp,hwR,zA,zB,zC,zD,zE,zF,zG,zH,zI,C171_1,q07 ho])
 have stop:¬ (r1.de=0∧(termK (nxP T r1).s).isSome=true)→C171_2 (fun ae S'=>ae=.ret (.agg (exC (q2y T ex r).1))∧S'=supd S b (rdO T (q2y T ex r).2)) q (.ptr b 0) (.ptr b2 0) (.ptr b3 0) (.bool false) S1:=fun hn=>by
  rw [opL_stop hn] at hf
  rw [← hf]
  unfold C171_2
  have hsub:=hI.sub n1 n2 n3 hb2 k3
  have hc3:=objAt_some.2 hI.c3
  have hc2:=objAt_some.2 hI.c2
  simp only [q0d] at hc3
  (try simp only [rwp,hwR,zA,zB,zC,zD,zE,zF,zG,zH,zI,q07 hc3,hc2,q0d,q1e])
  refine q17 _ (hsub _) ?_
  (try simp only [rwp,hwR,zA,zB,zC,zD,zE,zF,zG,zH,zI,q0d])
 cases a1:decide (r1.de=0) with
 | false=>
  (try simp only [rwp,hwR,zA,zB,zC,zD,zE,zF,zG,zH,zI])
  exact stop fun h=>by rw [decide_eq_true h.1] at a1;cases a1
 | true=>
  have hde:r1.de=0:=of_decide_eq_true a1
  (try simp only [rwp,hwR,zA,zB,zC,zD,zE,zF,zG,zH,zI])
  refine (q5r hT hp1.inr).ca hI.rd ?_
  rw [q0t hI.rd]
  (try simp only [rwp,hwR,zA,zB,zC,zD,zE,zF,zG,zH,zI,tkC])
  cases a2:decide ((nxP T r1).s=⟨#[38]⟩) with
  | false=>
   (try simp only [rwp,hwR,zA,zB,zC,zD,zE,zF,zG,zH,zI])
   exact stop fun h=>by
    have:=of_decide_eq_false a2
    rw [termK,if_neg this] at h
    cases h.2
  | true=>
   have hk:termK (nxP T r1).s=some 3:=by rw [termK,if_pos (of_decide_eq_true a2)]
   have ha:=adv hT hp1 (fun h1=>by rw [h1] at hk;revert hk;decide +kernel) (fun h1=>by rw [h1] at hk;revert hk;decide +kernel)
   have hpa:=ha.pre hp1
   have hs:=atom_ok hT hex hpa
   have hps:=hs.st.pre hpa
   have hfu:opL T termK (q2f T ex) T.length (twoE 3 e (q2f T ex { r1 with at':=r1.at'+1 }).1,twoR 3 (nxP T r1) e (q2f T ex { r1 with at':=r1.at'+1 }).1 (q2f T ex { r1 with at':=r1.at'+1 }).2)=q2y T ex r:=by
    rw [← hf]
    obtain ⟨m,hm⟩:∃ m,T.length=m+1:=⟨T.length-1,by omega⟩
    have h5:=q46 3 (nxP T r1) e (q2f T ex { r1 with at':=r1.at'+1 }).1 hs.st
    have h6:=h5.mono
    dsimp only at h6
    conv=>rhs;rw [hm,opL,if_pos hde]
    simp only [hk]
    exact opL_more hT signs_term (fun _ h=>atom_ok hT hex h) (h5.pre hpa) (by dsimp only;omega) (by dsimp only;omega)
   have hE2:ExSt T r (twoE 3 e (q2f T ex { r1 with at':=r1.at'+1 }).1,twoR 3 (nxP T r1) e (q2f T ex { r1 with at':=r1.at'+1 }).1 (q2f T ex { r1 with at':=r1.at'+1 }).2):=by
    refine ⟨q46 _ _ _ _ ?_,twoE_ok hE.ok hs.ok⟩
    have hst:=hE.st
    have hss:=hs.st
    dsimp only at hst ha hss ⊢
    rw [twoE_sz]
    exact ((hst.trans ha).trans hss).le (by omega)
   have hmu:r1.at'+1≤(twoR 3 (nxP T r1) e (q2f T ex { r1 with at':=r1.at'+1 }).1 (q2f T ex { r1 with at':=r1.at'+1 }).2).at':=(q46 3 (nxP T r1) e _ hs.st).mono
   (try simp only [rwp,hwR,zA,zB,zC,zD,zE,zF,zG,zH,zI,C171_2])
   refine (q5r hT hp1.inr).ca hI.rd ?_
   rw [q0t hI.rd]
   (try simp only [rwp,hwR,zA,zB,zC,zD,zE,zF,zG,zH,zI,tkC,q07 ho,ho])
   (simp (disch:=omega) only [q04])
   rw [show ((r1.at':Int)+1)=((r1.at'+1:Nat):Int) from rfl]
   simp only [rd_lit]
   refine (c_atom hT hex hexW hpa).ca q1c ?_
   generalize q2f T ex { r1 with at':=r1.at'+1 }=p2 at hs hps hfu hE2 hmu
   obtain ⟨c,r2⟩:=p2
   have hbd:r2.de=0→esz e+esz c+1≤1125899906842624:=fun h0=>by
    have h7:=hs.st.sz h0
    have h8:=hE.st.sz (ha.fault (hs.st.fault h0))
    have h9:r2.at'<T.length:=hps.inr
    dsimp only at h7 h8
    omega
   have htwo:=c_two (T:=T) (r:=r2) (b:=b) 3 (nxP T r1) hE.ok hs.ok hbd
   dsimp only at htwo hfu hE2 hmu
   have c3:∀ r',q0j (supd S1 b (rdO T r')) b3=some (51,exC e,4):=fun r'=>by rw [q0n (Ne.symm n2)];exact objAt_some.2 hI.c3
   have st:=hI.step n1 n2 n3 (twoE 3 e c) (twoR 3 (nxP T r1) e c r2)
   simp only [q0d] at c3 st
   (try simp only [rwp,hwR,zA,zB,zC,zD,zE,zF,zG,zH,zI,q0d,q07 (c3 r2)])
   simp only [← q0d]
   refine htwo.ca q1c ?_
   generalize twoE 3 e c=e3 at hfu hE2 st ⊢
   generalize twoR 3 (nxP T r1) e c r2=r3 at hfu hE2 st c3 hmu ⊢
   (try simp only [rwp,hwR,zA,zB,zC,zD,zE,zF,zG,zH,zI,q0d,c3 r3,q1e])
   exact q08 rfl (hq (e3,r3) _ ⟨by simpa only [q0d] using st,hE2,hfu⟩ (by dsimp only;omega))
set_option maxRecDepth 4000
theorem c_exprOf {T:List Tk} (hT:OkTk T) {n b:Nat} {ex:Rd→Ex×Rd} (hex:Inner T n ex) (hexW:InnerW T n b ex) {r:Rd} (hp:Pre T n r):AFunR nrx132 b [] T r (.agg (exC (q55 T ex r).1)) (q55 T ex r).2:=by
 intro S h
 have hl:=hT.len
 refine wx132 ?_
 unfold Bx132
 intro b2 hb2
 have n1:b2≠b:=q0f hb2 h
 have hS0:sget (supd S b2 c41) b=some (rdO T r):=by rw [q01,if_neg n1];exact h
 (try simp only [rwp,hwR,zA,zB,zC,zD,zE,zF,zG,zH,zI])
 refine (c_term hT hex hexW hp).ca hS0 ?_
 intro b3 hb3
 have n2:b3≠b:=q0f hb3 q1c
 have n3:b3≠b2:=q0f hb3 (x:=c41) (by rw [q01,if_neg (Ne.symm n1),q01,if_pos rfl])
 have k3:sget S b3=none:=by rw [q01,if_neg (Ne.symm n2),q01,if_neg (Ne.symm n3)] at hb3;exact hb3
 have hI0:TrI S b b2 b3 T (q2y T ex r) (supd (supd (supd S b2 c41) b (rdO T (q2y T ex r).2)) b3 (.cells 51 (exC (q2y T ex r).1) 4)):=
  ⟨by rw [q01,if_neg n2,q01,if_pos rfl],by rw [q01,if_pos rfl],by rw [q01,if_neg n3,q01,if_neg (Ne.symm n1),q01,if_pos rfl],fun x h1 h2 h3=>by rw [q01,if_neg h2,q01,if_neg h1,q01,if_neg h3]⟩
 have hat:=term_ok hT hex hp
 have hfin:opL T q9k (q2y T ex) T.length (q2y T ex r)=q55 T ex r:=rfl
 simp only [q0d] at hI0
 (try simp only [rwp,hwR,zA,zB,zC,zD,zE,zF,zG,zH,zI,q0d,q1e])
 rw [← q0d]
 simp only [← q0d] at hI0
 generalize q2y T ex r=p0 at hI0 hat hfin
 refine LoopP.introS (fun _:Ex×Rd=>[(0,.ptr b 0),(2,.ptr b2 0),(3,.ptr b3 0)])
  (fun p S'=>TrI S b b2 b3 T p S'∧ExSt T r p∧opL T q9k (q2y T ex) T.length p=q55 T ex r) (fun p=>T.length-p.2.at') p0 ⟨by simpa only [q0d] using hI0,hat,hfin⟩ rfl ?_
 clear hI0 hat hfin
 rintro ⟨e,r1⟩ S1 ⟨hI,hE,hf⟩ q hq
 have hp1:=hE.st.pre hp
 have hin:r1.at'<T.length:=hp1.inr
 have ho:=q8f hI.rd
 (try simp only [rwp,hwR,zA,zB,zC,zD,zE,zF,zG,zH,zI,C132_1,q07 ho])
 have stop:¬ (r1.de=0∧(q9k (nxP T r1).s).isSome=true)→C132_4 (fun ae S'=>ae=.ret (.agg (exC (q55 T ex r).1))∧S'=supd S b (rdO T (q55 T ex r).2)) q (.ptr b 0) (.ptr b2 0) (.ptr b3 0) (.bool false) S1:=fun hn=>by
  rw [opL_stop hn] at hf
  rw [← hf]
  unfold C132_4
  have hsub:=hI.sub n1 n2 n3 hb2 k3
  have hc3:=objAt_some.2 hI.c3
  have hc2:=objAt_some.2 hI.c2
  simp only [q0d] at hc3
  (try simp only [rwp,hwR,zA,zB,zC,zD,zE,zF,zG,zH,zI,q07 hc3,hc2,q0d,q1e])
  refine q17 _ (hsub _) ?_
  (try simp only [rwp,hwR,zA,zB,zC,zD,zE,zF,zG,zH,zI,q0d])
 cases a1:decide (r1.de=0) with
 | false=>
  (try simp only [rwp,hwR,zA,zB,zC,zD,zE,zF,zG,zH,zI,C132_2,C132_3])
  exact stop fun h=>by rw [decide_eq_true h.1] at a1;cases a1
 | true=>
  have hde:r1.de=0:=of_decide_eq_true a1
  (try simp only [rwp,hwR,zA,zB,zC,zD,zE,zF,zG,zH,zI])
  refine (q5r hT hp1.inr).ca hI.rd ?_
  rw [q0t hI.rd]
  (try simp only [rwp,hwR,zA,zB,zC,zD,zE,zF,zG,zH,zI,tkC])
  have low:∀ k:Int,q9k (nxP T r1).s=some k→C132_5 (fun ae S'=>ae=.ret (.agg (exC (q55 T ex r).1))∧S'=supd S b (rdO T (q55 T ex r).2)) q (.ptr b 0) (.ptr b2 0) (.ptr b3 0) (.rop (tkC (nxP T r1))) (.int .i64 k) S1:=by
   intro k hk
   have ha:=adv hT hp1 (fun h1=>by rw [h1,signs_expr.1] at hk;cases hk) (fun h1=>by rw [h1,signs_expr.2] at hk;cases hk)
   have hpa:=ha.pre hp1
   have hs:=term_ok hT hex hpa
   have hps:=hs.st.pre hpa
   have hfu:opL T q9k (q2y T ex) T.length (twoE k e (q2y T ex { r1 with at':=r1.at'+1 }).1,twoR k (nxP T r1) e (q2y T ex { r1 with at':=r1.at'+1 }).1 (q2y T ex { r1 with at':=r1.at'+1 }).2)=q55 T ex r:=by
    rw [← hf]
    obtain ⟨m,hm⟩:∃ m,T.length=m+1:=⟨T.length-1,by omega⟩
    have h5:=q46 k (nxP T r1) e (q2y T ex { r1 with at':=r1.at'+1 }).1 hs.st
    have h6:=h5.mono
    dsimp only at h6
    conv=>rhs;rw [hm,opL,if_pos hde]
    simp only [hk]
    exact opL_more hT signs_expr (fun _ h=>term_ok hT hex h) (h5.pre hpa) (by dsimp only;omega) (by dsimp only;omega)
   have hE2:ExSt T r (twoE k e (q2y T ex { r1 with at':=r1.at'+1 }).1,twoR k (nxP T r1) e (q2y T ex { r1 with at':=r1.at'+1 }).1 (q2y T ex { r1 with at':=r1.at'+1 }).2):=by
    refine ⟨q46 _ _ _ _ ?_,twoE_ok hE.ok hs.ok⟩
    have hst:=hE.st
    have hss:=hs.st
    dsimp only at hst ha hss ⊢
    rw [twoE_sz]
    exact ((hst.trans ha).trans hss).le (by omega)
   have hmu:r1.at'+1≤(twoR k (nxP T r1) e (q2y T ex { r1 with at':=r1.at'+1 }).1 (q2y T ex { r1 with at':=r1.at'+1 }).2).at':=(q46 k (nxP T r1) e _ hs.st).mono
   unfold C132_5
   (try simp only [rwp,hwR,zA,zB,zC,zD,zE,zF,zG,zH,zI,tkC,q07 ho,ho])
   (simp (disch:=omega) only [q04])
   rw [show ((r1.at':Int)+1)=((r1.at'+1:Nat):Int) from rfl]
   simp only [rd_lit]
   refine (c_term hT hex hexW hpa).ca q1c ?_
   generalize q2y T ex { r1 with at':=r1.at'+1 }=p2 at hs hps hfu hE2 hmu
   obtain ⟨c,r2⟩:=p2
   have hbd:r2.de=0→esz e+esz c+1≤1125899906842624:=fun h0=>by
    have h7:=hs.st.sz h0
    have h8:=hE.st.sz (ha.fault (hs.st.fault h0))
    have h9:r2.at'<T.length:=hps.inr
    dsimp only at h7 h8
    omega
   have htwo:=c_two (T:=T) (r:=r2) (b:=b) k (nxP T r1) hE.ok hs.ok hbd
   dsimp only at htwo hfu hE2 hmu
   have c3:∀ r',q0j (supd S1 b (rdO T r')) b3=some (51,exC e,4):=fun r'=>by rw [q0n (Ne.symm n2)];exact objAt_some.2 hI.c3
   have st:=hI.step n1 n2 n3 (twoE k e c) (twoR k (nxP T r1) e c r2)
   simp only [q0d] at c3 st
   (try simp only [rwp,hwR,zA,zB,zC,zD,zE,zF,zG,zH,zI,q0d,q07 (c3 r2)])
   simp only [← q0d]
   refine htwo.ca q1c ?_
   generalize twoE k e c=e3 at hfu hE2 st ⊢
   generalize twoR k (nxP T r1) e c r2=r3 at hfu hE2 st c3 hmu ⊢
   (try simp only [rwp,hwR,zA,zB,zC,zD,zE,zF,zG,zH,zI,q0d,c3 r3,q1e])
   exact q08 rfl (hq (e3,r3) _ ⟨by simpa only [q0d] using st,hE2,hfu⟩ (by dsimp only;omega))
  simp only [tkC] at low
  cases a2:decide ((nxP T r1).s=⟨#[43]⟩) with
  | true=>
   have e2:=of_decide_eq_true a2
   have hk:q9k (nxP T r1).s=some 2:=by rw [q9k,if_pos e2]
   have e3:decide ((nxP T r1).s=⟨#[45]⟩)=false:=by rw [e2];decide +kernel
   (try simp only [rwp,hwR,zA,zB,zC,zD,zE,zF,zG,zH,zI,C132_2,C132_3,C132_4])
   refine (q5r hT hp1.inr).ca hI.rd ?_
   rw [q0t hI.rd]
   (try simp only [rwp,hwR,zA,zB,zC,zD,zE,zF,zG,zH,zI,tkC,e3])
   exact low 2 hk
  | false=>
   (try simp only [rwp,hwR,zA,zB,zC,zD,zE,zF,zG,zH,zI,C132_2])
   refine (q5r hT hp1.inr).ca hI.rd ?_
   rw [q0t hI.rd]
   (try simp only [rwp,hwR,zA,zB,zC,zD,zE,zF,zG,zH,zI,tkC])
   cases a3:decide ((nxP T r1).s=⟨#[45]⟩) with
   | true=>
    have hk:q9k (nxP T r1).s=some 4:=by rw [q9k,if_neg (of_decide_eq_false a2),if_pos (of_decide_eq_true a3)]
    (try simp only [rwp,hwR,zA,zB,zC,zD,zE,zF,zG,zH,zI,C132_3,C132_4])
    refine (q5r hT hp1.inr).ca hI.rd ?_
    rw [q0t hI.rd]
    (try simp only [rwp,hwR,zA,zB,zC,zD,zE,zF,zG,zH,zI,tkC,a3])
    exact low 4 hk
   | false=>
    (try simp only [rwp,hwR,zA,zB,zC,zD,zE,zF,zG,zH,zI,C132_3])
    exact stop fun h=>by
     have h1:=of_decide_eq_false a2
     have h2:=of_decide_eq_false a3
     rw [q9k,if_neg h1,if_neg h2] at h
     cases h.2
theorem c_expr {T:List Tk} (hT:OkTk T) {b:Nat}:∀ {n:Nat} {r:Rd},Pre T n r→AFunR nrx132 b [] T r (.agg (exC (exprP T n r).1)) (exprP T n r).2
 | 0,r,hp=>c_exprOf hT (fun m h=>by omega) (fun m h=>by omega) hp
 | n+1,r,hp=>c_exprOf hT (fun m h r hr=>by
   have:n=m:=by omega
   subst this
   exact expr_ok hT hr) (fun m h r hr=>by
   have:n=m:=by omega
   subst this
   exact c_expr hT hr) hp
def sHash:ByteArray:=⟨#[35]⟩
def sBar:ByteArray:=⟨#[124]⟩
def q1b:ByteArray:=⟨#[58]⟩
def refP (T:List Tk) (r:Rd):Rf×Rd:=
 if isP T sHash (q0o T r) then (⟨q2q T r,q2q T (isR T sHash (q0o T r))⟩,q0o T (isR T sHash (q0o T r)))
 else (⟨q2q T r,⟨#[]⟩⟩,q0o T r)
def q57 (T:List Tk):Nat→List Rf×Rd→List Rf×Rd
 | 0,p=>p
 | f+1,(l,r)=>if isP T sBar r then q57 T f (l++[(refP T (isR T sBar r)).1],(refP T (isR T sBar r)).2) else (l,r)
def relP (T:List Tk) (r:Rd):(Rl×Bool)×Rd:=
 if isP T q0c r then
  ((⟨q2q T (isR T q0c r),(q57 T T.length ([(refP T (q20 T q1b (q0o T (isR T q0c r)))).1],(refP T (q20 T q1b (q0o T (isR T q0c r)))).2)).1,zeroE⟩,true),
   (q57 T T.length ([(refP T (q20 T q1b (q0o T (isR T q0c r)))).1],(refP T (q20 T q1b (q0o T (isR T q0c r)))).2)).2)
 else if isP T q1f r then
  ((⟨q2q T (isR T q1f r),[],(exprP T 12 (q20 T q1b (q0o T (isR T q1f r)))).1⟩,true),(exprP T 12 (q20 T q1b (q0o T (isR T q1f r)))).2)
 else ((⟨⟨#[]⟩,[],zeroE⟩,false),r)
def q45 (T:List Tk):Nat→List Rl×Rd→List Rl×Rd
 | 0,p=>p
 | f+1,(l,r)=>if (relP T r).1.2=true then q45 T f (l++[(relP T r).1.1],(relP T r).2) else (l,(relP T r).2)
def q2b (T:List Tk):Nat→List Ty×Rd→List Ty×Rd
 | 0,p=>p
 | f+1,(l,r)=>if isP T q27 r then
   q2b T f (l++[⟨q2q T (isR T q27 r),(q45 T T.length ([],q0o T (isR T q27 r))).1⟩],(q45 T T.length ([],q0o T (isR T q27 r))).2)
  else (l,r)
def endR (T:List Tk) (r:Rd):Rd:=if r.de=0∧¬ (nxP T r).s=⟨#[]⟩ then q58 (nxP T r) 8 r else r
def rd0:Rd:=⟨0,0,0,0,0⟩
def q78 (T:List Tk):List Ty×AV:=
 if (endR T (q2b T T.length ([],rd0)).2).de=0 then ((q2b T T.length ([],rd0)).1,.agg [.int .i64 0,.int .i64 0,.int .i64 0])
 else ([],.agg [.int .i64 (endR T (q2b T T.length ([],rd0)).2).dl,.int .i64 (endR T (q2b T T.length ([],rd0)).2).dc,.int .i64 (endR T (q2b T T.length ([],rd0)).2).de])
theorem ref_step {T:List Tk} (hT:OkTk T) {r:Rd} {n:Nat} (hp:Pre T n r):StepR T r (refP T r).2 1∧OkF (refP T r).1:=by
 have hn:=q1z hT hp
 have hpn:=hn.pre hp
 unfold refP
 split
 ·rename_i h
  have h1:=q2m hT hpn h (by decide +kernel) (by decide +kernel)
  have hp1:=h1.pre hpn
  have h2:=q1z hT hp1
  exact ⟨((hn.trans h1).trans h2).le (by omega),q2s hT hp.inr,q2s hT hp1.inr⟩
 ·exact ⟨hn,q2s hT hp.inr,Nat.zero_le _⟩
structure RfSt (T:List Tk) (r:Rd) (p:List Rf×Rd):Prop where
 st:StepR T r p.2 p.1.length
 len:p.1.length≤p.2.at'+1
 ok:∀ f∈p.1,OkF f
theorem refs_next {T:List Tk} (hT:OkTk T) {n:Nat} {r0 r:Rd} (hp0:Pre T n r0) {l:List Rf} (h:RfSt T r0 (l,r)) (hi:isP T sBar r=true) :
  RfSt T r0 (l++[(refP T (isR T sBar r)).1],(refP T (isR T sBar r)).2)∧r.at'+1≤(refP T (isR T sBar r)).2.at':=by
 have hp:=h.st.pre hp0
 have h1:=q2m hT hp hi (by decide +kernel) (by decide +kernel)
 obtain ⟨h2,h3⟩:=ref_step hT (h1.pre hp)
 have e1:(isR T sBar r).at'=r.at'+1:=by rw [isR,if_pos hi]
 have h4:=h2.mono
 have h5:=h.len
 dsimp only at h4 h5 e1 h2
 refine ⟨⟨?_,?_,fun f hf=>?_⟩,by omega⟩
 ·have h6:=(h.st.trans h1).trans h2
  exact h6.le (by simp)
 ·simp only [List.length_append,List.length_cons,List.length_nil]
  omega
 ·rcases List.mem_append.1 hf with hf | hf
  ·exact h.ok f hf
  ·rw [List.mem_singleton.1 hf];exact h3
theorem refsL_ok {T:List Tk} (hT:OkTk T) {n:Nat} {r0:Rd} (hp0:Pre T n r0):∀ {f:Nat} {p:List Rf×Rd},RfSt T r0 p→RfSt T r0 (q57 T f p)
 | 0,p,h=>h
 | f+1,(l,r),h=>by
  unfold q57
  split
  ·rename_i hi
   exact refsL_ok hT hp0 (refs_next hT hp0 h hi).1
  ·exact h
theorem refsL_more {T:List Tk} (hT:OkTk T) {n:Nat} {r0:Rd} (hp0:Pre T n r0):∀ {f g:Nat} {p:List Rf×Rd},RfSt T r0 p→T.length≤f+p.2.at'→T.length≤g+p.2.at'→q57 T f p=q57 T g p
 | 0,g,p,h,h1,h2=>by have h3:p.2.at'<T.length:=h.st.inr;omega
 | f+1,0,p,h,h1,h2=>by have h3:p.2.at'<T.length:=h.st.inr;omega
 | f+1,g+1,(l,r),h,h1,h2=>by
  dsimp only at h1 h2
  unfold q57
  split
  ·rename_i hi
   obtain ⟨k1,k2⟩:=refs_next hT hp0 h hi
   exact refsL_more hT hp0 k1 (by dsimp only;omega) (by dsimp only;omega)
  ·rfl
theorem rel_ok {T:List Tk} (hT:OkTk T) {r:Rd} (hp:Pre T 12 r):StepR T r (relP T r).2 (if (relP T r).1.2 then rsz (relP T r).1.1 else 0)∧OkR (relP T r).1.1∧((relP T r).1.2=true→r.at'+1≤(relP T r).2.at'):=by
 unfold relP
 split
 ·rename_i hi
  have h1:=q2m hT hp hi (by decide +kernel) (by decide +kernel)
  have hp1:=h1.pre hp
  have h2:=q1z hT hp1
  have hp2:=h2.pre hp1
  have h3:=q4i hT hp2 (s:=q1b) (by decide +kernel) (by decide +kernel)
  have hp3:=h3.pre hp2
  obtain ⟨h4,h5⟩:=ref_step hT hp3
  have hR0:RfSt T (q20 T q1b (q0o T (isR T q0c r))) ([(refP T (q20 T q1b (q0o T (isR T q0c r)))).1],(refP T (q20 T q1b (q0o T (isR T q0c r)))).2):=
   ⟨h4,by simp,fun f hf=>by rw [List.mem_singleton.1 hf];exact h5⟩
  have hR:=refsL_ok hT hp3 (f:=T.length) hR0
  generalize q57 T T.length ([(refP T (q20 T q1b (q0o T (isR T q0c r)))).1],(refP T (q20 T q1b (q0o T (isR T q0c r)))).2)=p at hR
  obtain ⟨l,r'⟩:=p
  have hl:=hR.len
  have hin:r'.at'<T.length:=hR.st.inr
  have hTl:=hT.len
  have e1:(isR T q0c r).at'=r.at'+1:=by rw [isR,if_pos hi]
  refine ⟨?_,⟨q2s hT hp1.inr,?_,hR.ok,q7b (Nat.zero_le _) (Nat.zero_le _)⟩,fun _=>?_⟩
  ·have h6:=((h1.trans h2).trans h3).trans hR.st
   refine h6.le ?_
   simp only [if_true,rsz,zeroE,esz_leaf]
   omega
  ·dsimp only at hl ⊢;omega
  ·have:=h2.mono;have:=h3.mono;have:=hR.st.mono;dsimp only at *;omega
 ·split
  ·rename_i hi
   have h1:=q2m hT hp hi (by decide +kernel) (by decide +kernel)
   have hp1:=h1.pre hp
   have h2:=q1z hT hp1
   have hp2:=h2.pre hp1
   have h3:=q4i hT hp2 (s:=q1b) (by decide +kernel) (by decide +kernel)
   have hp3:=h3.pre hp2
   have h4:=expr_ok hT hp3
   have e1:(isR T q1f r).at'=r.at'+1:=by rw [isR,if_pos hi]
   refine ⟨?_,⟨q2s hT hp1.inr,by simp,fun f hf=>(by cases hf),h4.ok⟩,fun _=>?_⟩
   ·have h6:=((h1.trans h2).trans h3).trans h4.st
    refine h6.le ?_
    simp only [if_true,rsz,List.length_nil]
    omega
   ·have:=h2.mono;have:=h3.mono;have:=h4.st.mono;dsimp only at *;omega
  ·exact ⟨StepR.refl hp,⟨Nat.zero_le _,by simp,fun f hf=>(by cases hf),q7b (Nat.zero_le _) (Nat.zero_le _)⟩,fun h=>by cases h⟩
set_option maxRecDepth 4000
abbrev c53:AObj:=.cells 171 [.str ⟨#[]⟩,.str ⟨#[]⟩] 2
abbrev c43:AObj:=.cells 53 [.str ⟨#[]⟩,.nils,.int .i64 0,.str ⟨#[]⟩,.str ⟨#[]⟩,.nils] 6
theorem c_ref {T:List Tk} (hT:OkTk T) {n b:Nat} {r:Rd} (hp:Pre T n r):AFunR nrx131 b [] T r (.agg (rfC (refP T r).1)) (refP T r).2:=by
 intro S h
 refine wx131 ?_
 unfold Bx131
 intro b2 hb2
 have n1:b2≠b:=q0f hb2 h
 have hS0:sget (supd S b2 c53) b=some (rdO T r):=by rw [q01,if_neg n1];exact h
 have hn:=q1z hT hp
 have hpn:=hn.pre hp
 (try simp only [rwp,hwR,zA,zB,zC,zD,zE,zF,zG,zH,zI])
 refine (c_name hT hp.inr).ca hS0 ?_
 (try simp only [rwp,hwR,zA,zB,zC,zD,zE,zF,zG,zH,zI])
 intro b3 hb3
 have n2:b3≠b:=q0f hb3 q1c
 have n3:b3≠b2:=q0f hb3 (x:=c53) (by rw [q01,if_neg (Ne.symm n1),q01,if_pos rfl])
 have k3:sget S b3=none:=by rw [q01,if_neg (Ne.symm n2),q01,if_neg (Ne.symm n3)] at hb3;exact hb3
 (try simp only [rwp,hwR,zA,zB,zC,zD,zE,zF,zG,zH,zI])
 have hrd:∀ o,sget (supd (supd (supd S b2 c53) b (rdO T (q0o T r))) b3 o) b=some (rdO T (q0o T r)):=fun o=>by rw [q01,if_neg n2,q01,if_pos rfl]
 refine (c_is hT hpn.inr sHash).ca (hrd _) ?_
 have fin:∀ (f:Rf) (r':Rd) (S2:q00),refP T r=(f,r')→q0j S2 b3=some (171,rfC f,2)→q0j S2 b2=some (171,[.str ⟨#[]⟩,.str ⟨#[]⟩],2)→(∀ x,b2≠x→b3≠x→sget S2 x=sget (supd S b (rdO T r')) x) →
   C131_1 (fun ae S'=>ae=.ret (.agg (rfC (refP T r).1))∧S'=supd S b (rdO T (refP T r).2)) (.ptr b2 0) (.ptr b3 0) S2:=by
  intro f r' S2 he h3 h2 hS2
  rw [he]
  unfold C131_1
  have hsub:∀ o,Sub (supd S b (rdO T r')) (sdel (supd S2 b2 o) b2):=fun o x y hx=>by
   have e2:b2≠x:=by rintro rfl;rw [q01,if_neg (Ne.symm n1),hb2] at hx;cases hx
   have e3:b3≠x:=by rintro rfl;rw [q01,if_neg (Ne.symm n2),k3] at hx;cases hx
   rw [q0a,if_neg e2,q01,if_neg e2,hS2 x e2 e3]
   exact hx
  simp only [rfC] at h3
  (try simp only [rwp,hwR,zA,zB,zC,zD,zE,zF,zG,zH,zI,q07 h3,h2])
  refine q17 _ (hsub _) ?_
  (try simp only [rwp,hwR,zA,zB,zC,zD,zE,zF,zG,zH,zI,rfC])
 cases hi:isP T sHash (q0o T r) with
 | true=>
  have h1:=q2m hT hpn hi (by decide +kernel) (by decide +kernel)
  have hp1:=h1.pre hpn
  (try simp only [rwp,hwR,zA,zB,zC,zD,zE,zF,zG,zH,zI])
  refine (c_name hT hp1.inr).ca q1c ?_
  have ob3:∀ X cs o,q0j (supd (supd X b3 (.cells 171 cs 2)) b o) b3=some (171,cs,2):=fun X cs o=>by rw [q0n (Ne.symm n2)];exact q0m
  (try simp only [rwp,hwR,zA,zB,zC,zD,zE,zF,zG,zH,zI,ob3])
  refine fin ⟨q2q T r,q2q T (isR T sHash (q0o T r))⟩ (q0o T (isR T sHash (q0o T r))) _ ?_ q0m ?_ fun x e2 e3=>?_
  ·rw [refP,if_pos hi]
  ·rw [q0n n3,q0n (Ne.symm n1),q0n n3,q0n (Ne.symm n1)];exact q0m
  ·simp only [q01,if_neg e2,if_neg e3]
   by_cases hb:b=x
   ·subst hb;simp
   ·simp [hb]
 | false=>
  rw [q97 hi]
  (try simp only [rwp,hwR,zA,zB,zC,zD,zE,zF,zG,zH,zI])
  refine fin ⟨q2q T r,⟨#[]⟩⟩ (q0o T r) _ ?_ ?_ ?_ fun x e2 e3=>?_
  ·rw [refP,if_neg (by rw [hi];simp)]
  ·rw [q0n (Ne.symm n2)];exact q0m
  ·rw [q0n (Ne.symm n1),q0n n3,q0n (Ne.symm n1)];exact q0m
  ·simp only [q01,if_neg e2,if_neg e3]
   by_cases hb:b=x
   ·subst hb;simp
   ·simp [hb]
structure RlI (S:q00) (b b2 b4:Nat) (T:List Tk) (name:ByteArray) (p:List Rf×Rd) (S':q00):Prop where
 rd:sget S' b=some (rdO T p.2)
 c2:sget S' b2=some c43
 c4:∃ v,sget S' b4=some (.cells 53 [.str name,v,.int .i64 0,.str ⟨#[]⟩,.str ⟨#[]⟩,.nils] 6)∧LstN (sdel S b) S' 171 2 v (p.1.map rfC)∧q0x v b∧q0x v b2∧q0x v b4
 sub:Sub (sdel S b) S'
theorem LstN.base2 {S S':q00} {b t sz:Nat} {v:AV} {rows:List (List AV)} {o:AObj} (h:LstN (sdel S b) S' t sz v rows) (ha:q0x v b):LstN (supd S b o) S' t sz v rows:=by
 obtain ⟨hr,h⟩:=h
 refine ⟨hr,?_⟩
 rcases h with h | ⟨c,cap,rfl,h1,h2⟩
 ·exact .inl h
 ·refine .inr ⟨c,cap,rfl,?_,h2⟩
  have:=ha c 0 _ _ rfl
  rw [q0a,if_neg this] at h1
  rw [q01,if_neg this]
  exact h1
theorem q3t {c:Nat}:q0x .nils c:=fun b off n cap h=>by cases h
theorem kpW_one {S S':q00} {Y:Prop} {b off:Nat} (h:sget S' b=sget S b) (hY:Y):kpW [.ptr b off] S S' Y:=by
 refine ⟨fun v hv c hc=>?_,hY⟩
 rw [List.mem_singleton] at hv
 subst hv
 simp [blk] at hc
 subst hc
 exact h
theorem RlI.more {S S1:q00} {b b2 b4:Nat} {T:List Tk} {name:ByteArray} {l:List Rf} {r r2:Rd} (h:RlI S b b2 b4 T name (l,r) S1) (n1:b2≠b) (n2:b4≠b) (n3:b4≠b2) (k2:sget S b2=none) (k4:sget S b4=none) (hlen:l.length≤100000) (f:Rf) {v:AV} (hv:sget S1 b4=some (.cells 53 [.str name,v,.int .i64 0,.str ⟨#[]⟩,.str ⟨#[]⟩,.nils] 6)) {K:q00→Prop} (hK:∀ S3,RlI S b b2 b4 T name (l++[f],r2) S3→K S3) :
  apW (supd S1 b (rdO T r2)) 171 2 32 v (.sl 2 [[.str f.ty,.str f.rl]]) fun v' S2=>soW (q0j S2 b4) S2 1 b4 1 v' K:=by
 obtain ⟨hrd,hc2,⟨v0,hv0,hl,a1,a2,a4⟩,hsub⟩:=h
 rw [hv] at hv0
 cases hv0
 dsimp only at hl hrd
 have hb0:sget (sdel S b) b=none:=by rw [q0a,if_pos rfl]
 have hb4:sget (sdel S b) b4=none:=by rw [q0a,if_neg (Ne.symm n2)];exact k4
 refine (hl.upd a1 (rdO T r2)).app (hsub.supd hb0) (xs:=[[.str f.ty,.str f.rl]]) (fun r hr=>by rw [List.mem_singleton] at hr;subst hr;rfl) rfl (by simp;omega) ?_
 intro v' S2 h1 h2 h3
 obtain ⟨q1,q2⟩:=h3 b (rdO T r2) (by rw [q01,if_pos rfl]) a1
 obtain ⟨q3,q4⟩:=h3 b4 _ (by rw [q01,if_neg (Ne.symm n2)];exact hv) a4
 obtain ⟨q5,q6⟩:=h3 b2 _ (by rw [q01,if_neg (Ne.symm n1)];exact hc2) a2
 rw [objAt_some.2 q3,q39]
 have hone:=h2.one
 have hac:q09 v'=[v']:=by cases v'<;>first | rfl | cases hone
 rw [hac]
 refine ⟨rfl,by simp,by simp [ones,hone],hK _ ⟨?_,?_,⟨v',?_,?_,q2,q6,q4⟩,?_⟩⟩
 ·rw [q01,if_neg n2];exact q1
 ·rw [q01,if_neg n3];exact q5
 ·rw [q01,if_pos rfl];rfl
 ·simpa [rfC] using h2.upd q4 _
 ·exact h1.supd hb4
theorem sub_del {S:q00} {b:Nat} {T:List Tk} {S2:q00} {r':Rd} {b2:Nat} {o:AObj} (h:Sub (sdel S b) S2) (hb:sget S2 b=some (rdO T r')) (k2:sget S b2=none) (n1:b2≠b):Sub (supd S b (rdO T r')) (supd S2 b2 o):=by
 intro x y hx
 have e2:b2≠x:=by rintro rfl;rw [q01,if_neg (Ne.symm n1),k2] at hx;cases hx
 rw [q01,if_neg e2]
 rw [q01] at hx
 by_cases hbx:b=x
 ·subst hbx;rw [if_pos rfl] at hx;rw [hb];exact hx
 ·rw [if_neg hbx] at hx
  exact h x y (by rw [q0a,if_neg hbx];exact hx)
theorem c_rel {T:List Tk} (hT:OkTk T) {b:Nat} {r:Rd} (hp:Pre T 12 r):AFunR nrx86 b [] T r (.tup [.agg (rlC (relP T r).1.1),.bool (relP T r).1.2]) (relP T r).2:=by
 intro S h
 have hTl:=hT.len
 refine wx86 ?_
 unfold Bx86
 intro b2 hb2
 have n1:b2≠b:=q0f hb2 h
 (try simp only [rwp,hwR,zA,zB,zC,zD,zE,zF,zG,zH,zI])
 intro b4 hb4
 have n2:b4≠b:=q0f hb4 (x:=rdO T r) (by rw [q01,if_neg n1];exact h)
 have n3:b4≠b2:=q0f hb4 (x:=c43) (by rw [q01,if_pos rfl])
 have k4:sget S b4=none:=by rw [q01,if_neg (Ne.symm n3)] at hb4;exact hb4
 have m1:=Ne.symm n1
 have m2:=Ne.symm n2
 have m3:=Ne.symm n3
 (try simp only [rwp,hwR,zA,zB,zC,zD,zE,zF,zG,zH,zI])
 have fin:∀ (x:Rl) (ok:Bool) (r':Rd) (S2:q00) (n:ByteArray) (v:AV) (k:Int) (a o:ByteArray) (w:AV),relP T r=((x,ok),r')→sget S2 b=some (rdO T r')→Sub (sdel S b) S2 →
   Frs (supd S b (rdO T r')) (supd S2 b2 (.cells 53 [.str n,v,.int .i64 k,.str a,.str o,w] 6)) [.str n,v,.int .i64 k,.str a,.str o,w] (rlC x) →
   rtW [.cell (.ptr b2 0) 6 true,.tmp (.bool ok)] (fun ae S'=>ae=.ret (.tup [.agg (rlC (relP T r).1.1),.bool (relP T r).1.2])∧S'=supd S b (rdO T (relP T r).2)) (supd S2 b2 (.cells 53 [.str n,v,.int .i64 k,.str a,.str o,w] 6)):=by
  intro x ok r' S2 n v k a o w he hb hsub hfr
  rw [he]
  refine q5e (supd S b (rdO T r')) (.tup [.agg (rlC x),.bool ok]) (sub_del hsub hb hb2 n1) ?_ ⟨rfl,rfl⟩
  (try simp only [rwp,hwR,zA,zB,zC,zD,zE,zF,zG,zH,zI])
  exact .tu (.cons (.ag hfr) (.cons (.same _) .nil))
 have hS0:sget (supd (supd S b2 c43) b4 c43) b=some (rdO T r):=by rw [q01,if_neg n2,q01,if_neg n1];exact h
 have hsub0:Sub (sdel S b) (supd (supd S b2 c43) b4 c43):=by
  intro x y hx
  have hbx:b≠x:=by rintro rfl;rw [q0a,if_pos rfl] at hx;cases hx
  rw [q0a,if_neg hbx] at hx
  rw [q01,if_neg (q0f k4 hx),q01,if_neg (q0f hb2 hx)]
  exact hx
 refine (c_is hT hp.inr q0c).ca hS0 ?_
 cases hi:isP T q0c r with
 | true=>
  have h1:=q2m hT hp hi (by decide +kernel) (by decide +kernel)
  have hp1:=h1.pre hp
  have h2:=q1z hT hp1
  have hp2:=h2.pre hp1
  have h3:=q4i hT hp2 (s:=q1b) (by decide +kernel) (by decide +kernel)
  have hp3:=h3.pre hp2
  obtain ⟨h4,h5⟩:=ref_step hT hp3
  (try simp only [rwp,hwR,zA,zB,zC,zD,zE,zF,zG,zH,zI])
  refine (c_name hT hp1.inr).ca q1c ?_
  have ob4:∀ X cs o,q0j (supd (supd X b4 (.cells 53 cs 6)) b o) b4=some (53,cs,6):=fun X cs o=>by rw [q0n m2];exact q0m
  (try simp only [rwp,hwR,zA,zB,zC,zD,zE,zF,zG,zH,zI,ob4])
  have hrd:∀ X cs r',sget (supd (supd X b (rdO T r')) b4 (.cells 53 cs 6)) b=some (rdO T r'):=fun X cs r'=>by rw [q01,if_neg n2];exact q1c
  refine (c_must hT hp2.inr q1b).ca (hrd _ _ _) ?_
  (try simp only [rwp,hwR,zA,zB,zC,zD,zE,zF,zG,zH,zI,q07 (ob4 _ _ _)])
  refine (c_ref hT hp3).ca q1c ?_
  refine kpW_one (by rw [q01,if_neg m2]) ?_
  refine ⟨⟨rfl,rfl⟩,?_⟩
  have hI0:RlI S b b2 b4 T (q2q T (isR T q0c r)) ([],q20 T q1b (q0o T (isR T q0c r)))
    (supd (supd (supd (supd (supd S b2 c43) b4 c43) b (rdO T (q0o T (isR T q0c r)))) b4 (.cells 53 [.str (q2q T (isR T q0c r)),.nils,.int .i64 0,.str ⟨#[]⟩,.str ⟨#[]⟩,.nils] 6)) b (rdO T (q20 T q1b (q0o T (isR T q0c r))))):=by
   refine ⟨q1c,?_,⟨.nils,?_,.nil,q3t,q3t,q3t⟩,?_⟩
   ·simp [q01,m1,m2,m3,n1,n2,n3]
   ·simp [q01,m1,m2,m3,n1,n2,n3]
   ·have hb0:sget (sdel S b) b=none:=by rw [q0a,if_pos rfl]
    have hb4':sget (sdel S b) b4=none:=by rw [q0a,if_neg m2];exact k4
    exact ((hsub0.supd hb0).supd hb4').supd hb0
  have hrel:relP T r=((⟨q2q T (isR T q0c r),(q57 T T.length ([(refP T (q20 T q1b (q0o T (isR T q0c r)))).1],(refP T (q20 T q1b (q0o T (isR T q0c r)))).2)).1,zeroE⟩,true),(q57 T T.length ([(refP T (q20 T q1b (q0o T (isR T q0c r)))).1],(refP T (q20 T q1b (q0o T (isR T q0c r)))).2)).2):=by
   rw [relP,if_pos hi]
  refine hI0.more n1 n2 n3 hb2 k4 (by simp) (refP T (q20 T q1b (q0o T (isR T q0c r)))).1 (r2:=(refP T (q20 T q1b (q0o T (isR T q0c r)))).2) (v:=.nils) ?_ ?_
  ·rw [q01,if_neg m2,q01,if_pos rfl]
  clear hI0
  intro S3 hI
  generalize q2q T (isR T q0c r)=nm at hI hrel
  have hR0:RfSt T (q20 T q1b (q0o T (isR T q0c r))) ([(refP T (q20 T q1b (q0o T (isR T q0c r)))).1],(refP T (q20 T q1b (q0o T (isR T q0c r)))).2):=
   ⟨h4,by simp,fun f hf=>by rw [List.mem_singleton.1 hf];exact h5⟩
  generalize q20 T q1b (q0o T (isR T q0c r))=r3 at hI hrel hp3 hR0
  rw [List.nil_append] at hI
  generalize ([(refP T r3).1],(refP T r3).2)=p0 at hI hrel hR0
  refine LoopP.introS (fun _:List Rf×Rd=>[(0,.ptr b 0),(2,.ptr b2 0),(4,.ptr b4 0)])
   (fun p S'=>RlI S b b2 b4 T nm p S'∧RfSt T r3 p∧q57 T T.length p=q57 T T.length p0) (fun p=>T.length-p.2.at') p0 ⟨hI,hR0,rfl⟩ rfl ?_
  clear hI hR0
  rintro ⟨l,r4⟩ S4 ⟨hI,hR,hf⟩ q hq
  have hp4:=hR.st.pre hp3
  have hin:r4.at'<T.length:=hp4.inr
  have hll:=hR.len
  dsimp only at hll
  have hI':=hI
  obtain ⟨krd,kc2,⟨v,kv,klst,a1,a2,a4⟩,ksub⟩:=hI'
  dsimp only at krd klst
  (try simp only [rwp,hwR,zA,zB,zC,zD,zE,zF,zG,zH,zI,C86_1])
  refine (c_is hT hp4.inr sBar).ca krd ?_
  cases hb:isP T sBar r4 with
  | true=>
   obtain ⟨hR2,hmu⟩:=refs_next hT hp3 hR hb
   have h6:=q2m hT hp4 hb (by decide +kernel) (by decide +kernel)
   have hp6:=h6.pre hp4
   have hob:q0j (supd S4 b (rdO T (isR T sBar r4))) b4=some (53,[.str nm,v,.int .i64 0,.str ⟨#[]⟩,.str ⟨#[]⟩,.nils],6):=by rw [q0n m2];exact objAt_some.2 kv
   have hf2:q57 T T.length (l++[(refP T (isR T sBar r4)).1],(refP T (isR T sBar r4)).2)=q57 T T.length p0:=by
    rw [← hf]
    obtain ⟨m,hm⟩:∃ m,T.length=m+1:=⟨T.length-1,by omega⟩
    conv=>rhs;rw [hm,q57,if_pos hb]
    exact refsL_more hT hp3 hR2 (by dsimp only;omega) (by dsimp only;omega)
   have hI2:RlI S b b2 b4 T nm (l,isR T sBar r4) (supd S4 b (rdO T (isR T sBar r4))):=by
    refine ⟨q1c,by rw [q01,if_neg m1];exact kc2,⟨v,by rw [q01,if_neg m2];exact kv,klst.upd a1 _,a1,a2,a4⟩,ksub.supd (by rw [q0a,if_pos rfl])⟩
   (try simp only [rwp,hwR,zA,zB,zC,zD,zE,zF,zG,zH,zI,q07 hob])
   refine (c_ref hT hp6).ca q1c ?_
   refine kpW_one (by rw [q01,if_neg m2]) ?_
   refine ⟨⟨rfl,rfl⟩,?_⟩
   refine hI2.more n1 n2 n3 hb2 k4 (by omega) (refP T (isR T sBar r4)).1 (r2:=(refP T (isR T sBar r4)).2) (v:=v) ?_ ?_
   ·rw [q01,if_neg m2];exact kv
   intro S5 hI5
   exact q08 rfl (hq (l++[(refP T (isR T sBar r4)).1],(refP T (isR T sBar r4)).2) S5 ⟨hI5,hR2,hf2⟩ (by dsimp only;omega))
  | false=>
   rw [q97 hb,q0t krd]
   have hstop:q57 T T.length (l,r4)=(l,r4):=by
    cases T.length with
    | zero=>rfl
    | succ m=>rw [q57,if_neg (by rw [hb];simp)]
   rw [hstop] at hf
   rw [← hf] at hrel
   have ob2:=objAt_some.2 kc2
   have ob4':=objAt_some.2 kv
   have hone:=klst.one
   have hac:q09 v=[v]:=by cases v<;>first | rfl | cases hone
   (try simp only [rwp,hwR,zA,zB,zC,zD,zE,zF,zG,zH,zI,q07 ob4',ob2,q1e])
   refine ⟨hone,fin ⟨nm,l,zeroE⟩ true r4 S4 nm v 0 _ _ _ hrel krd ksub ?_⟩
   rw [q0i]
   exact .cons (.same _) (.cons (Fr.lst ((klst.upd a2 _).base2 a1)) (.cons (.same _) (.cons (.same _) (.cons (.same _) (.cons (.nils 4) .nil)))))
 | false=>
  rw [q97 hi,q0t hS0]
  (try simp only [rwp,hwR,zA,zB,zC,zD,zE,zF,zG,zH,zI])
  refine (c_is hT hp.inr q1f).ca hS0 ?_
  cases hd:isP T q1f r with
  | true=>
   have h1:=q2m hT hp hd (by decide +kernel) (by decide +kernel)
   have hp1:=h1.pre hp
   have h2:=q1z hT hp1
   have hp2:=h2.pre hp1
   have h3:=q4i hT hp2 (s:=q1b) (by decide +kernel) (by decide +kernel)
   have hp3:=h3.pre hp2
   (try simp only [rwp,hwR,zA,zB,zC,zD,zE,zF,zG,zH,zI])
   refine (c_name hT hp1.inr).ca q1c ?_
   have ob4:∀ X cs o,q0j (supd (supd X b4 (.cells 53 cs 6)) b o) b4=some (53,cs,6):=fun X cs o=>by rw [q0n m2];exact q0m
   (try simp only [rwp,hwR,zA,zB,zC,zD,zE,zF,zG,zH,zI,ob4])
   have hrd:∀ X cs r',sget (supd (supd X b (rdO T r')) b4 (.cells 53 cs 6)) b=some (rdO T r'):=fun X cs r'=>by rw [q01,if_neg n2];exact q1c
   refine (c_must hT hp2.inr q1b).ca (hrd _ _ _) ?_
   (try simp only [rwp,hwR,zA,zB,zC,zD,zE,zF,zG,zH,zI])
   refine (c_expr hT hp3).ca q1c ?_
   have hrel:relP T r=((⟨q2q T (isR T q1f r),[],(exprP T 12 (q20 T q1b (q0o T (isR T q1f r)))).1⟩,true),(exprP T 12 (q20 T q1b (q0o T (isR T q1f r)))).2):=by
    rw [relP,if_neg (by rw [hi];simp),if_pos hd]
   generalize q2q T (isR T q1f r)=nm at hrel ⊢
   generalize exprP T 12 (q20 T q1b (q0o T (isR T q1f r)))=pe at hrel ⊢
   obtain ⟨e,r5⟩:=pe
   dsimp only at hrel ⊢
   rw [q18]
   have hb0:sget (sdel S b) b=none:=by rw [q0a,if_pos rfl]
   have hb4':sget (sdel S b) b4=none:=by rw [q0a,if_neg m2];exact k4
   have q1:∀ X cs,sget (supd (supd X b4 (.cells 53 cs 6)) b (rdO T r5)) b=some (rdO T r5):=fun X cs=>q1c
   have q2:q0j (supd (supd (supd (supd (supd S b2 c43) b4 c43) b (rdO T (q0o T (isR T q1f r)))) b4 (.cells 53 [.str nm,.nils,.int .i64 0,.str ⟨#[]⟩,.str ⟨#[]⟩,.nils] 6)) b (rdO T r5)) b4=some (53,[.str nm,.nils,.int .i64 0,.str ⟨#[]⟩,.str ⟨#[]⟩,.nils],6):=ob4 _ _ _
   have q3:q0j (supd (supd (supd (supd (supd S b2 c43) b4 c43) b (rdO T (q0o T (isR T q1f r)))) b4 (.cells 53 [.str nm,.nils,.int .i64 0,.str ⟨#[]⟩,.str ⟨#[]⟩,.nils] 6)) b (rdO T r5)) b2=some (53,[.str ⟨#[]⟩,.nils,.int .i64 0,.str ⟨#[]⟩,.str ⟨#[]⟩,.nils],6):=by
    refine objAt_some.2 ?_
    simp [q01,m1,m2,m3,n1,n2,n3]
   have q4:Sub (sdel S b) (supd (supd (supd (supd (supd S b2 c43) b4 c43) b (rdO T (q0o T (isR T q1f r)))) b4 (.cells 53 [.str nm,.nils,.int .i64 0,.str ⟨#[]⟩,.str ⟨#[]⟩,.nils] 6)) b (rdO T r5)):=((hsub0.supd hb0).supd hb4').supd hb0
   have q1:=q1 (supd (supd (supd S b2 c43) b4 c43) b (rdO T (q0o T (isR T q1f r)))) [.str nm,.nils,.int .i64 0,.str ⟨#[]⟩,.str ⟨#[]⟩,.nils]
   generalize supd (supd (supd (supd (supd S b2 c43) b4 c43) b (rdO T (q0o T (isR T q1f r)))) b4 (.cells 53 [.str nm,.nils,.int .i64 0,.str ⟨#[]⟩,.str ⟨#[]⟩,.nils] 6)) b (rdO T r5)=S5 at q1 q2 q3 q4 ⊢
   (try simp only [rwp,hwR,zA,zB,zC,zD,zE,zF,zG,zH,zI,q2,q3,q0d,q1e,if_neg n3])
   refine fin ⟨nm,[],e⟩ true r5 _ nm .nils e.kind _ _ _ hrel (by rw [q01,if_neg n2];exact q1) (q4.supd hb4') ?_
   rw [q0i]
   exact .cons (.same _) (.cons (.nils 2) (.cons (.same _) (.cons (.same _) (.cons (.same _) (.cons (.same _) .nil)))))
  | false=>
   rw [q97 hd,q0t hS0]
   have hrel:relP T r=((⟨⟨#[]⟩,[],zeroE⟩,false),r):=by
    rw [relP,if_neg (by rw [hi];simp),if_neg (by rw [hd];simp)]
   (try simp only [rwp,hwR,zA,zB,zC,zD,zE,zF,zG,zH,zI,if_neg n3,if_neg m3])
   refine fin ⟨⟨#[]⟩,[],zeroE⟩ false r _ _ .nils 0 _ _ _ hrel hS0 hsub0 ?_
   rw [q0i]
   exact .cons (.same _) (.cons (.nils 2) (.cons (.same _) (.cons (.same _) (.cons (.same _) (.cons (.nils 4) .nil)))))
set_option maxRecDepth 4000
def bl (s:ByteArray):List UInt8:=s.data.toList
def mkB (l:List UInt8):ByteArray:=⟨l.toArray⟩
theorem mkB_bl (s:ByteArray):mkB (bl s)=s:=by cases s;rfl
theorem q5s (s:ByteArray):(bl s).length=s.size:=by cases s;simp [bl,ByteArray.size]
theorem bl_extract (s:ByteArray) (i j:Nat):bl (s.extract i j)=((bl s).take j).drop i:=by
 unfold bl
 rw [ByteArray.data_extract,Array.toList_extract,List.extract_eq_take_drop,List.drop_take]
theorem q61 (s:ByteArray) (i j:Nat):s.extract i j=mkB (((bl s).take j).drop i):=by rw [← bl_extract,mkB_bl]
theorem bl_get (s:ByteArray) (i:Nat):s[i]?=(bl s)[i]?:=q81 s i
def q3k:Nat→List UInt8→Nat
 | _,[]=>0
 | i,c :: r=>if atN i c.toNat then q3k (i+1) r+1 else 0
theorem wordL_le:∀ {l:List UInt8} {i:Nat},q3k i l≤l.length
 | [],i=>by simp [q3k]
 | c :: r,i=>by
  unfold q3k
  have:=wordL_le (l:=r) (i:=i+1)
  split
  ·simp;omega
  ·simp
theorem c_word {s:ByteArray} (hs:s.size≤1125899906842624):AFun PG nrx128 [.str s] (.int .i64 (q3k 0 (bl s))):=by
 intro S
 refine wx128 ?_
 unfold Bx128
 refine LoopP.introS (fun i:Nat=>[(0,.str s),(3,.int .i64 i)]) (fun i S'=>S'=S∧i≤s.size∧q3k 0 (bl s)=i+q3k i ((bl s).drop i)) (fun i=>s.size-i) 0 ⟨rfl,by omega,by simp⟩ rfl ?_
 rintro i S' ⟨rfl,hi,hf⟩ r hr
 cases h0:decide ((i:Int)<s.size) with
 | false=>
  have hd:(bl s).drop i=[]:=List.drop_of_length_le (by rw [q5s];have:=of_decide_eq_false h0;omega)
  rw [hd,q3k] at hf
  (try simp only [rwp,hwR,zA,zB,zC,zD,zE,zF,zG,zH,zI,C128_1,h0,C128_2,C128_3,C128_4,C128_5,C128_6,C128_7,C128_8,C128_9,C128_10,C128_11])
  exact q02 ⟨by rw [hf];rfl,rfl⟩
 | true=>
  have hlt:=of_decide_eq_true h0
  obtain ⟨b,hb⟩:=q51 hlt
  have hd:=q0e (l:=bl s) (by rw [← bl_get];exact hb)
  rw [hd,q3k] at hf
  have ea:atN i b.toNat=((decide (97≤(b.toNat:Int))&&decide ((b.toNat:Int)≤122))||(decide (0<(i:Int))&&(decide ((b.toNat:Int)=95)||(decide (48≤(b.toNat:Int))&&decide ((b.toNat:Int)≤57))))):=by
   have:(!decide ((i:Int)=0))=decide (0<(i:Int)):=by rw [← decide_not];congr 1;exact propext (by omega)
   simp only [atN,q66,digitN,this]
  have good:atN i b.toNat=true→r [(0,.str s),(3,.int .i64 ((i:Int)+1))] S':=fun h=>by
   rw [if_pos h] at hf
   exact hr (i+1) _ ⟨rfl,by omega,by omega⟩ (by omega)
  have bad:atN i b.toNat=false→q3k 0 (bl s)=i:=fun h=>by
   rw [if_neg (by rw [h];simp)] at hf
   exact hf
  cases h1:decide (97≤(b.toNat:Int))<;>cases h2:decide ((b.toNat:Int)≤122)<;>cases h3:decide (0<(i:Int))<;>cases h4:decide ((b.toNat:Int)=95)<;>cases h5:decide (48≤(b.toNat:Int))<;>cases h6:decide ((b.toNat:Int)≤57) <;>
   simp only [h1,h2,h3,h4,h5,h6,Bool.true_and,Bool.false_and,Bool.and_true,Bool.and_false,Bool.or_true,Bool.true_or,Bool.or_false,Bool.false_or,Bool.not_true,Bool.not_false] at ea <;>
   (try simp only [rwp,hwR,zA,zB,zC,zD,zE,zF,zG,zH,zI,C128_1,h0,hb,C128_2,C128_3,C128_4,C128_5,C128_6,C128_7,C128_8,C128_9,C128_10,C128_11,h1,h2,h3,h4,h5,h6]) <;>
   first
    | exact q02 ⟨by rw [bad ea],rfl⟩
    | ((simp (disch:=omega) only [q04]);exact q08 rfl (good ea))
set_option maxRecDepth 4000
def signs:ByteArray:=⟨#[58,124,35,43,45,38,46,40,41]⟩
def signF (c:UInt8):ByteArray:=if c∈[58,124,35,43,45,38,46,40,(41:UInt8)] then mkB [c] else ⟨#[63]⟩
theorem signs_get {i:Nat} {c:UInt8} (h:signs[i]?=some c):c∈[58,124,35,43,45,38,46,40,(41:UInt8)]∧signs.extract i (i+1)=mkB [c]:=by
 rw [bl_get] at h
 have hm:=List.mem_of_getElem? h
 refine ⟨hm,?_⟩
 rw [q61,List.drop_take,show i+1-i=1 by omega,q0e h]
 rfl
theorem c_sign (c:UInt8):AFun PG nrx129 [.int .u8 c.toNat] (.str (signF c)):=by
 intro S
 refine wx129 ?_
 unfold Bx129
 refine LoopP.introS (fun i:Nat=>[(0,.int .u8 c.toNat),(3,.str signs),(4,.int .i64 i)]) (fun i S'=>S'=S∧i≤9∧∀ j b,j<i→signs[j]?=some b→b≠c) (fun i=>9-i) 0 ⟨rfl,by omega,by omega⟩ rfl ?_
 rintro i S' ⟨rfl,hi,hn⟩ r hr
 have hsz:signs.size=9:=rfl
 (try simp only [rwp,hwR,zA,zB,zC,zD,zE,zF,zG,zH,zI,C129_1,hsz])
 (refine q03 (fun hlt=>?_) (fun hlt=>?_)<;>(try simp only [hlc] at hlt))
 ·obtain ⟨b,hb⟩:=q51 (s:=signs) (i:=i) (by rw [hsz];omega)
  obtain ⟨h1,h2⟩:=signs_get hb
  (try simp only [rwp,hwR,zA,zB,zC,zD,zE,zF,zG,zH,zI,hb])
  (refine q03 (fun he=>?_) (fun he=>?_)<;>(try simp only [hlc] at he))
  ·have hbc:b=c:=UInt8.toNat_inj.1 (by omega)
   subst hbc
   (simp (disch:=omega) only [q04])
   (try simp only [rwp,hwR,zA,zB,zC,zD,zE,zF,zG,zH,zI,hsz])
   refine ⟨by omega,by omega,?_⟩
   rw [show ((i:Int)+1).toNat=i+1 by omega,h2]
   exact q02 ⟨by rw [signF,if_pos h1],rfl⟩
  ·(simp (disch:=omega) only [q04])
   refine q08 rfl (hr (i+1) _ ⟨rfl,by omega,fun j x hj hx=>?_⟩ (by omega))
   rcases Nat.lt_succ_iff_lt_or_eq.1 hj with h | rfl
   ·exact hn j x h hx
   ·rw [hb] at hx;cases hx
    rintro rfl
    exact he rfl
 ·refine q02 ⟨?_,rfl⟩
  rw [signF,if_neg]
  intro hm
  obtain ⟨j,hj⟩:=List.getElem?_of_mem hm
  have h9:signs[j]?=some c:=by rw [bl_get];exact hj
  exact hn j c (by have:=q80 h9;omega) h9 rfl
def tokL:Nat→List UInt8→Nat→Nat→List Tk
 | 0,_,_,_=>[]
 | _+1,[],line,col=>[⟨⟨#[]⟩,line,col⟩]
 | f+1,c :: r,line,col=>
  if c.toNat=32∨c.toNat=9∨c.toNat=10 then tokL f r (if c.toNat=10 then line+1 else line) (if c.toNat=10 then 1 else col+1)
  else if q3k 0 (c :: r)=0 then (if signF c=⟨#[63]⟩ then [⟨⟨#[63]⟩,line,col⟩] else ⟨signF c,line,col⟩ :: tokL f r line (col+1))
  else ⟨mkB ((c :: r).take (q3k 0 (c :: r))),line,col⟩ :: tokL f ((c :: r).drop (q3k 0 (c :: r))) line (col+q3k 0 (c :: r))
def tokT (s:ByteArray):List Tk:=tokL (s.size+1) (bl s) 1 1
theorem c_Tokens {s:ByteArray} (hs:s.size≤4096):AFun PG nrx83 [.str s] (.sl 3 ((tokT s).map tkC)):=by
 intro S
 refine wx83 ?_
 unfold Bx83
 refine LoopP.introS (fun p:AV×Nat×Nat×Nat=>[(0,.str s),(3,p.1),(4,.int .i64 p.2.1),(5,.int .i64 p.2.2.1),(6,.int .i64 p.2.2.2)])
  (fun p S'=>p.2.2.2≤s.size∧p.2.1≤p.2.2.2+1∧p.2.2.1≤p.2.2.2+1∧Sub S S'∧∃ (d:List Tk) (f:Nat),s.size-p.2.2.2<f∧d.length≤p.2.2.2∧LstN S S' 149 3 p.1 (d.map tkC)∧d++tokL f ((bl s).drop p.2.2.2) p.2.1 p.2.2.1=tokT s) (fun p=>s.size-p.2.2.2) (.nils,1,1,0)
  ⟨Nat.zero_le _,Nat.le_refl _,Nat.le_refl _,Sub.refl S,[],s.size+1,by dsimp only;omega,by simp,.nil,rfl⟩ rfl ?_
 rintro ⟨v,line,col,i⟩ S1 ⟨hi,hln,hcl,hs1,d,f,hf,hd,hl,ht⟩ q hq
 dsimp only at hi hln hcl hf hd hl ht
 obtain ⟨f,rfl⟩:∃ m,f=m+1:=⟨f-1,by omega⟩
 (try simp only [rwp,hwR,zA,zB,zC,zD,zE,zF,zG,zH,zI,C83_1])
 (refine q03 (fun hlt=>?_) (fun hlt=>?_)<;>(try simp only [hlc] at hlt))
 ·obtain ⟨c,hc⟩:=q51 hlt
  have hdc:=q0e (l:=bl s) (by rw [← bl_get];exact hc)
  rw [hdc,tokL] at ht
  (try simp only [rwp,hwR,zA,zB,zC,zD,zE,zF,zG,zH,zI,hc])
  have ws:∀ w:Bool,w=(decide (c.toNat=32∨c.toNat=9∨c.toNat=10))→C83_3 (fun ae S'=>ae=.ret (.sl 3 ((tokT s).map tkC))∧S'=S) q (.str s) v (.int .i64 line) (.int .i64 col) (.int .i64 i) (.int .u8 c.toNat) (.bool w) S1:=by
   intro w hw
   unfold C83_3
   cases w with
   | true=>
    have hw:=of_decide_eq_true hw.symm
    rw [if_pos hw] at ht
    cases a3:decide ((c.toNat:Int)=10) with
    | true=>
     have h10:c.toNat=10:=by have:=of_decide_eq_true a3;omega
     rw [if_pos h10,if_pos h10] at ht
     (try simp only [rwp,hwR,zA,zB,zC,zD,zE,zF,zG,zH,zI,a3])
     (simp (disch:=omega) only [q04])
     refine q08 rfl (hq (v,line+1,1,i+1) S1 ⟨by dsimp only;omega,by dsimp only;omega,by dsimp only;omega,hs1,d,f,by dsimp only;omega,by dsimp only;omega,hl,ht⟩ (by dsimp only;omega))
    | false=>
     have h10:¬ c.toNat=10:=by have:=of_decide_eq_false a3;omega
     rw [if_neg h10,if_neg h10] at ht
     (try simp only [rwp,hwR,zA,zB,zC,zD,zE,zF,zG,zH,zI,a3])
     (simp (disch:=omega) only [q04])
     refine q08 rfl (hq (v,line,col+1,i+1) S1 ⟨by dsimp only;omega,by dsimp only;omega,by dsimp only;omega,hs1,d,f,by dsimp only;omega,by dsimp only;omega,hl,ht⟩ (by dsimp only;omega))
   | false=>
    have hw:=of_decide_eq_false hw.symm
    rw [if_neg hw] at ht
    have low:∀ (x:ByteArray) (w:Nat),1≤w→i+w≤s.size→tokT s=d++(if x=⟨#[63]⟩ then [⟨⟨#[63]⟩,line,col⟩] else ⟨x,line,col⟩ :: tokL f ((bl s).drop (i+w)) line (col+w))→C83_4 (fun ae S'=>ae=.ret (.sl 3 ((tokT s).map tkC))∧S'=S) q (.str s) v (.int .i64 line) (.int .i64 col) (.int .i64 i) (.int .i64 w) (.str x) S1:=by
     intro x w hw1 hw2 hx
     unfold C83_4
     (try simp only [rwp,hwR,zA,zB,zC,zD,zE,zF,zG,zH,zI])
     refine hl.app hs1 (xs:=[tkC ⟨x,line,col⟩]) (fun r hr=>by rw [List.mem_singleton] at hr;subst hr;rfl) rfl (by simp;omega) ?_
     intro v' S2 h1 h2 _
     (try simp only [rwp,hwR,zA,zB,zC,zD,zE,zF,zG,zH,zI])
     (refine q03 (fun hq3=>?_) (fun hq3=>?_)<;>(try simp only [hlc] at hq3))
     ·rw [if_pos hq3] at hx
      have e1:(d.map tkC)++[tkC ⟨x,line,col⟩]=(tokT s).map tkC:=by rw [hx,hq3];simp
      rw [e1] at h2
      exact q3l h1 h2 ⟨rfl,rfl⟩
     ·rw [if_neg (by simpa using hq3)] at hx
      (simp (disch:=omega) only [q04])
      rw [show (i:Int)+(w:Int)=((i+w:Nat):Int) from rfl,show (col:Int)+(w:Int)=((col+w:Nat):Int) from rfl]
      refine q08 rfl (hq (v',line,col+w,i+w) S2 ⟨by dsimp only;omega,by dsimp only;omega,by dsimp only;omega,h1,d++[⟨x,line,col⟩],f,by dsimp only;omega,by simp;omega,by simpa using h2,?_⟩ (by dsimp only;omega))
      dsimp only
      rw [hx]
      simp
    have hbe:bl (s.extract i s.size)=c :: (bl s).drop (i+1):=by
     rw [bl_extract,List.take_of_length_le (by rw [q5s];exact Nat.le_refl _),hdc]
    have hwl:=wordL_le (l:=c :: (bl s).drop (i+1)) (i:=0)
    have hcl2:(c :: (bl s).drop (i+1)).length=s.size-i:=by rw [← hdc,List.length_drop,q5s]
    rw [hcl2] at hwl
    have hcw:=c_word (s:=s.extract i s.size) (by rw [ByteArray.size_extract];omega)
    rw [hbe] at hcw
    (try simp only [rwp,hwR,zA,zB,zC,zD,zE,zF,zG,zH,zI])
    refine ⟨by omega,by omega,?_⟩
    refine q05 hcw ?_
    have hw0:∀ r,q3k 0 (c :: r)≠0→c≠63:=fun r h=>by
     rintro rfl
     apply h
     unfold q3k
     rw [if_neg (by decide)]
    have hw0:=hw0 ((bl s).drop (i+1))
    have htk:(c :: (bl s).drop (i+1)).drop (q3k 0 (c :: (bl s).drop (i+1)))=(bl s).drop (i+q3k 0 (c :: (bl s).drop (i+1))):=by
     rw [← hdc,List.drop_drop]
    have hex:s.extract i (i+q3k 0 (c :: (bl s).drop (i+1)))=mkB ((c :: (bl s).drop (i+1)).take (q3k 0 (c :: (bl s).drop (i+1)))):=by
     rw [q61,List.drop_take,Nat.add_sub_cancel_left,hdc]
    rw [htk] at ht
    generalize hn:q3k 0 (c :: (bl s).drop (i+1))=n at *
    (try simp only [rwp,hwR,zA,zB,zC,zD,zE,zF,zG,zH,zI])
    (simp (disch:=omega) only [q04])
    (try simp only [rwp,hwR,zA,zB,zC,zD,zE,zF,zG,zH,zI])
    refine ⟨by omega,by omega,?_⟩
    rw [show ((i:Int)+(n:Int)).toNat=i+n by omega,hex]
    (refine q03 (fun hn0=>?_) (fun hn0=>?_)<;>(try simp only [hlc] at hn0))
    ·have hn0:n=0:=by omega
     refine q05 (c_sign c) ?_
     rw [if_pos hn0] at ht
     refine low _ 1 (by omega) (by omega) ?_
     rw [← ht]
    ·have hn0:¬ n=0:=by omega
     rw [if_neg hn0] at ht
     refine low _ n (by omega) (by omega) ?_
     rw [← ht,if_neg]
     intro h63
     have h1:=congrArg bl h63
     obtain ⟨m,hm⟩:∃ m,n=m+1:=⟨n-1,by omega⟩
     rw [hm,List.take_succ_cons] at h1
     have h2:c :: ((bl s).drop (i+1)).take m=[63]:=by
      have:bl (mkB (c :: ((bl s).drop (i+1)).take m))=c :: ((bl s).drop (i+1)).take m:=by simp [bl,mkB]
      rw [← this,h1];rfl
     exact hw0 hn0 (List.cons.inj h2).1
  cases a1:decide ((c.toNat:Int)=32)<;>cases a2:decide ((c.toNat:Int)=9)<;>cases a3:decide ((c.toNat:Int)=10) <;>
   (try simp only [rwp,hwR,zA,zB,zC,zD,zE,zF,zG,zH,zI,C83_2,a1,a2,a3])<;>refine ws _ ?_<;>simp only [decide_eq_true_eq,decide_eq_false_iff_not] at a1 a2 a3<;>(symm;first | exact decide_eq_true (by omega) | exact decide_eq_false (by omega))
 ·rw [List.drop_of_length_le (by rw [q5s];omega),tokL] at ht
  (try simp only [rwp,hwR,zA,zB,zC,zD,zE,zF,zG,zH,zI])
  refine hl.app hs1 (xs:=[tkC ⟨⟨#[]⟩,line,col⟩]) (fun r hr=>by rw [List.mem_singleton] at hr;subst hr;rfl) rfl (by simp;omega) ?_
  intro v' S2 h1 h2 _
  have e1:(d.map tkC)++[tkC ⟨⟨#[]⟩,line,col⟩]=(tokT s).map tkC:=by rw [← ht];simp
  rw [e1] at h2
  exact q3l h1 h2 ⟨rfl,rfl⟩
theorem q71:∀ {f:Nat} {l:List UInt8} {a b:Nat},(tokL f l a b).length≤l.length+1
 | 0,l,a,b=>by simp [tokL]
 | f+1,[],a,b=>by simp [tokL]
 | f+1,c :: r,a,b=>by
  unfold tokL
  split
  ·have:=q71 (f:=f) (l:=r) (a:=if c.toNat=10 then a+1 else a) (b:=if c.toNat=10 then 1 else b+1)
   simp only [List.length_cons];omega
  ·split
   ·split
    ·simp
    ·have:=q71 (f:=f) (l:=r) (a:=a) (b:=b+1)
     simp only [List.length_cons];omega
   ·rename_i h0
    have:=q71 (f:=f) (l:=(c :: r).drop (q3k 0 (c :: r))) (a:=a) (b:=b+q3k 0 (c :: r))
    have h2:((c :: r).drop (q3k 0 (c :: r))).length≤r.length:=by
     rw [List.length_drop,List.length_cons];omega
    simp only [List.length_cons];omega
theorem mkB_size {l:List UInt8}:(mkB l).size=l.length:=by simp [mkB,ByteArray.size]
theorem signF_size {c:UInt8}:(signF c).size≤1:=by
 unfold signF
 split
 ·rw [mkB_size];exact Nat.le_refl _
 ·decide
theorem q70:∀ {f:Nat} {l:List UInt8} {a b:Nat},∀ t∈tokL f l a b,t.s.size≤l.length+1
 | 0,l,a,b,t,ht=>by cases ht
 | f+1,[],a,b,t,ht=>by
  rw [tokL,List.mem_singleton] at ht
  subst ht
  exact Nat.zero_le _
 | f+1,c :: r,a,b,t,ht=>by
  unfold tokL at ht
  split at ht
  ·have:=q70 t ht
   simp only [List.length_cons];omega
  ·split at ht
   ·split at ht
    ·rw [List.mem_singleton] at ht
     subst ht
     exact Nat.le_add_left _ _
    ·rcases List.mem_cons.1 ht with rfl | ht
     ·have:=signF_size (c:=c);dsimp only;omega
     ·have:=q70 t ht
      simp only [List.length_cons];omega
   ·rcases List.mem_cons.1 ht with rfl | ht
    ·dsimp only
     rw [mkB_size,List.length_take]
     omega
    ·have:=q70 t ht
     rw [List.length_drop] at this
     omega
theorem q72:∀ {f:Nat} {l:List UInt8} {a b:Nat} {t:Tk},(tokL f l a b).getLast?=some t→l.length<f→t.s=⟨#[]⟩∨t.s=⟨#[63]⟩
 | 0,l,a,b,t,ht,hf=>by omega
 | f+1,[],a,b,t,ht,hf=>by
  rw [tokL] at ht
  simp at ht
  subst ht
  exact .inl rfl
 | f+1,c :: r,a,b,t,ht,hf=>by
  have hne:∀ {f:Nat} {l:List UInt8} {a b:Nat},l.length<f→tokL f l a b≠[]:=by
   intro f
   induction f with
   | zero=>intro l a b h;omega
   | succ f ih=>
    intro l a b h
    cases l with
    | nil=>simp [tokL]
    | cons c r=>
     unfold tokL
     simp only [List.length_cons] at h
     split
     ·exact ih (by omega)
     ·split
      ·split<;>simp
      ·simp
  simp only [List.length_cons] at hf
  unfold tokL at ht
  split at ht
  ·exact q72 ht (by omega)
  ·split at ht
   ·split at ht
    ·simp at ht
     subst ht
     exact .inr rfl
    ·rw [List.getLast?_cons_of_ne_nil (hne (by omega))] at ht
     exact q72 ht (by omega)
   ·rename_i h0
    have hl:((c :: r).drop (q3k 0 (c :: r))).length<f:=by
     rw [List.length_drop,List.length_cons];omega
    rw [List.getLast?_cons_of_ne_nil (hne hl)] at ht
    exact q72 ht hl
theorem tokT_ok {s:ByteArray} (hs:s.size≤4096):OkTk (tokT s):=by
 have h1:=q71 (f:=s.size+1) (l:=bl s) (a:=1) (b:=1)
 rw [q5s] at h1
 refine ⟨?_,fun t ht=>?_,fun t ht=>?_⟩
 ·unfold tokT;omega
 ·have:=q70 t ht
  rw [q5s] at this
  omega
 ·rw [← List.getLast?_eq_getElem?] at ht
  exact q72 ht (by rw [q5s];omega)
structure RsSt (T:List Tk) (r:Rd) (p:List Rl×Rd):Prop where
 st:StepR T r p.2 0
 len:p.1.length≤p.2.at'
 ok:∀ x∈p.1,OkR x
 sz:p.2.de=0→∀ x∈p.1,rsz x≤p.2.at'
theorem rels_next {T:List Tk} (hT:OkTk T) {r0 r:Rd} (hp0:Pre T 12 r0) {l:List Rl} (h:RsSt T r0 (l,r)) :
  ((relP T r).1.2=true→RsSt T r0 (l++[(relP T r).1.1],(relP T r).2)∧r.at'+1≤(relP T r).2.at')∧RsSt T r0 (l,(relP T r).2):=by
 have hp:=h.st.pre hp0
 obtain ⟨h1,h2,h3⟩:=rel_ok hT hp
 have h5:=h.len
 have h6:=h1.mono
 dsimp only at h1 h5 h6 hp
 refine ⟨fun hf=>⟨⟨(h.st.trans h1).le (by omega),?_,fun x hx=>?_,fun h0 x hx=>?_⟩,h3 hf⟩,⟨(h.st.trans h1).le (by omega),by dsimp only;omega,h.ok,fun h0 x hx=>?_⟩⟩
 ·have:=h3 hf
  dsimp only at this
  simp only [List.length_append,List.length_cons,List.length_nil]
  omega
 ·rcases List.mem_append.1 hx with hx | hx
  ·exact h.ok x hx
  ·rw [List.mem_singleton.1 hx];exact h2
 ·dsimp only at h0 ⊢
  rcases List.mem_append.1 hx with hx | hx
  ·have:=h.sz (h1.fault h0) x hx
   dsimp only at this
   omega
  ·rw [List.mem_singleton.1 hx]
   have:=h1.sz h0
   rw [if_pos hf] at this
   omega
 ·dsimp only at h0 ⊢
  have:=h.sz (h1.fault h0) x hx
  dsimp only at this
  omega
theorem relsL_ok {T:List Tk} (hT:OkTk T) {r0:Rd} (hp0:Pre T 12 r0):∀ {f:Nat} {p:List Rl×Rd},RsSt T r0 p→RsSt T r0 (q45 T f p)
 | 0,p,h=>h
 | f+1,(l,r),h=>by
  obtain ⟨k1,k2⟩:=rels_next hT hp0 h
  unfold q45
  split
  ·rename_i hi
   exact relsL_ok hT hp0 (k1 hi).1
  ·exact k2
theorem relsL_more {T:List Tk} (hT:OkTk T) {r0:Rd} (hp0:Pre T 12 r0):∀ {f g:Nat} {p:List Rl×Rd},RsSt T r0 p→T.length≤f+p.2.at'→T.length≤g+p.2.at'→q45 T f p=q45 T g p
 | 0,g,p,h,h1,h2=>by have h3:p.2.at'<T.length:=h.st.inr;omega
 | f+1,0,p,h,h1,h2=>by have h3:p.2.at'<T.length:=h.st.inr;omega
 | f+1,g+1,(l,r),h,h1,h2=>by
  dsimp only at h1 h2
  obtain ⟨k1,k2⟩:=rels_next hT hp0 h
  unfold q45
  split
  ·rename_i hi
   obtain ⟨k3,k4⟩:=k1 hi
   exact relsL_more hT hp0 k3 (by dsimp only;omega) (by dsimp only;omega)
  ·rfl
structure TsSt (T:List Tk) (p:List Ty×Rd):Prop where
 pre:Pre T 12 p.2
 len:p.1.length≤p.2.at'
 ok:∀ t∈p.1,OkT t
 sz:p.2.de=0→∀ t∈p.1,∀ x∈t.rels,rsz x≤p.2.at'
theorem q8b {T:List Tk} (hT:OkTk T) {l:List Ty} {r:Rd} (h:TsSt T (l,r)) (hi:isP T q27 r=true) :
  Pre T 12 (isR T q27 r)∧Pre T 12 (q0o T (isR T q27 r))∧RsSt T (q0o T (isR T q27 r)) (q45 T T.length ([],q0o T (isR T q27 r))) ∧
  TsSt T (l++[⟨q2q T (isR T q27 r),(q45 T T.length ([],q0o T (isR T q27 r))).1⟩],(q45 T T.length ([],q0o T (isR T q27 r))).2)∧r.at'+1≤(q45 T T.length ([],q0o T (isR T q27 r))).2.at':=by
 have hp:Pre T 12 r:=h.pre
 have h1:=q2m hT hp hi (by decide +kernel) (by decide +kernel)
 have hp1:=h1.pre hp
 have h2:=q1z hT hp1
 have hp2:=h2.pre hp1
 have e1:(isR T q27 r).at'=r.at'+1:=by rw [isR,if_pos hi]
 have hR:=relsL_ok hT hp2 (f:=T.length) (p:=([],q0o T (isR T q27 r))) ⟨StepR.refl hp2,Nat.zero_le _,fun x hx=>(by cases hx),fun _ x hx=>(by cases hx)⟩
 have hn:=q2s hT hp1.inr
 generalize q45 T T.length ([],q0o T (isR T q27 r))=p at hR
 obtain ⟨rs,r3⟩:=p
 have m1:=h2.mono
 have m2:=hR.st.mono
 have m3:=hR.len
 have m4:=h.len
 have hin:r3.at'<T.length:=hR.st.inr
 have hTl:=hT.len
 dsimp only at m2 m3 m4 ⊢
 refine ⟨hp1,hp2,hR,⟨hR.st.pre hp2,?_,fun t ht=>?_,fun h0 t ht x hx=>?_⟩,by omega⟩
 ·simp only [List.length_append,List.length_cons,List.length_nil];omega
 ·rcases List.mem_append.1 ht with ht | ht
  ·exact h.ok t ht
  ·rw [List.mem_singleton.1 ht]
   exact ⟨hn,by dsimp only;omega,hR.ok⟩
 ·dsimp only at h0 ⊢
  rcases List.mem_append.1 ht with ht | ht
  ·have:=h.sz (h1.fault (h2.fault (hR.st.fault h0))) t ht x hx
   dsimp only at this
   omega
  ·rw [List.mem_singleton.1 ht] at hx
   exact hR.sz h0 x hx
theorem typesL_ok {T:List Tk} (hT:OkTk T):∀ {f:Nat} {p:List Ty×Rd},TsSt T p→TsSt T (q2b T f p)
 | 0,p,h=>h
 | f+1,(l,r),h=>by
  unfold q2b
  split
  ·rename_i hi
   exact typesL_ok hT (q8b hT h hi).2.2.2.1
  ·exact h
theorem typesL_more {T:List Tk} (hT:OkTk T):∀ {f g:Nat} {p:List Ty×Rd},TsSt T p→T.length≤f+p.2.at'→T.length≤g+p.2.at'→q2b T f p=q2b T g p
 | 0,g,p,h,h1,h2=>by have h3:p.2.at'<T.length:=h.pre.inr;omega
 | f+1,0,p,h,h1,h2=>by have h3:p.2.at'<T.length:=h.pre.inr;omega
 | f+1,g+1,(l,r),h,h1,h2=>by
  dsimp only at h1 h2
  unfold q2b
  split
  ·rename_i hi
   obtain ⟨-,-,-,k3,k4⟩:=q8b hT h hi
   exact typesL_more hT k3 (by dsimp only;omega) (by dsimp only;omega)
  ·rfl
theorem pre0 {T:List Tk} (h:0<T.length):Pre T 12 rd0:=⟨h,by decide,by decide,fun _=>by decide⟩
theorem ts0 {T:List Tk} (h:0<T.length):TsSt T ([],rd0):=⟨pre0 h,Nat.zero_le _,fun t ht=>(by cases ht),fun _ t ht=>(by cases ht)⟩
theorem end_step {T:List Tk} {r:Rd} (hp:Pre T 12 r):StepR T r (endR T r) 0:=by
 unfold endR
 split
 ·exact q7o _ (by decide) 0 (StepR.refl hp)
 ·exact StepR.refl hp
theorem parseT_ok {T:List Tk} (hT:OkTk T) (h:0<T.length):OkS (q78 T).1∧∀ t∈(q78 T).1,∀ x∈t.rels,rsz x≤T.length:=by
 have hR:=typesL_ok hT (f:=T.length) (ts0 h)
 have hin:(q2b T T.length ([],rd0)).2.at'<T.length:=hR.pre.inr
 have hl:=hR.len
 have hTl:=hT.len
 unfold q78
 split
 ·rename_i h0
  refine ⟨⟨by dsimp only;omega,hR.ok⟩,fun t ht x hx=>?_⟩
  have:=hR.sz ((end_step hR.pre).fault h0) t ht x hx
  omega
 ·exact ⟨⟨Nat.zero_le _,fun t ht=>(by cases ht)⟩,fun t ht=>(by cases ht)⟩
set_option maxRecDepth 4000
def Apart (u v:AV):Prop:=∀ b off n cap,v=.own b off n cap→q0x u b
theorem LstN.keep {S0 S S':q00} {t sz:Nat} {u u' v:AV} {rows:List (List AV)} (h:LstN S0 S t sz v rows) (ha:Apart u v) (hk:∀ c o,sget S c=some o→q0x u c→sget S' c=some o∧q0x u' c):LstN S0 S' t sz v rows∧Apart u' v:=by
 obtain ⟨hr,⟨rfl,rfl⟩ | ⟨b,cap,rfl,h1,h2,h3⟩⟩:=h
 ·exact ⟨.nil,fun b off n cap h=>by cases h⟩
 ·obtain ⟨k1,k2⟩:=hk b _ h2 (ha b 0 _ _ rfl)
  exact ⟨⟨hr,.inr ⟨b,cap,rfl,h1,k1,h3⟩⟩,fun b' off n cap h=>by cases h;exact k2⟩
theorem Apart.symm {u v:AV} (h:Apart u v):Apart v u:=fun b off n cap hu b' off' n' cap' hv=>Ne.symm (h b' off' n' cap' hv b off n cap hu)
theorem apart_nils {v:AV}:Apart .nils v:=fun b off n cap _=>q3t
structure PrI (S:q00) (bR b2 b3 b5:Nat) (T:List Tk) (v:AV) (p:List Ty×Rd) (S':q00):Prop where
 rd:sget S' bR=some (rdO T p.2)
 c2:sget S' b2=some (.cells 24 [.nils] 1)
 c3:sget S' b3=some (.cells 82 [.int .i64 0,.int .i64 0,.int .i64 0] 3)
 c5:sget S' b5=some (.cells 24 [v] 1)
 lst:LstN S S' 46 2 v (p.1.map tyC)
 asd:∀ c∈[bR,b2,b3,b5],q0x v c
 sub:Sub S S'
theorem PrI.mv {S S':q00} {bR b2 b3 b5:Nat} {T:List Tk} {v:AV} {l:List Ty} {r:Rd} (h:PrI S bR b2 b3 b5 T v (l,r) S') (hd:[bR,b2,b3,b5].Nodup) (hR:sget S bR=none) (r':Rd):PrI S bR b2 b3 b5 T v (l,r') (supd S' bR (rdO T r')):=by
 simp only [List.nodup_cons,List.mem_cons,not_or,List.not_mem_nil,or_false,not_false_eq_true,List.nodup_nil,and_true] at hd
 obtain ⟨⟨n2,n3,n5⟩,⟨m3,m5⟩,l5⟩:=hd
 exact ⟨by rw [q01,if_pos rfl],by rw [q01,if_neg n2];exact h.c2,by rw [q01,if_neg n3];exact h.c3,by rw [q01,if_neg n5];exact h.c5,h.lst.upd (h.asd bR (by simp)) _,h.asd,h.sub.supd hR⟩
structure PrJ (S:q00) (bR b2 b3 b5 b6:Nat) (T:List Tk) (v u:AV) (nm:ByteArray) (l:List Ty) (p:List Rl×Rd) (S':q00):Prop where
 out:PrI S bR b2 b3 b5 T v (l,p.2) S'
 c6:sget S' b6=some (.cells 46 [.str nm,u] 2)
 ins:LstN S S' 53 6 u (p.1.map rlC)
 asd:∀ c∈[bR,b2,b3,b5,b6],q0x u c
 asd6:q0x v b6
 apt:Apart u v
theorem PrJ.mv {S S':q00} {bR b2 b3 b5 b6:Nat} {T:List Tk} {v u:AV} {nm:ByteArray} {l:List Ty} {rs:List Rl} {r:Rd} (h:PrJ S bR b2 b3 b5 b6 T v u nm l (rs,r) S') (hd:[bR,b2,b3,b5].Nodup) (h6:bR≠b6) (hR:sget S bR=none) (r':Rd):PrJ S bR b2 b3 b5 b6 T v u nm l (rs,r') (supd S' bR (rdO T r')):=
 ⟨h.out.mv hd hR r',by rw [q01,if_neg h6];exact h.c6,h.ins.upd (h.asd bR (by simp)) _,h.asd,h.asd6,h.apt⟩
theorem PrJ.more {S S1:q00} {bR b2 b3 b5 b6:Nat} {T:List Tk} {v u:AV} {nm:ByteArray} {l:List Ty} {rs:List Rl} {r:Rd} (h:PrJ S bR b2 b3 b5 b6 T v u nm l (rs,r) S1) (hd6:∀ c∈[bR,b2,b3,b5],b6≠c) (k6:sget S b6=none) (x:Rl) (hlen:rs.length≤100000) {K:q00→Prop} (hK:∀ u' S3,PrJ S bR b2 b3 b5 b6 T v u' nm l (rs++[x],r) S3→K S3) :
  apW S1 53 6 104 u (.sl 6 [rlC x]) fun u' S2=>soW (q0j S2 b6) S2 1 b6 1 u' K:=by
 obtain ⟨⟨hrd,h2,h3,h5,hl,ha,hs⟩,hc6,hin,hau,ha6,hap⟩:=h
 dsimp only at hrd hl hin
 refine hin.app hs (xs:=[rlC x]) (fun r hr=>by rw [List.mem_singleton] at hr;subst hr;exact rlC_len x) (by rw [q0i];rfl) (by simp;omega) ?_
 intro u' S2 k1 k2 k3
 obtain ⟨q6,q6a⟩:=k3 b6 _ hc6 (hau b6 (by simp))
 have hone:=k2.one
 have hac:q09 u'=[u']:=by cases u'<;>first | rfl | cases hone
 obtain ⟨j1,j2⟩:=hl.keep hap k3
 rw [objAt_some.2 q6,q39,hac]
 refine ⟨rfl,by simp,by simp [ones,hone],hK u' _ ⟨⟨?_,?_,?_,?_,j1.upd ha6 _,ha,k1.supd k6⟩,by rw [q01,if_pos rfl];rfl,?_,fun c hc=>?_,ha6,j2⟩⟩
 ·rw [q01,if_neg (hd6 bR (by simp))];exact (k3 bR _ hrd (hau bR (by simp))).1
 ·rw [q01,if_neg (hd6 b2 (by simp))];exact (k3 b2 _ h2 (hau b2 (by simp))).1
 ·rw [q01,if_neg (hd6 b3 (by simp))];exact (k3 b3 _ h3 (hau b3 (by simp))).1
 ·rw [q01,if_neg (hd6 b5 (by simp))];exact (k3 b5 _ h5 (hau b5 (by simp))).1
 ·simpa using k2.upd q6a _
 ·simp only [List.mem_cons,List.not_mem_nil,or_false] at hc
  rcases hc with rfl | rfl | rfl | rfl | rfl
  ·exact (k3 _ _ hrd (hau _ (by simp))).2
  ·exact (k3 _ _ h2 (hau _ (by simp))).2
  ·exact (k3 _ _ h3 (hau _ (by simp))).2
  ·exact (k3 _ _ h5 (hau _ (by simp))).2
  ·exact q6a
theorem Frs.app {S0 S:q00}:∀ {a a' b b':List AV},Frs S0 S a a'→Frs S0 S b b'→Frs S0 S (a++b) (a'++b')
 | [],[],b,b',_,h=>h
 | [],x :: r,b,b',h,_=>by cases h.1
 | x :: r,[],b,b',h,_=>by cases h.1
 | x :: r,y :: r',b,b',h,k=>.cons (h.2 0 x y rfl rfl) (Frs.app ⟨by simpa using h.1,fun i u u' h1 h2=>h.2 (i+1) u u' (by simpa using h1) (by simpa using h2)⟩ k)
theorem PrJ.typ {S S1:q00} {bR b2 b3 b5 b6:Nat} {T:List Tk} {v u:AV} {nm:ByteArray} {l:List Ty} {rs:List Rl} {r:Rd} (h:PrJ S bR b2 b3 b5 b6 T v u nm l (rs,r) S1) (hd:[bR,b2,b3,b5].Nodup) (hd6:∀ c∈[bR,b2,b3,b5],b6≠c) (hn:∀ c∈[bR,b2,b3,b5],sget S c=none) (hlen:l.length≤100000) {q:LE→q00→Prop} {le:LE} (hK:∀ v' S3,PrI S bR b2 b3 b5 T v' (l++[⟨nm,rs⟩],r) S3→q le S3) :
  apW S1 46 2 40 v (.sl 2 [[.str nm,u]]) fun v' S2=>soW (q0j S2 b5) S2 1 b5 0 v' fun S3=>rcW q le S3:=by
 obtain ⟨⟨hrd,h2,h3,h5,hl,ha,hs⟩,hc6,hin,hau,ha6,hap⟩:=h
 dsimp only at hrd hl hin
 have honeu:=hin.one
 refine hl.app hs (xs:=[[.str nm,u]]) (fun r hr=>by rw [List.mem_singleton] at hr;subst hr;rfl) (by simp [ones,honeu];rfl) (by simp;omega) ?_
 intro v' S2 k1 k2 k3
 obtain ⟨q5,q5a⟩:=k3 b5 _ h5 (ha b5 (by simp))
 obtain ⟨qR,qRa⟩:=k3 bR _ hrd (ha bR (by simp))
 obtain ⟨q2,q2a⟩:=k3 b2 _ h2 (ha b2 (by simp))
 obtain ⟨q3,q3a⟩:=k3 b3 _ h3 (ha b3 (by simp))
 obtain ⟨j1,j2⟩:=hin.keep hap.symm k3
 have hone:=k2.one
 have hac:q09 v'=[v']:=by cases v'<;>first | rfl | cases hone
 rw [objAt_some.2 q5,q39,hac]
 refine ⟨rfl,by simp,by simp [ones,hone],?_⟩
 simp only [List.nodup_cons,List.mem_cons,not_or,List.not_mem_nil,or_false,not_false_eq_true,List.nodup_nil,and_true] at hd
 obtain ⟨⟨n2,n3,n5⟩,⟨m3,m5⟩,l5⟩:=hd
 obtain ⟨hr,⟨rfl,h0⟩ | ⟨bv,cap,rfl,e1,e2,e3,e4,e5⟩⟩:=k2
 ·simp at h0
 have dR:=qRa bv 0 _ _ rfl
 have d2:=q2a bv 0 _ _ rfl
 have d3:=q3a bv 0 _ _ rfl
 have d5:=q5a bv 0 _ _ rfl
 let S0:q00:=supd (supd (supd (supd S bR (rdO T r)) b2 (.cells 24 [.nils] 1)) b3 (.cells 82 [.int .i64 0,.int .i64 0,.int .i64 0] 3)) b5 (.cells 24 [.own bv 0 ((l.map tyC)++[[.str nm,u]]).length cap] 1)
 have hS0:Sub S0 (supd S2 b5 (.cells 24 [.own bv 0 ((l.map tyC)++[[.str nm,u]]).length cap] 1)):=by
  intro x y hx
  rw [q01] at hx ⊢
  by_cases g5:b5=x
  ·rw [if_pos g5] at hx ⊢;exact hx
  rw [if_neg g5] at hx ⊢
  rw [q01] at hx
  by_cases g3:b3=x
  ·rw [if_pos g3] at hx;rw [← g3,q3];exact hx
  rw [if_neg g3,q01] at hx
  by_cases g2:b2=x
  ·rw [if_pos g2] at hx;rw [← g2,q2];exact hx
  rw [if_neg g2,q01] at hx
  by_cases gR:bR=x
  ·rw [if_pos gR] at hx;rw [← gR,qR];exact hx
  rw [if_neg gR] at hx
  exact k1 x y hx
 have hv0:sget S0 bv=none:=by
  show sget (supd _ _ _) bv=none
  rw [q01,if_neg d5,q01,if_neg d3,q01,if_neg d2,q01,if_neg dR]
  exact e1
 have hvc:sget (supd S2 b5 (.cells 24 [.own bv 0 ((l.map tyC)++[[.str nm,u]]).length cap] 1)) bv=some (.cells 46 ((l.map tyC)++[[.str nm,u]]).flatten (cap * 2)):=by
  rw [q01,if_neg d5];exact e2
 have hcs:((l.map tyC)++[[.str nm,u]]).flatten=(l.map tyC).flatten++[.str nm,u]:=by simp
 have hcs':((l++[(⟨nm,rs⟩:Ty)]).map tyC).flatten=(l.map tyC).flatten++[.str nm,.sl 6 (rs.map rlC)]:=by simp [tyC]
 have hlen':((l++[(⟨nm,rs⟩:Ty)]).map tyC).length=((l.map tyC)++[[.str nm,u]]).length:=by simp
 refine rcW_cells (cs':=((l++[(⟨nm,rs⟩:Ty)]).map tyC).flatten) hS0 hv0 hvc ?_ (hK (.own bv 0 ((l.map tyC)++[[.str nm,u]]).length cap) _ ⟨?_,?_,?_,?_,⟨fun r hr=>?_,.inr ⟨bv,cap,by rw [hlen'],e1,by rw [q01,if_pos rfl],by rw [hlen'];exact e3,e4,by rw [hlen'];exact e5⟩⟩,fun c hc=>?_,?_⟩)
 ·rw [hcs,hcs']
  refine Frs.app (Frs.same _) (.cons (.same _) (.cons (Fr.lst (t:=53) ?_) .nil))
  obtain ⟨g1,⟨rfl,g2⟩ | ⟨bu,capu,rfl,f1,f2,f3⟩⟩:=j1
  ·exact ⟨g1,.inl ⟨rfl,g2⟩⟩
  ·refine ⟨g1,.inr ⟨bu,capu,rfl,?_,?_,f3⟩⟩
   ·have w5:=hau b5 (by simp) bu 0 _ _ rfl
    have w3:=hau b3 (by simp) bu 0 _ _ rfl
    have w2:=hau b2 (by simp) bu 0 _ _ rfl
    have wR:=hau bR (by simp) bu 0 _ _ rfl
    have wv:=j2 bu 0 _ _ rfl bv 0 _ _ rfl
    rw [q01,if_neg (Ne.symm wv)]
    show sget (supd _ _ _) bu=none
    rw [q01,if_neg w5,q01,if_neg w3,q01,if_neg w2,q01,if_neg wR]
    exact f1
   ·have w5:=hau b5 (by simp) bu 0 _ _ rfl
    rw [q01,if_neg w5];exact f2
 ·rw [q01,if_neg (Ne.symm dR)]
  show sget (supd _ _ _) bR=_
  rw [q01,if_neg (Ne.symm n5),q01,if_neg (Ne.symm n3),q01,if_neg (Ne.symm n2),q01,if_pos rfl]
 ·rw [q01,if_neg (Ne.symm d2)]
  show sget (supd _ _ _) b2=_
  rw [q01,if_neg (Ne.symm m5),q01,if_neg (Ne.symm m3),q01,if_pos rfl]
 ·rw [q01,if_neg (Ne.symm d3)]
  show sget (supd _ _ _) b3=_
  rw [q01,if_neg (Ne.symm l5),q01,if_pos rfl]
 ·rw [q01,if_neg (Ne.symm d5)]
  show sget (supd _ _ _) b5=_
  rw [q01,if_pos rfl]
 ·obtain ⟨t,-,rfl⟩:=List.mem_map.1 hr
  rfl
 ·simp only [List.mem_cons,List.not_mem_nil,or_false] at hc
  rcases hc with rfl | rfl | rfl | rfl
  ·exact qRa
  ·exact q2a
  ·exact q3a
  ·exact q5a
 ·have s1:=(Sub.refl S).supd (o:=rdO T r) (hn bR (by simp))
  exact (((((Sub.refl S).supd (hn bR (by simp))).supd (hn b2 (by simp))).supd (hn b3 (by simp))).supd (hn b5 (by simp))).supd e1
theorem tokL_ne:∀ {f:Nat} {l:List UInt8} {a b:Nat},l.length<f→tokL f l a b≠[]
 | 0,l,a,b,h=>by omega
 | f+1,[],a,b,h=>by simp [tokL]
 | f+1,c :: r,a,b,h=>by
  unfold tokL
  simp only [List.length_cons] at h
  split
  ·exact tokL_ne (by omega)
  ·split
   ·split<;>simp
   ·simp
theorem tokT_pos (s:ByteArray):0<(tokT s).length:=List.length_pos_iff.2 (tokL_ne (by rw [q5s];omega))
def q54 (s:ByteArray):List Ty×AV:=if 4096<s.size then ([],.agg [.int .i64 1,.int .i64 1,.int .i64 2]) else q78 (tokT s)
theorem c_Parse (s:ByteArray):AFun PG nrx44 [.str s] (.tup [scA (q54 s).1,(q54 s).2]):=by
 intro S
 refine wx44 ?_
 unfold Bx44
 intro b2 hb2
 (try simp only [rwp,hwR,zA,zB,zC,zD,zE,zF,zG,zH,zI])
 intro b3 hb3
 have n23:b3≠b2:=q0f hb3 (x:=.cells 24 [.nils] 1) (by rw [q01,if_pos rfl])
 have k3:sget S b3=none:=by rw [q01,if_neg (Ne.symm n23)] at hb3;exact hb3
 (try simp only [rwp,hwR,zA,zB,zC,zD,zE,zF,zG,zH,zI,if_neg n23,if_neg (Ne.symm n23)])
 (refine q03 (fun hl=>?_) (fun hl=>?_)<;>(try simp only [hlc] at hl))
 ·have hpf:q54 s=([],.agg [.int .i64 1,.int .i64 1,.int .i64 2]):=by rw [q54,if_pos (by omega)]
  rw [hpf]
  refine q5e S (.tup [scA [],.agg [.int .i64 1,.int .i64 1,.int .i64 2]]) (((((Sub.refl S).supd hb2).supd k3).supd hb2).supd k3) ?_ ⟨rfl,rfl⟩
  (try simp only [rwp,hwR,zA,zB,zC,zD,zE,zF,zG,zH,zI,if_neg n23,if_neg (Ne.symm n23)])
  exact .tu (.cons (.ag (.cons (.nils 2) .nil)) (.cons (.same _) .nil))
 have hs:s.size≤4096:=by omega
 have hT:=tokT_ok hs
 have hTl:=hT.len
 have hpf:q54 s=q78 (tokT s):=by rw [q54,if_neg (by omega)]
 refine q05 (c_Tokens hs) ?_
 have hpos:=tokT_pos s
 rw [hpf]
 generalize tokT s=T at hT hpos hTl ⊢
 clear hpf hl hs
 (try simp only [rwp,hwR,zA,zB,zC,zD,zE,zF,zG,zH,zI])
 refine ⟨rfl,rfl,fun bR hbR=>?_⟩
 have nR2:bR≠b2:=q0f hbR (x:=.cells 24 [.nils] 1) (by rw [q01,if_neg n23,q01,if_pos rfl])
 have nR3:bR≠b3:=q0f hbR (x:=.cells 82 [.int .i64 0,.int .i64 0,.int .i64 0] 3) (by rw [q01,if_pos rfl])
 have kR:sget S bR=none:=by rw [q01,if_neg (Ne.symm nR3),q01,if_neg (Ne.symm nR2)] at hbR;exact hbR
 intro b5 hb5
 have n52:b5≠b2:=q0f hb5 (x:=.cells 24 [.nils] 1) (by rw [q01,if_neg nR2,q01,if_neg n23,q01,if_pos rfl])
 have n53:b5≠b3:=q0f hb5 (x:=.cells 82 [.int .i64 0,.int .i64 0,.int .i64 0] 3) (by rw [q01,if_neg nR3,q01,if_pos rfl])
 have n5R:b5≠bR:=by
  rintro rfl
  rw [q01,if_pos rfl] at hb5;cases hb5
 have k5:sget S b5=none:=by rw [q01,if_neg (Ne.symm n5R),q01,if_neg (Ne.symm n53),q01,if_neg (Ne.symm n52)] at hb5;exact hb5
 have hd:[bR,b2,b3,b5].Nodup:=by
  simp only [List.nodup_cons,List.mem_cons,not_or,List.not_mem_nil,or_false,not_false_eq_true,List.nodup_nil,and_true]
  exact ⟨⟨nR2,nR3,Ne.symm n5R⟩,⟨Ne.symm n23,Ne.symm n52⟩,Ne.symm n53⟩
 have hn:∀ c∈[bR,b2,b3,b5],sget S c=none:=by
  intro c hc
  simp only [List.mem_cons,List.not_mem_nil,or_false] at hc
  rcases hc with rfl | rfl | rfl | rfl<;>assumption
 (try simp only [rwp,hwR,zA,zB,zC,zD,zE,zF,zG,zH,zI])
 have hI0:PrI S bR b2 b3 b5 T .nils ([],rd0) (supd (supd (supd (supd S b2 (.cells 24 [.nils] 1)) b3 (.cells 82 [.int .i64 0,.int .i64 0,.int .i64 0] 3)) bR (rdO T rd0)) b5 (.cells 24 [.nils] 1)):=by
  refine ⟨?_,?_,?_,?_,.nil,fun c _=>q3t,((((Sub.refl S).supd hb2).supd k3).supd kR).supd k5⟩<;>simp [q01,n23,nR2,nR3,n52,n53,n5R,Ne.symm n23,Ne.symm nR2,Ne.symm nR3,Ne.symm n52,Ne.symm n53,Ne.symm n5R]
 have hfin:q2b T T.length ([],rd0)=q2b T T.length ([],rd0):=rfl
 have hts:=ts0 (T:=T) hpos
 refine LoopP.introS (fun _:List Ty×Rd=>[(2,.ptr b2 0),(3,.ptr b3 0),(4,.ptr bR 0),(5,.ptr b5 0)])
  (fun p S'=>(∃ v,PrI S bR b2 b3 b5 T v p S')∧TsSt T p∧q2b T T.length p=q2b T T.length ([],rd0)) (fun p=>T.length-p.2.at') ([],rd0) ⟨⟨.nils,hI0⟩,hts,rfl⟩ rfl ?_
 clear hI0 hts hfin
 rintro ⟨l,r⟩ S1 ⟨⟨v,hI⟩,hTs,hf⟩ q hq
 have hp:Pre T 12 r:=hTs.pre
 have hin:r.at'<T.length:=hp.inr
 have hrd:=hI.rd
 have hll:=hTs.len
 dsimp only at hrd hll
 (try simp only [rwp,hwR,zA,zB,zC,zD,zE,zF,zG,zH,zI,C44_1])
 refine (c_is hT hp.inr q27).ca hrd ?_
 cases hi:isP T q27 r with
 | true=>
  obtain ⟨hp1,hp2,hR,hTs2,hmu⟩:=q8b hT hTs hi
  have hf2:q2b T T.length (l++[⟨q2q T (isR T q27 r),(q45 T T.length ([],q0o T (isR T q27 r))).1⟩],(q45 T T.length ([],q0o T (isR T q27 r))).2)=q2b T T.length ([],rd0):=by
   rw [← hf]
   obtain ⟨m,hm⟩:∃ m,T.length=m+1:=⟨T.length-1,by omega⟩
   conv=>rhs;rw [hm,q2b,if_pos hi]
   exact typesL_more hT hTs2 (by dsimp only;omega) (by dsimp only;omega)
  (try simp only [rwp,hwR,zA,zB,zC,zD,zE,zF,zG,zH,zI])
  refine (c_name hT hp1.inr).ca q1c ?_
  (try simp only [rwp,hwR,zA,zB,zC,zD,zE,zF,zG,zH,zI])
  have hI2:=(hI.mv hd kR (isR T q27 r)).mv hd kR (q0o T (isR T q27 r))
  rw [q18] at hI2
  generalize q2q T (isR T q27 r)=nm at hf2 hTs2 ⊢
  have hI2':PrI S bR b2 b3 b5 T v (l,q0o T (isR T q27 r)) (supd S1 bR (rdO T (q0o T (isR T q27 r)))):=hI2
  clear hI2
  generalize supd S1 bR (rdO T (q0o T (isR T q27 r)))=S2 at hI2' ⊢
  generalize q0o T (isR T q27 r)=r2 at hI2' hp2 hR hf2 hTs2 hmu
  intro b6 hb6
  (try simp only [rwp,hwR,zA,zB,zC,zD,zE,zF,zG,zH,zI])
  have hd6:∀ c∈[bR,b2,b3,b5],b6≠c:=by
   intro c hc
   simp only [List.mem_cons,List.not_mem_nil,or_false] at hc
   rcases hc with rfl | rfl | rfl | rfl
   ·exact q0f hb6 hI2'.rd
   ·exact q0f hb6 hI2'.c2
   ·exact q0f hb6 hI2'.c3
   ·exact q0f hb6 hI2'.c5
  have k6:=Sub.none hI2'.sub hb6
  have hJ0:PrJ S bR b2 b3 b5 b6 T v .nils nm l ([],r2) (supd S2 b6 (.cells 46 [.str nm,.nils] 2)):=by
   have a6:=hI2'.lst.fresh hb6
   refine ⟨⟨?_,?_,?_,?_,hI2'.lst.upd a6 _,hI2'.asd,hI2'.sub.supd k6⟩,by rw [q01,if_pos rfl],.nil,fun c _=>q3t,a6,apart_nils⟩
   ·rw [q01,if_neg (hd6 bR (by simp))];exact hI2'.rd
   ·rw [q01,if_neg (hd6 b2 (by simp))];exact hI2'.c2
   ·rw [q01,if_neg (hd6 b3 (by simp))];exact hI2'.c3
   ·rw [q01,if_neg (hd6 b5 (by simp))];exact hI2'.c5
  have hRs0:RsSt T r2 ([],r2):=⟨StepR.refl hp2,Nat.zero_le _,fun x hx=>(by cases hx),fun _ x hx=>(by cases hx)⟩
  refine LoopP.introS (fun _:List Rl×Rd=>[(2,.ptr b2 0),(3,.ptr b3 0),(4,.ptr bR 0),(5,.ptr b5 0),(6,.ptr b6 0)])
   (fun p S'=>(∃ u,PrJ S bR b2 b3 b5 b6 T v u nm l p S')∧RsSt T r2 p∧q45 T T.length p=q45 T T.length ([],r2)) (fun p=>T.length-p.2.at') ([],r2) ⟨⟨.nils,hJ0⟩,hRs0,rfl⟩ rfl ?_
  clear hJ0 hRs0 hI2'
  rintro ⟨rs,r3⟩ S3 ⟨⟨u,hJ⟩,hRs,hfr⟩ q2 hq2
  have hp3:=hRs.st.pre hp2
  have hin3:r3.at'<T.length:=hp3.inr
  have hlr:=hRs.len
  dsimp only at hlr
  obtain ⟨k1,k2⟩:=rels_next hT hp2 hRs
  (try simp only [rwp,hwR,zA,zB,zC,zD,zE,zF,zG,zH,zI,C44_4])
  refine (c_rel hT hp3).ca hJ.out.rd ?_
  have hJ2:=hJ.mv hd (Ne.symm (hd6 bR (by simp))) kR (relP T r3).2
  have o6:=objAt_some.2 hJ2.c6
  have o5:=objAt_some.2 hJ2.out.c5
  cases hok:(relP T r3).1.2 with
  | true=>
   obtain ⟨k3',k4⟩:=k1 hok
   have hfr2:q45 T T.length (rs++[(relP T r3).1.1],(relP T r3).2)=q45 T T.length ([],r2):=by
    rw [← hfr]
    obtain ⟨m,hm⟩:∃ m,T.length=m+1:=⟨T.length-1,by omega⟩
    conv=>rhs;rw [hm,q45,if_pos hok]
    exact relsL_more hT hp2 k3' (by dsimp only;omega) (by dsimp only;omega)
   have hmr:=hJ2.more hd6 k6 (relP T r3).1.1 (by omega) (K:=fun S4=>rcW q2 [(2,.ptr b2 0),(3,.ptr b3 0),(4,.ptr bR 0),(5,.ptr b5 0),(6,.ptr b6 0)] S4) fun u' S4 hJ4=>q08 rfl (hq2 (rs++[(relP T r3).1.1],(relP T r3).2) S4 ⟨⟨u',hJ4⟩,k3',hfr2⟩ (by dsimp only;omega))
   simp only [q0i] at hmr
   (try simp only [rwp,hwR,zA,zB,zC,zD,zE,zF,zG,zH,zI,q0i,q07 o6,q1e])
   exact hmr
  | false=>
   have hstop:q45 T T.length (rs,r3)=(rs,(relP T r3).2):=by
    obtain ⟨m,hm⟩:∃ m,T.length=m+1:=⟨T.length-1,by omega⟩
    rw [hm,q45,if_neg (by rw [hok];simp)]
   rw [hstop] at hfr
   rw [← hfr] at hf2 hTs2 hmu
   have hone:=hJ2.ins.one
   have htp:=hJ2.typ hd hd6 hn (by omega) (q:=q) (le:=[(2,.ptr b2 0),(3,.ptr b3 0),(4,.ptr bR 0),(5,.ptr b5 0)]) fun v' S4 hI4=>hq (l++[⟨nm,rs⟩],(relP T r3).2) S4 ⟨⟨v',hI4⟩,hTs2,hf2⟩ (by dsimp only at hmu ⊢;omega)
   dsimp only
   (try simp only [rwp,hwR,zA,zB,zC,zD,zE,zF,zG,zH,zI,q0i,q07 o6,q07 o5,q1e])
   exact htp
 | false=>
  rw [q97 hi,q0t hrd]
  have hstop:q2b T T.length (l,r)=(l,r):=by
   cases T.length with
   | zero=>rfl
   | succ m=>rw [q2b,if_neg (by rw [hi];simp)]
  rw [hstop] at hf
  have ho:=q8f hrd
  (try simp only [rwp,hwR,zA,zB,zC,zD,zE,zF,zG,zH,zI,q07 ho])
  have fin:∀ S2,PrI S bR b2 b3 b5 T v (l,endR T r) S2→C44_3 (fun ae S'=>ae=.ret (.tup [scA (q78 T).1,(q78 T).2])∧S'=S) (.ptr b2 0) (.ptr b3 0) (.ptr bR 0) (.ptr b5 0) S2:=by
   intro S2 hI2
   have hr2:=q8f hI2.rd
   have o2:=objAt_some.2 hI2.c2
   have o3:=objAt_some.2 hI2.c3
   have o5:=objAt_some.2 hI2.c5
   have hone:=hI2.lst.one
   have hac:q09 v=[v]:=by cases v<;>first | rfl | cases hone
   unfold C44_3
   (try simp only [rwp,hwR,zA,zB,zC,zD,zE,zF,zG,zH,zI,q07 hr2])
   have hpt:q78 T=if (endR T r).de=0 then (l,.agg [.int .i64 0,.int .i64 0,.int .i64 0]) else ([],.agg [.int .i64 (endR T r).dl,.int .i64 (endR T r).dc,.int .i64 (endR T r).de]):=by
    rw [q78,← hf]
   have nR2':b2≠bR:=Ne.symm nR2
   have n32:=Ne.symm n23
   (refine q03 (fun hde=>?_) (fun hde=>?_)<;>(try simp only [hlc] at hde))
   ·rw [if_neg hde] at hpt
    rw [hpt]
    (try simp only [rwp,hwR,zA,zB,zC,zD,zE,zF,zG,zH,zI,o2])
    refine kpW_one (by rw [q01,if_neg nR2']) ?_
    have o3':q0j (supd S2 b2 (.cells 24 [.nils] 1)) b3=some (82,[.int .i64 0,.int .i64 0,.int .i64 0],3):=by rw [q0n n32];exact o3
    (try simp only [rwp,hwR,zA,zB,zC,zD,zE,zF,zG,zH,zI,o3',if_neg n32,o3])
    refine q5e S (.tup [scA [],.agg [.int .i64 (endR T r).dl,.int .i64 (endR T r).dc,.int .i64 (endR T r).de]]) ((hI2.sub.supd hb2).supd k3) ?_ ⟨rfl,rfl⟩
    (try simp only [rwp,hwR,zA,zB,zC,zD,zE,zF,zG,zH,zI,if_neg n23,if_neg n32])
    exact .tu (.cons (.ag (.cons (.nils 2) .nil)) (.cons (.same _) .nil))
   ·rw [if_pos hde] at hpt
    rw [hpt]
    have o3':∀ x,q0j (supd S2 b2 (.cells 24 [x] 1)) b3=some (82,[.int .i64 0,.int .i64 0,.int .i64 0],3):=fun x=>by rw [q0n n32];exact o3
    (try simp only [rwp,hwR,zA,zB,zC,zD,zE,zF,zG,zH,zI,q07 o5,o2,hac,o3',ones,hone,Bool.and_true,if_neg n32,o3])
    refine q5e S (.tup [scA l,.agg [.int .i64 0,.int .i64 0,.int .i64 0]]) ((hI2.sub.supd hb2).supd k3) ?_ ⟨rfl,rfl⟩
    (try simp only [rwp,hwR,zA,zB,zC,zD,zE,zF,zG,zH,zI,if_neg n23,if_neg n32])
    have a2:=hI2.asd b2 (by simp)
    have a3:=hI2.asd b3 (by simp)
    exact .tu (.cons (.ag (.cons (Fr.lst ((hI2.lst.upd a2 _).upd a3 _)) .nil)) (.cons (.same _) .nil))
  cases a1:decide (r.de=0) with
  | false=>
   (try simp only [rwp,hwR,zA,zB,zC,zD,zE,zF,zG,zH,zI,C44_2])
   refine fin S1 ?_
   have:endR T r=r:=by rw [endR,if_neg (fun h=>by rw [decide_eq_true h.1] at a1;cases a1)]
   rw [this]
   exact hI
  | true=>
   have hde:=of_decide_eq_true a1
   (try simp only [rwp,hwR,zA,zB,zC,zD,zE,zF,zG,zH,zI])
   refine (q5r hT hp.inr).ca hrd ?_
   rw [q0t hrd]
   (try simp only [rwp,hwR,zA,zB,zC,zD,zE,zF,zG,zH,zI,tkC])
   cases a2:decide ((nxP T r).s=⟨#[]⟩) with
   | true=>
    (try simp only [rwp,hwR,zA,zB,zC,zD,zE,zF,zG,zH,zI,C44_2])
    refine fin S1 ?_
    have:endR T r=r:=by rw [endR,if_neg (fun h=>h.2 (of_decide_eq_true a2))]
    rw [this]
    exact hI
   | false=>
    (try simp only [rwp,hwR,zA,zB,zC,zD,zE,zF,zG,zH,zI,C44_2])
    refine (q5r hT hp.inr).ca hrd ?_
    rw [q0t hrd]
    (try simp only [rwp,hwR,zA,zB,zC,zD,zE,zF,zG,zH,zI,tkC])
    refine (c_fail (nxP T r) 8).ca hrd ?_
    have:endR T r=q58 (nxP T r) 8 r:=by rw [endR,if_pos ⟨hde,of_decide_eq_false a2⟩]
    rw [← this]
    exact fin _ (hI.mv hd kR _)
theorem parseF_ok {s:ByteArray}:OkS (q54 s).1∧(s.size≤900→OkN (q54 s).1):=by
 unfold q54
 split
 ·exact ⟨⟨Nat.zero_le _,fun t ht=>(by cases ht)⟩,fun _ t ht=>(by cases ht)⟩
 ·rename_i h
  have hT:=tokT_ok (s:=s) (by omega)
  have hl:=q71 (f:=s.size+1) (l:=bl s) (a:=1) (b:=1)
  rw [q5s] at hl
  obtain ⟨h1,h2⟩:=parseT_ok hT (tokT_pos s)
  refine ⟨h1,fun h t ht r hr=>?_⟩
  have:=h2 t ht r hr
  unfold tokT at this
  omega
set_option maxRecDepth 4000
def cutL (c:Int):List UInt8→Option (List UInt8×List UInt8)
 | []=>none
 | b :: r=>if (b.toNat:Int)=c then some ([],r) else (cutL c r).map fun p=>(b :: p.1,p.2)
theorem cutL_cons {c:Int} {b:UInt8} {r:List UInt8}:cutL c (b :: r)=if (b.toNat:Int)=c then some ([],r) else (cutL c r).map fun p=>(b :: p.1,p.2):=rfl
def cutF (s:ByteArray) (c:Int):ByteArray×ByteArray×Bool:=match cutL c (bl s) with
 | none=>(s,⟨#[]⟩,false)
 | some (a,b)=>(mkB a,mkB b,true)
theorem cutL_len {c:Int}:∀ {l a b:List UInt8},cutL c l=some (a,b)→a.length≤l.length∧b.length≤l.length
 | [],_,_,h=>by cases h
 | x :: r,a,b,h=>by
  unfold cutL at h
  split at h
  ·cases h;exact ⟨Nat.zero_le _,by simp⟩
  ·cases hq:cutL c r with
   | none=>rw [hq] at h;cases h
   | some p=>
    rw [hq] at h
    cases h
    obtain ⟨h1,h2⟩:=cutL_len (a:=p.1) (b:=p.2) hq
    simp only [List.length_cons]
    omega
theorem mkB_len (l:List UInt8):(mkB l).size=l.length:=by simp [mkB,ByteArray.size]
theorem q4b {s:ByteArray} {c:Int}:(cutF s c).1.size≤s.size∧(cutF s c).2.1.size≤s.size:=by
 unfold cutF
 cases h:cutL c (bl s) with
 | none=>exact ⟨Nat.le_refl _,Nat.zero_le _⟩
 | some p=>
  have:=cutL_len (a:=p.1) (b:=p.2) h
  rw [q5s] at this
  exact ⟨by rw [mkB_len];exact this.1,by rw [mkB_len];exact this.2⟩
theorem c_cut {s:ByteArray} (hs:s.size≤1125899906842624) (c:Int):AFun PG nrx133 [.str s,.int .u8 c] (.tup [.str (cutF s c).1,.str (cutF s c).2.1,.bool (cutF s c).2.2]):=by
 intro S
 refine wx133 ?_
 unfold Bx133
 have hln:=q5s s
 refine LoopP.introS (fun i:Nat=>[(0,.str s),(1,.int .u8 c),(7,.int .i64 i)]) (fun i S'=>S'=S∧i≤s.size∧cutL c (bl s)=(cutL c ((bl s).drop i)).map fun p=>((bl s).take i++p.1,p.2)) (fun i=>s.size-i) 0 ⟨rfl,by omega,by cases h:cutL c (bl s)<;>simp [h]⟩ rfl ?_
 rintro i S' ⟨rfl,hi,hc⟩ r hr
 (try simp only [rwp,zA,zB,zC,zD,zE,zF,zG,zH,zI,rwb,reduceIte,C133_1])
 (refine q03 (fun hlt=>?_) (fun hlt=>?_)<;>(try simp only [hlc] at hlt))
 ·obtain ⟨b,hb⟩:=q51 hlt
  have hb':=hb
  rw [bl_get] at hb'
  rw [q0e hb'] at hc
  rw [cutL_cons] at hc
  (try simp only [rwp,zA,zB,zC,zD,zE,zF,zG,zH,zI,rwb,reduceIte,hb])
  (refine q03 (fun hq=>?_) (fun hq=>?_)<;>(try simp only [hlc] at hq))
  ·rw [if_pos hq] at hc
   (simp (disch:=omega) only [q04])
   (try simp only [rwp,zA,zB,zC,zD,zE,zF,zG,zH,zI,rwb,reduceIte,loI,hiI,cutI])
   refine ⟨by omega,by omega,by omega,by omega,by omega,q76 ⟨?_,rfl⟩⟩
   unfold cutF
   rw [hc,q61,q61]
   simp only [Option.map_some,List.append_nil,List.drop_zero]
   rw [show ((i:Int)+1).toNat=i+1 by omega,List.take_of_length_le (by omega:(bl s).length≤s.size)]
  ·rw [if_neg hq] at hc
   (simp (disch:=omega) only [q04])
   refine q08 rfl (hr (i+1) _ ⟨rfl,by omega,?_⟩ (by omega))
   rw [hc,q0z hb']
   cases cutL c ((bl s).drop (i+1))<;>simp
 ·have e:(bl s).drop i=[]:=List.drop_eq_nil_of_le (by omega)
  rw [e] at hc
  refine q76 ⟨?_,rfl⟩
  unfold cutF
  rw [hc]
  rfl
abbrev nob:ByteArray:=⟨#[]⟩
def objF (s:ByteArray):Ob×Bool:=if (cutF s 58).2.2&&(q0q (cutF s 58).1&&idB (cutF s 58).2.1) then (⟨(cutF s 58).1,(cutF s 58).2.1⟩,true) else (⟨nob,nob⟩,false)
def subF (s:ByteArray):Nd×Bool:=if (objF (cutF s 35).1).2&&(!(cutF s 35).2.2||q0q (cutF s 35).2.1) then (⟨(objF (cutF s 35).1).1,(cutF s 35).2.1⟩,true) else (⟨⟨nob,nob⟩,nob⟩,false)
def tupF (s:ByteArray):Tu×Bool:=
 let x:=cutF s 64
 let y:=cutF x.1 35
 let o:=objF y.1
 let w:=subF x.2.1
 if x.2.2&&(y.2.2&&(o.2&&(w.2&&q0q y.2.1))) then (⟨o.1,y.2.1,w.1⟩,true) else (⟨⟨nob,nob⟩,nob,⟨⟨nob,nob⟩,nob⟩⟩,false)
theorem objF_ok {s:ByteArray} (hs:s.size≤1125899906842624):OkO (objF s).1:=by
 have h:=@q4b s 58
 unfold objF
 split
 ·exact ⟨by dsimp only;omega,by dsimp only;omega⟩
 ·exact ⟨Nat.zero_le _,Nat.zero_le _⟩
theorem subF_ok {s:ByteArray} (hs:s.size≤1125899906842624):OkD (subF s).1:=by
 have h:=@q4b s 35
 unfold subF
 split
 ·exact ⟨objF_ok (by omega),by dsimp only;omega⟩
 ·exact ⟨⟨Nat.zero_le _,Nat.zero_le _⟩,Nat.zero_le _⟩
theorem tupF_ok {s:ByteArray} (hs:s.size≤1125899906842624):OkU (tupF s).1:=by
 have h:=@q4b s 64
 have h2:=@q4b (cutF s 64).1 35
 unfold tupF
 dsimp only
 split
 ·exact ⟨objF_ok (by omega),by dsimp only;omega,subF_ok (by omega)⟩
 ·exact ⟨⟨Nat.zero_le _,Nat.zero_le _⟩,Nat.zero_le _,⟨⟨Nat.zero_le _,Nat.zero_le _⟩,Nat.zero_le _⟩⟩
theorem c_Object {s:ByteArray} (hs:s.size≤1125899906842624):AFun PG nrx134 [.str s] (.tup [.agg (obC (objF s).1),.bool (objF s).2]):=by
 intro S
 refine wx134 ?_
 unfold Bx134
 intro b hb
 have hl:=@q4b s 58
 refine q05 (c_cut hs 58) ?_
 (try simp only [rwp,zA,zB,zC,zD,zE,zF,zG,zH,zI,rwb,reduceIte])
 refine q05 (q0v (by omega)) ?_
 refine q05 (c_ref10_ID (by omega)) ?_
 unfold objF
 cases h1:(cutF s 58).2.2<;>cases h2:q0q (cutF s 58).1<;>cases h3:idB (cutF s 58).2.1<;>(try simp only [rwp,zA,zB,zC,zD,zE,zF,zG,zH,zI,rwb,reduceIte,C134_1,C134_2])<;>refine q17 S (Sub.supd hb (Sub.refl _)) ?_<;>(try simp only [rwp,zA,zB,zC,zD,zE,zF,zG,zH,zI,rwb,reduceIte,obC])<;>simp
theorem c_Subject {s:ByteArray} (hs:s.size≤1125899906842624):AFun PG nrx135 [.str s] (.tup [.agg (ndC (subF s).1),.bool (subF s).2]):=by
 intro S
 refine wx135 ?_
 unfold Bx135
 intro b hb
 have hl:=@q4b s 35
 refine q05 (c_cut hs 35) ?_
 (try simp only [rwp,zA,zB,zC,zD,zE,zF,zG,zH,zI,rwb,reduceIte])
 have q:=c_Object (s:=(cutF s 35).1) (by omega)
 simp only [obC] at q
 refine q05 q ?_
 (try simp only [rwp,zA,zB,zC,zD,zE,zF,zG,zH,zI,rwb,reduceIte])
 refine q05 (q0v (by omega)) ?_
 unfold subF
 cases h1:(objF (cutF s 35).1).2<;>cases h2:(cutF s 35).2.2<;>cases h3:q0q (cutF s 35).2.1<;>(try simp only [rwp,zA,zB,zC,zD,zE,zF,zG,zH,zI,rwb,reduceIte,C135_1,C135_2,C135_3])<;>refine q17 S (Sub.supd hb (Sub.refl _)) ?_<;>(try simp only [rwp,zA,zB,zC,zD,zE,zF,zG,zH,zI,rwb,reduceIte,ndC])<;>simp
theorem c_Tuple {s:ByteArray} (hs:s.size≤1125899906842624):AFun PG nrx89 [.str s] (.tup [.agg (tuC (tupF s).1),.bool (tupF s).2]):=by
 intro S
 refine wx89 ?_
 unfold Bx89
 intro b hb
 have hl:=@q4b s 64
 have hl2:=@q4b (cutF s 64).1 35
 refine q05 (c_cut hs 64) ?_
 (try simp only [rwp,zA,zB,zC,zD,zE,zF,zG,zH,zI,rwb,reduceIte])
 refine q05 (c_cut (by omega) 35) ?_
 (try simp only [rwp,zA,zB,zC,zD,zE,zF,zG,zH,zI,rwb,reduceIte])
 have q:=c_Object (s:=(cutF (cutF s 64).1 35).1) (by omega)
 simp only [obC] at q
 refine q05 q ?_
 (try simp only [rwp,zA,zB,zC,zD,zE,zF,zG,zH,zI,rwb,reduceIte])
 have q2:=c_Subject (s:=(cutF s 64).2.1) (by omega)
 simp only [ndC] at q2
 refine q05 q2 ?_
 (try simp only [rwp,zA,zB,zC,zD,zE,zF,zG,zH,zI,rwb,reduceIte])
 refine q05 (q0v (by omega)) ?_
 unfold tupF
 dsimp only
 cases h1:(cutF s 64).2.2<;>cases h2:(cutF (cutF s 64).1 35).2.2<;>cases h3:(objF (cutF (cutF s 64).1 35).1).2<;>cases h4:(subF (cutF s 64).2.1).2<;>cases h5:q0q (cutF (cutF s 64).1 35).2.1<;>(try simp only [rwp,zA,zB,zC,zD,zE,zF,zG,zH,zI,rwb,reduceIte,C89_1,C89_2,C89_3,C89_4])<;>refine q17 S (Sub.supd hb (Sub.refl _)) ?_<;>(try simp only [rwp,zA,zB,zC,zD,zE,zF,zG,zH,zI,rwb,reduceIte,tuC])<;>simp
theorem c_Tuples {l:List ByteArray} (hl:l.length≤1000000) (hs:∀ s∈l,s.size≤1125899906842624):AFun PG nrx45 [.sl 1 (l.map fun s=>[.str s])] (.sl 6 ((l.map fun s=>(tupF s).1).map tuC)):=by
 intro S
 refine wx45 ?_
 unfold Bx45
 refine LoopP.intro (fun x:Nat×AV×q00=>[(0,.sl 1 (l.map fun s=>[.str s])),(3,x.2.1),(4,.int .i64 x.1)]) (fun x=>x.2.2) (fun x=>x.1≤l.length∧Sub S x.2.2∧LstN S x.2.2 tyTu 6 x.2.1 (((l.take x.1).map fun s=>(tupF s).1).map tuC)) (fun x=>l.length-x.1) (0,.nils,S) ⟨by omega,Sub.refl _,LstN.nil⟩ rfl (Sub.refl S) ?_
 rintro ⟨i,v,S'⟩ ⟨hi,hsu,hL⟩ r hr
 dsimp only at hi hsu hL ⊢
 (try simp only [rwp,zA,zB,zC,zD,zE,zF,zG,zH,zI,rwb,reduceIte,C45_1,List.length_map])
 (refine q03 (fun hlt=>?_) (fun hlt=>?_)<;>(try simp only [hlc] at hlt))
 ·obtain ⟨s,hg⟩:=q0h hlt
  (try simp only [rwp,zA,zB,zC,zD,zE,zF,zG,zH,zI,rwb,reduceIte,List.getElem?_map,hg])
  have q:=c_Tuple (hs s (List.mem_of_getElem? hg))
  simp only [tuC] at q
  refine q05 q ?_
  (try simp only [rwp,zA,zB,zC,zD,zE,zF,zG,zH,zI,rwb,reduceIte])
  have e:((l.take i).map fun s=>(tupF s).1).length≤1000000:=by rw [List.length_map,List.length_take];omega
  refine hL.tu (t:=(tupF s).1) hsu e fun v' S2 h1 h2=>?_
  (simp (disch:=omega) only [q04])
  refine q08 rfl (hr (i+1,v',S2) ⟨by dsimp only;omega,h1,?_⟩ (by dsimp only;omega))
  dsimp only
  rw [q0z hg,List.map_append]
  exact h2
 ·have e:l.take i=l:=List.take_of_length_le (by omega)
  rw [e] at hL
  exact q3l hsu hL ⟨rfl,rfl⟩
set_option maxRecDepth 20000
def bUser:ByteArray:=⟨#[117,115,101,114]⟩
def b1':ByteArray:=⟨#[49]⟩
def bA:ByteArray:=⟨#[97]⟩
def oA:Ob:=⟨bUser,bA⟩
set_option maxRecDepth 20000
def bDoc:ByteArray:=⟨#[100,111,99]⟩
def bOwner:ByteArray:=⟨#[111,119,110,101,114]⟩
def bCan:ByteArray:=⟨#[99,97,110]⟩
def tu1:ByteArray:=⟨#[100,111,99,58,49,35,111,119,110,101,114,64,117,115,101,114,58,97]⟩
def oDoc:Ob:=⟨bDoc,b1'⟩
def nCan:Nd:=⟨oDoc,bCan⟩
set_option maxRecDepth 4000
theorem small_ok4 {s:List Ty} {l:List Tu} (h:smallF s l=true) (hl:∀ t∈l,OkU t):OkN s∧OkL l∧l.length≤30:=by
 unfold smallF at h
 rw [Bool.and_eq_true,decide_eq_true_eq] at h
 exact ⟨few_N h.1 (by decide),⟨by omega,hl⟩,by omega⟩
set_option maxRecDepth 4000
theorem c_ObjectsSame {M:List Ob} (hM:M.length≤100000):AFun PG nrx24 [.sl 2 (M.map obC),.sl 2 (M.map obC)] (.bool true):=by
 intro S
 refine wx24 ?_
 unfold Bx24
 (try simp only [rwp,zA,zB,zC,zD,zE,zF,zG,zH,zI,rwb,reduceIte,List.length_map])
 refine LoopP.introS (fun i:Nat=>[(0,.sl 2 (M.map obC)),(1,.sl 2 (M.map obC)),(5,.int .i64 i)]) (fun i S'=>S'=S∧i≤M.length) (fun i=>M.length-i) 0 ⟨rfl,by omega⟩ rfl ?_
 rintro i S' ⟨rfl,hi⟩ kk hkk
 (try simp only [rwp,zA,zB,zC,zD,zE,zF,zG,zH,zI,rwb,reduceIte,C24_1,List.length_map])
 cases a1:decide ((i:Int)<M.length)
 ·(try simp only [rwp,zA,zB,zC,zD,zE,zF,zG,zH,zI,rwb,reduceIte])
  exact q02 ⟨rfl,rfl⟩
 ·have hlt:=of_decide_eq_true a1
  obtain ⟨x,hx⟩:=q0h hlt
  (try simp only [rwp,zA,zB,zC,zD,zE,zF,zG,zH,zI,rwb,reduceIte,List.getElem?_map,hx,obC,decide_true])
  (try (simp (disch:=omega) only [q04]))
  rw [show (i:Int)+1=((i+1:Nat):Int) by omega]
  exact q08 rfl (hkk (i+1) _ ⟨rfl,by omega⟩ (by omega))
set_option maxRecDepth 4000
theorem KO.put {S:q00} {b clk:Nat} {E:List (Ob×Nat)} (h:KO S b E clk) (o:Ob) {K:q00→Prop}
  (hK:∀ S' E' clk',KO S' b E' clk'→(∀ x,x∈E'.map (·.1)↔x∈E.map (·.1)∨x=o)→E'.length≤E.length+1→(∀ c,c≠b→sget S' c=sget S c)→K S'):muW S MO2 (.map (some b)) (.agg (obC o)) (.bool true) K:=by
 have hok:∀ x:Ob,q0s MO2 (.agg (obC x))=true:=fun x=>ke_ob.ok x
 rw [muW_map,mapObj_some.2 h.map,q7c]
 refine ⟨rfl,hok o,?_⟩
 have oth:∀ (y:AObj) c,c≠b→sget (supd S b y) c=sget S c:=fun y c hc=>by rw [q01,if_neg (Ne.symm hc)]
 unfold mset
 cases hf:q15 (enO E) (.agg (obC o)) with
 | none=>
  dsimp only
  have hno:o ∉ E.map (·.1):=by
   intro hm
   obtain ⟨p,hp,rfl⟩:=List.mem_map.1 hm
   have key:∀ {L:List (Ob×Nat)},p∈L→q15 (enO L) (.agg (obC p.1))≠none:=by
    intro L
    induction L with
    | nil=>intro h;cases h
    | cons q r ih=>
     intro hq
     unfold enO
     simp only [List.map_cons,q15]
     rcases List.mem_cons.1 hq with e | hq
     ·rw [← e,if_pos (q3q (hok p.1))];simp
     ·split
      ·simp
      ·intro h
       rw [Option.map_eq_none_iff] at h
       exact ih hq h
   exact key hp hf
  refine hK _ (E++[(o,clk)]) (clk+1) ⟨by rw [q01,if_pos rfl];unfold enO;rw [List.map_append];rfl,fun p hp=>?_,?_,?_⟩ (fun x=>by rw [List.map_append,List.mem_append];simp) (by simp) (oth _)
  ·rcases List.mem_append.1 hp with hp | hp
   ·exact Nat.lt_succ_of_lt (h.lt p hp)
   ·rw [List.mem_singleton.1 hp];exact Nat.lt_succ_self _
  ·rw [List.map_append,List.nodup_append]
   refine ⟨h.nd,by simp,fun a ha c hc=>?_⟩
   obtain ⟨p,hp,rfl⟩:=List.mem_map.1 ha
   have:=h.lt p hp
   simp only [List.map_cons,List.map_nil,List.mem_singleton] at hc
   omega
  ·rw [List.map_append,List.nodup_append]
   refine ⟨h.ku,by simp,fun a ha c hc=>?_⟩
   simp only [List.map_cons,List.map_nil,List.mem_singleton] at hc
   rw [hc]
   rintro rfl
   exact hno ha
 | some q=>
  obtain ⟨i,v,bn⟩:=q
  dsimp only
  obtain ⟨kk,h1,h2⟩:=q4k hf
  have hi:∃ p,E[i]?=some p∧kk=.agg (obC p.1)∧v=.bool true∧bn=p.2:=by
   unfold enO at h1
   rw [List.getElem?_map] at h1
   cases hE:E[i]? with
   | none=>rw [hE] at h1;cases h1
   | some p=>rw [hE] at h1;simp at h1;exact ⟨p,rfl,h1.1.symm,h1.2.1.symm,h1.2.2.symm⟩
  obtain ⟨p,hp,rfl,rfl,rfl⟩:=hi
  have ho:o=p.1:=ke_ob.inj _ _ ((q3z (hok o) (hok p.1)).1 h2)
  subst ho
  have e:(enO E).set i (.agg (obC p.1),.bool true,p.2)=enO E:=by
   refine List.ext_getElem? fun j=>?_
   rw [List.getElem?_set]
   split
   ·rename_i hj
    subst hj
    rw [h1]
    have:=(List.getElem?_eq_some_iff.1 h1).1
    simp [this]
   ·rfl
  rw [e]
  refine hK _ E clk ⟨by rw [q01,if_pos rfl],h.lt,h.nd,h.ku⟩ (fun x=>⟨.inl,fun h=>h.elim id fun e=>?_⟩) (Nat.le_succ _) (oth _)
  rw [e]
  exact List.mem_map.2 ⟨p,List.mem_of_getElem? hp,rfl⟩
def obsT (typ:ByteArray) (t:Tu):List Ob:=(if t.o.ty=typ then [t.o] else [])++if t.s.o.ty=typ then [t.s.o] else []
def obsL (L:List Tu) (typ:ByteArray):List Ob:=L.flatMap (obsT typ)
def thiF (L:List Tu) (typ:ByteArray):List Ob:=srtO ltO (obsL L typ)
theorem obsL_take {L:List Tu} {typ:ByteArray} {i:Nat} {t:Tu} (h:L[i]?=some t):obsL (L.take (i+1)) typ=obsL (L.take i) typ++obsT typ t:=by
 unfold obsL
 rw [q0z h,List.flatMap_append]
 simp
theorem obsT_len {typ:ByteArray} {t:Tu}:(obsT typ t).length≤2:=by
 unfold obsT
 split<;>split<;>simp
theorem q9v {typ:ByteArray}:∀ {L:List Tu},(obsL L typ).length≤2 * L.length
 | []=>by simp [obsL]
 | t :: r=>by
  have h1:=@q9v typ r
  have h2:=@obsT_len typ t
  unfold obsL at h1 ⊢
  rw [List.flatMap_cons,List.length_append,List.length_cons]
  omega
theorem srt_same {M M':List Ob} (h:∀ x,x∈M↔x∈M'):srtO ltO M=srtO ltO M':=by
 obtain ⟨k1,k2,-⟩:=q6c stO M _ rfl
 obtain ⟨k3,k4,-⟩:=q6c stO M' _ rfl
 exact Asc.uniq stO k1 k3 fun x=>by rw [k2,k4,h]
theorem c_lThings {L:List Tu} (hL:L.length≤127) (typ:ByteArray):AFun PG nrx34 [.sl 6 (L.map tuC),.str typ] (.sl 2 ((thiF L typ).map obC)):=by
 intro S
 refine wx34 ?_
 unfold Bx34
 (try simp only [rwp,zA,zB,zC,zD,zE,zF,zG,zH,zI,rwb,reduceIte,List.length_map])
 intro b hb
 (try simp only [rwp,zA,zB,zC,zD,zE,zF,zG,zH,zI,rwb,reduceIte,List.length_map])
 refine LoopP.introS (fun i:Nat=>[(1,.str typ),(5,.map (some b)),(11,.sl 6 (L.map tuC)),(12,.int .i64 L.length),(13,.int .i64 i)])
  (fun i S'=>i≤L.length∧(∃ E clk,KO S' b E clk∧E.length≤2 * i∧∀ x,x∈E.map (·.1)↔x∈obsL (L.take i) typ)∧∀ c,c≠b→sget S' c=sget S c) (fun i=>L.length-i) 0
  ⟨by omega,⟨[],0,⟨by rw [q01,if_pos rfl];rfl,fun p hp=>(by cases hp),List.nodup_nil,List.nodup_nil⟩,Nat.zero_le _,fun x=>by simp [obsL]⟩,fun c hc=>by rw [q01,if_neg (Ne.symm hc)]⟩ rfl ?_
 rintro i S2 ⟨hi,⟨E,clk,h1,h2,h3⟩,h4⟩ kk hkk
 (try simp only [rwp,zA,zB,zC,zD,zE,zF,zG,zH,zI,rwb,reduceIte,C34_1])
 cases a1:decide ((i:Int)<L.length)
 ·have e:i=L.length:=by have:=of_decide_eq_false a1;omega
  subst e
  rw [List.take_length] at h3
  (try simp only [rwp,zA,zB,zC,zD,zE,zF,zG,zH,zI,rwb,reduceIte])
  refine q0b (c_sorted h1 (by omega)) ?_
  rintro ae S3 ⟨rfl,rfl⟩
  dsimp only
  refine rtW_sub (S':=S) (fun c o hc=>?_) ⟨?_,rfl⟩
  ·rw [h4 c (Ne.symm (q0f hb hc))];exact hc
  ·unfold thiF
   rw [srt_same h3]
 ·have hlt:=of_decide_eq_true a1
  obtain ⟨t,ht⟩:=q0h hlt
  (try simp only [rwp,zA,zB,zC,zD,zE,zF,zG,zH,zI,rwb,reduceIte,List.getElem?_map,ht,tuC])
  refine LoopP.introS (fun j:Nat=>[(1,.str typ),(5,.map (some b)),(11,.sl 6 (L.map tuC)),(12,.int .i64 L.length),(13,.int .i64 i),(22,.agg [.str t.o.ty,.str t.o.id,.str t.s.o.ty,.str t.s.o.id]),(23,.int .i64 j)])
   (fun j S'=>j≤2∧(∃ E clk,KO S' b E clk∧E.length≤2 * i+j∧∀ x,x∈E.map (·.1)↔x∈obsL (L.take i) typ∨(0<j∧t.o.ty=typ∧x=t.o)∨(1<j∧t.s.o.ty=typ∧x=t.s.o))∧∀ c,c≠b→sget S' c=sget S c) (fun j=>2-j) 0
   ⟨by omega,⟨E,clk,h1,h2,fun x=>by rw [h3];simp⟩,h4⟩ rfl ?_
  rintro j S3 ⟨hj,⟨E3,clk3,g1,g2,g3⟩,g4⟩ k2 hk2
  (try simp only [rwp,zA,zB,zC,zD,zE,zF,zG,zH,zI,rwb,reduceIte,C34_2])
  cases a2:decide ((j:Int)<2)
  ·have e:j=2:=by have:=of_decide_eq_false a2;omega
   subst e
   (try simp only [rwp,zA,zB,zC,zD,zE,zF,zG,zH,zI,rwb,reduceIte])
   (simp (disch:=omega) only [q04])
   refine q08 rfl (hkk (i+1) S3 ⟨by omega,⟨E3,clk3,g1,by omega,fun x=>?_⟩,g4⟩ (by omega))
   rw [g3,obsL_take ht,List.mem_append]
   unfold obsT
   rw [List.mem_append]
   simp only [Nat.zero_lt_succ,Nat.lt_add_one,true_and]
   have e1:x∈(if t.o.ty=typ then [t.o] else [])↔t.o.ty=typ∧x=t.o:=by
    split
    ·rename_i h;simp [h]
    ·rename_i h;simp [h]
   have e2:x∈(if t.s.o.ty=typ then [t.s.o] else [])↔t.s.o.ty=typ∧x=t.s.o:=by
    split
    ·rename_i h;simp [h]
    ·rename_i h;simp [h]
   rw [e1,e2]
  ·have hj2:=of_decide_eq_true a2
   have step:∀ (o:Ob),(j=0→o=t.o)→(j=1→o=t.s.o)→o.ty=typ→muW S3 MO2 (.map (some b)) (.agg (obC o)) (.bool true) fun S=>rcW k2 [(1,.str typ),(5,.map (some b)),(11,.sl 6 (L.map tuC)),(12,.int .i64 L.length),(13,.int .i64 i),(22,.agg [.str t.o.ty,.str t.o.id,.str t.s.o.ty,.str t.s.o.id]),(23,.int .i64 (IntKind.i64.wrap ((j:Int)+1)))] S:=by
    intro o u1 u2 u3
    refine g1.put o fun S' E' clk' v1 v2 v3 v4=>?_
    (simp (disch:=omega) only [q04])
    refine q08 rfl (hk2 (j+1) S' ⟨by omega,⟨E',clk',v1,by omega,fun x=>?_⟩,fun c hc=>(v4 c hc).trans (g4 c hc)⟩ (by omega))
    rw [v2,g3]
    have h01:j=0∨j=1:=by omega
    rcases h01 with e | e
    ·subst e
     have:=u1 rfl
     subst this
     simp [u3]
    ·subst e
     have:=u2 rfl
     subst this
     simp [u3,or_assoc]
   have skip:(j=0→¬ t.o.ty=typ)→(j=1→¬ t.s.o.ty=typ)→rcW k2 [(1,.str typ),(5,.map (some b)),(11,.sl 6 (L.map tuC)),(12,.int .i64 L.length),(13,.int .i64 i),(22,.agg [.str t.o.ty,.str t.o.id,.str t.s.o.ty,.str t.s.o.id]),(23,.int .i64 (IntKind.i64.wrap ((j:Int)+1)))] S3:=by
    intro u1 u2
    (simp (disch:=omega) only [q04])
    refine q08 rfl (hk2 (j+1) S3 ⟨by omega,⟨E3,clk3,g1,by omega,fun x=>?_⟩,g4⟩ (by omega))
    rw [g3]
    have h01:j=0∨j=1:=by omega
    rcases h01 with e | e
    ·subst e
     simp [u1 rfl]
    ·subst e
     simp [u2 rfl]
   have h01:j=0∨j=1:=by omega
   rcases h01 with e | e
   ·subst e
    (try simp only [rwp,zA,zB,zC,zD,zE,zF,zG,zH,zI,rwb,reduceIte])
    have e0:idxaA 2 2 true (.agg [.str t.o.ty,.str t.o.id,.str t.s.o.ty,.str t.s.o.id]) (.int .i64 ((0:Nat):Int))=some (.agg (obC t.o)):=by simp [idxaA,mkA,obC]
    unfold ixW
    rw [e0]
    refine (show ∀ {x:AV} {K:AV→Prop},K x→q0p (some x) K from fun h=>h) ?_
    (try simp only [rwp,zA,zB,zC,zD,zE,zF,zG,zH,zI,rwb,reduceIte,obC])
    cases a3:decide (t.o.ty=typ)
    ·(try simp only [rwp,zA,zB,zC,zD,zE,zF,zG,zH,zI,rwb,reduceIte])
     exact skip (fun _=>of_decide_eq_false a3) (fun h=>by cases h)
    ·(try simp only [rwp,zA,zB,zC,zD,zE,zF,zG,zH,zI,rwb,reduceIte])
     exact step t.o (fun _=>rfl) (fun h=>by cases h) (of_decide_eq_true a3)
   ·subst e
    (try simp only [rwp,zA,zB,zC,zD,zE,zF,zG,zH,zI,rwb,reduceIte])
    have e0:idxaA 2 2 true (.agg [.str t.o.ty,.str t.o.id,.str t.s.o.ty,.str t.s.o.id]) (.int .i64 ((1:Nat):Int))=some (.agg (obC t.s.o)):=by simp [idxaA,mkA,obC]
    unfold ixW
    rw [e0]
    refine (show ∀ {x:AV} {K:AV→Prop},K x→q0p (some x) K from fun h=>h) ?_
    (try simp only [rwp,zA,zB,zC,zD,zE,zF,zG,zH,zI,rwb,reduceIte,obC])
    cases a3:decide (t.s.o.ty=typ)
    ·(try simp only [rwp,zA,zB,zC,zD,zE,zF,zG,zH,zI,rwb,reduceIte])
     exact skip (fun h=>by cases h) (fun _=>of_decide_eq_false a3)
    ·(try simp only [rwp,zA,zB,zC,zD,zE,zF,zG,zH,zI,rwb,reduceIte])
     exact step t.s.o (fun h=>by cases h) (fun _=>rfl) (of_decide_eq_true a3)
theorem c_rThings {L:List Tu} (hL:L.length≤127) (typ:ByteArray):AFun PG nrx35 [.sl 6 (L.map tuC),.str typ] (.sl 2 ((thiF L typ).map obC)):=by
 intro S
 refine wx35 ?_
 unfold Bx35
 refine LoopP.introS (fun x:Nat×AV=>[(0,.sl 6 (L.map tuC)),(1,.str typ),(5,x.2),(6,.int .i64 x.1)]) (fun x S'=>x.1≤L.length∧Sub S S'∧LstW S S' tyOb 2 x.2 ((obsL (L.take x.1) typ).map obC)) (fun x=>L.length-x.1) (0,.nils)
  ⟨by dsimp only;omega,Sub.refl _,LstW.nil⟩ rfl ?_
 rintro ⟨i,ov⟩ S1 ⟨hi,s1,o1⟩ kk hkk
 dsimp only at hi o1 ⊢
 (try simp only [rwp,zA,zB,zC,zD,zE,zF,zG,zH,zI,rwb,reduceIte,C35_1,List.length_map])
 cases a1:decide ((i:Int)<L.length)
 ·have e:i=L.length:=by have:=of_decide_eq_false a1;omega
  subst e
  rw [List.take_length] at o1
  (try simp only [rwp,zA,zB,zC,zD,zE,zF,zG,zH,zI,rwb,reduceIte])
  have hln:=@q9v typ L
  have q:=c_Sorted (M:=obsL L typ) (by omega) S
  refine q0b (ACalls.frz (FrS.sub s1) (.cons (Fr.lst14 o1) .nil) q) ?_
  rintro ae S2 ⟨rfl,rfl⟩
  dsimp only
  exact q02 ⟨rfl,rfl⟩
 ·have hlt:=of_decide_eq_true a1
  obtain ⟨t,ht⟩:=q0h hlt
  have hot:=obsL_take (typ:=typ) ht
  have hln:=@q9v typ (L.take i)
  have:=List.length_take_le i L
  have second:∀ (M:List Ob) (v:AV) (S2:q00),Sub S S2→LstW S S2 tyOb 2 v (M.map obC)→M.length≤2 * i+1→M=obsL (L.take i) typ++(if t.o.ty=typ then [t.o] else [])→C35_2 (fun ae S'=>ae=AEnd.ret (.sl 2 ((thiF L typ).map obC))∧S'=S) kk (.sl 6 (L.map tuC)) (.str typ) v (.int .i64 i) S2:=by
   intro M v S2 s2 o2 hm hM
   (try simp only [rwp,zA,zB,zC,zD,zE,zF,zG,zH,zI,rwb,reduceIte,C35_2,List.getElem?_map,ht,tuC])
   cases a3:decide (t.s.o.ty=typ)
   ·(try simp only [rwp,zA,zB,zC,zD,zE,zF,zG,zH,zI,rwb,reduceIte])
    (try (simp (disch:=omega) only [q04]))
    rw [show (i:Int)+1=((i+1:Nat):Int) by omega]
    refine q08 rfl (hkk (i+1,v) _ ⟨by dsimp only;omega,s2,?_⟩ (by dsimp only;omega))
    dsimp only
    rw [hot,obsT,if_neg (of_decide_eq_false a3),List.append_nil,← hM]
    exact o2
   ·(try simp only [rwp,zA,zB,zC,zD,zE,zF,zG,zH,zI,rwb,reduceIte,List.getElem?_map,ht,tuC])
    refine LstW.appL s2 o2 (xs:=[obC t.s.o]) appX_sl (fun r hr=>by rw [List.mem_singleton.1 hr];rfl) (q1t fun r hr=>by rw [List.mem_singleton.1 hr];rfl) (by simp only [List.length_map,List.length_singleton];omega) fun v' S4 s4 o4 j4=>?_
    (try (simp (disch:=omega) only [q04]))
    rw [show (i:Int)+1=((i+1:Nat):Int) by omega]
    refine q08 rfl (hkk (i+1,v') _ ⟨by dsimp only;omega,s4,?_⟩ (by dsimp only;omega))
    dsimp only
    rw [hot,obsT,if_pos (of_decide_eq_true a3),← List.append_assoc,← hM,List.map_append]
    exact o4
  (try simp only [rwp,zA,zB,zC,zD,zE,zF,zG,zH,zI,rwb,reduceIte,List.getElem?_map,ht,tuC])
  cases a2:decide (t.o.ty=typ)
  ·(try simp only [rwp,zA,zB,zC,zD,zE,zF,zG,zH,zI,rwb,reduceIte])
   exact second _ ov S1 s1 o1 (by omega) (by rw [if_neg (of_decide_eq_false a2),List.append_nil])
  ·(try simp only [rwp,zA,zB,zC,zD,zE,zF,zG,zH,zI,rwb,reduceIte,List.getElem?_map,ht,tuC])
   refine LstW.appL s1 o1 (xs:=[obC t.o]) appX_sl (fun r hr=>by rw [List.mem_singleton.1 hr];rfl) (q1t fun r hr=>by rw [List.mem_singleton.1 hr];rfl) (by simp only [List.length_map,List.length_singleton];omega) fun v' S4 s4 o4 j4=>?_
   refine second (obsL (L.take i) typ++[t.o]) v' S4 s4 ?_ (by simp only [List.length_append,List.length_singleton];omega) (by rw [if_pos (of_decide_eq_true a2)])
   rw [List.map_append]
   exact o4
set_option maxRecDepth 4000
theorem pathR_nil {E:q23} {L:List Tu} {B:Int} {bc:Nat} {S0:q00} (h:RfOk E L B bc S0) (hB:0≤B):StR E L B bc S0 [] false 0 (supd S0 bc (.cells tyS5 (s5C E L B 0 .nils false) 8)):=
 StR.set h (fun _=>by omega) (Sub.refl _) LstW.nil (fun b off n cap e=>by cases e) rfl
theorem c_ref15_Check {s:List Ty} (hs:OkS s) (hN:OkN s) {l:List Tu} (hl:OkL l) (n:Nd) (who:Ob) (B:Int) :
  AFun PG nrx19 [scA s,.sl 6 (l.map tuC),.agg (obC n.o),.str n.rl,.agg (obC who),.int .i64 B] (chk15 (envE s l who) B n):=by
 intro S
 refine wx19 ?_
 unfold Bx19
 have q1:=q7v hs hN
 obtain ⟨x,y,z,hc⟩:=chkF_fl s
 have hz:errA (chkF s)=z:=by rw [hc,q28]
 rw [hc] at q1
 have q2:=q3h hs n.o.ty n.rl
 have q3:=q69 hs hl
 simp only [scA,flA] at q1 q2 q3
 (try simp only [rwp,zA,zB,zC,zD,zE,zF,zG,zH,zI,rwb,reduceIte,scA,obC])
 refine q05 q1 ?_
 (try simp only [rwp,zA,zB,zC,zD,zE,zF,zG,zH,zI,rwb,reduceIte])
 unfold chk15
 have bad:∀ b:Bool,(b=true→B<0∨100000<B∨errA (chkF s)≠0)→(b=false→¬ (B<0∨100000<B∨errA (chkF s)≠0)) →
   C19_2 (fun ae S'=>ae=.ret (if B<0∨100000<B∨errA (chkF (envE s l who).s)≠0 then .tup [.bool false,.int .i64 0,.int .i64 1]
    else if q0l (envE s l who).s n.o.ty n.rl=none then .tup [.bool false,.int .i64 0,.int .i64 6]
    else match askQ (envE s l who) B 50 [] n 0 with
     | none=>.tup [.bool false,.int .i64 0,.int .i64 12]
     | some (b,w)=>.tup [.bool b,.int .i64 w,.int .i64 0])∧S'=S) (.sl 6 (l.map tuC)) (.str n.rl) (.int .i64 B) (.rop [.sl 2 (s.map tyC)]) (.rop [.str n.o.ty,.str n.o.id]) (.rop [.str who.ty,.str who.id]) (.bool b) S:=by
  intro b hb1 hb2
  cases b
  ·have h0:=hb2 rfl
   rw [if_neg (show ¬ (B<0∨100000<B∨errA (chkF (envE s l who).s)≠0) from h0)]
   have hk:errA (chkF s)=0:=by
    refine Classical.byContradiction fun hn=>h0 (.inr (.inr hn))
   have hg:=qa2 hk
   (try simp only [rwp,zA,zB,zC,zD,zE,zF,zG,zH,zI,rwb,reduceIte,C19_2])
   refine q05 q2 ?_
   show _
   have he:(envE s l who).s=s:=rfl
   rw [he]
   cases hq:q0l s n.o.ty n.rl with
   | none=>
    dsimp only
    (try simp only [rwp,zA,zB,zC,zD,zE,zF,zG,zH,zI,rwb,reduceIte,q6w])
    refine q76 ?_
    simp
   | some p=>
    obtain ⟨i,k,r⟩:=p
    dsimp only
    (try simp only [rwp,zA,zB,zC,zD,zE,zF,zG,zH,zI,rwb,reduceIte,q0i])
    refine q05 q3 ?_
    (try simp only [rwp,zA,zB,zC,zD,zE,zF,zG,zH,zI,rwb,reduceIte])
    rw [if_neg (by simp)]
    refine ⟨rfl,rfl,fun bc hbc=>?_⟩
    have hR:RfOk (envE s l who) (q0g s l) B bc S:=⟨hs,sc_may hg.may,hbc,q4n hl,fun _=>rfl,by omega⟩
    have q4:=c_ask15 hR 50 [] rfl n 0 _ (pathR_nil hR (by omega))
    simp only [obC] at q4
    refine q0b q4 ?_
    intro ae S2 hq4
    unfold q8z at hq4
    cases ha:askQ (envE s l who) B 50 [] n 0 with
    | none=>
     rw [ha] at hq4
     obtain ⟨b,w2,rfl,h5⟩:=hq4
     obtain ⟨pv1,ho1⟩:∃ pv,q0j S2 bc=_:=h5.2.2.imp fun _ h=>h.1
     have hc1:=q07 ho1
     dsimp only
     (try simp only [rwp,zA,zB,zC,zD,zE,zF,zG,zH,zI,rwb,reduceIte,hc1,s5C])
     refine q17 S h5.2.1 ?_
     (try simp only [rwp,zA,zB,zC,zD,zE,zF,zG,zH,zI,rwb,reduceIte])
    | some p=>
     obtain ⟨b,w2⟩:=p
     rw [ha] at hq4
     obtain ⟨rfl,h5⟩:=hq4
     obtain ⟨pv1,ho1⟩:∃ pv,q0j S2 bc=_:=h5.2.2.imp fun _ h=>h.1
     have hc1:=q07 ho1
     dsimp only
     (try simp only [rwp,zA,zB,zC,zD,zE,zF,zG,zH,zI,rwb,reduceIte,hc1,s5C])
     refine q17 S h5.2.1 ?_
     (try simp only [rwp,zA,zB,zC,zD,zE,zF,zG,zH,zI,rwb,reduceIte])
  ·rw [if_pos (show (B<0∨100000<B∨errA (chkF (envE s l who).s)≠0) from hb1 rfl)]
   (try simp only [rwp,zA,zB,zC,zD,zE,zF,zG,zH,zI,rwb,reduceIte,C19_2])
   exact q76 ⟨rfl,rfl⟩
 have hbad:∀ b:Bool,b=(!decide (z=0)||decide (B<0)||decide (100000<B))→(b=true→B<0∨100000<B∨errA (chkF s)≠0)∧(b=false→¬ (B<0∨100000<B∨errA (chkF s)≠0)):=by
  rintro b rfl
  rw [hz]
  constructor
  ·intro h
   simp only [Bool.or_eq_true,Bool.not_eq_true',decide_eq_true_eq,decide_eq_false_iff_not] at h
   omega
  ·intro h
   simp only [Bool.or_eq_false_iff,Bool.not_eq_false',decide_eq_true_eq,decide_eq_false_iff_not] at h
   omega
 (try simp only [rwp,zA,zB,zC,zD,zE,zF,zG,zH,zI,rwb,reduceIte,C19_1])
 exact bad _ (hbad _ rfl).1 (hbad _ rfl).2
end Go.HL
