/-
  PROVED HERE: 'muntinlaw09.TextTurns' answers true whatever the edge, and what was handed in reads as it did. Conditions: the package variables that the row lists hold what the program's text lays.
  Part 4 of 4.
-/
import Derived.Test.YtimadnngfhbfiaaDoorTtC
import Derived.Test.YtimadnngfhbfiaaDoorTie
import Derived.Test.YtimadnngfhbfiaaDoorCards
import Derived.Test.YtimadnngfhbfiaaDoorChecked
import Derived.OpenShut
import Derived.LaidMore
import Derived.Lay
import Derived.SevenTiedAt
import Derived.Stop.Joined

section
/- PRINTED by wip/gen.py: the machine's call of muntin/text.Print does what S25 says. -/
namespace Go.Proofs.YtimadnngfhbfiaaDoor
open Go Go.Mu
set_option maxHeartbeats 4000000
set_option maxRecDepth 100000
theorem f25_ok {p0_0 : Sl} {p0_1 : Sl} {h : H} {K : ByteArray → Int → H → Prop} (hS : S25 p0_0 p0_1 h K) : ACall Tryd.prog 25 ([(.agg ([(.slice p0_0.a p0_0.l p0_0.c), (.slice p0_1.a p0_1.l p0_1.c)] : List Value).toArray)] : List Value).toArray h (fun r h' => ∃ r0 : ByteArray, ∃ r1 : Int, r = tup [(.string r0), (.int .i64 r1)] ∧ K r0 r1 h') := by
  refine ACall.enter (fn := Tryd.f25) Tryd.func25 rfl (Nat.le_of_ble_eq_true rfl) ?_
  unfold S25 at hS
  have ok := Lok.nil h
  change EvC _ _ _ _ (H.add h []) _
  refine EvC.seq ?_
  refine EvC.region [Item.alc 0, Item.look 1, Item.look 2] (by kernel_rfl) ?_
  refine R.var (blk := .row ⟨[(.slice p0_0.a p0_0.l p0_0.c), (.slice p0_1.a p0_1.l p0_1.c)], 2, 29, true, true⟩) ok rfl rfl rfl (Ac.box rfl rfl) rfl rfl fun b1 ok => ?_
  refine R.look rfl rfl rfl (Lk.assign rfl rfl) fun _ => ?_
  refine R.look rfl rfl rfl (Lk.assign rfl rfl) fun _ => ?_
  refine R.nil ?_
  refine EvC.seq ?_
  refine EvC.seq ?_
  refine EvC.region [Item.look 0, Item.eff 1 [], Item.look 2] (by kernel_rfl) ?_
  refine R.look rfl rfl rfl (Lk.loadN (vs := [(.slice p0_0.a p0_0.l p0_0.c), (.slice p0_1.a p0_1.l p0_1.c)]) rfl Tryd.underlying29 rfl T29 rfl (H.rdn_loc ok (i := 0) rfl rfl rfl)) fun _ => ?_
  refine R.eff rfl rfl rfl (Eff.loc ok (Ef.call rfl CB39 rfl ((f39_ok hS).mono ?_)))
  rintro _ h_1 ⟨v12, rfl, hS⟩
  refine fun ok => ⟨noChk, ?_⟩
  refine R.look rfl rfl rfl (Lk.assign rfl rfl) fun _ => ?_
  refine R.nil ?_
  refine EvC.seq ?_
  refine EvC.region [Item.look 0, Item.look 1] (by kernel_rfl) ?_
  refine R.look rfl rfl rfl (Lk.move rfl rfl) fun _ => ?_
  refine R.look rfl rfl rfl (Lk.arith rfl rfl rfl rfl) fun _ => ?_
  refine R.nil ?_
  by_cases e1 : (v12 != 0) = true
  · rw [if_pos e1] at hS
    refine EvC.condT rfl e1 ?_
    refine EvC.seq ?_
    refine EvC.region [Item.look 0, Item.look 1, Item.look 2] (by kernel_rfl) ?_
    refine R.look rfl rfl rfl (Lk.move rfl rfl) fun _ => ?_
    refine R.look rfl rfl rfl (Lk.assign rfl rfl) fun _ => ?_
    refine R.look rfl rfl rfl (Lk.assign rfl rfl) fun _ => ?_
    refine R.nil ?_
    refine EvC.ret ?_
    exact ⟨.inr rfl, _, _, (.cons (.tmp rfl) (.cons (.tmp rfl) .nil)), ok.le, _, _, rfl, hS⟩
  · rw [if_neg e1] at hS
    replace e1 := eq_false_of_ne_true e1
    refine EvC.condF rfl e1 ?_
    refine EvC.skip ?_
    refine EvC.seq ?_
    refine EvC.region [Item.alc 0, Item.eff 1 [], Item.eff 2 [], Item.look 3, Item.look 4] (by kernel_rfl) ?_
    refine R.new (blk := (.obj (.map #[] 0))) ok rfl rfl rfl (Ac.makeMap rfl) trivial rfl fun b16 e2 ok => ?_
    replace hS := hS b16 _ e2 rfl
    obtain ⟨h_3, e3, hS⟩ := hS
    refine R.effN rfl rfl rfl (Eff.loc ok (Ef.mapPut rfl Tryd.underlying125 Tryd.underlying4 rfl rfl rfl rfl e3 fun ok => ⟨noChk, ?_⟩))
    obtain ⟨h_4, e4, hS⟩ := hS
    refine R.effN rfl rfl rfl (Eff.loc ok (Ef.mapPut rfl Tryd.underlying125 Tryd.underlying4 rfl rfl rfl rfl e4 fun ok => ⟨noChk, ?_⟩))
    refine R.look rfl rfl rfl (Lk.move rfl rfl) fun _ => ?_
    refine R.look rfl rfl rfl (Lk.assign rfl rfl) fun _ => ?_
    refine R.nil ?_
    refine EvC.seq ?_
    refine EvC.region [Item.alc 0] (by kernel_rfl) ?_
    refine R.new (blk := (.row ⟨[(.pointer none), (.slice none 0 0)], 2, 128, true, true⟩)) ok rfl rfl rfl (Ac.alloc rfl T128) rfl rfl fun b6 e5 ok => ?_
    replace hS := hS b6 _ e5 rfl
    refine R.nil ?_
    refine EvC.seq ?_
    refine EvC.region [Item.eff 0 []] (by kernel_rfl) ?_
    refine R.eff rfl rfl rfl (Eff.loc ok (Ef.call rfl CB59 rfl ((f59_ok hS).mono ?_)))
    rintro _ h_6 ⟨v18_0, v18_1, rfl, hS⟩
    refine fun ok => ⟨noChk, ?_⟩
    refine R.nil ?_
    refine EvC.join (σ := Unit) (fun s => (Env.put (Env.put Env.emp 6 (.pointer (some ⟨b6, 0, none⟩))) 1 (.pointer (some ⟨b1, 0, none⟩)))) (fun s => [(b1, .row ⟨[(.slice p0_0.a p0_0.l p0_0.c), (.slice p0_1.a p0_1.l p0_1.c)], 2, 29, true, true⟩)]) (fun s h_7 => S25_j5 p0_0 p0_1 K b6 h_7) ?_ (fun Ih_7 hIh_7 => ?_)
    · rintro ⟨⟩ h_7 ok hS
      replace hS : S25_j5 p0_0 p0_1 K b6 h_7 := hS
      change EvC _ _ _ (Env.put (Env.put Env.emp 6 (.pointer (some ⟨b6, 0, none⟩))) 1 (.pointer (some ⟨b1, 0, none⟩))) (H.add h_7 [(b1, .row ⟨[(.slice p0_0.a p0_0.l p0_0.c), (.slice p0_1.a p0_1.l p0_1.c)], 2, 29, true, true⟩)]) _
      unfold S25_j5 at hS
      refine EvC.join (σ := Unit) (fun s => (Env.put (Env.put Env.emp 6 (.pointer (some ⟨b6, 0, none⟩))) 1 (.pointer (some ⟨b1, 0, none⟩)))) (fun s => [(b1, .row ⟨[(.slice p0_0.a p0_0.l p0_0.c), (.slice p0_1.a p0_1.l p0_1.c)], 2, 29, true, true⟩)]) (fun s h_8 => S25_j4 p0_1 K b6 h_8) ?_ (fun Ih_8 hIh_8 => ?_)
      · rintro ⟨⟩ h_8 ok hS
        replace hS : S25_j4 p0_1 K b6 h_8 := hS
        change EvC _ _ _ (Env.put (Env.put Env.emp 6 (.pointer (some ⟨b6, 0, none⟩))) 1 (.pointer (some ⟨b1, 0, none⟩))) (H.add h_8 [(b1, .row ⟨[(.slice p0_0.a p0_0.l p0_0.c), (.slice p0_1.a p0_1.l p0_1.c)], 2, 29, true, true⟩)]) _
        unfold S25_j4 at hS
        refine EvC.join (σ := Unit) (fun s => (Env.put Env.emp 6 (.pointer (some ⟨b6, 0, none⟩)))) (fun s => []) (fun s h_9 => S25_j1 K b6 h_9) ?_ (fun Ih_9 hIh_9 => ?_)
        · rintro ⟨⟩ h_9 ok hS
          replace hS : S25_j1 K b6 h_9 := hS
          change EvC _ _ _ (Env.put Env.emp 6 (.pointer (some ⟨b6, 0, none⟩))) (H.add h_9 []) _
          unfold S25_j1 at hS
          refine EvC.seq ?_
          refine EvC.region [Item.eff 0 [], Item.look 1, Item.look 2, Item.look 3] (by kernel_rfl) ?_
          refine R.eff rfl rfl rfl (Eff.loc ok (Ef.call rfl CB62 rfl ((f62_ok hS).mono ?_)))
          rintro _ h_10 ⟨v66, rfl, hS⟩
          refine fun ok => ⟨noChk, ?_⟩
          obtain ⟨e6, hS⟩ := hS
          refine R.look rfl rfl rfl (Lk.strAdd rfl rfl rfl e6) fun _ => ?_
          refine R.look rfl rfl rfl (Lk.assign rfl rfl) fun _ => ?_
          refine R.look rfl rfl rfl (Lk.assign rfl rfl) fun _ => ?_
          refine R.nil ?_
          refine EvC.ret ?_
          exact ⟨.inr rfl, _, _, (.cons (.tmp rfl) (.cons (.tmp rfl) .nil)), ok.le, _, _, rfl, hS⟩
        · refine EvC.seq ?_
          refine EvC.region [Item.look 0, Item.look 1, Item.look 2, Item.look 3] (by kernel_rfl) ?_
          refine R.look (v := (.pointer (some ⟨b1, 1, none⟩))) rfl rfl rfl (Lk.fldAddr rfl Tryd.underlying29 rfl rfl T27 rfl rfl rfl) fun _ => ?_
          refine R.look rfl rfl rfl (Lk.load1 (v := (.slice p0_1.a p0_1.l p0_1.c)) rfl Tryd.underlying27 rfl rfl (H.rd_loc ok (i := 0) rfl rfl)) fun _ => ?_
          refine R.look rfl rfl rfl (Lk.len rfl Tryd.underlying27 rfl) fun _ => ?_
          refine R.look rfl rfl rfl (Lk.move rfl rfl) fun _ => ?_
          refine R.nil ?_
          refine EvC.block ?_
          refine EvC.loop ?_
          refine LoopC.lfp (σ := Int) (fun s => (Env.put (Env.put (Env.put (Env.put Env.emp 39 (.int .i64 s)) 38 (.int .i64 (p0_1.l : Int))) 37 (.slice p0_1.a p0_1.l p0_1.c)) 6 (.pointer (some ⟨b6, 0, none⟩)))) (fun s => []) (fun X hX => ?_) hS (ok.sub (.cons _ List.Sublist.slnil)) (Env.le_put rfl (Env.le_put rfl (Env.le_put rfl (Env.le_put rfl (Env.le_emp _))))) (H.add_sub ok (.cons _ List.Sublist.slnil))
          intro v39 h_11 hS ok
          replace hS : S25_l3 p0_1 K b6 X v39 h_11 := hS
          change EvC _ _ _ (Env.put (Env.put (Env.put (Env.put Env.emp 39 (.int .i64 v39)) 38 (.int .i64 (p0_1.l : Int))) 37 (.slice p0_1.a p0_1.l p0_1.c)) 6 (.pointer (some ⟨b6, 0, none⟩))) (H.add h_11 []) _
          unfold S25_l3 at hS
          refine EvC.seq ?_
          refine EvC.region [Item.look 0] (by kernel_rfl) ?_
          refine R.look rfl rfl rfl (Lk.arith rfl rfl rfl rfl) fun _ => ?_
          refine R.nil ?_
          refine EvC.seq ?_
          by_cases e7 : (decide (v39 < (p0_1.l : Int))) = true
          · rw [if_pos e7] at hS
            refine EvC.condT rfl e7 ?_
            refine EvC.skip ?_
            refine EvC.join (σ := Unit) (fun s => (Env.put (Env.put (Env.put (Env.put Env.emp 39 (.int .i64 v39)) 38 (.int .i64 (p0_1.l : Int))) 37 (.slice p0_1.a p0_1.l p0_1.c)) 6 (.pointer (some ⟨b6, 0, none⟩)))) (fun s => []) (fun s h_12 => S25_j2 v39 X h_12) ?_ (fun Ih_12 hIh_12 => ?_)
            · rintro ⟨⟩ h_12 ok hS
              replace hS : S25_j2 v39 X h_12 := hS
              change EvC _ _ _ (Env.put (Env.put (Env.put (Env.put Env.emp 39 (.int .i64 v39)) 38 (.int .i64 (p0_1.l : Int))) 37 (.slice p0_1.a p0_1.l p0_1.c)) 6 (.pointer (some ⟨b6, 0, none⟩))) (H.add h_12 []) _
              unfold S25_j2 at hS
              refine EvC.region [Item.look 0, Item.look 1] (by kernel_rfl) ?_
              refine R.look rfl rfl rfl (Lk.arith rfl rfl rfl rfl) fun _ => ?_
              refine R.look rfl rfl rfl (Lk.move rfl rfl) fun _ => ?_
              refine R.nil ?_
              exact hX (IntKind.wrap .i64 (v39 + 1)) _ _ _ hS (ok.sub List.Sublist.slnil) (Env.le_put rfl (Env.le_put rfl (Env.le_put rfl (Env.le_put rfl (Env.le_emp _))))) (H.add_sub ok List.Sublist.slnil)
            · refine EvC.block ?_
              refine EvC.seq ?_
              refine EvC.region [Item.look 0, Item.look 1, Item.alc 2, Item.eff 3 []] (by kernel_rfl) ?_
              obtain ⟨a41, e8, e9, e10, hS⟩ := hS
              refine R.look rfl rfl rfl (Lk.ixAddr rfl Tryd.underlying27 T54 rfl e8 rfl e9 e10) fun _ => ?_
              obtain ⟨v42_0, v42_1, v42_2, v42_3, e11, hS⟩ := hS
              refine R.look rfl rfl rfl (Look.loc ok (Lk.loadN rfl Tryd.underlying54 rfl T54 rfl e11)) fun _ => ?_
              refine R.var (blk := .row ⟨[(.int .i64 0), (.int .i64 0), (.int .i64 0), (.string ⟨#[]⟩)], 4, 54, true, true⟩) ok rfl rfl rfl (Ac.alloc rfl T54) rfl rfl fun b10 ok => ?_
              refine R.effN rfl rfl rfl (Ef.storeLoc (i := 0) (vs := [(.int .i64 v42_0), (.int .i64 v42_1), (.int .i64 v42_2), (.string v42_3)]) (cs := [(.int .i64 v42_0), (.int .i64 v42_1), (.int .i64 v42_2), (.string v42_3)]) (l' := [(b10, .row ⟨[(.int .i64 v42_0), (.int .i64 v42_1), (.int .i64 v42_2), (.string v42_3)], 4, 54, true, true⟩)]) ok rfl T54 rfl rfl rfl rfl rfl rfl rfl rfl rfl rfl fun ok => ⟨noChk, ?_⟩)
              refine R.nil ?_
              refine EvC.seq ?_
              refine EvC.draw [0, 1, 3, 7, 15, 0, 32, 103, 255, 511, 0, 1024, 3303, 8191, 16383] [Item.look 0, Item.look 1, Item.look 5, Item.look 6, Item.look 10, Item.look 11, Item.eff 2 [5, 6, 10, 11], Item.look 3, Item.look 4, Item.eff 7 [10, 11, 3, 4], Item.look 8, Item.look 9, Item.eff 12 [3, 4, 8, 9], Item.look 13, Item.eff 14 []] MO (by kernel_rfl) ?_
              refine R.lookL (v := (.pointer (some ⟨b10, 0, none⟩))) rfl rfl rfl (Lk.fldAddr rfl Tryd.underlying54 rfl rfl T3 rfl rfl rfl) ?_
              refine R.lookL rfl rfl rfl (Lk.load1 (v := (.int .i64 v42_0)) rfl Tryd.underlying3 rfl rfl (H.rd_loc ok (i := 0) rfl rfl)) ?_
              refine R.lookL (v := (.pointer (some ⟨b10, 2, none⟩))) rfl rfl rfl (Lk.fldAddr rfl Tryd.underlying54 rfl rfl T3 rfl rfl rfl) ?_
              refine R.lookL rfl rfl rfl (Lk.load1 (v := (.int .i64 v42_2)) rfl Tryd.underlying3 rfl rfl (H.rd_loc ok (i := 0) rfl rfl)) ?_
              refine R.lookL (v := (.pointer (some ⟨b10, 1, none⟩))) rfl rfl rfl (Lk.fldAddr rfl Tryd.underlying54 rfl rfl T3 rfl rfl rfl) ?_
              refine R.lookL rfl rfl rfl (Lk.load1 (v := (.int .i64 v42_1)) rfl Tryd.underlying3 rfl rfl (H.rd_loc ok (i := 0) rfl rfl)) ?_
              refine R.eff rfl rfl rfl (Eff.loc ok (Ef.call rfl CB60 rfl ((f60_ok hS).mono ?_)))
              rintro _ h_13 ⟨v45, rfl, hS⟩
              refine fun ok => ⟨(List.forall_mem_cons.2 ⟨(Log.past (by decide) (Log.past (by decide) (Log.past (by decide) (Log.at_ (LookG.of rfl (Lk.fldAddr rfl Tryd.underlying54 rfl rfl T3 rfl rfl rfl)))))), (List.forall_mem_cons.2 ⟨(Log.past (by decide) (Log.past (by decide) (Log.at_ (LookG.of rfl (Lk.load1 (v := (.int .i64 v42_2)) rfl Tryd.underlying3 rfl rfl (H.rd_loc ok (i := 0) rfl rfl)))))), (List.forall_mem_cons.2 ⟨(Log.past (by decide) (Log.at_ (LookG.of rfl (Lk.fldAddr rfl Tryd.underlying54 rfl rfl T3 rfl rfl rfl)))), (List.forall_mem_cons.2 ⟨(Log.at_ (LookG.of rfl (Lk.load1 (v := (.int .i64 v42_1)) rfl Tryd.underlying3 rfl rfl (H.rd_loc ok (i := 0) rfl rfl)))), noChk⟩)⟩)⟩)⟩), ?_⟩
              obtain ⟨e12, hS⟩ := hS
              refine R.lookL rfl rfl rfl (Lk.strAdd rfl rfl rfl e12) ?_
              obtain ⟨e13, hS⟩ := hS
              refine R.lookL rfl rfl rfl (Lk.strAdd rfl rfl rfl e13) ?_
              refine R.eff rfl rfl rfl (Eff.loc ok (Ef.call rfl CB61 rfl ((f61_ok hS).mono ?_)))
              rintro _ h_14 ⟨v50, rfl, hS⟩
              refine fun ok => ⟨(List.forall_mem_cons.2 ⟨(Log.past (by decide) (Log.past (by decide) (Log.past (by decide) (Log.at_ (LookG.of rfl (Lk.fldAddr rfl Tryd.underlying54 rfl rfl T3 rfl rfl rfl)))))), (List.forall_mem_cons.2 ⟨(Log.past (by decide) (Log.past (by decide) (Log.at_ (LookG.of rfl (Lk.load1 (v := (.int .i64 v42_1)) rfl Tryd.underlying3 rfl rfl (H.rd_loc ok (i := 0) rfl rfl)))))), (List.forall_mem_cons.2 ⟨(Log.past (by decide) (Log.at_ (LookG.of rfl (Lk.strAdd rfl rfl rfl e12)))), (List.forall_mem_cons.2 ⟨(Log.at_ (LookG.of rfl (Lk.strAdd rfl rfl rfl e13))), noChk⟩)⟩)⟩)⟩), ?_⟩
              obtain ⟨e14, hS⟩ := hS
              refine R.lookL rfl rfl rfl (Lk.strAdd rfl rfl rfl e14) ?_
              obtain ⟨e15, hS⟩ := hS
              refine R.lookL rfl rfl rfl (Lk.strAdd rfl rfl rfl e15) ?_
              refine R.eff rfl rfl rfl (Eff.loc ok (Ef.call rfl CB60 rfl ((f60_ok hS).mono ?_)))
              rintro _ h_15 ⟨v55, rfl, hS⟩
              refine fun ok => ⟨(List.forall_mem_cons.2 ⟨(Log.past (by decide) (Log.past (by decide) (Log.past (by decide) (Log.at_ (LookG.of rfl (Lk.strAdd rfl rfl rfl e12)))))), (List.forall_mem_cons.2 ⟨(Log.past (by decide) (Log.past (by decide) (Log.at_ (LookG.of rfl (Lk.strAdd rfl rfl rfl e13))))), (List.forall_mem_cons.2 ⟨(Log.past (by decide) (Log.at_ (LookG.of rfl (Lk.strAdd rfl rfl rfl e14)))), (List.forall_mem_cons.2 ⟨(Log.at_ (LookG.of rfl (Lk.strAdd rfl rfl rfl e15))), noChk⟩)⟩)⟩)⟩), ?_⟩
              obtain ⟨e16, hS⟩ := hS
              refine R.lookL rfl rfl rfl (Lk.strAdd rfl rfl rfl e16) ?_
              refine R.eff rfl rfl rfl (Eff.loc ok (Ef.call rfl CB59 rfl ((f59_ok hS).mono ?_)))
              rintro _ h_16 ⟨v57_0, v57_1, rfl, hS⟩
              refine fun ok => ⟨noChk, ?_⟩
              refine R.nil ?_
              refine EvC.seq ?_
              refine EvC.region [Item.look 0, Item.look 1, Item.look 2] (by kernel_rfl) ?_
              refine R.look (v := (.pointer (some ⟨b10, 3, none⟩))) rfl rfl rfl (Lk.fldAddr rfl Tryd.underlying54 rfl rfl T9 rfl rfl rfl) fun _ => ?_
              refine R.look rfl rfl rfl (Lk.load1 (v := (.string v42_3)) rfl Tryd.underlying9 rfl rfl (H.rd_loc ok (i := 0) rfl rfl)) fun _ => ?_
              refine R.look rfl rfl rfl (Lk.strNe rfl rfl rfl) fun _ => ?_
              refine R.nil ?_
              by_cases e17 : (!(ByteArray.toList v42_3 == ByteArray.toList ⟨#[]⟩)) = true
              · rw [if_pos e17] at hS
                refine EvC.condT rfl e17 ?_
                refine EvC.region [Item.look 0, Item.look 1, Item.look 2, Item.eff 3 []] (by kernel_rfl) ?_
                refine R.look (v := (.pointer (some ⟨b10, 3, none⟩))) rfl rfl rfl (Lk.fldAddr rfl Tryd.underlying54 rfl rfl T9 rfl rfl rfl) fun _ => ?_
                refine R.look rfl rfl rfl (Lk.load1 (v := (.string v42_3)) rfl Tryd.underlying9 rfl rfl (H.rd_loc ok (i := 0) rfl rfl)) fun _ => ?_
                obtain ⟨e18, hS⟩ := hS
                refine R.look rfl rfl rfl (Lk.strAdd rfl rfl rfl e18) fun _ => ?_
                refine R.eff rfl rfl rfl (Eff.loc ok (Ef.call rfl CB59 rfl ((f59_ok hS).mono ?_)))
                rintro _ h_17 ⟨v64_0, v64_1, rfl, hS⟩
                refine fun ok => ⟨noChk, ?_⟩
                refine R.nil ?_
                exact hIh_12 () _ _ _ (Env.le_put rfl (Env.le_put rfl (Env.le_put rfl (Env.le_put rfl (Env.le_emp _))))) (ok.sub (.cons _ List.Sublist.slnil)) (H.add_sub ok (.cons _ List.Sublist.slnil)) hS
              · rw [if_neg e17] at hS
                replace e17 := eq_false_of_ne_true e17
                refine EvC.condF rfl e17 ?_
                refine EvC.skip ?_
                exact hIh_12 () _ _ _ (Env.le_put rfl (Env.le_put rfl (Env.le_put rfl (Env.le_put rfl (Env.le_emp _))))) (ok.sub (.cons _ List.Sublist.slnil)) (H.add_sub ok (.cons _ List.Sublist.slnil)) hS
          · rw [if_neg e7] at hS
            replace e7 := eq_false_of_ne_true e7
            refine EvC.condF rfl e7 ?_
            refine EvC.exit ?_
            exact hIh_9 () _ _ _ (Env.le_put rfl (Env.le_emp _)) (ok.sub List.Sublist.slnil) (H.add_sub ok List.Sublist.slnil) hS
      · refine EvC.seq ?_
        refine EvC.region [Item.look 0, Item.look 1, Item.look 2, Item.look 3] (by kernel_rfl) ?_
        refine R.look (v := (.pointer (some ⟨b1, 0, none⟩))) rfl rfl rfl (Lk.fldAddr rfl Tryd.underlying29 rfl rfl T22 rfl rfl rfl) fun _ => ?_
        refine R.look rfl rfl rfl (Lk.load1 (v := (.slice p0_0.a p0_0.l p0_0.c)) rfl Tryd.underlying22 rfl rfl (H.rd_loc ok (i := 0) rfl rfl)) fun _ => ?_
        refine R.look rfl rfl rfl (Lk.len rfl Tryd.underlying22 rfl) fun _ => ?_
        refine R.look rfl rfl rfl (Lk.arith rfl rfl rfl rfl) fun _ => ?_
        refine R.nil ?_
        by_cases e19 : ((p0_0.l : Int) == 0) = true
        · rw [if_pos e19] at hS
          refine EvC.condT rfl e19 ?_
          refine EvC.region [Item.eff 0 []] (by kernel_rfl) ?_
          refine R.eff rfl rfl rfl (Eff.loc ok (Ef.call rfl CB59 rfl ((f59_ok hS).mono ?_)))
          rintro _ h_18 ⟨v35_0, v35_1, rfl, hS⟩
          refine fun ok => ⟨noChk, ?_⟩
          refine R.nil ?_
          exact hIh_8 () _ _ _ (Env.le_put rfl (Env.le_put rfl (Env.le_emp _))) (ok.sub (.cons_cons _ List.Sublist.slnil)) (H.add_sub ok (.cons_cons _ List.Sublist.slnil)) hS
        · rw [if_neg e19] at hS
          replace e19 := eq_false_of_ne_true e19
          refine EvC.condF rfl e19 ?_
          refine EvC.skip ?_
          exact hIh_8 () _ _ _ (Env.le_put rfl (Env.le_put rfl (Env.le_emp _))) (ok.sub (.cons_cons _ List.Sublist.slnil)) (H.add_sub ok (.cons_cons _ List.Sublist.slnil)) hS
    · refine EvC.seq ?_
      refine EvC.region [Item.look 0, Item.look 1, Item.look 2, Item.look 3] (by kernel_rfl) ?_
      refine R.look (v := (.pointer (some ⟨b1, 0, none⟩))) rfl rfl rfl (Lk.fldAddr rfl Tryd.underlying29 rfl rfl T22 rfl rfl rfl) fun _ => ?_
      refine R.look rfl rfl rfl (Lk.load1 (v := (.slice p0_0.a p0_0.l p0_0.c)) rfl Tryd.underlying22 rfl rfl (H.rd_loc ok (i := 0) rfl rfl)) fun _ => ?_
      refine R.look rfl rfl rfl (Lk.len rfl Tryd.underlying22 rfl) fun _ => ?_
      refine R.look rfl rfl rfl (Lk.move rfl rfl) fun _ => ?_
      refine R.nil ?_
      refine EvC.block ?_
      refine EvC.loop ?_
      refine LoopC.lfp (σ := Int) (fun s => (Env.put (Env.put (Env.put (Env.put (Env.put (Env.put Env.emp 22 (.int .i64 s)) 21 (.int .i64 (p0_0.l : Int))) 20 (.slice p0_0.a p0_0.l p0_0.c)) 6 (.pointer (some ⟨b6, 0, none⟩))) 5 (.map (some b16))) 1 (.pointer (some ⟨b1, 0, none⟩)))) (fun s => [(b1, .row ⟨[(.slice p0_0.a p0_0.l p0_0.c), (.slice p0_1.a p0_1.l p0_1.c)], 2, 29, true, true⟩)]) (fun X_1 hX_1 => ?_) hS (ok.sub (.cons_cons _ List.Sublist.slnil)) (Env.le_put rfl (Env.le_put rfl (Env.le_put rfl (Env.le_put rfl (Env.le_put rfl (Env.le_put rfl (Env.le_emp _))))))) (H.add_sub ok (.cons_cons _ List.Sublist.slnil))
      intro v22 h_19 hS ok
      replace hS : S25_l6 p0_0 p0_1 K b16 b6 X_1 v22 h_19 := hS
      change EvC _ _ _ (Env.put (Env.put (Env.put (Env.put (Env.put (Env.put Env.emp 22 (.int .i64 v22)) 21 (.int .i64 (p0_0.l : Int))) 20 (.slice p0_0.a p0_0.l p0_0.c)) 6 (.pointer (some ⟨b6, 0, none⟩))) 5 (.map (some b16))) 1 (.pointer (some ⟨b1, 0, none⟩))) (H.add h_19 [(b1, .row ⟨[(.slice p0_0.a p0_0.l p0_0.c), (.slice p0_1.a p0_1.l p0_1.c)], 2, 29, true, true⟩)]) _
      unfold S25_l6 at hS
      refine EvC.seq ?_
      refine EvC.region [Item.look 0] (by kernel_rfl) ?_
      refine R.look rfl rfl rfl (Lk.arith rfl rfl rfl rfl) fun _ => ?_
      refine R.nil ?_
      refine EvC.seq ?_
      by_cases e20 : (decide (v22 < (p0_0.l : Int))) = true
      · rw [if_pos e20] at hS
        refine EvC.condT rfl e20 ?_
        refine EvC.skip ?_
        refine EvC.seq ?_
        refine EvC.block ?_
        refine EvC.seq ?_
        refine EvC.region [Item.look 0, Item.look 1, Item.look 2] (by kernel_rfl) ?_
        obtain ⟨a24, e21, e22, e23, hS⟩ := hS
        refine R.look rfl rfl rfl (Lk.ixAddr rfl Tryd.underlying22 T4 rfl e21 rfl e22 e23) fun _ => ?_
        obtain ⟨v25, e24, hS⟩ := hS
        refine R.look rfl rfl rfl (Look.loc ok (Lk.load1 rfl Tryd.underlying4 rfl rfl e24)) fun _ => ?_
        refine R.look rfl rfl rfl (Lk.assign rfl rfl) fun _ => ?_
        refine R.nil ?_
        refine EvC.region [Item.look 0, Item.look 1, Item.look 2, Item.eff 3 []] (by kernel_rfl) ?_
        refine R.look rfl rfl rfl (Lk.move rfl rfl) fun _ => ?_
        refine R.look rfl rfl rfl (Lk.move rfl rfl) fun _ => ?_
        obtain ⟨v28, e25, hS⟩ := hS
        refine R.look rfl rfl rfl (Look.loc ok (Lk.lookup rfl Tryd.underlying125 Tryd.underlying4 rfl T9 rfl rfl e25)) fun _ => ?_
        refine R.eff rfl rfl rfl (Eff.loc ok (Ef.call rfl CB59 rfl ((f59_ok hS).mono ?_)))
        rintro _ h_20 ⟨v29_0, v29_1, rfl, hS⟩
        refine fun ok => ⟨noChk, ?_⟩
        refine R.nil ?_
        refine EvC.region [Item.look 0, Item.look 1] (by kernel_rfl) ?_
        refine R.look rfl rfl rfl (Lk.arith rfl rfl rfl rfl) fun _ => ?_
        refine R.look rfl rfl rfl (Lk.move rfl rfl) fun _ => ?_
        refine R.nil ?_
        exact hX_1 (IntKind.wrap .i64 (v22 + 1)) _ _ _ hS (ok.sub (.cons_cons _ List.Sublist.slnil)) (Env.le_put rfl (Env.le_put rfl (Env.le_put rfl (Env.le_put rfl (Env.le_put rfl (Env.le_put rfl (Env.le_emp _))))))) (H.add_sub ok (.cons_cons _ List.Sublist.slnil))
      · rw [if_neg e20] at hS
        replace e20 := eq_false_of_ne_true e20
        refine EvC.condF rfl e20 ?_
        refine EvC.exit ?_
        exact hIh_7 () _ _ _ (Env.le_put rfl (Env.le_put rfl (Env.le_emp _))) (ok.sub (.cons_cons _ List.Sublist.slnil)) (H.add_sub ok (.cons_cons _ List.Sublist.slnil)) hS
end Go.Proofs.YtimadnngfhbfiaaDoor
end

section
/- PRINTED by wip/gen.py: the machine's call of muntin/muntinlaw09.wakes does what S24 says. -/
namespace Go.Proofs.YtimadnngfhbfiaaDoor
open Go Go.Mu
set_option maxHeartbeats 4000000
set_option maxRecDepth 100000
theorem f24_ok {h : H} {K : Bool → H → Prop} (hS : S24  h K) : ACall Tryd.prog 24 ([] : List Value).toArray h (fun r h' => ∃ r0 : Bool, r = tup [(.bool r0)] ∧ K r0 h') := by
  refine ACall.enter (fn := Tryd.f24) Tryd.func24 rfl (Nat.le_of_ble_eq_true rfl) ?_
  unfold S24 at hS
  have ok := Lok.nil h
  change EvC _ _ _ _ (H.add h []) _
  refine EvC.seq ?_
  refine EvC.region [Item.look 0] (by kernel_rfl) ?_
  refine R.look rfl rfl rfl (Lk.assign rfl rfl) fun _ => ?_
  refine R.nil ?_
  refine EvC.seq ?_
  refine EvC.region [Item.alc 0, Item.look 1, Item.alc 2, Item.look 3, Item.eff 4 [], Item.look 5, Item.look 6, Item.look 7, Item.look 8, Item.look 9] (by kernel_rfl) ?_
  refine R.new (blk := (.row ⟨[(.bool false), (.bool true)], 2, 4, true, true⟩)) ok rfl rfl rfl (Ac.buildSlice (cs := [(.bool false), (.bool true)]) rfl Tryd.underlying22 T4 (by decide) (by decide) rfl rfl) rfl rfl fun b8 e1 ok => ?_
  replace hS := hS b8 _ e1 rfl
  refine R.look rfl rfl rfl (Lk.build (cs := [(.int .i64 0), (.int .i64 1), (.int .i64 0), (.string ⟨#[76]⟩)]) (pl := [(0, 1), (1, 1), (2, 1), (3, 1)]) rfl Tryd.underlying54 T54 (PlacesL.places (.cons T3 (.cons T3 (.cons T3 (.cons T9 PlacesL.nil))))) rfl rfl) fun _ => ?_
  refine R.new (blk := (.row ⟨[(.int .i64 0), (.int .i64 1), (.int .i64 0), (.string ⟨#[76]⟩)], 4, 54, true, true⟩)) ok rfl rfl rfl (Ac.buildSlice (cs := [(.int .i64 0), (.int .i64 1), (.int .i64 0), (.string ⟨#[76]⟩)]) rfl Tryd.underlying27 T54 (by decide) (by decide) rfl rfl) rfl rfl fun b10 e2 ok => ?_
  replace hS := hS b10 _ e2 rfl
  refine R.look rfl rfl rfl (Lk.build (cs := [(.slice (some ⟨b8, 0, none⟩) 2 2), (.slice (some ⟨b10, 0, none⟩) 1 1)]) (pl := [(0, 1), (1, 1)]) rfl Tryd.underlying29 T29 (PlacesL.places (.cons T22 (.cons T27 PlacesL.nil))) rfl rfl) fun _ => ?_
  refine R.eff rfl rfl rfl (Eff.loc ok (Ef.call rfl CB25 rfl ((f25_ok hS).mono ?_)))
  rintro _ h_3 ⟨v12_0, v12_1, rfl, hS⟩
  refine fun ok => ⟨noChk, ?_⟩
  refine R.look rfl rfl rfl (Lk.move rfl rfl) fun _ => ?_
  refine R.look rfl rfl rfl (Lk.extract rfl rfl rfl) fun _ => ?_
  refine R.look rfl rfl rfl (Lk.extract rfl rfl rfl) fun _ => ?_
  refine R.look rfl rfl rfl (Lk.assign rfl rfl) fun _ => ?_
  refine R.look rfl rfl rfl (Lk.assign rfl rfl) fun _ => ?_
  refine R.nil ?_
  refine EvC.seq ?_
  refine EvC.region [Item.look 0, Item.eff 1 [], Item.look 2, Item.look 3, Item.look 4, Item.alc 5, Item.eff 6 [], Item.look 7] (by kernel_rfl) ?_
  refine R.look rfl rfl rfl (Lk.build (cs := [(.int .i64 0), (.int .i64 1), (.int .i64 0), (.string ⟨#[76]⟩)]) (pl := [(0, 1), (1, 1), (2, 1), (3, 1)]) rfl Tryd.underlying54 T54 (PlacesL.places (.cons T3 (.cons T3 (.cons T3 (.cons T9 PlacesL.nil))))) rfl rfl) fun _ => ?_
  refine R.eff rfl rfl rfl (Eff.loc ok (Ef.call rfl CB22 rfl ((f22_ok hS).mono ?_)))
  rintro _ h_4 ⟨v17_0_0, v17_0_1, v17_0_2, v17_0_3, v17_1, rfl, hS⟩
  refine fun ok => ⟨noChk, ?_⟩
  refine R.look rfl rfl rfl (Lk.move rfl rfl) fun _ => ?_
  refine R.look rfl rfl rfl (Lk.extract rfl rfl rfl) fun _ => ?_
  refine R.look rfl rfl rfl (Lk.extract rfl rfl rfl) fun _ => ?_
  refine R.var (blk := .row ⟨[(.int .i64 0), (.int .i64 0), (.int .i64 0), (.string ⟨#[]⟩)], 4, 54, true, true⟩) ok rfl rfl rfl (Ac.alloc rfl T54) rfl rfl fun b3 ok => ?_
  refine R.effN rfl rfl rfl (Ef.storeLoc (i := 0) (vs := [(.int .i64 v17_0_0), (.int .i64 v17_0_1), (.int .i64 v17_0_2), (.string v17_0_3)]) (cs := [(.int .i64 v17_0_0), (.int .i64 v17_0_1), (.int .i64 v17_0_2), (.string v17_0_3)]) (l' := [(b3, .row ⟨[(.int .i64 v17_0_0), (.int .i64 v17_0_1), (.int .i64 v17_0_2), (.string v17_0_3)], 4, 54, true, true⟩)]) ok rfl T54 rfl rfl rfl rfl rfl rfl rfl rfl rfl rfl fun ok => ⟨noChk, ?_⟩)
  refine R.look rfl rfl rfl (Lk.assign rfl rfl) fun _ => ?_
  refine R.nil ?_
  refine EvC.seq ?_
  refine EvC.region [Item.look 0, Item.alc 1, Item.look 2, Item.eff 3 [], Item.look 4, Item.look 5, Item.look 6, Item.look 7, Item.look 8] (by kernel_rfl) ?_
  refine R.look rfl rfl rfl (Lk.build (cs := [(.int .i64 0), (.int .i64 0), (.int .i64 0), (.string ⟨#[]⟩)]) (pl := [(0, 1), (1, 1), (2, 1), (3, 1)]) rfl Tryd.underlying54 T54 (PlacesL.places (.cons T3 (.cons T3 (.cons T3 (.cons T9 PlacesL.nil))))) rfl rfl) fun _ => ?_
  refine R.new (blk := (.row ⟨[(.int .i64 0), (.int .i64 0), (.int .i64 0), (.string ⟨#[]⟩)], 4, 54, true, true⟩)) ok rfl rfl rfl (Ac.buildSlice (cs := [(.int .i64 0), (.int .i64 0), (.int .i64 0), (.string ⟨#[]⟩)]) rfl Tryd.underlying27 T54 (by decide) (by decide) rfl rfl) rfl rfl fun b22 e3 ok => ?_
  replace hS := hS b22 _ e3 rfl
  refine R.look rfl rfl rfl (Lk.build (cs := [(.slice none 0 0), (.slice (some ⟨b22, 0, none⟩) 1 1)]) (pl := [(0, 1), (1, 1)]) rfl Tryd.underlying29 T29 (PlacesL.places (.cons T22 (.cons T27 PlacesL.nil))) rfl rfl) fun _ => ?_
  refine R.eff rfl rfl rfl (Eff.loc ok (Ef.call rfl CB25 rfl ((f25_ok hS).mono ?_)))
  rintro _ h_6 ⟨v24_0, v24_1, rfl, hS⟩
  refine fun ok => ⟨noChk, ?_⟩
  refine R.look rfl rfl rfl (Lk.move rfl rfl) fun _ => ?_
  refine R.look rfl rfl rfl (Lk.extract rfl rfl rfl) fun _ => ?_
  refine R.look rfl rfl rfl (Lk.extract rfl rfl rfl) fun _ => ?_
  refine R.look rfl rfl rfl (Lk.assign rfl rfl) fun _ => ?_
  refine R.look rfl rfl rfl (Lk.assign rfl rfl) fun _ => ?_
  refine R.nil ?_
  refine EvC.join (σ := Bool) (fun s => (Env.put Env.emp 0 (.bool s))) (fun s => []) (fun s h_7 => S24_j1 K s h_7) ?_ (fun Ih_7 hIh_7 => ?_)
  · intro v0 h_7 ok hS
    replace hS : S24_j1 K v0 h_7 := hS
    change EvC _ _ _ (Env.put Env.emp 0 (.bool v0)) (H.add h_7 []) _
    unfold S24_j1 at hS
    refine EvC.ret ?_
    exact ⟨.inr rfl, _, _, (.cons (.tmp rfl) .nil), ok.le, _, rfl, hS⟩
  · refine EvC.region [Item.look 0, Item.look 1, Item.look 2, Item.look 3, Item.look 4, Item.look 5, Item.look 6, Item.look 7, Item.look 8, Item.look 9, Item.look 10, Item.look 11, Item.look 12, Item.look 13, Item.look 14, Item.look 15, Item.look 16, Item.look 17, Item.look 18, Item.look 19] (by kernel_rfl) ?_
    refine R.look rfl rfl rfl (Lk.move rfl rfl) fun _ => ?_
    refine R.look rfl rfl rfl (Lk.strEq rfl rfl rfl) fun _ => ?_
    refine R.look rfl rfl rfl (Lk.move rfl rfl) fun _ => ?_
    by_cases e4 : (ByteArray.toList v12_0 == ByteArray.toList ⟨#[115, 104, 97, 112, 101, 32, 112, 98, 10, 48, 32, 69, 32, 49, 32, 76, 10, 101, 110, 100, 10]⟩) = true
    · refine R.lookT rfl rfl rfl rfl e4 rfl (Lk.move rfl rfl) fun _ => ?_
      refine R.lookT rfl rfl rfl rfl e4 rfl (Lk.arith rfl rfl rfl rfl) fun _ => ?_
      refine R.look rfl rfl rfl (Lk.pick rfl rfl (fun _ => rfl) (fun e => by rw [e4] at e; cases e)) fun _ => ?_
      refine R.look rfl rfl rfl (Lk.move rfl rfl) fun _ => ?_
      by_cases e5 : (v12_1 == 0) = true
      · refine R.lookT rfl rfl rfl rfl e5 rfl (Lk.loadN (vs := [(.int .i64 v17_0_0), (.int .i64 v17_0_1), (.int .i64 v17_0_2), (.string v17_0_3)]) rfl Tryd.underlying54 rfl T54 rfl (H.rdn_loc ok (i := 0) rfl rfl rfl)) fun _ => ?_
        refine R.lookT rfl rfl rfl rfl e5 rfl (Lk.build (cs := [(.int .i64 1), (.int .i64 0), (.int .i64 3), (.string ⟨#[82]⟩)]) (pl := [(0, 1), (1, 1), (2, 1), (3, 1)]) rfl Tryd.underlying54 T54 (PlacesL.places (.cons T3 (.cons T3 (.cons T3 (.cons T9 PlacesL.nil))))) rfl rfl) fun _ => ?_
        refine R.lookT (v := (.bool ((v17_0_0 == 1) && ((v17_0_1 == 0) && ((v17_0_2 == 3) && ((ByteArray.toList v17_0_3 == ByteArray.toList ⟨#[82]⟩) && true)))))) rfl rfl rfl rfl e5 rfl (Lk.eqS rfl EG54 rfl rfl (EqR.struct Tryd.underlying54 SH54 (EqF.cons (a := (.int .i64 v17_0_0)) (b := (.int .i64 1)) (by decide) Tryd.underlying3 T3 rfl rfl (EqR.int Tryd.underlying3) (EqF.cons (a := (.int .i64 v17_0_1)) (b := (.int .i64 0)) (by decide) Tryd.underlying3 T3 rfl rfl (EqR.int Tryd.underlying3) (EqF.cons (a := (.int .i64 v17_0_2)) (b := (.int .i64 3)) (by decide) Tryd.underlying3 T3 rfl rfl (EqR.int Tryd.underlying3) (EqF.cons (a := (.string v17_0_3)) (b := (.string ⟨#[82]⟩)) (by decide) Tryd.underlying9 T9 rfl rfl (EqR.str Tryd.underlying9) EqF.nil)))))) fun _ => ?_
        refine R.look (v := (.bool ((v17_0_0 == 1) && ((v17_0_1 == 0) && ((v17_0_2 == 3) && ((ByteArray.toList v17_0_3 == ByteArray.toList ⟨#[82]⟩) && true)))))) rfl rfl rfl (Lk.pick rfl rfl (fun _ => rfl) (fun e => by rw [e5] at e; cases e)) fun _ => ?_
        refine R.look (v := (.bool ((v17_0_0 == 1) && ((v17_0_1 == 0) && ((v17_0_2 == 3) && ((ByteArray.toList v17_0_3 == ByteArray.toList ⟨#[82]⟩) && true)))))) rfl rfl rfl (Lk.move rfl rfl) fun _ => ?_
        by_cases e6 : ((v17_0_0 == 1) && ((v17_0_1 == 0) && ((v17_0_2 == 3) && ((ByteArray.toList v17_0_3 == ByteArray.toList ⟨#[82]⟩) && true)))) = true
        · refine R.lookT rfl rfl rfl rfl e6 rfl (Lk.move rfl rfl) fun _ => ?_
          refine R.lookT rfl rfl rfl rfl e6 rfl (Lk.arith rfl rfl rfl rfl) fun _ => ?_
          refine R.look rfl rfl rfl (Lk.pick rfl rfl (fun _ => rfl) (fun e => by rw [e6] at e; cases e)) fun _ => ?_
          refine R.look rfl rfl rfl (Lk.move rfl rfl) fun _ => ?_
          by_cases e7 : (v17_1 == 0) = true
          · refine R.lookT rfl rfl rfl rfl e7 rfl (Lk.move rfl rfl) fun _ => ?_
            refine R.lookT rfl rfl rfl rfl e7 rfl (Lk.arith rfl rfl rfl rfl) fun _ => ?_
            refine R.look rfl rfl rfl (Lk.pick rfl rfl (fun _ => rfl) (fun e => by rw [e7] at e; cases e)) fun _ => ?_
            refine R.look rfl rfl rfl (Lk.assign rfl rfl) fun _ => ?_
            refine R.nil ?_
            exact hIh_7 (((((ByteArray.toList v12_0 == ByteArray.toList ⟨#[115, 104, 97, 112, 101, 32, 112, 98, 10, 48, 32, 69, 32, 49, 32, 76, 10, 101, 110, 100, 10]⟩) && (v12_1 == 0)) && ((v17_0_0 == 1) && ((v17_0_1 == 0) && ((v17_0_2 == 3) && ((ByteArray.toList v17_0_3 == ByteArray.toList ⟨#[82]⟩) && true))))) && (v17_1 == 0)) && (v24_1 == 3)) _ _ _ (Env.le_put (by rw [e4, e5, e6, e7]; rfl) (Env.le_emp _)) (ok.sub (.cons _ List.Sublist.slnil)) (H.add_sub ok (.cons _ List.Sublist.slnil)) hS
          · replace e7 := eq_false_of_ne_true e7
            refine R.lookF rfl rfl rfl rfl e7 rfl fun _ => ?_
            refine R.lookF rfl rfl rfl rfl e7 rfl fun _ => ?_
            refine R.look rfl rfl rfl (Lk.pick rfl rfl (fun e => by rw [e7] at e; cases e) (fun _ => rfl)) fun _ => ?_
            refine R.look rfl rfl rfl (Lk.assign rfl rfl) fun _ => ?_
            refine R.nil ?_
            exact hIh_7 (((((ByteArray.toList v12_0 == ByteArray.toList ⟨#[115, 104, 97, 112, 101, 32, 112, 98, 10, 48, 32, 69, 32, 49, 32, 76, 10, 101, 110, 100, 10]⟩) && (v12_1 == 0)) && ((v17_0_0 == 1) && ((v17_0_1 == 0) && ((v17_0_2 == 3) && ((ByteArray.toList v17_0_3 == ByteArray.toList ⟨#[82]⟩) && true))))) && (v17_1 == 0)) && (v24_1 == 3)) _ _ _ (Env.le_put (by rw [e4, e5, e6, e7]; rfl) (Env.le_emp _)) (ok.sub (.cons _ List.Sublist.slnil)) (H.add_sub ok (.cons _ List.Sublist.slnil)) hS
        · replace e6 := eq_false_of_ne_true e6
          refine R.lookF rfl rfl rfl rfl e6 rfl fun _ => ?_
          refine R.lookF rfl rfl rfl rfl e6 rfl fun _ => ?_
          refine R.look rfl rfl rfl (Lk.pick rfl rfl (fun e => by rw [e6] at e; cases e) (fun _ => rfl)) fun _ => ?_
          refine R.look rfl rfl rfl (Lk.move rfl rfl) fun _ => ?_
          refine R.lookF rfl rfl rfl rfl rfl rfl fun _ => ?_
          refine R.lookF rfl rfl rfl rfl rfl rfl fun _ => ?_
          refine R.look rfl rfl rfl (Lk.pick rfl rfl (fun e => by cases e) (fun _ => rfl)) fun _ => ?_
          refine R.look rfl rfl rfl (Lk.assign rfl rfl) fun _ => ?_
          refine R.nil ?_
          exact hIh_7 (((((ByteArray.toList v12_0 == ByteArray.toList ⟨#[115, 104, 97, 112, 101, 32, 112, 98, 10, 48, 32, 69, 32, 49, 32, 76, 10, 101, 110, 100, 10]⟩) && (v12_1 == 0)) && ((v17_0_0 == 1) && ((v17_0_1 == 0) && ((v17_0_2 == 3) && ((ByteArray.toList v17_0_3 == ByteArray.toList ⟨#[82]⟩) && true))))) && (v17_1 == 0)) && (v24_1 == 3)) _ _ _ (Env.le_put (by rw [e4, e5, e6]; rfl) (Env.le_emp _)) (ok.sub (.cons _ List.Sublist.slnil)) (H.add_sub ok (.cons _ List.Sublist.slnil)) hS
      · replace e5 := eq_false_of_ne_true e5
        refine R.lookF rfl rfl rfl rfl e5 rfl fun _ => ?_
        refine R.lookF rfl rfl rfl rfl e5 rfl fun _ => ?_
        refine R.lookF rfl rfl rfl rfl e5 rfl fun _ => ?_
        refine R.look rfl rfl rfl (Lk.pick rfl rfl (fun e => by rw [e5] at e; cases e) (fun _ => rfl)) fun _ => ?_
        refine R.look rfl rfl rfl (Lk.move rfl rfl) fun _ => ?_
        refine R.lookF rfl rfl rfl rfl rfl rfl fun _ => ?_
        refine R.lookF rfl rfl rfl rfl rfl rfl fun _ => ?_
        refine R.look rfl rfl rfl (Lk.pick rfl rfl (fun e => by cases e) (fun _ => rfl)) fun _ => ?_
        refine R.look rfl rfl rfl (Lk.move rfl rfl) fun _ => ?_
        refine R.lookF rfl rfl rfl rfl rfl rfl fun _ => ?_
        refine R.lookF rfl rfl rfl rfl rfl rfl fun _ => ?_
        refine R.look rfl rfl rfl (Lk.pick rfl rfl (fun e => by cases e) (fun _ => rfl)) fun _ => ?_
        refine R.look rfl rfl rfl (Lk.assign rfl rfl) fun _ => ?_
        refine R.nil ?_
        exact hIh_7 (((((ByteArray.toList v12_0 == ByteArray.toList ⟨#[115, 104, 97, 112, 101, 32, 112, 98, 10, 48, 32, 69, 32, 49, 32, 76, 10, 101, 110, 100, 10]⟩) && (v12_1 == 0)) && ((v17_0_0 == 1) && ((v17_0_1 == 0) && ((v17_0_2 == 3) && ((ByteArray.toList v17_0_3 == ByteArray.toList ⟨#[82]⟩) && true))))) && (v17_1 == 0)) && (v24_1 == 3)) _ _ _ (Env.le_put (by rw [e4, e5]; rfl) (Env.le_emp _)) (ok.sub (.cons _ List.Sublist.slnil)) (H.add_sub ok (.cons _ List.Sublist.slnil)) hS
    · replace e4 := eq_false_of_ne_true e4
      refine R.lookF rfl rfl rfl rfl e4 rfl fun _ => ?_
      refine R.lookF rfl rfl rfl rfl e4 rfl fun _ => ?_
      refine R.look rfl rfl rfl (Lk.pick rfl rfl (fun e => by rw [e4] at e; cases e) (fun _ => rfl)) fun _ => ?_
      refine R.look rfl rfl rfl (Lk.move rfl rfl) fun _ => ?_
      refine R.lookF rfl rfl rfl rfl rfl rfl fun _ => ?_
      refine R.lookF rfl rfl rfl rfl rfl rfl fun _ => ?_
      refine R.lookF rfl rfl rfl rfl rfl rfl fun _ => ?_
      refine R.look rfl rfl rfl (Lk.pick rfl rfl (fun e => by cases e) (fun _ => rfl)) fun _ => ?_
      refine R.look rfl rfl rfl (Lk.move rfl rfl) fun _ => ?_
      refine R.lookF rfl rfl rfl rfl rfl rfl fun _ => ?_
      refine R.lookF rfl rfl rfl rfl rfl rfl fun _ => ?_
      refine R.look rfl rfl rfl (Lk.pick rfl rfl (fun e => by cases e) (fun _ => rfl)) fun _ => ?_
      refine R.look rfl rfl rfl (Lk.move rfl rfl) fun _ => ?_
      refine R.lookF rfl rfl rfl rfl rfl rfl fun _ => ?_
      refine R.lookF rfl rfl rfl rfl rfl rfl fun _ => ?_
      refine R.look rfl rfl rfl (Lk.pick rfl rfl (fun e => by cases e) (fun _ => rfl)) fun _ => ?_
      refine R.look rfl rfl rfl (Lk.assign rfl rfl) fun _ => ?_
      refine R.nil ?_
      exact hIh_7 (((((ByteArray.toList v12_0 == ByteArray.toList ⟨#[115, 104, 97, 112, 101, 32, 112, 98, 10, 48, 32, 69, 32, 49, 32, 76, 10, 101, 110, 100, 10]⟩) && (v12_1 == 0)) && ((v17_0_0 == 1) && ((v17_0_1 == 0) && ((v17_0_2 == 3) && ((ByteArray.toList v17_0_3 == ByteArray.toList ⟨#[82]⟩) && true))))) && (v17_1 == 0)) && (v24_1 == 3)) _ _ _ (Env.le_put (by rw [e4]; rfl) (Env.le_emp _)) (ok.sub (.cons _ List.Sublist.slnil)) (H.add_sub ok (.cons _ List.Sublist.slnil)) hS
end Go.Proofs.YtimadnngfhbfiaaDoor
end

section
/- PRINTED by wip/gen.py: the machine's call of muntin/muntinlaw09.TextTurns does what S6 says. -/
namespace Go.Proofs.YtimadnngfhbfiaaDoor
open Go Go.Mu
set_option maxHeartbeats 4000000
set_option maxRecDepth 100000
theorem f6_ok {p0_0 : Int} {p0_1 : Int} {p0_2 : Int} {p0_3 : ByteArray} {h : H} {K : Bool → H → Prop} (hS : S6 p0_0 p0_1 p0_2 p0_3 h K) : ACall Tryd.prog 6 ([(.agg ([(.int .i64 p0_0), (.int .i64 p0_1), (.int .i64 p0_2), (.string p0_3)] : List Value).toArray)] : List Value).toArray h (fun r h' => ∃ r0 : Bool, r = tup [(.bool r0)] ∧ K r0 h') := by
  refine ACall.enter (fn := Tryd.f6) Tryd.func6 rfl (Nat.le_of_ble_eq_true rfl) ?_
  unfold S6 at hS
  have ok := Lok.nil h
  change EvC _ _ _ _ (H.add h []) _
  refine EvC.seq ?_
  refine EvC.region [Item.alc 0, Item.look 1] (by kernel_rfl) ?_
  refine R.var (blk := .row ⟨[(.int .i64 p0_0), (.int .i64 p0_1), (.int .i64 p0_2), (.string p0_3)], 4, 54, true, true⟩) ok rfl rfl rfl (Ac.box rfl rfl) rfl rfl fun b1 ok => ?_
  refine R.look rfl rfl rfl (Lk.assign rfl rfl) fun _ => ?_
  refine R.nil ?_
  refine EvC.seq ?_
  refine EvC.region [Item.look 0, Item.look 1, Item.look 2, Item.look 3, Item.look 4, Item.look 5, Item.look 6, Item.look 7, Item.eff 8 []] (by kernel_rfl) ?_
  refine R.look (v := (.pointer (some ⟨b1, 3, none⟩))) rfl rfl rfl (Lk.fldAddr rfl Tryd.underlying54 rfl rfl T9 rfl rfl rfl) fun _ => ?_
  refine R.look rfl rfl rfl (Lk.load1 (v := (.string p0_3)) rfl Tryd.underlying9 rfl rfl (H.rd_loc ok (i := 0) rfl rfl)) fun _ => ?_
  refine R.look (v := (.pointer (some ⟨b1, 3, none⟩))) rfl rfl rfl (Lk.fldAddr rfl Tryd.underlying54 rfl rfl T9 rfl rfl rfl) fun _ => ?_
  refine R.look rfl rfl rfl (Lk.load1 (v := (.string p0_3)) rfl Tryd.underlying9 rfl rfl (H.rd_loc ok (i := 0) rfl rfl)) fun _ => ?_
  refine R.look rfl rfl rfl (Lk.lenS rfl Tryd.underlying9 rfl) fun _ => ?_
  refine R.look rfl rfl rfl (Lk.min2 rfl rfl rfl) fun _ => ?_
  obtain ⟨e1, e2, hS⟩ := hS
  refine R.look rfl rfl rfl (Lk.subStrTo rfl Tryd.underlying9 rfl rfl e1 e2) fun _ => ?_
  refine R.look (v := (.pointer (some ⟨b1, 3, none⟩))) rfl rfl rfl (Lk.fldAddr rfl Tryd.underlying54 rfl rfl T9 rfl rfl rfl) fun _ => ?_
  refine R.effN rfl rfl rfl (Ef.storeLoc (i := 0) (vs := [(.string (ByteArray.extract p0_3 0 (Int.toNat (if 50 < (ByteArray.size p0_3 : Int) then 50 else (ByteArray.size p0_3 : Int)))))]) (cs := [(.int .i64 p0_0), (.int .i64 p0_1), (.int .i64 p0_2), (.string (ByteArray.extract p0_3 0 (Int.toNat (if 50 < (ByteArray.size p0_3 : Int) then 50 else (ByteArray.size p0_3 : Int)))))]) (l' := [(b1, .row ⟨[(.int .i64 p0_0), (.int .i64 p0_1), (.int .i64 p0_2), (.string (ByteArray.extract p0_3 0 (Int.toNat (if 50 < (ByteArray.size p0_3 : Int) then 50 else (ByteArray.size p0_3 : Int)))))], 4, 54, true, true⟩)]) ok rfl T9 rfl rfl rfl rfl rfl rfl rfl rfl rfl rfl fun ok => ⟨noChk, ?_⟩)
  refine R.nil ?_
  refine EvC.seq ?_
  refine EvC.region [Item.look 0, Item.eff 1 [], Item.look 2, Item.look 3, Item.look 4, Item.alc 5, Item.eff 6 [], Item.look 7] (by kernel_rfl) ?_
  refine R.look rfl rfl rfl (Lk.loadN (vs := [(.int .i64 p0_0), (.int .i64 p0_1), (.int .i64 p0_2), (.string (ByteArray.extract p0_3 0 (Int.toNat (if 50 < (ByteArray.size p0_3 : Int) then 50 else (ByteArray.size p0_3 : Int)))))]) rfl Tryd.underlying54 rfl T54 rfl (H.rdn_loc ok (i := 0) rfl rfl rfl)) fun _ => ?_
  refine R.eff rfl rfl rfl (Eff.loc ok (Ef.call rfl CB22 rfl ((f22_ok hS).mono ?_)))
  rintro _ h_1 ⟨v17_0_0, v17_0_1, v17_0_2, v17_0_3, v17_1, rfl, hS⟩
  refine fun ok => ⟨noChk, ?_⟩
  refine R.look rfl rfl rfl (Lk.move rfl rfl) fun _ => ?_
  refine R.look rfl rfl rfl (Lk.extract rfl rfl rfl) fun _ => ?_
  refine R.look rfl rfl rfl (Lk.extract rfl rfl rfl) fun _ => ?_
  refine R.var (blk := .row ⟨[(.int .i64 0), (.int .i64 0), (.int .i64 0), (.string ⟨#[]⟩)], 4, 54, true, true⟩) ok rfl rfl rfl (Ac.alloc rfl T54) rfl rfl fun b3 ok => ?_
  refine R.effN rfl rfl rfl (Ef.storeLoc (i := 0) (vs := [(.int .i64 v17_0_0), (.int .i64 v17_0_1), (.int .i64 v17_0_2), (.string v17_0_3)]) (cs := [(.int .i64 v17_0_0), (.int .i64 v17_0_1), (.int .i64 v17_0_2), (.string v17_0_3)]) (l' := [(b3, .row ⟨[(.int .i64 v17_0_0), (.int .i64 v17_0_1), (.int .i64 v17_0_2), (.string v17_0_3)], 4, 54, true, true⟩), (b1, .row ⟨[(.int .i64 p0_0), (.int .i64 p0_1), (.int .i64 p0_2), (.string (ByteArray.extract p0_3 0 (Int.toNat (if 50 < (ByteArray.size p0_3 : Int) then 50 else (ByteArray.size p0_3 : Int)))))], 4, 54, true, true⟩)]) ok rfl T54 rfl rfl rfl rfl rfl rfl rfl rfl rfl rfl fun ok => ⟨noChk, ?_⟩)
  refine R.look rfl rfl rfl (Lk.assign rfl rfl) fun _ => ?_
  refine R.nil ?_
  refine EvC.seq ?_
  refine EvC.seq ?_
  refine EvC.region [Item.alc 0, Item.look 1, Item.look 2, Item.look 3, Item.look 4, Item.look 5, Item.alc 6, Item.look 7, Item.eff 8 [], Item.look 9] (by kernel_rfl) ?_
  refine R.new (blk := (.row ⟨[(.bool false)], 1, 4, true, true⟩)) ok rfl rfl rfl (Ac.buildSlice (cs := [(.bool false)]) rfl Tryd.underlying22 T4 (by decide) (by decide) rfl rfl) rfl rfl fun b20 e3 ok => ?_
  replace hS := hS b20 _ e3 rfl
  refine R.look (v := (.pointer (some ⟨b1, 2, none⟩))) rfl rfl rfl (Lk.fldAddr rfl Tryd.underlying54 rfl rfl T3 rfl rfl rfl) fun _ => ?_
  refine R.look rfl rfl rfl (Lk.load1 (v := (.int .i64 p0_2)) rfl Tryd.underlying3 rfl rfl (H.rd_loc ok (i := 1) rfl rfl)) fun _ => ?_
  refine R.look (v := (.pointer (some ⟨b1, 3, none⟩))) rfl rfl rfl (Lk.fldAddr rfl Tryd.underlying54 rfl rfl T9 rfl rfl rfl) fun _ => ?_
  refine R.look rfl rfl rfl (Lk.load1 (v := (.string (ByteArray.extract p0_3 0 (Int.toNat (if 50 < (ByteArray.size p0_3 : Int) then 50 else (ByteArray.size p0_3 : Int)))))) rfl Tryd.underlying9 rfl rfl (H.rd_loc ok (i := 1) rfl rfl)) fun _ => ?_
  refine R.look rfl rfl rfl (Lk.build (cs := [(.int .i64 0), (.int .i64 0), (.int .i64 p0_2), (.string (ByteArray.extract p0_3 0 (Int.toNat (if 50 < (ByteArray.size p0_3 : Int) then 50 else (ByteArray.size p0_3 : Int)))))]) (pl := [(0, 1), (1, 1), (2, 1), (3, 1)]) rfl Tryd.underlying54 T54 (PlacesL.places (.cons T3 (.cons T3 (.cons T3 (.cons T9 PlacesL.nil))))) rfl rfl) fun _ => ?_
  refine R.new (blk := (.row ⟨[(.int .i64 0), (.int .i64 0), (.int .i64 p0_2), (.string (ByteArray.extract p0_3 0 (Int.toNat (if 50 < (ByteArray.size p0_3 : Int) then 50 else (ByteArray.size p0_3 : Int)))))], 4, 54, true, true⟩)) ok rfl rfl rfl (Ac.buildSlice (cs := [(.int .i64 0), (.int .i64 0), (.int .i64 p0_2), (.string (ByteArray.extract p0_3 0 (Int.toNat (if 50 < (ByteArray.size p0_3 : Int) then 50 else (ByteArray.size p0_3 : Int)))))]) rfl Tryd.underlying27 T54 (by decide) (by decide) rfl rfl) rfl rfl fun b26 e4 ok => ?_
  replace hS := hS b26 _ e4 rfl
  refine R.look rfl rfl rfl (Lk.build (cs := [(.slice (some ⟨b20, 0, none⟩) 1 1), (.slice (some ⟨b26, 0, none⟩) 1 1)]) (pl := [(0, 1), (1, 1)]) rfl Tryd.underlying29 T29 (PlacesL.places (.cons T22 (.cons T27 PlacesL.nil))) rfl rfl) fun _ => ?_
  refine R.eff rfl rfl rfl (Eff.loc ok (Ef.call rfl CB23 rfl ((f23_ok hS).mono ?_)))
  rintro _ h_4 ⟨v28, rfl, hS⟩
  refine fun ok => ⟨noChk, ?_⟩
  refine R.look rfl rfl rfl (Lk.arith rfl rfl rfl rfl) fun _ => ?_
  refine R.nil ?_
  by_cases e5 : (v28 != 0) = true
  · rw [if_pos e5] at hS
    refine EvC.condT rfl e5 ?_
    refine EvC.join (σ := Bool) (fun s => (Env.put Env.emp 2 (.bool s))) (fun s => []) (fun s h_5 => S6_j1 K s h_5) ?_ (fun Ih_5 hIh_5 => ?_)
    · intro v2 h_5 ok hS
      replace hS : S6_j1 K v2 h_5 := hS
      change EvC _ _ _ (Env.put Env.emp 2 (.bool v2)) (H.add h_5 []) _
      unfold S6_j1 at hS
      refine EvC.ret ?_
      exact ⟨.inr rfl, _, _, (.cons (.tmp rfl) .nil), ok.le, _, rfl, hS⟩
    · refine EvC.region [Item.eff 0 [], Item.look 1, Item.look 2, Item.look 3, Item.look 4, Item.look 5, Item.look 6, Item.look 7, Item.look 8, Item.look 9, Item.look 10] (by kernel_rfl) ?_
      refine R.eff rfl rfl rfl (Eff.loc ok (Ef.call rfl CB24 rfl ((f24_ok hS).mono ?_)))
      rintro _ h_6 ⟨v30, rfl, hS⟩
      refine fun ok => ⟨noChk, ?_⟩
      refine R.look rfl rfl rfl (Lk.move rfl rfl) fun _ => ?_
      by_cases e6 : v30 = true
      · refine R.lookT rfl rfl rfl rfl e6 rfl (Lk.move rfl rfl) fun _ => ?_
        refine R.lookT rfl rfl rfl rfl e6 rfl (Lk.arith rfl rfl rfl rfl) fun _ => ?_
        refine R.look rfl rfl rfl (Lk.pick rfl rfl (fun _ => rfl) (fun e => by rw [e6] at e; cases e)) fun _ => ?_
        refine R.look rfl rfl rfl (Lk.move rfl rfl) fun _ => ?_
        by_cases e7 : (v17_1 == 2) = true
        · refine R.lookT rfl rfl rfl rfl e7 rfl (Lk.loadN (vs := [(.int .i64 v17_0_0), (.int .i64 v17_0_1), (.int .i64 v17_0_2), (.string v17_0_3)]) rfl Tryd.underlying54 rfl T54 rfl (H.rdn_loc ok (i := 0) rfl rfl rfl)) fun _ => ?_
          refine R.lookT rfl rfl rfl rfl e7 rfl (Lk.build (cs := [(.int .i64 0), (.int .i64 0), (.int .i64 0), (.string ⟨#[]⟩)]) (pl := [(0, 1), (1, 1), (2, 1), (3, 1)]) rfl Tryd.underlying54 T54 (PlacesL.places (.cons T3 (.cons T3 (.cons T3 (.cons T9 PlacesL.nil))))) rfl rfl) fun _ => ?_
          refine R.lookT (v := (.bool ((v17_0_0 == 0) && ((v17_0_1 == 0) && ((v17_0_2 == 0) && ((ByteArray.toList v17_0_3 == ByteArray.toList ⟨#[]⟩) && true)))))) rfl rfl rfl rfl e7 rfl (Lk.eqS rfl EG54 rfl rfl (EqR.struct Tryd.underlying54 SH54 (EqF.cons (a := (.int .i64 v17_0_0)) (b := (.int .i64 0)) (by decide) Tryd.underlying3 T3 rfl rfl (EqR.int Tryd.underlying3) (EqF.cons (a := (.int .i64 v17_0_1)) (b := (.int .i64 0)) (by decide) Tryd.underlying3 T3 rfl rfl (EqR.int Tryd.underlying3) (EqF.cons (a := (.int .i64 v17_0_2)) (b := (.int .i64 0)) (by decide) Tryd.underlying3 T3 rfl rfl (EqR.int Tryd.underlying3) (EqF.cons (a := (.string v17_0_3)) (b := (.string ⟨#[]⟩)) (by decide) Tryd.underlying9 T9 rfl rfl (EqR.str Tryd.underlying9) EqF.nil)))))) fun _ => ?_
          refine R.look (v := (.bool ((v17_0_0 == 0) && ((v17_0_1 == 0) && ((v17_0_2 == 0) && ((ByteArray.toList v17_0_3 == ByteArray.toList ⟨#[]⟩) && true)))))) rfl rfl rfl (Lk.pick rfl rfl (fun _ => rfl) (fun e => by rw [e7] at e; cases e)) fun _ => ?_
          refine R.look (v := (.bool ((v17_0_0 == 0) && ((v17_0_1 == 0) && ((v17_0_2 == 0) && ((ByteArray.toList v17_0_3 == ByteArray.toList ⟨#[]⟩) && true)))))) rfl rfl rfl (Lk.assign rfl rfl) fun _ => ?_
          refine R.nil ?_
          exact hIh_5 ((v30 && (v17_1 == 2)) && ((v17_0_0 == 0) && ((v17_0_1 == 0) && ((v17_0_2 == 0) && ((ByteArray.toList v17_0_3 == ByteArray.toList ⟨#[]⟩) && true))))) _ _ _ (Env.le_put (by rw [e6, e7]; rfl) (Env.le_emp _)) (ok.sub (.cons _ (.cons _ List.Sublist.slnil))) (H.add_sub ok (.cons _ (.cons _ List.Sublist.slnil))) hS
        · replace e7 := eq_false_of_ne_true e7
          refine R.lookF rfl rfl rfl rfl e7 rfl fun _ => ?_
          refine R.lookF rfl rfl rfl rfl e7 rfl fun _ => ?_
          refine R.lookF rfl rfl rfl rfl e7 rfl fun _ => ?_
          refine R.look rfl rfl rfl (Lk.pick rfl rfl (fun e => by rw [e7] at e; cases e) (fun _ => rfl)) fun _ => ?_
          refine R.look rfl rfl rfl (Lk.assign rfl rfl) fun _ => ?_
          refine R.nil ?_
          exact hIh_5 ((v30 && (v17_1 == 2)) && ((v17_0_0 == 0) && ((v17_0_1 == 0) && ((v17_0_2 == 0) && ((ByteArray.toList v17_0_3 == ByteArray.toList ⟨#[]⟩) && true))))) _ _ _ (Env.le_put (by rw [e6, e7]; rfl) (Env.le_emp _)) (ok.sub (.cons _ (.cons _ List.Sublist.slnil))) (H.add_sub ok (.cons _ (.cons _ List.Sublist.slnil))) hS
      · replace e6 := eq_false_of_ne_true e6
        refine R.lookF rfl rfl rfl rfl e6 rfl fun _ => ?_
        refine R.lookF rfl rfl rfl rfl e6 rfl fun _ => ?_
        refine R.look rfl rfl rfl (Lk.pick rfl rfl (fun e => by rw [e6] at e; cases e) (fun _ => rfl)) fun _ => ?_
        refine R.look rfl rfl rfl (Lk.move rfl rfl) fun _ => ?_
        refine R.lookF rfl rfl rfl rfl rfl rfl fun _ => ?_
        refine R.lookF rfl rfl rfl rfl rfl rfl fun _ => ?_
        refine R.lookF rfl rfl rfl rfl rfl rfl fun _ => ?_
        refine R.look rfl rfl rfl (Lk.pick rfl rfl (fun e => by cases e) (fun _ => rfl)) fun _ => ?_
        refine R.look rfl rfl rfl (Lk.assign rfl rfl) fun _ => ?_
        refine R.nil ?_
        exact hIh_5 ((v30 && (v17_1 == 2)) && ((v17_0_0 == 0) && ((v17_0_1 == 0) && ((v17_0_2 == 0) && ((ByteArray.toList v17_0_3 == ByteArray.toList ⟨#[]⟩) && true))))) _ _ _ (Env.le_put (by rw [e6]; rfl) (Env.le_emp _)) (ok.sub (.cons _ (.cons _ List.Sublist.slnil))) (H.add_sub ok (.cons _ (.cons _ List.Sublist.slnil))) hS
  · rw [if_neg e5] at hS
    replace e5 := eq_false_of_ne_true e5
    refine EvC.condF rfl e5 ?_
    refine EvC.skip ?_
    refine EvC.seq ?_
    refine EvC.region [Item.look 0, Item.eff 1 [], Item.look 2, Item.look 3, Item.look 4, Item.alc 5, Item.eff 6 [], Item.look 7] (by kernel_rfl) ?_
    refine R.look rfl rfl rfl (Lk.loadN (vs := [(.int .i64 v17_0_0), (.int .i64 v17_0_1), (.int .i64 v17_0_2), (.string v17_0_3)]) rfl Tryd.underlying54 rfl T54 rfl (H.rdn_loc ok (i := 0) rfl rfl rfl)) fun _ => ?_
    refine R.eff rfl rfl rfl (Eff.loc ok (Ef.call rfl CB22 rfl ((f22_ok hS).mono ?_)))
    rintro _ h_7 ⟨v42_0_0, v42_0_1, v42_0_2, v42_0_3, v42_1, rfl, hS⟩
    refine fun ok => ⟨noChk, ?_⟩
    refine R.look rfl rfl rfl (Lk.move rfl rfl) fun _ => ?_
    refine R.look rfl rfl rfl (Lk.extract rfl rfl rfl) fun _ => ?_
    refine R.look rfl rfl rfl (Lk.extract rfl rfl rfl) fun _ => ?_
    refine R.var (blk := .row ⟨[(.int .i64 0), (.int .i64 0), (.int .i64 0), (.string ⟨#[]⟩)], 4, 54, true, true⟩) ok rfl rfl rfl (Ac.alloc rfl T54) rfl rfl fun b5 ok => ?_
    refine R.effN rfl rfl rfl (Ef.storeLoc (i := 0) (vs := [(.int .i64 v42_0_0), (.int .i64 v42_0_1), (.int .i64 v42_0_2), (.string v42_0_3)]) (cs := [(.int .i64 v42_0_0), (.int .i64 v42_0_1), (.int .i64 v42_0_2), (.string v42_0_3)]) (l' := [(b5, .row ⟨[(.int .i64 v42_0_0), (.int .i64 v42_0_1), (.int .i64 v42_0_2), (.string v42_0_3)], 4, 54, true, true⟩), (b3, .row ⟨[(.int .i64 v17_0_0), (.int .i64 v17_0_1), (.int .i64 v17_0_2), (.string v17_0_3)], 4, 54, true, true⟩), (b1, .row ⟨[(.int .i64 p0_0), (.int .i64 p0_1), (.int .i64 p0_2), (.string (ByteArray.extract p0_3 0 (Int.toNat (if 50 < (ByteArray.size p0_3 : Int) then 50 else (ByteArray.size p0_3 : Int)))))], 4, 54, true, true⟩)]) ok rfl T54 rfl rfl rfl rfl rfl rfl rfl rfl rfl rfl fun ok => ⟨noChk, ?_⟩)
    refine R.look rfl rfl rfl (Lk.assign rfl rfl) fun _ => ?_
    refine R.nil ?_
    refine EvC.join (σ := Bool) (fun s => (Env.put Env.emp 2 (.bool s))) (fun s => []) (fun s h_8 => S6_j2 K s h_8) ?_ (fun Ih_8 hIh_8 => ?_)
    · intro v2_1 h_8 ok hS
      replace hS : S6_j2 K v2_1 h_8 := hS
      change EvC _ _ _ (Env.put Env.emp 2 (.bool v2_1)) (H.add h_8 []) _
      unfold S6_j2 at hS
      refine EvC.ret ?_
      exact ⟨.inr rfl, _, _, (.cons (.tmp rfl) .nil), ok.le, _, rfl, hS⟩
    · refine EvC.draw [0, 1, 3, 7, 15, 31, 63, 63, 191, 511, 1023, 2047, 4095, 8191, 16383, 32767, 65535, 65535, 262143, 524287, 1048575] [Item.eff 0 [], Item.look 1, Item.look 2, Item.look 3, Item.look 4, Item.look 5, Item.look 6, Item.look 7, Item.eff 8 [6], Item.look 9, Item.look 10, Item.look 11, Item.look 12, Item.look 13, Item.look 14, Item.look 15, Item.look 16, Item.look 17, Item.look 18, Item.look 19, Item.look 20] MO (by kernel_rfl) ?_
      refine R.eff rfl rfl rfl (Eff.loc ok (Ef.call rfl CB24 rfl ((f24_ok hS).mono ?_)))
      rintro _ h_9 ⟨v45, rfl, hS⟩
      refine fun ok => ⟨noChk, ?_⟩
      refine R.lookL rfl rfl rfl (Lk.move rfl rfl) ?_
      by_cases e8 : v45 = true
      · rw [if_pos e8] at hS
        refine R.lookTL rfl rfl rfl rfl e8 rfl (Lk.move rfl rfl) ?_
        refine R.lookTL rfl rfl rfl rfl e8 rfl (Lk.arith rfl rfl rfl rfl) ?_
        refine R.lookL rfl rfl rfl (Lk.pick rfl rfl (fun _ => rfl) (fun e => by rw [e8] at e; cases e)) ?_
        refine R.lookL rfl rfl rfl (Lk.move rfl rfl) ?_
        by_cases e9 : (v17_1 == 0) = true
        · rw [if_pos e9] at hS
          refine R.lookTL rfl rfl rfl rfl e9 rfl (Lk.loadN (vs := [(.int .i64 v17_0_0), (.int .i64 v17_0_1), (.int .i64 v17_0_2), (.string v17_0_3)]) rfl Tryd.underlying54 rfl T54 rfl (H.rdn_loc ok (i := 1) rfl rfl rfl)) ?_
          refine R.lookTL rfl rfl rfl rfl e9 rfl (Lk.loadN (vs := [(.int .i64 p0_0), (.int .i64 p0_1), (.int .i64 p0_2), (.string (ByteArray.extract p0_3 0 (Int.toNat (if 50 < (ByteArray.size p0_3 : Int) then 50 else (ByteArray.size p0_3 : Int)))))]) rfl Tryd.underlying54 rfl T54 rfl (H.rdn_loc ok (i := 2) rfl rfl rfl)) ?_
          refine R.effT rfl rfl rfl rfl e9 rfl (Eff.loc ok (Ef.call rfl CB21 rfl ((f21_ok hS).mono ?_)))
          rintro _ h_10 ⟨v53_0, v53_1, v53_2, v53_3, rfl, hS⟩
          refine fun ok => ⟨(List.forall_mem_cons.2 ⟨(Log.past (by decide) (Log.at_ (LookG.ofT rfl rfl rfl e9 (Lk.loadN (vs := [(.int .i64 v17_0_0), (.int .i64 v17_0_1), (.int .i64 v17_0_2), (.string v17_0_3)]) rfl Tryd.underlying54 rfl T54 rfl (H.rdn_loc ok (i := 1) rfl rfl rfl))))), noChk⟩), ?_⟩
          refine R.lookTL (v := (.bool ((v17_0_0 == v53_0) && ((v17_0_1 == v53_1) && ((v17_0_2 == v53_2) && ((ByteArray.toList v17_0_3 == ByteArray.toList v53_3) && true)))))) rfl rfl rfl rfl e9 rfl (Lk.eqS rfl EG54 rfl rfl (EqR.struct Tryd.underlying54 SH54 (EqF.cons (a := (.int .i64 v17_0_0)) (b := (.int .i64 v53_0)) (by decide) Tryd.underlying3 T3 rfl rfl (EqR.int Tryd.underlying3) (EqF.cons (a := (.int .i64 v17_0_1)) (b := (.int .i64 v53_1)) (by decide) Tryd.underlying3 T3 rfl rfl (EqR.int Tryd.underlying3) (EqF.cons (a := (.int .i64 v17_0_2)) (b := (.int .i64 v53_2)) (by decide) Tryd.underlying3 T3 rfl rfl (EqR.int Tryd.underlying3) (EqF.cons (a := (.string v17_0_3)) (b := (.string v53_3)) (by decide) Tryd.underlying9 T9 rfl rfl (EqR.str Tryd.underlying9) EqF.nil)))))) ?_
          refine R.lookL (v := (.bool ((v17_0_0 == v53_0) && ((v17_0_1 == v53_1) && ((v17_0_2 == v53_2) && ((ByteArray.toList v17_0_3 == ByteArray.toList v53_3) && true)))))) rfl rfl rfl (Lk.pick rfl rfl (fun _ => rfl) (fun e => by rw [e9] at e; cases e)) ?_
          refine R.lookL (v := (.bool ((v17_0_0 == v53_0) && ((v17_0_1 == v53_1) && ((v17_0_2 == v53_2) && ((ByteArray.toList v17_0_3 == ByteArray.toList v53_3) && true)))))) rfl rfl rfl (Lk.move rfl rfl) ?_
          by_cases e10 : ((v17_0_0 == v53_0) && ((v17_0_1 == v53_1) && ((v17_0_2 == v53_2) && ((ByteArray.toList v17_0_3 == ByteArray.toList v53_3) && true)))) = true
          · rw [if_pos e10] at hS
            refine R.lookTL rfl rfl rfl rfl e10 rfl (Lk.move rfl rfl) ?_
            refine R.lookTL rfl rfl rfl rfl e10 rfl (Lk.arith rfl rfl rfl rfl) ?_
            refine R.lookL rfl rfl rfl (Lk.pick rfl rfl (fun _ => rfl) (fun e => by rw [e10] at e; cases e)) ?_
            refine R.lookL rfl rfl rfl (Lk.move rfl rfl) ?_
            by_cases e11 : (v42_1 == 0) = true
            · rw [if_pos e11] at hS
              refine R.lookTL rfl rfl rfl rfl e11 rfl (Lk.loadN (vs := [(.int .i64 v42_0_0), (.int .i64 v42_0_1), (.int .i64 v42_0_2), (.string v42_0_3)]) rfl Tryd.underlying54 rfl T54 rfl (H.rdn_loc ok (i := 0) rfl rfl rfl)) ?_
              refine R.lookTL rfl rfl rfl rfl e11 rfl (Lk.loadN (vs := [(.int .i64 p0_0), (.int .i64 p0_1), (.int .i64 p0_2), (.string (ByteArray.extract p0_3 0 (Int.toNat (if 50 < (ByteArray.size p0_3 : Int) then 50 else (ByteArray.size p0_3 : Int)))))]) rfl Tryd.underlying54 rfl T54 rfl (H.rdn_loc ok (i := 2) rfl rfl rfl)) ?_
              refine R.lookTL (v := (.bool ((v42_0_0 == p0_0) && ((v42_0_1 == p0_1) && ((v42_0_2 == p0_2) && ((ByteArray.toList v42_0_3 == ByteArray.toList (ByteArray.extract p0_3 0 (Int.toNat (if 50 < (ByteArray.size p0_3 : Int) then 50 else (ByteArray.size p0_3 : Int))))) && true)))))) rfl rfl rfl rfl e11 rfl (Lk.eqS rfl EG54 rfl rfl (EqR.struct Tryd.underlying54 SH54 (EqF.cons (a := (.int .i64 v42_0_0)) (b := (.int .i64 p0_0)) (by decide) Tryd.underlying3 T3 rfl rfl (EqR.int Tryd.underlying3) (EqF.cons (a := (.int .i64 v42_0_1)) (b := (.int .i64 p0_1)) (by decide) Tryd.underlying3 T3 rfl rfl (EqR.int Tryd.underlying3) (EqF.cons (a := (.int .i64 v42_0_2)) (b := (.int .i64 p0_2)) (by decide) Tryd.underlying3 T3 rfl rfl (EqR.int Tryd.underlying3) (EqF.cons (a := (.string v42_0_3)) (b := (.string (ByteArray.extract p0_3 0 (Int.toNat (if 50 < (ByteArray.size p0_3 : Int) then 50 else (ByteArray.size p0_3 : Int)))))) (by decide) Tryd.underlying9 T9 rfl rfl (EqR.str Tryd.underlying9) EqF.nil)))))) ?_
              refine R.lookL (v := (.bool ((v42_0_0 == p0_0) && ((v42_0_1 == p0_1) && ((v42_0_2 == p0_2) && ((ByteArray.toList v42_0_3 == ByteArray.toList (ByteArray.extract p0_3 0 (Int.toNat (if 50 < (ByteArray.size p0_3 : Int) then 50 else (ByteArray.size p0_3 : Int))))) && true)))))) rfl rfl rfl (Lk.pick rfl rfl (fun _ => rfl) (fun e => by rw [e11] at e; cases e)) ?_
              refine R.lookL (v := (.bool ((v42_0_0 == p0_0) && ((v42_0_1 == p0_1) && ((v42_0_2 == p0_2) && ((ByteArray.toList v42_0_3 == ByteArray.toList (ByteArray.extract p0_3 0 (Int.toNat (if 50 < (ByteArray.size p0_3 : Int) then 50 else (ByteArray.size p0_3 : Int))))) && true)))))) rfl rfl rfl (Lk.assign rfl rfl) ?_
              refine R.nil ?_
              exact hIh_8 ((v42_0_0 == p0_0) && ((v42_0_1 == p0_1) && ((v42_0_2 == p0_2) && ((ByteArray.toList v42_0_3 == ByteArray.toList (ByteArray.extract p0_3 0 (Int.toNat (if 50 < (ByteArray.size p0_3 : Int) then 50 else (ByteArray.size p0_3 : Int))))) && true)))) _ _ _ (Env.le_put rfl (Env.le_emp _)) (ok.sub (.cons _ (.cons _ (.cons _ List.Sublist.slnil)))) (H.add_sub ok (.cons _ (.cons _ (.cons _ List.Sublist.slnil)))) hS
            · rw [if_neg e11] at hS
              replace e11 := eq_false_of_ne_true e11
              refine R.lookFL rfl rfl rfl rfl e11 rfl ?_
              refine R.lookFL rfl rfl rfl rfl e11 rfl ?_
              refine R.lookFL rfl rfl rfl rfl e11 rfl ?_
              refine R.lookL rfl rfl rfl (Lk.pick rfl rfl (fun e => by rw [e11] at e; cases e) (fun _ => rfl)) ?_
              refine R.lookL rfl rfl rfl (Lk.assign rfl rfl) ?_
              refine R.nil ?_
              exact hIh_8 false _ _ _ (Env.le_put rfl (Env.le_emp _)) (ok.sub (.cons _ (.cons _ (.cons _ List.Sublist.slnil)))) (H.add_sub ok (.cons _ (.cons _ (.cons _ List.Sublist.slnil)))) hS
          · rw [if_neg e10] at hS
            replace e10 := eq_false_of_ne_true e10
            refine R.lookFL rfl rfl rfl rfl e10 rfl ?_
            refine R.lookFL rfl rfl rfl rfl e10 rfl ?_
            refine R.lookL rfl rfl rfl (Lk.pick rfl rfl (fun e => by rw [e10] at e; cases e) (fun _ => rfl)) ?_
            refine R.lookL rfl rfl rfl (Lk.move rfl rfl) ?_
            refine R.lookFL rfl rfl rfl rfl rfl rfl ?_
            refine R.lookFL rfl rfl rfl rfl rfl rfl ?_
            refine R.lookFL rfl rfl rfl rfl rfl rfl ?_
            refine R.lookL rfl rfl rfl (Lk.pick rfl rfl (fun e => by cases e) (fun _ => rfl)) ?_
            refine R.lookL rfl rfl rfl (Lk.assign rfl rfl) ?_
            refine R.nil ?_
            exact hIh_8 false _ _ _ (Env.le_put rfl (Env.le_emp _)) (ok.sub (.cons _ (.cons _ (.cons _ List.Sublist.slnil)))) (H.add_sub ok (.cons _ (.cons _ (.cons _ List.Sublist.slnil)))) hS
        · rw [if_neg e9] at hS
          replace e9 := eq_false_of_ne_true e9
          refine R.lookFL rfl rfl rfl rfl e9 rfl ?_
          refine R.lookFL rfl rfl rfl rfl e9 rfl ?_
          refine R.effF rfl rfl rfl rfl e9 rfl ?_
          refine R.lookFL rfl rfl rfl rfl e9 rfl ?_
          refine R.lookL rfl rfl rfl (Lk.pick rfl rfl (fun e => by rw [e9] at e; cases e) (fun _ => rfl)) ?_
          refine R.lookL rfl rfl rfl (Lk.move rfl rfl) ?_
          refine R.lookFL rfl rfl rfl rfl rfl rfl ?_
          refine R.lookFL rfl rfl rfl rfl rfl rfl ?_
          refine R.lookL rfl rfl rfl (Lk.pick rfl rfl (fun e => by cases e) (fun _ => rfl)) ?_
          refine R.lookL rfl rfl rfl (Lk.move rfl rfl) ?_
          refine R.lookFL rfl rfl rfl rfl rfl rfl ?_
          refine R.lookFL rfl rfl rfl rfl rfl rfl ?_
          refine R.lookFL rfl rfl rfl rfl rfl rfl ?_
          refine R.lookL rfl rfl rfl (Lk.pick rfl rfl (fun e => by cases e) (fun _ => rfl)) ?_
          refine R.lookL rfl rfl rfl (Lk.assign rfl rfl) ?_
          refine R.nil ?_
          exact hIh_8 false _ _ _ (Env.le_put rfl (Env.le_emp _)) (ok.sub (.cons _ (.cons _ (.cons _ List.Sublist.slnil)))) (H.add_sub ok (.cons _ (.cons _ (.cons _ List.Sublist.slnil)))) hS
      · rw [if_neg e8] at hS
        replace e8 := eq_false_of_ne_true e8
        refine R.lookFL rfl rfl rfl rfl e8 rfl ?_
        refine R.lookFL rfl rfl rfl rfl e8 rfl ?_
        refine R.lookL rfl rfl rfl (Lk.pick rfl rfl (fun e => by rw [e8] at e; cases e) (fun _ => rfl)) ?_
        refine R.lookL rfl rfl rfl (Lk.move rfl rfl) ?_
        refine R.lookFL rfl rfl rfl rfl rfl rfl ?_
        refine R.lookFL rfl rfl rfl rfl rfl rfl ?_
        refine R.effF rfl rfl rfl rfl rfl rfl ?_
        refine R.lookFL rfl rfl rfl rfl rfl rfl ?_
        refine R.lookL rfl rfl rfl (Lk.pick rfl rfl (fun e => by cases e) (fun _ => rfl)) ?_
        refine R.lookL rfl rfl rfl (Lk.move rfl rfl) ?_
        refine R.lookFL rfl rfl rfl rfl rfl rfl ?_
        refine R.lookFL rfl rfl rfl rfl rfl rfl ?_
        refine R.lookL rfl rfl rfl (Lk.pick rfl rfl (fun e => by cases e) (fun _ => rfl)) ?_
        refine R.lookL rfl rfl rfl (Lk.move rfl rfl) ?_
        refine R.lookFL rfl rfl rfl rfl rfl rfl ?_
        refine R.lookFL rfl rfl rfl rfl rfl rfl ?_
        refine R.lookFL rfl rfl rfl rfl rfl rfl ?_
        refine R.lookL rfl rfl rfl (Lk.pick rfl rfl (fun e => by cases e) (fun _ => rfl)) ?_
        refine R.lookL rfl rfl rfl (Lk.assign rfl rfl) ?_
        refine R.nil ?_
        exact hIh_8 false _ _ _ (Env.le_put rfl (Env.le_emp _)) (ok.sub (.cons _ (.cons _ (.cons _ List.Sublist.slnil)))) (H.add_sub ok (.cons _ (.cons _ (.cons _ List.Sublist.slnil)))) hS
end Go.Proofs.YtimadnngfhbfiaaDoor
end

section
/-
  TextTurns: the statement and its card.
-/
namespace Go.Proofs.YtimadnngfhbfiaaDoor
open Go Go.Mu Go.Shape
open Go.ChangeShapes Go.WideShapes Go.ChangeAt Go.RowKit Go.Joins Go.Deep

theorem ownKnob_none : ownKnob Tryd.prog.godebug = none := by kernel_rfl
theorem laidOut_prog : laidOutB Tryd.prog = true := by kernel_rfl
set_option maxRecDepth 100000 in
theorem edge_in {H' : Type} {enc : TypeId × Value → H'} {W : World} {base : Nat} {v : Value} {d : DataW H'} {p : List MemPlace} (hv : Value.okWide Tryd.prog W .any base 54 v) (h : DataW.Trod enc Tryd.prog W 0 (fun _ => true) true 54 v d p) :
    ∃ (f t e : Int) (s : ByteArray), v = .agg ([(.int .i64 f), (.int .i64 t), (.int .i64 e), (.string s)] : List Value).toArray := by
  obtain ⟨v0, v1, v2, v3, y0, y1, y2, y3, n, rfl, _, _, t0, t1, t2, t3⟩ := open_agg4 Tryd.underlying54 (by kernel_rfl) (by kernel_rfl) hv h
  obtain ⟨n0, e0, _, _⟩ := DataW.trod_int Tryd.underlying3 t0
  obtain ⟨n1, e1, _, _⟩ := DataW.trod_int Tryd.underlying3 t1
  obtain ⟨n2, e2, _, _⟩ := DataW.trod_int Tryd.underlying3 t2
  obtain ⟨s, e3, _, _⟩ := DataW.trod_string Tryd.underlying9 t3
  simp only [List.cons.injEq, and_true] at e0 e1 e2 e3
  subst e0 e1 e2 e3
  exact ⟨n0, n1, n2, s, rfl⟩

set_option maxRecDepth 100000 in
theorem textTurns_lifted (os : Os) (started : os.Started) (H' : Type) (enc : TypeId × Value → H') :
    ReturnsInHanded {} Tryd.checked os 6 .any (fun w args => (Rows.textTurnsSpec.pre enc Tryd.prog Tryd.f6 [] false w args ∧ laidMetH Tryd.prog Rows.textTurnsRow.laid w) ∧ sizedMet enc Tryd.prog Tryd.f6 (OpenSpec.ofChange Rows.textTurnsSpec) false w args)
      (Rows.textTurnsSpec.post enc Tryd.prog Tryd.f6 false true false false) := by
  refine returnsInHanded_of_change_and (C := Tryd.checked) (X := fun w _ => laidMetH Tryd.prog Rows.textTurnsRow.laid w) (fun _ _ _ hh h => h.of_heap hh) ownKnob_none started (by kernel_rfl) Tryd.func6
    (ChangeSpec.witness_shaped (enc := enc) (C := Tryd.checked) (os := os) (X := fun w _ => laidMetH Tryd.prog Rows.textTurnsRow.laid w) false (World.laidAll Tryd.prog os Rows.textTurnsRow.laid) #[.agg #[.int .i64 0, .int .i64 0, .int .i64 0, .string ⟨#[]⟩]] 8 (World.laidAll_os _ _ _)
      (World.shaped_of_ZipB (by kernel_rfl) (by kernel_rfl)) (by kernel_rfl) (by kernel_rfl) (by kernel_rfl)
      (by rw [MakeChecks.laidMetH_plain _ _ _ (by kernel_rfl)]; exact laidMet_laidAll _ (by kernel_rfl) (by kernel_rfl))) ?_
  intro W base args ds gs before hval0 hW _ _ hL _
  have hval : ∀ (j : Nat) t v, Tryd.f6.params[j]? = some t → args[j]? = some v → Value.okWide Tryd.prog W .any base t v := hval0
  have hW' := hW
  obtain ⟨p, q, hA0, hV, rfl, _, _⟩ := hW
  have hA : DataW.TrodAll enc Tryd.prog W 0 (fun _ => true) true Tryd.f6.params.toList args.toList ds p := hA0
  rw [Tryd.params6] at hA hval
  obtain ⟨v0, d0, rfl, rfl, h0⟩ := trodAll_one hA
  obtain ⟨rfl, rfl⟩ := trodVars_none hV
  have h0k := h0
  clear hA0 hval0
  simp only [List.append_nil] at hW'
  have hlt : ∀ x ∈ p, x.block < W.heap.size := fun x hx => by simpa using hW'.lt x hx
  obtain ⟨f, t, e, s, rfl⟩ := edge_in (hval 0 54 v0 rfl rfl) h0
  refine (ACall.world (f6_ok (K := fun r _ => r = true) (c6 fun _ => rfl))).mono fun e W' ⟨r, h', he, hb, b, hr, hk⟩ => ?_
  subst hk
  have hr' : r = .bool true := hr
  subst hr' he
  exact ⟨_, rfl, ⟨_, _, _, [], _, [], hW', trodAll_mk1 (shut_bool Tryd.underlying4 _), trodAll_mk1 (Below.trod laidOut_prog (by kernel_rfl) (of_decide_eq_true (by kernel_rfl)) h0k hb hlt), rfl, hb.frame _, fun h => by cases h⟩⟩

theorem textTurns_said : Rows.TextTurnsSaid :=
  OpenClaim.holds_of_wide 6 Tryd.f6 rfl rfl rfl rfl rfl rfl rfl ⟨rfl, rfl, rfl, rfl, rfl⟩ rfl rfl rfl rfl rfl (by kernel_rfl) Tryd.func6 (by kernel_rfl)
    (of_decide_eq_true (by kernel_rfl)) (by unfold Func.isWrapper; first | (rw [if_pos (by decide +kernel)]; kernel_rfl) | (rw [if_neg (by decide +kernel)]; exact ⟨rfl, rfl⟩))
    (fun os started H enc _ => textTurns_lifted os started H enc)

set_option maxRecDepth 100000 in
theorem textTurns_holds : Rows.TextTurnsCardSaid :=
  Claim7.holds_tied_plain_at .later [] [.data, .data, .data, .data, .pinned] true (true, "d6f36886d12485c9cea0d9571512dfa97f8ee8e7a58d0d4df16bc376e7d03632") false
    textTurns_said (fun _ h => by cases h) (by kernel_rfl) (fun _ h => by cases h) textTurns_row_tie rfl ⟨rfl, rfl⟩ (by kernel_rfl) rfl
    (fun f fn hf hfn => by
      obtain rfl : f = 6 := Option.some.inj ((show Tryd.prog.funcNamed "muntin/muntinlaw09.TextTurns" = some 6 by kernel_rfl).symm.trans hf) |>.symm
      obtain rfl : fn = Tryd.f6 := (Option.some.inj (Tryd.func6.symm.trans hfn)).symm
      exact ⟨by kernel_rfl, fun j t ht => by
        rw [Tryd.params6] at ht
        have h3 : t = 54 := by
          rcases j with _ | j
          · simpa using ht.symm
          · simp at ht
        subst h3
        exact (show Tryd.prog.wantsStandIn 54 = false by kernel_rfl)⟩)
    (by kernel_rfl)
end Go.Proofs.YtimadnngfhbfiaaDoor
end
