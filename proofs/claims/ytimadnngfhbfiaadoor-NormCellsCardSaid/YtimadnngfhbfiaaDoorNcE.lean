/-
  PROVED HERE: 'muntinlaw11.NormCells' answers true whatever the raw shape, and what was handed in reads as it did. Conditions: the package variables that the row lists hold what the program's text lays.
  Part 5 of 5.
-/
import Derived.Test.YtimadnngfhbfiaaDoorNcD
import Derived.Test.YtimadnngfhbfiaaDoorTie
import Derived.Test.YtimadnngfhbfiaaDoorCards
import Derived.Test.YtimadnngfhbfiaaDoorChecked
import Derived.OpenShut
import Derived.LaidMore
import Derived.Lay
import Derived.SevenTiedAt
import Derived.Stop.Joined

section
/- PRINTED by wip/gen.py: the machine's call of muntin/muntinlaw11.NormCells does what S4 says. -/
namespace Go.Proofs.YtimadnngfhbfiaaDoor
open Go Go.Mu
set_option maxHeartbeats 4000000
set_option maxRecDepth 100000
theorem f4_ok {p0_0 : Sl} {p0_1 : Sl} {p0_2 : Sl} {h : H} {K : Bool → H → Prop} (hS : S4 p0_0 p0_1 p0_2 h K) : ACall Tryd.prog 4 ([(.agg ([(.slice p0_0.a p0_0.l p0_0.c), (.slice p0_1.a p0_1.l p0_1.c), (.slice p0_2.a p0_2.l p0_2.c)] : List Value).toArray)] : List Value).toArray h (fun r h' => ∃ r0 : Bool, r = tup [(.bool r0)] ∧ K r0 h') := by
  refine ACall.enter (fn := Tryd.f4) Tryd.func4 rfl (Nat.le_of_ble_eq_true rfl) ?_
  unfold S4 at hS
  have ok := Lok.nil h
  change EvC _ _ _ _ (H.add h []) _
  refine EvC.seq ?_
  refine EvC.region [Item.alc 0, Item.look 1] (by kernel_rfl) ?_
  refine R.var (blk := .row ⟨[(.slice p0_0.a p0_0.l p0_0.c), (.slice p0_1.a p0_1.l p0_1.c), (.slice p0_2.a p0_2.l p0_2.c)], 3, 26, true, true⟩) ok rfl rfl rfl (Ac.box rfl rfl) rfl rfl fun b1 ok => ?_
  refine R.look rfl rfl rfl (Lk.assign rfl rfl) fun _ => ?_
  refine R.nil ?_
  refine EvC.seq ?_
  refine EvC.region [Item.look 0, Item.eff 1 [], Item.alc 2, Item.eff 3 []] (by kernel_rfl) ?_
  refine R.look rfl rfl rfl (Lk.loadN (vs := [(.slice p0_0.a p0_0.l p0_0.c), (.slice p0_1.a p0_1.l p0_1.c), (.slice p0_2.a p0_2.l p0_2.c)]) rfl Tryd.underlying26 rfl T26 rfl (H.rdn_loc ok (i := 0) rfl rfl rfl)) fun _ => ?_
  refine R.eff rfl rfl rfl (Eff.loc ok (Ef.call rfl CB11 rfl ((f11_ok hS).mono ?_)))
  rintro _ h_1 ⟨v23_0, v23_1, rfl, hS⟩
  refine fun ok => ⟨noChk, ?_⟩
  refine R.var (blk := .row ⟨[(.slice none 0 0), (.slice none 0 0)], 2, 29, true, true⟩) ok rfl rfl rfl (Ac.alloc rfl T29) rfl rfl fun b3 ok => ?_
  refine R.effN rfl rfl rfl (Ef.storeLoc (i := 0) (vs := [(.slice v23_0.a v23_0.l v23_0.c), (.slice v23_1.a v23_1.l v23_1.c)]) (cs := [(.slice v23_0.a v23_0.l v23_0.c), (.slice v23_1.a v23_1.l v23_1.c)]) (l' := [(b3, .row ⟨[(.slice v23_0.a v23_0.l v23_0.c), (.slice v23_1.a v23_1.l v23_1.c)], 2, 29, true, true⟩), (b1, .row ⟨[(.slice p0_0.a p0_0.l p0_0.c), (.slice p0_1.a p0_1.l p0_1.c), (.slice p0_2.a p0_2.l p0_2.c)], 3, 26, true, true⟩)]) ok rfl T29 rfl rfl rfl rfl rfl rfl rfl rfl rfl rfl fun ok => ⟨noChk, ?_⟩)
  refine R.nil ?_
  refine EvC.seq ?_
  refine EvC.region [Item.look 0, Item.eff 1 [], Item.look 2, Item.look 3, Item.look 4, Item.alc 5, Item.eff 6 [], Item.look 7] (by kernel_rfl) ?_
  refine R.look rfl rfl rfl (Lk.loadN (vs := [(.slice v23_0.a v23_0.l v23_0.c), (.slice v23_1.a v23_1.l v23_1.c)]) rfl Tryd.underlying29 rfl T29 rfl (H.rdn_loc ok (i := 0) rfl rfl rfl)) fun _ => ?_
  refine R.eff rfl rfl rfl (Eff.loc ok (Ef.call rfl CB12 rfl ((f12_ok hS).mono ?_)))
  rintro _ h_2 ⟨v26_0_0, v26_0_1, v26_0_2, v26_1, rfl, hS⟩
  refine fun ok => ⟨noChk, ?_⟩
  refine R.look rfl rfl rfl (Lk.move rfl rfl) fun _ => ?_
  refine R.look rfl rfl rfl (Lk.extract rfl rfl rfl) fun _ => ?_
  refine R.look rfl rfl rfl (Lk.extract rfl rfl rfl) fun _ => ?_
  refine R.new (blk := (.row ⟨[(.slice none 0 0), (.slice none 0 0), (.slice none 0 0)], 3, 35, true, true⟩)) ok rfl rfl rfl (Ac.alloc rfl T35) rfl rfl fun b4 e1 ok => ?_
  replace hS := hS b4 _ e1 rfl
  obtain ⟨h_4, e2, hS⟩ := hS
  refine R.effN rfl rfl rfl (Eff.loc ok (Ef.store rfl T35 rfl rfl rfl rfl rfl e2 fun ok => ⟨noChk, ?_⟩))
  refine R.look rfl rfl rfl (Lk.assign rfl rfl) fun _ => ?_
  refine R.nil ?_
  refine EvC.seq ?_
  refine EvC.join (σ := Bool) (fun s => (Env.put (Env.put (Env.put Env.emp 34 (.bool s)) 4 (.pointer (some ⟨b4, 0, none⟩))) 3 (.pointer (some ⟨b3, 0, none⟩)))) (fun s => [(b3, .row ⟨[(.slice v23_0.a v23_0.l v23_0.c), (.slice v23_1.a v23_1.l v23_1.c)], 2, 29, true, true⟩)]) (fun s h_5 => S4_j20 K v23_0 v23_1 b4 s h_5) ?_ (fun Ih_5 hIh_5 => ?_)
  · intro v34 h_5 ok hS
    replace hS : S4_j20 K v23_0 v23_1 b4 v34 h_5 := hS
    change EvC _ _ _ (Env.put (Env.put (Env.put Env.emp 34 (.bool v34)) 4 (.pointer (some ⟨b4, 0, none⟩))) 3 (.pointer (some ⟨b3, 0, none⟩))) (H.add h_5 [(b3, .row ⟨[(.slice v23_0.a v23_0.l v23_0.c), (.slice v23_1.a v23_1.l v23_1.c)], 2, 29, true, true⟩)]) _
    unfold S4_j20 at hS
    by_cases e3 : v34 = true
    · rw [if_pos e3] at hS
      refine EvC.condT rfl e3 ?_
      refine EvC.seq ?_
      refine EvC.region [Item.eff 0 [], Item.look 1] (by kernel_rfl) ?_
      refine R.eff rfl rfl rfl (Eff.loc ok (Ef.call rfl CB14 rfl ((f14_ok hS).mono ?_)))
      rintro _ h_6 ⟨v35, rfl, hS⟩
      refine fun ok => ⟨noChk, ?_⟩
      refine R.look rfl rfl rfl (Lk.assign rfl rfl) fun _ => ?_
      refine R.nil ?_
      refine EvC.ret ?_
      exact ⟨.inr rfl, _, _, (.cons (.tmp rfl) .nil), ok.le, _, rfl, hS⟩
    · rw [if_neg e3] at hS
      replace e3 := eq_false_of_ne_true e3
      refine EvC.condF rfl e3 ?_
      refine EvC.skip ?_
      refine EvC.seq ?_
      refine EvC.join (σ := Bool) (fun s => (Env.put (Env.put (Env.put Env.emp 57 (.bool s)) 4 (.pointer (some ⟨b4, 0, none⟩))) 3 (.pointer (some ⟨b3, 0, none⟩)))) (fun s => [(b3, .row ⟨[(.slice v23_0.a v23_0.l v23_0.c), (.slice v23_1.a v23_1.l v23_1.c)], 2, 29, true, true⟩)]) (fun s h_7 => S4_j19 K v23_0 v23_1 b4 s h_7) ?_ (fun Ih_7 hIh_7 => ?_)
      · intro v57 h_7 ok hS
        replace hS : S4_j19 K v23_0 v23_1 b4 v57 h_7 := hS
        change EvC _ _ _ (Env.put (Env.put (Env.put Env.emp 57 (.bool v57)) 4 (.pointer (some ⟨b4, 0, none⟩))) 3 (.pointer (some ⟨b3, 0, none⟩))) (H.add h_7 [(b3, .row ⟨[(.slice v23_0.a v23_0.l v23_0.c), (.slice v23_1.a v23_1.l v23_1.c)], 2, 29, true, true⟩)]) _
        unfold S4_j19 at hS
        by_cases e4 : v57 = true
        · rw [if_pos e4] at hS
          refine EvC.condT rfl e4 ?_
          refine EvC.seq ?_
          refine EvC.region [Item.look 0] (by kernel_rfl) ?_
          refine R.look rfl rfl rfl (Lk.assign rfl rfl) fun _ => ?_
          refine R.nil ?_
          refine EvC.ret ?_
          exact ⟨.inr rfl, _, _, (.cons (.tmp rfl) .nil), ok.le, _, rfl, hS⟩
        · rw [if_neg e4] at hS
          replace e4 := eq_false_of_ne_true e4
          refine EvC.condF rfl e4 ?_
          refine EvC.skip ?_
          refine EvC.seq ?_
          refine EvC.region [Item.look 0, Item.look 1] (by kernel_rfl) ?_
          refine R.look rfl rfl rfl (Lk.assign rfl rfl) fun _ => ?_
          refine R.look rfl rfl rfl (Lk.assign rfl rfl) fun _ => ?_
          refine R.nil ?_
          refine EvC.join (σ := Int) (fun s => (Env.put (Env.put (Env.put (Env.put Env.emp 7 (.int .i64 0)) 6 (.int .i64 s)) 4 (.pointer (some ⟨b4, 0, none⟩))) 3 (.pointer (some ⟨b3, 0, none⟩)))) (fun s => [(b3, .row ⟨[(.slice v23_0.a v23_0.l v23_0.c), (.slice v23_1.a v23_1.l v23_1.c)], 2, 29, true, true⟩)]) (fun s h_8 => S4_j12 K v23_0 v23_1 b4 s h_8) ?_ (fun Ih_8 hIh_8 => ?_)
          · intro v6 h_8 ok hS
            replace hS : S4_j12 K v23_0 v23_1 b4 v6 h_8 := hS
            change EvC _ _ _ (Env.put (Env.put (Env.put (Env.put Env.emp 7 (.int .i64 0)) 6 (.int .i64 v6)) 4 (.pointer (some ⟨b4, 0, none⟩))) 3 (.pointer (some ⟨b3, 0, none⟩))) (H.add h_8 [(b3, .row ⟨[(.slice v23_0.a v23_0.l v23_0.c), (.slice v23_1.a v23_1.l v23_1.c)], 2, 29, true, true⟩)]) _
            unfold S4_j12 at hS
            refine EvC.seq ?_
            refine EvC.region [Item.look 0, Item.look 1] (by kernel_rfl) ?_
            refine R.look rfl rfl rfl (Lk.makeFunc (vs := []) rfl rfl rfl) fun _ => ?_
            refine R.look rfl rfl rfl (Lk.assign rfl rfl) fun _ => ?_
            refine R.nil ?_
            refine EvC.join (σ := Int) (fun s => (Env.put (Env.put (Env.put (Env.put (Env.put Env.emp 11 (.func (.func 19) ([] : List Value).toArray ([(.pointer (some ⟨b4, 0, none⟩))] : List Value).toArray)) 7 (.int .i64 s)) 6 (.int .i64 v6)) 4 (.pointer (some ⟨b4, 0, none⟩))) 3 (.pointer (some ⟨b3, 0, none⟩)))) (fun s => [(b3, .row ⟨[(.slice v23_0.a v23_0.l v23_0.c), (.slice v23_1.a v23_1.l v23_1.c)], 2, 29, true, true⟩)]) (fun s h_9 => S4_j8 K v23_0 v23_1 b4 v6 s h_9) ?_ (fun Ih_9 hIh_9 => ?_)
            · intro v7 h_9 ok hS
              replace hS : S4_j8 K v23_0 v23_1 b4 v6 v7 h_9 := hS
              change EvC _ _ _ (Env.put (Env.put (Env.put (Env.put (Env.put Env.emp 11 (.func (.func 19) ([] : List Value).toArray ([(.pointer (some ⟨b4, 0, none⟩))] : List Value).toArray)) 7 (.int .i64 v7)) 6 (.int .i64 v6)) 4 (.pointer (some ⟨b4, 0, none⟩))) 3 (.pointer (some ⟨b3, 0, none⟩))) (H.add h_9 [(b3, .row ⟨[(.slice v23_0.a v23_0.l v23_0.c), (.slice v23_1.a v23_1.l v23_1.c)], 2, 29, true, true⟩)]) _
              unfold S4_j8 at hS
              refine EvC.join (σ := Unit) (fun s => (Env.put (Env.put (Env.put Env.emp 7 (.int .i64 v7)) 6 (.int .i64 v6)) 3 (.pointer (some ⟨b3, 0, none⟩)))) (fun s => [(b3, .row ⟨[(.slice v23_0.a v23_0.l v23_0.c), (.slice v23_1.a v23_1.l v23_1.c)], 2, 29, true, true⟩)]) (fun s h_10 => S4_j1 K v23_1 v6 v7 h_10) ?_ (fun Ih_10 hIh_10 => ?_)
              · rintro ⟨⟩ h_10 ok hS
                replace hS : S4_j1 K v23_1 v6 v7 h_10 := hS
                change EvC _ _ _ (Env.put (Env.put (Env.put Env.emp 7 (.int .i64 v7)) 6 (.int .i64 v6)) 3 (.pointer (some ⟨b3, 0, none⟩))) (H.add h_10 [(b3, .row ⟨[(.slice v23_0.a v23_0.l v23_0.c), (.slice v23_1.a v23_1.l v23_1.c)], 2, 29, true, true⟩)]) _
                unfold S4_j1 at hS
                refine EvC.seq ?_
                refine EvC.region [Item.look 0, Item.look 1, Item.look 2, Item.look 3, Item.look 4, Item.look 5, Item.look 6, Item.look 7, Item.look 8] (by kernel_rfl) ?_
                refine R.look rfl rfl rfl (Lk.move rfl rfl) fun _ => ?_
                refine R.look (v := (.pointer (some ⟨b3, 1, none⟩))) rfl rfl rfl (Lk.fldAddr rfl Tryd.underlying29 rfl rfl T27 rfl rfl rfl) fun _ => ?_
                refine R.look rfl rfl rfl (Lk.load1 (v := (.slice v23_1.a v23_1.l v23_1.c)) rfl Tryd.underlying27 rfl rfl (H.rd_loc ok (i := 0) rfl rfl)) fun _ => ?_
                refine R.look rfl rfl rfl (Lk.len rfl Tryd.underlying27 rfl) fun _ => ?_
                refine R.look rfl rfl rfl (Lk.move rfl rfl) fun _ => ?_
                refine R.look rfl rfl rfl (Lk.arith rfl rfl rfl rfl) fun _ => ?_
                refine R.look rfl rfl rfl (Lk.arith rfl rfl rfl rfl) fun _ => ?_
                refine R.look rfl rfl rfl (Lk.arith rfl rfl rfl rfl) fun _ => ?_
                refine R.look rfl rfl rfl (Lk.assign rfl rfl) fun _ => ?_
                refine R.nil ?_
                refine EvC.ret ?_
                exact ⟨.inr rfl, _, _, (.cons (.tmp rfl) .nil), ok.le, _, rfl, hS⟩
              · refine EvC.seq ?_
                refine EvC.region [Item.look 0, Item.look 1, Item.look 2, Item.look 3] (by kernel_rfl) ?_
                refine R.look (v := (.pointer (some ⟨b3, 0, none⟩))) rfl rfl rfl (Lk.fldAddr rfl Tryd.underlying29 rfl rfl T22 rfl rfl rfl) fun _ => ?_
                refine R.look rfl rfl rfl (Lk.load1 (v := (.slice v23_0.a v23_0.l v23_0.c)) rfl Tryd.underlying22 rfl rfl (H.rd_loc ok (i := 0) rfl rfl)) fun _ => ?_
                refine R.look rfl rfl rfl (Lk.len rfl Tryd.underlying22 rfl) fun _ => ?_
                refine R.look rfl rfl rfl (Lk.move rfl rfl) fun _ => ?_
                refine R.nil ?_
                refine EvC.block ?_
                refine EvC.loop ?_
                refine LoopC.lfp (σ := Int) (fun s => (Env.put (Env.put (Env.put (Env.put (Env.put (Env.put (Env.put (Env.put Env.emp 141 (.int .i64 s)) 140 (.int .i64 (v23_0.l : Int))) 139 (.slice v23_0.a v23_0.l v23_0.c)) 11 (.func (.func 19) ([] : List Value).toArray ([(.pointer (some ⟨b4, 0, none⟩))] : List Value).toArray)) 7 (.int .i64 v7)) 6 (.int .i64 v6)) 4 (.pointer (some ⟨b4, 0, none⟩))) 3 (.pointer (some ⟨b3, 0, none⟩)))) (fun s => [(b3, .row ⟨[(.slice v23_0.a v23_0.l v23_0.c), (.slice v23_1.a v23_1.l v23_1.c)], 2, 29, true, true⟩)]) (fun X hX => ?_) hS (ok.sub (.cons_cons _ List.Sublist.slnil)) (Env.le_put rfl (Env.le_put rfl (Env.le_put rfl (Env.le_put rfl (Env.le_put rfl (Env.le_put rfl (Env.le_put rfl (Env.le_put rfl (Env.le_emp _))))))))) (H.add_sub ok (.cons_cons _ List.Sublist.slnil))
                intro v141 h_11 hS ok
                replace hS : S4_l7 K v23_0 v23_1 b4 v6 v7 X v141 h_11 := hS
                change EvC _ _ _ (Env.put (Env.put (Env.put (Env.put (Env.put (Env.put (Env.put (Env.put Env.emp 141 (.int .i64 v141)) 140 (.int .i64 (v23_0.l : Int))) 139 (.slice v23_0.a v23_0.l v23_0.c)) 11 (.func (.func 19) ([] : List Value).toArray ([(.pointer (some ⟨b4, 0, none⟩))] : List Value).toArray)) 7 (.int .i64 v7)) 6 (.int .i64 v6)) 4 (.pointer (some ⟨b4, 0, none⟩))) 3 (.pointer (some ⟨b3, 0, none⟩))) (H.add h_11 [(b3, .row ⟨[(.slice v23_0.a v23_0.l v23_0.c), (.slice v23_1.a v23_1.l v23_1.c)], 2, 29, true, true⟩)]) _
                unfold S4_l7 at hS
                refine EvC.seq ?_
                refine EvC.region [Item.look 0] (by kernel_rfl) ?_
                refine R.look rfl rfl rfl (Lk.arith rfl rfl rfl rfl) fun _ => ?_
                refine R.nil ?_
                refine EvC.seq ?_
                by_cases e5 : (decide (v141 < (v23_0.l : Int))) = true
                · rw [if_pos e5] at hS
                  refine EvC.condT rfl e5 ?_
                  refine EvC.skip ?_
                  refine EvC.seq ?_
                  refine EvC.block ?_
                  refine EvC.seq ?_
                  refine EvC.region [Item.look 0, Item.look 1, Item.look 2, Item.look 3, Item.look 4] (by kernel_rfl) ?_
                  refine R.look rfl rfl rfl (Lk.move rfl rfl) fun _ => ?_
                  obtain ⟨a144, e6, e7, e8, hS⟩ := hS
                  refine R.look rfl rfl rfl (Lk.ixAddr rfl Tryd.underlying22 T4 rfl e6 rfl e7 e8) fun _ => ?_
                  obtain ⟨v145, e9, hS⟩ := hS
                  refine R.look rfl rfl rfl (Look.loc ok (Lk.load1 rfl Tryd.underlying4 rfl rfl e9)) fun _ => ?_
                  refine R.look rfl rfl rfl (Lk.assign rfl rfl) fun _ => ?_
                  refine R.look rfl rfl rfl (Lk.assign rfl rfl) fun _ => ?_
                  refine R.nil ?_
                  refine EvC.seq ?_
                  refine EvC.region [Item.look 0] (by kernel_rfl) ?_
                  refine R.look rfl rfl rfl (Lk.assign rfl rfl) fun _ => ?_
                  refine R.nil ?_
                  refine EvC.join (σ := Int) (fun s => (Env.put (Env.put (Env.put (Env.put (Env.put (Env.put (Env.put (Env.put (Env.put (Env.put (Env.put Env.emp 141 (.int .i64 v141)) 140 (.int .i64 (v23_0.l : Int))) 139 (.slice v23_0.a v23_0.l v23_0.c)) 19 (.int .i64 s)) 18 (.bool v145)) 17 (.int .i64 v141)) 11 (.func (.func 19) ([] : List Value).toArray ([(.pointer (some ⟨b4, 0, none⟩))] : List Value).toArray)) 7 (.int .i64 v7)) 6 (.int .i64 v6)) 4 (.pointer (some ⟨b4, 0, none⟩))) 3 (.pointer (some ⟨b3, 0, none⟩)))) (fun s => [(b3, .row ⟨[(.slice v23_0.a v23_0.l v23_0.c), (.slice v23_1.a v23_1.l v23_1.c)], 2, 29, true, true⟩)]) (fun s h_12 => S4_j3 K b4 v141 X v145 s h_12) ?_ (fun Ih_12 hIh_12 => ?_)
                  · intro v19 h_12 ok hS
                    replace hS : S4_j3 K b4 v141 X v145 v19 h_12 := hS
                    change EvC _ _ _ (Env.put (Env.put (Env.put (Env.put (Env.put (Env.put (Env.put (Env.put (Env.put (Env.put (Env.put Env.emp 141 (.int .i64 v141)) 140 (.int .i64 (v23_0.l : Int))) 139 (.slice v23_0.a v23_0.l v23_0.c)) 19 (.int .i64 v19)) 18 (.bool v145)) 17 (.int .i64 v141)) 11 (.func (.func 19) ([] : List Value).toArray ([(.pointer (some ⟨b4, 0, none⟩))] : List Value).toArray)) 7 (.int .i64 v7)) 6 (.int .i64 v6)) 4 (.pointer (some ⟨b4, 0, none⟩))) 3 (.pointer (some ⟨b3, 0, none⟩))) (H.add h_12 [(b3, .row ⟨[(.slice v23_0.a v23_0.l v23_0.c), (.slice v23_1.a v23_1.l v23_1.c)], 2, 29, true, true⟩)]) _
                    unfold S4_j3 at hS
                    refine EvC.join (σ := Bool) (fun s => (Env.put (Env.put (Env.put (Env.put (Env.put (Env.put (Env.put (Env.put (Env.put Env.emp 191 (.bool s)) 141 (.int .i64 v141)) 140 (.int .i64 (v23_0.l : Int))) 139 (.slice v23_0.a v23_0.l v23_0.c)) 11 (.func (.func 19) ([] : List Value).toArray ([(.pointer (some ⟨b4, 0, none⟩))] : List Value).toArray)) 7 (.int .i64 v7)) 6 (.int .i64 v6)) 4 (.pointer (some ⟨b4, 0, none⟩))) 3 (.pointer (some ⟨b3, 0, none⟩)))) (fun s => [(b3, .row ⟨[(.slice v23_0.a v23_0.l v23_0.c), (.slice v23_1.a v23_1.l v23_1.c)], 2, 29, true, true⟩)]) (fun s h_13 => S4_j2 K v141 X s h_13) ?_ (fun Ih_13 hIh_13 => ?_)
                    · intro v191 h_13 ok hS
                      replace hS : S4_j2 K v141 X v191 h_13 := hS
                      change EvC _ _ _ (Env.put (Env.put (Env.put (Env.put (Env.put (Env.put (Env.put (Env.put (Env.put Env.emp 191 (.bool v191)) 141 (.int .i64 v141)) 140 (.int .i64 (v23_0.l : Int))) 139 (.slice v23_0.a v23_0.l v23_0.c)) 11 (.func (.func 19) ([] : List Value).toArray ([(.pointer (some ⟨b4, 0, none⟩))] : List Value).toArray)) 7 (.int .i64 v7)) 6 (.int .i64 v6)) 4 (.pointer (some ⟨b4, 0, none⟩))) 3 (.pointer (some ⟨b3, 0, none⟩))) (H.add h_13 [(b3, .row ⟨[(.slice v23_0.a v23_0.l v23_0.c), (.slice v23_1.a v23_1.l v23_1.c)], 2, 29, true, true⟩)]) _
                      unfold S4_j2 at hS
                      by_cases e10 : v191 = true
                      · rw [if_pos e10] at hS
                        refine EvC.condT rfl e10 ?_
                        refine EvC.seq ?_
                        refine EvC.region [Item.look 0] (by kernel_rfl) ?_
                        refine R.look rfl rfl rfl (Lk.assign rfl rfl) fun _ => ?_
                        refine R.nil ?_
                        refine EvC.ret ?_
                        exact ⟨.inr rfl, _, _, (.cons (.tmp rfl) .nil), ok.le, _, rfl, hS⟩
                      · rw [if_neg e10] at hS
                        replace e10 := eq_false_of_ne_true e10
                        refine EvC.condF rfl e10 ?_
                        refine EvC.skip ?_
                        refine EvC.region [Item.look 0, Item.look 1] (by kernel_rfl) ?_
                        refine R.look rfl rfl rfl (Lk.arith rfl rfl rfl rfl) fun _ => ?_
                        refine R.look rfl rfl rfl (Lk.move rfl rfl) fun _ => ?_
                        refine R.nil ?_
                        exact hX (IntKind.wrap .i64 (v141 + 1)) _ _ _ hS (ok.sub (.cons_cons _ List.Sublist.slnil)) (Env.le_put rfl (Env.le_put rfl (Env.le_put rfl (Env.le_put rfl (Env.le_put rfl (Env.le_put rfl (Env.le_put rfl (Env.le_put rfl (Env.le_emp _))))))))) (H.add_sub ok (.cons_cons _ List.Sublist.slnil))
                    · refine EvC.region [Item.look 0, Item.look 1, Item.look 2, Item.look 3, Item.look 4, Item.look 5, Item.look 6, Item.look 7, Item.look 8, Item.eff 9 [], Item.look 10, Item.look 11, Item.look 12, Item.look 13, Item.look 14, Item.look 15, Item.look 16, Item.look 17, Item.look 18, Item.look 19, Item.look 20, Item.look 21, Item.eff 22 [], Item.look 23, Item.look 24, Item.look 25] (by kernel_rfl) ?_
                      refine R.look rfl rfl rfl (Lk.move rfl rfl) fun _ => ?_
                      refine R.look rfl rfl rfl (Lk.not rfl rfl) fun _ => ?_
                      refine R.look rfl rfl rfl (Lk.move rfl rfl) fun _ => ?_
                      by_cases e11 : (!v145) = true
                      · rw [if_pos e11] at hS
                        refine R.lookT rfl rfl rfl rfl e11 rfl (Lk.move rfl rfl) fun _ => ?_
                        refine R.lookT (v := (.pointer (some ⟨b4, 1, none⟩))) rfl rfl rfl rfl e11 rfl (Lk.fldAddr rfl Tryd.underlying35 rfl rfl T32 rfl rfl rfl) fun _ => ?_
                        obtain ⟨v171, e12, hS⟩ := hS
                        refine R.lookT rfl rfl rfl rfl e11 rfl (Look.loc ok (Lk.load1 rfl Tryd.underlying32 rfl rfl e12)) fun _ => ?_
                        refine R.lookT rfl rfl rfl rfl e11 rfl (Lk.move rfl rfl) fun _ => ?_
                        obtain ⟨a173, e13, e14, e15, hS⟩ := hS
                        refine R.lookT rfl rfl rfl rfl e11 rfl (Lk.ixAddr rfl Tryd.underlying32 T3 rfl e13 rfl e14 e15) fun _ => ?_
                        obtain ⟨v174, e16, hS⟩ := hS
                        refine R.lookT rfl rfl rfl rfl e11 rfl (Look.loc ok (Lk.load1 rfl Tryd.underlying3 rfl rfl e16)) fun _ => ?_
                        refine R.effT rfl rfl rfl rfl e11 rfl (Eff.loc ok (Ef.callV (first := []) rfl rfl CB19 rfl ((f19_ok hS).mono ?_)))
                        rintro _ h_14 ⟨v175, rfl, hS⟩
                        refine fun ok => ⟨noChk, ?_⟩
                        refine R.lookT rfl rfl rfl rfl e11 rfl (Lk.move rfl rfl) fun _ => ?_
                        refine R.lookT rfl rfl rfl rfl e11 rfl (Lk.arith rfl rfl rfl rfl) fun _ => ?_
                        refine R.look rfl rfl rfl (Lk.pick rfl rfl (fun _ => rfl) (fun e => by rw [e11] at e; cases e)) fun _ => ?_
                        refine R.look rfl rfl rfl (Lk.move rfl rfl) fun _ => ?_
                        by_cases e17 : (v175 != v19) = true
                        · rw [if_pos e17] at hS
                          refine R.lookF rfl rfl rfl rfl e17 rfl fun _ => ?_
                          refine R.lookF rfl rfl rfl rfl e17 rfl fun _ => ?_
                          refine R.lookU rfl rfl rfl rfl rfl fun _ => ?_
                          refine R.lookU rfl rfl rfl rfl rfl fun _ => ?_
                          refine R.lookU rfl rfl rfl rfl rfl fun _ => ?_
                          refine R.lookU rfl rfl rfl rfl rfl fun _ => ?_
                          refine R.lookU rfl rfl rfl rfl rfl fun _ => ?_
                          refine R.lookU rfl rfl rfl rfl rfl fun _ => ?_
                          refine R.effU rfl rfl rfl rfl rfl ?_
                          refine R.lookU rfl rfl rfl rfl rfl fun _ => ?_
                          refine R.lookF rfl rfl rfl rfl e17 rfl fun _ => ?_
                          refine R.look rfl rfl rfl (Lk.pick rfl rfl (fun _ => rfl) (fun e => by rw [e17] at e; cases e)) fun _ => ?_
                          refine R.nil ?_
                          exact hIh_13 true _ _ _ (Env.le_put rfl (Env.le_put rfl (Env.le_put rfl (Env.le_put rfl (Env.le_put rfl (Env.le_put rfl (Env.le_put rfl (Env.le_put rfl (Env.le_put rfl (Env.le_emp _)))))))))) (ok.sub (.cons_cons _ List.Sublist.slnil)) (H.add_sub ok (.cons_cons _ List.Sublist.slnil)) hS
                        · rw [if_neg e17] at hS
                          replace e17 := eq_false_of_ne_true e17
                          refine R.lookT rfl rfl rfl rfl e17 rfl (Lk.move rfl rfl) fun _ => ?_
                          refine R.lookT rfl rfl rfl rfl e17 rfl (Lk.move rfl rfl) fun _ => ?_
                          by_cases e18 : v145 = true
                          · rw [if_pos e18] at hS
                            refine R.lookT rfl rfl rfl rfl e18 rfl (Lk.move rfl rfl) fun _ => ?_
                            refine R.lookT (v := (.pointer (some ⟨b4, 1, none⟩))) rfl rfl rfl rfl e18 rfl (Lk.fldAddr rfl Tryd.underlying35 rfl rfl T32 rfl rfl rfl) fun _ => ?_
                            obtain ⟨v184, e19, hS⟩ := hS
                            refine R.lookT rfl rfl rfl rfl e18 rfl (Look.loc ok (Lk.load1 rfl Tryd.underlying32 rfl rfl e19)) fun _ => ?_
                            refine R.lookT rfl rfl rfl rfl e18 rfl (Lk.move rfl rfl) fun _ => ?_
                            obtain ⟨a186, e20, e21, e22, hS⟩ := hS
                            refine R.lookT rfl rfl rfl rfl e18 rfl (Lk.ixAddr rfl Tryd.underlying32 T3 rfl e20 rfl e21 e22) fun _ => ?_
                            obtain ⟨v187, e23, hS⟩ := hS
                            refine R.lookT rfl rfl rfl rfl e18 rfl (Look.loc ok (Lk.load1 rfl Tryd.underlying3 rfl rfl e23)) fun _ => ?_
                            refine R.effT rfl rfl rfl rfl e18 rfl (Eff.loc ok (Ef.callV (first := []) rfl rfl CB19 rfl ((f19_ok hS).mono ?_)))
                            rintro _ h_15 ⟨v188, rfl, hS⟩
                            refine fun ok => ⟨noChk, ?_⟩
                            refine R.lookT rfl rfl rfl rfl e18 rfl (Lk.arith rfl rfl rfl rfl) fun _ => ?_
                            refine R.lookT rfl rfl rfl rfl e17 rfl (Lk.pick rfl rfl (fun _ => rfl) (fun e => by rw [e18] at e; cases e)) fun _ => ?_
                            refine R.look rfl rfl rfl (Lk.pick rfl rfl (fun e => by rw [e17] at e; cases e) (fun _ => rfl)) fun _ => ?_
                            refine R.nil ?_
                            exact hIh_13 (v188 != 2) _ _ _ (Env.le_put rfl (Env.le_put rfl (Env.le_put rfl (Env.le_put rfl (Env.le_put rfl (Env.le_put rfl (Env.le_put rfl (Env.le_put rfl (Env.le_put rfl (Env.le_emp _)))))))))) (ok.sub (.cons_cons _ List.Sublist.slnil)) (H.add_sub ok (.cons_cons _ List.Sublist.slnil)) hS
                          · rw [if_neg e18] at hS
                            replace e18 := eq_false_of_ne_true e18
                            refine R.lookF rfl rfl rfl rfl e18 rfl fun _ => ?_
                            refine R.lookF rfl rfl rfl rfl e18 rfl fun _ => ?_
                            refine R.lookF rfl rfl rfl rfl e18 rfl fun _ => ?_
                            refine R.lookF rfl rfl rfl rfl e18 rfl fun _ => ?_
                            refine R.lookF rfl rfl rfl rfl e18 rfl fun _ => ?_
                            refine R.lookF rfl rfl rfl rfl e18 rfl fun _ => ?_
                            refine R.effF rfl rfl rfl rfl e18 rfl ?_
                            refine R.lookF rfl rfl rfl rfl e18 rfl fun _ => ?_
                            refine R.lookT rfl rfl rfl rfl e17 rfl (Lk.pick rfl rfl (fun e => by rw [e18] at e; cases e) (fun _ => rfl)) fun _ => ?_
                            refine R.look rfl rfl rfl (Lk.pick rfl rfl (fun e => by rw [e17] at e; cases e) (fun _ => rfl)) fun _ => ?_
                            refine R.nil ?_
                            exact hIh_13 false _ _ _ (Env.le_put rfl (Env.le_put rfl (Env.le_put rfl (Env.le_put rfl (Env.le_put rfl (Env.le_put rfl (Env.le_put rfl (Env.le_put rfl (Env.le_put rfl (Env.le_emp _)))))))))) (ok.sub (.cons_cons _ List.Sublist.slnil)) (H.add_sub ok (.cons_cons _ List.Sublist.slnil)) hS
                      · rw [if_neg e11] at hS
                        replace e11 := eq_false_of_ne_true e11
                        refine R.lookF rfl rfl rfl rfl e11 rfl fun _ => ?_
                        refine R.lookF rfl rfl rfl rfl e11 rfl fun _ => ?_
                        refine R.lookF rfl rfl rfl rfl e11 rfl fun _ => ?_
                        refine R.lookF rfl rfl rfl rfl e11 rfl fun _ => ?_
                        refine R.lookF rfl rfl rfl rfl e11 rfl fun _ => ?_
                        refine R.lookF rfl rfl rfl rfl e11 rfl fun _ => ?_
                        refine R.effF rfl rfl rfl rfl e11 rfl ?_
                        refine R.lookF rfl rfl rfl rfl e11 rfl fun _ => ?_
                        refine R.lookF rfl rfl rfl rfl e11 rfl fun _ => ?_
                        refine R.look rfl rfl rfl (Lk.pick rfl rfl (fun e => by rw [e11] at e; cases e) (fun _ => rfl)) fun _ => ?_
                        refine R.look rfl rfl rfl (Lk.move rfl rfl) fun _ => ?_
                        refine R.lookT rfl rfl rfl rfl rfl rfl (Lk.move rfl rfl) fun _ => ?_
                        refine R.lookT rfl rfl rfl rfl rfl rfl (Lk.move rfl rfl) fun _ => ?_
                        by_cases e24 : v145 = true
                        · rw [if_pos e24] at hS
                          refine R.lookT rfl rfl rfl rfl e24 rfl (Lk.move rfl rfl) fun _ => ?_
                          refine R.lookT (v := (.pointer (some ⟨b4, 1, none⟩))) rfl rfl rfl rfl e24 rfl (Lk.fldAddr rfl Tryd.underlying35 rfl rfl T32 rfl rfl rfl) fun _ => ?_
                          obtain ⟨v184, e25, hS⟩ := hS
                          refine R.lookT rfl rfl rfl rfl e24 rfl (Look.loc ok (Lk.load1 rfl Tryd.underlying32 rfl rfl e25)) fun _ => ?_
                          refine R.lookT rfl rfl rfl rfl e24 rfl (Lk.move rfl rfl) fun _ => ?_
                          obtain ⟨a186, e26, e27, e28, hS⟩ := hS
                          refine R.lookT rfl rfl rfl rfl e24 rfl (Lk.ixAddr rfl Tryd.underlying32 T3 rfl e26 rfl e27 e28) fun _ => ?_
                          obtain ⟨v187, e29, hS⟩ := hS
                          refine R.lookT rfl rfl rfl rfl e24 rfl (Look.loc ok (Lk.load1 rfl Tryd.underlying3 rfl rfl e29)) fun _ => ?_
                          refine R.effT rfl rfl rfl rfl e24 rfl (Eff.loc ok (Ef.callV (first := []) rfl rfl CB19 rfl ((f19_ok hS).mono ?_)))
                          rintro _ h_15 ⟨v188, rfl, hS⟩
                          refine fun ok => ⟨noChk, ?_⟩
                          refine R.lookT rfl rfl rfl rfl e24 rfl (Lk.arith rfl rfl rfl rfl) fun _ => ?_
                          refine R.lookT rfl rfl rfl rfl rfl rfl (Lk.pick rfl rfl (fun _ => rfl) (fun e => by rw [e24] at e; cases e)) fun _ => ?_
                          refine R.look rfl rfl rfl (Lk.pick rfl rfl (fun e => by cases e) (fun _ => rfl)) fun _ => ?_
                          refine R.nil ?_
                          exact hIh_13 (v188 != 2) _ _ _ (Env.le_put rfl (Env.le_put rfl (Env.le_put rfl (Env.le_put rfl (Env.le_put rfl (Env.le_put rfl (Env.le_put rfl (Env.le_put rfl (Env.le_put rfl (Env.le_emp _)))))))))) (ok.sub (.cons_cons _ List.Sublist.slnil)) (H.add_sub ok (.cons_cons _ List.Sublist.slnil)) hS
                        · rw [if_neg e24] at hS
                          replace e24 := eq_false_of_ne_true e24
                          refine R.lookF rfl rfl rfl rfl e24 rfl fun _ => ?_
                          refine R.lookF rfl rfl rfl rfl e24 rfl fun _ => ?_
                          refine R.lookF rfl rfl rfl rfl e24 rfl fun _ => ?_
                          refine R.lookF rfl rfl rfl rfl e24 rfl fun _ => ?_
                          refine R.lookF rfl rfl rfl rfl e24 rfl fun _ => ?_
                          refine R.lookF rfl rfl rfl rfl e24 rfl fun _ => ?_
                          refine R.effF rfl rfl rfl rfl e24 rfl ?_
                          refine R.lookF rfl rfl rfl rfl e24 rfl fun _ => ?_
                          refine R.lookT rfl rfl rfl rfl rfl rfl (Lk.pick rfl rfl (fun e => by rw [e24] at e; cases e) (fun _ => rfl)) fun _ => ?_
                          refine R.look rfl rfl rfl (Lk.pick rfl rfl (fun e => by cases e) (fun _ => rfl)) fun _ => ?_
                          refine R.nil ?_
                          exact hIh_13 false _ _ _ (Env.le_put rfl (Env.le_put rfl (Env.le_put rfl (Env.le_put rfl (Env.le_put rfl (Env.le_put rfl (Env.le_put rfl (Env.le_put rfl (Env.le_put rfl (Env.le_emp _)))))))))) (ok.sub (.cons_cons _ List.Sublist.slnil)) (H.add_sub ok (.cons_cons _ List.Sublist.slnil)) hS
                  · refine EvC.seq ?_
                    refine EvC.region [Item.look 0, Item.look 1, Item.look 2, Item.look 3] (by kernel_rfl) ?_
                    refine R.look (v := (.pointer (some ⟨b3, 1, none⟩))) rfl rfl rfl (Lk.fldAddr rfl Tryd.underlying29 rfl rfl T27 rfl rfl rfl) fun _ => ?_
                    refine R.look rfl rfl rfl (Lk.load1 (v := (.slice v23_1.a v23_1.l v23_1.c)) rfl Tryd.underlying27 rfl rfl (H.rd_loc ok (i := 0) rfl rfl)) fun _ => ?_
                    refine R.look rfl rfl rfl (Lk.len rfl Tryd.underlying27 rfl) fun _ => ?_
                    refine R.look rfl rfl rfl (Lk.move rfl rfl) fun _ => ?_
                    refine R.nil ?_
                    refine EvC.block ?_
                    refine EvC.loop ?_
                    refine LoopC.lfp (σ := Int × Int) (fun s => (Env.put (Env.put (Env.put (Env.put (Env.put (Env.put (Env.put (Env.put (Env.put (Env.put (Env.put (Env.put (Env.put (Env.put Env.emp 149 (.int .i64 s.2)) 148 (.int .i64 (v23_1.l : Int))) 147 (.slice v23_1.a v23_1.l v23_1.c)) 141 (.int .i64 v141)) 140 (.int .i64 (v23_0.l : Int))) 139 (.slice v23_0.a v23_0.l v23_0.c)) 19 (.int .i64 s.1)) 18 (.bool v145)) 17 (.int .i64 v141)) 11 (.func (.func 19) ([] : List Value).toArray ([(.pointer (some ⟨b4, 0, none⟩))] : List Value).toArray)) 7 (.int .i64 v7)) 6 (.int .i64 v6)) 4 (.pointer (some ⟨b4, 0, none⟩))) 3 (.pointer (some ⟨b3, 0, none⟩)))) (fun s => [(b3, .row ⟨[(.slice v23_0.a v23_0.l v23_0.c), (.slice v23_1.a v23_1.l v23_1.c)], 2, 29, true, true⟩)]) (fun X_1 hX_1 => ?_) hS (ok.sub (.cons_cons _ List.Sublist.slnil)) (Env.le_put rfl (Env.le_put rfl (Env.le_put rfl (Env.le_put rfl (Env.le_put rfl (Env.le_put rfl (Env.le_put rfl (Env.le_put rfl (Env.le_put rfl (Env.le_put rfl (Env.le_put rfl (Env.le_put rfl (Env.le_put rfl (Env.le_put rfl (Env.le_emp _))))))))))))))) (H.add_sub ok (.cons_cons _ List.Sublist.slnil))
                    rintro ⟨v19_1, v149⟩ h_16 hS ok
                    replace hS : S4_l6 K v23_1 b4 v141 X v145 X_1 v19_1 v149 h_16 := hS
                    change EvC _ _ _ (Env.put (Env.put (Env.put (Env.put (Env.put (Env.put (Env.put (Env.put (Env.put (Env.put (Env.put (Env.put (Env.put (Env.put Env.emp 149 (.int .i64 v149)) 148 (.int .i64 (v23_1.l : Int))) 147 (.slice v23_1.a v23_1.l v23_1.c)) 141 (.int .i64 v141)) 140 (.int .i64 (v23_0.l : Int))) 139 (.slice v23_0.a v23_0.l v23_0.c)) 19 (.int .i64 v19_1)) 18 (.bool v145)) 17 (.int .i64 v141)) 11 (.func (.func 19) ([] : List Value).toArray ([(.pointer (some ⟨b4, 0, none⟩))] : List Value).toArray)) 7 (.int .i64 v7)) 6 (.int .i64 v6)) 4 (.pointer (some ⟨b4, 0, none⟩))) 3 (.pointer (some ⟨b3, 0, none⟩))) (H.add h_16 [(b3, .row ⟨[(.slice v23_0.a v23_0.l v23_0.c), (.slice v23_1.a v23_1.l v23_1.c)], 2, 29, true, true⟩)]) _
                    unfold S4_l6 at hS
                    refine EvC.seq ?_
                    refine EvC.region [Item.look 0] (by kernel_rfl) ?_
                    refine R.look rfl rfl rfl (Lk.arith rfl rfl rfl rfl) fun _ => ?_
                    refine R.nil ?_
                    refine EvC.seq ?_
                    by_cases e30 : (decide (v149 < (v23_1.l : Int))) = true
                    · rw [if_pos e30] at hS
                      refine EvC.condT rfl e30 ?_
                      refine EvC.skip ?_
                      refine EvC.join (σ := Int) (fun s => (Env.put (Env.put (Env.put (Env.put (Env.put (Env.put (Env.put (Env.put (Env.put (Env.put (Env.put (Env.put (Env.put (Env.put Env.emp 149 (.int .i64 v149)) 148 (.int .i64 (v23_1.l : Int))) 147 (.slice v23_1.a v23_1.l v23_1.c)) 141 (.int .i64 v141)) 140 (.int .i64 (v23_0.l : Int))) 139 (.slice v23_0.a v23_0.l v23_0.c)) 19 (.int .i64 s)) 18 (.bool v145)) 17 (.int .i64 v141)) 11 (.func (.func 19) ([] : List Value).toArray ([(.pointer (some ⟨b4, 0, none⟩))] : List Value).toArray)) 7 (.int .i64 v7)) 6 (.int .i64 v6)) 4 (.pointer (some ⟨b4, 0, none⟩))) 3 (.pointer (some ⟨b3, 0, none⟩)))) (fun s => [(b3, .row ⟨[(.slice v23_0.a v23_0.l v23_0.c), (.slice v23_1.a v23_1.l v23_1.c)], 2, 29, true, true⟩)]) (fun s h_17 => S4_j4 v149 X_1 s h_17) ?_ (fun Ih_17 hIh_17 => ?_)
                      · intro v19_2 h_17 ok hS
                        replace hS : S4_j4 v149 X_1 v19_2 h_17 := hS
                        change EvC _ _ _ (Env.put (Env.put (Env.put (Env.put (Env.put (Env.put (Env.put (Env.put (Env.put (Env.put (Env.put (Env.put (Env.put (Env.put Env.emp 149 (.int .i64 v149)) 148 (.int .i64 (v23_1.l : Int))) 147 (.slice v23_1.a v23_1.l v23_1.c)) 141 (.int .i64 v141)) 140 (.int .i64 (v23_0.l : Int))) 139 (.slice v23_0.a v23_0.l v23_0.c)) 19 (.int .i64 v19_2)) 18 (.bool v145)) 17 (.int .i64 v141)) 11 (.func (.func 19) ([] : List Value).toArray ([(.pointer (some ⟨b4, 0, none⟩))] : List Value).toArray)) 7 (.int .i64 v7)) 6 (.int .i64 v6)) 4 (.pointer (some ⟨b4, 0, none⟩))) 3 (.pointer (some ⟨b3, 0, none⟩))) (H.add h_17 [(b3, .row ⟨[(.slice v23_0.a v23_0.l v23_0.c), (.slice v23_1.a v23_1.l v23_1.c)], 2, 29, true, true⟩)]) _
                        unfold S4_j4 at hS
                        refine EvC.region [Item.look 0, Item.look 1] (by kernel_rfl) ?_
                        refine R.look rfl rfl rfl (Lk.arith rfl rfl rfl rfl) fun _ => ?_
                        refine R.look rfl rfl rfl (Lk.move rfl rfl) fun _ => ?_
                        refine R.nil ?_
                        exact hX_1 (v19_2, (IntKind.wrap .i64 (v149 + 1))) _ _ _ hS (ok.sub (.cons_cons _ List.Sublist.slnil)) (Env.le_put rfl (Env.le_put rfl (Env.le_put rfl (Env.le_put rfl (Env.le_put rfl (Env.le_put rfl (Env.le_put rfl (Env.le_put rfl (Env.le_put rfl (Env.le_put rfl (Env.le_put rfl (Env.le_put rfl (Env.le_put rfl (Env.le_put rfl (Env.le_emp _))))))))))))))) (H.add_sub ok (.cons_cons _ List.Sublist.slnil))
                      · refine EvC.block ?_
                        refine EvC.seq ?_
                        refine EvC.region [Item.look 0, Item.look 1, Item.alc 2, Item.eff 3 []] (by kernel_rfl) ?_
                        obtain ⟨a151, e31, e32, e33, hS⟩ := hS
                        refine R.look rfl rfl rfl (Lk.ixAddr rfl Tryd.underlying27 T54 rfl e31 rfl e32 e33) fun _ => ?_
                        obtain ⟨v152_0, v152_1, v152_2, v152_3, e34, hS⟩ := hS
                        refine R.look rfl rfl rfl (Look.loc ok (Lk.loadN rfl Tryd.underlying54 rfl T54 rfl e34)) fun _ => ?_
                        refine R.var (blk := .row ⟨[(.int .i64 0), (.int .i64 0), (.int .i64 0), (.string ⟨#[]⟩)], 4, 54, true, true⟩) ok rfl rfl rfl (Ac.alloc rfl T54) rfl rfl fun b21 ok => ?_
                        refine R.effN rfl rfl rfl (Ef.storeLoc (i := 0) (vs := [(.int .i64 v152_0), (.int .i64 v152_1), (.int .i64 v152_2), (.string v152_3)]) (cs := [(.int .i64 v152_0), (.int .i64 v152_1), (.int .i64 v152_2), (.string v152_3)]) (l' := [(b21, .row ⟨[(.int .i64 v152_0), (.int .i64 v152_1), (.int .i64 v152_2), (.string v152_3)], 4, 54, true, true⟩), (b3, .row ⟨[(.slice v23_0.a v23_0.l v23_0.c), (.slice v23_1.a v23_1.l v23_1.c)], 2, 29, true, true⟩)]) ok rfl T54 rfl rfl rfl rfl rfl rfl rfl rfl rfl rfl fun ok => ⟨noChk, ?_⟩)
                        refine R.nil ?_
                        refine EvC.join (σ := Int) (fun s => (Env.put (Env.put (Env.put (Env.put (Env.put (Env.put (Env.put (Env.put (Env.put (Env.put (Env.put (Env.put (Env.put (Env.put (Env.put Env.emp 149 (.int .i64 v149)) 148 (.int .i64 (v23_1.l : Int))) 147 (.slice v23_1.a v23_1.l v23_1.c)) 141 (.int .i64 v141)) 140 (.int .i64 (v23_0.l : Int))) 139 (.slice v23_0.a v23_0.l v23_0.c)) 21 (.pointer (some ⟨b21, 0, none⟩))) 19 (.int .i64 s)) 18 (.bool v145)) 17 (.int .i64 v141)) 11 (.func (.func 19) ([] : List Value).toArray ([(.pointer (some ⟨b4, 0, none⟩))] : List Value).toArray)) 7 (.int .i64 v7)) 6 (.int .i64 v6)) 4 (.pointer (some ⟨b4, 0, none⟩))) 3 (.pointer (some ⟨b3, 0, none⟩)))) (fun s => [(b21, .row ⟨[(.int .i64 v152_0), (.int .i64 v152_1), (.int .i64 v152_2), (.string v152_3)], 4, 54, true, true⟩), (b3, .row ⟨[(.slice v23_0.a v23_0.l v23_0.c), (.slice v23_1.a v23_1.l v23_1.c)], 2, 29, true, true⟩)]) (fun s h_18 => S4_j5 v141 v149 X_1 v152_1 s h_18) ?_ (fun Ih_18 hIh_18 => ?_)
                        · intro v19_3 h_18 ok hS
                          replace hS : S4_j5 v141 v149 X_1 v152_1 v19_3 h_18 := hS
                          change EvC _ _ _ (Env.put (Env.put (Env.put (Env.put (Env.put (Env.put (Env.put (Env.put (Env.put (Env.put (Env.put (Env.put (Env.put (Env.put (Env.put Env.emp 149 (.int .i64 v149)) 148 (.int .i64 (v23_1.l : Int))) 147 (.slice v23_1.a v23_1.l v23_1.c)) 141 (.int .i64 v141)) 140 (.int .i64 (v23_0.l : Int))) 139 (.slice v23_0.a v23_0.l v23_0.c)) 21 (.pointer (some ⟨b21, 0, none⟩))) 19 (.int .i64 v19_3)) 18 (.bool v145)) 17 (.int .i64 v141)) 11 (.func (.func 19) ([] : List Value).toArray ([(.pointer (some ⟨b4, 0, none⟩))] : List Value).toArray)) 7 (.int .i64 v7)) 6 (.int .i64 v6)) 4 (.pointer (some ⟨b4, 0, none⟩))) 3 (.pointer (some ⟨b3, 0, none⟩))) (H.add h_18 [(b21, .row ⟨[(.int .i64 v152_0), (.int .i64 v152_1), (.int .i64 v152_2), (.string v152_3)], 4, 54, true, true⟩), (b3, .row ⟨[(.slice v23_0.a v23_0.l v23_0.c), (.slice v23_1.a v23_1.l v23_1.c)], 2, 29, true, true⟩)]) _
                          unfold S4_j5 at hS
                          refine EvC.seq ?_
                          refine EvC.region [Item.look 0, Item.look 1, Item.look 2, Item.look 3] (by kernel_rfl) ?_
                          refine R.look (v := (.pointer (some ⟨b21, 1, none⟩))) rfl rfl rfl (Lk.fldAddr rfl Tryd.underlying54 rfl rfl T3 rfl rfl rfl) fun _ => ?_
                          refine R.look rfl rfl rfl (Lk.load1 (v := (.int .i64 v152_1)) rfl Tryd.underlying3 rfl rfl (H.rd_loc ok (i := 0) rfl rfl)) fun _ => ?_
                          refine R.look rfl rfl rfl (Lk.move rfl rfl) fun _ => ?_
                          refine R.look rfl rfl rfl (Lk.arith rfl rfl rfl rfl) fun _ => ?_
                          refine R.nil ?_
                          by_cases e35 : (v152_1 == v141) = true
                          · rw [if_pos e35] at hS
                            refine EvC.condT rfl e35 ?_
                            refine EvC.region [Item.look 0, Item.look 1, Item.look 2] (by kernel_rfl) ?_
                            refine R.look rfl rfl rfl (Lk.move rfl rfl) fun _ => ?_
                            refine R.look rfl rfl rfl (Lk.arith rfl rfl rfl rfl) fun _ => ?_
                            refine R.look rfl rfl rfl (Lk.assign rfl rfl) fun _ => ?_
                            refine R.nil ?_
                            exact hIh_17 (IntKind.wrap .i64 (v19_3 + 1)) _ _ _ (Env.le_put rfl (Env.le_put rfl (Env.le_put rfl (Env.le_put rfl (Env.le_put rfl (Env.le_put rfl (Env.le_put rfl (Env.le_put rfl (Env.le_put rfl (Env.le_put rfl (Env.le_put rfl (Env.le_put rfl (Env.le_put rfl (Env.le_put rfl (Env.le_emp _))))))))))))))) (ok.sub (.cons _ (.cons_cons _ List.Sublist.slnil))) (H.add_sub ok (.cons _ (.cons_cons _ List.Sublist.slnil))) hS
                          · rw [if_neg e35] at hS
                            replace e35 := eq_false_of_ne_true e35
                            refine EvC.condF rfl e35 ?_
                            refine EvC.skip ?_
                            exact hIh_17 v19_3 _ _ _ (Env.le_put rfl (Env.le_put rfl (Env.le_put rfl (Env.le_put rfl (Env.le_put rfl (Env.le_put rfl (Env.le_put rfl (Env.le_put rfl (Env.le_put rfl (Env.le_put rfl (Env.le_put rfl (Env.le_put rfl (Env.le_put rfl (Env.le_put rfl (Env.le_emp _))))))))))))))) (ok.sub (.cons _ (.cons_cons _ List.Sublist.slnil))) (H.add_sub ok (.cons _ (.cons_cons _ List.Sublist.slnil))) hS
                        · refine EvC.seq ?_
                          refine EvC.region [Item.look 0, Item.look 1, Item.look 2, Item.look 3] (by kernel_rfl) ?_
                          refine R.look (v := (.pointer (some ⟨b21, 0, none⟩))) rfl rfl rfl (Lk.fldAddr rfl Tryd.underlying54 rfl rfl T3 rfl rfl rfl) fun _ => ?_
                          refine R.look rfl rfl rfl (Lk.load1 (v := (.int .i64 v152_0)) rfl Tryd.underlying3 rfl rfl (H.rd_loc ok (i := 0) rfl rfl)) fun _ => ?_
                          refine R.look rfl rfl rfl (Lk.move rfl rfl) fun _ => ?_
                          refine R.look rfl rfl rfl (Lk.arith rfl rfl rfl rfl) fun _ => ?_
                          refine R.nil ?_
                          by_cases e36 : (v152_0 == v141) = true
                          · rw [if_pos e36] at hS
                            refine EvC.condT rfl e36 ?_
                            refine EvC.region [Item.look 0, Item.look 1, Item.look 2] (by kernel_rfl) ?_
                            refine R.look rfl rfl rfl (Lk.move rfl rfl) fun _ => ?_
                            refine R.look rfl rfl rfl (Lk.arith rfl rfl rfl rfl) fun _ => ?_
                            refine R.look rfl rfl rfl (Lk.assign rfl rfl) fun _ => ?_
                            refine R.nil ?_
                            exact hIh_18 (IntKind.wrap .i64 (v19_1 + 1)) _ _ _ (Env.le_put rfl (Env.le_put rfl (Env.le_put rfl (Env.le_put rfl (Env.le_put rfl (Env.le_put rfl (Env.le_put rfl (Env.le_put rfl (Env.le_put rfl (Env.le_put rfl (Env.le_put rfl (Env.le_put rfl (Env.le_put rfl (Env.le_put rfl (Env.le_put rfl (Env.le_emp _)))))))))))))))) (ok.sub (.cons_cons _ (.cons_cons _ List.Sublist.slnil))) (H.add_sub ok (.cons_cons _ (.cons_cons _ List.Sublist.slnil))) hS
                          · rw [if_neg e36] at hS
                            replace e36 := eq_false_of_ne_true e36
                            refine EvC.condF rfl e36 ?_
                            refine EvC.skip ?_
                            exact hIh_18 v19_1 _ _ _ (Env.le_put rfl (Env.le_put rfl (Env.le_put rfl (Env.le_put rfl (Env.le_put rfl (Env.le_put rfl (Env.le_put rfl (Env.le_put rfl (Env.le_put rfl (Env.le_put rfl (Env.le_put rfl (Env.le_put rfl (Env.le_put rfl (Env.le_put rfl (Env.le_put rfl (Env.le_emp _)))))))))))))))) (ok.sub (.cons_cons _ (.cons_cons _ List.Sublist.slnil))) (H.add_sub ok (.cons_cons _ (.cons_cons _ List.Sublist.slnil))) hS
                    · rw [if_neg e30] at hS
                      replace e30 := eq_false_of_ne_true e30
                      refine EvC.condF rfl e30 ?_
                      refine EvC.exit ?_
                      exact hIh_12 v19_1 _ _ _ (Env.le_put rfl (Env.le_put rfl (Env.le_put rfl (Env.le_put rfl (Env.le_put rfl (Env.le_put rfl (Env.le_put rfl (Env.le_put rfl (Env.le_put rfl (Env.le_put rfl (Env.le_put rfl (Env.le_emp _)))))))))))) (ok.sub (.cons_cons _ List.Sublist.slnil)) (H.add_sub ok (.cons_cons _ List.Sublist.slnil)) hS
                · rw [if_neg e5] at hS
                  replace e5 := eq_false_of_ne_true e5
                  refine EvC.condF rfl e5 ?_
                  refine EvC.exit ?_
                  exact hIh_10 () _ _ _ (Env.le_put rfl (Env.le_put rfl (Env.le_put rfl (Env.le_emp _)))) (ok.sub (.cons_cons _ List.Sublist.slnil)) (H.add_sub ok (.cons_cons _ List.Sublist.slnil)) hS
            · refine EvC.seq ?_
              refine EvC.region [Item.look 0, Item.look 1, Item.look 2, Item.look 3] (by kernel_rfl) ?_
              refine R.look (v := (.pointer (some ⟨b3, 1, none⟩))) rfl rfl rfl (Lk.fldAddr rfl Tryd.underlying29 rfl rfl T27 rfl rfl rfl) fun _ => ?_
              refine R.look rfl rfl rfl (Lk.load1 (v := (.slice v23_1.a v23_1.l v23_1.c)) rfl Tryd.underlying27 rfl rfl (H.rd_loc ok (i := 0) rfl rfl)) fun _ => ?_
              refine R.look rfl rfl rfl (Lk.len rfl Tryd.underlying27 rfl) fun _ => ?_
              refine R.look rfl rfl rfl (Lk.move rfl rfl) fun _ => ?_
              refine R.nil ?_
              refine EvC.block ?_
              refine EvC.loop ?_
              refine LoopC.lfp (σ := Int × Int) (fun s => (Env.put (Env.put (Env.put (Env.put (Env.put (Env.put (Env.put (Env.put Env.emp 100 (.int .i64 s.2)) 99 (.int .i64 (v23_1.l : Int))) 98 (.slice v23_1.a v23_1.l v23_1.c)) 11 (.func (.func 19) ([] : List Value).toArray ([(.pointer (some ⟨b4, 0, none⟩))] : List Value).toArray)) 7 (.int .i64 s.1)) 6 (.int .i64 v6)) 4 (.pointer (some ⟨b4, 0, none⟩))) 3 (.pointer (some ⟨b3, 0, none⟩)))) (fun s => [(b3, .row ⟨[(.slice v23_0.a v23_0.l v23_0.c), (.slice v23_1.a v23_1.l v23_1.c)], 2, 29, true, true⟩)]) (fun X_2 hX_2 => ?_) hS (ok.sub (.cons_cons _ List.Sublist.slnil)) (Env.le_put rfl (Env.le_put rfl (Env.le_put rfl (Env.le_put rfl (Env.le_put rfl (Env.le_put rfl (Env.le_put rfl (Env.le_put rfl (Env.le_emp _))))))))) (H.add_sub ok (.cons_cons _ List.Sublist.slnil))
              rintro ⟨v7_1, v100⟩ h_19 hS ok
              replace hS : S4_l11 K v23_0 v23_1 b4 v6 X_2 v7_1 v100 h_19 := hS
              change EvC _ _ _ (Env.put (Env.put (Env.put (Env.put (Env.put (Env.put (Env.put (Env.put Env.emp 100 (.int .i64 v100)) 99 (.int .i64 (v23_1.l : Int))) 98 (.slice v23_1.a v23_1.l v23_1.c)) 11 (.func (.func 19) ([] : List Value).toArray ([(.pointer (some ⟨b4, 0, none⟩))] : List Value).toArray)) 7 (.int .i64 v7_1)) 6 (.int .i64 v6)) 4 (.pointer (some ⟨b4, 0, none⟩))) 3 (.pointer (some ⟨b3, 0, none⟩))) (H.add h_19 [(b3, .row ⟨[(.slice v23_0.a v23_0.l v23_0.c), (.slice v23_1.a v23_1.l v23_1.c)], 2, 29, true, true⟩)]) _
              unfold S4_l11 at hS
              refine EvC.seq ?_
              refine EvC.region [Item.look 0] (by kernel_rfl) ?_
              refine R.look rfl rfl rfl (Lk.arith rfl rfl rfl rfl) fun _ => ?_
              refine R.nil ?_
              refine EvC.seq ?_
              by_cases e37 : (decide (v100 < (v23_1.l : Int))) = true
              · rw [if_pos e37] at hS
                refine EvC.condT rfl e37 ?_
                refine EvC.skip ?_
                refine EvC.join (σ := Int) (fun s => (Env.put (Env.put (Env.put (Env.put (Env.put (Env.put (Env.put (Env.put Env.emp 100 (.int .i64 v100)) 99 (.int .i64 (v23_1.l : Int))) 98 (.slice v23_1.a v23_1.l v23_1.c)) 11 (.func (.func 19) ([] : List Value).toArray ([(.pointer (some ⟨b4, 0, none⟩))] : List Value).toArray)) 7 (.int .i64 s)) 6 (.int .i64 v6)) 4 (.pointer (some ⟨b4, 0, none⟩))) 3 (.pointer (some ⟨b3, 0, none⟩)))) (fun s => [(b3, .row ⟨[(.slice v23_0.a v23_0.l v23_0.c), (.slice v23_1.a v23_1.l v23_1.c)], 2, 29, true, true⟩)]) (fun s h_20 => S4_j9 v100 X_2 s h_20) ?_ (fun Ih_20 hIh_20 => ?_)
                · intro v7_2 h_20 ok hS
                  replace hS : S4_j9 v100 X_2 v7_2 h_20 := hS
                  change EvC _ _ _ (Env.put (Env.put (Env.put (Env.put (Env.put (Env.put (Env.put (Env.put Env.emp 100 (.int .i64 v100)) 99 (.int .i64 (v23_1.l : Int))) 98 (.slice v23_1.a v23_1.l v23_1.c)) 11 (.func (.func 19) ([] : List Value).toArray ([(.pointer (some ⟨b4, 0, none⟩))] : List Value).toArray)) 7 (.int .i64 v7_2)) 6 (.int .i64 v6)) 4 (.pointer (some ⟨b4, 0, none⟩))) 3 (.pointer (some ⟨b3, 0, none⟩))) (H.add h_20 [(b3, .row ⟨[(.slice v23_0.a v23_0.l v23_0.c), (.slice v23_1.a v23_1.l v23_1.c)], 2, 29, true, true⟩)]) _
                  unfold S4_j9 at hS
                  refine EvC.region [Item.look 0, Item.look 1] (by kernel_rfl) ?_
                  refine R.look rfl rfl rfl (Lk.arith rfl rfl rfl rfl) fun _ => ?_
                  refine R.look rfl rfl rfl (Lk.move rfl rfl) fun _ => ?_
                  refine R.nil ?_
                  exact hX_2 (v7_2, (IntKind.wrap .i64 (v100 + 1))) _ _ _ hS (ok.sub (.cons_cons _ List.Sublist.slnil)) (Env.le_put rfl (Env.le_put rfl (Env.le_put rfl (Env.le_put rfl (Env.le_put rfl (Env.le_put rfl (Env.le_put rfl (Env.le_put rfl (Env.le_emp _))))))))) (H.add_sub ok (.cons_cons _ List.Sublist.slnil))
                · refine EvC.block ?_
                  refine EvC.seq ?_
                  refine EvC.region [Item.look 0, Item.look 1, Item.look 2, Item.alc 3, Item.look 4, Item.eff 5 []] (by kernel_rfl) ?_
                  refine R.look rfl rfl rfl (Lk.move rfl rfl) fun _ => ?_
                  obtain ⟨a103, e38, e39, e40, hS⟩ := hS
                  refine R.look rfl rfl rfl (Lk.ixAddr rfl Tryd.underlying27 T54 rfl e38 rfl e39 e40) fun _ => ?_
                  obtain ⟨v104_0, v104_1, v104_2, v104_3, e41, hS⟩ := hS
                  refine R.look rfl rfl rfl (Look.loc ok (Lk.loadN rfl Tryd.underlying54 rfl T54 rfl e41)) fun _ => ?_
                  refine R.var (blk := .row ⟨[(.int .i64 0), (.int .i64 0), (.int .i64 0), (.string ⟨#[]⟩)], 4, 54, true, true⟩) ok rfl rfl rfl (Ac.alloc rfl T54) rfl rfl fun b13 ok => ?_
                  refine R.look rfl rfl rfl (Lk.assign rfl rfl) fun _ => ?_
                  refine R.effN rfl rfl rfl (Ef.storeLoc (i := 0) (vs := [(.int .i64 v104_0), (.int .i64 v104_1), (.int .i64 v104_2), (.string v104_3)]) (cs := [(.int .i64 v104_0), (.int .i64 v104_1), (.int .i64 v104_2), (.string v104_3)]) (l' := [(b13, .row ⟨[(.int .i64 v104_0), (.int .i64 v104_1), (.int .i64 v104_2), (.string v104_3)], 4, 54, true, true⟩), (b3, .row ⟨[(.slice v23_0.a v23_0.l v23_0.c), (.slice v23_1.a v23_1.l v23_1.c)], 2, 29, true, true⟩)]) ok rfl T54 rfl rfl rfl rfl rfl rfl rfl rfl rfl rfl fun ok => ⟨noChk, ?_⟩)
                  refine R.nil ?_
                  refine EvC.seq ?_
                  refine EvC.region [Item.look 0, Item.look 1, Item.look 2, Item.look 3, Item.look 4, Item.look 5] (by kernel_rfl) ?_
                  refine R.look rfl rfl rfl (Lk.move rfl rfl) fun _ => ?_
                  refine R.look (v := (.pointer (some ⟨b13, 3, none⟩))) rfl rfl rfl (Lk.fldAddr rfl Tryd.underlying54 rfl rfl T9 rfl rfl rfl) fun _ => ?_
                  refine R.look rfl rfl rfl (Lk.load1 (v := (.string v104_3)) rfl Tryd.underlying9 rfl rfl (H.rd_loc ok (i := 0) rfl rfl)) fun _ => ?_
                  refine R.look rfl rfl rfl (Lk.lenS rfl Tryd.underlying9 rfl) fun _ => ?_
                  refine R.look rfl rfl rfl (Lk.arith rfl rfl rfl rfl) fun _ => ?_
                  refine R.look rfl rfl rfl (Lk.assign rfl rfl) fun _ => ?_
                  refine R.nil ?_
                  refine EvC.seq ?_
                  refine EvC.region [Item.look 0, Item.look 1, Item.look 2, Item.look 3, Item.look 4, Item.look 5] (by kernel_rfl) ?_
                  refine R.look (v := (.pointer (some ⟨b4, 2, none⟩))) rfl rfl rfl (Lk.fldAddr rfl Tryd.underlying35 rfl rfl T33 rfl rfl rfl) fun _ => ?_
                  obtain ⟨v111, e42, hS⟩ := hS
                  refine R.look rfl rfl rfl (Look.loc ok (Lk.load1 rfl Tryd.underlying33 rfl rfl e42)) fun _ => ?_
                  refine R.look rfl rfl rfl (Lk.move rfl rfl) fun _ => ?_
                  obtain ⟨a113, e43, e44, e45, hS⟩ := hS
                  refine R.look rfl rfl rfl (Lk.ixAddr rfl Tryd.underlying33 T32 rfl e43 rfl e44 e45) fun _ => ?_
                  obtain ⟨v114, e46, hS⟩ := hS
                  refine R.look rfl rfl rfl (Look.loc ok (Lk.load1 rfl Tryd.underlying32 rfl rfl e46)) fun _ => ?_
                  refine R.look rfl rfl rfl (Lk.assign rfl rfl) fun _ => ?_
                  refine R.nil ?_
                  refine EvC.seq ?_
                  refine EvC.seq ?_
                  refine EvC.region [Item.look 0, Item.look 1, Item.look 2, Item.look 3, Item.look 4, Item.look 5, Item.look 6] (by kernel_rfl) ?_
                  refine R.look rfl rfl rfl (Lk.move rfl rfl) fun _ => ?_
                  refine R.look rfl rfl rfl (Lk.len rfl Tryd.underlying32 rfl) fun _ => ?_
                  refine R.look (v := (.pointer (some ⟨b13, 3, none⟩))) rfl rfl rfl (Lk.fldAddr rfl Tryd.underlying54 rfl rfl T9 rfl rfl rfl) fun _ => ?_
                  refine R.look rfl rfl rfl (Lk.load1 (v := (.string v104_3)) rfl Tryd.underlying9 rfl rfl (H.rd_loc ok (i := 0) rfl rfl)) fun _ => ?_
                  refine R.look rfl rfl rfl (Lk.lenS rfl Tryd.underlying9 rfl) fun _ => ?_
                  refine R.look rfl rfl rfl (Lk.arith rfl rfl rfl rfl) fun _ => ?_
                  refine R.look rfl rfl rfl (Lk.arith rfl rfl rfl rfl) fun _ => ?_
                  refine R.nil ?_
                  by_cases e47 : ((v114.l : Int) != (IntKind.wrap .i64 ((ByteArray.size v104_3 : Int) + 2))) = true
                  · rw [if_pos e47] at hS
                    refine EvC.condT rfl e47 ?_
                    refine EvC.seq ?_
                    refine EvC.region [Item.look 0] (by kernel_rfl) ?_
                    refine R.look rfl rfl rfl (Lk.assign rfl rfl) fun _ => ?_
                    refine R.nil ?_
                    refine EvC.ret ?_
                    exact ⟨.inr rfl, _, _, (.cons (.tmp rfl) .nil), ok.le, _, rfl, hS⟩
                  · rw [if_neg e47] at hS
                    replace e47 := eq_false_of_ne_true e47
                    refine EvC.condF rfl e47 ?_
                    refine EvC.skip ?_
                    refine EvC.seq ?_
                    refine EvC.region [Item.look 0, Item.look 1, Item.look 2, Item.look 3, Item.look 4, Item.look 5, Item.look 6] (by kernel_rfl) ?_
                    refine R.look rfl rfl rfl (Lk.move rfl rfl) fun _ => ?_
                    refine R.look rfl rfl rfl (Lk.move rfl rfl) fun _ => ?_
                    refine R.look rfl rfl rfl (Lk.len rfl Tryd.underlying32 rfl) fun _ => ?_
                    refine R.look rfl rfl rfl (Lk.arith rfl rfl rfl rfl) fun _ => ?_
                    obtain ⟨e48, e49, e50, e51, hS⟩ := hS
                    refine R.look (v := (.slice (if v114.c = Int.toNat 1 then v114.a else Option.map (fun x => Addr.add x (Int.toNat 1 * 1)) v114.a) (Nat.sub (Int.toNat (IntKind.wrap .i64 ((v114.l : Int) - 1))) (Int.toNat 1)) (v114.c - Int.toNat 1))) rfl rfl rfl (Lk.subSlice (i := 1) (j := (IntKind.wrap .i64 ((v114.l : Int) - 1))) rfl Tryd.underlying32 T3 rfl ⟨_, rfl⟩ ⟨_, rfl⟩ e48 e49 e50 e51) fun _ => ?_
                    refine R.look rfl rfl rfl (Lk.len rfl Tryd.underlying32 rfl) fun _ => ?_
                    refine R.look rfl rfl rfl (Lk.move rfl rfl) fun _ => ?_
                    refine R.nil ?_
                    refine EvC.block ?_
                    refine EvC.loop ?_
                    refine LoopC.lfp (σ := Int) (fun s => (Env.put (Env.put (Env.put (Env.put (Env.put (Env.put (Env.put (Env.put (Env.put (Env.put (Env.put Env.emp 128 (.int .i64 s)) 127 (.int .i64 ((Nat.sub (Int.toNat (IntKind.wrap .i64 ((v114.l : Int) - 1))) (Int.toNat 1)) : Int))) 126 (.slice (if v114.c = Int.toNat 1 then v114.a else Option.map (fun x => Addr.add x (Int.toNat 1 * 1)) v114.a) (Nat.sub (Int.toNat (IntKind.wrap .i64 ((v114.l : Int) - 1))) (Int.toNat 1)) (v114.c - Int.toNat 1))) 100 (.int .i64 v100)) 99 (.int .i64 (v23_1.l : Int))) 98 (.slice v23_1.a v23_1.l v23_1.c)) 11 (.func (.func 19) ([] : List Value).toArray ([(.pointer (some ⟨b4, 0, none⟩))] : List Value).toArray)) 7 (.int .i64 (IntKind.wrap .i64 (v7_1 + (ByteArray.size v104_3 : Int))))) 6 (.int .i64 v6)) 4 (.pointer (some ⟨b4, 0, none⟩))) 3 (.pointer (some ⟨b3, 0, none⟩)))) (fun s => [(b3, .row ⟨[(.slice v23_0.a v23_0.l v23_0.c), (.slice v23_1.a v23_1.l v23_1.c)], 2, 29, true, true⟩)]) (fun X_3 hX_3 => ?_) hS (ok.sub (.cons _ (.cons_cons _ List.Sublist.slnil))) (Env.le_put rfl (Env.le_put rfl (Env.le_put rfl (Env.le_put rfl (Env.le_put rfl (Env.le_put rfl (Env.le_put rfl (Env.le_put rfl (Env.le_put rfl (Env.le_put rfl (Env.le_put rfl (Env.le_emp _)))))))))))) (H.add_sub ok (.cons _ (.cons_cons _ List.Sublist.slnil)))
                    intro v128 h_21 hS ok
                    replace hS : S4_l10 K b4 v7_1 v100 X_2 v104_3 v114 X_3 v128 h_21 := hS
                    change EvC _ _ _ (Env.put (Env.put (Env.put (Env.put (Env.put (Env.put (Env.put (Env.put (Env.put (Env.put (Env.put Env.emp 128 (.int .i64 v128)) 127 (.int .i64 ((Nat.sub (Int.toNat (IntKind.wrap .i64 ((v114.l : Int) - 1))) (Int.toNat 1)) : Int))) 126 (.slice (if v114.c = Int.toNat 1 then v114.a else Option.map (fun x => Addr.add x (Int.toNat 1 * 1)) v114.a) (Nat.sub (Int.toNat (IntKind.wrap .i64 ((v114.l : Int) - 1))) (Int.toNat 1)) (v114.c - Int.toNat 1))) 100 (.int .i64 v100)) 99 (.int .i64 (v23_1.l : Int))) 98 (.slice v23_1.a v23_1.l v23_1.c)) 11 (.func (.func 19) ([] : List Value).toArray ([(.pointer (some ⟨b4, 0, none⟩))] : List Value).toArray)) 7 (.int .i64 (IntKind.wrap .i64 (v7_1 + (ByteArray.size v104_3 : Int))))) 6 (.int .i64 v6)) 4 (.pointer (some ⟨b4, 0, none⟩))) 3 (.pointer (some ⟨b3, 0, none⟩))) (H.add h_21 [(b3, .row ⟨[(.slice v23_0.a v23_0.l v23_0.c), (.slice v23_1.a v23_1.l v23_1.c)], 2, 29, true, true⟩)]) _
                    unfold S4_l10 at hS
                    refine EvC.seq ?_
                    refine EvC.region [Item.look 0] (by kernel_rfl) ?_
                    refine R.look rfl rfl rfl (Lk.arith rfl rfl rfl rfl) fun _ => ?_
                    refine R.nil ?_
                    refine EvC.seq ?_
                    by_cases e52 : (decide (v128 < ((Nat.sub (Int.toNat (IntKind.wrap .i64 ((v114.l : Int) - 1))) (Int.toNat 1)) : Int))) = true
                    · rw [if_pos e52] at hS
                      refine EvC.condT rfl e52 ?_
                      refine EvC.skip ?_
                      refine EvC.seq ?_
                      refine EvC.block ?_
                      refine EvC.seq ?_
                      refine EvC.region [Item.look 0, Item.look 1, Item.look 2] (by kernel_rfl) ?_
                      obtain ⟨a130, e53, e54, e55, hS⟩ := hS
                      refine R.look rfl rfl rfl (Lk.ixAddr rfl Tryd.underlying32 T3 rfl e53 rfl e54 e55) fun _ => ?_
                      obtain ⟨v131, e56, hS⟩ := hS
                      refine R.look rfl rfl rfl (Look.loc ok (Lk.load1 rfl Tryd.underlying3 rfl rfl e56)) fun _ => ?_
                      refine R.look rfl rfl rfl (Lk.assign rfl rfl) fun _ => ?_
                      refine R.nil ?_
                      refine EvC.seq ?_
                      refine EvC.region [Item.look 0, Item.look 1, Item.eff 2 [], Item.look 3] (by kernel_rfl) ?_
                      refine R.look rfl rfl rfl (Lk.move rfl rfl) fun _ => ?_
                      refine R.look rfl rfl rfl (Lk.move rfl rfl) fun _ => ?_
                      refine R.eff rfl rfl rfl (Eff.loc ok (Ef.callV (first := []) rfl rfl CB19 rfl ((f19_ok hS).mono ?_)))
                      rintro _ h_22 ⟨v134, rfl, hS⟩
                      refine fun ok => ⟨noChk, ?_⟩
                      refine R.look rfl rfl rfl (Lk.arith rfl rfl rfl rfl) fun _ => ?_
                      refine R.nil ?_
                      by_cases e57 : (v134 != 2) = true
                      · rw [if_pos e57] at hS
                        refine EvC.condT rfl e57 ?_
                        refine EvC.seq ?_
                        refine EvC.region [Item.look 0] (by kernel_rfl) ?_
                        refine R.look rfl rfl rfl (Lk.assign rfl rfl) fun _ => ?_
                        refine R.nil ?_
                        refine EvC.ret ?_
                        exact ⟨.inr rfl, _, _, (.cons (.tmp rfl) .nil), ok.le, _, rfl, hS⟩
                      · rw [if_neg e57] at hS
                        replace e57 := eq_false_of_ne_true e57
                        refine EvC.condF rfl e57 ?_
                        refine EvC.skip ?_
                        refine EvC.region [Item.look 0, Item.look 1] (by kernel_rfl) ?_
                        refine R.look rfl rfl rfl (Lk.arith rfl rfl rfl rfl) fun _ => ?_
                        refine R.look rfl rfl rfl (Lk.move rfl rfl) fun _ => ?_
                        refine R.nil ?_
                        exact hX_3 (IntKind.wrap .i64 (v128 + 1)) _ _ _ hS (ok.sub (.cons_cons _ List.Sublist.slnil)) (Env.le_put rfl (Env.le_put rfl (Env.le_put rfl (Env.le_put rfl (Env.le_put rfl (Env.le_put rfl (Env.le_put rfl (Env.le_put rfl (Env.le_put rfl (Env.le_put rfl (Env.le_put rfl (Env.le_emp _)))))))))))) (H.add_sub ok (.cons_cons _ List.Sublist.slnil))
                    · rw [if_neg e52] at hS
                      replace e52 := eq_false_of_ne_true e52
                      refine EvC.condF rfl e52 ?_
                      refine EvC.exit ?_
                      exact hIh_20 (IntKind.wrap .i64 (v7_1 + (ByteArray.size v104_3 : Int))) _ _ _ (Env.le_put rfl (Env.le_put rfl (Env.le_put rfl (Env.le_put rfl (Env.le_put rfl (Env.le_put rfl (Env.le_put rfl (Env.le_put rfl (Env.le_emp _))))))))) (ok.sub (.cons_cons _ List.Sublist.slnil)) (H.add_sub ok (.cons_cons _ List.Sublist.slnil)) hS
              · rw [if_neg e37] at hS
                replace e37 := eq_false_of_ne_true e37
                refine EvC.condF rfl e37 ?_
                refine EvC.exit ?_
                exact hIh_9 v7_1 _ _ _ (Env.le_put rfl (Env.le_put rfl (Env.le_put rfl (Env.le_put rfl (Env.le_put rfl (Env.le_emp _)))))) (ok.sub (.cons_cons _ List.Sublist.slnil)) (H.add_sub ok (.cons_cons _ List.Sublist.slnil)) hS
          · refine EvC.seq ?_
            refine EvC.region [Item.look 0, Item.look 1, Item.look 2, Item.look 3] (by kernel_rfl) ?_
            refine R.look (v := (.pointer (some ⟨b4, 0, none⟩))) rfl rfl rfl (Lk.fldAddr rfl Tryd.underlying35 rfl rfl T31 rfl rfl rfl) fun _ => ?_
            obtain ⟨v59, e58, hS⟩ := hS
            refine R.look rfl rfl rfl (Look.loc ok (Lk.load1 rfl Tryd.underlying31 rfl rfl e58)) fun _ => ?_
            refine R.look rfl rfl rfl (Lk.len rfl Tryd.underlying31 rfl) fun _ => ?_
            refine R.look rfl rfl rfl (Lk.move rfl rfl) fun _ => ?_
            refine R.nil ?_
            refine EvC.block ?_
            refine EvC.loop ?_
            refine LoopC.lfp (σ := Int × Int) (fun s => (Env.put (Env.put (Env.put (Env.put (Env.put (Env.put (Env.put Env.emp 61 (.int .i64 s.2)) 60 (.int .i64 (v59.l : Int))) 59 (.slice v59.a v59.l v59.c)) 7 (.int .i64 0)) 6 (.int .i64 s.1)) 4 (.pointer (some ⟨b4, 0, none⟩))) 3 (.pointer (some ⟨b3, 0, none⟩)))) (fun s => [(b3, .row ⟨[(.slice v23_0.a v23_0.l v23_0.c), (.slice v23_1.a v23_1.l v23_1.c)], 2, 29, true, true⟩)]) (fun X_4 hX_4 => ?_) hS (ok.sub (.cons_cons _ List.Sublist.slnil)) (Env.le_put rfl (Env.le_put rfl (Env.le_put rfl (Env.le_put rfl (Env.le_put rfl (Env.le_put rfl (Env.le_put rfl (Env.le_emp _)))))))) (H.add_sub ok (.cons_cons _ List.Sublist.slnil))
            rintro ⟨v6_1, v61⟩ h_23 hS ok
            replace hS : S4_l18 K v23_0 v23_1 b4 v59 X_4 v6_1 v61 h_23 := hS
            change EvC _ _ _ (Env.put (Env.put (Env.put (Env.put (Env.put (Env.put (Env.put Env.emp 61 (.int .i64 v61)) 60 (.int .i64 (v59.l : Int))) 59 (.slice v59.a v59.l v59.c)) 7 (.int .i64 0)) 6 (.int .i64 v6_1)) 4 (.pointer (some ⟨b4, 0, none⟩))) 3 (.pointer (some ⟨b3, 0, none⟩))) (H.add h_23 [(b3, .row ⟨[(.slice v23_0.a v23_0.l v23_0.c), (.slice v23_1.a v23_1.l v23_1.c)], 2, 29, true, true⟩)]) _
            unfold S4_l18 at hS
            refine EvC.seq ?_
            refine EvC.region [Item.look 0] (by kernel_rfl) ?_
            refine R.look rfl rfl rfl (Lk.arith rfl rfl rfl rfl) fun _ => ?_
            refine R.nil ?_
            refine EvC.seq ?_
            by_cases e59 : (decide (v61 < (v59.l : Int))) = true
            · rw [if_pos e59] at hS
              refine EvC.condT rfl e59 ?_
              refine EvC.skip ?_
              refine EvC.join (σ := Int) (fun s => (Env.put (Env.put (Env.put (Env.put (Env.put (Env.put (Env.put Env.emp 61 (.int .i64 v61)) 60 (.int .i64 (v59.l : Int))) 59 (.slice v59.a v59.l v59.c)) 7 (.int .i64 0)) 6 (.int .i64 s)) 4 (.pointer (some ⟨b4, 0, none⟩))) 3 (.pointer (some ⟨b3, 0, none⟩)))) (fun s => [(b3, .row ⟨[(.slice v23_0.a v23_0.l v23_0.c), (.slice v23_1.a v23_1.l v23_1.c)], 2, 29, true, true⟩)]) (fun s h_24 => S4_j13 v61 X_4 s h_24) ?_ (fun Ih_24 hIh_24 => ?_)
              · intro v6_2 h_24 ok hS
                replace hS : S4_j13 v61 X_4 v6_2 h_24 := hS
                change EvC _ _ _ (Env.put (Env.put (Env.put (Env.put (Env.put (Env.put (Env.put Env.emp 61 (.int .i64 v61)) 60 (.int .i64 (v59.l : Int))) 59 (.slice v59.a v59.l v59.c)) 7 (.int .i64 0)) 6 (.int .i64 v6_2)) 4 (.pointer (some ⟨b4, 0, none⟩))) 3 (.pointer (some ⟨b3, 0, none⟩))) (H.add h_24 [(b3, .row ⟨[(.slice v23_0.a v23_0.l v23_0.c), (.slice v23_1.a v23_1.l v23_1.c)], 2, 29, true, true⟩)]) _
                unfold S4_j13 at hS
                refine EvC.region [Item.look 0, Item.look 1] (by kernel_rfl) ?_
                refine R.look rfl rfl rfl (Lk.arith rfl rfl rfl rfl) fun _ => ?_
                refine R.look rfl rfl rfl (Lk.move rfl rfl) fun _ => ?_
                refine R.nil ?_
                exact hX_4 (v6_2, (IntKind.wrap .i64 (v61 + 1))) _ _ _ hS (ok.sub (.cons_cons _ List.Sublist.slnil)) (Env.le_put rfl (Env.le_put rfl (Env.le_put rfl (Env.le_put rfl (Env.le_put rfl (Env.le_put rfl (Env.le_put rfl (Env.le_emp _)))))))) (H.add_sub ok (.cons_cons _ List.Sublist.slnil))
              · refine EvC.block ?_
                refine EvC.seq ?_
                refine EvC.region [Item.look 0, Item.look 1, Item.alc 2, Item.eff 3 []] (by kernel_rfl) ?_
                obtain ⟨a63, e60, e61, e62, hS⟩ := hS
                refine R.look rfl rfl rfl (Lk.ixAddr rfl Tryd.underlying31 T51 rfl e60 rfl e61 e62) fun _ => ?_
                obtain ⟨v64_0, v64_1, v64_2, v64_3, v64_4, v64_5, v64_6, v64_7, e63, hS⟩ := hS
                refine R.look rfl rfl rfl (Look.loc ok (Lk.loadN rfl Tryd.underlying51 rfl T51 rfl e63)) fun _ => ?_
                refine R.var (blk := .row ⟨[(.int .i64 0), (.int .i64 0), (.int .i64 0), (.int .i64 0), (.int .i64 0), (.int .i64 0), (.int .i64 0), (.int .i64 0)], 8, 51, true, true⟩) ok rfl rfl rfl (Ac.alloc rfl T51) rfl rfl fun b9 ok => ?_
                refine R.effN rfl rfl rfl (Ef.storeLoc (i := 0) (vs := [(.int .i64 v64_0), (.int .i64 v64_1), (.int .i64 v64_2), (.int .i64 v64_3), (.int .i64 v64_4), (.int .i64 v64_5), (.int .i64 v64_6), (.int .i64 v64_7)]) (cs := [(.int .i64 v64_0), (.int .i64 v64_1), (.int .i64 v64_2), (.int .i64 v64_3), (.int .i64 v64_4), (.int .i64 v64_5), (.int .i64 v64_6), (.int .i64 v64_7)]) (l' := [(b9, .row ⟨[(.int .i64 v64_0), (.int .i64 v64_1), (.int .i64 v64_2), (.int .i64 v64_3), (.int .i64 v64_4), (.int .i64 v64_5), (.int .i64 v64_6), (.int .i64 v64_7)], 8, 51, true, true⟩), (b3, .row ⟨[(.slice v23_0.a v23_0.l v23_0.c), (.slice v23_1.a v23_1.l v23_1.c)], 2, 29, true, true⟩)]) ok rfl T51 rfl rfl rfl rfl rfl rfl rfl rfl rfl rfl fun ok => ⟨noChk, ?_⟩)
                refine R.nil ?_
                refine EvC.seq ?_
                refine EvC.region [Item.look 0] (by kernel_rfl) ?_
                refine R.look rfl rfl rfl (Lk.move rfl rfl) fun _ => ?_
                refine R.nil ?_
                refine EvC.block ?_
                refine EvC.loop ?_
                refine LoopC.lfp (σ := Int × Int) (fun s => (Env.put (Env.put (Env.put (Env.put (Env.put (Env.put (Env.put (Env.put (Env.put Env.emp 65 (.int .i64 s.2)) 61 (.int .i64 v61)) 60 (.int .i64 (v59.l : Int))) 59 (.slice v59.a v59.l v59.c)) 9 (.pointer (some ⟨b9, 0, none⟩))) 7 (.int .i64 0)) 6 (.int .i64 s.1)) 4 (.pointer (some ⟨b4, 0, none⟩))) 3 (.pointer (some ⟨b3, 0, none⟩)))) (fun s => [(b9, .row ⟨[(.int .i64 v64_0), (.int .i64 v64_1), (.int .i64 v64_2), (.int .i64 v64_3), (.int .i64 v64_4), (.int .i64 v64_5), (.int .i64 v64_6), (.int .i64 v64_7)], 8, 51, true, true⟩), (b3, .row ⟨[(.slice v23_0.a v23_0.l v23_0.c), (.slice v23_1.a v23_1.l v23_1.c)], 2, 29, true, true⟩)]) (fun X_5 hX_5 => ?_) hS (ok.sub (.cons_cons _ (.cons_cons _ List.Sublist.slnil))) (Env.le_put rfl (Env.le_put rfl (Env.le_put rfl (Env.le_put rfl (Env.le_put rfl (Env.le_put rfl (Env.le_put rfl (Env.le_put rfl (Env.le_put rfl (Env.le_emp _)))))))))) (H.add_sub ok (.cons_cons _ (.cons_cons _ List.Sublist.slnil)))
                rintro ⟨v6_3, v65⟩ h_25 hS ok
                replace hS : S4_l17 K v61 X_4 v64_0 v64_1 v64_2 v64_3 v64_4 v64_5 v64_6 v64_7 X_5 v6_3 v65 h_25 := hS
                change EvC _ _ _ (Env.put (Env.put (Env.put (Env.put (Env.put (Env.put (Env.put (Env.put (Env.put Env.emp 65 (.int .i64 v65)) 61 (.int .i64 v61)) 60 (.int .i64 (v59.l : Int))) 59 (.slice v59.a v59.l v59.c)) 9 (.pointer (some ⟨b9, 0, none⟩))) 7 (.int .i64 0)) 6 (.int .i64 v6_3)) 4 (.pointer (some ⟨b4, 0, none⟩))) 3 (.pointer (some ⟨b3, 0, none⟩))) (H.add h_25 [(b9, .row ⟨[(.int .i64 v64_0), (.int .i64 v64_1), (.int .i64 v64_2), (.int .i64 v64_3), (.int .i64 v64_4), (.int .i64 v64_5), (.int .i64 v64_6), (.int .i64 v64_7)], 8, 51, true, true⟩), (b3, .row ⟨[(.slice v23_0.a v23_0.l v23_0.c), (.slice v23_1.a v23_1.l v23_1.c)], 2, 29, true, true⟩)]) _
                unfold S4_l17 at hS
                refine EvC.seq ?_
                refine EvC.region [Item.look 0] (by kernel_rfl) ?_
                refine R.look rfl rfl rfl (Lk.arith rfl rfl rfl rfl) fun _ => ?_
                refine R.nil ?_
                refine EvC.seq ?_
                by_cases e64 : (decide (v65 < 4)) = true
                · rw [if_pos e64] at hS
                  refine EvC.condT rfl e64 ?_
                  refine EvC.skip ?_
                  refine EvC.seq ?_
                  refine EvC.block ?_
                  refine EvC.seq ?_
                  refine EvC.region [Item.look 0, Item.look 1] (by kernel_rfl) ?_
                  refine R.look rfl rfl rfl (Lk.move rfl rfl) fun _ => ?_
                  refine R.look rfl rfl rfl (Lk.assign rfl rfl) fun _ => ?_
                  refine R.nil ?_
                  refine EvC.join (σ := Int) (fun s => (Env.put (Env.put (Env.put (Env.put (Env.put (Env.put (Env.put (Env.put (Env.put (Env.put Env.emp 65 (.int .i64 v65)) 61 (.int .i64 v61)) 60 (.int .i64 (v59.l : Int))) 59 (.slice v59.a v59.l v59.c)) 10 (.int .i64 v65)) 9 (.pointer (some ⟨b9, 0, none⟩))) 7 (.int .i64 0)) 6 (.int .i64 s)) 4 (.pointer (some ⟨b4, 0, none⟩))) 3 (.pointer (some ⟨b3, 0, none⟩)))) (fun s => [(b9, .row ⟨[(.int .i64 v64_0), (.int .i64 v64_1), (.int .i64 v64_2), (.int .i64 v64_3), (.int .i64 v64_4), (.int .i64 v64_5), (.int .i64 v64_6), (.int .i64 v64_7)], 8, 51, true, true⟩), (b3, .row ⟨[(.slice v23_0.a v23_0.l v23_0.c), (.slice v23_1.a v23_1.l v23_1.c)], 2, 29, true, true⟩)]) (fun s h_26 => S4_j15 K v64_0 v64_1 v64_2 v64_3 v64_4 v64_5 v64_6 v64_7 v65 X_5 s h_26) ?_ (fun Ih_26 hIh_26 => ?_)
                  · intro v6_4 h_26 ok hS
                    replace hS : S4_j15 K v64_0 v64_1 v64_2 v64_3 v64_4 v64_5 v64_6 v64_7 v65 X_5 v6_4 h_26 := hS
                    change EvC _ _ _ (Env.put (Env.put (Env.put (Env.put (Env.put (Env.put (Env.put (Env.put (Env.put (Env.put Env.emp 65 (.int .i64 v65)) 61 (.int .i64 v61)) 60 (.int .i64 (v59.l : Int))) 59 (.slice v59.a v59.l v59.c)) 10 (.int .i64 v65)) 9 (.pointer (some ⟨b9, 0, none⟩))) 7 (.int .i64 0)) 6 (.int .i64 v6_4)) 4 (.pointer (some ⟨b4, 0, none⟩))) 3 (.pointer (some ⟨b3, 0, none⟩))) (H.add h_26 [(b9, .row ⟨[(.int .i64 v64_0), (.int .i64 v64_1), (.int .i64 v64_2), (.int .i64 v64_3), (.int .i64 v64_4), (.int .i64 v64_5), (.int .i64 v64_6), (.int .i64 v64_7)], 8, 51, true, true⟩), (b3, .row ⟨[(.slice v23_0.a v23_0.l v23_0.c), (.slice v23_1.a v23_1.l v23_1.c)], 2, 29, true, true⟩)]) _
                    unfold S4_j15 at hS
                    refine EvC.join (σ := Bool) (fun s => (Env.put (Env.put (Env.put (Env.put (Env.put (Env.put (Env.put (Env.put (Env.put (Env.put Env.emp 93 (.bool s)) 65 (.int .i64 v65)) 61 (.int .i64 v61)) 60 (.int .i64 (v59.l : Int))) 59 (.slice v59.a v59.l v59.c)) 9 (.pointer (some ⟨b9, 0, none⟩))) 7 (.int .i64 0)) 6 (.int .i64 v6_4)) 4 (.pointer (some ⟨b4, 0, none⟩))) 3 (.pointer (some ⟨b3, 0, none⟩)))) (fun s => [(b9, .row ⟨[(.int .i64 v64_0), (.int .i64 v64_1), (.int .i64 v64_2), (.int .i64 v64_3), (.int .i64 v64_4), (.int .i64 v64_5), (.int .i64 v64_6), (.int .i64 v64_7)], 8, 51, true, true⟩), (b3, .row ⟨[(.slice v23_0.a v23_0.l v23_0.c), (.slice v23_1.a v23_1.l v23_1.c)], 2, 29, true, true⟩)]) (fun s h_27 => S4_j14 K v65 X_5 v6_4 s h_27) ?_ (fun Ih_27 hIh_27 => ?_)
                    · intro v93 h_27 ok hS
                      replace hS : S4_j14 K v65 X_5 v6_4 v93 h_27 := hS
                      change EvC _ _ _ (Env.put (Env.put (Env.put (Env.put (Env.put (Env.put (Env.put (Env.put (Env.put (Env.put Env.emp 93 (.bool v93)) 65 (.int .i64 v65)) 61 (.int .i64 v61)) 60 (.int .i64 (v59.l : Int))) 59 (.slice v59.a v59.l v59.c)) 9 (.pointer (some ⟨b9, 0, none⟩))) 7 (.int .i64 0)) 6 (.int .i64 v6_4)) 4 (.pointer (some ⟨b4, 0, none⟩))) 3 (.pointer (some ⟨b3, 0, none⟩))) (H.add h_27 [(b9, .row ⟨[(.int .i64 v64_0), (.int .i64 v64_1), (.int .i64 v64_2), (.int .i64 v64_3), (.int .i64 v64_4), (.int .i64 v64_5), (.int .i64 v64_6), (.int .i64 v64_7)], 8, 51, true, true⟩), (b3, .row ⟨[(.slice v23_0.a v23_0.l v23_0.c), (.slice v23_1.a v23_1.l v23_1.c)], 2, 29, true, true⟩)]) _
                      unfold S4_j14 at hS
                      by_cases e65 : v93 = true
                      · rw [if_pos e65] at hS
                        refine EvC.condT rfl e65 ?_
                        refine EvC.seq ?_
                        refine EvC.region [Item.look 0] (by kernel_rfl) ?_
                        refine R.look rfl rfl rfl (Lk.assign rfl rfl) fun _ => ?_
                        refine R.nil ?_
                        refine EvC.ret ?_
                        exact ⟨.inr rfl, _, _, (.cons (.tmp rfl) .nil), ok.le, _, rfl, hS⟩
                      · rw [if_neg e65] at hS
                        replace e65 := eq_false_of_ne_true e65
                        refine EvC.condF rfl e65 ?_
                        refine EvC.skip ?_
                        refine EvC.region [Item.look 0, Item.look 1] (by kernel_rfl) ?_
                        refine R.look rfl rfl rfl (Lk.arith rfl rfl rfl rfl) fun _ => ?_
                        refine R.look rfl rfl rfl (Lk.move rfl rfl) fun _ => ?_
                        refine R.nil ?_
                        exact hX_5 (v6_4, (IntKind.wrap .i64 (v65 + 1))) _ _ _ hS (ok.sub (.cons_cons _ (.cons_cons _ List.Sublist.slnil))) (Env.le_put rfl (Env.le_put rfl (Env.le_put rfl (Env.le_put rfl (Env.le_put rfl (Env.le_put rfl (Env.le_put rfl (Env.le_put rfl (Env.le_put rfl (Env.le_emp _)))))))))) (H.add_sub ok (.cons_cons _ (.cons_cons _ List.Sublist.slnil)))
                    · refine EvC.region [Item.look 0, Item.look 1, Item.look 2, Item.look 3, Item.look 4, Item.look 5, Item.look 6, Item.look 7, Item.look 8, Item.look 9, Item.look 10, Item.look 11] (by kernel_rfl) ?_
                      refine R.look rfl rfl rfl (Lk.move rfl rfl) fun _ => ?_
                      refine R.look (v := (.pointer (some ⟨b9, 0, none⟩))) rfl rfl rfl (Lk.fldAddr rfl Tryd.underlying51 rfl rfl T49 rfl rfl rfl) fun _ => ?_
                      obtain ⟨e66, e67, hS⟩ := hS
                      refine R.look (v := (.pointer (some ⟨b9, 0 + Int.toNat v65, none⟩))) rfl rfl rfl (Lk.ixLoc rfl Tryd.underlying49 T3 rfl rfl e66 e67) fun _ => ?_
                      refine R.look (v := (.int .i64 (sel ([v64_0, v64_1, v64_2, v64_3] : List Int) v65))) rfl rfl rfl (Lk.load1 rfl Tryd.underlying3 rfl rfl (H.rd_loc ok (i := 0) rfl (sel_at (fun x => Value.int .i64 x) ([v64_0, v64_1, v64_2, v64_3] : List Int) [] [(.int .i64 v64_4), (.int .i64 v64_5), (.int .i64 v64_6), (.int .i64 v64_7)] rfl (by have h1 := e66; have h2 := e67; simp only [List.length_cons, List.length_nil]; omega)))) fun _ => ?_
                      refine R.look rfl rfl rfl (Lk.arith rfl rfl rfl rfl) fun _ => ?_
                      refine R.look rfl rfl rfl (Lk.move rfl rfl) fun _ => ?_
                      by_cases e68 : (decide ((sel ([v64_0, v64_1, v64_2, v64_3] : List Int) v65) ≥ 0)) = true
                      · rw [if_pos e68] at hS
                        refine R.lookT rfl rfl rfl rfl e68 rfl (Lk.move rfl rfl) fun _ => ?_
                        refine R.lookT (v := (.pointer (some ⟨b9, 4, none⟩))) rfl rfl rfl rfl e68 rfl (Lk.fldAddr rfl Tryd.underlying51 rfl rfl T49 rfl rfl rfl) fun _ => ?_
                        obtain ⟨e69, e70, hS⟩ := hS
                        refine R.lookT (v := (.pointer (some ⟨b9, 4 + Int.toNat v65, none⟩))) rfl rfl rfl rfl e68 rfl (Lk.ixLoc rfl Tryd.underlying49 T3 rfl rfl e69 e70) fun _ => ?_
                        refine R.lookT (v := (.int .i64 (sel ([v64_4, v64_5, v64_6, v64_7] : List Int) v65))) rfl rfl rfl rfl e68 rfl (Lk.load1 rfl Tryd.underlying3 rfl rfl (H.rd_loc ok (i := 0) rfl (sel_at (fun x => Value.int .i64 x) ([v64_4, v64_5, v64_6, v64_7] : List Int) [(.int .i64 v64_0), (.int .i64 v64_1), (.int .i64 v64_2), (.int .i64 v64_3)] [] rfl (by have h1 := e69; have h2 := e70; simp only [List.length_cons, List.length_nil]; omega)))) fun _ => ?_
                        refine R.lookT rfl rfl rfl rfl e68 rfl (Lk.arith rfl rfl rfl rfl) fun _ => ?_
                        refine R.look rfl rfl rfl (Lk.pick rfl rfl (fun _ => rfl) (fun e => by rw [e68] at e; cases e)) fun _ => ?_
                        refine R.nil ?_
                        exact hIh_27 ((sel ([v64_4, v64_5, v64_6, v64_7] : List Int) v65) == (-2)) _ _ _ (Env.le_put rfl (Env.le_put rfl (Env.le_put rfl (Env.le_put rfl (Env.le_put rfl (Env.le_put rfl (Env.le_put rfl (Env.le_put rfl (Env.le_put rfl (Env.le_put rfl (Env.le_emp _))))))))))) (ok.sub (.cons_cons _ (.cons_cons _ List.Sublist.slnil))) (H.add_sub ok (.cons_cons _ (.cons_cons _ List.Sublist.slnil))) hS
                      · rw [if_neg e68] at hS
                        replace e68 := eq_false_of_ne_true e68
                        refine R.lookF rfl rfl rfl rfl e68 rfl fun _ => ?_
                        refine R.lookF rfl rfl rfl rfl e68 rfl fun _ => ?_
                        refine R.lookF rfl rfl rfl rfl e68 rfl fun _ => ?_
                        refine R.lookF rfl rfl rfl rfl e68 rfl fun _ => ?_
                        refine R.lookF rfl rfl rfl rfl e68 rfl fun _ => ?_
                        refine R.look rfl rfl rfl (Lk.pick rfl rfl (fun e => by rw [e68] at e; cases e) (fun _ => rfl)) fun _ => ?_
                        refine R.nil ?_
                        exact hIh_27 false _ _ _ (Env.le_put rfl (Env.le_put rfl (Env.le_put rfl (Env.le_put rfl (Env.le_put rfl (Env.le_put rfl (Env.le_put rfl (Env.le_put rfl (Env.le_put rfl (Env.le_put rfl (Env.le_emp _))))))))))) (ok.sub (.cons_cons _ (.cons_cons _ List.Sublist.slnil))) (H.add_sub ok (.cons_cons _ (.cons_cons _ List.Sublist.slnil))) hS
                  · refine EvC.join (σ := Bool) (fun s => (Env.put (Env.put (Env.put (Env.put (Env.put (Env.put (Env.put (Env.put (Env.put (Env.put (Env.put Env.emp 79 (.bool s)) 65 (.int .i64 v65)) 61 (.int .i64 v61)) 60 (.int .i64 (v59.l : Int))) 59 (.slice v59.a v59.l v59.c)) 10 (.int .i64 v65)) 9 (.pointer (some ⟨b9, 0, none⟩))) 7 (.int .i64 0)) 6 (.int .i64 v6_3)) 4 (.pointer (some ⟨b4, 0, none⟩))) 3 (.pointer (some ⟨b3, 0, none⟩)))) (fun s => [(b9, .row ⟨[(.int .i64 v64_0), (.int .i64 v64_1), (.int .i64 v64_2), (.int .i64 v64_3), (.int .i64 v64_4), (.int .i64 v64_5), (.int .i64 v64_6), (.int .i64 v64_7)], 8, 51, true, true⟩), (b3, .row ⟨[(.slice v23_0.a v23_0.l v23_0.c), (.slice v23_1.a v23_1.l v23_1.c)], 2, 29, true, true⟩)]) (fun s h_28 => S4_j16 K v64_0 v64_1 v64_2 v64_3 v64_4 v64_5 v64_6 v64_7 v6_3 v65 X_5 s h_28) ?_ (fun Ih_28 hIh_28 => ?_)
                    · intro v79 h_28 ok hS
                      replace hS : S4_j16 K v64_0 v64_1 v64_2 v64_3 v64_4 v64_5 v64_6 v64_7 v6_3 v65 X_5 v79 h_28 := hS
                      change EvC _ _ _ (Env.put (Env.put (Env.put (Env.put (Env.put (Env.put (Env.put (Env.put (Env.put (Env.put (Env.put Env.emp 79 (.bool v79)) 65 (.int .i64 v65)) 61 (.int .i64 v61)) 60 (.int .i64 (v59.l : Int))) 59 (.slice v59.a v59.l v59.c)) 10 (.int .i64 v65)) 9 (.pointer (some ⟨b9, 0, none⟩))) 7 (.int .i64 0)) 6 (.int .i64 v6_3)) 4 (.pointer (some ⟨b4, 0, none⟩))) 3 (.pointer (some ⟨b3, 0, none⟩))) (H.add h_28 [(b9, .row ⟨[(.int .i64 v64_0), (.int .i64 v64_1), (.int .i64 v64_2), (.int .i64 v64_3), (.int .i64 v64_4), (.int .i64 v64_5), (.int .i64 v64_6), (.int .i64 v64_7)], 8, 51, true, true⟩), (b3, .row ⟨[(.slice v23_0.a v23_0.l v23_0.c), (.slice v23_1.a v23_1.l v23_1.c)], 2, 29, true, true⟩)]) _
                      unfold S4_j16 at hS
                      by_cases e71 : v79 = true
                      · rw [if_pos e71] at hS
                        refine EvC.condT rfl e71 ?_
                        refine EvC.region [Item.look 0, Item.look 1, Item.look 2] (by kernel_rfl) ?_
                        refine R.look rfl rfl rfl (Lk.move rfl rfl) fun _ => ?_
                        refine R.look rfl rfl rfl (Lk.arith rfl rfl rfl rfl) fun _ => ?_
                        refine R.look rfl rfl rfl (Lk.assign rfl rfl) fun _ => ?_
                        refine R.nil ?_
                        exact hIh_26 (IntKind.wrap .i64 (v6_3 + 1)) _ _ _ (Env.le_put rfl (Env.le_put rfl (Env.le_put rfl (Env.le_put rfl (Env.le_put rfl (Env.le_put rfl (Env.le_put rfl (Env.le_put rfl (Env.le_put rfl (Env.le_put rfl (Env.le_emp _))))))))))) (ok.sub (.cons_cons _ (.cons_cons _ List.Sublist.slnil))) (H.add_sub ok (.cons_cons _ (.cons_cons _ List.Sublist.slnil))) hS
                      · rw [if_neg e71] at hS
                        replace e71 := eq_false_of_ne_true e71
                        refine EvC.condF rfl e71 ?_
                        refine EvC.skip ?_
                        exact hIh_26 v6_3 _ _ _ (Env.le_put rfl (Env.le_put rfl (Env.le_put rfl (Env.le_put rfl (Env.le_put rfl (Env.le_put rfl (Env.le_put rfl (Env.le_put rfl (Env.le_put rfl (Env.le_put rfl (Env.le_emp _))))))))))) (ok.sub (.cons_cons _ (.cons_cons _ List.Sublist.slnil))) (H.add_sub ok (.cons_cons _ (.cons_cons _ List.Sublist.slnil))) hS
                    · refine EvC.region [Item.look 0, Item.look 1, Item.look 2, Item.look 3, Item.look 4, Item.look 5, Item.look 6, Item.look 7, Item.look 8, Item.look 9, Item.look 10, Item.look 11] (by kernel_rfl) ?_
                      refine R.look rfl rfl rfl (Lk.move rfl rfl) fun _ => ?_
                      refine R.look (v := (.pointer (some ⟨b9, 0, none⟩))) rfl rfl rfl (Lk.fldAddr rfl Tryd.underlying51 rfl rfl T49 rfl rfl rfl) fun _ => ?_
                      obtain ⟨e72, e73, hS⟩ := hS
                      refine R.look (v := (.pointer (some ⟨b9, 0 + Int.toNat v65, none⟩))) rfl rfl rfl (Lk.ixLoc rfl Tryd.underlying49 T3 rfl rfl e72 e73) fun _ => ?_
                      refine R.look (v := (.int .i64 (sel ([v64_0, v64_1, v64_2, v64_3] : List Int) v65))) rfl rfl rfl (Lk.load1 rfl Tryd.underlying3 rfl rfl (H.rd_loc ok (i := 0) rfl (sel_at (fun x => Value.int .i64 x) ([v64_0, v64_1, v64_2, v64_3] : List Int) [] [(.int .i64 v64_4), (.int .i64 v64_5), (.int .i64 v64_6), (.int .i64 v64_7)] rfl (by have h1 := e72; have h2 := e73; simp only [List.length_cons, List.length_nil]; omega)))) fun _ => ?_
                      refine R.look rfl rfl rfl (Lk.arith rfl rfl rfl rfl) fun _ => ?_
                      refine R.look rfl rfl rfl (Lk.move rfl rfl) fun _ => ?_
                      by_cases e74 : (decide ((sel ([v64_0, v64_1, v64_2, v64_3] : List Int) v65) ≥ 0)) = true
                      · rw [if_pos e74] at hS
                        refine R.lookT rfl rfl rfl rfl e74 rfl (Lk.move rfl rfl) fun _ => ?_
                        refine R.lookT (v := (.pointer (some ⟨b9, 4, none⟩))) rfl rfl rfl rfl e74 rfl (Lk.fldAddr rfl Tryd.underlying51 rfl rfl T49 rfl rfl rfl) fun _ => ?_
                        obtain ⟨e75, e76, hS⟩ := hS
                        refine R.lookT (v := (.pointer (some ⟨b9, 4 + Int.toNat v65, none⟩))) rfl rfl rfl rfl e74 rfl (Lk.ixLoc rfl Tryd.underlying49 T3 rfl rfl e75 e76) fun _ => ?_
                        refine R.lookT (v := (.int .i64 (sel ([v64_4, v64_5, v64_6, v64_7] : List Int) v65))) rfl rfl rfl rfl e74 rfl (Lk.load1 rfl Tryd.underlying3 rfl rfl (H.rd_loc ok (i := 0) rfl (sel_at (fun x => Value.int .i64 x) ([v64_4, v64_5, v64_6, v64_7] : List Int) [(.int .i64 v64_0), (.int .i64 v64_1), (.int .i64 v64_2), (.int .i64 v64_3)] [] rfl (by have h1 := e75; have h2 := e76; simp only [List.length_cons, List.length_nil]; omega)))) fun _ => ?_
                        refine R.lookT rfl rfl rfl rfl e74 rfl (Lk.arith rfl rfl rfl rfl) fun _ => ?_
                        refine R.look rfl rfl rfl (Lk.pick rfl rfl (fun _ => rfl) (fun e => by rw [e74] at e; cases e)) fun _ => ?_
                        refine R.nil ?_
                        exact hIh_28 (decide ((sel ([v64_4, v64_5, v64_6, v64_7] : List Int) v65) ≥ 0)) _ _ _ (Env.le_put rfl (Env.le_put rfl (Env.le_put rfl (Env.le_put rfl (Env.le_put rfl (Env.le_put rfl (Env.le_put rfl (Env.le_put rfl (Env.le_put rfl (Env.le_put rfl (Env.le_put rfl (Env.le_emp _)))))))))))) (ok.sub (.cons_cons _ (.cons_cons _ List.Sublist.slnil))) (H.add_sub ok (.cons_cons _ (.cons_cons _ List.Sublist.slnil))) hS
                      · rw [if_neg e74] at hS
                        replace e74 := eq_false_of_ne_true e74
                        refine R.lookF rfl rfl rfl rfl e74 rfl fun _ => ?_
                        refine R.lookF rfl rfl rfl rfl e74 rfl fun _ => ?_
                        refine R.lookF rfl rfl rfl rfl e74 rfl fun _ => ?_
                        refine R.lookF rfl rfl rfl rfl e74 rfl fun _ => ?_
                        refine R.lookF rfl rfl rfl rfl e74 rfl fun _ => ?_
                        refine R.look rfl rfl rfl (Lk.pick rfl rfl (fun e => by rw [e74] at e; cases e) (fun _ => rfl)) fun _ => ?_
                        refine R.nil ?_
                        exact hIh_28 false _ _ _ (Env.le_put rfl (Env.le_put rfl (Env.le_put rfl (Env.le_put rfl (Env.le_put rfl (Env.le_put rfl (Env.le_put rfl (Env.le_put rfl (Env.le_put rfl (Env.le_put rfl (Env.le_put rfl (Env.le_emp _)))))))))))) (ok.sub (.cons_cons _ (.cons_cons _ List.Sublist.slnil))) (H.add_sub ok (.cons_cons _ (.cons_cons _ List.Sublist.slnil))) hS
                · rw [if_neg e64] at hS
                  replace e64 := eq_false_of_ne_true e64
                  refine EvC.condF rfl e64 ?_
                  refine EvC.exit ?_
                  exact hIh_24 v6_3 _ _ _ (Env.le_put rfl (Env.le_put rfl (Env.le_put rfl (Env.le_put rfl (Env.le_put rfl (Env.le_put rfl (Env.le_put rfl (Env.le_emp _)))))))) (ok.sub (.cons _ (.cons_cons _ List.Sublist.slnil))) (H.add_sub ok (.cons _ (.cons_cons _ List.Sublist.slnil))) hS
            · rw [if_neg e59] at hS
              replace e59 := eq_false_of_ne_true e59
              refine EvC.condF rfl e59 ?_
              refine EvC.exit ?_
              exact hIh_8 v6_1 _ _ _ (Env.le_put rfl (Env.le_put rfl (Env.le_put rfl (Env.le_put rfl (Env.le_emp _))))) (ok.sub (.cons_cons _ List.Sublist.slnil)) (H.add_sub ok (.cons_cons _ List.Sublist.slnil)) hS
      · refine EvC.region [Item.look 0, Item.look 1, Item.eff 2 [], Item.look 3, Item.look 4, Item.look 5, Item.look 6, Item.look 7, Item.look 8, Item.look 9, Item.look 10, Item.look 11, Item.look 12, Item.look 13, Item.look 14, Item.look 15, Item.look 16, Item.look 17, Item.look 18, Item.look 19, Item.look 20, Item.look 21] (by kernel_rfl) ?_
        refine R.look (v := (.pointer (some ⟨b4, 0, none⟩))) rfl rfl rfl (Lk.fldAddr rfl Tryd.underlying35 rfl rfl T31 rfl rfl rfl) fun _ => ?_
        obtain ⟨v37, e77, hS⟩ := hS
        refine R.look rfl rfl rfl (Look.loc ok (Lk.load1 rfl Tryd.underlying31 rfl rfl e77)) fun _ => ?_
        refine R.eff rfl rfl rfl (Eff.loc ok (Ef.call rfl CB18 rfl ((f18_ok hS).mono ?_)))
        rintro _ h_29 ⟨v38, rfl, hS⟩
        refine fun ok => ⟨noChk, ?_⟩
        refine R.look rfl rfl rfl (Lk.arith rfl rfl rfl rfl) fun _ => ?_
        refine R.look rfl rfl rfl (Lk.move rfl rfl) fun _ => ?_
        by_cases e78 : (v38 != 0) = true
        · rw [if_pos e78] at hS
          refine R.lookF rfl rfl rfl rfl e78 rfl fun _ => ?_
          refine R.lookF rfl rfl rfl rfl e78 rfl fun _ => ?_
          refine R.lookF rfl rfl rfl rfl e78 rfl fun _ => ?_
          refine R.lookF rfl rfl rfl rfl e78 rfl fun _ => ?_
          refine R.lookF rfl rfl rfl rfl e78 rfl fun _ => ?_
          refine R.lookF rfl rfl rfl rfl e78 rfl fun _ => ?_
          refine R.lookF rfl rfl rfl rfl e78 rfl fun _ => ?_
          refine R.look rfl rfl rfl (Lk.pick rfl rfl (fun _ => rfl) (fun e => by rw [e78] at e; cases e)) fun _ => ?_
          refine R.look rfl rfl rfl (Lk.move rfl rfl) fun _ => ?_
          refine R.lookF rfl rfl rfl rfl rfl rfl fun _ => ?_
          refine R.lookF rfl rfl rfl rfl rfl rfl fun _ => ?_
          refine R.lookF rfl rfl rfl rfl rfl rfl fun _ => ?_
          refine R.lookF rfl rfl rfl rfl rfl rfl fun _ => ?_
          refine R.lookF rfl rfl rfl rfl rfl rfl fun _ => ?_
          refine R.lookF rfl rfl rfl rfl rfl rfl fun _ => ?_
          refine R.lookF rfl rfl rfl rfl rfl rfl fun _ => ?_
          refine R.look rfl rfl rfl (Lk.pick rfl rfl (fun _ => rfl) (fun e => by cases e)) fun _ => ?_
          refine R.nil ?_
          exact hIh_7 true _ _ _ (Env.le_put rfl (Env.le_put rfl (Env.le_put rfl (Env.le_emp _)))) (ok.sub (.cons_cons _ List.Sublist.slnil)) (H.add_sub ok (.cons_cons _ List.Sublist.slnil)) hS
        · rw [if_neg e78] at hS
          replace e78 := eq_false_of_ne_true e78
          refine R.lookT (v := (.pointer (some ⟨b4, 1, none⟩))) rfl rfl rfl rfl e78 rfl (Lk.fldAddr rfl Tryd.underlying35 rfl rfl T32 rfl rfl rfl) fun _ => ?_
          obtain ⟨v42, e79, hS⟩ := hS
          refine R.lookT rfl rfl rfl rfl e78 rfl (Look.loc ok (Lk.load1 rfl Tryd.underlying32 rfl rfl e79)) fun _ => ?_
          refine R.lookT rfl rfl rfl rfl e78 rfl (Lk.len rfl Tryd.underlying32 rfl) fun _ => ?_
          refine R.lookT (v := (.pointer (some ⟨b3, 0, none⟩))) rfl rfl rfl rfl e78 rfl (Lk.fldAddr rfl Tryd.underlying29 rfl rfl T22 rfl rfl rfl) fun _ => ?_
          refine R.lookT rfl rfl rfl rfl e78 rfl (Lk.load1 (v := (.slice v23_0.a v23_0.l v23_0.c)) rfl Tryd.underlying22 rfl rfl (H.rd_loc ok (i := 0) rfl rfl)) fun _ => ?_
          refine R.lookT rfl rfl rfl rfl e78 rfl (Lk.len rfl Tryd.underlying22 rfl) fun _ => ?_
          refine R.lookT rfl rfl rfl rfl e78 rfl (Lk.arith rfl rfl rfl rfl) fun _ => ?_
          refine R.look rfl rfl rfl (Lk.pick rfl rfl (fun e => by rw [e78] at e; cases e) (fun _ => rfl)) fun _ => ?_
          refine R.look rfl rfl rfl (Lk.move rfl rfl) fun _ => ?_
          by_cases e80 : ((v42.l : Int) != (v23_0.l : Int)) = true
          · rw [if_pos e80] at hS
            refine R.lookF rfl rfl rfl rfl e80 rfl fun _ => ?_
            refine R.lookF rfl rfl rfl rfl e80 rfl fun _ => ?_
            refine R.lookF rfl rfl rfl rfl e80 rfl fun _ => ?_
            refine R.lookF rfl rfl rfl rfl e80 rfl fun _ => ?_
            refine R.lookF rfl rfl rfl rfl e80 rfl fun _ => ?_
            refine R.lookF rfl rfl rfl rfl e80 rfl fun _ => ?_
            refine R.lookF rfl rfl rfl rfl e80 rfl fun _ => ?_
            refine R.look rfl rfl rfl (Lk.pick rfl rfl (fun _ => rfl) (fun e => by rw [e80] at e; cases e)) fun _ => ?_
            refine R.nil ?_
            exact hIh_7 true _ _ _ (Env.le_put rfl (Env.le_put rfl (Env.le_put rfl (Env.le_emp _)))) (ok.sub (.cons_cons _ List.Sublist.slnil)) (H.add_sub ok (.cons_cons _ List.Sublist.slnil)) hS
          · rw [if_neg e80] at hS
            replace e80 := eq_false_of_ne_true e80
            refine R.lookT (v := (.pointer (some ⟨b4, 2, none⟩))) rfl rfl rfl rfl e80 rfl (Lk.fldAddr rfl Tryd.underlying35 rfl rfl T33 rfl rfl rfl) fun _ => ?_
            obtain ⟨v51, e81, hS⟩ := hS
            refine R.lookT rfl rfl rfl rfl e80 rfl (Look.loc ok (Lk.load1 rfl Tryd.underlying33 rfl rfl e81)) fun _ => ?_
            refine R.lookT rfl rfl rfl rfl e80 rfl (Lk.len rfl Tryd.underlying33 rfl) fun _ => ?_
            refine R.lookT (v := (.pointer (some ⟨b3, 1, none⟩))) rfl rfl rfl rfl e80 rfl (Lk.fldAddr rfl Tryd.underlying29 rfl rfl T27 rfl rfl rfl) fun _ => ?_
            refine R.lookT rfl rfl rfl rfl e80 rfl (Lk.load1 (v := (.slice v23_1.a v23_1.l v23_1.c)) rfl Tryd.underlying27 rfl rfl (H.rd_loc ok (i := 0) rfl rfl)) fun _ => ?_
            refine R.lookT rfl rfl rfl rfl e80 rfl (Lk.len rfl Tryd.underlying27 rfl) fun _ => ?_
            refine R.lookT rfl rfl rfl rfl e80 rfl (Lk.arith rfl rfl rfl rfl) fun _ => ?_
            refine R.look rfl rfl rfl (Lk.pick rfl rfl (fun e => by rw [e80] at e; cases e) (fun _ => rfl)) fun _ => ?_
            refine R.nil ?_
            exact hIh_7 ((v51.l : Int) != (v23_1.l : Int)) _ _ _ (Env.le_put rfl (Env.le_put rfl (Env.le_put rfl (Env.le_emp _)))) (ok.sub (.cons_cons _ List.Sublist.slnil)) (H.add_sub ok (.cons_cons _ List.Sublist.slnil)) hS
  · refine EvC.region [Item.eff 0 [], Item.look 1, Item.look 2, Item.look 3, Item.look 4, Item.look 5] (by kernel_rfl) ?_
    refine R.eff rfl rfl rfl (Eff.loc ok (Ef.call rfl CB14 rfl ((f14_ok hS).mono ?_)))
    rintro _ h_30 ⟨v29, rfl, hS⟩
    refine fun ok => ⟨noChk, ?_⟩
    refine R.look rfl rfl rfl (Lk.not rfl rfl) fun _ => ?_
    refine R.look rfl rfl rfl (Lk.move rfl rfl) fun _ => ?_
    by_cases e82 : (!v29) = true
    · refine R.lookF rfl rfl rfl rfl e82 rfl fun _ => ?_
      refine R.lookF rfl rfl rfl rfl e82 rfl fun _ => ?_
      refine R.look rfl rfl rfl (Lk.pick rfl rfl (fun _ => rfl) (fun e => by rw [e82] at e; cases e)) fun _ => ?_
      refine R.nil ?_
      exact hIh_5 ((!v29) || (v26_1 != 0)) _ _ _ (Env.le_put rfl (Env.le_put rfl (Env.le_put (by rw [e82]; rfl) (Env.le_emp _)))) (ok.sub (.cons_cons _ (.cons _ List.Sublist.slnil))) (H.add_sub ok (.cons_cons _ (.cons _ List.Sublist.slnil))) hS
    · replace e82 := eq_false_of_ne_true e82
      refine R.lookT rfl rfl rfl rfl e82 rfl (Lk.move rfl rfl) fun _ => ?_
      refine R.lookT rfl rfl rfl rfl e82 rfl (Lk.arith rfl rfl rfl rfl) fun _ => ?_
      refine R.look rfl rfl rfl (Lk.pick rfl rfl (fun e => by rw [e82] at e; cases e) (fun _ => rfl)) fun _ => ?_
      refine R.nil ?_
      exact hIh_5 ((!v29) || (v26_1 != 0)) _ _ _ (Env.le_put rfl (Env.le_put rfl (Env.le_put (by rw [e82]; rfl) (Env.le_emp _)))) (ok.sub (.cons_cons _ (.cons _ List.Sublist.slnil))) (H.add_sub ok (.cons_cons _ (.cons _ List.Sublist.slnil))) hS
end Go.Proofs.YtimadnngfhbfiaaDoor
end

section
/-
  NormCells: the statement and its card.
-/
namespace Go.Proofs.YtimadnngfhbfiaaDoor
open Go Go.Mu Go.Shape
open Go.ChangeShapes Go.WideShapes Go.ChangeAt Go.RowKit Go.Joins Go.Deep

theorem ownKnob_none : ownKnob Tryd.prog.godebug = none := by kernel_rfl
theorem laidOut_prog : laidOutB Tryd.prog = true := by kernel_rfl
set_option maxRecDepth 100000 in
theorem raw_in {H' : Type} {enc : TypeId × Value → H'} {W : World} {base : Nat} {v : Value} {d : DataW H'} {p : List MemPlace} (hv : Value.okWide Tryd.prog W .any base 26 v) (h : DataW.Trod enc Tryd.prog W 0 (fun _ => true) true 26 v d p) :
    ∃ z0 z1 z2 : Sl, v = .agg ([(.slice z0.a z0.l z0.c), (.slice z1.a z1.l z1.c), (.slice z2.a z2.l z2.c)] : List Value).toArray ∧ RawIn (H.of W) z0 z1 z2 := by
  obtain ⟨v0, v1, v2, y0, y1, y2, n, rfl, _, _, t0, t1, t2⟩ := open_agg3 Tryd.underlying26 (by kernel_rfl) (by kernel_rfl) hv h
  obtain ⟨s0, rfl, l0, r0⟩ := rd_bools Tryd.underlying22 Tryd.underlying4 (by kernel_rfl) t0
  obtain ⟨s1, rfl, l1, r1, u1⟩ := rd_threes Tryd.underlying23 Tryd.underlying100 Tryd.underlying5 (by kernel_rfl) (by kernel_rfl) t1
  obtain ⟨s2, rfl, l2, r2, u2⟩ := rd_bytes Tryd.underlying24 Tryd.underlying5 (by kernel_rfl) t2
  exact ⟨s0, s1, s2, rfl, ⟨l0, l1, l2, r0, r1, r2, u1, u2⟩⟩

set_option maxRecDepth 100000 in
theorem normCells_lifted (os : Os) (started : os.Started) (H' : Type) (enc : TypeId × Value → H') :
    ReturnsInHanded {} Tryd.checked os 4 .any (fun w args => (Rows.normCellsSpec.pre enc Tryd.prog Tryd.f4 [] false w args ∧ laidMetH Tryd.prog Rows.normCellsRow.laid w) ∧ sizedMet enc Tryd.prog Tryd.f4 (OpenSpec.ofChange Rows.normCellsSpec) false w args)
      (Rows.normCellsSpec.post enc Tryd.prog Tryd.f4 false true false false) := by
  refine returnsInHanded_of_change_and (C := Tryd.checked) (X := fun w _ => laidMetH Tryd.prog Rows.normCellsRow.laid w) (fun _ _ _ hh h => h.of_heap hh) ownKnob_none started (by kernel_rfl) Tryd.func4
    (ChangeSpec.witness_shaped (enc := enc) (C := Tryd.checked) (os := os) (X := fun w _ => laidMetH Tryd.prog Rows.normCellsRow.laid w) false (World.laidAll Tryd.prog os Rows.normCellsRow.laid) #[.agg #[.slice none 0 0, .slice none 0 0, .slice none 0 0]] 8 (World.laidAll_os _ _ _)
      (World.shaped_of_ZipB (by kernel_rfl) (by kernel_rfl)) (by kernel_rfl) (by kernel_rfl) (by kernel_rfl)
      (by rw [MakeChecks.laidMetH_plain _ _ _ (by kernel_rfl)]; exact laidMet_laidAll _ (by kernel_rfl) (by kernel_rfl))) ?_
  intro W base args ds gs before hval0 hW _ _ hL _
  have hval : ∀ (j : Nat) t v, Tryd.f4.params[j]? = some t → args[j]? = some v → Value.okWide Tryd.prog W .any base t v := hval0
  have hW' := hW
  obtain ⟨p, q, hA0, hV, rfl, _, _⟩ := hW
  have hA : DataW.TrodAll enc Tryd.prog W 0 (fun _ => true) true Tryd.f4.params.toList args.toList ds p := hA0
  rw [Tryd.params4] at hA hval
  obtain ⟨v0, d0, rfl, rfl, h0⟩ := trodAll_one hA
  obtain ⟨rfl, rfl⟩ := trodVars_none hV
  have h0k := h0
  clear hA0 hval0
  simp only [List.append_nil] at hW'
  have hlt : ∀ x ∈ p, x.block < W.heap.size := fun x hx => by simpa using hW'.lt x hx
  obtain ⟨z0, z1, z2, rfl, raw⟩ := raw_in (hval 0 26 v0 rfl rfl) h0
  refine (ACall.world (f4_ok (K := fun r _ => r = true) (c4 raw fun _ => rfl))).mono fun e W' ⟨r, h', he, hb, b, hr, hk⟩ => ?_
  subst hk
  have hr' : r = .bool true := hr
  subst hr' he
  exact ⟨_, rfl, ⟨_, _, _, [], _, [], hW', trodAll_mk1 (shut_bool Tryd.underlying4 _), trodAll_mk1 (Below.trod laidOut_prog (by kernel_rfl) (of_decide_eq_true (by kernel_rfl)) h0k hb hlt), rfl, hb.frame _, fun h => by cases h⟩⟩

theorem normCells_said : Rows.NormCellsSaid :=
  OpenClaim.holds_of_wide 4 Tryd.f4 rfl rfl rfl rfl rfl rfl rfl ⟨rfl, rfl, rfl, rfl, rfl⟩ rfl rfl rfl rfl rfl (by kernel_rfl) Tryd.func4 (by kernel_rfl)
    (of_decide_eq_true (by kernel_rfl)) (by unfold Func.isWrapper; first | (rw [if_pos (by decide +kernel)]; kernel_rfl) | (rw [if_neg (by decide +kernel)]; exact ⟨rfl, rfl⟩))
    (fun os started H enc _ => normCells_lifted os started H enc)

theorem normCells_holds : Rows.NormCellsCardSaid :=
  Claim7.holds_tied_plain_at .later [] [.data, .pinned] true (true, "d6f36886d12485c9cea0d9571512dfa97f8ee8e7a58d0d4df16bc376e7d03632") false
    normCells_said (fun _ h => by cases h) (by kernel_rfl) (fun _ h => by cases h) normCells_row_tie rfl ⟨rfl, rfl⟩ (by kernel_rfl) rfl
    (fun f fn hf hfn => by
      obtain rfl : f = 4 := Option.some.inj ((show Tryd.prog.funcNamed "muntin/muntinlaw11.NormCells" = some 4 by kernel_rfl).symm.trans hf) |>.symm
      obtain rfl : fn = Tryd.f4 := (Option.some.inj (Tryd.func4.symm.trans hfn)).symm
      exact ⟨by kernel_rfl, fun j t ht => by
        rw [Tryd.params4] at ht
        have h3 : t = 26 := by
          rcases j with _ | j
          · simpa using ht.symm
          · simp at ht
        subst h3
        exact (show Tryd.prog.wantsStandIn 26 = false by kernel_rfl)⟩)
    (by kernel_rfl)
end Go.Proofs.YtimadnngfhbfiaaDoor
end
