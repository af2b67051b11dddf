/-
  PROVED HERE: 'muntinlaw09.TextApart' answers true whatever the two raw shapes, and what was handed in reads as it did. Conditions: the package variables that the row lists hold what the program's text lays.
  Part 4 of 4.
-/
import Derived.Test.YtimadnngfhbfiaaDoorTaC
import Derived.Test.YtimadnngfhbfiaaDoorTie
import Derived.Test.YtimadnngfhbfiaaDoorCards
import Derived.Test.YtimadnngfhbfiaaDoorChecked
import Derived.OpenShut
import Derived.LaidMore
import Derived.Lay
import Derived.SevenTiedAt
import Derived.Stop.Joined

section
/- PRINTED by wip/gen.py: the machine's call of muntin/parse.Check does what S39 says. -/
namespace Go.Proofs.YtimadnngfhbfiaaDoor
open Go Go.Mu
set_option maxHeartbeats 4000000
set_option maxRecDepth 100000
theorem f39_ok {p0_0 : Sl} {p0_1 : Sl} {h : H} {K : Int → H → Prop} (hS : S39 p0_0 p0_1 h K) : ACall Tryd.prog 39 ([(.agg ([(.slice p0_0.a p0_0.l p0_0.c), (.slice p0_1.a p0_1.l p0_1.c)] : List Value).toArray)] : List Value).toArray h (fun r h' => ∃ r0 : Int, r = tup [(.int .i64 r0)] ∧ K r0 h') := by
  refine ACall.enter (fn := Tryd.f39) Tryd.func39 rfl (Nat.le_of_ble_eq_true rfl) ?_
  unfold S39 at hS
  have ok := Lok.nil h
  change EvC _ _ _ _ (H.add h []) _
  refine EvC.seq ?_
  refine EvC.region [Item.alc 0, Item.look 1] (by kernel_rfl) ?_
  refine R.var (blk := .row ⟨[(.slice p0_0.a p0_0.l p0_0.c), (.slice p0_1.a p0_1.l p0_1.c)], 2, 29, true, true⟩) ok rfl rfl rfl (Ac.box rfl rfl) rfl rfl fun b1 ok => ?_
  refine R.look rfl rfl rfl (Lk.assign rfl rfl) fun _ => ?_
  refine R.nil ?_
  refine EvC.seq ?_
  refine EvC.region [Item.look 0] (by kernel_rfl) ?_
  refine R.look rfl rfl rfl (Lk.assign rfl rfl) fun _ => ?_
  refine R.nil ?_
  refine EvC.join (σ := Int) (fun s => (Env.put (Env.put Env.emp 3 (.int .i64 s)) 1 (.pointer (some ⟨b1, 0, none⟩)))) (fun s => [(b1, .row ⟨[(.slice p0_0.a p0_0.l p0_0.c), (.slice p0_1.a p0_1.l p0_1.c)], 2, 29, true, true⟩)]) (fun s h_1 => S39_j5 p0_0 p0_1 K s h_1) ?_ (fun Ih_1 hIh_1 => ?_)
  · intro v3 h_1 ok hS
    replace hS : S39_j5 p0_0 p0_1 K v3 h_1 := hS
    change EvC _ _ _ (Env.put (Env.put Env.emp 3 (.int .i64 v3)) 1 (.pointer (some ⟨b1, 0, none⟩))) (H.add h_1 [(b1, .row ⟨[(.slice p0_0.a p0_0.l p0_0.c), (.slice p0_1.a p0_1.l p0_1.c)], 2, 29, true, true⟩)]) _
    unfold S39_j5 at hS
    refine EvC.seq ?_
    refine EvC.seq ?_
    refine EvC.region [Item.look 0, Item.look 1, Item.look 2, Item.look 3, Item.look 4, Item.look 5, Item.look 6, Item.look 7, Item.look 8] (by kernel_rfl) ?_
    refine R.look (v := (.pointer (some ⟨b1, 0, none⟩))) rfl rfl rfl (Lk.fldAddr rfl Tryd.underlying29 rfl rfl T22 rfl rfl rfl) fun _ => ?_
    refine R.look rfl rfl rfl (Lk.load1 (v := (.slice p0_0.a p0_0.l p0_0.c)) rfl Tryd.underlying22 rfl rfl (H.rd_loc ok (i := 0) rfl rfl)) fun _ => ?_
    refine R.look rfl rfl rfl (Lk.len rfl Tryd.underlying22 rfl) fun _ => ?_
    refine R.look (v := (.pointer (some ⟨b1, 1, none⟩))) rfl rfl rfl (Lk.fldAddr rfl Tryd.underlying29 rfl rfl T27 rfl rfl rfl) fun _ => ?_
    refine R.look rfl rfl rfl (Lk.load1 (v := (.slice p0_1.a p0_1.l p0_1.c)) rfl Tryd.underlying27 rfl rfl (H.rd_loc ok (i := 0) rfl rfl)) fun _ => ?_
    refine R.look rfl rfl rfl (Lk.len rfl Tryd.underlying27 rfl) fun _ => ?_
    refine R.look rfl rfl rfl (Lk.move rfl rfl) fun _ => ?_
    refine R.look rfl rfl rfl (Lk.max3 rfl rfl rfl rfl) fun _ => ?_
    refine R.look rfl rfl rfl (Lk.arith rfl rfl rfl rfl) fun _ => ?_
    refine R.nil ?_
    by_cases e1 : (decide ((if v3 > (if (p0_1.l : Int) > (p0_0.l : Int) then (p0_1.l : Int) else (p0_0.l : Int)) then v3 else (if (p0_1.l : Int) > (p0_0.l : Int) then (p0_1.l : Int) else (p0_0.l : Int))) > 4096)) = true
    · rw [if_pos e1] at hS
      refine EvC.condT rfl e1 ?_
      refine EvC.seq ?_
      refine EvC.region [Item.look 0] (by kernel_rfl) ?_
      refine R.look rfl rfl rfl (Lk.assign rfl rfl) fun _ => ?_
      refine R.nil ?_
      refine EvC.ret ?_
      exact ⟨.inr rfl, _, _, (.cons (.tmp rfl) .nil), ok.le, _, rfl, hS⟩
    · rw [if_neg e1] at hS
      replace e1 := eq_false_of_ne_true e1
      refine EvC.condF rfl e1 ?_
      refine EvC.skip ?_
      refine EvC.join (σ := Unit) (fun s => Env.emp) (fun s => []) (fun s h_2 => S39_j1 K h_2) ?_ (fun Ih_2 hIh_2 => ?_)
      · rintro ⟨⟩ h_2 ok hS
        replace hS : S39_j1 K h_2 := hS
        change EvC _ _ _ Env.emp (H.add h_2 []) _
        unfold S39_j1 at hS
        refine EvC.seq ?_
        refine EvC.region [Item.look 0] (by kernel_rfl) ?_
        refine R.look rfl rfl rfl (Lk.assign rfl rfl) fun _ => ?_
        refine R.nil ?_
        refine EvC.ret ?_
        exact ⟨.inr rfl, _, _, (.cons (.tmp rfl) .nil), ok.le, _, rfl, hS⟩
      · refine EvC.seq ?_
        refine EvC.region [Item.look 0, Item.look 1, Item.look 2, Item.look 3] (by kernel_rfl) ?_
        refine R.look (v := (.pointer (some ⟨b1, 1, none⟩))) rfl rfl rfl (Lk.fldAddr rfl Tryd.underlying29 rfl rfl T27 rfl rfl rfl) fun _ => ?_
        refine R.look rfl rfl rfl (Lk.load1 (v := (.slice p0_1.a p0_1.l p0_1.c)) rfl Tryd.underlying27 rfl rfl (H.rd_loc ok (i := 0) rfl rfl)) fun _ => ?_
        refine R.look rfl rfl rfl (Lk.len rfl Tryd.underlying27 rfl) fun _ => ?_
        refine R.look rfl rfl rfl (Lk.move rfl rfl) fun _ => ?_
        refine R.nil ?_
        refine EvC.block ?_
        refine EvC.loop ?_
        refine LoopC.lfp (σ := Int) (fun s => (Env.put (Env.put (Env.put (Env.put Env.emp 34 (.int .i64 s)) 33 (.int .i64 (p0_1.l : Int))) 32 (.slice p0_1.a p0_1.l p0_1.c)) 1 (.pointer (some ⟨b1, 0, none⟩)))) (fun s => [(b1, .row ⟨[(.slice p0_0.a p0_0.l p0_0.c), (.slice p0_1.a p0_1.l p0_1.c)], 2, 29, true, true⟩)]) (fun X hX => ?_) hS (ok.sub (.cons_cons _ List.Sublist.slnil)) (Env.le_put rfl (Env.le_put rfl (Env.le_put rfl (Env.le_put rfl (Env.le_emp _))))) (H.add_sub ok (.cons_cons _ List.Sublist.slnil))
        intro v34 h_3 hS ok
        replace hS : S39_l4 p0_0 p0_1 K X v34 h_3 := hS
        change EvC _ _ _ (Env.put (Env.put (Env.put (Env.put Env.emp 34 (.int .i64 v34)) 33 (.int .i64 (p0_1.l : Int))) 32 (.slice p0_1.a p0_1.l p0_1.c)) 1 (.pointer (some ⟨b1, 0, none⟩))) (H.add h_3 [(b1, .row ⟨[(.slice p0_0.a p0_0.l p0_0.c), (.slice p0_1.a p0_1.l p0_1.c)], 2, 29, true, true⟩)]) _
        unfold S39_l4 at hS
        refine EvC.seq ?_
        refine EvC.region [Item.look 0] (by kernel_rfl) ?_
        refine R.look rfl rfl rfl (Lk.arith rfl rfl rfl rfl) fun _ => ?_
        refine R.nil ?_
        refine EvC.seq ?_
        by_cases e2 : (decide (v34 < (p0_1.l : Int))) = true
        · rw [if_pos e2] at hS
          refine EvC.condT rfl e2 ?_
          refine EvC.skip ?_
          refine EvC.seq ?_
          refine EvC.block ?_
          refine EvC.seq ?_
          refine EvC.region [Item.look 0, Item.look 1, Item.alc 2, Item.eff 3 []] (by kernel_rfl) ?_
          obtain ⟨a36, e3, e4, e5, hS⟩ := hS
          refine R.look rfl rfl rfl (Lk.ixAddr rfl Tryd.underlying27 T54 rfl e3 rfl e4 e5) fun _ => ?_
          obtain ⟨v37_0, v37_1, v37_2, v37_3, e6, hS⟩ := hS
          refine R.look rfl rfl rfl (Look.loc ok (Lk.loadN rfl Tryd.underlying54 rfl T54 rfl e6)) fun _ => ?_
          refine R.var (blk := .row ⟨[(.int .i64 0), (.int .i64 0), (.int .i64 0), (.string ⟨#[]⟩)], 4, 54, true, true⟩) ok rfl rfl rfl (Ac.alloc rfl T54) rfl rfl fun b7 ok => ?_
          refine R.effN rfl rfl rfl (Ef.storeLoc (i := 0) (vs := [(.int .i64 v37_0), (.int .i64 v37_1), (.int .i64 v37_2), (.string v37_3)]) (cs := [(.int .i64 v37_0), (.int .i64 v37_1), (.int .i64 v37_2), (.string v37_3)]) (l' := [(b7, .row ⟨[(.int .i64 v37_0), (.int .i64 v37_1), (.int .i64 v37_2), (.string v37_3)], 4, 54, true, true⟩), (b1, .row ⟨[(.slice p0_0.a p0_0.l p0_0.c), (.slice p0_1.a p0_1.l p0_1.c)], 2, 29, true, true⟩)]) ok rfl T54 rfl rfl rfl rfl rfl rfl rfl rfl rfl rfl fun ok => ⟨noChk, ?_⟩)
          refine R.nil ?_
          refine EvC.seq ?_
          refine EvC.join (σ := Bool) (fun s => (Env.put (Env.put (Env.put (Env.put (Env.put (Env.put Env.emp 54 (.bool s)) 34 (.int .i64 v34)) 33 (.int .i64 (p0_1.l : Int))) 32 (.slice p0_1.a p0_1.l p0_1.c)) 7 (.pointer (some ⟨b7, 0, none⟩))) 1 (.pointer (some ⟨b1, 0, none⟩)))) (fun s => [(b7, .row ⟨[(.int .i64 v37_0), (.int .i64 v37_1), (.int .i64 v37_2), (.string v37_3)], 4, 54, true, true⟩), (b1, .row ⟨[(.slice p0_0.a p0_0.l p0_0.c), (.slice p0_1.a p0_1.l p0_1.c)], 2, 29, true, true⟩)]) (fun s h_4 => S39_j3 K v34 X v37_2 v37_3 s h_4) ?_ (fun Ih_4 hIh_4 => ?_)
          · intro v54 h_4 ok hS
            replace hS : S39_j3 K v34 X v37_2 v37_3 v54 h_4 := hS
            change EvC _ _ _ (Env.put (Env.put (Env.put (Env.put (Env.put (Env.put Env.emp 54 (.bool v54)) 34 (.int .i64 v34)) 33 (.int .i64 (p0_1.l : Int))) 32 (.slice p0_1.a p0_1.l p0_1.c)) 7 (.pointer (some ⟨b7, 0, none⟩))) 1 (.pointer (some ⟨b1, 0, none⟩))) (H.add h_4 [(b7, .row ⟨[(.int .i64 v37_0), (.int .i64 v37_1), (.int .i64 v37_2), (.string v37_3)], 4, 54, true, true⟩), (b1, .row ⟨[(.slice p0_0.a p0_0.l p0_0.c), (.slice p0_1.a p0_1.l p0_1.c)], 2, 29, true, true⟩)]) _
            unfold S39_j3 at hS
            by_cases e7 : v54 = true
            · rw [if_pos e7] at hS
              refine EvC.condT rfl e7 ?_
              refine EvC.seq ?_
              refine EvC.region [Item.look 0] (by kernel_rfl) ?_
              refine R.look rfl rfl rfl (Lk.assign rfl rfl) fun _ => ?_
              refine R.nil ?_
              refine EvC.ret ?_
              exact ⟨.inr rfl, _, _, (.cons (.tmp rfl) .nil), ok.le, _, rfl, hS⟩
            · rw [if_neg e7] at hS
              replace e7 := eq_false_of_ne_true e7
              refine EvC.condF rfl e7 ?_
              refine EvC.skip ?_
              refine EvC.join (σ := Bool) (fun s => (Env.put (Env.put (Env.put (Env.put (Env.put Env.emp 64 (.bool s)) 34 (.int .i64 v34)) 33 (.int .i64 (p0_1.l : Int))) 32 (.slice p0_1.a p0_1.l p0_1.c)) 1 (.pointer (some ⟨b1, 0, none⟩)))) (fun s => [(b1, .row ⟨[(.slice p0_0.a p0_0.l p0_0.c), (.slice p0_1.a p0_1.l p0_1.c)], 2, 29, true, true⟩)]) (fun s h_5 => S39_j2 K v34 X s h_5) ?_ (fun Ih_5 hIh_5 => ?_)
              · intro v64 h_5 ok hS
                replace hS : S39_j2 K v34 X v64 h_5 := hS
                change EvC _ _ _ (Env.put (Env.put (Env.put (Env.put (Env.put Env.emp 64 (.bool v64)) 34 (.int .i64 v34)) 33 (.int .i64 (p0_1.l : Int))) 32 (.slice p0_1.a p0_1.l p0_1.c)) 1 (.pointer (some ⟨b1, 0, none⟩))) (H.add h_5 [(b1, .row ⟨[(.slice p0_0.a p0_0.l p0_0.c), (.slice p0_1.a p0_1.l p0_1.c)], 2, 29, true, true⟩)]) _
                unfold S39_j2 at hS
                by_cases e8 : v64 = true
                · rw [if_pos e8] at hS
                  refine EvC.condT rfl e8 ?_
                  refine EvC.seq ?_
                  refine EvC.region [Item.look 0] (by kernel_rfl) ?_
                  refine R.look rfl rfl rfl (Lk.assign rfl rfl) fun _ => ?_
                  refine R.nil ?_
                  refine EvC.ret ?_
                  exact ⟨.inr rfl, _, _, (.cons (.tmp rfl) .nil), ok.le, _, rfl, hS⟩
                · rw [if_neg e8] at hS
                  replace e8 := eq_false_of_ne_true e8
                  refine EvC.condF rfl e8 ?_
                  refine EvC.skip ?_
                  refine EvC.region [Item.look 0, Item.look 1] (by kernel_rfl) ?_
                  refine R.look rfl rfl rfl (Lk.arith rfl rfl rfl rfl) fun _ => ?_
                  refine R.look rfl rfl rfl (Lk.move rfl rfl) fun _ => ?_
                  refine R.nil ?_
                  exact hX (IntKind.wrap .i64 (v34 + 1)) _ _ _ hS (ok.sub (.cons_cons _ List.Sublist.slnil)) (Env.le_put rfl (Env.le_put rfl (Env.le_put rfl (Env.le_put rfl (Env.le_emp _))))) (H.add_sub ok (.cons_cons _ List.Sublist.slnil))
              · refine EvC.region [Item.look 0, Item.look 1, Item.eff 2 [], Item.look 3, Item.look 4, Item.look 5, Item.look 6, Item.eff 7 [], Item.look 8, Item.look 9] (by kernel_rfl) ?_
                refine R.look (v := (.pointer (some ⟨b7, 2, none⟩))) rfl rfl rfl (Lk.fldAddr rfl Tryd.underlying54 rfl rfl T3 rfl rfl rfl) fun _ => ?_
                refine R.look rfl rfl rfl (Lk.load1 (v := (.int .i64 v37_2)) rfl Tryd.underlying3 rfl rfl (H.rd_loc ok (i := 0) rfl rfl)) fun _ => ?_
                refine R.eff rfl rfl rfl (Eff.loc ok (Ef.call rfl CB54 rfl ((f54_ok hS).mono ?_)))
                rintro _ h_6 ⟨v57, rfl, hS⟩
                refine fun ok => ⟨noChk, ?_⟩
                refine R.look rfl rfl rfl (Lk.not rfl rfl) fun _ => ?_
                refine R.look rfl rfl rfl (Lk.move rfl rfl) fun _ => ?_
                by_cases e9 : (!v57) = true
                · rw [if_pos e9] at hS
                  refine R.lookF rfl rfl rfl rfl e9 rfl fun _ => ?_
                  refine R.lookF rfl rfl rfl rfl e9 rfl fun _ => ?_
                  refine R.effF rfl rfl rfl rfl e9 rfl ?_
                  refine R.lookF rfl rfl rfl rfl e9 rfl fun _ => ?_
                  refine R.look rfl rfl rfl (Lk.pick rfl rfl (fun _ => rfl) (fun e => by rw [e9] at e; cases e)) fun _ => ?_
                  refine R.nil ?_
                  exact hIh_5 true _ _ _ (Env.le_put rfl (Env.le_put rfl (Env.le_put rfl (Env.le_put rfl (Env.le_put rfl (Env.le_emp _)))))) (ok.sub (.cons _ (.cons_cons _ List.Sublist.slnil))) (H.add_sub ok (.cons _ (.cons_cons _ List.Sublist.slnil))) hS
                · rw [if_neg e9] at hS
                  replace e9 := eq_false_of_ne_true e9
                  refine R.lookT (v := (.pointer (some ⟨b7, 3, none⟩))) rfl rfl rfl rfl e9 rfl (Lk.fldAddr rfl Tryd.underlying54 rfl rfl T9 rfl rfl rfl) fun _ => ?_
                  refine R.lookT rfl rfl rfl rfl e9 rfl (Lk.load1 (v := (.string v37_3)) rfl Tryd.underlying9 rfl rfl (H.rd_loc ok (i := 0) rfl rfl)) fun _ => ?_
                  refine R.effT rfl rfl rfl rfl e9 rfl (Eff.loc ok (Ef.call rfl CB70 rfl ((f70_ok hS).mono ?_)))
                  rintro _ h_7 ⟨v62, rfl, hS⟩
                  refine fun ok => ⟨noChk, ?_⟩
                  refine R.lookT rfl rfl rfl rfl e9 rfl (Lk.not rfl rfl) fun _ => ?_
                  refine R.look rfl rfl rfl (Lk.pick rfl rfl (fun e => by rw [e9] at e; cases e) (fun _ => rfl)) fun _ => ?_
                  refine R.nil ?_
                  exact hIh_5 (!v62) _ _ _ (Env.le_put rfl (Env.le_put rfl (Env.le_put rfl (Env.le_put rfl (Env.le_put rfl (Env.le_emp _)))))) (ok.sub (.cons _ (.cons_cons _ List.Sublist.slnil))) (H.add_sub ok (.cons _ (.cons_cons _ List.Sublist.slnil))) hS
          · refine EvC.region [Item.look 0, Item.look 1, Item.look 2, Item.look 3, Item.look 4, Item.look 5, Item.look 6, Item.look 7, Item.look 8, Item.look 9, Item.look 10, Item.look 11, Item.look 12, Item.look 13, Item.look 14, Item.look 15, Item.look 16] (by kernel_rfl) ?_
            refine R.look (v := (.pointer (some ⟨b7, 0, none⟩))) rfl rfl rfl (Lk.fldAddr rfl Tryd.underlying54 rfl rfl T3 rfl rfl rfl) fun _ => ?_
            refine R.look rfl rfl rfl (Lk.load1 (v := (.int .i64 v37_0)) rfl Tryd.underlying3 rfl rfl (H.rd_loc ok (i := 0) rfl rfl)) fun _ => ?_
            refine R.look (v := (.pointer (some ⟨b7, 1, none⟩))) rfl rfl rfl (Lk.fldAddr rfl Tryd.underlying54 rfl rfl T3 rfl rfl rfl) fun _ => ?_
            refine R.look rfl rfl rfl (Lk.load1 (v := (.int .i64 v37_1)) rfl Tryd.underlying3 rfl rfl (H.rd_loc ok (i := 0) rfl rfl)) fun _ => ?_
            refine R.look rfl rfl rfl (Lk.min2 rfl rfl rfl) fun _ => ?_
            refine R.look rfl rfl rfl (Lk.arith rfl rfl rfl rfl) fun _ => ?_
            refine R.look rfl rfl rfl (Lk.move rfl rfl) fun _ => ?_
            by_cases e10 : (decide ((if v37_1 < v37_0 then v37_1 else v37_0) < 0)) = true
            · refine R.lookF rfl rfl rfl rfl e10 rfl fun _ => ?_
              refine R.lookF rfl rfl rfl rfl e10 rfl fun _ => ?_
              refine R.lookF rfl rfl rfl rfl e10 rfl fun _ => ?_
              refine R.lookF rfl rfl rfl rfl e10 rfl fun _ => ?_
              refine R.lookF rfl rfl rfl rfl e10 rfl fun _ => ?_
              refine R.lookF rfl rfl rfl rfl e10 rfl fun _ => ?_
              refine R.lookF rfl rfl rfl rfl e10 rfl fun _ => ?_
              refine R.lookF rfl rfl rfl rfl e10 rfl fun _ => ?_
              refine R.lookF rfl rfl rfl rfl e10 rfl fun _ => ?_
              refine R.look rfl rfl rfl (Lk.pick rfl rfl (fun _ => rfl) (fun e => by rw [e10] at e; cases e)) fun _ => ?_
              refine R.nil ?_
              exact hIh_4 ((decide ((if v37_1 < v37_0 then v37_1 else v37_0) < 0)) || (decide ((if v37_1 > v37_0 then v37_1 else v37_0) ≥ (p0_0.l : Int)))) _ _ _ (Env.le_put rfl (Env.le_put rfl (Env.le_put rfl (Env.le_put rfl (Env.le_put rfl (Env.le_put (by rw [e10]; rfl) (Env.le_emp _))))))) (ok.sub (.cons_cons _ (.cons_cons _ List.Sublist.slnil))) (H.add_sub ok (.cons_cons _ (.cons_cons _ List.Sublist.slnil))) hS
            · replace e10 := eq_false_of_ne_true e10
              refine R.lookT (v := (.pointer (some ⟨b7, 0, none⟩))) rfl rfl rfl rfl e10 rfl (Lk.fldAddr rfl Tryd.underlying54 rfl rfl T3 rfl rfl rfl) fun _ => ?_
              refine R.lookT rfl rfl rfl rfl e10 rfl (Lk.load1 (v := (.int .i64 v37_0)) rfl Tryd.underlying3 rfl rfl (H.rd_loc ok (i := 0) rfl rfl)) fun _ => ?_
              refine R.lookT (v := (.pointer (some ⟨b7, 1, none⟩))) rfl rfl rfl rfl e10 rfl (Lk.fldAddr rfl Tryd.underlying54 rfl rfl T3 rfl rfl rfl) fun _ => ?_
              refine R.lookT rfl rfl rfl rfl e10 rfl (Lk.load1 (v := (.int .i64 v37_1)) rfl Tryd.underlying3 rfl rfl (H.rd_loc ok (i := 0) rfl rfl)) fun _ => ?_
              refine R.lookT rfl rfl rfl rfl e10 rfl (Lk.max2 rfl rfl rfl) fun _ => ?_
              refine R.lookT (v := (.pointer (some ⟨b1, 0, none⟩))) rfl rfl rfl rfl e10 rfl (Lk.fldAddr rfl Tryd.underlying29 rfl rfl T22 rfl rfl rfl) fun _ => ?_
              refine R.lookT rfl rfl rfl rfl e10 rfl (Lk.load1 (v := (.slice p0_0.a p0_0.l p0_0.c)) rfl Tryd.underlying22 rfl rfl (H.rd_loc ok (i := 1) rfl rfl)) fun _ => ?_
              refine R.lookT rfl rfl rfl rfl e10 rfl (Lk.len rfl Tryd.underlying22 rfl) fun _ => ?_
              refine R.lookT rfl rfl rfl rfl e10 rfl (Lk.arith rfl rfl rfl rfl) fun _ => ?_
              refine R.look rfl rfl rfl (Lk.pick rfl rfl (fun e => by rw [e10] at e; cases e) (fun _ => rfl)) fun _ => ?_
              refine R.nil ?_
              exact hIh_4 ((decide ((if v37_1 < v37_0 then v37_1 else v37_0) < 0)) || (decide ((if v37_1 > v37_0 then v37_1 else v37_0) ≥ (p0_0.l : Int)))) _ _ _ (Env.le_put rfl (Env.le_put rfl (Env.le_put rfl (Env.le_put rfl (Env.le_put rfl (Env.le_put (by rw [e10]; rfl) (Env.le_emp _))))))) (ok.sub (.cons_cons _ (.cons_cons _ List.Sublist.slnil))) (H.add_sub ok (.cons_cons _ (.cons_cons _ List.Sublist.slnil))) hS
        · rw [if_neg e2] at hS
          replace e2 := eq_false_of_ne_true e2
          refine EvC.condF rfl e2 ?_
          refine EvC.exit ?_
          exact hIh_2 () _ _ _ (Env.le_emp _) (ok.sub (.cons _ List.Sublist.slnil)) (H.add_sub ok (.cons _ List.Sublist.slnil)) hS
  · refine EvC.seq ?_
    refine EvC.region [Item.look 0, Item.look 1, Item.look 2, Item.look 3] (by kernel_rfl) ?_
    refine R.look (v := (.pointer (some ⟨b1, 1, none⟩))) rfl rfl rfl (Lk.fldAddr rfl Tryd.underlying29 rfl rfl T27 rfl rfl rfl) fun _ => ?_
    refine R.look rfl rfl rfl (Lk.load1 (v := (.slice p0_1.a p0_1.l p0_1.c)) rfl Tryd.underlying27 rfl rfl (H.rd_loc ok (i := 0) rfl rfl)) fun _ => ?_
    refine R.look rfl rfl rfl (Lk.len rfl Tryd.underlying27 rfl) fun _ => ?_
    refine R.look rfl rfl rfl (Lk.move rfl rfl) fun _ => ?_
    refine R.nil ?_
    refine EvC.block ?_
    refine EvC.loop ?_
    refine LoopC.lfp (σ := Int × Int) (fun s => (Env.put (Env.put (Env.put (Env.put (Env.put Env.emp 11 (.int .i64 s.2)) 10 (.int .i64 (p0_1.l : Int))) 9 (.slice p0_1.a p0_1.l p0_1.c)) 3 (.int .i64 s.1)) 1 (.pointer (some ⟨b1, 0, none⟩)))) (fun s => [(b1, .row ⟨[(.slice p0_0.a p0_0.l p0_0.c), (.slice p0_1.a p0_1.l p0_1.c)], 2, 29, true, true⟩)]) (fun X_1 hX_1 => ?_) hS (ok.sub (.cons_cons _ List.Sublist.slnil)) (Env.le_put rfl (Env.le_put rfl (Env.le_put rfl (Env.le_put rfl (Env.le_put rfl (Env.le_emp _)))))) (H.add_sub ok (.cons_cons _ List.Sublist.slnil))
    rintro ⟨v3_1, v11⟩ h_8 hS ok
    replace hS : S39_l6 p0_0 p0_1 K X_1 v3_1 v11 h_8 := hS
    change EvC _ _ _ (Env.put (Env.put (Env.put (Env.put (Env.put Env.emp 11 (.int .i64 v11)) 10 (.int .i64 (p0_1.l : Int))) 9 (.slice p0_1.a p0_1.l p0_1.c)) 3 (.int .i64 v3_1)) 1 (.pointer (some ⟨b1, 0, none⟩))) (H.add h_8 [(b1, .row ⟨[(.slice p0_0.a p0_0.l p0_0.c), (.slice p0_1.a p0_1.l p0_1.c)], 2, 29, true, true⟩)]) _
    unfold S39_l6 at hS
    refine EvC.seq ?_
    refine EvC.region [Item.look 0] (by kernel_rfl) ?_
    refine R.look rfl rfl rfl (Lk.arith rfl rfl rfl rfl) fun _ => ?_
    refine R.nil ?_
    refine EvC.seq ?_
    by_cases e11 : (decide (v11 < (p0_1.l : Int))) = true
    · rw [if_pos e11] at hS
      refine EvC.condT rfl e11 ?_
      refine EvC.skip ?_
      refine EvC.seq ?_
      refine EvC.block ?_
      refine EvC.seq ?_
      refine EvC.region [Item.look 0, Item.look 1, Item.alc 2, Item.eff 3 []] (by kernel_rfl) ?_
      obtain ⟨a13, e12, e13, e14, hS⟩ := hS
      refine R.look rfl rfl rfl (Lk.ixAddr rfl Tryd.underlying27 T54 rfl e12 rfl e13 e14) fun _ => ?_
      obtain ⟨v14_0, v14_1, v14_2, v14_3, e15, hS⟩ := hS
      refine R.look rfl rfl rfl (Look.loc ok (Lk.loadN rfl Tryd.underlying54 rfl T54 rfl e15)) fun _ => ?_
      refine R.var (blk := .row ⟨[(.int .i64 0), (.int .i64 0), (.int .i64 0), (.string ⟨#[]⟩)], 4, 54, true, true⟩) ok rfl rfl rfl (Ac.alloc rfl T54) rfl rfl fun b5 ok => ?_
      refine R.effN rfl rfl rfl (Ef.storeLoc (i := 0) (vs := [(.int .i64 v14_0), (.int .i64 v14_1), (.int .i64 v14_2), (.string v14_3)]) (cs := [(.int .i64 v14_0), (.int .i64 v14_1), (.int .i64 v14_2), (.string v14_3)]) (l' := [(b5, .row ⟨[(.int .i64 v14_0), (.int .i64 v14_1), (.int .i64 v14_2), (.string v14_3)], 4, 54, true, true⟩), (b1, .row ⟨[(.slice p0_0.a p0_0.l p0_0.c), (.slice p0_1.a p0_1.l p0_1.c)], 2, 29, true, true⟩)]) ok rfl T54 rfl rfl rfl rfl rfl rfl rfl rfl rfl rfl fun ok => ⟨noChk, ?_⟩)
      refine R.nil ?_
      refine EvC.region [Item.look 0, Item.look 1, Item.look 2, Item.look 3, Item.look 4, Item.look 5, Item.look 6] (by kernel_rfl) ?_
      refine R.look rfl rfl rfl (Lk.move rfl rfl) fun _ => ?_
      refine R.look (v := (.pointer (some ⟨b5, 3, none⟩))) rfl rfl rfl (Lk.fldAddr rfl Tryd.underlying54 rfl rfl T9 rfl rfl rfl) fun _ => ?_
      refine R.look rfl rfl rfl (Lk.load1 (v := (.string v14_3)) rfl Tryd.underlying9 rfl rfl (H.rd_loc ok (i := 0) rfl rfl)) fun _ => ?_
      refine R.look rfl rfl rfl (Lk.lenS rfl Tryd.underlying9 rfl) fun _ => ?_
      refine R.look rfl rfl rfl (Lk.min2 rfl rfl rfl) fun _ => ?_
      refine R.look rfl rfl rfl (Lk.arith rfl rfl rfl rfl) fun _ => ?_
      refine R.look rfl rfl rfl (Lk.assign rfl rfl) fun _ => ?_
      refine R.nil ?_
      refine EvC.region [Item.look 0, Item.look 1] (by kernel_rfl) ?_
      refine R.look rfl rfl rfl (Lk.arith rfl rfl rfl rfl) fun _ => ?_
      refine R.look rfl rfl rfl (Lk.move rfl rfl) fun _ => ?_
      refine R.nil ?_
      exact hX_1 ((IntKind.wrap .i64 (v3_1 + (if 4097 < (ByteArray.size v14_3 : Int) then 4097 else (ByteArray.size v14_3 : Int)))), (IntKind.wrap .i64 (v11 + 1))) _ _ _ hS (ok.sub (.cons _ (.cons_cons _ List.Sublist.slnil))) (Env.le_put rfl (Env.le_put rfl (Env.le_put rfl (Env.le_put rfl (Env.le_put rfl (Env.le_emp _)))))) (H.add_sub ok (.cons _ (.cons_cons _ List.Sublist.slnil)))
    · rw [if_neg e11] at hS
      replace e11 := eq_false_of_ne_true e11
      refine EvC.condF rfl e11 ?_
      refine EvC.exit ?_
      exact hIh_1 v3_1 _ _ _ (Env.le_put rfl (Env.le_put rfl (Env.le_emp _))) (ok.sub (.cons_cons _ List.Sublist.slnil)) (H.add_sub ok (.cons_cons _ List.Sublist.slnil)) hS
end Go.Proofs.YtimadnngfhbfiaaDoor
end

section
/- BY HAND: (*strings.Builder).copyCheck. -/
namespace Go.Proofs.YtimadnngfhbfiaaDoor
open Go Go.Mu
theorem f87_ok {p0 : Option Addr} {h : H} {K : H → Prop} (hS : S87 p0 h K) : ACall Tryd.prog 87 ([(.pointer p0)] : List Value).toArray h (fun r h' => r = tup [] ∧ K h') := by
  obtain ⟨b, r, rfl, hb, hw, ht, he, ⟨h0, k⟩ | ⟨h0, k⟩⟩ := hS
  · intro w s
    have hc : w.cell? ⟨b, 0, none⟩ = some (.pointer none) := s.rd (by simp [H.rd, hb, h0])
    obtain ⟨c, fz, hcell, htot, hp, hfz, _⟩ := s _ _ hb
    have hl : 0 < r.cells.length := (List.getElem?_eq_some_iff.1 h0).1
    have hsh : w.shape? b = some (128, 2) := by simp [World.shape?, hcell, he, htot, ht]
    have hfr : w.frozen? ⟨b, 0, none⟩ = false := by
      have h2 := hfz hw 0 (by omega)
      obtain ⟨lo, hi⟩ := fz
      simp only [World.frozen?, hcell]
      simp only at h2
      by_cases hlo : lo ≤ 0
      · have := h2 hlo
        simpa using fun _ => Nat.le_of_not_lt this
      · simp [hlo]
    refine (Tryd.copyCheck_fresh b w hc hsh hfr).mono ?_
    rintro e w' ⟨rfl, rfl⟩
    exact ⟨_, _, rfl, s.setCell hb hl _, Fr.setCell hb hw _ _, rfl, k⟩
  · intro w s
    refine (Tryd.copyCheck_used b w (s.rd (by simp [H.rd, hb, h0]))).mono ?_
    rintro e w' ⟨rfl, rfl⟩
    exact ⟨_, _, rfl, s, Fr.refl h _, rfl, k⟩
end Go.Proofs.YtimadnngfhbfiaaDoor
end

section
/- PRINTED by wip/gen.py: the machine's call of (*strings.Builder).WriteString does what S59 says. -/
namespace Go.Proofs.YtimadnngfhbfiaaDoor
open Go Go.Mu
set_option maxHeartbeats 4000000
set_option maxRecDepth 100000
theorem f59_ok {p0 : Option Addr} {p1 : ByteArray} {h : H} {K : Int → Value → H → Prop} (hS : S59 p0 p1 h K) : ACall Tryd.prog 59 ([(.pointer p0), (.string p1)] : List Value).toArray h (fun r h' => ∃ r0 : Int, ∃ r1 : Value, r = tup [(.int .i64 r0), r1] ∧ K r0 r1 h') := by
  refine ACall.enter (fn := Tryd.f59) Tryd.func59 rfl (Nat.le_of_ble_eq_true rfl) ?_
  unfold S59 at hS
  have ok := Lok.nil h
  change EvC _ _ _ _ (H.add h []) _
  refine EvC.seq ?_
  refine EvC.region [Item.look 0, Item.look 1] (by kernel_rfl) ?_
  refine R.look rfl rfl rfl (Lk.assign rfl rfl) fun _ => ?_
  refine R.look rfl rfl rfl (Lk.assign rfl rfl) fun _ => ?_
  refine R.nil ?_
  refine EvC.seq ?_
  refine EvC.region [Item.look 0, Item.eff 1 []] (by kernel_rfl) ?_
  refine R.look rfl rfl rfl (Lk.move rfl rfl) fun _ => ?_
  refine R.eff rfl rfl rfl (Eff.loc ok (Ef.call rfl CB87 rfl ((f87_ok hS).mono ?_)))
  rintro _ h_1 ⟨rfl, hS⟩
  refine fun ok => ⟨noChk, ?_⟩
  refine R.nil ?_
  refine EvC.seq ?_
  refine EvC.region [Item.look 0, Item.look 1, Item.look 2, Item.look 3, Item.look 4, Item.look 5, Item.eff 6 [], Item.look 7, Item.look 8, Item.eff 9 []] (by kernel_rfl) ?_
  refine R.look rfl rfl rfl (Lk.move rfl rfl) fun _ => ?_
  refine R.look rfl rfl rfl (Lk.move rfl rfl) fun _ => ?_
  obtain ⟨a10, e1, hS⟩ := hS
  refine R.look (v := (.pointer (some a10))) rfl rfl rfl (Lk.nilChk rfl rfl e1) fun _ => ?_
  refine R.look (v := (.pointer (some (Addr.add a10 1)))) rfl rfl rfl (Lk.fldAddr rfl Tryd.underlying128 rfl rfl T24 rfl rfl rfl) fun _ => ?_
  obtain ⟨v12, e2, hS⟩ := hS
  refine R.look rfl rfl rfl (Look.loc ok (Lk.load1 rfl Tryd.underlying24 rfl rfl e2)) fun _ => ?_
  refine R.look rfl rfl rfl (Lk.move rfl rfl) fun _ => ?_
  refine R.appStr ok rfl rfl rfl rfl Tryd.underlying24 Tryd.underlying9 T5 rfl rfl hS ?_
  intro v14 h_2 hS ok
  refine ⟨noChk, ?_⟩
  obtain ⟨a15, e3, hS⟩ := hS
  refine R.look (v := (.pointer (some a15))) rfl rfl rfl (Lk.nilChk rfl rfl e3) fun _ => ?_
  refine R.look (v := (.pointer (some (Addr.add a15 1)))) rfl rfl rfl (Lk.fldAddr rfl Tryd.underlying128 rfl rfl T24 rfl rfl rfl) fun _ => ?_
  obtain ⟨h_3, e4, hS⟩ := hS
  refine R.effN rfl rfl rfl (Eff.loc ok (Ef.store rfl T24 rfl rfl rfl rfl rfl e4 fun ok => ⟨noChk, ?_⟩))
  refine R.nil ?_
  refine EvC.seq ?_
  refine EvC.region [Item.look 0, Item.look 1, Item.look 2, Item.look 3] (by kernel_rfl) ?_
  refine R.look rfl rfl rfl (Lk.move rfl rfl) fun _ => ?_
  refine R.look rfl rfl rfl (Lk.lenS rfl Tryd.underlying9 rfl) fun _ => ?_
  refine R.look rfl rfl rfl (Lk.assign rfl rfl) fun _ => ?_
  refine R.look rfl rfl rfl (Lk.assign rfl rfl) fun _ => ?_
  refine R.nil ?_
  refine EvC.ret ?_
  exact ⟨.inr rfl, _, _, (.cons (.tmp rfl) (.cons (.tmp rfl) .nil)), ok.le, _, _, rfl, hS⟩
end Go.Proofs.YtimadnngfhbfiaaDoor
end

section
/- BY HAND: strconv.Itoa at a small number. -/
namespace Go.Proofs.YtimadnngfhbfiaaDoor
open Go Go.Mu
theorem f88_ok {p0 : Int} {h : H} {K : ByteArray → H → Prop} (hS : S88 p0 h K) : ACall Tryd.prog 88 ([(.int .i64 p0)] : List Value).toArray h (fun r h' => ∃ r0 : ByteArray, r = tup [(.string r0)] ∧ K r0 h') := by
  obtain ⟨i, rfl, h1, k⟩ := hS
  exact ACall.below (fun w _ => (Tryd.strconv_Itoa_small i h1 w).mono fun _ _ ⟨e, e2⟩ => ⟨e, e2 ▸ Go.RowKit.Below.refl _ _⟩) ⟨_, rfl, k⟩
end Go.Proofs.YtimadnngfhbfiaaDoor
end

section
/- PRINTED by wip/gen.py: the machine's call of muntin/lex.Digits does what S60 says. -/
namespace Go.Proofs.YtimadnngfhbfiaaDoor
open Go Go.Mu
set_option maxHeartbeats 4000000
set_option maxRecDepth 100000
theorem f60_ok {p0 : Int} {h : H} {K : ByteArray → H → Prop} (hS : S60 p0 h K) : ACall Tryd.prog 60 ([(.int .i64 p0)] : List Value).toArray h (fun r h' => ∃ r0 : ByteArray, r = tup [(.string r0)] ∧ K r0 h') := by
  refine ACall.enter (fn := Tryd.f60) Tryd.func60 rfl (Nat.le_of_ble_eq_true rfl) ?_
  unfold S60 at hS
  have ok := Lok.nil h
  change EvC _ _ _ _ (H.add h []) _
  refine EvC.seq ?_
  refine EvC.region [Item.look 0] (by kernel_rfl) ?_
  refine R.look rfl rfl rfl (Lk.assign rfl rfl) fun _ => ?_
  refine R.nil ?_
  refine EvC.seq ?_
  refine EvC.region [Item.look 0, Item.eff 1 [], Item.look 2] (by kernel_rfl) ?_
  refine R.look rfl rfl rfl (Lk.move rfl rfl) fun _ => ?_
  refine R.eff rfl rfl rfl (Eff.loc ok (Ef.call rfl CB88 rfl ((f88_ok hS).mono ?_)))
  rintro _ h_1 ⟨v4, rfl, hS⟩
  refine fun ok => ⟨noChk, ?_⟩
  refine R.look rfl rfl rfl (Lk.assign rfl rfl) fun _ => ?_
  refine R.nil ?_
  refine EvC.ret ?_
  exact ⟨.inr rfl, _, _, (.cons (.tmp rfl) .nil), ok.le, _, rfl, hS⟩
end Go.Proofs.YtimadnngfhbfiaaDoor
end

section
/- PRINTED by wip/gen.py: the machine's call of muntin/compass.Letter does what S61 says. -/
namespace Go.Proofs.YtimadnngfhbfiaaDoor
open Go Go.Mu
set_option maxHeartbeats 4000000
set_option maxRecDepth 100000
theorem f61_ok {p0 : Int} {h : H} {K : ByteArray → H → Prop} (hS : S61 p0 h K) : ACall Tryd.prog 61 ([(.int .i64 p0)] : List Value).toArray h (fun r h' => ∃ r0 : ByteArray, r = tup [(.string r0)] ∧ K r0 h') := by
  refine ACall.enter (fn := Tryd.f61) Tryd.func61 rfl (Nat.le_of_ble_eq_true rfl) ?_
  unfold S61 at hS
  have ok := Lok.nil h
  change EvC _ _ _ _ (H.add h []) _
  refine EvC.seq ?_
  refine EvC.region [Item.look 0] (by kernel_rfl) ?_
  refine R.look rfl rfl rfl (Lk.assign rfl rfl) fun _ => ?_
  refine R.nil ?_
  refine EvC.seq ?_
  refine EvC.seq ?_
  refine EvC.region [Item.look 0, Item.eff 1 [], Item.look 2] (by kernel_rfl) ?_
  refine R.look rfl rfl rfl (Lk.move rfl rfl) fun _ => ?_
  refine R.eff rfl rfl rfl (Eff.loc ok (Ef.call rfl CB54 rfl ((f54_ok hS).mono ?_)))
  rintro _ h_1 ⟨v4, rfl, hS⟩
  refine fun ok => ⟨noChk, ?_⟩
  refine R.look rfl rfl rfl (Lk.not rfl rfl) fun _ => ?_
  refine R.nil ?_
  by_cases e1 : (!v4) = true
  · rw [if_pos e1] at hS
    refine EvC.condT rfl e1 ?_
    refine EvC.seq ?_
    refine EvC.region [Item.look 0] (by kernel_rfl) ?_
    refine R.look rfl rfl rfl (Lk.assign rfl rfl) fun _ => ?_
    refine R.nil ?_
    refine EvC.ret ?_
    exact ⟨.inr rfl, _, _, (.cons (.tmp rfl) .nil), ok.le, _, rfl, hS⟩
  · rw [if_neg e1] at hS
    replace e1 := eq_false_of_ne_true e1
    refine EvC.condF rfl e1 ?_
    refine EvC.skip ?_
    refine EvC.seq ?_
    refine EvC.region [Item.look 0, Item.look 1, Item.look 2, Item.look 3, Item.look 4] (by kernel_rfl) ?_
    refine R.look rfl rfl rfl (Lk.move rfl rfl) fun _ => ?_
    refine R.look rfl rfl rfl (Lk.move rfl rfl) fun _ => ?_
    refine R.look rfl rfl rfl (Lk.arith rfl rfl rfl rfl) fun _ => ?_
    obtain ⟨e2, e3, e4, hS⟩ := hS
    refine R.look rfl rfl rfl (Lk.subStr rfl Tryd.underlying9 rfl rfl rfl e2 e3 e4) fun _ => ?_
    refine R.look rfl rfl rfl (Lk.assign rfl rfl) fun _ => ?_
    refine R.nil ?_
    refine EvC.ret ?_
    exact ⟨.inr rfl, _, _, (.cons (.tmp rfl) .nil), ok.le, _, rfl, hS⟩
end Go.Proofs.YtimadnngfhbfiaaDoor
end

section
/- PRINTED by wip/gen.py: the machine's call of (*strings.Builder).String does what S62 says. -/
namespace Go.Proofs.YtimadnngfhbfiaaDoor
open Go Go.Mu
set_option maxHeartbeats 4000000
set_option maxRecDepth 100000
theorem f62_ok {p0 : Option Addr} {h : H} {K : ByteArray → H → Prop} (hS : S62 p0 h K) : ACall Tryd.prog 62 ([(.pointer p0)] : List Value).toArray h (fun r h' => ∃ r0 : ByteArray, r = tup [(.string r0)] ∧ K r0 h') := by
  refine ACall.enter (fn := Tryd.f62) Tryd.func62 rfl (Nat.le_of_ble_eq_true rfl) ?_
  unfold S62 at hS
  have ok := Lok.nil h
  change EvC _ _ _ _ (H.add h []) _
  refine EvC.seq ?_
  refine EvC.region [Item.look 0] (by kernel_rfl) ?_
  refine R.look rfl rfl rfl (Lk.assign rfl rfl) fun _ => ?_
  refine R.nil ?_
  refine EvC.seq ?_
  refine EvC.draw [0, 1, 3, 7, 15, 0, 32, 96, 224, 480, 1023, 2047] [Item.look 0, Item.look 1, Item.look 2, Item.look 3, Item.look 4, Item.look 5, Item.look 6, Item.look 7, Item.look 8, Item.look 9, Item.eff 10 [], Item.look 11] MO (by kernel_rfl) ?_
  refine R.look rfl rfl rfl (Lk.move rfl rfl) fun _ => ?_
  obtain ⟨a4, e1, hS⟩ := hS
  refine R.look (v := (.pointer (some a4))) rfl rfl rfl (Lk.nilChk rfl rfl e1) fun _ => ?_
  refine R.look (v := (.pointer (some (Addr.add a4 1)))) rfl rfl rfl (Lk.fldAddr rfl Tryd.underlying128 rfl rfl T24 rfl rfl rfl) fun _ => ?_
  obtain ⟨v6, e2, hS⟩ := hS
  refine R.look rfl rfl rfl (Look.loc ok (Lk.load1 rfl Tryd.underlying24 rfl rfl e2)) fun _ => ?_
  obtain ⟨e3, hS⟩ := hS
  refine R.look (v := (.pointer v6.a)) rfl rfl rfl (Lk.sliceData rfl rfl e3) fun _ => ?_
  refine R.look rfl rfl rfl (Lk.move rfl rfl) fun _ => ?_
  obtain ⟨a9, e4, hS⟩ := hS
  refine R.look (v := (.pointer (some a9))) rfl rfl rfl (Lk.nilChk rfl rfl e4) fun _ => ?_
  refine R.look (v := (.pointer (some (Addr.add a9 1)))) rfl rfl rfl (Lk.fldAddr rfl Tryd.underlying128 rfl rfl T24 rfl rfl rfl) fun _ => ?_
  obtain ⟨v11, e5, hS⟩ := hS
  refine R.look rfl rfl rfl (Look.loc ok (Lk.load1 rfl Tryd.underlying24 rfl rfl e5)) fun _ => ?_
  refine R.look rfl rfl rfl (Lk.len rfl Tryd.underlying24 rfl) fun _ => ?_
  refine R.unsafeStr ok rfl rfl rfl rfl Tryd.underlying163 CS5 rfl rfl hS ?_
  intro v13 h_1 hS ok
  refine ⟨noChk, ?_⟩
  refine R.look rfl rfl rfl (Lk.assign rfl rfl) fun _ => ?_
  refine R.nil ?_
  refine EvC.ret ?_
  exact ⟨.inr rfl, _, _, (.cons (.tmp rfl) .nil), ok.le, _, rfl, hS⟩
end Go.Proofs.YtimadnngfhbfiaaDoor
end

section
/- PRINTED by wip/gen.py: the machine's call of muntin/text.Print does what S25 says. -/
namespace Go.Proofs.YtimadnngfhbfiaaDoor
open Go Go.Mu
set_option maxHeartbeats 4000000
set_option maxRecDepth 100000
theorem f25_ok {p0_0 : Sl} {p0_1 : Sl} {h : H} {K : ByteArray → Int → H → Prop} (hS : S25 p0_0 p0_1 h K) : ACall Tryd.prog 25 ([(.agg ([(.slice p0_0.a p0_0.l p0_0.c), (.slice p0_1.a p0_1.l p0_1.c)] : List Value).toArray)] : List Value).toArray h (fun r h' => ∃ r0 : ByteArray, ∃ r1 : Int, r = tup [(.string r0), (.int .i64 r1)] ∧ K r0 r1 h') := by
  refine ACall.enter (fn := Tryd.f25) Tryd.func25 rfl (Nat.le_of_ble_eq_true rfl) ?_
  unfold S25 at hS
  have ok := Lok.nil h
  change EvC _ _ _ _ (H.add h []) _
  refine EvC.seq ?_
  refine EvC.region [Item.alc 0, Item.look 1, Item.look 2] (by kernel_rfl) ?_
  refine R.var (blk := .row ⟨[(.slice p0_0.a p0_0.l p0_0.c), (.slice p0_1.a p0_1.l p0_1.c)], 2, 29, true, true⟩) ok rfl rfl rfl (Ac.box rfl rfl) rfl rfl fun b1 ok => ?_
  refine R.look rfl rfl rfl (Lk.assign rfl rfl) fun _ => ?_
  refine R.look rfl rfl rfl (Lk.assign rfl rfl) fun _ => ?_
  refine R.nil ?_
  refine EvC.seq ?_
  refine EvC.seq ?_
  refine EvC.region [Item.look 0, Item.eff 1 [], Item.look 2] (by kernel_rfl) ?_
  refine R.look rfl rfl rfl (Lk.loadN (vs := [(.slice p0_0.a p0_0.l p0_0.c), (.slice p0_1.a p0_1.l p0_1.c)]) rfl Tryd.underlying29 rfl T29 rfl (H.rdn_loc ok (i := 0) rfl rfl rfl)) fun _ => ?_
  refine R.eff rfl rfl rfl (Eff.loc ok (Ef.call rfl CB39 rfl ((f39_ok hS).mono ?_)))
  rintro _ h_1 ⟨v12, rfl, hS⟩
  refine fun ok => ⟨noChk, ?_⟩
  refine R.look rfl rfl rfl (Lk.assign rfl rfl) fun _ => ?_
  refine R.nil ?_
  refine EvC.seq ?_
  refine EvC.region [Item.look 0, Item.look 1] (by kernel_rfl) ?_
  refine R.look rfl rfl rfl (Lk.move rfl rfl) fun _ => ?_
  refine R.look rfl rfl rfl (Lk.arith rfl rfl rfl rfl) fun _ => ?_
  refine R.nil ?_
  by_cases e1 : (v12 != 0) = true
  · rw [if_pos e1] at hS
    refine EvC.condT rfl e1 ?_
    refine EvC.seq ?_
    refine EvC.region [Item.look 0, Item.look 1, Item.look 2] (by kernel_rfl) ?_
    refine R.look rfl rfl rfl (Lk.move rfl rfl) fun _ => ?_
    refine R.look rfl rfl rfl (Lk.assign rfl rfl) fun _ => ?_
    refine R.look rfl rfl rfl (Lk.assign rfl rfl) fun _ => ?_
    refine R.nil ?_
    refine EvC.ret ?_
    exact ⟨.inr rfl, _, _, (.cons (.tmp rfl) (.cons (.tmp rfl) .nil)), ok.le, _, _, rfl, hS⟩
  · rw [if_neg e1] at hS
    replace e1 := eq_false_of_ne_true e1
    refine EvC.condF rfl e1 ?_
    refine EvC.skip ?_
    refine EvC.seq ?_
    refine EvC.region [Item.alc 0, Item.eff 1 [], Item.eff 2 [], Item.look 3, Item.look 4] (by kernel_rfl) ?_
    refine R.new (blk := (.obj (.map #[] 0))) ok rfl rfl rfl (Ac.makeMap rfl) trivial rfl fun b16 e2 ok => ?_
    replace hS := hS b16 _ e2 rfl
    obtain ⟨h_3, e3, hS⟩ := hS
    refine R.effN rfl rfl rfl (Eff.loc ok (Ef.mapPut rfl Tryd.underlying125 Tryd.underlying4 rfl rfl rfl rfl e3 fun ok => ⟨noChk, ?_⟩))
    obtain ⟨h_4, e4, hS⟩ := hS
    refine R.effN rfl rfl rfl (Eff.loc ok (Ef.mapPut rfl Tryd.underlying125 Tryd.underlying4 rfl rfl rfl rfl e4 fun ok => ⟨noChk, ?_⟩))
    refine R.look rfl rfl rfl (Lk.move rfl rfl) fun _ => ?_
    refine R.look rfl rfl rfl (Lk.assign rfl rfl) fun _ => ?_
    refine R.nil ?_
    refine EvC.seq ?_
    refine EvC.region [Item.alc 0] (by kernel_rfl) ?_
    refine R.new (blk := (.row ⟨[(.pointer none), (.slice none 0 0)], 2, 128, true, true⟩)) ok rfl rfl rfl (Ac.alloc rfl T128) rfl rfl fun b6 e5 ok => ?_
    replace hS := hS b6 _ e5 rfl
    refine R.nil ?_
    refine EvC.seq ?_
    refine EvC.region [Item.eff 0 []] (by kernel_rfl) ?_
    refine R.eff rfl rfl rfl (Eff.loc ok (Ef.call rfl CB59 rfl ((f59_ok hS).mono ?_)))
    rintro _ h_6 ⟨v18_0, v18_1, rfl, hS⟩
    refine fun ok => ⟨noChk, ?_⟩
    refine R.nil ?_
    refine EvC.join (σ := Unit) (fun s => (Env.put (Env.put Env.emp 6 (.pointer (some ⟨b6, 0, none⟩))) 1 (.pointer (some ⟨b1, 0, none⟩)))) (fun s => [(b1, .row ⟨[(.slice p0_0.a p0_0.l p0_0.c), (.slice p0_1.a p0_1.l p0_1.c)], 2, 29, true, true⟩)]) (fun s h_7 => S25_j5 p0_0 p0_1 K b6 h_7) ?_ (fun Ih_7 hIh_7 => ?_)
    · rintro ⟨⟩ h_7 ok hS
      replace hS : S25_j5 p0_0 p0_1 K b6 h_7 := hS
      change EvC _ _ _ (Env.put (Env.put Env.emp 6 (.pointer (some ⟨b6, 0, none⟩))) 1 (.pointer (some ⟨b1, 0, none⟩))) (H.add h_7 [(b1, .row ⟨[(.slice p0_0.a p0_0.l p0_0.c), (.slice p0_1.a p0_1.l p0_1.c)], 2, 29, true, true⟩)]) _
      unfold S25_j5 at hS
      refine EvC.join (σ := Unit) (fun s => (Env.put (Env.put Env.emp 6 (.pointer (some ⟨b6, 0, none⟩))) 1 (.pointer (some ⟨b1, 0, none⟩)))) (fun s => [(b1, .row ⟨[(.slice p0_0.a p0_0.l p0_0.c), (.slice p0_1.a p0_1.l p0_1.c)], 2, 29, true, true⟩)]) (fun s h_8 => S25_j4 p0_1 K b6 h_8) ?_ (fun Ih_8 hIh_8 => ?_)
      · rintro ⟨⟩ h_8 ok hS
        replace hS : S25_j4 p0_1 K b6 h_8 := hS
        change EvC _ _ _ (Env.put (Env.put Env.emp 6 (.pointer (some ⟨b6, 0, none⟩))) 1 (.pointer (some ⟨b1, 0, none⟩))) (H.add h_8 [(b1, .row ⟨[(.slice p0_0.a p0_0.l p0_0.c), (.slice p0_1.a p0_1.l p0_1.c)], 2, 29, true, true⟩)]) _
        unfold S25_j4 at hS
        refine EvC.join (σ := Unit) (fun s => (Env.put Env.emp 6 (.pointer (some ⟨b6, 0, none⟩)))) (fun s => []) (fun s h_9 => S25_j1 K b6 h_9) ?_ (fun Ih_9 hIh_9 => ?_)
        · rintro ⟨⟩ h_9 ok hS
          replace hS : S25_j1 K b6 h_9 := hS
          change EvC _ _ _ (Env.put Env.emp 6 (.pointer (some ⟨b6, 0, none⟩))) (H.add h_9 []) _
          unfold S25_j1 at hS
          refine EvC.seq ?_
          refine EvC.region [Item.eff 0 [], Item.look 1, Item.look 2, Item.look 3] (by kernel_rfl) ?_
          refine R.eff rfl rfl rfl (Eff.loc ok (Ef.call rfl CB62 rfl ((f62_ok hS).mono ?_)))
          rintro _ h_10 ⟨v66, rfl, hS⟩
          refine fun ok => ⟨noChk, ?_⟩
          obtain ⟨e6, hS⟩ := hS
          refine R.look rfl rfl rfl (Lk.strAdd rfl rfl rfl e6) fun _ => ?_
          refine R.look rfl rfl rfl (Lk.assign rfl rfl) fun _ => ?_
          refine R.look rfl rfl rfl (Lk.assign rfl rfl) fun _ => ?_
          refine R.nil ?_
          refine EvC.ret ?_
          exact ⟨.inr rfl, _, _, (.cons (.tmp rfl) (.cons (.tmp rfl) .nil)), ok.le, _, _, rfl, hS⟩
        · refine EvC.seq ?_
          refine EvC.region [Item.look 0, Item.look 1, Item.look 2, Item.look 3] (by kernel_rfl) ?_
          refine R.look (v := (.pointer (some ⟨b1, 1, none⟩))) rfl rfl rfl (Lk.fldAddr rfl Tryd.underlying29 rfl rfl T27 rfl rfl rfl) fun _ => ?_
          refine R.look rfl rfl rfl (Lk.load1 (v := (.slice p0_1.a p0_1.l p0_1.c)) rfl Tryd.underlying27 rfl rfl (H.rd_loc ok (i := 0) rfl rfl)) fun _ => ?_
          refine R.look rfl rfl rfl (Lk.len rfl Tryd.underlying27 rfl) fun _ => ?_
          refine R.look rfl rfl rfl (Lk.move rfl rfl) fun _ => ?_
          refine R.nil ?_
          refine EvC.block ?_
          refine EvC.loop ?_
          refine LoopC.lfp (σ := Int) (fun s => (Env.put (Env.put (Env.put (Env.put Env.emp 39 (.int .i64 s)) 38 (.int .i64 (p0_1.l : Int))) 37 (.slice p0_1.a p0_1.l p0_1.c)) 6 (.pointer (some ⟨b6, 0, none⟩)))) (fun s => []) (fun X hX => ?_) hS (ok.sub (.cons _ List.Sublist.slnil)) (Env.le_put rfl (Env.le_put rfl (Env.le_put rfl (Env.le_put rfl (Env.le_emp _))))) (H.add_sub ok (.cons _ List.Sublist.slnil))
          intro v39 h_11 hS ok
          replace hS : S25_l3 p0_1 K b6 X v39 h_11 := hS
          change EvC _ _ _ (Env.put (Env.put (Env.put (Env.put Env.emp 39 (.int .i64 v39)) 38 (.int .i64 (p0_1.l : Int))) 37 (.slice p0_1.a p0_1.l p0_1.c)) 6 (.pointer (some ⟨b6, 0, none⟩))) (H.add h_11 []) _
          unfold S25_l3 at hS
          refine EvC.seq ?_
          refine EvC.region [Item.look 0] (by kernel_rfl) ?_
          refine R.look rfl rfl rfl (Lk.arith rfl rfl rfl rfl) fun _ => ?_
          refine R.nil ?_
          refine EvC.seq ?_
          by_cases e7 : (decide (v39 < (p0_1.l : Int))) = true
          · rw [if_pos e7] at hS
            refine EvC.condT rfl e7 ?_
            refine EvC.skip ?_
            refine EvC.join (σ := Unit) (fun s => (Env.put (Env.put (Env.put (Env.put Env.emp 39 (.int .i64 v39)) 38 (.int .i64 (p0_1.l : Int))) 37 (.slice p0_1.a p0_1.l p0_1.c)) 6 (.pointer (some ⟨b6, 0, none⟩)))) (fun s => []) (fun s h_12 => S25_j2 v39 X h_12) ?_ (fun Ih_12 hIh_12 => ?_)
            · rintro ⟨⟩ h_12 ok hS
              replace hS : S25_j2 v39 X h_12 := hS
              change EvC _ _ _ (Env.put (Env.put (Env.put (Env.put Env.emp 39 (.int .i64 v39)) 38 (.int .i64 (p0_1.l : Int))) 37 (.slice p0_1.a p0_1.l p0_1.c)) 6 (.pointer (some ⟨b6, 0, none⟩))) (H.add h_12 []) _
              unfold S25_j2 at hS
              refine EvC.region [Item.look 0, Item.look 1] (by kernel_rfl) ?_
              refine R.look rfl rfl rfl (Lk.arith rfl rfl rfl rfl) fun _ => ?_
              refine R.look rfl rfl rfl (Lk.move rfl rfl) fun _ => ?_
              refine R.nil ?_
              exact hX (IntKind.wrap .i64 (v39 + 1)) _ _ _ hS (ok.sub List.Sublist.slnil) (Env.le_put rfl (Env.le_put rfl (Env.le_put rfl (Env.le_put rfl (Env.le_emp _))))) (H.add_sub ok List.Sublist.slnil)
            · refine EvC.block ?_
              refine EvC.seq ?_
              refine EvC.region [Item.look 0, Item.look 1, Item.alc 2, Item.eff 3 []] (by kernel_rfl) ?_
              obtain ⟨a41, e8, e9, e10, hS⟩ := hS
              refine R.look rfl rfl rfl (Lk.ixAddr rfl Tryd.underlying27 T54 rfl e8 rfl e9 e10) fun _ => ?_
              obtain ⟨v42_0, v42_1, v42_2, v42_3, e11, hS⟩ := hS
              refine R.look rfl rfl rfl (Look.loc ok (Lk.loadN rfl Tryd.underlying54 rfl T54 rfl e11)) fun _ => ?_
              refine R.var (blk := .row ⟨[(.int .i64 0), (.int .i64 0), (.int .i64 0), (.string ⟨#[]⟩)], 4, 54, true, true⟩) ok rfl rfl rfl (Ac.alloc rfl T54) rfl rfl fun b10 ok => ?_
              refine R.effN rfl rfl rfl (Ef.storeLoc (i := 0) (vs := [(.int .i64 v42_0), (.int .i64 v42_1), (.int .i64 v42_2), (.string v42_3)]) (cs := [(.int .i64 v42_0), (.int .i64 v42_1), (.int .i64 v42_2), (.string v42_3)]) (l' := [(b10, .row ⟨[(.int .i64 v42_0), (.int .i64 v42_1), (.int .i64 v42_2), (.string v42_3)], 4, 54, true, true⟩)]) ok rfl T54 rfl rfl rfl rfl rfl rfl rfl rfl rfl rfl fun ok => ⟨noChk, ?_⟩)
              refine R.nil ?_
              refine EvC.seq ?_
              refine EvC.draw [0, 1, 3, 7, 15, 0, 32, 103, 255, 511, 0, 1024, 3303, 8191, 16383] [Item.look 0, Item.look 1, Item.look 5, Item.look 6, Item.look 10, Item.look 11, Item.eff 2 [5, 6, 10, 11], Item.look 3, Item.look 4, Item.eff 7 [10, 11, 3, 4], Item.look 8, Item.look 9, Item.eff 12 [3, 4, 8, 9], Item.look 13, Item.eff 14 []] MO (by kernel_rfl) ?_
              refine R.lookL (v := (.pointer (some ⟨b10, 0, none⟩))) rfl rfl rfl (Lk.fldAddr rfl Tryd.underlying54 rfl rfl T3 rfl rfl rfl) ?_
              refine R.lookL rfl rfl rfl (Lk.load1 (v := (.int .i64 v42_0)) rfl Tryd.underlying3 rfl rfl (H.rd_loc ok (i := 0) rfl rfl)) ?_
              refine R.lookL (v := (.pointer (some ⟨b10, 2, none⟩))) rfl rfl rfl (Lk.fldAddr rfl Tryd.underlying54 rfl rfl T3 rfl rfl rfl) ?_
              refine R.lookL rfl rfl rfl (Lk.load1 (v := (.int .i64 v42_2)) rfl Tryd.underlying3 rfl rfl (H.rd_loc ok (i := 0) rfl rfl)) ?_
              refine R.lookL (v := (.pointer (some ⟨b10, 1, none⟩))) rfl rfl rfl (Lk.fldAddr rfl Tryd.underlying54 rfl rfl T3 rfl rfl rfl) ?_
              refine R.lookL rfl rfl rfl (Lk.load1 (v := (.int .i64 v42_1)) rfl Tryd.underlying3 rfl rfl (H.rd_loc ok (i := 0) rfl rfl)) ?_
              refine R.eff rfl rfl rfl (Eff.loc ok (Ef.call rfl CB60 rfl ((f60_ok hS).mono ?_)))
              rintro _ h_13 ⟨v45, rfl, hS⟩
              refine fun ok => ⟨(List.forall_mem_cons.2 ⟨(Log.past (by decide) (Log.past (by decide) (Log.past (by decide) (Log.at_ (LookG.of rfl (Lk.fldAddr rfl Tryd.underlying54 rfl rfl T3 rfl rfl rfl)))))), (List.forall_mem_cons.2 ⟨(Log.past (by decide) (Log.past (by decide) (Log.at_ (LookG.of rfl (Lk.load1 (v := (.int .i64 v42_2)) rfl Tryd.underlying3 rfl rfl (H.rd_loc ok (i := 0) rfl rfl)))))), (List.forall_mem_cons.2 ⟨(Log.past (by decide) (Log.at_ (LookG.of rfl (Lk.fldAddr rfl Tryd.underlying54 rfl rfl T3 rfl rfl rfl)))), (List.forall_mem_cons.2 ⟨(Log.at_ (LookG.of rfl (Lk.load1 (v := (.int .i64 v42_1)) rfl Tryd.underlying3 rfl rfl (H.rd_loc ok (i := 0) rfl rfl)))), noChk⟩)⟩)⟩)⟩), ?_⟩
              obtain ⟨e12, hS⟩ := hS
              refine R.lookL rfl rfl rfl (Lk.strAdd rfl rfl rfl e12) ?_
              obtain ⟨e13, hS⟩ := hS
              refine R.lookL rfl rfl rfl (Lk.strAdd rfl rfl rfl e13) ?_
              refine R.eff rfl rfl rfl (Eff.loc ok (Ef.call rfl CB61 rfl ((f61_ok hS).mono ?_)))
              rintro _ h_14 ⟨v50, rfl, hS⟩
              refine fun ok => ⟨(List.forall_mem_cons.2 ⟨(Log.past (by decide) (Log.past (by decide) (Log.past (by decide) (Log.at_ (LookG.of rfl (Lk.fldAddr rfl Tryd.underlying54 rfl rfl T3 rfl rfl rfl)))))), (List.forall_mem_cons.2 ⟨(Log.past (by decide) (Log.past (by decide) (Log.at_ (LookG.of rfl (Lk.load1 (v := (.int .i64 v42_1)) rfl Tryd.underlying3 rfl rfl (H.rd_loc ok (i := 0) rfl rfl)))))), (List.forall_mem_cons.2 ⟨(Log.past (by decide) (Log.at_ (LookG.of rfl (Lk.strAdd rfl rfl rfl e12)))), (List.forall_mem_cons.2 ⟨(Log.at_ (LookG.of rfl (Lk.strAdd rfl rfl rfl e13))), noChk⟩)⟩)⟩)⟩), ?_⟩
              obtain ⟨e14, hS⟩ := hS
              refine R.lookL rfl rfl rfl (Lk.strAdd rfl rfl rfl e14) ?_
              obtain ⟨e15, hS⟩ := hS
              refine R.lookL rfl rfl rfl (Lk.strAdd rfl rfl rfl e15) ?_
              refine R.eff rfl rfl rfl (Eff.loc ok (Ef.call rfl CB60 rfl ((f60_ok hS).mono ?_)))
              rintro _ h_15 ⟨v55, rfl, hS⟩
              refine fun ok => ⟨(List.forall_mem_cons.2 ⟨(Log.past (by decide) (Log.past (by decide) (Log.past (by decide) (Log.at_ (LookG.of rfl (Lk.strAdd rfl rfl rfl e12)))))), (List.forall_mem_cons.2 ⟨(Log.past (by decide) (Log.past (by decide) (Log.at_ (LookG.of rfl (Lk.strAdd rfl rfl rfl e13))))), (List.forall_mem_cons.2 ⟨(Log.past (by decide) (Log.at_ (LookG.of rfl (Lk.strAdd rfl rfl rfl e14)))), (List.forall_mem_cons.2 ⟨(Log.at_ (LookG.of rfl (Lk.strAdd rfl rfl rfl e15))), noChk⟩)⟩)⟩)⟩), ?_⟩
              obtain ⟨e16, hS⟩ := hS
              refine R.lookL rfl rfl rfl (Lk.strAdd rfl rfl rfl e16) ?_
              refine R.eff rfl rfl rfl (Eff.loc ok (Ef.call rfl CB59 rfl ((f59_ok hS).mono ?_)))
              rintro _ h_16 ⟨v57_0, v57_1, rfl, hS⟩
              refine fun ok => ⟨noChk, ?_⟩
              refine R.nil ?_
              refine EvC.seq ?_
              refine EvC.region [Item.look 0, Item.look 1, Item.look 2] (by kernel_rfl) ?_
              refine R.look (v := (.pointer (some ⟨b10, 3, none⟩))) rfl rfl rfl (Lk.fldAddr rfl Tryd.underlying54 rfl rfl T9 rfl rfl rfl) fun _ => ?_
              refine R.look rfl rfl rfl (Lk.load1 (v := (.string v42_3)) rfl Tryd.underlying9 rfl rfl (H.rd_loc ok (i := 0) rfl rfl)) fun _ => ?_
              refine R.look rfl rfl rfl (Lk.strNe rfl rfl rfl) fun _ => ?_
              refine R.nil ?_
              by_cases e17 : (!(ByteArray.toList v42_3 == ByteArray.toList ⟨#[]⟩)) = true
              · rw [if_pos e17] at hS
                refine EvC.condT rfl e17 ?_
                refine EvC.region [Item.look 0, Item.look 1, Item.look 2, Item.eff 3 []] (by kernel_rfl) ?_
                refine R.look (v := (.pointer (some ⟨b10, 3, none⟩))) rfl rfl rfl (Lk.fldAddr rfl Tryd.underlying54 rfl rfl T9 rfl rfl rfl) fun _ => ?_
                refine R.look rfl rfl rfl (Lk.load1 (v := (.string v42_3)) rfl Tryd.underlying9 rfl rfl (H.rd_loc ok (i := 0) rfl rfl)) fun _ => ?_
                obtain ⟨e18, hS⟩ := hS
                refine R.look rfl rfl rfl (Lk.strAdd rfl rfl rfl e18) fun _ => ?_
                refine R.eff rfl rfl rfl (Eff.loc ok (Ef.call rfl CB59 rfl ((f59_ok hS).mono ?_)))
                rintro _ h_17 ⟨v64_0, v64_1, rfl, hS⟩
                refine fun ok => ⟨noChk, ?_⟩
                refine R.nil ?_
                exact hIh_12 () _ _ _ (Env.le_put rfl (Env.le_put rfl (Env.le_put rfl (Env.le_put rfl (Env.le_emp _))))) (ok.sub (.cons _ List.Sublist.slnil)) (H.add_sub ok (.cons _ List.Sublist.slnil)) hS
              · rw [if_neg e17] at hS
                replace e17 := eq_false_of_ne_true e17
                refine EvC.condF rfl e17 ?_
                refine EvC.skip ?_
                exact hIh_12 () _ _ _ (Env.le_put rfl (Env.le_put rfl (Env.le_put rfl (Env.le_put rfl (Env.le_emp _))))) (ok.sub (.cons _ List.Sublist.slnil)) (H.add_sub ok (.cons _ List.Sublist.slnil)) hS
          · rw [if_neg e7] at hS
            replace e7 := eq_false_of_ne_true e7
            refine EvC.condF rfl e7 ?_
            refine EvC.exit ?_
            exact hIh_9 () _ _ _ (Env.le_put rfl (Env.le_emp _)) (ok.sub List.Sublist.slnil) (H.add_sub ok List.Sublist.slnil) hS
      · refine EvC.seq ?_
        refine EvC.region [Item.look 0, Item.look 1, Item.look 2, Item.look 3] (by kernel_rfl) ?_
        refine R.look (v := (.pointer (some ⟨b1, 0, none⟩))) rfl rfl rfl (Lk.fldAddr rfl Tryd.underlying29 rfl rfl T22 rfl rfl rfl) fun _ => ?_
        refine R.look rfl rfl rfl (Lk.load1 (v := (.slice p0_0.a p0_0.l p0_0.c)) rfl Tryd.underlying22 rfl rfl (H.rd_loc ok (i := 0) rfl rfl)) fun _ => ?_
        refine R.look rfl rfl rfl (Lk.len rfl Tryd.underlying22 rfl) fun _ => ?_
        refine R.look rfl rfl rfl (Lk.arith rfl rfl rfl rfl) fun _ => ?_
        refine R.nil ?_
        by_cases e19 : ((p0_0.l : Int) == 0) = true
        · rw [if_pos e19] at hS
          refine EvC.condT rfl e19 ?_
          refine EvC.region [Item.eff 0 []] (by kernel_rfl) ?_
          refine R.eff rfl rfl rfl (Eff.loc ok (Ef.call rfl CB59 rfl ((f59_ok hS).mono ?_)))
          rintro _ h_18 ⟨v35_0, v35_1, rfl, hS⟩
          refine fun ok => ⟨noChk, ?_⟩
          refine R.nil ?_
          exact hIh_8 () _ _ _ (Env.le_put rfl (Env.le_put rfl (Env.le_emp _))) (ok.sub (.cons_cons _ List.Sublist.slnil)) (H.add_sub ok (.cons_cons _ List.Sublist.slnil)) hS
        · rw [if_neg e19] at hS
          replace e19 := eq_false_of_ne_true e19
          refine EvC.condF rfl e19 ?_
          refine EvC.skip ?_
          exact hIh_8 () _ _ _ (Env.le_put rfl (Env.le_put rfl (Env.le_emp _))) (ok.sub (.cons_cons _ List.Sublist.slnil)) (H.add_sub ok (.cons_cons _ List.Sublist.slnil)) hS
    · refine EvC.seq ?_
      refine EvC.region [Item.look 0, Item.look 1, Item.look 2, Item.look 3] (by kernel_rfl) ?_
      refine R.look (v := (.pointer (some ⟨b1, 0, none⟩))) rfl rfl rfl (Lk.fldAddr rfl Tryd.underlying29 rfl rfl T22 rfl rfl rfl) fun _ => ?_
      refine R.look rfl rfl rfl (Lk.load1 (v := (.slice p0_0.a p0_0.l p0_0.c)) rfl Tryd.underlying22 rfl rfl (H.rd_loc ok (i := 0) rfl rfl)) fun _ => ?_
      refine R.look rfl rfl rfl (Lk.len rfl Tryd.underlying22 rfl) fun _ => ?_
      refine R.look rfl rfl rfl (Lk.move rfl rfl) fun _ => ?_
      refine R.nil ?_
      refine EvC.block ?_
      refine EvC.loop ?_
      refine LoopC.lfp (σ := Int) (fun s => (Env.put (Env.put (Env.put (Env.put (Env.put (Env.put Env.emp 22 (.int .i64 s)) 21 (.int .i64 (p0_0.l : Int))) 20 (.slice p0_0.a p0_0.l p0_0.c)) 6 (.pointer (some ⟨b6, 0, none⟩))) 5 (.map (some b16))) 1 (.pointer (some ⟨b1, 0, none⟩)))) (fun s => [(b1, .row ⟨[(.slice p0_0.a p0_0.l p0_0.c), (.slice p0_1.a p0_1.l p0_1.c)], 2, 29, true, true⟩)]) (fun X_1 hX_1 => ?_) hS (ok.sub (.cons_cons _ List.Sublist.slnil)) (Env.le_put rfl (Env.le_put rfl (Env.le_put rfl (Env.le_put rfl (Env.le_put rfl (Env.le_put rfl (Env.le_emp _))))))) (H.add_sub ok (.cons_cons _ List.Sublist.slnil))
      intro v22 h_19 hS ok
      replace hS : S25_l6 p0_0 p0_1 K b16 b6 X_1 v22 h_19 := hS
      change EvC _ _ _ (Env.put (Env.put (Env.put (Env.put (Env.put (Env.put Env.emp 22 (.int .i64 v22)) 21 (.int .i64 (p0_0.l : Int))) 20 (.slice p0_0.a p0_0.l p0_0.c)) 6 (.pointer (some ⟨b6, 0, none⟩))) 5 (.map (some b16))) 1 (.pointer (some ⟨b1, 0, none⟩))) (H.add h_19 [(b1, .row ⟨[(.slice p0_0.a p0_0.l p0_0.c), (.slice p0_1.a p0_1.l p0_1.c)], 2, 29, true, true⟩)]) _
      unfold S25_l6 at hS
      refine EvC.seq ?_
      refine EvC.region [Item.look 0] (by kernel_rfl) ?_
      refine R.look rfl rfl rfl (Lk.arith rfl rfl rfl rfl) fun _ => ?_
      refine R.nil ?_
      refine EvC.seq ?_
      by_cases e20 : (decide (v22 < (p0_0.l : Int))) = true
      · rw [if_pos e20] at hS
        refine EvC.condT rfl e20 ?_
        refine EvC.skip ?_
        refine EvC.seq ?_
        refine EvC.block ?_
        refine EvC.seq ?_
        refine EvC.region [Item.look 0, Item.look 1, Item.look 2] (by kernel_rfl) ?_
        obtain ⟨a24, e21, e22, e23, hS⟩ := hS
        refine R.look rfl rfl rfl (Lk.ixAddr rfl Tryd.underlying22 T4 rfl e21 rfl e22 e23) fun _ => ?_
        obtain ⟨v25, e24, hS⟩ := hS
        refine R.look rfl rfl rfl (Look.loc ok (Lk.load1 rfl Tryd.underlying4 rfl rfl e24)) fun _ => ?_
        refine R.look rfl rfl rfl (Lk.assign rfl rfl) fun _ => ?_
        refine R.nil ?_
        refine EvC.region [Item.look 0, Item.look 1, Item.look 2, Item.eff 3 []] (by kernel_rfl) ?_
        refine R.look rfl rfl rfl (Lk.move rfl rfl) fun _ => ?_
        refine R.look rfl rfl rfl (Lk.move rfl rfl) fun _ => ?_
        obtain ⟨v28, e25, hS⟩ := hS
        refine R.look rfl rfl rfl (Look.loc ok (Lk.lookup rfl Tryd.underlying125 Tryd.underlying4 rfl T9 rfl rfl e25)) fun _ => ?_
        refine R.eff rfl rfl rfl (Eff.loc ok (Ef.call rfl CB59 rfl ((f59_ok hS).mono ?_)))
        rintro _ h_20 ⟨v29_0, v29_1, rfl, hS⟩
        refine fun ok => ⟨noChk, ?_⟩
        refine R.nil ?_
        refine EvC.region [Item.look 0, Item.look 1] (by kernel_rfl) ?_
        refine R.look rfl rfl rfl (Lk.arith rfl rfl rfl rfl) fun _ => ?_
        refine R.look rfl rfl rfl (Lk.move rfl rfl) fun _ => ?_
        refine R.nil ?_
        exact hX_1 (IntKind.wrap .i64 (v22 + 1)) _ _ _ hS (ok.sub (.cons_cons _ List.Sublist.slnil)) (Env.le_put rfl (Env.le_put rfl (Env.le_put rfl (Env.le_put rfl (Env.le_put rfl (Env.le_put rfl (Env.le_emp _))))))) (H.add_sub ok (.cons_cons _ List.Sublist.slnil))
      · rw [if_neg e20] at hS
        replace e20 := eq_false_of_ne_true e20
        refine EvC.condF rfl e20 ?_
        refine EvC.exit ?_
        exact hIh_7 () _ _ _ (Env.le_put rfl (Env.le_put rfl (Env.le_emp _))) (ok.sub (.cons_cons _ List.Sublist.slnil)) (H.add_sub ok (.cons_cons _ List.Sublist.slnil)) hS
end Go.Proofs.YtimadnngfhbfiaaDoor
end

section
/- PRINTED by wip/gen.py: the machine's call of muntin/muntinlaw09.wakes does what S24 says. -/
namespace Go.Proofs.YtimadnngfhbfiaaDoor
open Go Go.Mu
set_option maxHeartbeats 4000000
set_option maxRecDepth 100000
theorem f24_ok {h : H} {K : Bool → H → Prop} (hS : S24  h K) : ACall Tryd.prog 24 ([] : List Value).toArray h (fun r h' => ∃ r0 : Bool, r = tup [(.bool r0)] ∧ K r0 h') := by
  refine ACall.enter (fn := Tryd.f24) Tryd.func24 rfl (Nat.le_of_ble_eq_true rfl) ?_
  unfold S24 at hS
  have ok := Lok.nil h
  change EvC _ _ _ _ (H.add h []) _
  refine EvC.seq ?_
  refine EvC.region [Item.look 0] (by kernel_rfl) ?_
  refine R.look rfl rfl rfl (Lk.assign rfl rfl) fun _ => ?_
  refine R.nil ?_
  refine EvC.seq ?_
  refine EvC.region [Item.alc 0, Item.look 1, Item.alc 2, Item.look 3, Item.eff 4 [], Item.look 5, Item.look 6, Item.look 7, Item.look 8, Item.look 9] (by kernel_rfl) ?_
  refine R.new (blk := (.row ⟨[(.bool false), (.bool true)], 2, 4, true, true⟩)) ok rfl rfl rfl (Ac.buildSlice (cs := [(.bool false), (.bool true)]) rfl Tryd.underlying22 T4 (by decide) (by decide) rfl rfl) rfl rfl fun b8 e1 ok => ?_
  replace hS := hS b8 _ e1 rfl
  refine R.look rfl rfl rfl (Lk.build (cs := [(.int .i64 0), (.int .i64 1), (.int .i64 0), (.string ⟨#[76]⟩)]) (pl := [(0, 1), (1, 1), (2, 1), (3, 1)]) rfl Tryd.underlying54 T54 (PlacesL.places (.cons T3 (.cons T3 (.cons T3 (.cons T9 PlacesL.nil))))) rfl rfl) fun _ => ?_
  refine R.new (blk := (.row ⟨[(.int .i64 0), (.int .i64 1), (.int .i64 0), (.string ⟨#[76]⟩)], 4, 54, true, true⟩)) ok rfl rfl rfl (Ac.buildSlice (cs := [(.int .i64 0), (.int .i64 1), (.int .i64 0), (.string ⟨#[76]⟩)]) rfl Tryd.underlying27 T54 (by decide) (by decide) rfl rfl) rfl rfl fun b10 e2 ok => ?_
  replace hS := hS b10 _ e2 rfl
  refine R.look rfl rfl rfl (Lk.build (cs := [(.slice (some ⟨b8, 0, none⟩) 2 2), (.slice (some ⟨b10, 0, none⟩) 1 1)]) (pl := [(0, 1), (1, 1)]) rfl Tryd.underlying29 T29 (PlacesL.places (.cons T22 (.cons T27 PlacesL.nil))) rfl rfl) fun _ => ?_
  refine R.eff rfl rfl rfl (Eff.loc ok (Ef.call rfl CB25 rfl ((f25_ok hS).mono ?_)))
  rintro _ h_3 ⟨v12_0, v12_1, rfl, hS⟩
  refine fun ok => ⟨noChk, ?_⟩
  refine R.look rfl rfl rfl (Lk.move rfl rfl) fun _ => ?_
  refine R.look rfl rfl rfl (Lk.extract rfl rfl rfl) fun _ => ?_
  refine R.look rfl rfl rfl (Lk.extract rfl rfl rfl) fun _ => ?_
  refine R.look rfl rfl rfl (Lk.assign rfl rfl) fun _ => ?_
  refine R.look rfl rfl rfl (Lk.assign rfl rfl) fun _ => ?_
  refine R.nil ?_
  refine EvC.seq ?_
  refine EvC.region [Item.look 0, Item.eff 1 [], Item.look 2, Item.look 3, Item.look 4, Item.alc 5, Item.eff 6 [], Item.look 7] (by kernel_rfl) ?_
  refine R.look rfl rfl rfl (Lk.build (cs := [(.int .i64 0), (.int .i64 1), (.int .i64 0), (.string ⟨#[76]⟩)]) (pl := [(0, 1), (1, 1), (2, 1), (3, 1)]) rfl Tryd.underlying54 T54 (PlacesL.places (.cons T3 (.cons T3 (.cons T3 (.cons T9 PlacesL.nil))))) rfl rfl) fun _ => ?_
  refine R.eff rfl rfl rfl (Eff.loc ok (Ef.call rfl CB22 rfl ((f22_ok hS).mono ?_)))
  rintro _ h_4 ⟨v17_0_0, v17_0_1, v17_0_2, v17_0_3, v17_1, rfl, hS⟩
  refine fun ok => ⟨noChk, ?_⟩
  refine R.look rfl rfl rfl (Lk.move rfl rfl) fun _ => ?_
  refine R.look rfl rfl rfl (Lk.extract rfl rfl rfl) fun _ => ?_
  refine R.look rfl rfl rfl (Lk.extract rfl rfl rfl) fun _ => ?_
  refine R.var (blk := .row ⟨[(.int .i64 0), (.int .i64 0), (.int .i64 0), (.string ⟨#[]⟩)], 4, 54, true, true⟩) ok rfl rfl rfl (Ac.alloc rfl T54) rfl rfl fun b3 ok => ?_
  refine R.effN rfl rfl rfl (Ef.storeLoc (i := 0) (vs := [(.int .i64 v17_0_0), (.int .i64 v17_0_1), (.int .i64 v17_0_2), (.string v17_0_3)]) (cs := [(.int .i64 v17_0_0), (.int .i64 v17_0_1), (.int .i64 v17_0_2), (.string v17_0_3)]) (l' := [(b3, .row ⟨[(.int .i64 v17_0_0), (.int .i64 v17_0_1), (.int .i64 v17_0_2), (.string v17_0_3)], 4, 54, true, true⟩)]) ok rfl T54 rfl rfl rfl rfl rfl rfl rfl rfl rfl rfl fun ok => ⟨noChk, ?_⟩)
  refine R.look rfl rfl rfl (Lk.assign rfl rfl) fun _ => ?_
  refine R.nil ?_
  refine EvC.seq ?_
  refine EvC.region [Item.look 0, Item.alc 1, Item.look 2, Item.eff 3 [], Item.look 4, Item.look 5, Item.look 6, Item.look 7, Item.look 8] (by kernel_rfl) ?_
  refine R.look rfl rfl rfl (Lk.build (cs := [(.int .i64 0), (.int .i64 0), (.int .i64 0), (.string ⟨#[]⟩)]) (pl := [(0, 1), (1, 1), (2, 1), (3, 1)]) rfl Tryd.underlying54 T54 (PlacesL.places (.cons T3 (.cons T3 (.cons T3 (.cons T9 PlacesL.nil))))) rfl rfl) fun _ => ?_
  refine R.new (blk := (.row ⟨[(.int .i64 0), (.int .i64 0), (.int .i64 0), (.string ⟨#[]⟩)], 4, 54, true, true⟩)) ok rfl rfl rfl (Ac.buildSlice (cs := [(.int .i64 0), (.int .i64 0), (.int .i64 0), (.string ⟨#[]⟩)]) rfl Tryd.underlying27 T54 (by decide) (by decide) rfl rfl) rfl rfl fun b22 e3 ok => ?_
  replace hS := hS b22 _ e3 rfl
  refine R.look rfl rfl rfl (Lk.build (cs := [(.slice none 0 0), (.slice (some ⟨b22, 0, none⟩) 1 1)]) (pl := [(0, 1), (1, 1)]) rfl Tryd.underlying29 T29 (PlacesL.places (.cons T22 (.cons T27 PlacesL.nil))) rfl rfl) fun _ => ?_
  refine R.eff rfl rfl rfl (Eff.loc ok (Ef.call rfl CB25 rfl ((f25_ok hS).mono ?_)))
  rintro _ h_6 ⟨v24_0, v24_1, rfl, hS⟩
  refine fun ok => ⟨noChk, ?_⟩
  refine R.look rfl rfl rfl (Lk.move rfl rfl) fun _ => ?_
  refine R.look rfl rfl rfl (Lk.extract rfl rfl rfl) fun _ => ?_
  refine R.look rfl rfl rfl (Lk.extract rfl rfl rfl) fun _ => ?_
  refine R.look rfl rfl rfl (Lk.assign rfl rfl) fun _ => ?_
  refine R.look rfl rfl rfl (Lk.assign rfl rfl) fun _ => ?_
  refine R.nil ?_
  refine EvC.join (σ := Bool) (fun s => (Env.put Env.emp 0 (.bool s))) (fun s => []) (fun s h_7 => S24_j1 K s h_7) ?_ (fun Ih_7 hIh_7 => ?_)
  · intro v0 h_7 ok hS
    replace hS : S24_j1 K v0 h_7 := hS
    change EvC _ _ _ (Env.put Env.emp 0 (.bool v0)) (H.add h_7 []) _
    unfold S24_j1 at hS
    refine EvC.ret ?_
    exact ⟨.inr rfl, _, _, (.cons (.tmp rfl) .nil), ok.le, _, rfl, hS⟩
  · refine EvC.region [Item.look 0, Item.look 1, Item.look 2, Item.look 3, Item.look 4, Item.look 5, Item.look 6, Item.look 7, Item.look 8, Item.look 9, Item.look 10, Item.look 11, Item.look 12, Item.look 13, Item.look 14, Item.look 15, Item.look 16, Item.look 17, Item.look 18, Item.look 19] (by kernel_rfl) ?_
    refine R.look rfl rfl rfl (Lk.move rfl rfl) fun _ => ?_
    refine R.look rfl rfl rfl (Lk.strEq rfl rfl rfl) fun _ => ?_
    refine R.look rfl rfl rfl (Lk.move rfl rfl) fun _ => ?_
    by_cases e4 : (ByteArray.toList v12_0 == ByteArray.toList ⟨#[115, 104, 97, 112, 101, 32, 112, 98, 10, 48, 32, 69, 32, 49, 32, 76, 10, 101, 110, 100, 10]⟩) = true
    · refine R.lookT rfl rfl rfl rfl e4 rfl (Lk.move rfl rfl) fun _ => ?_
      refine R.lookT rfl rfl rfl rfl e4 rfl (Lk.arith rfl rfl rfl rfl) fun _ => ?_
      refine R.look rfl rfl rfl (Lk.pick rfl rfl (fun _ => rfl) (fun e => by rw [e4] at e; cases e)) fun _ => ?_
      refine R.look rfl rfl rfl (Lk.move rfl rfl) fun _ => ?_
      by_cases e5 : (v12_1 == 0) = true
      · refine R.lookT rfl rfl rfl rfl e5 rfl (Lk.loadN (vs := [(.int .i64 v17_0_0), (.int .i64 v17_0_1), (.int .i64 v17_0_2), (.string v17_0_3)]) rfl Tryd.underlying54 rfl T54 rfl (H.rdn_loc ok (i := 0) rfl rfl rfl)) fun _ => ?_
        refine R.lookT rfl rfl rfl rfl e5 rfl (Lk.build (cs := [(.int .i64 1), (.int .i64 0), (.int .i64 3), (.string ⟨#[82]⟩)]) (pl := [(0, 1), (1, 1), (2, 1), (3, 1)]) rfl Tryd.underlying54 T54 (PlacesL.places (.cons T3 (.cons T3 (.cons T3 (.cons T9 PlacesL.nil))))) rfl rfl) fun _ => ?_
        refine R.lookT (v := (.bool ((v17_0_0 == 1) && ((v17_0_1 == 0) && ((v17_0_2 == 3) && ((ByteArray.toList v17_0_3 == ByteArray.toList ⟨#[82]⟩) && true)))))) rfl rfl rfl rfl e5 rfl (Lk.eqS rfl EG54 rfl rfl (EqR.struct Tryd.underlying54 SH54 (EqF.cons (a := (.int .i64 v17_0_0)) (b := (.int .i64 1)) (by decide) Tryd.underlying3 T3 rfl rfl (EqR.int Tryd.underlying3) (EqF.cons (a := (.int .i64 v17_0_1)) (b := (.int .i64 0)) (by decide) Tryd.underlying3 T3 rfl rfl (EqR.int Tryd.underlying3) (EqF.cons (a := (.int .i64 v17_0_2)) (b := (.int .i64 3)) (by decide) Tryd.underlying3 T3 rfl rfl (EqR.int Tryd.underlying3) (EqF.cons (a := (.string v17_0_3)) (b := (.string ⟨#[82]⟩)) (by decide) Tryd.underlying9 T9 rfl rfl (EqR.str Tryd.underlying9) EqF.nil)))))) fun _ => ?_
        refine R.look (v := (.bool ((v17_0_0 == 1) && ((v17_0_1 == 0) && ((v17_0_2 == 3) && ((ByteArray.toList v17_0_3 == ByteArray.toList ⟨#[82]⟩) && true)))))) rfl rfl rfl (Lk.pick rfl rfl (fun _ => rfl) (fun e => by rw [e5] at e; cases e)) fun _ => ?_
        refine R.look (v := (.bool ((v17_0_0 == 1) && ((v17_0_1 == 0) && ((v17_0_2 == 3) && ((ByteArray.toList v17_0_3 == ByteArray.toList ⟨#[82]⟩) && true)))))) rfl rfl rfl (Lk.move rfl rfl) fun _ => ?_
        by_cases e6 : ((v17_0_0 == 1) && ((v17_0_1 == 0) && ((v17_0_2 == 3) && ((ByteArray.toList v17_0_3 == ByteArray.toList ⟨#[82]⟩) && true)))) = true
        · refine R.lookT rfl rfl rfl rfl e6 rfl (Lk.move rfl rfl) fun _ => ?_
          refine R.lookT rfl rfl rfl rfl e6 rfl (Lk.arith rfl rfl rfl rfl) fun _ => ?_
          refine R.look rfl rfl rfl (Lk.pick rfl rfl (fun _ => rfl) (fun e => by rw [e6] at e; cases e)) fun _ => ?_
          refine R.look rfl rfl rfl (Lk.move rfl rfl) fun _ => ?_
          by_cases e7 : (v17_1 == 0) = true
          · refine R.lookT rfl rfl rfl rfl e7 rfl (Lk.move rfl rfl) fun _ => ?_
            refine R.lookT rfl rfl rfl rfl e7 rfl (Lk.arith rfl rfl rfl rfl) fun _ => ?_
            refine R.look rfl rfl rfl (Lk.pick rfl rfl (fun _ => rfl) (fun e => by rw [e7] at e; cases e)) fun _ => ?_
            refine R.look rfl rfl rfl (Lk.assign rfl rfl) fun _ => ?_
            refine R.nil ?_
            exact hIh_7 (((((ByteArray.toList v12_0 == ByteArray.toList ⟨#[115, 104, 97, 112, 101, 32, 112, 98, 10, 48, 32, 69, 32, 49, 32, 76, 10, 101, 110, 100, 10]⟩) && (v12_1 == 0)) && ((v17_0_0 == 1) && ((v17_0_1 == 0) && ((v17_0_2 == 3) && ((ByteArray.toList v17_0_3 == ByteArray.toList ⟨#[82]⟩) && true))))) && (v17_1 == 0)) && (v24_1 == 3)) _ _ _ (Env.le_put (by rw [e4, e5, e6, e7]; rfl) (Env.le_emp _)) (ok.sub (.cons _ List.Sublist.slnil)) (H.add_sub ok (.cons _ List.Sublist.slnil)) hS
          · replace e7 := eq_false_of_ne_true e7
            refine R.lookF rfl rfl rfl rfl e7 rfl fun _ => ?_
            refine R.lookF rfl rfl rfl rfl e7 rfl fun _ => ?_
            refine R.look rfl rfl rfl (Lk.pick rfl rfl (fun e => by rw [e7] at e; cases e) (fun _ => rfl)) fun _ => ?_
            refine R.look rfl rfl rfl (Lk.assign rfl rfl) fun _ => ?_
            refine R.nil ?_
            exact hIh_7 (((((ByteArray.toList v12_0 == ByteArray.toList ⟨#[115, 104, 97, 112, 101, 32, 112, 98, 10, 48, 32, 69, 32, 49, 32, 76, 10, 101, 110, 100, 10]⟩) && (v12_1 == 0)) && ((v17_0_0 == 1) && ((v17_0_1 == 0) && ((v17_0_2 == 3) && ((ByteArray.toList v17_0_3 == ByteArray.toList ⟨#[82]⟩) && true))))) && (v17_1 == 0)) && (v24_1 == 3)) _ _ _ (Env.le_put (by rw [e4, e5, e6, e7]; rfl) (Env.le_emp _)) (ok.sub (.cons _ List.Sublist.slnil)) (H.add_sub ok (.cons _ List.Sublist.slnil)) hS
        · replace e6 := eq_false_of_ne_true e6
          refine R.lookF rfl rfl rfl rfl e6 rfl fun _ => ?_
          refine R.lookF rfl rfl rfl rfl e6 rfl fun _ => ?_
          refine R.look rfl rfl rfl (Lk.pick rfl rfl (fun e => by rw [e6] at e; cases e) (fun _ => rfl)) fun _ => ?_
          refine R.look rfl rfl rfl (Lk.move rfl rfl) fun _ => ?_
          refine R.lookF rfl rfl rfl rfl rfl rfl fun _ => ?_
          refine R.lookF rfl rfl rfl rfl rfl rfl fun _ => ?_
          refine R.look rfl rfl rfl (Lk.pick rfl rfl (fun e => by cases e) (fun _ => rfl)) fun _ => ?_
          refine R.look rfl rfl rfl (Lk.assign rfl rfl) fun _ => ?_
          refine R.nil ?_
          exact hIh_7 (((((ByteArray.toList v12_0 == ByteArray.toList ⟨#[115, 104, 97, 112, 101, 32, 112, 98, 10, 48, 32, 69, 32, 49, 32, 76, 10, 101, 110, 100, 10]⟩) && (v12_1 == 0)) && ((v17_0_0 == 1) && ((v17_0_1 == 0) && ((v17_0_2 == 3) && ((ByteArray.toList v17_0_3 == ByteArray.toList ⟨#[82]⟩) && true))))) && (v17_1 == 0)) && (v24_1 == 3)) _ _ _ (Env.le_put (by rw [e4, e5, e6]; rfl) (Env.le_emp _)) (ok.sub (.cons _ List.Sublist.slnil)) (H.add_sub ok (.cons _ List.Sublist.slnil)) hS
      · replace e5 := eq_false_of_ne_true e5
        refine R.lookF rfl rfl rfl rfl e5 rfl fun _ => ?_
        refine R.lookF rfl rfl rfl rfl e5 rfl fun _ => ?_
        refine R.lookF rfl rfl rfl rfl e5 rfl fun _ => ?_
        refine R.look rfl rfl rfl (Lk.pick rfl rfl (fun e => by rw [e5] at e; cases e) (fun _ => rfl)) fun _ => ?_
        refine R.look rfl rfl rfl (Lk.move rfl rfl) fun _ => ?_
        refine R.lookF rfl rfl rfl rfl rfl rfl fun _ => ?_
        refine R.lookF rfl rfl rfl rfl rfl rfl fun _ => ?_
        refine R.look rfl rfl rfl (Lk.pick rfl rfl (fun e => by cases e) (fun _ => rfl)) fun _ => ?_
        refine R.look rfl rfl rfl (Lk.move rfl rfl) fun _ => ?_
        refine R.lookF rfl rfl rfl rfl rfl rfl fun _ => ?_
        refine R.lookF rfl rfl rfl rfl rfl rfl fun _ => ?_
        refine R.look rfl rfl rfl (Lk.pick rfl rfl (fun e => by cases e) (fun _ => rfl)) fun _ => ?_
        refine R.look rfl rfl rfl (Lk.assign rfl rfl) fun _ => ?_
        refine R.nil ?_
        exact hIh_7 (((((ByteArray.toList v12_0 == ByteArray.toList ⟨#[115, 104, 97, 112, 101, 32, 112, 98, 10, 48, 32, 69, 32, 49, 32, 76, 10, 101, 110, 100, 10]⟩) && (v12_1 == 0)) && ((v17_0_0 == 1) && ((v17_0_1 == 0) && ((v17_0_2 == 3) && ((ByteArray.toList v17_0_3 == ByteArray.toList ⟨#[82]⟩) && true))))) && (v17_1 == 0)) && (v24_1 == 3)) _ _ _ (Env.le_put (by rw [e4, e5]; rfl) (Env.le_emp _)) (ok.sub (.cons _ List.Sublist.slnil)) (H.add_sub ok (.cons _ List.Sublist.slnil)) hS
    · replace e4 := eq_false_of_ne_true e4
      refine R.lookF rfl rfl rfl rfl e4 rfl fun _ => ?_
      refine R.lookF rfl rfl rfl rfl e4 rfl fun _ => ?_
      refine R.look rfl rfl rfl (Lk.pick rfl rfl (fun e => by rw [e4] at e; cases e) (fun _ => rfl)) fun _ => ?_
      refine R.look rfl rfl rfl (Lk.move rfl rfl) fun _ => ?_
      refine R.lookF rfl rfl rfl rfl rfl rfl fun _ => ?_
      refine R.lookF rfl rfl rfl rfl rfl rfl fun _ => ?_
      refine R.lookF rfl rfl rfl rfl rfl rfl fun _ => ?_
      refine R.look rfl rfl rfl (Lk.pick rfl rfl (fun e => by cases e) (fun _ => rfl)) fun _ => ?_
      refine R.look rfl rfl rfl (Lk.move rfl rfl) fun _ => ?_
      refine R.lookF rfl rfl rfl rfl rfl rfl fun _ => ?_
      refine R.lookF rfl rfl rfl rfl rfl rfl fun _ => ?_
      refine R.look rfl rfl rfl (Lk.pick rfl rfl (fun e => by cases e) (fun _ => rfl)) fun _ => ?_
      refine R.look rfl rfl rfl (Lk.move rfl rfl) fun _ => ?_
      refine R.lookF rfl rfl rfl rfl rfl rfl fun _ => ?_
      refine R.lookF rfl rfl rfl rfl rfl rfl fun _ => ?_
      refine R.look rfl rfl rfl (Lk.pick rfl rfl (fun e => by cases e) (fun _ => rfl)) fun _ => ?_
      refine R.look rfl rfl rfl (Lk.assign rfl rfl) fun _ => ?_
      refine R.nil ?_
      exact hIh_7 (((((ByteArray.toList v12_0 == ByteArray.toList ⟨#[115, 104, 97, 112, 101, 32, 112, 98, 10, 48, 32, 69, 32, 49, 32, 76, 10, 101, 110, 100, 10]⟩) && (v12_1 == 0)) && ((v17_0_0 == 1) && ((v17_0_1 == 0) && ((v17_0_2 == 3) && ((ByteArray.toList v17_0_3 == ByteArray.toList ⟨#[82]⟩) && true))))) && (v17_1 == 0)) && (v24_1 == 3)) _ _ _ (Env.le_put (by rw [e4]; rfl) (Env.le_emp _)) (ok.sub (.cons _ List.Sublist.slnil)) (H.add_sub ok (.cons _ List.Sublist.slnil)) hS
end Go.Proofs.YtimadnngfhbfiaaDoor
end

section
/- PRINTED by wip/gen.py: the machine's call of muntin/muntinref08.Same does what S26 says. -/
namespace Go.Proofs.YtimadnngfhbfiaaDoor
open Go Go.Mu
set_option maxHeartbeats 4000000
set_option maxRecDepth 100000
theorem f26_ok {p0_0 : Sl} {p0_1 : Sl} {p1_0 : Sl} {p1_1 : Sl} {h : H} {K : Bool → H → Prop} (hS : S26 p0_0 p0_1 p1_0 p1_1 h K) : ACall Tryd.prog 26 ([(.agg ([(.slice p0_0.a p0_0.l p0_0.c), (.slice p0_1.a p0_1.l p0_1.c)] : List Value).toArray), (.agg ([(.slice p1_0.a p1_0.l p1_0.c), (.slice p1_1.a p1_1.l p1_1.c)] : List Value).toArray)] : List Value).toArray h (fun r h' => ∃ r0 : Bool, r = tup [(.bool r0)] ∧ K r0 h') := by
  refine ACall.enter (fn := Tryd.f26) Tryd.func26 rfl (Nat.le_of_ble_eq_true rfl) ?_
  unfold S26 at hS
  have ok := Lok.nil h
  change EvC _ _ _ _ (H.add h []) _
  refine EvC.seq ?_
  refine EvC.region [Item.alc 0, Item.alc 1, Item.look 2] (by kernel_rfl) ?_
  refine R.var (blk := .row ⟨[(.slice p0_0.a p0_0.l p0_0.c), (.slice p0_1.a p0_1.l p0_1.c)], 2, 29, true, true⟩) ok rfl rfl rfl (Ac.box rfl rfl) rfl rfl fun b2 ok => ?_
  refine R.var (blk := .row ⟨[(.slice p1_0.a p1_0.l p1_0.c), (.slice p1_1.a p1_1.l p1_1.c)], 2, 29, true, true⟩) ok rfl rfl rfl (Ac.box rfl rfl) rfl rfl fun b3 ok => ?_
  refine R.look rfl rfl rfl (Lk.assign rfl rfl) fun _ => ?_
  refine R.nil ?_
  refine EvC.seq ?_
  refine EvC.join (σ := Bool) (fun s => (Env.put (Env.put (Env.put Env.emp 22 (.bool s)) 3 (.pointer (some ⟨b3, 0, none⟩))) 2 (.pointer (some ⟨b2, 0, none⟩)))) (fun s => [(b3, .row ⟨[(.slice p1_0.a p1_0.l p1_0.c), (.slice p1_1.a p1_1.l p1_1.c)], 2, 29, true, true⟩), (b2, .row ⟨[(.slice p0_0.a p0_0.l p0_0.c), (.slice p0_1.a p0_1.l p0_1.c)], 2, 29, true, true⟩)]) (fun s h_1 => S26_j5 p0_0 p0_1 p1_0 p1_1 K s h_1) ?_ (fun Ih_1 hIh_1 => ?_)
  · intro v22 h_1 ok hS
    replace hS : S26_j5 p0_0 p0_1 p1_0 p1_1 K v22 h_1 := hS
    change EvC _ _ _ (Env.put (Env.put (Env.put Env.emp 22 (.bool v22)) 3 (.pointer (some ⟨b3, 0, none⟩))) 2 (.pointer (some ⟨b2, 0, none⟩))) (H.add h_1 [(b3, .row ⟨[(.slice p1_0.a p1_0.l p1_0.c), (.slice p1_1.a p1_1.l p1_1.c)], 2, 29, true, true⟩), (b2, .row ⟨[(.slice p0_0.a p0_0.l p0_0.c), (.slice p0_1.a p0_1.l p0_1.c)], 2, 29, true, true⟩)]) _
    unfold S26_j5 at hS
    by_cases e1 : v22 = true
    · rw [if_pos e1] at hS
      refine EvC.condT rfl e1 ?_
      refine EvC.seq ?_
      refine EvC.region [Item.look 0] (by kernel_rfl) ?_
      refine R.look rfl rfl rfl (Lk.assign rfl rfl) fun _ => ?_
      refine R.nil ?_
      refine EvC.ret ?_
      exact ⟨.inr rfl, _, _, (.cons (.tmp rfl) .nil), ok.le, _, rfl, hS⟩
    · rw [if_neg e1] at hS
      replace e1 := eq_false_of_ne_true e1
      refine EvC.condF rfl e1 ?_
      refine EvC.skip ?_
      refine EvC.join (σ := Unit) (fun s => (Env.put (Env.put Env.emp 3 (.pointer (some ⟨b3, 0, none⟩))) 2 (.pointer (some ⟨b2, 0, none⟩)))) (fun s => [(b3, .row ⟨[(.slice p1_0.a p1_0.l p1_0.c), (.slice p1_1.a p1_1.l p1_1.c)], 2, 29, true, true⟩), (b2, .row ⟨[(.slice p0_0.a p0_0.l p0_0.c), (.slice p0_1.a p0_1.l p0_1.c)], 2, 29, true, true⟩)]) (fun s h_2 => S26_j3 p0_1 p1_1 K h_2) ?_ (fun Ih_2 hIh_2 => ?_)
      · rintro ⟨⟩ h_2 ok hS
        replace hS : S26_j3 p0_1 p1_1 K h_2 := hS
        change EvC _ _ _ (Env.put (Env.put Env.emp 3 (.pointer (some ⟨b3, 0, none⟩))) 2 (.pointer (some ⟨b2, 0, none⟩))) (H.add h_2 [(b3, .row ⟨[(.slice p1_0.a p1_0.l p1_0.c), (.slice p1_1.a p1_1.l p1_1.c)], 2, 29, true, true⟩), (b2, .row ⟨[(.slice p0_0.a p0_0.l p0_0.c), (.slice p0_1.a p0_1.l p0_1.c)], 2, 29, true, true⟩)]) _
        unfold S26_j3 at hS
        refine EvC.join (σ := Unit) (fun s => Env.emp) (fun s => []) (fun s h_3 => S26_j1 K h_3) ?_ (fun Ih_3 hIh_3 => ?_)
        · rintro ⟨⟩ h_3 ok hS
          replace hS : S26_j1 K h_3 := hS
          change EvC _ _ _ Env.emp (H.add h_3 []) _
          unfold S26_j1 at hS
          refine EvC.seq ?_
          refine EvC.region [Item.look 0] (by kernel_rfl) ?_
          refine R.look rfl rfl rfl (Lk.assign rfl rfl) fun _ => ?_
          refine R.nil ?_
          refine EvC.ret ?_
          exact ⟨.inr rfl, _, _, (.cons (.tmp rfl) .nil), ok.le, _, rfl, hS⟩
        · refine EvC.seq ?_
          refine EvC.region [Item.look 0] (by kernel_rfl) ?_
          refine R.look rfl rfl rfl (Lk.assign rfl rfl) fun _ => ?_
          refine R.nil ?_
          refine EvC.block ?_
          refine EvC.loop ?_
          refine LoopC.lfp (σ := Int) (fun s => (Env.put (Env.put (Env.put Env.emp 6 (.int .i64 s)) 3 (.pointer (some ⟨b3, 0, none⟩))) 2 (.pointer (some ⟨b2, 0, none⟩)))) (fun s => [(b3, .row ⟨[(.slice p1_0.a p1_0.l p1_0.c), (.slice p1_1.a p1_1.l p1_1.c)], 2, 29, true, true⟩), (b2, .row ⟨[(.slice p0_0.a p0_0.l p0_0.c), (.slice p0_1.a p0_1.l p0_1.c)], 2, 29, true, true⟩)]) (fun X hX => ?_) hS (ok.sub (.cons_cons _ (.cons_cons _ List.Sublist.slnil))) (Env.le_put rfl (Env.le_put rfl (Env.le_put rfl (Env.le_emp _)))) (H.add_sub ok (.cons_cons _ (.cons_cons _ List.Sublist.slnil)))
          intro v6 h_4 hS ok
          replace hS : S26_l2 p0_1 p1_1 K X v6 h_4 := hS
          change EvC _ _ _ (Env.put (Env.put (Env.put Env.emp 6 (.int .i64 v6)) 3 (.pointer (some ⟨b3, 0, none⟩))) 2 (.pointer (some ⟨b2, 0, none⟩))) (H.add h_4 [(b3, .row ⟨[(.slice p1_0.a p1_0.l p1_0.c), (.slice p1_1.a p1_1.l p1_1.c)], 2, 29, true, true⟩), (b2, .row ⟨[(.slice p0_0.a p0_0.l p0_0.c), (.slice p0_1.a p0_1.l p0_1.c)], 2, 29, true, true⟩)]) _
          unfold S26_l2 at hS
          refine EvC.seq ?_
          refine EvC.seq ?_
          refine EvC.region [Item.look 0, Item.look 1, Item.look 2, Item.look 3, Item.look 4] (by kernel_rfl) ?_
          refine R.look rfl rfl rfl (Lk.move rfl rfl) fun _ => ?_
          refine R.look (v := (.pointer (some ⟨b2, 1, none⟩))) rfl rfl rfl (Lk.fldAddr rfl Tryd.underlying29 rfl rfl T27 rfl rfl rfl) fun _ => ?_
          refine R.look rfl rfl rfl (Lk.load1 (v := (.slice p0_1.a p0_1.l p0_1.c)) rfl Tryd.underlying27 rfl rfl (H.rd_loc ok (i := 1) rfl rfl)) fun _ => ?_
          refine R.look rfl rfl rfl (Lk.len rfl Tryd.underlying27 rfl) fun _ => ?_
          refine R.look rfl rfl rfl (Lk.arith rfl rfl rfl rfl) fun _ => ?_
          refine R.nil ?_
          by_cases e2 : (decide (v6 < (p0_1.l : Int))) = true
          · rw [if_pos e2] at hS
            refine EvC.condT rfl e2 ?_
            refine EvC.skip ?_
            refine EvC.seq ?_
            refine EvC.block ?_
            refine EvC.seq ?_
            refine EvC.draw [0, 1, 0, 7, 15, 0, 32, 0, 224, 480, 1023] [Item.look 0, Item.look 1, Item.look 2, Item.look 3, Item.look 4, Item.look 5, Item.look 6, Item.look 7, Item.look 8, Item.look 9, Item.look 10] MO (by kernel_rfl) ?_
            refine R.look (v := (.pointer (some ⟨b2, 1, none⟩))) rfl rfl rfl (Lk.fldAddr rfl Tryd.underlying29 rfl rfl T27 rfl rfl rfl) fun _ => ?_
            refine R.look rfl rfl rfl (Lk.load1 (v := (.slice p0_1.a p0_1.l p0_1.c)) rfl Tryd.underlying27 rfl rfl (H.rd_loc ok (i := 1) rfl rfl)) fun _ => ?_
            refine R.look rfl rfl rfl (Lk.move rfl rfl) fun _ => ?_
            obtain ⟨a51, e3, e4, e5, hS⟩ := hS
            refine R.look rfl rfl rfl (Lk.ixAddr rfl Tryd.underlying27 T54 rfl e3 rfl e4 e5) fun _ => ?_
            obtain ⟨v52_0, v52_1, v52_2, v52_3, e6, hS⟩ := hS
            refine R.look rfl rfl rfl (Look.loc ok (Lk.loadN rfl Tryd.underlying54 rfl T54 rfl e6)) fun _ => ?_
            refine R.look (v := (.pointer (some ⟨b3, 1, none⟩))) rfl rfl rfl (Lk.fldAddr rfl Tryd.underlying29 rfl rfl T27 rfl rfl rfl) fun _ => ?_
            refine R.look rfl rfl rfl (Lk.load1 (v := (.slice p1_1.a p1_1.l p1_1.c)) rfl Tryd.underlying27 rfl rfl (H.rd_loc ok (i := 0) rfl rfl)) fun _ => ?_
            refine R.look rfl rfl rfl (Lk.move rfl rfl) fun _ => ?_
            obtain ⟨a56, e7, e8, e9, hS⟩ := hS
            refine R.look rfl rfl rfl (Lk.ixAddr rfl Tryd.underlying27 T54 rfl e7 rfl e8 e9) fun _ => ?_
            obtain ⟨v57_0, v57_1, v57_2, v57_3, e10, hS⟩ := hS
            refine R.look rfl rfl rfl (Look.loc ok (Lk.loadN rfl Tryd.underlying54 rfl T54 rfl e10)) fun _ => ?_
            refine R.look (v := (.bool (!((v52_0 == v57_0) && ((v52_1 == v57_1) && ((v52_2 == v57_2) && ((ByteArray.toList v52_3 == ByteArray.toList v57_3) && true))))))) rfl rfl rfl (Lk.neS rfl EG54 rfl rfl (EqR.struct Tryd.underlying54 SH54 (EqF.cons (a := (.int .i64 v52_0)) (b := (.int .i64 v57_0)) (by decide) Tryd.underlying3 T3 rfl rfl (EqR.int Tryd.underlying3) (EqF.cons (a := (.int .i64 v52_1)) (b := (.int .i64 v57_1)) (by decide) Tryd.underlying3 T3 rfl rfl (EqR.int Tryd.underlying3) (EqF.cons (a := (.int .i64 v52_2)) (b := (.int .i64 v57_2)) (by decide) Tryd.underlying3 T3 rfl rfl (EqR.int Tryd.underlying3) (EqF.cons (a := (.string v52_3)) (b := (.string v57_3)) (by decide) Tryd.underlying9 T9 rfl rfl (EqR.str Tryd.underlying9) EqF.nil)))))) fun _ => ?_
            refine R.nil ?_
            by_cases e11 : (!((v52_0 == v57_0) && ((v52_1 == v57_1) && ((v52_2 == v57_2) && ((ByteArray.toList v52_3 == ByteArray.toList v57_3) && true))))) = true
            · rw [if_pos e11] at hS
              refine EvC.condT rfl e11 ?_
              refine EvC.seq ?_
              refine EvC.region [Item.look 0] (by kernel_rfl) ?_
              refine R.look rfl rfl rfl (Lk.assign rfl rfl) fun _ => ?_
              refine R.nil ?_
              refine EvC.ret ?_
              exact ⟨.inr rfl, _, _, (.cons (.tmp rfl) .nil), ok.le, _, rfl, hS⟩
            · rw [if_neg e11] at hS
              replace e11 := eq_false_of_ne_true e11
              refine EvC.condF rfl e11 ?_
              refine EvC.skip ?_
              refine EvC.region [Item.look 0, Item.look 1, Item.look 2] (by kernel_rfl) ?_
              refine R.look rfl rfl rfl (Lk.move rfl rfl) fun _ => ?_
              refine R.look rfl rfl rfl (Lk.arith rfl rfl rfl rfl) fun _ => ?_
              refine R.look rfl rfl rfl (Lk.assign rfl rfl) fun _ => ?_
              refine R.nil ?_
              exact hX (IntKind.wrap .i64 (v6 + 1)) _ _ _ hS (ok.sub (.cons_cons _ (.cons_cons _ List.Sublist.slnil))) (Env.le_put rfl (Env.le_put rfl (Env.le_put rfl (Env.le_emp _)))) (H.add_sub ok (.cons_cons _ (.cons_cons _ List.Sublist.slnil)))
          · rw [if_neg e2] at hS
            replace e2 := eq_false_of_ne_true e2
            refine EvC.condF rfl e2 ?_
            refine EvC.exit ?_
            exact hIh_3 () _ _ _ (Env.le_emp _) (ok.sub (.cons _ (.cons _ List.Sublist.slnil))) (H.add_sub ok (.cons _ (.cons _ List.Sublist.slnil))) hS
      · refine EvC.seq ?_
        refine EvC.region [Item.look 0] (by kernel_rfl) ?_
        refine R.look rfl rfl rfl (Lk.assign rfl rfl) fun _ => ?_
        refine R.nil ?_
        refine EvC.block ?_
        refine EvC.loop ?_
        refine LoopC.lfp (σ := Int) (fun s => (Env.put (Env.put (Env.put Env.emp 5 (.int .i64 s)) 3 (.pointer (some ⟨b3, 0, none⟩))) 2 (.pointer (some ⟨b2, 0, none⟩)))) (fun s => [(b3, .row ⟨[(.slice p1_0.a p1_0.l p1_0.c), (.slice p1_1.a p1_1.l p1_1.c)], 2, 29, true, true⟩), (b2, .row ⟨[(.slice p0_0.a p0_0.l p0_0.c), (.slice p0_1.a p0_1.l p0_1.c)], 2, 29, true, true⟩)]) (fun X_1 hX_1 => ?_) hS (ok.sub (.cons_cons _ (.cons_cons _ List.Sublist.slnil))) (Env.le_put rfl (Env.le_put rfl (Env.le_put rfl (Env.le_emp _)))) (H.add_sub ok (.cons_cons _ (.cons_cons _ List.Sublist.slnil)))
        intro v5 h_5 hS ok
        replace hS : S26_l4 p0_0 p0_1 p1_0 p1_1 K X_1 v5 h_5 := hS
        change EvC _ _ _ (Env.put (Env.put (Env.put Env.emp 5 (.int .i64 v5)) 3 (.pointer (some ⟨b3, 0, none⟩))) 2 (.pointer (some ⟨b2, 0, none⟩))) (H.add h_5 [(b3, .row ⟨[(.slice p1_0.a p1_0.l p1_0.c), (.slice p1_1.a p1_1.l p1_1.c)], 2, 29, true, true⟩), (b2, .row ⟨[(.slice p0_0.a p0_0.l p0_0.c), (.slice p0_1.a p0_1.l p0_1.c)], 2, 29, true, true⟩)]) _
        unfold S26_l4 at hS
        refine EvC.seq ?_
        refine EvC.seq ?_
        refine EvC.region [Item.look 0, Item.look 1, Item.look 2, Item.look 3, Item.look 4] (by kernel_rfl) ?_
        refine R.look rfl rfl rfl (Lk.move rfl rfl) fun _ => ?_
        refine R.look (v := (.pointer (some ⟨b2, 0, none⟩))) rfl rfl rfl (Lk.fldAddr rfl Tryd.underlying29 rfl rfl T22 rfl rfl rfl) fun _ => ?_
        refine R.look rfl rfl rfl (Lk.load1 (v := (.slice p0_0.a p0_0.l p0_0.c)) rfl Tryd.underlying22 rfl rfl (H.rd_loc ok (i := 1) rfl rfl)) fun _ => ?_
        refine R.look rfl rfl rfl (Lk.len rfl Tryd.underlying22 rfl) fun _ => ?_
        refine R.look rfl rfl rfl (Lk.arith rfl rfl rfl rfl) fun _ => ?_
        refine R.nil ?_
        by_cases e12 : (decide (v5 < (p0_0.l : Int))) = true
        · rw [if_pos e12] at hS
          refine EvC.condT rfl e12 ?_
          refine EvC.skip ?_
          refine EvC.seq ?_
          refine EvC.block ?_
          refine EvC.seq ?_
          refine EvC.draw [0, 1, 0, 7, 15, 0, 32, 0, 224, 480, 1023] [Item.look 0, Item.look 1, Item.look 2, Item.look 3, Item.look 4, Item.look 5, Item.look 6, Item.look 7, Item.look 8, Item.look 9, Item.look 10] MO (by kernel_rfl) ?_
          refine R.look (v := (.pointer (some ⟨b2, 0, none⟩))) rfl rfl rfl (Lk.fldAddr rfl Tryd.underlying29 rfl rfl T22 rfl rfl rfl) fun _ => ?_
          refine R.look rfl rfl rfl (Lk.load1 (v := (.slice p0_0.a p0_0.l p0_0.c)) rfl Tryd.underlying22 rfl rfl (H.rd_loc ok (i := 1) rfl rfl)) fun _ => ?_
          refine R.look rfl rfl rfl (Lk.move rfl rfl) fun _ => ?_
          obtain ⟨a33, e13, e14, e15, hS⟩ := hS
          refine R.look rfl rfl rfl (Lk.ixAddr rfl Tryd.underlying22 T4 rfl e13 rfl e14 e15) fun _ => ?_
          obtain ⟨v34, e16, hS⟩ := hS
          refine R.look rfl rfl rfl (Look.loc ok (Lk.load1 rfl Tryd.underlying4 rfl rfl e16)) fun _ => ?_
          refine R.look (v := (.pointer (some ⟨b3, 0, none⟩))) rfl rfl rfl (Lk.fldAddr rfl Tryd.underlying29 rfl rfl T22 rfl rfl rfl) fun _ => ?_
          refine R.look rfl rfl rfl (Lk.load1 (v := (.slice p1_0.a p1_0.l p1_0.c)) rfl Tryd.underlying22 rfl rfl (H.rd_loc ok (i := 0) rfl rfl)) fun _ => ?_
          refine R.look rfl rfl rfl (Lk.move rfl rfl) fun _ => ?_
          obtain ⟨a38, e17, e18, e19, hS⟩ := hS
          refine R.look rfl rfl rfl (Lk.ixAddr rfl Tryd.underlying22 T4 rfl e17 rfl e18 e19) fun _ => ?_
          obtain ⟨v39, e20, hS⟩ := hS
          refine R.look rfl rfl rfl (Look.loc ok (Lk.load1 rfl Tryd.underlying4 rfl rfl e20)) fun _ => ?_
          refine R.look rfl rfl rfl (Lk.boolNe rfl Tryd.underlying4 rfl rfl) fun _ => ?_
          refine R.nil ?_
          by_cases e21 : (!(v34 == v39)) = true
          · rw [if_pos e21] at hS
            refine EvC.condT rfl e21 ?_
            refine EvC.seq ?_
            refine EvC.region [Item.look 0] (by kernel_rfl) ?_
            refine R.look rfl rfl rfl (Lk.assign rfl rfl) fun _ => ?_
            refine R.nil ?_
            refine EvC.ret ?_
            exact ⟨.inr rfl, _, _, (.cons (.tmp rfl) .nil), ok.le, _, rfl, hS⟩
          · rw [if_neg e21] at hS
            replace e21 := eq_false_of_ne_true e21
            refine EvC.condF rfl e21 ?_
            refine EvC.skip ?_
            refine EvC.region [Item.look 0, Item.look 1, Item.look 2] (by kernel_rfl) ?_
            refine R.look rfl rfl rfl (Lk.move rfl rfl) fun _ => ?_
            refine R.look rfl rfl rfl (Lk.arith rfl rfl rfl rfl) fun _ => ?_
            refine R.look rfl rfl rfl (Lk.assign rfl rfl) fun _ => ?_
            refine R.nil ?_
            exact hX_1 (IntKind.wrap .i64 (v5 + 1)) _ _ _ hS (ok.sub (.cons_cons _ (.cons_cons _ List.Sublist.slnil))) (Env.le_put rfl (Env.le_put rfl (Env.le_put rfl (Env.le_emp _)))) (H.add_sub ok (.cons_cons _ (.cons_cons _ List.Sublist.slnil)))
        · rw [if_neg e12] at hS
          replace e12 := eq_false_of_ne_true e12
          refine EvC.condF rfl e12 ?_
          refine EvC.exit ?_
          exact hIh_2 () _ _ _ (Env.le_put rfl (Env.le_put rfl (Env.le_emp _))) (ok.sub (.cons_cons _ (.cons_cons _ List.Sublist.slnil))) (H.add_sub ok (.cons_cons _ (.cons_cons _ List.Sublist.slnil))) hS
  · refine EvC.region [Item.look 0, Item.look 1, Item.look 2, Item.look 3, Item.look 4, Item.look 5, Item.look 6, Item.look 7, Item.look 8, Item.look 9, Item.look 10, Item.look 11, Item.look 12, Item.look 13, Item.look 14, Item.look 15] (by kernel_rfl) ?_
    refine R.look (v := (.pointer (some ⟨b2, 0, none⟩))) rfl rfl rfl (Lk.fldAddr rfl Tryd.underlying29 rfl rfl T22 rfl rfl rfl) fun _ => ?_
    refine R.look rfl rfl rfl (Lk.load1 (v := (.slice p0_0.a p0_0.l p0_0.c)) rfl Tryd.underlying22 rfl rfl (H.rd_loc ok (i := 1) rfl rfl)) fun _ => ?_
    refine R.look rfl rfl rfl (Lk.len rfl Tryd.underlying22 rfl) fun _ => ?_
    refine R.look (v := (.pointer (some ⟨b3, 0, none⟩))) rfl rfl rfl (Lk.fldAddr rfl Tryd.underlying29 rfl rfl T22 rfl rfl rfl) fun _ => ?_
    refine R.look rfl rfl rfl (Lk.load1 (v := (.slice p1_0.a p1_0.l p1_0.c)) rfl Tryd.underlying22 rfl rfl (H.rd_loc ok (i := 0) rfl rfl)) fun _ => ?_
    refine R.look rfl rfl rfl (Lk.len rfl Tryd.underlying22 rfl) fun _ => ?_
    refine R.look rfl rfl rfl (Lk.arith rfl rfl rfl rfl) fun _ => ?_
    refine R.look rfl rfl rfl (Lk.move rfl rfl) fun _ => ?_
    by_cases e22 : ((p0_0.l : Int) != (p1_0.l : Int)) = true
    · refine R.lookF rfl rfl rfl rfl e22 rfl fun _ => ?_
      refine R.lookF rfl rfl rfl rfl e22 rfl fun _ => ?_
      refine R.lookF rfl rfl rfl rfl e22 rfl fun _ => ?_
      refine R.lookF rfl rfl rfl rfl e22 rfl fun _ => ?_
      refine R.lookF rfl rfl rfl rfl e22 rfl fun _ => ?_
      refine R.lookF rfl rfl rfl rfl e22 rfl fun _ => ?_
      refine R.lookF rfl rfl rfl rfl e22 rfl fun _ => ?_
      refine R.look rfl rfl rfl (Lk.pick rfl rfl (fun _ => rfl) (fun e => by rw [e22] at e; cases e)) fun _ => ?_
      refine R.nil ?_
      exact hIh_1 (((p0_0.l : Int) != (p1_0.l : Int)) || ((p0_1.l : Int) != (p1_1.l : Int))) _ _ _ (Env.le_put rfl (Env.le_put rfl (Env.le_put (by rw [e22]; rfl) (Env.le_emp _)))) (ok.sub (.cons_cons _ (.cons_cons _ List.Sublist.slnil))) (H.add_sub ok (.cons_cons _ (.cons_cons _ List.Sublist.slnil))) hS
    · replace e22 := eq_false_of_ne_true e22
      refine R.lookT (v := (.pointer (some ⟨b2, 1, none⟩))) rfl rfl rfl rfl e22 rfl (Lk.fldAddr rfl Tryd.underlying29 rfl rfl T27 rfl rfl rfl) fun _ => ?_
      refine R.lookT rfl rfl rfl rfl e22 rfl (Lk.load1 (v := (.slice p0_1.a p0_1.l p0_1.c)) rfl Tryd.underlying27 rfl rfl (H.rd_loc ok (i := 1) rfl rfl)) fun _ => ?_
      refine R.lookT rfl rfl rfl rfl e22 rfl (Lk.len rfl Tryd.underlying27 rfl) fun _ => ?_
      refine R.lookT (v := (.pointer (some ⟨b3, 1, none⟩))) rfl rfl rfl rfl e22 rfl (Lk.fldAddr rfl Tryd.underlying29 rfl rfl T27 rfl rfl rfl) fun _ => ?_
      refine R.lookT rfl rfl rfl rfl e22 rfl (Lk.load1 (v := (.slice p1_1.a p1_1.l p1_1.c)) rfl Tryd.underlying27 rfl rfl (H.rd_loc ok (i := 0) rfl rfl)) fun _ => ?_
      refine R.lookT rfl rfl rfl rfl e22 rfl (Lk.len rfl Tryd.underlying27 rfl) fun _ => ?_
      refine R.lookT rfl rfl rfl rfl e22 rfl (Lk.arith rfl rfl rfl rfl) fun _ => ?_
      refine R.look rfl rfl rfl (Lk.pick rfl rfl (fun e => by rw [e22] at e; cases e) (fun _ => rfl)) fun _ => ?_
      refine R.nil ?_
      exact hIh_1 (((p0_0.l : Int) != (p1_0.l : Int)) || ((p0_1.l : Int) != (p1_1.l : Int))) _ _ _ (Env.le_put rfl (Env.le_put rfl (Env.le_put (by rw [e22]; rfl) (Env.le_emp _)))) (ok.sub (.cons_cons _ (.cons_cons _ List.Sublist.slnil))) (H.add_sub ok (.cons_cons _ (.cons_cons _ List.Sublist.slnil))) hS
end Go.Proofs.YtimadnngfhbfiaaDoor
end

section
/- PRINTED by wip/gen.py: the machine's call of muntin/muntinlaw09.TextApart does what S7 says. -/
namespace Go.Proofs.YtimadnngfhbfiaaDoor
open Go Go.Mu
set_option maxHeartbeats 4000000
set_option maxRecDepth 100000
theorem f7_ok {p0_0 : Sl} {p0_1 : Sl} {p0_2 : Sl} {p1_0 : Sl} {p1_1 : Sl} {p1_2 : Sl} {h : H} {K : Bool → H → Prop} (hS : S7 p0_0 p0_1 p0_2 p1_0 p1_1 p1_2 h K) : ACall Tryd.prog 7 ([(.agg ([(.slice p0_0.a p0_0.l p0_0.c), (.slice p0_1.a p0_1.l p0_1.c), (.slice p0_2.a p0_2.l p0_2.c)] : List Value).toArray), (.agg ([(.slice p1_0.a p1_0.l p1_0.c), (.slice p1_1.a p1_1.l p1_1.c), (.slice p1_2.a p1_2.l p1_2.c)] : List Value).toArray)] : List Value).toArray h (fun r h' => ∃ r0 : Bool, r = tup [(.bool r0)] ∧ K r0 h') := by
  refine ACall.enter (fn := Tryd.f7) Tryd.func7 rfl (Nat.le_of_ble_eq_true rfl) ?_
  unfold S7 at hS
  have ok := Lok.nil h
  change EvC _ _ _ _ (H.add h []) _
  refine EvC.seq ?_
  refine EvC.region [Item.alc 0, Item.alc 1, Item.look 2] (by kernel_rfl) ?_
  refine R.var (blk := .row ⟨[(.slice p0_0.a p0_0.l p0_0.c), (.slice p0_1.a p0_1.l p0_1.c), (.slice p0_2.a p0_2.l p0_2.c)], 3, 26, true, true⟩) ok rfl rfl rfl (Ac.box rfl rfl) rfl rfl fun b2 ok => ?_
  refine R.var (blk := .row ⟨[(.slice p1_0.a p1_0.l p1_0.c), (.slice p1_1.a p1_1.l p1_1.c), (.slice p1_2.a p1_2.l p1_2.c)], 3, 26, true, true⟩) ok rfl rfl rfl (Ac.box rfl rfl) rfl rfl fun b3 ok => ?_
  refine R.look rfl rfl rfl (Lk.assign rfl rfl) fun _ => ?_
  refine R.nil ?_
  refine EvC.seq ?_
  refine EvC.draw [0, 1, 0, 7, 0, 0, 63, 127] [Item.look 0, Item.look 2, Item.eff 1 [2], Item.eff 3 [], Item.alc 4, Item.alc 5, Item.eff 6 [], Item.eff 7 []] MO (by kernel_rfl) ?_
  refine R.lookL rfl rfl rfl (Lk.loadN (vs := [(.slice p0_0.a p0_0.l p0_0.c), (.slice p0_1.a p0_1.l p0_1.c), (.slice p0_2.a p0_2.l p0_2.c)]) rfl Tryd.underlying26 rfl T26 rfl (H.rdn_loc ok (i := 1) rfl rfl rfl)) ?_
  refine R.lookL rfl rfl rfl (Lk.loadN (vs := [(.slice p1_0.a p1_0.l p1_0.c), (.slice p1_1.a p1_1.l p1_1.c), (.slice p1_2.a p1_2.l p1_2.c)]) rfl Tryd.underlying26 rfl T26 rfl (H.rdn_loc ok (i := 0) rfl rfl rfl)) ?_
  refine R.eff rfl rfl rfl (Eff.loc ok (Ef.call rfl CB11 rfl ((f11_ok hS).mono ?_)))
  rintro _ h_1 ⟨v19_0, v19_1, rfl, hS⟩
  refine fun ok => ⟨(List.forall_mem_cons.2 ⟨(Log.at_ (LookG.of rfl (Lk.loadN (vs := [(.slice p1_0.a p1_0.l p1_0.c), (.slice p1_1.a p1_1.l p1_1.c), (.slice p1_2.a p1_2.l p1_2.c)]) rfl Tryd.underlying26 rfl T26 rfl (H.rdn_loc ok (i := 0) rfl rfl rfl)))), noChk⟩), ?_⟩
  refine R.eff rfl rfl rfl (Eff.loc ok (Ef.call rfl CB11 rfl ((f11_ok hS).mono ?_)))
  rintro _ h_2 ⟨v21_0, v21_1, rfl, hS⟩
  refine fun ok => ⟨noChk, ?_⟩
  refine R.var (blk := .row ⟨[(.slice none 0 0), (.slice none 0 0)], 2, 29, true, true⟩) ok rfl rfl rfl (Ac.alloc rfl T29) rfl rfl fun b5 ok => ?_
  refine R.var (blk := .row ⟨[(.slice none 0 0), (.slice none 0 0)], 2, 29, true, true⟩) ok rfl rfl rfl (Ac.alloc rfl T29) rfl rfl fun b6 ok => ?_
  refine R.effN rfl rfl rfl (Ef.storeLoc (i := 1) (vs := [(.slice v19_0.a v19_0.l v19_0.c), (.slice v19_1.a v19_1.l v19_1.c)]) (cs := [(.slice v19_0.a v19_0.l v19_0.c), (.slice v19_1.a v19_1.l v19_1.c)]) (l' := [(b6, .row ⟨[(.slice none 0 0), (.slice none 0 0)], 2, 29, true, true⟩), (b5, .row ⟨[(.slice v19_0.a v19_0.l v19_0.c), (.slice v19_1.a v19_1.l v19_1.c)], 2, 29, true, true⟩), (b3, .row ⟨[(.slice p1_0.a p1_0.l p1_0.c), (.slice p1_1.a p1_1.l p1_1.c), (.slice p1_2.a p1_2.l p1_2.c)], 3, 26, true, true⟩), (b2, .row ⟨[(.slice p0_0.a p0_0.l p0_0.c), (.slice p0_1.a p0_1.l p0_1.c), (.slice p0_2.a p0_2.l p0_2.c)], 3, 26, true, true⟩)]) ok rfl T29 rfl rfl rfl rfl rfl rfl rfl rfl rfl rfl fun ok => ⟨noChk, ?_⟩)
  refine R.effN rfl rfl rfl (Ef.storeLoc (i := 0) (vs := [(.slice v21_0.a v21_0.l v21_0.c), (.slice v21_1.a v21_1.l v21_1.c)]) (cs := [(.slice v21_0.a v21_0.l v21_0.c), (.slice v21_1.a v21_1.l v21_1.c)]) (l' := [(b6, .row ⟨[(.slice v21_0.a v21_0.l v21_0.c), (.slice v21_1.a v21_1.l v21_1.c)], 2, 29, true, true⟩), (b5, .row ⟨[(.slice v19_0.a v19_0.l v19_0.c), (.slice v19_1.a v19_1.l v19_1.c)], 2, 29, true, true⟩), (b3, .row ⟨[(.slice p1_0.a p1_0.l p1_0.c), (.slice p1_1.a p1_1.l p1_1.c), (.slice p1_2.a p1_2.l p1_2.c)], 3, 26, true, true⟩), (b2, .row ⟨[(.slice p0_0.a p0_0.l p0_0.c), (.slice p0_1.a p0_1.l p0_1.c), (.slice p0_2.a p0_2.l p0_2.c)], 3, 26, true, true⟩)]) ok rfl T29 rfl rfl rfl rfl rfl rfl rfl rfl rfl rfl fun ok => ⟨noChk, ?_⟩)
  refine R.nil ?_
  refine EvC.seq ?_
  refine EvC.region [Item.look 0, Item.eff 1 [], Item.look 2, Item.look 3, Item.look 4, Item.look 5, Item.look 6] (by kernel_rfl) ?_
  refine R.look rfl rfl rfl (Lk.loadN (vs := [(.slice v19_0.a v19_0.l v19_0.c), (.slice v19_1.a v19_1.l v19_1.c)]) rfl Tryd.underlying29 rfl T29 rfl (H.rdn_loc ok (i := 1) rfl rfl rfl)) fun _ => ?_
  refine R.eff rfl rfl rfl (Eff.loc ok (Ef.call rfl CB25 rfl ((f25_ok hS).mono ?_)))
  rintro _ h_3 ⟨v24_0, v24_1, rfl, hS⟩
  refine fun ok => ⟨noChk, ?_⟩
  refine R.look rfl rfl rfl (Lk.move rfl rfl) fun _ => ?_
  refine R.look rfl rfl rfl (Lk.extract rfl rfl rfl) fun _ => ?_
  refine R.look rfl rfl rfl (Lk.extract rfl rfl rfl) fun _ => ?_
  refine R.look rfl rfl rfl (Lk.assign rfl rfl) fun _ => ?_
  refine R.look rfl rfl rfl (Lk.assign rfl rfl) fun _ => ?_
  refine R.nil ?_
  refine EvC.seq ?_
  refine EvC.region [Item.look 0, Item.eff 1 [], Item.look 2, Item.look 3, Item.look 4, Item.look 5, Item.look 6] (by kernel_rfl) ?_
  refine R.look rfl rfl rfl (Lk.loadN (vs := [(.slice v21_0.a v21_0.l v21_0.c), (.slice v21_1.a v21_1.l v21_1.c)]) rfl Tryd.underlying29 rfl T29 rfl (H.rdn_loc ok (i := 0) rfl rfl rfl)) fun _ => ?_
  refine R.eff rfl rfl rfl (Eff.loc ok (Ef.call rfl CB25 rfl ((f25_ok hS).mono ?_)))
  rintro _ h_4 ⟨v29_0, v29_1, rfl, hS⟩
  refine fun ok => ⟨noChk, ?_⟩
  refine R.look rfl rfl rfl (Lk.move rfl rfl) fun _ => ?_
  refine R.look rfl rfl rfl (Lk.extract rfl rfl rfl) fun _ => ?_
  refine R.look rfl rfl rfl (Lk.extract rfl rfl rfl) fun _ => ?_
  refine R.look rfl rfl rfl (Lk.assign rfl rfl) fun _ => ?_
  refine R.look rfl rfl rfl (Lk.assign rfl rfl) fun _ => ?_
  refine R.nil ?_
  refine EvC.seq ?_
  refine EvC.region [Item.look 0, Item.alc 1, Item.eff 2 []] (by kernel_rfl) ?_
  refine R.look rfl rfl rfl (Lk.loadN (vs := [(.slice v19_0.a v19_0.l v19_0.c), (.slice v19_1.a v19_1.l v19_1.c)]) rfl Tryd.underlying29 rfl T29 rfl (H.rdn_loc ok (i := 1) rfl rfl rfl)) fun _ => ?_
  refine R.var (blk := .row ⟨[(.slice none 0 0), (.slice none 0 0)], 2, 29, true, true⟩) ok rfl rfl rfl (Ac.alloc rfl T29) rfl rfl fun b11 ok => ?_
  refine R.effN rfl rfl rfl (Ef.storeLoc (i := 0) (vs := [(.slice v19_0.a v19_0.l v19_0.c), (.slice v19_1.a v19_1.l v19_1.c)]) (cs := [(.slice v19_0.a v19_0.l v19_0.c), (.slice v19_1.a v19_1.l v19_1.c)]) (l' := [(b11, .row ⟨[(.slice v19_0.a v19_0.l v19_0.c), (.slice v19_1.a v19_1.l v19_1.c)], 2, 29, true, true⟩), (b6, .row ⟨[(.slice v21_0.a v21_0.l v21_0.c), (.slice v21_1.a v21_1.l v21_1.c)], 2, 29, true, true⟩), (b5, .row ⟨[(.slice v19_0.a v19_0.l v19_0.c), (.slice v19_1.a v19_1.l v19_1.c)], 2, 29, true, true⟩), (b3, .row ⟨[(.slice p1_0.a p1_0.l p1_0.c), (.slice p1_1.a p1_1.l p1_1.c), (.slice p1_2.a p1_2.l p1_2.c)], 3, 26, true, true⟩), (b2, .row ⟨[(.slice p0_0.a p0_0.l p0_0.c), (.slice p0_1.a p0_1.l p0_1.c), (.slice p0_2.a p0_2.l p0_2.c)], 3, 26, true, true⟩)]) ok rfl T29 rfl rfl rfl rfl rfl rfl rfl rfl rfl rfl fun ok => ⟨noChk, ?_⟩)
  refine R.nil ?_
  refine EvC.seq ?_
  refine EvC.region [Item.look 0, Item.look 1, Item.eff 2 [], Item.alc 3, Item.eff 4 [], Item.look 5, Item.eff 6 []] (by kernel_rfl) ?_
  refine R.look (v := (.pointer (some ⟨b5, 0, none⟩))) rfl rfl rfl (Lk.fldAddr rfl Tryd.underlying29 rfl rfl T22 rfl rfl rfl) fun _ => ?_
  refine R.look rfl rfl rfl (Lk.load1 (v := (.slice v19_0.a v19_0.l v19_0.c)) rfl Tryd.underlying22 rfl rfl (H.rd_loc ok (i := 2) rfl rfl)) fun _ => ?_
  obtain ⟨e11, hS⟩ := hS
  refine R.appS ok rfl rfl rfl rfl Tryd.underlying22 T4 rfl rfl rfl rfl e11 hS ?_
  intro v35 h_5 hS ok
  refine ⟨noChk, ?_⟩
  refine R.appL (cs := [(.bool true)]) ok rfl rfl rfl rfl rfl rfl rfl rfl Tryd.underlying22 T4 rfl (by decide) (by decide) rfl rfl rfl rfl rfl (fun _ => rfl) hS ?_
  intro bb36 v37 h_6 hS ok
  refine ⟨noChk, ?_⟩
  refine R.look (v := (.pointer (some ⟨b11, 0, none⟩))) rfl rfl rfl (Lk.fldAddr rfl Tryd.underlying29 rfl rfl T22 rfl rfl rfl) fun _ => ?_
  refine R.effN rfl rfl rfl (Ef.storeLoc (i := 0) (vs := [(.slice v37.a v37.l v37.c)]) (cs := [(.slice v37.a v37.l v37.c), (.slice v19_1.a v19_1.l v19_1.c)]) (l' := [(b11, .row ⟨[(.slice v37.a v37.l v37.c), (.slice v19_1.a v19_1.l v19_1.c)], 2, 29, true, true⟩), (b6, .row ⟨[(.slice v21_0.a v21_0.l v21_0.c), (.slice v21_1.a v21_1.l v21_1.c)], 2, 29, true, true⟩), (b5, .row ⟨[(.slice v19_0.a v19_0.l v19_0.c), (.slice v19_1.a v19_1.l v19_1.c)], 2, 29, true, true⟩), (b3, .row ⟨[(.slice p1_0.a p1_0.l p1_0.c), (.slice p1_1.a p1_1.l p1_1.c), (.slice p1_2.a p1_2.l p1_2.c)], 3, 26, true, true⟩), (b2, .row ⟨[(.slice p0_0.a p0_0.l p0_0.c), (.slice p0_1.a p0_1.l p0_1.c), (.slice p0_2.a p0_2.l p0_2.c)], 3, 26, true, true⟩)]) ok rfl T22 rfl rfl rfl rfl rfl rfl rfl rfl rfl rfl fun ok => ⟨noChk, ?_⟩)
  refine R.nil ?_
  refine EvC.seq ?_
  refine EvC.draw [0, 1, 3, 0, 8, 24, 56, 120, 255, 511, 1023] [Item.look 0, Item.look 1, Item.look 3, Item.look 4, Item.look 5, Item.look 6, Item.eff 2 [3, 4, 5, 6], Item.alc 7, Item.eff 8 [], Item.look 9, Item.eff 10 []] MO (by kernel_rfl) ?_
  refine R.lookL (v := (.pointer (some ⟨b5, 1, none⟩))) rfl rfl rfl (Lk.fldAddr rfl Tryd.underlying29 rfl rfl T27 rfl rfl rfl) ?_
  refine R.lookL rfl rfl rfl (Lk.load1 (v := (.slice v19_1.a v19_1.l v19_1.c)) rfl Tryd.underlying27 rfl rfl (H.rd_loc ok (i := 2) rfl rfl)) ?_
  refine R.lookL (v := (.pointer (some ⟨b5, 0, none⟩))) rfl rfl rfl (Lk.fldAddr rfl Tryd.underlying29 rfl rfl T22 rfl rfl rfl) ?_
  refine R.lookL rfl rfl rfl (Lk.load1 (v := (.slice v19_0.a v19_0.l v19_0.c)) rfl Tryd.underlying22 rfl rfl (H.rd_loc ok (i := 2) rfl rfl)) ?_
  refine R.lookL rfl rfl rfl (Lk.len rfl Tryd.underlying22 rfl) ?_
  refine R.lookL rfl rfl rfl (Lk.build (cs := [(.int .i64 (v19_0.l : Int)), (.int .i64 0), (.int .i64 0), (.string ⟨#[76]⟩)]) (pl := [(0, 1), (1, 1), (2, 1), (3, 1)]) rfl Tryd.underlying54 T54 (PlacesL.places (.cons T3 (.cons T3 (.cons T3 (.cons T9 PlacesL.nil))))) rfl rfl) ?_
  obtain ⟨e10, hS⟩ := hS
  refine R.appS ok rfl rfl rfl rfl Tryd.underlying27 T54 rfl rfl rfl rfl e10 hS ?_
  intro v41 h_7 hS ok
  refine ⟨(List.forall_mem_cons.2 ⟨(Log.past (by decide) (Log.past (by decide) (Log.past (by decide) (Log.at_ (LookG.of rfl (Lk.fldAddr rfl Tryd.underlying29 rfl rfl T22 rfl rfl rfl)))))), (List.forall_mem_cons.2 ⟨(Log.past (by decide) (Log.past (by decide) (Log.at_ (LookG.of rfl (Lk.load1 (v := (.slice v19_0.a v19_0.l v19_0.c)) rfl Tryd.underlying22 rfl rfl (H.rd_loc ok (i := 2) rfl rfl)))))), (List.forall_mem_cons.2 ⟨(Log.past (by decide) (Log.at_ (LookG.of rfl (Lk.len rfl Tryd.underlying22 rfl)))), (List.forall_mem_cons.2 ⟨(Log.at_ (LookG.of rfl (Lk.build (cs := [(.int .i64 (v19_0.l : Int)), (.int .i64 0), (.int .i64 0), (.string ⟨#[76]⟩)]) (pl := [(0, 1), (1, 1), (2, 1), (3, 1)]) rfl Tryd.underlying54 T54 (PlacesL.places (.cons T3 (.cons T3 (.cons T3 (.cons T9 PlacesL.nil))))) rfl rfl))), noChk⟩)⟩)⟩)⟩), ?_⟩
  refine R.appL (cs := [(.int .i64 (v19_0.l : Int)), (.int .i64 0), (.int .i64 0), (.string ⟨#[76]⟩)]) ok rfl rfl rfl rfl rfl rfl rfl rfl Tryd.underlying27 T54 rfl (by decide) (by decide) rfl rfl rfl rfl rfl (fun _ => rfl) hS ?_
  intro bb46 v47 h_8 hS ok
  refine ⟨noChk, ?_⟩
  refine R.lookL (v := (.pointer (some ⟨b11, 1, none⟩))) rfl rfl rfl (Lk.fldAddr rfl Tryd.underlying29 rfl rfl T27 rfl rfl rfl) ?_
  refine R.effN rfl rfl rfl (Ef.storeLoc (i := 0) (vs := [(.slice v47.a v47.l v47.c)]) (cs := [(.slice v37.a v37.l v37.c), (.slice v47.a v47.l v47.c)]) (l' := [(b11, .row ⟨[(.slice v37.a v37.l v37.c), (.slice v47.a v47.l v47.c)], 2, 29, true, true⟩), (b6, .row ⟨[(.slice v21_0.a v21_0.l v21_0.c), (.slice v21_1.a v21_1.l v21_1.c)], 2, 29, true, true⟩), (b5, .row ⟨[(.slice v19_0.a v19_0.l v19_0.c), (.slice v19_1.a v19_1.l v19_1.c)], 2, 29, true, true⟩), (b3, .row ⟨[(.slice p1_0.a p1_0.l p1_0.c), (.slice p1_1.a p1_1.l p1_1.c), (.slice p1_2.a p1_2.l p1_2.c)], 3, 26, true, true⟩), (b2, .row ⟨[(.slice p0_0.a p0_0.l p0_0.c), (.slice p0_1.a p0_1.l p0_1.c), (.slice p0_2.a p0_2.l p0_2.c)], 3, 26, true, true⟩)]) ok rfl T27 rfl rfl rfl rfl rfl rfl rfl rfl rfl rfl fun ok => ⟨noChk, ?_⟩)
  refine R.nil ?_
  refine EvC.seq ?_
  refine EvC.region [Item.look 0, Item.eff 1 [], Item.look 2, Item.look 3, Item.look 4, Item.look 5, Item.look 6] (by kernel_rfl) ?_
  refine R.look rfl rfl rfl (Lk.loadN (vs := [(.slice v37.a v37.l v37.c), (.slice v47.a v47.l v47.c)]) rfl Tryd.underlying29 rfl T29 rfl (H.rdn_loc ok (i := 0) rfl rfl rfl)) fun _ => ?_
  refine R.eff rfl rfl rfl (Eff.loc ok (Ef.call rfl CB25 rfl ((f25_ok hS).mono ?_)))
  rintro _ h_9 ⟨v51_0, v51_1, rfl, hS⟩
  refine fun ok => ⟨noChk, ?_⟩
  refine R.look rfl rfl rfl (Lk.move rfl rfl) fun _ => ?_
  refine R.look rfl rfl rfl (Lk.extract rfl rfl rfl) fun _ => ?_
  refine R.look rfl rfl rfl (Lk.extract rfl rfl rfl) fun _ => ?_
  refine R.look rfl rfl rfl (Lk.assign rfl rfl) fun _ => ?_
  refine R.look rfl rfl rfl (Lk.assign rfl rfl) fun _ => ?_
  refine R.nil ?_
  refine EvC.seq ?_
  refine EvC.join (σ := Bool) (fun s => (Env.put (Env.put (Env.put Env.emp 76 (.bool s)) 12 (.string v51_0)) 5 (.pointer (some ⟨b5, 0, none⟩)))) (fun s => [(b5, .row ⟨[(.slice v19_0.a v19_0.l v19_0.c), (.slice v19_1.a v19_1.l v19_1.c)], 2, 29, true, true⟩)]) (fun s h_10 => S7_j5 K v19_0 v19_1 v51_0 s h_10) ?_ (fun Ih_10 hIh_10 => ?_)
  · intro v76 h_10 ok hS
    replace hS : S7_j5 K v19_0 v19_1 v51_0 v76 h_10 := hS
    change EvC _ _ _ (Env.put (Env.put (Env.put Env.emp 76 (.bool v76)) 12 (.string v51_0)) 5 (.pointer (some ⟨b5, 0, none⟩))) (H.add h_10 [(b5, .row ⟨[(.slice v19_0.a v19_0.l v19_0.c), (.slice v19_1.a v19_1.l v19_1.c)], 2, 29, true, true⟩)]) _
    unfold S7_j5 at hS
    by_cases e1 : v76 = true
    · rw [if_pos e1] at hS
      refine EvC.condT rfl e1 ?_
      refine EvC.seq ?_
      refine EvC.region [Item.look 0] (by kernel_rfl) ?_
      refine R.look rfl rfl rfl (Lk.assign rfl rfl) fun _ => ?_
      refine R.nil ?_
      refine EvC.ret ?_
      exact ⟨.inr rfl, _, _, (.cons (.tmp rfl) .nil), ok.le, _, rfl, hS⟩
    · rw [if_neg e1] at hS
      replace e1 := eq_false_of_ne_true e1
      refine EvC.condF rfl e1 ?_
      refine EvC.skip ?_
      refine EvC.seq ?_
      refine EvC.region [Item.look 0, Item.look 1] (by kernel_rfl) ?_
      refine R.look rfl rfl rfl (Lk.assign rfl rfl) fun _ => ?_
      refine R.look rfl rfl rfl (Lk.assign rfl rfl) fun _ => ?_
      refine R.nil ?_
      refine EvC.join (σ := Int × Int) (fun s => (Env.put (Env.put (Env.put Env.emp 15 (.int .i64 s.2)) 14 (.int .i64 s.1)) 5 (.pointer (some ⟨b5, 0, none⟩)))) (fun s => [(b5, .row ⟨[(.slice v19_0.a v19_0.l v19_0.c), (.slice v19_1.a v19_1.l v19_1.c)], 2, 29, true, true⟩)]) (fun s h_11 => S7_j2 K v19_0 v19_1 s.1 s.2 h_11) ?_ (fun Ih_11 hIh_11 => ?_)
      · rintro ⟨v14, v15⟩ h_11 ok hS
        replace hS : S7_j2 K v19_0 v19_1 v14 v15 h_11 := hS
        change EvC _ _ _ (Env.put (Env.put (Env.put Env.emp 15 (.int .i64 v15)) 14 (.int .i64 v14)) 5 (.pointer (some ⟨b5, 0, none⟩))) (H.add h_11 [(b5, .row ⟨[(.slice v19_0.a v19_0.l v19_0.c), (.slice v19_1.a v19_1.l v19_1.c)], 2, 29, true, true⟩)]) _
        unfold S7_j2 at hS
        refine EvC.join (σ := Bool) (fun s => (Env.put Env.emp 4 (.bool s))) (fun s => []) (fun s h_12 => S7_j1 K s h_12) ?_ (fun Ih_12 hIh_12 => ?_)
        · intro v4 h_12 ok hS
          replace hS : S7_j1 K v4 h_12 := hS
          change EvC _ _ _ (Env.put Env.emp 4 (.bool v4)) (H.add h_12 []) _
          unfold S7_j1 at hS
          refine EvC.ret ?_
          exact ⟨.inr rfl, _, _, (.cons (.tmp rfl) .nil), ok.le, _, rfl, hS⟩
        · refine EvC.region [Item.look 0, Item.look 1, Item.look 2, Item.look 3, Item.look 4, Item.look 5, Item.look 6, Item.look 7, Item.look 8, Item.look 9, Item.look 10, Item.look 11, Item.look 12, Item.look 13, Item.look 14, Item.look 15] (by kernel_rfl) ?_
          refine R.look rfl rfl rfl (Lk.move rfl rfl) fun _ => ?_
          refine R.look (v := (.pointer (some ⟨b5, 1, none⟩))) rfl rfl rfl (Lk.fldAddr rfl Tryd.underlying29 rfl rfl T27 rfl rfl rfl) fun _ => ?_
          refine R.look rfl rfl rfl (Lk.load1 (v := (.slice v19_1.a v19_1.l v19_1.c)) rfl Tryd.underlying27 rfl rfl (H.rd_loc ok (i := 0) rfl rfl)) fun _ => ?_
          refine R.look rfl rfl rfl (Lk.len rfl Tryd.underlying27 rfl) fun _ => ?_
          refine R.look rfl rfl rfl (Lk.arith rfl rfl rfl rfl) fun _ => ?_
          refine R.look rfl rfl rfl (Lk.arith rfl rfl rfl rfl) fun _ => ?_
          refine R.look rfl rfl rfl (Lk.move rfl rfl) fun _ => ?_
          by_cases e2 : (v14 == (IntKind.wrap .i64 ((v19_1.l : Int) + 3))) = true
          · refine R.lookT rfl rfl rfl rfl e2 rfl (Lk.move rfl rfl) fun _ => ?_
            refine R.lookT (v := (.pointer (some ⟨b5, 0, none⟩))) rfl rfl rfl rfl e2 rfl (Lk.fldAddr rfl Tryd.underlying29 rfl rfl T22 rfl rfl rfl) fun _ => ?_
            refine R.lookT rfl rfl rfl rfl e2 rfl (Lk.load1 (v := (.slice v19_0.a v19_0.l v19_0.c)) rfl Tryd.underlying22 rfl rfl (H.rd_loc ok (i := 0) rfl rfl)) fun _ => ?_
            refine R.lookT rfl rfl rfl rfl e2 rfl (Lk.len rfl Tryd.underlying22 rfl) fun _ => ?_
            refine R.lookT rfl rfl rfl rfl e2 rfl (Lk.arith rfl rfl rfl rfl) fun _ => ?_
            refine R.lookT rfl rfl rfl rfl e2 rfl (Lk.arith rfl rfl rfl rfl) fun _ => ?_
            refine R.lookT rfl rfl rfl rfl e2 rfl (Lk.arith rfl rfl rfl rfl) fun _ => ?_
            refine R.look rfl rfl rfl (Lk.pick rfl rfl (fun _ => rfl) (fun e => by rw [e2] at e; cases e)) fun _ => ?_
            refine R.look rfl rfl rfl (Lk.assign rfl rfl) fun _ => ?_
            refine R.nil ?_
            exact hIh_12 ((v14 == (IntKind.wrap .i64 ((v19_1.l : Int) + 3))) && (v15 == (IntKind.wrap .i64 ((IntKind.wrap .i64 (6 + (v19_0.l : Int))) + 1)))) _ _ _ (Env.le_put (by rw [e2]; rfl) (Env.le_emp _)) (ok.sub (.cons _ List.Sublist.slnil)) (H.add_sub ok (.cons _ List.Sublist.slnil)) hS
          · replace e2 := eq_false_of_ne_true e2
            refine R.lookF rfl rfl rfl rfl e2 rfl fun _ => ?_
            refine R.lookF rfl rfl rfl rfl e2 rfl fun _ => ?_
            refine R.lookF rfl rfl rfl rfl e2 rfl fun _ => ?_
            refine R.lookF rfl rfl rfl rfl e2 rfl fun _ => ?_
            refine R.lookF rfl rfl rfl rfl e2 rfl fun _ => ?_
            refine R.lookF rfl rfl rfl rfl e2 rfl fun _ => ?_
            refine R.lookF rfl rfl rfl rfl e2 rfl fun _ => ?_
            refine R.look rfl rfl rfl (Lk.pick rfl rfl (fun e => by rw [e2] at e; cases e) (fun _ => rfl)) fun _ => ?_
            refine R.look rfl rfl rfl (Lk.assign rfl rfl) fun _ => ?_
            refine R.nil ?_
            exact hIh_12 ((v14 == (IntKind.wrap .i64 ((v19_1.l : Int) + 3))) && (v15 == (IntKind.wrap .i64 ((IntKind.wrap .i64 (6 + (v19_0.l : Int))) + 1)))) _ _ _ (Env.le_put (by rw [e2]; rfl) (Env.le_emp _)) (ok.sub (.cons _ List.Sublist.slnil)) (H.add_sub ok (.cons _ List.Sublist.slnil)) hS
      · refine EvC.seq ?_
        refine EvC.region [Item.look 0, Item.alc 1] (by kernel_rfl) ?_
        refine R.look rfl rfl rfl (Lk.move rfl rfl) fun _ => ?_
        refine R.var (blk := .obj (.stringIter v51_0 0)) ok rfl rfl rfl (Ac.range rfl Tryd.underlying9 rfl) trivial rfl fun b78 ok => ?_
        refine R.nil ?_
        refine EvC.block ?_
        refine EvC.loop ?_
        refine LoopC.lfp (σ := Int × Int × Nat) (fun s => (Env.put (Env.put (Env.put (Env.put Env.emp 78 (.pointer (some ⟨b78, 0, none⟩))) 15 (.int .i64 s.2.1)) 14 (.int .i64 s.1)) 5 (.pointer (some ⟨b5, 0, none⟩)))) (fun s => [(b78, .obj (.stringIter v51_0 s.2.2)), (b5, .row ⟨[(.slice v19_0.a v19_0.l v19_0.c), (.slice v19_1.a v19_1.l v19_1.c)], 2, 29, true, true⟩)]) (fun X hX => ?_) hS (ok.sub (.cons_cons _ (.cons_cons _ List.Sublist.slnil))) (Env.le_put rfl (Env.le_put rfl (Env.le_put rfl (Env.le_put rfl (Env.le_emp _))))) (H.add_sub ok (.cons_cons _ (.cons_cons _ List.Sublist.slnil)))
        rintro ⟨v14_1, v15_1, c78_1⟩ h_13 hS ok
        replace hS : S7_l4 K v19_0 v19_1 v51_0 X v14_1 v15_1 c78_1 h_13 := hS
        change EvC _ _ _ (Env.put (Env.put (Env.put (Env.put Env.emp 78 (.pointer (some ⟨b78, 0, none⟩))) 15 (.int .i64 v15_1)) 14 (.int .i64 v14_1)) 5 (.pointer (some ⟨b5, 0, none⟩))) (H.add h_13 [(b78, .obj (.stringIter v51_0 c78_1)), (b5, .row ⟨[(.slice v19_0.a v19_0.l v19_0.c), (.slice v19_1.a v19_1.l v19_1.c)], 2, 29, true, true⟩)]) _
        unfold S7_l4 at hS
        refine EvC.seq ?_
        refine EvC.region [Item.eff 0 [], Item.look 1] (by kernel_rfl) ?_
        by_cases e3 : c78_1 < ByteArray.size v51_0
        · rw [if_pos e3] at hS
          refine R.eff rfl rfl rfl (Ef.nextLoc (i := 0) (l' := [(b78, .obj (.stringIter v51_0 (c78_1 + (Utf8.decode v51_0 c78_1).2))), (b5, .row ⟨[(.slice v19_0.a v19_0.l v19_0.c), (.slice v19_1.a v19_1.l v19_1.c)], 2, 29, true, true⟩)]) ok rfl rfl rfl e3 rfl fun ok => ⟨noChk, ?_⟩)
          refine R.look rfl rfl rfl (Lk.extract rfl rfl rfl) fun _ => ?_
          refine R.nil ?_
          refine EvC.seq ?_
          refine EvC.condT rfl rfl ?_
          refine EvC.skip ?_
          refine EvC.block ?_
          refine EvC.seq ?_
          refine EvC.region [Item.look 0, Item.look 1] (by kernel_rfl) ?_
          refine R.look rfl rfl rfl (Lk.extract rfl rfl rfl) fun _ => ?_
          refine R.look rfl rfl rfl (Lk.assign rfl rfl) fun _ => ?_
          refine R.nil ?_
          refine EvC.join (σ := Int) (fun s => (Env.put (Env.put (Env.put (Env.put Env.emp 78 (.pointer (some ⟨b78, 0, none⟩))) 15 (.int .i64 v15_1)) 14 (.int .i64 s)) 5 (.pointer (some ⟨b5, 0, none⟩)))) (fun s => [(b78, .obj (.stringIter v51_0 (c78_1 + (Utf8.decode v51_0 c78_1).2))), (b5, .row ⟨[(.slice v19_0.a v19_0.l v19_0.c), (.slice v19_1.a v19_1.l v19_1.c)], 2, 29, true, true⟩)]) (fun s h_14 => S7_j3 v51_0 v15_1 c78_1 X s h_14) ?_ (fun Ih_14 hIh_14 => ?_)
          · intro v14_2 h_14 ok hS
            replace hS : S7_j3 v51_0 v15_1 c78_1 X v14_2 h_14 := hS
            change EvC _ _ _ (Env.put (Env.put (Env.put (Env.put Env.emp 78 (.pointer (some ⟨b78, 0, none⟩))) 15 (.int .i64 v15_1)) 14 (.int .i64 v14_2)) 5 (.pointer (some ⟨b5, 0, none⟩))) (H.add h_14 [(b78, .obj (.stringIter v51_0 (c78_1 + (Utf8.decode v51_0 c78_1).2))), (b5, .row ⟨[(.slice v19_0.a v19_0.l v19_0.c), (.slice v19_1.a v19_1.l v19_1.c)], 2, 29, true, true⟩)]) _
            unfold S7_j3 at hS
            refine EvC.seq ?_
            refine EvC.region [Item.look 0, Item.look 1] (by kernel_rfl) ?_
            refine R.look rfl rfl rfl (Lk.move rfl rfl) fun _ => ?_
            refine R.look rfl rfl rfl (Lk.arith rfl rfl rfl rfl) fun _ => ?_
            refine R.nil ?_
            by_cases e4 : (v14_2 == 0) = true
            · rw [if_pos e4] at hS
              refine EvC.condT rfl e4 ?_
              refine EvC.region [Item.look 0, Item.look 1, Item.look 2] (by kernel_rfl) ?_
              refine R.look rfl rfl rfl (Lk.move rfl rfl) fun _ => ?_
              refine R.look rfl rfl rfl (Lk.arith rfl rfl rfl rfl) fun _ => ?_
              refine R.look rfl rfl rfl (Lk.assign rfl rfl) fun _ => ?_
              refine R.nil ?_
              exact hX (v14_2, (IntKind.wrap .i64 (v15_1 + 1)), (c78_1 + (Utf8.decode v51_0 c78_1).2)) _ _ _ hS (ok.sub (.cons_cons _ (.cons_cons _ List.Sublist.slnil))) (Env.le_put rfl (Env.le_put rfl (Env.le_put rfl (Env.le_put rfl (Env.le_emp _))))) (H.add_sub ok (.cons_cons _ (.cons_cons _ List.Sublist.slnil)))
            · rw [if_neg e4] at hS
              replace e4 := eq_false_of_ne_true e4
              refine EvC.condF rfl e4 ?_
              refine EvC.skip ?_
              exact hX (v14_2, v15_1, (c78_1 + (Utf8.decode v51_0 c78_1).2)) _ _ _ hS (ok.sub (.cons_cons _ (.cons_cons _ List.Sublist.slnil))) (Env.le_put rfl (Env.le_put rfl (Env.le_put rfl (Env.le_put rfl (Env.le_emp _))))) (H.add_sub ok (.cons_cons _ (.cons_cons _ List.Sublist.slnil)))
          · refine EvC.seq ?_
            refine EvC.region [Item.look 0, Item.look 1] (by kernel_rfl) ?_
            refine R.look rfl rfl rfl (Lk.move rfl rfl) fun _ => ?_
            refine R.look rfl rfl rfl (Lk.arith rfl rfl rfl rfl) fun _ => ?_
            refine R.nil ?_
            by_cases e5 : (((Utf8.decode v51_0 c78_1).1 : Int) == 10) = true
            · rw [if_pos e5] at hS
              refine EvC.condT rfl e5 ?_
              refine EvC.region [Item.look 0, Item.look 1, Item.look 2] (by kernel_rfl) ?_
              refine R.look rfl rfl rfl (Lk.move rfl rfl) fun _ => ?_
              refine R.look rfl rfl rfl (Lk.arith rfl rfl rfl rfl) fun _ => ?_
              refine R.look rfl rfl rfl (Lk.assign rfl rfl) fun _ => ?_
              refine R.nil ?_
              exact hIh_14 (IntKind.wrap .i64 (v14_1 + 1)) _ _ _ (Env.le_put rfl (Env.le_put rfl (Env.le_put rfl (Env.le_put rfl (Env.le_emp _))))) (ok.sub (.cons_cons _ (.cons_cons _ List.Sublist.slnil))) (H.add_sub ok (.cons_cons _ (.cons_cons _ List.Sublist.slnil))) hS
            · rw [if_neg e5] at hS
              replace e5 := eq_false_of_ne_true e5
              refine EvC.condF rfl e5 ?_
              refine EvC.skip ?_
              exact hIh_14 v14_1 _ _ _ (Env.le_put rfl (Env.le_put rfl (Env.le_put rfl (Env.le_put rfl (Env.le_emp _))))) (ok.sub (.cons_cons _ (.cons_cons _ List.Sublist.slnil))) (H.add_sub ok (.cons_cons _ (.cons_cons _ List.Sublist.slnil))) hS
        · rw [if_neg e3] at hS
          refine R.eff rfl rfl rfl (Ef.nextEnd (i := 0) ok rfl rfl rfl e3 ⟨noChk, ?_⟩)
          refine R.look rfl rfl rfl (Lk.extract rfl rfl rfl) fun _ => ?_
          refine R.nil ?_
          refine EvC.seq ?_
          refine EvC.condF rfl rfl ?_
          refine EvC.exit ?_
          exact hIh_11 (v14_1, v15_1) _ _ _ (Env.le_put rfl (Env.le_put rfl (Env.le_put rfl (Env.le_emp _)))) (ok.sub (.cons _ (.cons_cons _ List.Sublist.slnil))) (H.add_sub ok (.cons _ (.cons_cons _ List.Sublist.slnil))) hS
  · refine EvC.region [Item.eff 0 [], Item.look 1, Item.look 2, Item.look 3, Item.look 4, Item.look 5, Item.look 6, Item.look 7, Item.look 8, Item.look 9, Item.look 10, Item.look 11, Item.look 12, Item.look 13, Item.look 14, Item.look 15, Item.look 16, Item.look 17, Item.look 18, Item.look 19, Item.eff 20 [], Item.look 21, Item.look 22] (by kernel_rfl) ?_
    refine R.eff rfl rfl rfl (Eff.loc ok (Ef.call rfl CB24 rfl ((f24_ok hS).mono ?_)))
    rintro _ h_15 ⟨v54, rfl, hS⟩
    refine fun ok => ⟨noChk, ?_⟩
    refine R.look rfl rfl rfl (Lk.not rfl rfl) fun _ => ?_
    refine R.look rfl rfl rfl (Lk.move rfl rfl) fun _ => ?_
    by_cases e6 : (!v54) = true
    · rw [if_pos e6] at hS
      refine R.lookF rfl rfl rfl rfl e6 rfl fun _ => ?_
      refine R.lookF rfl rfl rfl rfl e6 rfl fun _ => ?_
      refine R.look rfl rfl rfl (Lk.pick rfl rfl (fun _ => rfl) (fun e => by rw [e6] at e; cases e)) fun _ => ?_
      refine R.look rfl rfl rfl (Lk.move rfl rfl) fun _ => ?_
      refine R.lookF rfl rfl rfl rfl rfl rfl fun _ => ?_
      refine R.lookF rfl rfl rfl rfl rfl rfl fun _ => ?_
      refine R.look rfl rfl rfl (Lk.pick rfl rfl (fun _ => rfl) (fun e => by cases e)) fun _ => ?_
      refine R.look rfl rfl rfl (Lk.move rfl rfl) fun _ => ?_
      refine R.lookF rfl rfl rfl rfl rfl rfl fun _ => ?_
      refine R.lookF rfl rfl rfl rfl rfl rfl fun _ => ?_
      refine R.look rfl rfl rfl (Lk.pick rfl rfl (fun _ => rfl) (fun e => by cases e)) fun _ => ?_
      refine R.look rfl rfl rfl (Lk.move rfl rfl) fun _ => ?_
      refine R.lookF rfl rfl rfl rfl rfl rfl fun _ => ?_
      refine R.lookF rfl rfl rfl rfl rfl rfl fun _ => ?_
      refine R.lookF rfl rfl rfl rfl rfl rfl fun _ => ?_
      refine R.lookF rfl rfl rfl rfl rfl rfl fun _ => ?_
      refine R.lookF rfl rfl rfl rfl rfl rfl fun _ => ?_
      refine R.effF rfl rfl rfl rfl rfl rfl ?_
      refine R.lookF rfl rfl rfl rfl rfl rfl fun _ => ?_
      refine R.look rfl rfl rfl (Lk.pick rfl rfl (fun _ => rfl) (fun e => by cases e)) fun _ => ?_
      refine R.nil ?_
      exact hIh_10 true _ _ _ (Env.le_put rfl (Env.le_put rfl (Env.le_put rfl (Env.le_emp _)))) (ok.sub (.cons _ (.cons _ (.cons_cons _ (.cons _ (.cons _ List.Sublist.slnil)))))) (H.add_sub ok (.cons _ (.cons _ (.cons_cons _ (.cons _ (.cons _ List.Sublist.slnil)))))) hS
    · rw [if_neg e6] at hS
      replace e6 := eq_false_of_ne_true e6
      refine R.lookT rfl rfl rfl rfl e6 rfl (Lk.move rfl rfl) fun _ => ?_
      refine R.lookT rfl rfl rfl rfl e6 rfl (Lk.arith rfl rfl rfl rfl) fun _ => ?_
      refine R.look rfl rfl rfl (Lk.pick rfl rfl (fun e => by rw [e6] at e; cases e) (fun _ => rfl)) fun _ => ?_
      refine R.look rfl rfl rfl (Lk.move rfl rfl) fun _ => ?_
      by_cases e7 : (v24_1 != 0) = true
      · rw [if_pos e7] at hS
        refine R.lookF rfl rfl rfl rfl e7 rfl fun _ => ?_
        refine R.lookF rfl rfl rfl rfl e7 rfl fun _ => ?_
        refine R.look rfl rfl rfl (Lk.pick rfl rfl (fun _ => rfl) (fun e => by rw [e7] at e; cases e)) fun _ => ?_
        refine R.look rfl rfl rfl (Lk.move rfl rfl) fun _ => ?_
        refine R.lookF rfl rfl rfl rfl rfl rfl fun _ => ?_
        refine R.lookF rfl rfl rfl rfl rfl rfl fun _ => ?_
        refine R.look rfl rfl rfl (Lk.pick rfl rfl (fun _ => rfl) (fun e => by cases e)) fun _ => ?_
        refine R.look rfl rfl rfl (Lk.move rfl rfl) fun _ => ?_
        refine R.lookF rfl rfl rfl rfl rfl rfl fun _ => ?_
        refine R.lookF rfl rfl rfl rfl rfl rfl fun _ => ?_
        refine R.lookF rfl rfl rfl rfl rfl rfl fun _ => ?_
        refine R.lookF rfl rfl rfl rfl rfl rfl fun _ => ?_
        refine R.lookF rfl rfl rfl rfl rfl rfl fun _ => ?_
        refine R.effF rfl rfl rfl rfl rfl rfl ?_
        refine R.lookF rfl rfl rfl rfl rfl rfl fun _ => ?_
        refine R.look rfl rfl rfl (Lk.pick rfl rfl (fun _ => rfl) (fun e => by cases e)) fun _ => ?_
        refine R.nil ?_
        exact hIh_10 true _ _ _ (Env.le_put rfl (Env.le_put rfl (Env.le_put rfl (Env.le_emp _)))) (ok.sub (.cons _ (.cons _ (.cons_cons _ (.cons _ (.cons _ List.Sublist.slnil)))))) (H.add_sub ok (.cons _ (.cons _ (.cons_cons _ (.cons _ (.cons _ List.Sublist.slnil)))))) hS
      · rw [if_neg e7] at hS
        replace e7 := eq_false_of_ne_true e7
        refine R.lookT rfl rfl rfl rfl e7 rfl (Lk.move rfl rfl) fun _ => ?_
        refine R.lookT rfl rfl rfl rfl e7 rfl (Lk.arith rfl rfl rfl rfl) fun _ => ?_
        refine R.look rfl rfl rfl (Lk.pick rfl rfl (fun e => by rw [e7] at e; cases e) (fun _ => rfl)) fun _ => ?_
        refine R.look rfl rfl rfl (Lk.move rfl rfl) fun _ => ?_
        by_cases e8 : (v29_1 != 0) = true
        · rw [if_pos e8] at hS
          refine R.lookF rfl rfl rfl rfl e8 rfl fun _ => ?_
          refine R.lookF rfl rfl rfl rfl e8 rfl fun _ => ?_
          refine R.look rfl rfl rfl (Lk.pick rfl rfl (fun _ => rfl) (fun e => by rw [e8] at e; cases e)) fun _ => ?_
          refine R.look rfl rfl rfl (Lk.move rfl rfl) fun _ => ?_
          refine R.lookF rfl rfl rfl rfl rfl rfl fun _ => ?_
          refine R.lookF rfl rfl rfl rfl rfl rfl fun _ => ?_
          refine R.lookF rfl rfl rfl rfl rfl rfl fun _ => ?_
          refine R.lookF rfl rfl rfl rfl rfl rfl fun _ => ?_
          refine R.lookF rfl rfl rfl rfl rfl rfl fun _ => ?_
          refine R.effF rfl rfl rfl rfl rfl rfl ?_
          refine R.lookF rfl rfl rfl rfl rfl rfl fun _ => ?_
          refine R.look rfl rfl rfl (Lk.pick rfl rfl (fun _ => rfl) (fun e => by cases e)) fun _ => ?_
          refine R.nil ?_
          exact hIh_10 true _ _ _ (Env.le_put rfl (Env.le_put rfl (Env.le_put rfl (Env.le_emp _)))) (ok.sub (.cons _ (.cons _ (.cons_cons _ (.cons _ (.cons _ List.Sublist.slnil)))))) (H.add_sub ok (.cons _ (.cons _ (.cons_cons _ (.cons _ (.cons _ List.Sublist.slnil)))))) hS
        · rw [if_neg e8] at hS
          replace e8 := eq_false_of_ne_true e8
          refine R.lookT rfl rfl rfl rfl e8 rfl (Lk.move rfl rfl) fun _ => ?_
          refine R.lookT rfl rfl rfl rfl e8 rfl (Lk.arith rfl rfl rfl rfl) fun _ => ?_
          refine R.look rfl rfl rfl (Lk.pick rfl rfl (fun e => by rw [e8] at e; cases e) (fun _ => rfl)) fun _ => ?_
          refine R.look rfl rfl rfl (Lk.move rfl rfl) fun _ => ?_
          by_cases e9 : (v51_1 != 0) = true
          · rw [if_pos e9] at hS
            refine R.lookF rfl rfl rfl rfl e9 rfl fun _ => ?_
            refine R.lookF rfl rfl rfl rfl e9 rfl fun _ => ?_
            refine R.lookF rfl rfl rfl rfl e9 rfl fun _ => ?_
            refine R.lookF rfl rfl rfl rfl e9 rfl fun _ => ?_
            refine R.lookF rfl rfl rfl rfl e9 rfl fun _ => ?_
            refine R.effF rfl rfl rfl rfl e9 rfl ?_
            refine R.lookF rfl rfl rfl rfl e9 rfl fun _ => ?_
            refine R.look rfl rfl rfl (Lk.pick rfl rfl (fun _ => rfl) (fun e => by rw [e9] at e; cases e)) fun _ => ?_
            refine R.nil ?_
            exact hIh_10 true _ _ _ (Env.le_put rfl (Env.le_put rfl (Env.le_put rfl (Env.le_emp _)))) (ok.sub (.cons _ (.cons _ (.cons_cons _ (.cons _ (.cons _ List.Sublist.slnil)))))) (H.add_sub ok (.cons _ (.cons _ (.cons_cons _ (.cons _ (.cons _ List.Sublist.slnil)))))) hS
          · rw [if_neg e9] at hS
            replace e9 := eq_false_of_ne_true e9
            refine R.lookT rfl rfl rfl rfl e9 rfl (Lk.move rfl rfl) fun _ => ?_
            refine R.lookT rfl rfl rfl rfl e9 rfl (Lk.move rfl rfl) fun _ => ?_
            refine R.lookT rfl rfl rfl rfl e9 rfl (Lk.strEq rfl rfl rfl) fun _ => ?_
            refine R.lookT rfl rfl rfl rfl e9 rfl (Lk.loadN (vs := [(.slice v19_0.a v19_0.l v19_0.c), (.slice v19_1.a v19_1.l v19_1.c)]) rfl Tryd.underlying29 rfl T29 rfl (H.rdn_loc ok (i := 2) rfl rfl rfl)) fun _ => ?_
            refine R.lookT rfl rfl rfl rfl e9 rfl (Lk.loadN (vs := [(.slice v21_0.a v21_0.l v21_0.c), (.slice v21_1.a v21_1.l v21_1.c)]) rfl Tryd.underlying29 rfl T29 rfl (H.rdn_loc ok (i := 1) rfl rfl rfl)) fun _ => ?_
            refine R.effT rfl rfl rfl rfl e9 rfl (Eff.loc ok (Ef.call rfl CB26 rfl ((f26_ok hS).mono ?_)))
            rintro _ h_16 ⟨v74, rfl, hS⟩
            refine fun ok => ⟨noChk, ?_⟩
            refine R.lookT rfl rfl rfl rfl e9 rfl (Lk.boolNe rfl Tryd.underlying4 rfl rfl) fun _ => ?_
            refine R.look rfl rfl rfl (Lk.pick rfl rfl (fun e => by rw [e9] at e; cases e) (fun _ => rfl)) fun _ => ?_
            refine R.nil ?_
            exact hIh_10 (!((ByteArray.toList v24_0 == ByteArray.toList v29_0) == v74)) _ _ _ (Env.le_put rfl (Env.le_put rfl (Env.le_put rfl (Env.le_emp _)))) (ok.sub (.cons _ (.cons _ (.cons_cons _ (.cons _ (.cons _ List.Sublist.slnil)))))) (H.add_sub ok (.cons _ (.cons _ (.cons_cons _ (.cons _ (.cons _ List.Sublist.slnil)))))) hS
end Go.Proofs.YtimadnngfhbfiaaDoor
end

section
/-
  TextApart: the statement and its card.
-/
namespace Go.Proofs.YtimadnngfhbfiaaDoor
open Go Go.Mu Go.Shape
open Go.ChangeShapes Go.WideShapes Go.ChangeAt Go.RowKit Go.Joins Go.Deep

theorem ownKnob_none : ownKnob Tryd.prog.godebug = none := by kernel_rfl
theorem laidOut_prog : laidOutB Tryd.prog = true := by kernel_rfl
set_option maxRecDepth 100000 in
theorem raw_in {H' : Type} {enc : TypeId × Value → H'} {W : World} {base : Nat} {v : Value} {d : DataW H'} {p : List MemPlace} (hv : Value.okWide Tryd.prog W .any base 26 v) (h : DataW.Trod enc Tryd.prog W 0 (fun _ => true) true 26 v d p) :
    ∃ z0 z1 z2 : Sl, v = .agg ([(.slice z0.a z0.l z0.c), (.slice z1.a z1.l z1.c), (.slice z2.a z2.l z2.c)] : List Value).toArray ∧ RawIn (H.of W) z0 z1 z2 := by
  obtain ⟨v0, v1, v2, y0, y1, y2, n, rfl, _, _, t0, t1, t2⟩ := open_agg3 Tryd.underlying26 (by kernel_rfl) (by kernel_rfl) hv h
  obtain ⟨s0, rfl, l0, r0⟩ := rd_bools Tryd.underlying22 Tryd.underlying4 (by kernel_rfl) t0
  obtain ⟨s1, rfl, l1, r1, u1⟩ := rd_threes Tryd.underlying23 Tryd.underlying100 Tryd.underlying5 (by kernel_rfl) (by kernel_rfl) t1
  obtain ⟨s2, rfl, l2, r2, u2⟩ := rd_bytes Tryd.underlying24 Tryd.underlying5 (by kernel_rfl) t2
  exact ⟨s0, s1, s2, rfl, ⟨l0, l1, l2, r0, r1, r2, u1, u2⟩⟩

set_option maxRecDepth 100000 in
theorem textApart_lifted (os : Os) (started : os.Started) (H' : Type) (enc : TypeId × Value → H') :
    ReturnsInHanded {} Tryd.checked os 7 .any (fun w args => (Rows.textApartSpec.pre enc Tryd.prog Tryd.f7 [] false w args ∧ laidMetH Tryd.prog Rows.textApartRow.laid w) ∧ sizedMet enc Tryd.prog Tryd.f7 (OpenSpec.ofChange Rows.textApartSpec) false w args)
      (Rows.textApartSpec.post enc Tryd.prog Tryd.f7 false true false false) := by
  refine returnsInHanded_of_change_and (C := Tryd.checked) (X := fun w _ => laidMetH Tryd.prog Rows.textApartRow.laid w) (fun _ _ _ hh h => h.of_heap hh) ownKnob_none started (by kernel_rfl) Tryd.func7
    (ChangeSpec.witness_shaped (enc := enc) (C := Tryd.checked) (os := os) (X := fun w _ => laidMetH Tryd.prog Rows.textApartRow.laid w) false (World.laidAll Tryd.prog os Rows.textApartRow.laid) #[.agg #[.slice none 0 0, .slice none 0 0, .slice none 0 0], .agg #[.slice none 0 0, .slice none 0 0, .slice none 0 0]] 8 (World.laidAll_os _ _ _)
      (World.shaped_of_ZipB (by kernel_rfl) (by kernel_rfl)) (by kernel_rfl) (by kernel_rfl) (by kernel_rfl)
      (by rw [MakeChecks.laidMetH_plain _ _ _ (by kernel_rfl)]; exact laidMet_laidAll _ (by kernel_rfl) (by kernel_rfl))) ?_
  intro W base args ds gs before hval0 hW _ _ hL _
  have hval : ∀ (j : Nat) t v, Tryd.f7.params[j]? = some t → args[j]? = some v → Value.okWide Tryd.prog W .any base t v := hval0
  have hW' := hW
  obtain ⟨p, q, hA0, hV, rfl, _, _⟩ := hW
  have hA : DataW.TrodAll enc Tryd.prog W 0 (fun _ => true) true Tryd.f7.params.toList args.toList ds p := hA0
  rw [Tryd.params7] at hA hval
  obtain ⟨v0, v1, d0, d1, p0, p1, rfl, rfl, rfl, h0, h1⟩ := trodAll_two hA
  obtain ⟨rfl, rfl⟩ := trodVars_none hV
  have h0k := h0
  have h1k := h1
  clear hA0 hval0
  simp only [List.append_nil] at hW'
  have hlt0 : ∀ x ∈ p0, x.block < W.heap.size := fun x hx => by simpa using hW'.lt x (by simp [hx])
  have hlt1 : ∀ x ∈ p1, x.block < W.heap.size := fun x hx => by simpa using hW'.lt x (by simp [hx])
  obtain ⟨z0, z1, z2, rfl, raw⟩ := raw_in (hval 0 26 v0 rfl rfl) h0
  obtain ⟨y0, y1, y2, rfl, raw'⟩ := raw_in (hval 1 26 v1 rfl rfl) h1
  refine (ACall.world (f7_ok (K := fun r _ => r = true) (c7 raw raw' fun _ => rfl))).mono fun e W' ⟨r, h', he, hb, b, hr, hk⟩ => ?_
  subst hk
  have hr' : r = .bool true := hr
  subst hr' he
  exact ⟨_, rfl, ⟨_, _, _, [], _, [], hW', trodAll_mk1 (shut_bool Tryd.underlying4 _), trodAll_mk2 (Below.trod laidOut_prog (by kernel_rfl) (of_decide_eq_true (by kernel_rfl)) h0k hb hlt0) (Below.trod laidOut_prog (by kernel_rfl) (of_decide_eq_true (by kernel_rfl)) h1k hb hlt1), rfl, hb.frame _, fun h => by cases h⟩⟩

theorem textApart_said : Rows.TextApartSaid :=
  OpenClaim.holds_of_wide 7 Tryd.f7 rfl rfl rfl rfl rfl rfl rfl ⟨rfl, rfl, rfl, rfl, rfl⟩ rfl rfl rfl rfl rfl (by kernel_rfl) Tryd.func7 (by kernel_rfl)
    (of_decide_eq_true (by kernel_rfl)) (by unfold Func.isWrapper; first | (rw [if_pos (by decide +kernel)]; kernel_rfl) | (rw [if_neg (by decide +kernel)]; exact ⟨rfl, rfl⟩))
    (fun os started H enc _ => textApart_lifted os started H enc)

set_option maxRecDepth 100000 in
theorem textApart_holds : Rows.TextApartCardSaid :=
  Claim7.holds_tied_plain_at .later [] [.data, .data, .data, .data, .pinned] true (true, "d6f36886d12485c9cea0d9571512dfa97f8ee8e7a58d0d4df16bc376e7d03632") false
    textApart_said (fun _ h => by cases h) (by kernel_rfl) (fun _ h => by cases h) textApart_row_tie rfl ⟨rfl, rfl⟩ (by kernel_rfl) rfl
    (fun f fn hf hfn => by
      obtain rfl : f = 7 := Option.some.inj ((show Tryd.prog.funcNamed "muntin/muntinlaw09.TextApart" = some 7 by kernel_rfl).symm.trans hf) |>.symm
      obtain rfl : fn = Tryd.f7 := (Option.some.inj (Tryd.func7.symm.trans hfn)).symm
      exact ⟨by kernel_rfl, fun j t ht => by
        rw [Tryd.params7] at ht
        have h3 : t = 26 := by
          rcases j with _ | _ | j
          · simpa using ht.symm
          · simpa using ht.symm
          · simp at ht
        subst h3
        exact (show Tryd.prog.wantsStandIn 26 = false by kernel_rfl)⟩)
    (by kernel_rfl)
end Go.Proofs.YtimadnngfhbfiaaDoor
end
