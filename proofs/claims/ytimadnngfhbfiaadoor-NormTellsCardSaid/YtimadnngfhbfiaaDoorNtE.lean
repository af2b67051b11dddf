/-
  PROVED HERE: 'muntinlaw11.NormTells' answers true whatever the raw shape, and what was handed in reads as it did. Conditions: the package variables that the row lists hold what the program's text lays.
  Part 5 of 5.
-/
import Derived.Test.YtimadnngfhbfiaaDoorNtD
import Derived.Test.YtimadnngfhbfiaaDoorTie
import Derived.Test.YtimadnngfhbfiaaDoorCards
import Derived.Test.YtimadnngfhbfiaaDoorChecked
import Derived.OpenShut
import Derived.LaidMore
import Derived.Lay
import Derived.SevenTiedAt
import Derived.Stop.Joined

section
/- PRINTED by wip/gen.py: the machine's call of muntin/muntinref10.with does what S79 says. -/
namespace Go.Proofs.YtimadnngfhbfiaaDoor
open Go Go.Mu
set_option maxHeartbeats 4000000
set_option maxRecDepth 100000
theorem f79_ok {p0 : Sl} {p1 : Int} {p2 : Int} {p3 : Int} {p4 : Int} {h : H} {K : Sl → H → Prop} (hS : S79 p0 p1 p2 p3 p4 h K) : ACall Tryd.prog 79 ([(.slice p0.a p0.l p0.c), (.int .i64 p1), (.int .i64 p2), (.int .i64 p3), (.int .i64 p4)] : List Value).toArray h (fun r h' => ∃ r0 : Sl, r = tup [(.slice r0.a r0.l r0.c)] ∧ K r0 h') := by
  refine ACall.enter (fn := Tryd.f79) Tryd.func79 rfl (Nat.le_of_ble_eq_true rfl) ?_
  unfold S79 at hS
  have ok := Lok.nil h
  change EvC _ _ _ _ (H.add h []) _
  refine EvC.seq ?_
  refine EvC.region [Item.look 0] (by kernel_rfl) ?_
  refine R.look rfl rfl rfl (Lk.assign rfl rfl) fun _ => ?_
  refine R.nil ?_
  refine EvC.seq ?_
  refine EvC.region [Item.look 0] (by kernel_rfl) ?_
  refine R.look rfl rfl rfl (Lk.assign rfl rfl) fun _ => ?_
  refine R.nil ?_
  refine EvC.join (σ := Sl) (fun s => (Env.put Env.emp 11 (.slice s.a s.l s.c))) (fun s => []) (fun s h_1 => S79_j1 K s h_1) ?_ (fun Ih_1 hIh_1 => ?_)
  · intro v11 h_1 ok hS
    replace hS : S79_j1 K v11 h_1 := hS
    change EvC _ _ _ (Env.put Env.emp 11 (.slice v11.a v11.l v11.c)) (H.add h_1 []) _
    unfold S79_j1 at hS
    refine EvC.seq ?_
    refine EvC.region [Item.look 0, Item.look 1] (by kernel_rfl) ?_
    refine R.look rfl rfl rfl (Lk.move rfl rfl) fun _ => ?_
    refine R.look rfl rfl rfl (Lk.assign rfl rfl) fun _ => ?_
    refine R.nil ?_
    refine EvC.ret ?_
    exact ⟨.inr rfl, _, _, (.cons (.tmp rfl) .nil), ok.le, _, rfl, hS⟩
  · refine EvC.seq ?_
    refine EvC.region [Item.look 0] (by kernel_rfl) ?_
    refine R.look rfl rfl rfl (Lk.assign rfl rfl) fun _ => ?_
    refine R.nil ?_
    refine EvC.block ?_
    refine EvC.loop ?_
    refine LoopC.lfp (σ := Sl × Int) (fun s => (Env.put (Env.put (Env.put (Env.put (Env.put (Env.put (Env.put Env.emp 12 (.int .i64 s.2)) 11 (.slice s.1.a s.1.l s.1.c)) 4 (.int .i64 p4)) 3 (.int .i64 p3)) 2 (.int .i64 p2)) 1 (.int .i64 p1)) 0 (.slice p0.a p0.l p0.c))) (fun s => []) (fun X hX => ?_) hS (ok.sub List.Sublist.slnil) (Env.le_put rfl (Env.le_put rfl (Env.le_put rfl (Env.le_put rfl (Env.le_put rfl (Env.le_put rfl (Env.le_put rfl (Env.le_emp _)))))))) (H.add_sub ok List.Sublist.slnil)
    rintro ⟨v11_1, v12⟩ h_2 hS ok
    replace hS : S79_l4 p0 p1 p2 p3 p4 K X v11_1 v12 h_2 := hS
    change EvC _ _ _ (Env.put (Env.put (Env.put (Env.put (Env.put (Env.put (Env.put Env.emp 12 (.int .i64 v12)) 11 (.slice v11_1.a v11_1.l v11_1.c)) 4 (.int .i64 p4)) 3 (.int .i64 p3)) 2 (.int .i64 p2)) 1 (.int .i64 p1)) 0 (.slice p0.a p0.l p0.c)) (H.add h_2 []) _
    unfold S79_l4 at hS
    refine EvC.seq ?_
    refine EvC.seq ?_
    refine EvC.region [Item.look 0, Item.look 1, Item.look 2, Item.look 3] (by kernel_rfl) ?_
    refine R.look rfl rfl rfl (Lk.move rfl rfl) fun _ => ?_
    refine R.look rfl rfl rfl (Lk.move rfl rfl) fun _ => ?_
    refine R.look rfl rfl rfl (Lk.len rfl Tryd.underlying31 rfl) fun _ => ?_
    refine R.look rfl rfl rfl (Lk.arith rfl rfl rfl rfl) fun _ => ?_
    refine R.nil ?_
    by_cases e1 : (decide (v12 < (p0.l : Int))) = true
    · rw [if_pos e1] at hS
      refine EvC.condT rfl e1 ?_
      refine EvC.skip ?_
      refine EvC.seq ?_
      refine EvC.block ?_
      refine EvC.seq ?_
      refine EvC.region [Item.look 0, Item.look 1, Item.look 2, Item.look 3, Item.alc 4, Item.eff 5 []] (by kernel_rfl) ?_
      refine R.look rfl rfl rfl (Lk.move rfl rfl) fun _ => ?_
      refine R.look rfl rfl rfl (Lk.move rfl rfl) fun _ => ?_
      obtain ⟨a22, e2, e3, e4, hS⟩ := hS
      refine R.look rfl rfl rfl (Lk.ixAddr rfl Tryd.underlying31 T51 rfl e2 rfl e3 e4) fun _ => ?_
      obtain ⟨v23_0, v23_1, v23_2, v23_3, v23_4, v23_5, v23_6, v23_7, e5, hS⟩ := hS
      refine R.look rfl rfl rfl (Look.loc ok (Lk.loadN rfl Tryd.underlying51 rfl T51 rfl e5)) fun _ => ?_
      refine R.var (blk := .row ⟨[(.int .i64 0), (.int .i64 0), (.int .i64 0), (.int .i64 0), (.int .i64 0), (.int .i64 0), (.int .i64 0), (.int .i64 0)], 8, 51, true, true⟩) ok rfl rfl rfl (Ac.alloc rfl T51) rfl rfl fun b13 ok => ?_
      refine R.effN rfl rfl rfl (Ef.storeLoc (i := 0) (vs := [(.int .i64 v23_0), (.int .i64 v23_1), (.int .i64 v23_2), (.int .i64 v23_3), (.int .i64 v23_4), (.int .i64 v23_5), (.int .i64 v23_6), (.int .i64 v23_7)]) (cs := [(.int .i64 v23_0), (.int .i64 v23_1), (.int .i64 v23_2), (.int .i64 v23_3), (.int .i64 v23_4), (.int .i64 v23_5), (.int .i64 v23_6), (.int .i64 v23_7)]) (l' := [(b13, .row ⟨[(.int .i64 v23_0), (.int .i64 v23_1), (.int .i64 v23_2), (.int .i64 v23_3), (.int .i64 v23_4), (.int .i64 v23_5), (.int .i64 v23_6), (.int .i64 v23_7)], 8, 51, true, true⟩)]) ok rfl T51 rfl rfl rfl rfl rfl rfl rfl rfl rfl rfl fun ok => ⟨noChk, ?_⟩)
      refine R.nil ?_
      refine EvC.join (σ := Int × Int × Int × Int × Int × Int × Int × Int) (fun s => (Env.put (Env.put (Env.put (Env.put (Env.put (Env.put (Env.put (Env.put Env.emp 13 (.pointer (some ⟨b13, 0, none⟩))) 12 (.int .i64 v12)) 11 (.slice v11_1.a v11_1.l v11_1.c)) 4 (.int .i64 p4)) 3 (.int .i64 p3)) 2 (.int .i64 p2)) 1 (.int .i64 p1)) 0 (.slice p0.a p0.l p0.c))) (fun s => [(b13, .row ⟨[(.int .i64 s.1), (.int .i64 s.2.1), (.int .i64 s.2.2.1), (.int .i64 s.2.2.2.1), (.int .i64 s.2.2.2.2.1), (.int .i64 s.2.2.2.2.2.1), (.int .i64 s.2.2.2.2.2.2.1), (.int .i64 s.2.2.2.2.2.2.2)], 8, 51, true, true⟩)]) (fun s h_3 => S79_j3 p1 p2 p3 p4 v11_1 v12 X s.1 s.2.1 s.2.2.1 s.2.2.2.1 s.2.2.2.2.1 s.2.2.2.2.2.1 s.2.2.2.2.2.2.1 s.2.2.2.2.2.2.2 h_3) ?_ (fun Ih_3 hIh_3 => ?_)
      · rintro ⟨c13_0, c13_1, c13_2, c13_3, c13_4, c13_5, c13_6, c13_7⟩ h_3 ok hS
        replace hS : S79_j3 p1 p2 p3 p4 v11_1 v12 X c13_0 c13_1 c13_2 c13_3 c13_4 c13_5 c13_6 c13_7 h_3 := hS
        change EvC _ _ _ (Env.put (Env.put (Env.put (Env.put (Env.put (Env.put (Env.put (Env.put Env.emp 13 (.pointer (some ⟨b13, 0, none⟩))) 12 (.int .i64 v12)) 11 (.slice v11_1.a v11_1.l v11_1.c)) 4 (.int .i64 p4)) 3 (.int .i64 p3)) 2 (.int .i64 p2)) 1 (.int .i64 p1)) 0 (.slice p0.a p0.l p0.c)) (H.add h_3 [(b13, .row ⟨[(.int .i64 c13_0), (.int .i64 c13_1), (.int .i64 c13_2), (.int .i64 c13_3), (.int .i64 c13_4), (.int .i64 c13_5), (.int .i64 c13_6), (.int .i64 c13_7)], 8, 51, true, true⟩)]) _
        unfold S79_j3 at hS
        refine EvC.join (σ := Int × Int × Int × Int × Int × Int × Int × Int) (fun s => (Env.put (Env.put (Env.put (Env.put (Env.put (Env.put (Env.put (Env.put Env.emp 13 (.pointer (some ⟨b13, 0, none⟩))) 12 (.int .i64 v12)) 11 (.slice v11_1.a v11_1.l v11_1.c)) 4 (.int .i64 p4)) 3 (.int .i64 p3)) 2 (.int .i64 p2)) 1 (.int .i64 p1)) 0 (.slice p0.a p0.l p0.c))) (fun s => [(b13, .row ⟨[(.int .i64 s.1), (.int .i64 s.2.1), (.int .i64 s.2.2.1), (.int .i64 s.2.2.2.1), (.int .i64 s.2.2.2.2.1), (.int .i64 s.2.2.2.2.2.1), (.int .i64 s.2.2.2.2.2.2.1), (.int .i64 s.2.2.2.2.2.2.2)], 8, 51, true, true⟩)]) (fun s h_4 => S79_j2 v11_1 v12 X s.1 s.2.1 s.2.2.1 s.2.2.2.1 s.2.2.2.2.1 s.2.2.2.2.2.1 s.2.2.2.2.2.2.1 s.2.2.2.2.2.2.2 h_4) ?_ (fun Ih_4 hIh_4 => ?_)
        · rintro ⟨c13_0_1, c13_1_1, c13_2_1, c13_3_1, c13_4_1, c13_5_1, c13_6_1, c13_7_1⟩ h_4 ok hS
          replace hS : S79_j2 v11_1 v12 X c13_0_1 c13_1_1 c13_2_1 c13_3_1 c13_4_1 c13_5_1 c13_6_1 c13_7_1 h_4 := hS
          change EvC _ _ _ (Env.put (Env.put (Env.put (Env.put (Env.put (Env.put (Env.put (Env.put Env.emp 13 (.pointer (some ⟨b13, 0, none⟩))) 12 (.int .i64 v12)) 11 (.slice v11_1.a v11_1.l v11_1.c)) 4 (.int .i64 p4)) 3 (.int .i64 p3)) 2 (.int .i64 p2)) 1 (.int .i64 p1)) 0 (.slice p0.a p0.l p0.c)) (H.add h_4 [(b13, .row ⟨[(.int .i64 c13_0_1), (.int .i64 c13_1_1), (.int .i64 c13_2_1), (.int .i64 c13_3_1), (.int .i64 c13_4_1), (.int .i64 c13_5_1), (.int .i64 c13_6_1), (.int .i64 c13_7_1)], 8, 51, true, true⟩)]) _
          unfold S79_j2 at hS
          refine EvC.region [Item.look 0, Item.look 1, Item.alc 2, Item.eff 3 [], Item.look 4] (by kernel_rfl) ?_
          refine R.look rfl rfl rfl (Lk.move rfl rfl) fun _ => ?_
          refine R.look rfl rfl rfl (Lk.loadN (vs := [(.int .i64 c13_0_1), (.int .i64 c13_1_1), (.int .i64 c13_2_1), (.int .i64 c13_3_1), (.int .i64 c13_4_1), (.int .i64 c13_5_1), (.int .i64 c13_6_1), (.int .i64 c13_7_1)]) rfl Tryd.underlying51 rfl T51 rfl (H.rdn_loc ok (i := 0) rfl rfl rfl)) fun _ => ?_
          refine R.appL (cs := [(.int .i64 c13_0_1), (.int .i64 c13_1_1), (.int .i64 c13_2_1), (.int .i64 c13_3_1), (.int .i64 c13_4_1), (.int .i64 c13_5_1), (.int .i64 c13_6_1), (.int .i64 c13_7_1)]) ok rfl rfl rfl rfl rfl rfl rfl rfl Tryd.underlying31 T51 rfl (by decide) (by decide) rfl rfl rfl rfl rfl (fun _ => rfl) hS ?_
          intro bb52 v53 h_5 hS ok
          refine ⟨noChk, ?_⟩
          refine R.look rfl rfl rfl (Lk.assign rfl rfl) fun _ => ?_
          refine R.nil ?_
          refine EvC.region [Item.look 0, Item.look 1, Item.look 2] (by kernel_rfl) ?_
          refine R.look rfl rfl rfl (Lk.move rfl rfl) fun _ => ?_
          refine R.look rfl rfl rfl (Lk.arith rfl rfl rfl rfl) fun _ => ?_
          refine R.look rfl rfl rfl (Lk.assign rfl rfl) fun _ => ?_
          refine R.nil ?_
          exact hX (v53, (IntKind.wrap .i64 (v12 + 1))) _ _ _ hS (ok.sub (.cons _ List.Sublist.slnil)) (Env.le_put rfl (Env.le_put rfl (Env.le_put rfl (Env.le_put rfl (Env.le_put rfl (Env.le_put rfl (Env.le_put rfl (Env.le_emp _)))))))) (H.add_sub ok (.cons _ List.Sublist.slnil))
        · refine EvC.seq ?_
          refine EvC.region [Item.look 0, Item.look 1, Item.look 2] (by kernel_rfl) ?_
          refine R.look rfl rfl rfl (Lk.move rfl rfl) fun _ => ?_
          refine R.look rfl rfl rfl (Lk.move rfl rfl) fun _ => ?_
          refine R.look rfl rfl rfl (Lk.arith rfl rfl rfl rfl) fun _ => ?_
          refine R.nil ?_
          by_cases e6 : (v12 == p3) = true
          · rw [if_pos e6] at hS
            refine EvC.condT rfl e6 ?_
            refine EvC.seq ?_
            refine EvC.region [Item.look 0, Item.look 1, Item.look 2, Item.look 3, Item.look 4, Item.look 5, Item.eff 6 []] (by kernel_rfl) ?_
            refine R.look rfl rfl rfl (Lk.move rfl rfl) fun _ => ?_
            refine R.look rfl rfl rfl (Lk.arith rfl rfl rfl rfl) fun _ => ?_
            refine R.look rfl rfl rfl (Lk.rem (j := 4) rfl rfl rfl (by decide)) fun _ => ?_
            refine R.look rfl rfl rfl (Lk.move rfl rfl) fun _ => ?_
            refine R.look (v := (.pointer (some ⟨b13, 0, none⟩))) rfl rfl rfl (Lk.fldAddr rfl Tryd.underlying51 rfl rfl T49 rfl rfl rfl) fun _ => ?_
            obtain ⟨e7, e8, hS⟩ := hS
            refine R.look (v := (.pointer (some ⟨b13, 0 + Int.toNat (Int.tmod (IntKind.wrap .i64 (p2 + 2)) 4), none⟩))) rfl rfl rfl (Lk.ixLoc rfl Tryd.underlying49 T3 rfl rfl e7 e8) fun _ => ?_
            refine R.effN rfl rfl rfl (Ef.storeLoc (i := 0) (vs := [(.int .i64 p1)]) (cs := [(.int .i64 (sel (upd ([c13_0, c13_1, c13_2, c13_3] : List Int) (Int.tmod (IntKind.wrap .i64 (p2 + 2)) 4) p1) 0)), (.int .i64 (sel (upd ([c13_0, c13_1, c13_2, c13_3] : List Int) (Int.tmod (IntKind.wrap .i64 (p2 + 2)) 4) p1) 1)), (.int .i64 (sel (upd ([c13_0, c13_1, c13_2, c13_3] : List Int) (Int.tmod (IntKind.wrap .i64 (p2 + 2)) 4) p1) 2)), (.int .i64 (sel (upd ([c13_0, c13_1, c13_2, c13_3] : List Int) (Int.tmod (IntKind.wrap .i64 (p2 + 2)) 4) p1) 3)), (.int .i64 c13_4), (.int .i64 c13_5), (.int .i64 c13_6), (.int .i64 c13_7)]) (l' := [(b13, .row ⟨[(.int .i64 (sel (upd ([c13_0, c13_1, c13_2, c13_3] : List Int) (Int.tmod (IntKind.wrap .i64 (p2 + 2)) 4) p1) 0)), (.int .i64 (sel (upd ([c13_0, c13_1, c13_2, c13_3] : List Int) (Int.tmod (IntKind.wrap .i64 (p2 + 2)) 4) p1) 1)), (.int .i64 (sel (upd ([c13_0, c13_1, c13_2, c13_3] : List Int) (Int.tmod (IntKind.wrap .i64 (p2 + 2)) 4) p1) 2)), (.int .i64 (sel (upd ([c13_0, c13_1, c13_2, c13_3] : List Int) (Int.tmod (IntKind.wrap .i64 (p2 + 2)) 4) p1) 3)), (.int .i64 c13_4), (.int .i64 c13_5), (.int .i64 c13_6), (.int .i64 c13_7)], 8, 51, true, true⟩)]) ok rfl T3 rfl rfl rfl rfl rfl rfl rfl (Nat.ble_eq_true_of_le (by have h1 := e7; have h2 := e8; simp only [List.length_cons, List.length_nil]; omega)) ((upd_at (fun x => Value.int .i64 x) ([c13_0, c13_1, c13_2, c13_3] : List Int) p1 [] [(.int .i64 c13_4), (.int .i64 c13_5), (.int .i64 c13_6), (.int .i64 c13_7)] rfl (by have h1 := e7; have h2 := e8; simp only [List.length_cons, List.length_nil]; omega)).trans (congrArg (fun l => ([] : List Value) ++ List.map (fun x => Value.int .i64 x) l ++ [(.int .i64 c13_4), (.int .i64 c13_5), (.int .i64 c13_6), (.int .i64 c13_7)]) (upd4 c13_0 c13_1 c13_2 c13_3 (Int.tmod (IntKind.wrap .i64 (p2 + 2)) 4) p1))) rfl fun ok => ⟨noChk, ?_⟩)
            refine R.nil ?_
            refine EvC.region [Item.look 0, Item.look 1, Item.look 2, Item.look 3, Item.look 4, Item.look 5, Item.eff 6 []] (by kernel_rfl) ?_
            refine R.look rfl rfl rfl (Lk.move rfl rfl) fun _ => ?_
            refine R.look rfl rfl rfl (Lk.arith rfl rfl rfl rfl) fun _ => ?_
            refine R.look rfl rfl rfl (Lk.rem (j := 4) rfl rfl rfl (by decide)) fun _ => ?_
            refine R.look rfl rfl rfl (Lk.move rfl rfl) fun _ => ?_
            refine R.look (v := (.pointer (some ⟨b13, 4, none⟩))) rfl rfl rfl (Lk.fldAddr rfl Tryd.underlying51 rfl rfl T49 rfl rfl rfl) fun _ => ?_
            obtain ⟨e9, e10, hS⟩ := hS
            refine R.look (v := (.pointer (some ⟨b13, 4 + Int.toNat (Int.tmod (IntKind.wrap .i64 (p2 + 2)) 4), none⟩))) rfl rfl rfl (Lk.ixLoc rfl Tryd.underlying49 T3 rfl rfl e9 e10) fun _ => ?_
            refine R.effN rfl rfl rfl (Ef.storeLoc (i := 0) (vs := [(.int .i64 p4)]) (cs := [(.int .i64 (sel (upd ([c13_0, c13_1, c13_2, c13_3] : List Int) (Int.tmod (IntKind.wrap .i64 (p2 + 2)) 4) p1) 0)), (.int .i64 (sel (upd ([c13_0, c13_1, c13_2, c13_3] : List Int) (Int.tmod (IntKind.wrap .i64 (p2 + 2)) 4) p1) 1)), (.int .i64 (sel (upd ([c13_0, c13_1, c13_2, c13_3] : List Int) (Int.tmod (IntKind.wrap .i64 (p2 + 2)) 4) p1) 2)), (.int .i64 (sel (upd ([c13_0, c13_1, c13_2, c13_3] : List Int) (Int.tmod (IntKind.wrap .i64 (p2 + 2)) 4) p1) 3)), (.int .i64 (sel (upd ([c13_4, c13_5, c13_6, c13_7] : List Int) (Int.tmod (IntKind.wrap .i64 (p2 + 2)) 4) p4) 0)), (.int .i64 (sel (upd ([c13_4, c13_5, c13_6, c13_7] : List Int) (Int.tmod (IntKind.wrap .i64 (p2 + 2)) 4) p4) 1)), (.int .i64 (sel (upd ([c13_4, c13_5, c13_6, c13_7] : List Int) (Int.tmod (IntKind.wrap .i64 (p2 + 2)) 4) p4) 2)), (.int .i64 (sel (upd ([c13_4, c13_5, c13_6, c13_7] : List Int) (Int.tmod (IntKind.wrap .i64 (p2 + 2)) 4) p4) 3))]) (l' := [(b13, .row ⟨[(.int .i64 (sel (upd ([c13_0, c13_1, c13_2, c13_3] : List Int) (Int.tmod (IntKind.wrap .i64 (p2 + 2)) 4) p1) 0)), (.int .i64 (sel (upd ([c13_0, c13_1, c13_2, c13_3] : List Int) (Int.tmod (IntKind.wrap .i64 (p2 + 2)) 4) p1) 1)), (.int .i64 (sel (upd ([c13_0, c13_1, c13_2, c13_3] : List Int) (Int.tmod (IntKind.wrap .i64 (p2 + 2)) 4) p1) 2)), (.int .i64 (sel (upd ([c13_0, c13_1, c13_2, c13_3] : List Int) (Int.tmod (IntKind.wrap .i64 (p2 + 2)) 4) p1) 3)), (.int .i64 (sel (upd ([c13_4, c13_5, c13_6, c13_7] : List Int) (Int.tmod (IntKind.wrap .i64 (p2 + 2)) 4) p4) 0)), (.int .i64 (sel (upd ([c13_4, c13_5, c13_6, c13_7] : List Int) (Int.tmod (IntKind.wrap .i64 (p2 + 2)) 4) p4) 1)), (.int .i64 (sel (upd ([c13_4, c13_5, c13_6, c13_7] : List Int) (Int.tmod (IntKind.wrap .i64 (p2 + 2)) 4) p4) 2)), (.int .i64 (sel (upd ([c13_4, c13_5, c13_6, c13_7] : List Int) (Int.tmod (IntKind.wrap .i64 (p2 + 2)) 4) p4) 3))], 8, 51, true, true⟩)]) ok rfl T3 rfl rfl rfl rfl rfl rfl rfl (Nat.ble_eq_true_of_le (by have h1 := e9; have h2 := e10; simp only [List.length_cons, List.length_nil]; omega)) ((upd_at (fun x => Value.int .i64 x) ([c13_4, c13_5, c13_6, c13_7] : List Int) p4 [(.int .i64 (sel (upd ([c13_0, c13_1, c13_2, c13_3] : List Int) (Int.tmod (IntKind.wrap .i64 (p2 + 2)) 4) p1) 0)), (.int .i64 (sel (upd ([c13_0, c13_1, c13_2, c13_3] : List Int) (Int.tmod (IntKind.wrap .i64 (p2 + 2)) 4) p1) 1)), (.int .i64 (sel (upd ([c13_0, c13_1, c13_2, c13_3] : List Int) (Int.tmod (IntKind.wrap .i64 (p2 + 2)) 4) p1) 2)), (.int .i64 (sel (upd ([c13_0, c13_1, c13_2, c13_3] : List Int) (Int.tmod (IntKind.wrap .i64 (p2 + 2)) 4) p1) 3))] [] rfl (by have h1 := e9; have h2 := e10; simp only [List.length_cons, List.length_nil]; omega)).trans (congrArg (fun l => ([(.int .i64 (sel (upd ([c13_0, c13_1, c13_2, c13_3] : List Int) (Int.tmod (IntKind.wrap .i64 (p2 + 2)) 4) p1) 0)), (.int .i64 (sel (upd ([c13_0, c13_1, c13_2, c13_3] : List Int) (Int.tmod (IntKind.wrap .i64 (p2 + 2)) 4) p1) 1)), (.int .i64 (sel (upd ([c13_0, c13_1, c13_2, c13_3] : List Int) (Int.tmod (IntKind.wrap .i64 (p2 + 2)) 4) p1) 2)), (.int .i64 (sel (upd ([c13_0, c13_1, c13_2, c13_3] : List Int) (Int.tmod (IntKind.wrap .i64 (p2 + 2)) 4) p1) 3))] : List Value) ++ List.map (fun x => Value.int .i64 x) l ++ []) (upd4 c13_4 c13_5 c13_6 c13_7 (Int.tmod (IntKind.wrap .i64 (p2 + 2)) 4) p4))) rfl fun ok => ⟨noChk, ?_⟩)
            refine R.nil ?_
            exact hIh_4 ((sel (upd ([c13_0, c13_1, c13_2, c13_3] : List Int) (Int.tmod (IntKind.wrap .i64 (p2 + 2)) 4) p1) 0), (sel (upd ([c13_0, c13_1, c13_2, c13_3] : List Int) (Int.tmod (IntKind.wrap .i64 (p2 + 2)) 4) p1) 1), (sel (upd ([c13_0, c13_1, c13_2, c13_3] : List Int) (Int.tmod (IntKind.wrap .i64 (p2 + 2)) 4) p1) 2), (sel (upd ([c13_0, c13_1, c13_2, c13_3] : List Int) (Int.tmod (IntKind.wrap .i64 (p2 + 2)) 4) p1) 3), (sel (upd ([c13_4, c13_5, c13_6, c13_7] : List Int) (Int.tmod (IntKind.wrap .i64 (p2 + 2)) 4) p4) 0), (sel (upd ([c13_4, c13_5, c13_6, c13_7] : List Int) (Int.tmod (IntKind.wrap .i64 (p2 + 2)) 4) p4) 1), (sel (upd ([c13_4, c13_5, c13_6, c13_7] : List Int) (Int.tmod (IntKind.wrap .i64 (p2 + 2)) 4) p4) 2), (sel (upd ([c13_4, c13_5, c13_6, c13_7] : List Int) (Int.tmod (IntKind.wrap .i64 (p2 + 2)) 4) p4) 3)) _ _ _ (Env.le_put rfl (Env.le_put rfl (Env.le_put rfl (Env.le_put rfl (Env.le_put rfl (Env.le_put rfl (Env.le_put rfl (Env.le_put rfl (Env.le_emp _))))))))) (ok.sub (.cons_cons _ List.Sublist.slnil)) (H.add_sub ok (.cons_cons _ List.Sublist.slnil)) hS
          · rw [if_neg e6] at hS
            replace e6 := eq_false_of_ne_true e6
            refine EvC.condF rfl e6 ?_
            refine EvC.skip ?_
            exact hIh_4 (c13_0, c13_1, c13_2, c13_3, c13_4, c13_5, c13_6, c13_7) _ _ _ (Env.le_put rfl (Env.le_put rfl (Env.le_put rfl (Env.le_put rfl (Env.le_put rfl (Env.le_put rfl (Env.le_put rfl (Env.le_put rfl (Env.le_emp _))))))))) (ok.sub (.cons_cons _ List.Sublist.slnil)) (H.add_sub ok (.cons_cons _ List.Sublist.slnil)) hS
      · refine EvC.seq ?_
        refine EvC.region [Item.look 0, Item.look 1, Item.look 2] (by kernel_rfl) ?_
        refine R.look rfl rfl rfl (Lk.move rfl rfl) fun _ => ?_
        refine R.look rfl rfl rfl (Lk.move rfl rfl) fun _ => ?_
        refine R.look rfl rfl rfl (Lk.arith rfl rfl rfl rfl) fun _ => ?_
        refine R.nil ?_
        by_cases e11 : (v12 == p1) = true
        · rw [if_pos e11] at hS
          refine EvC.condT rfl e11 ?_
          refine EvC.seq ?_
          refine EvC.region [Item.look 0, Item.look 1, Item.look 2, Item.look 3, Item.eff 4 []] (by kernel_rfl) ?_
          refine R.look rfl rfl rfl (Lk.move rfl rfl) fun _ => ?_
          refine R.look rfl rfl rfl (Lk.move rfl rfl) fun _ => ?_
          refine R.look (v := (.pointer (some ⟨b13, 0, none⟩))) rfl rfl rfl (Lk.fldAddr rfl Tryd.underlying51 rfl rfl T49 rfl rfl rfl) fun _ => ?_
          obtain ⟨e12, e13, hS⟩ := hS
          refine R.look (v := (.pointer (some ⟨b13, 0 + Int.toNat p2, none⟩))) rfl rfl rfl (Lk.ixLoc rfl Tryd.underlying49 T3 rfl rfl e12 e13) fun _ => ?_
          refine R.effN rfl rfl rfl (Ef.storeLoc (i := 0) (vs := [(.int .i64 p3)]) (cs := [(.int .i64 (sel (upd ([v23_0, v23_1, v23_2, v23_3] : List Int) p2 p3) 0)), (.int .i64 (sel (upd ([v23_0, v23_1, v23_2, v23_3] : List Int) p2 p3) 1)), (.int .i64 (sel (upd ([v23_0, v23_1, v23_2, v23_3] : List Int) p2 p3) 2)), (.int .i64 (sel (upd ([v23_0, v23_1, v23_2, v23_3] : List Int) p2 p3) 3)), (.int .i64 v23_4), (.int .i64 v23_5), (.int .i64 v23_6), (.int .i64 v23_7)]) (l' := [(b13, .row ⟨[(.int .i64 (sel (upd ([v23_0, v23_1, v23_2, v23_3] : List Int) p2 p3) 0)), (.int .i64 (sel (upd ([v23_0, v23_1, v23_2, v23_3] : List Int) p2 p3) 1)), (.int .i64 (sel (upd ([v23_0, v23_1, v23_2, v23_3] : List Int) p2 p3) 2)), (.int .i64 (sel (upd ([v23_0, v23_1, v23_2, v23_3] : List Int) p2 p3) 3)), (.int .i64 v23_4), (.int .i64 v23_5), (.int .i64 v23_6), (.int .i64 v23_7)], 8, 51, true, true⟩)]) ok rfl T3 rfl rfl rfl rfl rfl rfl rfl (Nat.ble_eq_true_of_le (by have h1 := e12; have h2 := e13; simp only [List.length_cons, List.length_nil]; omega)) ((upd_at (fun x => Value.int .i64 x) ([v23_0, v23_1, v23_2, v23_3] : List Int) p3 [] [(.int .i64 v23_4), (.int .i64 v23_5), (.int .i64 v23_6), (.int .i64 v23_7)] rfl (by have h1 := e12; have h2 := e13; simp only [List.length_cons, List.length_nil]; omega)).trans (congrArg (fun l => ([] : List Value) ++ List.map (fun x => Value.int .i64 x) l ++ [(.int .i64 v23_4), (.int .i64 v23_5), (.int .i64 v23_6), (.int .i64 v23_7)]) (upd4 v23_0 v23_1 v23_2 v23_3 p2 p3))) rfl fun ok => ⟨noChk, ?_⟩)
          refine R.nil ?_
          refine EvC.region [Item.look 0, Item.look 1, Item.look 2, Item.look 3, Item.eff 4 []] (by kernel_rfl) ?_
          refine R.look rfl rfl rfl (Lk.move rfl rfl) fun _ => ?_
          refine R.look rfl rfl rfl (Lk.move rfl rfl) fun _ => ?_
          refine R.look (v := (.pointer (some ⟨b13, 4, none⟩))) rfl rfl rfl (Lk.fldAddr rfl Tryd.underlying51 rfl rfl T49 rfl rfl rfl) fun _ => ?_
          obtain ⟨e14, e15, hS⟩ := hS
          refine R.look (v := (.pointer (some ⟨b13, 4 + Int.toNat p2, none⟩))) rfl rfl rfl (Lk.ixLoc rfl Tryd.underlying49 T3 rfl rfl e14 e15) fun _ => ?_
          refine R.effN rfl rfl rfl (Ef.storeLoc (i := 0) (vs := [(.int .i64 p4)]) (cs := [(.int .i64 (sel (upd ([v23_0, v23_1, v23_2, v23_3] : List Int) p2 p3) 0)), (.int .i64 (sel (upd ([v23_0, v23_1, v23_2, v23_3] : List Int) p2 p3) 1)), (.int .i64 (sel (upd ([v23_0, v23_1, v23_2, v23_3] : List Int) p2 p3) 2)), (.int .i64 (sel (upd ([v23_0, v23_1, v23_2, v23_3] : List Int) p2 p3) 3)), (.int .i64 (sel (upd ([v23_4, v23_5, v23_6, v23_7] : List Int) p2 p4) 0)), (.int .i64 (sel (upd ([v23_4, v23_5, v23_6, v23_7] : List Int) p2 p4) 1)), (.int .i64 (sel (upd ([v23_4, v23_5, v23_6, v23_7] : List Int) p2 p4) 2)), (.int .i64 (sel (upd ([v23_4, v23_5, v23_6, v23_7] : List Int) p2 p4) 3))]) (l' := [(b13, .row ⟨[(.int .i64 (sel (upd ([v23_0, v23_1, v23_2, v23_3] : List Int) p2 p3) 0)), (.int .i64 (sel (upd ([v23_0, v23_1, v23_2, v23_3] : List Int) p2 p3) 1)), (.int .i64 (sel (upd ([v23_0, v23_1, v23_2, v23_3] : List Int) p2 p3) 2)), (.int .i64 (sel (upd ([v23_0, v23_1, v23_2, v23_3] : List Int) p2 p3) 3)), (.int .i64 (sel (upd ([v23_4, v23_5, v23_6, v23_7] : List Int) p2 p4) 0)), (.int .i64 (sel (upd ([v23_4, v23_5, v23_6, v23_7] : List Int) p2 p4) 1)), (.int .i64 (sel (upd ([v23_4, v23_5, v23_6, v23_7] : List Int) p2 p4) 2)), (.int .i64 (sel (upd ([v23_4, v23_5, v23_6, v23_7] : List Int) p2 p4) 3))], 8, 51, true, true⟩)]) ok rfl T3 rfl rfl rfl rfl rfl rfl rfl (Nat.ble_eq_true_of_le (by have h1 := e14; have h2 := e15; simp only [List.length_cons, List.length_nil]; omega)) ((upd_at (fun x => Value.int .i64 x) ([v23_4, v23_5, v23_6, v23_7] : List Int) p4 [(.int .i64 (sel (upd ([v23_0, v23_1, v23_2, v23_3] : List Int) p2 p3) 0)), (.int .i64 (sel (upd ([v23_0, v23_1, v23_2, v23_3] : List Int) p2 p3) 1)), (.int .i64 (sel (upd ([v23_0, v23_1, v23_2, v23_3] : List Int) p2 p3) 2)), (.int .i64 (sel (upd ([v23_0, v23_1, v23_2, v23_3] : List Int) p2 p3) 3))] [] rfl (by have h1 := e14; have h2 := e15; simp only [List.length_cons, List.length_nil]; omega)).trans (congrArg (fun l => ([(.int .i64 (sel (upd ([v23_0, v23_1, v23_2, v23_3] : List Int) p2 p3) 0)), (.int .i64 (sel (upd ([v23_0, v23_1, v23_2, v23_3] : List Int) p2 p3) 1)), (.int .i64 (sel (upd ([v23_0, v23_1, v23_2, v23_3] : List Int) p2 p3) 2)), (.int .i64 (sel (upd ([v23_0, v23_1, v23_2, v23_3] : List Int) p2 p3) 3))] : List Value) ++ List.map (fun x => Value.int .i64 x) l ++ []) (upd4 v23_4 v23_5 v23_6 v23_7 p2 p4))) rfl fun ok => ⟨noChk, ?_⟩)
          refine R.nil ?_
          exact hIh_3 ((sel (upd ([v23_0, v23_1, v23_2, v23_3] : List Int) p2 p3) 0), (sel (upd ([v23_0, v23_1, v23_2, v23_3] : List Int) p2 p3) 1), (sel (upd ([v23_0, v23_1, v23_2, v23_3] : List Int) p2 p3) 2), (sel (upd ([v23_0, v23_1, v23_2, v23_3] : List Int) p2 p3) 3), (sel (upd ([v23_4, v23_5, v23_6, v23_7] : List Int) p2 p4) 0), (sel (upd ([v23_4, v23_5, v23_6, v23_7] : List Int) p2 p4) 1), (sel (upd ([v23_4, v23_5, v23_6, v23_7] : List Int) p2 p4) 2), (sel (upd ([v23_4, v23_5, v23_6, v23_7] : List Int) p2 p4) 3)) _ _ _ (Env.le_put rfl (Env.le_put rfl (Env.le_put rfl (Env.le_put rfl (Env.le_put rfl (Env.le_put rfl (Env.le_put rfl (Env.le_put rfl (Env.le_emp _))))))))) (ok.sub (.cons_cons _ List.Sublist.slnil)) (H.add_sub ok (.cons_cons _ List.Sublist.slnil)) hS
        · rw [if_neg e11] at hS
          replace e11 := eq_false_of_ne_true e11
          refine EvC.condF rfl e11 ?_
          refine EvC.skip ?_
          exact hIh_3 (v23_0, v23_1, v23_2, v23_3, v23_4, v23_5, v23_6, v23_7) _ _ _ (Env.le_put rfl (Env.le_put rfl (Env.le_put rfl (Env.le_put rfl (Env.le_put rfl (Env.le_put rfl (Env.le_put rfl (Env.le_put rfl (Env.le_emp _))))))))) (ok.sub (.cons_cons _ List.Sublist.slnil)) (H.add_sub ok (.cons_cons _ List.Sublist.slnil)) hS
    · rw [if_neg e1] at hS
      replace e1 := eq_false_of_ne_true e1
      refine EvC.condF rfl e1 ?_
      refine EvC.exit ?_
      exact hIh_1 v11_1 _ _ _ (Env.le_put rfl (Env.le_emp _)) (ok.sub List.Sublist.slnil) (H.add_sub ok List.Sublist.slnil) hS
end Go.Proofs.YtimadnngfhbfiaaDoor
end

section
/- PRINTED by wip/gen.py: the machine's call of muntin/muntinref10.Join does what S52 says. -/
namespace Go.Proofs.YtimadnngfhbfiaaDoor
open Go Go.Mu
set_option maxHeartbeats 4000000
set_option maxRecDepth 100000
theorem f52_ok {p0 : Sl} {p1 : Int} {p2 : Int} {p3 : Int} {p4 : Int} {h : H} {K : Sl → Int → H → Prop} (hS : S52 p0 p1 p2 p3 p4 h K) : ACall Tryd.prog 52 ([(.slice p0.a p0.l p0.c), (.int .i64 p1), (.int .i64 p2), (.int .i64 p3), (.int .i64 p4)] : List Value).toArray h (fun r h' => ∃ r0 : Sl, ∃ r1 : Int, r = tup [(.slice r0.a r0.l r0.c), (.int .i64 r1)] ∧ K r0 r1 h') := by
  refine ACall.enter (fn := Tryd.f52) Tryd.func52 rfl (Nat.le_of_ble_eq_true rfl) ?_
  unfold S52 at hS
  have ok := Lok.nil h
  change EvC _ _ _ _ (H.add h []) _
  refine EvC.seq ?_
  refine EvC.region [Item.look 0, Item.look 1] (by kernel_rfl) ?_
  refine R.look rfl rfl rfl (Lk.assign rfl rfl) fun _ => ?_
  refine R.look rfl rfl rfl (Lk.assign rfl rfl) fun _ => ?_
  refine R.nil ?_
  refine EvC.seq ?_
  refine EvC.join (σ := Bool) (fun s => (Env.put (Env.put (Env.put (Env.put (Env.put (Env.put Env.emp 47 (.bool s)) 4 (.int .i64 p4)) 3 (.int .i64 p3)) 2 (.int .i64 p2)) 1 (.int .i64 p1)) 0 (.slice p0.a p0.l p0.c))) (fun s => []) (fun s h_1 => S52_j2 p0 p1 p2 p3 p4 K s h_1) ?_ (fun Ih_1 hIh_1 => ?_)
  · intro v47 h_1 ok hS
    replace hS : S52_j2 p0 p1 p2 p3 p4 K v47 h_1 := hS
    change EvC _ _ _ (Env.put (Env.put (Env.put (Env.put (Env.put (Env.put Env.emp 47 (.bool v47)) 4 (.int .i64 p4)) 3 (.int .i64 p3)) 2 (.int .i64 p2)) 1 (.int .i64 p1)) 0 (.slice p0.a p0.l p0.c)) (H.add h_1 []) _
    unfold S52_j2 at hS
    by_cases e1 : v47 = true
    · rw [if_pos e1] at hS
      refine EvC.condT rfl e1 ?_
      refine EvC.seq ?_
      refine EvC.region [Item.look 0, Item.look 1, Item.look 2] (by kernel_rfl) ?_
      refine R.look rfl rfl rfl (Lk.move rfl rfl) fun _ => ?_
      refine R.look rfl rfl rfl (Lk.assign rfl rfl) fun _ => ?_
      refine R.look rfl rfl rfl (Lk.assign rfl rfl) fun _ => ?_
      refine R.nil ?_
      refine EvC.ret ?_
      exact ⟨.inr rfl, _, _, (.cons (.tmp rfl) (.cons (.tmp rfl) .nil)), ok.le, _, _, rfl, hS⟩
    · rw [if_neg e1] at hS
      replace e1 := eq_false_of_ne_true e1
      refine EvC.condF rfl e1 ?_
      refine EvC.skip ?_
      refine EvC.seq ?_
      refine EvC.join (σ := Bool) (fun s => (Env.put (Env.put (Env.put (Env.put (Env.put (Env.put Env.emp 68 (.bool s)) 4 (.int .i64 p4)) 3 (.int .i64 p3)) 2 (.int .i64 p2)) 1 (.int .i64 p1)) 0 (.slice p0.a p0.l p0.c))) (fun s => []) (fun s h_2 => S52_j1 p0 p1 p2 p3 p4 K s h_2) ?_ (fun Ih_2 hIh_2 => ?_)
      · intro v68 h_2 ok hS
        replace hS : S52_j1 p0 p1 p2 p3 p4 K v68 h_2 := hS
        change EvC _ _ _ (Env.put (Env.put (Env.put (Env.put (Env.put (Env.put Env.emp 68 (.bool v68)) 4 (.int .i64 p4)) 3 (.int .i64 p3)) 2 (.int .i64 p2)) 1 (.int .i64 p1)) 0 (.slice p0.a p0.l p0.c)) (H.add h_2 []) _
        unfold S52_j1 at hS
        by_cases e2 : v68 = true
        · rw [if_pos e2] at hS
          refine EvC.condT rfl e2 ?_
          refine EvC.seq ?_
          refine EvC.region [Item.look 0, Item.look 1, Item.look 2] (by kernel_rfl) ?_
          refine R.look rfl rfl rfl (Lk.move rfl rfl) fun _ => ?_
          refine R.look rfl rfl rfl (Lk.assign rfl rfl) fun _ => ?_
          refine R.look rfl rfl rfl (Lk.assign rfl rfl) fun _ => ?_
          refine R.nil ?_
          refine EvC.ret ?_
          exact ⟨.inr rfl, _, _, (.cons (.tmp rfl) (.cons (.tmp rfl) .nil)), ok.le, _, _, rfl, hS⟩
        · rw [if_neg e2] at hS
          replace e2 := eq_false_of_ne_true e2
          refine EvC.condF rfl e2 ?_
          refine EvC.skip ?_
          refine EvC.seq ?_
          refine EvC.region [Item.look 0, Item.look 1, Item.look 2, Item.look 3, Item.look 4, Item.eff 5 [], Item.look 6] (by kernel_rfl) ?_
          refine R.look rfl rfl rfl (Lk.move rfl rfl) fun _ => ?_
          refine R.look rfl rfl rfl (Lk.move rfl rfl) fun _ => ?_
          refine R.look rfl rfl rfl (Lk.move rfl rfl) fun _ => ?_
          refine R.look rfl rfl rfl (Lk.move rfl rfl) fun _ => ?_
          refine R.look rfl rfl rfl (Lk.move rfl rfl) fun _ => ?_
          refine R.eff rfl rfl rfl (Eff.loc ok (Ef.call rfl CB79 rfl ((f79_ok hS).mono ?_)))
          rintro _ h_3 ⟨v75, rfl, hS⟩
          refine fun ok => ⟨noChk, ?_⟩
          refine R.look rfl rfl rfl (Lk.assign rfl rfl) fun _ => ?_
          refine R.nil ?_
          refine EvC.seq ?_
          refine EvC.region [Item.look 0, Item.look 1, Item.look 2] (by kernel_rfl) ?_
          refine R.look rfl rfl rfl (Lk.move rfl rfl) fun _ => ?_
          refine R.look rfl rfl rfl (Lk.assign rfl rfl) fun _ => ?_
          refine R.look rfl rfl rfl (Lk.assign rfl rfl) fun _ => ?_
          refine R.nil ?_
          refine EvC.ret ?_
          exact ⟨.inr rfl, _, _, (.cons (.tmp rfl) (.cons (.tmp rfl) .nil)), ok.le, _, _, rfl, hS⟩
      · refine EvC.region [Item.look 0, Item.look 1, Item.look 2, Item.look 3, Item.look 4, Item.look 5, Item.look 6, Item.look 7, Item.look 8, Item.look 9, Item.look 10, Item.look 11, Item.look 12, Item.look 13, Item.look 14, Item.look 15, Item.look 16, Item.look 17, Item.look 18, Item.look 19] (by kernel_rfl) ?_
        refine R.look rfl rfl rfl (Lk.move rfl rfl) fun _ => ?_
        refine R.look rfl rfl rfl (Lk.move rfl rfl) fun _ => ?_
        refine R.look rfl rfl rfl (Lk.move rfl rfl) fun _ => ?_
        obtain ⟨a52, e3, e4, e5, hS⟩ := hS
        refine R.look rfl rfl rfl (Lk.ixAddr rfl Tryd.underlying31 T51 rfl e3 rfl e4 e5) fun _ => ?_
        refine R.look (v := (.pointer (some (Addr.add a52 (Int.toNat p1 * 8))))) rfl rfl rfl (Lk.fldAddr rfl Tryd.underlying51 rfl rfl T49 rfl rfl rfl) fun _ => ?_
        obtain ⟨e6, e7, hS⟩ := hS
        refine R.look rfl rfl rfl (Lk.indexAddrA rfl Tryd.underlying49 T3 rfl rfl e6 e7) fun _ => ?_
        obtain ⟨v55, e8, hS⟩ := hS
        refine R.look rfl rfl rfl (Look.loc ok (Lk.load1 rfl Tryd.underlying3 rfl rfl e8)) fun _ => ?_
        refine R.look rfl rfl rfl (Lk.arith rfl rfl rfl rfl) fun _ => ?_
        refine R.look rfl rfl rfl (Lk.move rfl rfl) fun _ => ?_
        by_cases e9 : (v55 != (-1)) = true
        · rw [if_pos e9] at hS
          refine R.lookF rfl rfl rfl rfl e9 rfl fun _ => ?_
          refine R.lookF rfl rfl rfl rfl e9 rfl fun _ => ?_
          refine R.lookF rfl rfl rfl rfl e9 rfl fun _ => ?_
          refine R.lookF rfl rfl rfl rfl e9 rfl fun _ => ?_
          refine R.lookF rfl rfl rfl rfl e9 rfl fun _ => ?_
          refine R.lookF rfl rfl rfl rfl e9 rfl fun _ => ?_
          refine R.lookF rfl rfl rfl rfl e9 rfl fun _ => ?_
          refine R.lookF rfl rfl rfl rfl e9 rfl fun _ => ?_
          refine R.lookF rfl rfl rfl rfl e9 rfl fun _ => ?_
          refine R.lookF rfl rfl rfl rfl e9 rfl fun _ => ?_
          refine R.look rfl rfl rfl (Lk.pick rfl rfl (fun _ => rfl) (fun e => by rw [e9] at e; cases e)) fun _ => ?_
          refine R.nil ?_
          exact hIh_2 true _ _ _ (Env.le_put rfl (Env.le_put rfl (Env.le_put rfl (Env.le_put rfl (Env.le_put rfl (Env.le_put rfl (Env.le_emp _))))))) (ok.sub List.Sublist.slnil) (H.add_sub ok List.Sublist.slnil) hS
        · rw [if_neg e9] at hS
          replace e9 := eq_false_of_ne_true e9
          refine R.lookT rfl rfl rfl rfl e9 rfl (Lk.move rfl rfl) fun _ => ?_
          refine R.lookT rfl rfl rfl rfl e9 rfl (Lk.move rfl rfl) fun _ => ?_
          refine R.lookT rfl rfl rfl rfl e9 rfl (Lk.move rfl rfl) fun _ => ?_
          refine R.lookT rfl rfl rfl rfl e9 rfl (Lk.arith rfl rfl rfl rfl) fun _ => ?_
          refine R.lookT rfl rfl rfl rfl e9 rfl (Lk.rem (j := 4) rfl rfl rfl (by decide)) fun _ => ?_
          obtain ⟨a63, e10, e11, e12, hS⟩ := hS
          refine R.lookT rfl rfl rfl rfl e9 rfl (Lk.ixAddr rfl Tryd.underlying31 T51 rfl e10 rfl e11 e12) fun _ => ?_
          refine R.lookT (v := (.pointer (some (Addr.add a63 (Int.toNat p3 * 8))))) rfl rfl rfl rfl e9 rfl (Lk.fldAddr rfl Tryd.underlying51 rfl rfl T49 rfl rfl rfl) fun _ => ?_
          obtain ⟨e13, e14, hS⟩ := hS
          refine R.lookT rfl rfl rfl rfl e9 rfl (Lk.indexAddrA rfl Tryd.underlying49 T3 rfl rfl e13 e14) fun _ => ?_
          obtain ⟨v66, e15, hS⟩ := hS
          refine R.lookT rfl rfl rfl rfl e9 rfl (Look.loc ok (Lk.load1 rfl Tryd.underlying3 rfl rfl e15)) fun _ => ?_
          refine R.lookT rfl rfl rfl rfl e9 rfl (Lk.arith rfl rfl rfl rfl) fun _ => ?_
          refine R.look rfl rfl rfl (Lk.pick rfl rfl (fun e => by rw [e9] at e; cases e) (fun _ => rfl)) fun _ => ?_
          refine R.nil ?_
          exact hIh_2 (v66 != (-1)) _ _ _ (Env.le_put rfl (Env.le_put rfl (Env.le_put rfl (Env.le_put rfl (Env.le_put rfl (Env.le_put rfl (Env.le_emp _))))))) (ok.sub List.Sublist.slnil) (H.add_sub ok List.Sublist.slnil) hS
  · refine EvC.region [Item.look 0, Item.look 1, Item.look 2, Item.look 3, Item.look 4, Item.look 5, Item.look 6, Item.look 7, Item.look 8, Item.look 9, Item.look 10, Item.look 11, Item.look 12, Item.look 13, Item.look 14, Item.look 15, Item.look 16, Item.look 17, Item.look 18, Item.look 19, Item.look 20, Item.look 21, Item.look 22, Item.look 23, Item.look 24, Item.look 25, Item.look 26, Item.look 27, Item.look 28, Item.look 29, Item.look 30, Item.look 31, Item.look 32, Item.look 33, Item.look 34] (by kernel_rfl) ?_
    refine R.look rfl rfl rfl (Lk.move rfl rfl) fun _ => ?_
    refine R.look rfl rfl rfl (Lk.arith rfl rfl rfl rfl) fun _ => ?_
    refine R.look rfl rfl rfl (Lk.move rfl rfl) fun _ => ?_
    by_cases e16 : (decide (p1 < 0)) = true
    · refine R.lookF rfl rfl rfl rfl e16 rfl fun _ => ?_
      refine R.lookF rfl rfl rfl rfl e16 rfl fun _ => ?_
      refine R.lookF rfl rfl rfl rfl e16 rfl fun _ => ?_
      refine R.lookF rfl rfl rfl rfl e16 rfl fun _ => ?_
      refine R.look rfl rfl rfl (Lk.pick rfl rfl (fun _ => rfl) (fun e => by rw [e16] at e; cases e)) fun _ => ?_
      refine R.look rfl rfl rfl (Lk.move rfl rfl) fun _ => ?_
      refine R.lookF rfl rfl rfl rfl rfl rfl fun _ => ?_
      refine R.lookF rfl rfl rfl rfl rfl rfl fun _ => ?_
      refine R.look rfl rfl rfl (Lk.pick rfl rfl (fun _ => rfl) (fun e => by cases e)) fun _ => ?_
      refine R.look rfl rfl rfl (Lk.move rfl rfl) fun _ => ?_
      refine R.lookF rfl rfl rfl rfl rfl rfl fun _ => ?_
      refine R.lookF rfl rfl rfl rfl rfl rfl fun _ => ?_
      refine R.lookF rfl rfl rfl rfl rfl rfl fun _ => ?_
      refine R.lookF rfl rfl rfl rfl rfl rfl fun _ => ?_
      refine R.look rfl rfl rfl (Lk.pick rfl rfl (fun _ => rfl) (fun e => by cases e)) fun _ => ?_
      refine R.look rfl rfl rfl (Lk.move rfl rfl) fun _ => ?_
      refine R.lookF rfl rfl rfl rfl rfl rfl fun _ => ?_
      refine R.lookF rfl rfl rfl rfl rfl rfl fun _ => ?_
      refine R.lookF rfl rfl rfl rfl rfl rfl fun _ => ?_
      refine R.look rfl rfl rfl (Lk.pick rfl rfl (fun _ => rfl) (fun e => by cases e)) fun _ => ?_
      refine R.look rfl rfl rfl (Lk.move rfl rfl) fun _ => ?_
      refine R.lookF rfl rfl rfl rfl rfl rfl fun _ => ?_
      refine R.lookF rfl rfl rfl rfl rfl rfl fun _ => ?_
      refine R.look rfl rfl rfl (Lk.pick rfl rfl (fun _ => rfl) (fun e => by cases e)) fun _ => ?_
      refine R.look rfl rfl rfl (Lk.move rfl rfl) fun _ => ?_
      refine R.lookF rfl rfl rfl rfl rfl rfl fun _ => ?_
      refine R.lookF rfl rfl rfl rfl rfl rfl fun _ => ?_
      refine R.look rfl rfl rfl (Lk.pick rfl rfl (fun _ => rfl) (fun e => by cases e)) fun _ => ?_
      refine R.look rfl rfl rfl (Lk.move rfl rfl) fun _ => ?_
      refine R.lookF rfl rfl rfl rfl rfl rfl fun _ => ?_
      refine R.lookF rfl rfl rfl rfl rfl rfl fun _ => ?_
      refine R.look rfl rfl rfl (Lk.pick rfl rfl (fun _ => rfl) (fun e => by cases e)) fun _ => ?_
      refine R.nil ?_
      exact hIh_1 ((((((((decide (p1 < 0)) || (decide (p1 ≥ (p0.l : Int)))) || (decide (p3 < 0))) || (decide (p3 ≥ (p0.l : Int)))) || (p1 == p3)) || (decide (p2 < 0))) || (decide (p2 > 3))) || (decide (p4 < (-2)))) _ _ _ (Env.le_put rfl (Env.le_put rfl (Env.le_put rfl (Env.le_put rfl (Env.le_put rfl (Env.le_put (by rw [e16]; rfl) (Env.le_emp _))))))) (ok.sub List.Sublist.slnil) (H.add_sub ok List.Sublist.slnil) hS
    · replace e16 := eq_false_of_ne_true e16
      refine R.lookT rfl rfl rfl rfl e16 rfl (Lk.move rfl rfl) fun _ => ?_
      refine R.lookT rfl rfl rfl rfl e16 rfl (Lk.move rfl rfl) fun _ => ?_
      refine R.lookT rfl rfl rfl rfl e16 rfl (Lk.len rfl Tryd.underlying31 rfl) fun _ => ?_
      refine R.lookT rfl rfl rfl rfl e16 rfl (Lk.arith rfl rfl rfl rfl) fun _ => ?_
      refine R.look rfl rfl rfl (Lk.pick rfl rfl (fun e => by rw [e16] at e; cases e) (fun _ => rfl)) fun _ => ?_
      refine R.look rfl rfl rfl (Lk.move rfl rfl) fun _ => ?_
      by_cases e17 : (decide (p1 ≥ (p0.l : Int))) = true
      · refine R.lookF rfl rfl rfl rfl e17 rfl fun _ => ?_
        refine R.lookF rfl rfl rfl rfl e17 rfl fun _ => ?_
        refine R.look rfl rfl rfl (Lk.pick rfl rfl (fun _ => rfl) (fun e => by rw [e17] at e; cases e)) fun _ => ?_
        refine R.look rfl rfl rfl (Lk.move rfl rfl) fun _ => ?_
        refine R.lookF rfl rfl rfl rfl rfl rfl fun _ => ?_
        refine R.lookF rfl rfl rfl rfl rfl rfl fun _ => ?_
        refine R.lookF rfl rfl rfl rfl rfl rfl fun _ => ?_
        refine R.lookF rfl rfl rfl rfl rfl rfl fun _ => ?_
        refine R.look rfl rfl rfl (Lk.pick rfl rfl (fun _ => rfl) (fun e => by cases e)) fun _ => ?_
        refine R.look rfl rfl rfl (Lk.move rfl rfl) fun _ => ?_
        refine R.lookF rfl rfl rfl rfl rfl rfl fun _ => ?_
        refine R.lookF rfl rfl rfl rfl rfl rfl fun _ => ?_
        refine R.lookF rfl rfl rfl rfl rfl rfl fun _ => ?_
        refine R.look rfl rfl rfl (Lk.pick rfl rfl (fun _ => rfl) (fun e => by cases e)) fun _ => ?_
        refine R.look rfl rfl rfl (Lk.move rfl rfl) fun _ => ?_
        refine R.lookF rfl rfl rfl rfl rfl rfl fun _ => ?_
        refine R.lookF rfl rfl rfl rfl rfl rfl fun _ => ?_
        refine R.look rfl rfl rfl (Lk.pick rfl rfl (fun _ => rfl) (fun e => by cases e)) fun _ => ?_
        refine R.look rfl rfl rfl (Lk.move rfl rfl) fun _ => ?_
        refine R.lookF rfl rfl rfl rfl rfl rfl fun _ => ?_
        refine R.lookF rfl rfl rfl rfl rfl rfl fun _ => ?_
        refine R.look rfl rfl rfl (Lk.pick rfl rfl (fun _ => rfl) (fun e => by cases e)) fun _ => ?_
        refine R.look rfl rfl rfl (Lk.move rfl rfl) fun _ => ?_
        refine R.lookF rfl rfl rfl rfl rfl rfl fun _ => ?_
        refine R.lookF rfl rfl rfl rfl rfl rfl fun _ => ?_
        refine R.look rfl rfl rfl (Lk.pick rfl rfl (fun _ => rfl) (fun e => by cases e)) fun _ => ?_
        refine R.nil ?_
        exact hIh_1 ((((((((decide (p1 < 0)) || (decide (p1 ≥ (p0.l : Int)))) || (decide (p3 < 0))) || (decide (p3 ≥ (p0.l : Int)))) || (p1 == p3)) || (decide (p2 < 0))) || (decide (p2 > 3))) || (decide (p4 < (-2)))) _ _ _ (Env.le_put rfl (Env.le_put rfl (Env.le_put rfl (Env.le_put rfl (Env.le_put rfl (Env.le_put (by rw [e16, e17]; rfl) (Env.le_emp _))))))) (ok.sub List.Sublist.slnil) (H.add_sub ok List.Sublist.slnil) hS
      · replace e17 := eq_false_of_ne_true e17
        refine R.lookT rfl rfl rfl rfl e17 rfl (Lk.move rfl rfl) fun _ => ?_
        refine R.lookT rfl rfl rfl rfl e17 rfl (Lk.arith rfl rfl rfl rfl) fun _ => ?_
        refine R.look rfl rfl rfl (Lk.pick rfl rfl (fun e => by rw [e17] at e; cases e) (fun _ => rfl)) fun _ => ?_
        refine R.look rfl rfl rfl (Lk.move rfl rfl) fun _ => ?_
        by_cases e18 : (decide (p3 < 0)) = true
        · refine R.lookF rfl rfl rfl rfl e18 rfl fun _ => ?_
          refine R.lookF rfl rfl rfl rfl e18 rfl fun _ => ?_
          refine R.lookF rfl rfl rfl rfl e18 rfl fun _ => ?_
          refine R.lookF rfl rfl rfl rfl e18 rfl fun _ => ?_
          refine R.look rfl rfl rfl (Lk.pick rfl rfl (fun _ => rfl) (fun e => by rw [e18] at e; cases e)) fun _ => ?_
          refine R.look rfl rfl rfl (Lk.move rfl rfl) fun _ => ?_
          refine R.lookF rfl rfl rfl rfl rfl rfl fun _ => ?_
          refine R.lookF rfl rfl rfl rfl rfl rfl fun _ => ?_
          refine R.lookF rfl rfl rfl rfl rfl rfl fun _ => ?_
          refine R.look rfl rfl rfl (Lk.pick rfl rfl (fun _ => rfl) (fun e => by cases e)) fun _ => ?_
          refine R.look rfl rfl rfl (Lk.move rfl rfl) fun _ => ?_
          refine R.lookF rfl rfl rfl rfl rfl rfl fun _ => ?_
          refine R.lookF rfl rfl rfl rfl rfl rfl fun _ => ?_
          refine R.look rfl rfl rfl (Lk.pick rfl rfl (fun _ => rfl) (fun e => by cases e)) fun _ => ?_
          refine R.look rfl rfl rfl (Lk.move rfl rfl) fun _ => ?_
          refine R.lookF rfl rfl rfl rfl rfl rfl fun _ => ?_
          refine R.lookF rfl rfl rfl rfl rfl rfl fun _ => ?_
          refine R.look rfl rfl rfl (Lk.pick rfl rfl (fun _ => rfl) (fun e => by cases e)) fun _ => ?_
          refine R.look rfl rfl rfl (Lk.move rfl rfl) fun _ => ?_
          refine R.lookF rfl rfl rfl rfl rfl rfl fun _ => ?_
          refine R.lookF rfl rfl rfl rfl rfl rfl fun _ => ?_
          refine R.look rfl rfl rfl (Lk.pick rfl rfl (fun _ => rfl) (fun e => by cases e)) fun _ => ?_
          refine R.nil ?_
          exact hIh_1 ((((((((decide (p1 < 0)) || (decide (p1 ≥ (p0.l : Int)))) || (decide (p3 < 0))) || (decide (p3 ≥ (p0.l : Int)))) || (p1 == p3)) || (decide (p2 < 0))) || (decide (p2 > 3))) || (decide (p4 < (-2)))) _ _ _ (Env.le_put rfl (Env.le_put rfl (Env.le_put rfl (Env.le_put rfl (Env.le_put rfl (Env.le_put (by rw [e16, e17, e18]; rfl) (Env.le_emp _))))))) (ok.sub List.Sublist.slnil) (H.add_sub ok List.Sublist.slnil) hS
        · replace e18 := eq_false_of_ne_true e18
          refine R.lookT rfl rfl rfl rfl e18 rfl (Lk.move rfl rfl) fun _ => ?_
          refine R.lookT rfl rfl rfl rfl e18 rfl (Lk.move rfl rfl) fun _ => ?_
          refine R.lookT rfl rfl rfl rfl e18 rfl (Lk.len rfl Tryd.underlying31 rfl) fun _ => ?_
          refine R.lookT rfl rfl rfl rfl e18 rfl (Lk.arith rfl rfl rfl rfl) fun _ => ?_
          refine R.look rfl rfl rfl (Lk.pick rfl rfl (fun e => by rw [e18] at e; cases e) (fun _ => rfl)) fun _ => ?_
          refine R.look rfl rfl rfl (Lk.move rfl rfl) fun _ => ?_
          by_cases e19 : (decide (p3 ≥ (p0.l : Int))) = true
          · refine R.lookF rfl rfl rfl rfl e19 rfl fun _ => ?_
            refine R.lookF rfl rfl rfl rfl e19 rfl fun _ => ?_
            refine R.lookF rfl rfl rfl rfl e19 rfl fun _ => ?_
            refine R.look rfl rfl rfl (Lk.pick rfl rfl (fun _ => rfl) (fun e => by rw [e19] at e; cases e)) fun _ => ?_
            refine R.look rfl rfl rfl (Lk.move rfl rfl) fun _ => ?_
            refine R.lookF rfl rfl rfl rfl rfl rfl fun _ => ?_
            refine R.lookF rfl rfl rfl rfl rfl rfl fun _ => ?_
            refine R.look rfl rfl rfl (Lk.pick rfl rfl (fun _ => rfl) (fun e => by cases e)) fun _ => ?_
            refine R.look rfl rfl rfl (Lk.move rfl rfl) fun _ => ?_
            refine R.lookF rfl rfl rfl rfl rfl rfl fun _ => ?_
            refine R.lookF rfl rfl rfl rfl rfl rfl fun _ => ?_
            refine R.look rfl rfl rfl (Lk.pick rfl rfl (fun _ => rfl) (fun e => by cases e)) fun _ => ?_
            refine R.look rfl rfl rfl (Lk.move rfl rfl) fun _ => ?_
            refine R.lookF rfl rfl rfl rfl rfl rfl fun _ => ?_
            refine R.lookF rfl rfl rfl rfl rfl rfl fun _ => ?_
            refine R.look rfl rfl rfl (Lk.pick rfl rfl (fun _ => rfl) (fun e => by cases e)) fun _ => ?_
            refine R.nil ?_
            exact hIh_1 ((((((((decide (p1 < 0)) || (decide (p1 ≥ (p0.l : Int)))) || (decide (p3 < 0))) || (decide (p3 ≥ (p0.l : Int)))) || (p1 == p3)) || (decide (p2 < 0))) || (decide (p2 > 3))) || (decide (p4 < (-2)))) _ _ _ (Env.le_put rfl (Env.le_put rfl (Env.le_put rfl (Env.le_put rfl (Env.le_put rfl (Env.le_put (by rw [e16, e17, e18, e19]; rfl) (Env.le_emp _))))))) (ok.sub List.Sublist.slnil) (H.add_sub ok List.Sublist.slnil) hS
          · replace e19 := eq_false_of_ne_true e19
            refine R.lookT rfl rfl rfl rfl e19 rfl (Lk.move rfl rfl) fun _ => ?_
            refine R.lookT rfl rfl rfl rfl e19 rfl (Lk.move rfl rfl) fun _ => ?_
            refine R.lookT rfl rfl rfl rfl e19 rfl (Lk.arith rfl rfl rfl rfl) fun _ => ?_
            refine R.look rfl rfl rfl (Lk.pick rfl rfl (fun e => by rw [e19] at e; cases e) (fun _ => rfl)) fun _ => ?_
            refine R.look rfl rfl rfl (Lk.move rfl rfl) fun _ => ?_
            by_cases e20 : (p1 == p3) = true
            · refine R.lookF rfl rfl rfl rfl e20 rfl fun _ => ?_
              refine R.lookF rfl rfl rfl rfl e20 rfl fun _ => ?_
              refine R.look rfl rfl rfl (Lk.pick rfl rfl (fun _ => rfl) (fun e => by rw [e20] at e; cases e)) fun _ => ?_
              refine R.look rfl rfl rfl (Lk.move rfl rfl) fun _ => ?_
              refine R.lookF rfl rfl rfl rfl rfl rfl fun _ => ?_
              refine R.lookF rfl rfl rfl rfl rfl rfl fun _ => ?_
              refine R.look rfl rfl rfl (Lk.pick rfl rfl (fun _ => rfl) (fun e => by cases e)) fun _ => ?_
              refine R.look rfl rfl rfl (Lk.move rfl rfl) fun _ => ?_
              refine R.lookF rfl rfl rfl rfl rfl rfl fun _ => ?_
              refine R.lookF rfl rfl rfl rfl rfl rfl fun _ => ?_
              refine R.look rfl rfl rfl (Lk.pick rfl rfl (fun _ => rfl) (fun e => by cases e)) fun _ => ?_
              refine R.nil ?_
              exact hIh_1 ((((((((decide (p1 < 0)) || (decide (p1 ≥ (p0.l : Int)))) || (decide (p3 < 0))) || (decide (p3 ≥ (p0.l : Int)))) || (p1 == p3)) || (decide (p2 < 0))) || (decide (p2 > 3))) || (decide (p4 < (-2)))) _ _ _ (Env.le_put rfl (Env.le_put rfl (Env.le_put rfl (Env.le_put rfl (Env.le_put rfl (Env.le_put (by rw [e16, e17, e18, e19, e20]; rfl) (Env.le_emp _))))))) (ok.sub List.Sublist.slnil) (H.add_sub ok List.Sublist.slnil) hS
            · replace e20 := eq_false_of_ne_true e20
              refine R.lookT rfl rfl rfl rfl e20 rfl (Lk.move rfl rfl) fun _ => ?_
              refine R.lookT rfl rfl rfl rfl e20 rfl (Lk.arith rfl rfl rfl rfl) fun _ => ?_
              refine R.look rfl rfl rfl (Lk.pick rfl rfl (fun e => by rw [e20] at e; cases e) (fun _ => rfl)) fun _ => ?_
              refine R.look rfl rfl rfl (Lk.move rfl rfl) fun _ => ?_
              by_cases e21 : (decide (p2 < 0)) = true
              · refine R.lookF rfl rfl rfl rfl e21 rfl fun _ => ?_
                refine R.lookF rfl rfl rfl rfl e21 rfl fun _ => ?_
                refine R.look rfl rfl rfl (Lk.pick rfl rfl (fun _ => rfl) (fun e => by rw [e21] at e; cases e)) fun _ => ?_
                refine R.look rfl rfl rfl (Lk.move rfl rfl) fun _ => ?_
                refine R.lookF rfl rfl rfl rfl rfl rfl fun _ => ?_
                refine R.lookF rfl rfl rfl rfl rfl rfl fun _ => ?_
                refine R.look rfl rfl rfl (Lk.pick rfl rfl (fun _ => rfl) (fun e => by cases e)) fun _ => ?_
                refine R.nil ?_
                exact hIh_1 ((((((((decide (p1 < 0)) || (decide (p1 ≥ (p0.l : Int)))) || (decide (p3 < 0))) || (decide (p3 ≥ (p0.l : Int)))) || (p1 == p3)) || (decide (p2 < 0))) || (decide (p2 > 3))) || (decide (p4 < (-2)))) _ _ _ (Env.le_put rfl (Env.le_put rfl (Env.le_put rfl (Env.le_put rfl (Env.le_put rfl (Env.le_put (by rw [e16, e17, e18, e19, e20, e21]; rfl) (Env.le_emp _))))))) (ok.sub List.Sublist.slnil) (H.add_sub ok List.Sublist.slnil) hS
              · replace e21 := eq_false_of_ne_true e21
                refine R.lookT rfl rfl rfl rfl e21 rfl (Lk.move rfl rfl) fun _ => ?_
                refine R.lookT rfl rfl rfl rfl e21 rfl (Lk.arith rfl rfl rfl rfl) fun _ => ?_
                refine R.look rfl rfl rfl (Lk.pick rfl rfl (fun e => by rw [e21] at e; cases e) (fun _ => rfl)) fun _ => ?_
                refine R.look rfl rfl rfl (Lk.move rfl rfl) fun _ => ?_
                by_cases e22 : (decide (p2 > 3)) = true
                · refine R.lookF rfl rfl rfl rfl e22 rfl fun _ => ?_
                  refine R.lookF rfl rfl rfl rfl e22 rfl fun _ => ?_
                  refine R.look rfl rfl rfl (Lk.pick rfl rfl (fun _ => rfl) (fun e => by rw [e22] at e; cases e)) fun _ => ?_
                  refine R.nil ?_
                  exact hIh_1 ((((((((decide (p1 < 0)) || (decide (p1 ≥ (p0.l : Int)))) || (decide (p3 < 0))) || (decide (p3 ≥ (p0.l : Int)))) || (p1 == p3)) || (decide (p2 < 0))) || (decide (p2 > 3))) || (decide (p4 < (-2)))) _ _ _ (Env.le_put rfl (Env.le_put rfl (Env.le_put rfl (Env.le_put rfl (Env.le_put rfl (Env.le_put (by rw [e16, e17, e18, e19, e20, e21, e22]; rfl) (Env.le_emp _))))))) (ok.sub List.Sublist.slnil) (H.add_sub ok List.Sublist.slnil) hS
                · replace e22 := eq_false_of_ne_true e22
                  refine R.lookT rfl rfl rfl rfl e22 rfl (Lk.move rfl rfl) fun _ => ?_
                  refine R.lookT rfl rfl rfl rfl e22 rfl (Lk.arith rfl rfl rfl rfl) fun _ => ?_
                  refine R.look rfl rfl rfl (Lk.pick rfl rfl (fun e => by rw [e22] at e; cases e) (fun _ => rfl)) fun _ => ?_
                  refine R.nil ?_
                  exact hIh_1 ((((((((decide (p1 < 0)) || (decide (p1 ≥ (p0.l : Int)))) || (decide (p3 < 0))) || (decide (p3 ≥ (p0.l : Int)))) || (p1 == p3)) || (decide (p2 < 0))) || (decide (p2 > 3))) || (decide (p4 < (-2)))) _ _ _ (Env.le_put rfl (Env.le_put rfl (Env.le_put rfl (Env.le_put rfl (Env.le_put rfl (Env.le_put (by rw [e16, e17, e18, e19, e20, e21, e22]; rfl) (Env.le_emp _))))))) (ok.sub List.Sublist.slnil) (H.add_sub ok List.Sublist.slnil) hS
end Go.Proofs.YtimadnngfhbfiaaDoor
end

section
/- PRINTED by wip/gen.py: the machine's call of muntin/muntinref11.box does what S50 says. -/
namespace Go.Proofs.YtimadnngfhbfiaaDoor
open Go Go.Mu
set_option maxHeartbeats 4000000
set_option maxRecDepth 100000
theorem f50_ok {p0_0 : Sl} {p0_1 : Sl} {p0_2 : Sl} {p0_3 : Sl} {p1_0 : Sl} {p1_1 : Sl} {p2 : Int} {h : H} {K : Sl → Sl → Sl → Sl → H → Prop} (hS : S50 p0_0 p0_1 p0_2 p0_3 p1_0 p1_1 p2 h K) : ACall Tryd.prog 50 ([(.agg ([(.slice p0_0.a p0_0.l p0_0.c), (.slice p0_1.a p0_1.l p0_1.c), (.slice p0_2.a p0_2.l p0_2.c), (.slice p0_3.a p0_3.l p0_3.c)] : List Value).toArray), (.agg ([(.slice p1_0.a p1_0.l p1_0.c), (.slice p1_1.a p1_1.l p1_1.c)] : List Value).toArray), (.int .i64 p2)] : List Value).toArray h (fun r h' => ∃ r0_0 : Sl, ∃ r0_1 : Sl, ∃ r0_2 : Sl, ∃ r0_3 : Sl, r = tup [(.agg ([(.slice r0_0.a r0_0.l r0_0.c), (.slice r0_1.a r0_1.l r0_1.c), (.slice r0_2.a r0_2.l r0_2.c), (.slice r0_3.a r0_3.l r0_3.c)] : List Value).toArray)] ∧ K r0_0 r0_1 r0_2 r0_3 h') := by
  refine ACall.enter (fn := Tryd.f50) Tryd.func50 rfl (Nat.le_of_ble_eq_true rfl) ?_
  unfold S50 at hS
  have ok := Lok.nil h
  change EvC _ _ _ _ (H.add h []) _
  refine EvC.seq ?_
  refine EvC.region [Item.alc 0, Item.alc 1, Item.alc 2] (by kernel_rfl) ?_
  refine R.var (blk := .row ⟨[(.slice p0_0.a p0_0.l p0_0.c), (.slice p0_1.a p0_1.l p0_1.c), (.slice p0_2.a p0_2.l p0_2.c), (.slice p0_3.a p0_3.l p0_3.c)], 4, 43, true, true⟩) ok rfl rfl rfl (Ac.box rfl rfl) rfl rfl fun b3 ok => ?_
  refine R.var (blk := .row ⟨[(.slice p1_0.a p1_0.l p1_0.c), (.slice p1_1.a p1_1.l p1_1.c)], 2, 29, true, true⟩) ok rfl rfl rfl (Ac.box rfl rfl) rfl rfl fun b4 ok => ?_
  refine R.var (blk := .row ⟨[(.slice none 0 0), (.slice none 0 0), (.slice none 0 0), (.slice none 0 0)], 4, 43, true, true⟩) ok rfl rfl rfl (Ac.alloc rfl T43) rfl rfl fun b6 ok => ?_
  refine R.nil ?_
  refine EvC.seq ?_
  refine EvC.region [Item.look 0, Item.look 1, Item.look 2, Item.look 3] (by kernel_rfl) ?_
  refine R.look (v := (.pointer (some ⟨b3, 0, none⟩))) rfl rfl rfl (Lk.fldAddr rfl Tryd.underlying43 rfl rfl T31 rfl rfl rfl) fun _ => ?_
  refine R.look rfl rfl rfl (Lk.load1 (v := (.slice p0_0.a p0_0.l p0_0.c)) rfl Tryd.underlying31 rfl rfl (H.rd_loc ok (i := 2) rfl rfl)) fun _ => ?_
  refine R.look rfl rfl rfl (Lk.len rfl Tryd.underlying31 rfl) fun _ => ?_
  refine R.look rfl rfl rfl (Lk.assign rfl rfl) fun _ => ?_
  refine R.nil ?_
  refine EvC.seq ?_
  refine EvC.region [Item.eff 0 [], Item.look 1] (by kernel_rfl) ?_
  refine R.eff rfl rfl rfl (Eff.loc ok (Ef.call rfl CB51 rfl ((f51_ok hS).mono ?_)))
  rintro _ h_1 ⟨v20, rfl, hS⟩
  refine fun ok => ⟨noChk, ?_⟩
  refine R.look rfl rfl rfl (Lk.assign rfl rfl) fun _ => ?_
  refine R.nil ?_
  refine EvC.seq ?_
  refine EvC.region [Item.look 0, Item.look 1, Item.look 2, Item.eff 3 [], Item.look 4, Item.eff 5 []] (by kernel_rfl) ?_
  refine R.look (v := (.pointer (some ⟨b3, 0, none⟩))) rfl rfl rfl (Lk.fldAddr rfl Tryd.underlying43 rfl rfl T31 rfl rfl rfl) fun _ => ?_
  refine R.look rfl rfl rfl (Lk.load1 (v := (.slice p0_0.a p0_0.l p0_0.c)) rfl Tryd.underlying31 rfl rfl (H.rd_loc ok (i := 2) rfl rfl)) fun _ => ?_
  refine R.look rfl rfl rfl (Lk.move rfl rfl) fun _ => ?_
  obtain ⟨e33, hS⟩ := hS
  refine R.appS ok rfl rfl rfl rfl Tryd.underlying31 T51 rfl rfl rfl rfl e33 hS ?_
  intro v24 h_2 hS ok
  refine ⟨noChk, ?_⟩
  refine R.look (v := (.pointer (some ⟨b3, 0, none⟩))) rfl rfl rfl (Lk.fldAddr rfl Tryd.underlying43 rfl rfl T31 rfl rfl rfl) fun _ => ?_
  refine R.effN rfl rfl rfl (Ef.storeLoc (i := 2) (vs := [(.slice v24.a v24.l v24.c)]) (cs := [(.slice v24.a v24.l v24.c), (.slice p0_1.a p0_1.l p0_1.c), (.slice p0_2.a p0_2.l p0_2.c), (.slice p0_3.a p0_3.l p0_3.c)]) (l' := [(b6, .row ⟨[(.slice none 0 0), (.slice none 0 0), (.slice none 0 0), (.slice none 0 0)], 4, 43, true, true⟩), (b4, .row ⟨[(.slice p1_0.a p1_0.l p1_0.c), (.slice p1_1.a p1_1.l p1_1.c)], 2, 29, true, true⟩), (b3, .row ⟨[(.slice v24.a v24.l v24.c), (.slice p0_1.a p0_1.l p0_1.c), (.slice p0_2.a p0_2.l p0_2.c), (.slice p0_3.a p0_3.l p0_3.c)], 4, 43, true, true⟩)]) ok rfl T31 rfl rfl rfl rfl rfl rfl rfl rfl rfl rfl fun ok => ⟨noChk, ?_⟩)
  refine R.nil ?_
  refine EvC.join (σ := Sl × Sl × Sl × Sl) (fun s => (Env.put (Env.put Env.emp 6 (.pointer (some ⟨b6, 0, none⟩))) 3 (.pointer (some ⟨b3, 0, none⟩)))) (fun s => [(b6, .row ⟨[(.slice none 0 0), (.slice none 0 0), (.slice none 0 0), (.slice none 0 0)], 4, 43, true, true⟩), (b3, .row ⟨[(.slice s.1.a s.1.l s.1.c), (.slice s.2.1.a s.2.1.l s.2.1.c), (.slice s.2.2.1.a s.2.2.1.l s.2.2.1.c), (.slice s.2.2.2.a s.2.2.2.l s.2.2.2.c)], 4, 43, true, true⟩)]) (fun s h_3 => S50_j1 K s.1 s.2.1 s.2.2.1 s.2.2.2 h_3) ?_ (fun Ih_3 hIh_3 => ?_)
  · rintro ⟨c3_0, c3_1, c3_2, c3_3⟩ h_3 ok hS
    replace hS : S50_j1 K c3_0 c3_1 c3_2 c3_3 h_3 := hS
    change EvC _ _ _ (Env.put (Env.put Env.emp 6 (.pointer (some ⟨b6, 0, none⟩))) 3 (.pointer (some ⟨b3, 0, none⟩))) (H.add h_3 [(b6, .row ⟨[(.slice none 0 0), (.slice none 0 0), (.slice none 0 0), (.slice none 0 0)], 4, 43, true, true⟩), (b3, .row ⟨[(.slice c3_0.a c3_0.l c3_0.c), (.slice c3_1.a c3_1.l c3_1.c), (.slice c3_2.a c3_2.l c3_2.c), (.slice c3_3.a c3_3.l c3_3.c)], 4, 43, true, true⟩)]) _
    unfold S50_j1 at hS
    refine EvC.seq ?_
    refine EvC.region [Item.look 0, Item.eff 1 []] (by kernel_rfl) ?_
    refine R.look rfl rfl rfl (Lk.loadN (vs := [(.slice c3_0.a c3_0.l c3_0.c), (.slice c3_1.a c3_1.l c3_1.c), (.slice c3_2.a c3_2.l c3_2.c), (.slice c3_3.a c3_3.l c3_3.c)]) rfl Tryd.underlying43 rfl T43 rfl (H.rdn_loc ok (i := 1) rfl rfl rfl)) fun _ => ?_
    refine R.effN rfl rfl rfl (Ef.storeLoc (i := 0) (vs := [(.slice c3_0.a c3_0.l c3_0.c), (.slice c3_1.a c3_1.l c3_1.c), (.slice c3_2.a c3_2.l c3_2.c), (.slice c3_3.a c3_3.l c3_3.c)]) (cs := [(.slice c3_0.a c3_0.l c3_0.c), (.slice c3_1.a c3_1.l c3_1.c), (.slice c3_2.a c3_2.l c3_2.c), (.slice c3_3.a c3_3.l c3_3.c)]) (l' := [(b6, .row ⟨[(.slice c3_0.a c3_0.l c3_0.c), (.slice c3_1.a c3_1.l c3_1.c), (.slice c3_2.a c3_2.l c3_2.c), (.slice c3_3.a c3_3.l c3_3.c)], 4, 43, true, true⟩), (b3, .row ⟨[(.slice c3_0.a c3_0.l c3_0.c), (.slice c3_1.a c3_1.l c3_1.c), (.slice c3_2.a c3_2.l c3_2.c), (.slice c3_3.a c3_3.l c3_3.c)], 4, 43, true, true⟩)]) ok rfl T43 rfl rfl rfl rfl rfl rfl rfl rfl rfl rfl fun ok => ⟨noChk, ?_⟩)
    refine R.nil ?_
    refine EvC.ret ?_
    exact ⟨.inr rfl, _, _, (.cons (.cells rfl (fun w => Und.agg Tryd.underlying43 w) (fun w => T43.size_ w) (H.rdn_loc ok (i := 0) rfl rfl rfl)) .nil), ok.le, _, _, _, _, rfl, hS⟩
  · refine EvC.seq ?_
    refine EvC.region [Item.look 0] (by kernel_rfl) ?_
    refine R.look rfl rfl rfl (Lk.assign rfl rfl) fun _ => ?_
    refine R.nil ?_
    refine EvC.block ?_
    refine EvC.loop ?_
    refine LoopC.lfp (σ := Int × Sl × Sl × Sl × Sl) (fun s => (Env.put (Env.put (Env.put (Env.put (Env.put (Env.put Env.emp 9 (.int .i64 s.1)) 7 (.int .i64 (p0_0.l : Int))) 6 (.pointer (some ⟨b6, 0, none⟩))) 4 (.pointer (some ⟨b4, 0, none⟩))) 3 (.pointer (some ⟨b3, 0, none⟩))) 2 (.int .i64 p2))) (fun s => [(b6, .row ⟨[(.slice none 0 0), (.slice none 0 0), (.slice none 0 0), (.slice none 0 0)], 4, 43, true, true⟩), (b4, .row ⟨[(.slice p1_0.a p1_0.l p1_0.c), (.slice p1_1.a p1_1.l p1_1.c)], 2, 29, true, true⟩), (b3, .row ⟨[(.slice s.2.1.a s.2.1.l s.2.1.c), (.slice s.2.2.1.a s.2.2.1.l s.2.2.1.c), (.slice s.2.2.2.1.a s.2.2.2.1.l s.2.2.2.1.c), (.slice s.2.2.2.2.a s.2.2.2.2.l s.2.2.2.2.c)], 4, 43, true, true⟩)]) (fun X hX => ?_) hS (ok.sub (.cons_cons _ (.cons_cons _ (.cons_cons _ List.Sublist.slnil)))) (Env.le_put rfl (Env.le_put rfl (Env.le_put rfl (Env.le_put rfl (Env.le_put rfl (Env.le_put rfl (Env.le_emp _))))))) (H.add_sub ok (.cons_cons _ (.cons_cons _ (.cons_cons _ List.Sublist.slnil))))
    rintro ⟨v9, c3_0_1, c3_1_1, c3_2_1, c3_3_1⟩ h_4 hS ok
    replace hS : S50_l4 p0_0 p1_0 p1_1 p2 K X v9 c3_0_1 c3_1_1 c3_2_1 c3_3_1 h_4 := hS
    change EvC _ _ _ (Env.put (Env.put (Env.put (Env.put (Env.put (Env.put Env.emp 9 (.int .i64 v9)) 7 (.int .i64 (p0_0.l : Int))) 6 (.pointer (some ⟨b6, 0, none⟩))) 4 (.pointer (some ⟨b4, 0, none⟩))) 3 (.pointer (some ⟨b3, 0, none⟩))) 2 (.int .i64 p2)) (H.add h_4 [(b6, .row ⟨[(.slice none 0 0), (.slice none 0 0), (.slice none 0 0), (.slice none 0 0)], 4, 43, true, true⟩), (b4, .row ⟨[(.slice p1_0.a p1_0.l p1_0.c), (.slice p1_1.a p1_1.l p1_1.c)], 2, 29, true, true⟩), (b3, .row ⟨[(.slice c3_0_1.a c3_0_1.l c3_0_1.c), (.slice c3_1_1.a c3_1_1.l c3_1_1.c), (.slice c3_2_1.a c3_2_1.l c3_2_1.c), (.slice c3_3_1.a c3_3_1.l c3_3_1.c)], 4, 43, true, true⟩)]) _
    unfold S50_l4 at hS
    refine EvC.seq ?_
    refine EvC.seq ?_
    refine EvC.region [Item.look 0, Item.look 1] (by kernel_rfl) ?_
    refine R.look rfl rfl rfl (Lk.move rfl rfl) fun _ => ?_
    refine R.look rfl rfl rfl (Lk.arith rfl rfl rfl rfl) fun _ => ?_
    refine R.nil ?_
    by_cases e1 : (decide (v9 < 4)) = true
    · rw [if_pos e1] at hS
      refine EvC.condT rfl e1 ?_
      refine EvC.skip ?_
      refine EvC.seq ?_
      refine EvC.block ?_
      refine EvC.seq ?_
      refine EvC.region [Item.look 0, Item.look 1, Item.look 2, Item.look 3, Item.look 4, Item.look 5, Item.alc 6, Item.look 7, Item.look 8, Item.look 9, Item.look 10] (by kernel_rfl) ?_
      refine R.look rfl rfl rfl (Lk.move rfl rfl) fun _ => ?_
      refine R.look rfl rfl rfl (Lk.arith rfl rfl rfl rfl) fun _ => ?_
      refine R.look rfl rfl rfl (Lk.move rfl rfl) fun _ => ?_
      refine R.look rfl rfl rfl (Lk.arith rfl rfl rfl rfl) fun _ => ?_
      refine R.look rfl rfl rfl (Lk.move rfl rfl) fun _ => ?_
      refine R.look rfl rfl rfl (Lk.move rfl rfl) fun _ => ?_
      refine R.new (blk := (.row ⟨[(.int .i64 (IntKind.wrap .i64 ((p0_0.l : Int) + 1))), (.int .i64 (IntKind.wrap .i64 ((p0_0.l : Int) + 3))), (.int .i64 (p0_0.l : Int)), (.int .i64 (p0_0.l : Int))], 4, 3, true, true⟩)) ok rfl rfl rfl (Ac.buildSlice (cs := [(.int .i64 (IntKind.wrap .i64 ((p0_0.l : Int) + 1))), (.int .i64 (IntKind.wrap .i64 ((p0_0.l : Int) + 3))), (.int .i64 (p0_0.l : Int)), (.int .i64 (p0_0.l : Int))]) rfl Tryd.underlying32 T3 (by decide) (by decide) rfl rfl) rfl rfl fun b36 e2 ok => ?_
      replace hS := hS b36 _ e2 rfl
      refine R.look rfl rfl rfl (Lk.move rfl rfl) fun _ => ?_
      obtain ⟨a38, e3, e4, e5, hS⟩ := hS
      refine R.look rfl rfl rfl (Lk.ixAddr rfl Tryd.underlying32 T3 rfl e3 rfl e4 e5) fun _ => ?_
      obtain ⟨v39, e6, hS⟩ := hS
      refine R.look rfl rfl rfl (Look.loc ok (Lk.load1 rfl Tryd.underlying3 rfl rfl e6)) fun _ => ?_
      refine R.look rfl rfl rfl (Lk.assign rfl rfl) fun _ => ?_
      refine R.nil ?_
      refine EvC.seq ?_
      refine EvC.region [Item.look 0, Item.look 1, Item.look 2, Item.look 3, Item.look 4, Item.look 5, Item.look 6, Item.look 7, Item.alc 8, Item.look 9, Item.look 10, Item.look 11, Item.look 12] (by kernel_rfl) ?_
      refine R.look rfl rfl rfl (Lk.move rfl rfl) fun _ => ?_
      refine R.look rfl rfl rfl (Lk.arith rfl rfl rfl rfl) fun _ => ?_
      refine R.look rfl rfl rfl (Lk.move rfl rfl) fun _ => ?_
      refine R.look rfl rfl rfl (Lk.arith rfl rfl rfl rfl) fun _ => ?_
      refine R.look rfl rfl rfl (Lk.move rfl rfl) fun _ => ?_
      refine R.look rfl rfl rfl (Lk.arith rfl rfl rfl rfl) fun _ => ?_
      refine R.look rfl rfl rfl (Lk.move rfl rfl) fun _ => ?_
      refine R.look rfl rfl rfl (Lk.arith rfl rfl rfl rfl) fun _ => ?_
      refine R.new (blk := (.row ⟨[(.int .i64 (IntKind.wrap .i64 ((p0_0.l : Int) + 2))), (.int .i64 (IntKind.wrap .i64 ((p0_0.l : Int) + 2))), (.int .i64 (IntKind.wrap .i64 ((p0_0.l : Int) + 3))), (.int .i64 (IntKind.wrap .i64 ((p0_0.l : Int) + 1)))], 4, 3, true, true⟩)) ok rfl rfl rfl (Ac.buildSlice (cs := [(.int .i64 (IntKind.wrap .i64 ((p0_0.l : Int) + 2))), (.int .i64 (IntKind.wrap .i64 ((p0_0.l : Int) + 2))), (.int .i64 (IntKind.wrap .i64 ((p0_0.l : Int) + 3))), (.int .i64 (IntKind.wrap .i64 ((p0_0.l : Int) + 1)))]) rfl Tryd.underlying32 T3 (by decide) (by decide) rfl rfl) rfl rfl fun b48 e7 ok => ?_
      replace hS := hS b48 _ e7 rfl
      refine R.look rfl rfl rfl (Lk.move rfl rfl) fun _ => ?_
      obtain ⟨a50, e8, e9, e10, hS⟩ := hS
      refine R.look rfl rfl rfl (Lk.ixAddr rfl Tryd.underlying32 T3 rfl e8 rfl e9 e10) fun _ => ?_
      obtain ⟨v51, e11, hS⟩ := hS
      refine R.look rfl rfl rfl (Look.loc ok (Lk.load1 rfl Tryd.underlying3 rfl rfl e11)) fun _ => ?_
      refine R.look rfl rfl rfl (Lk.assign rfl rfl) fun _ => ?_
      refine R.nil ?_
      refine EvC.seq ?_
      refine EvC.region [Item.alc 0, Item.look 1, Item.look 2, Item.look 3, Item.look 4] (by kernel_rfl) ?_
      refine R.new (blk := (.row ⟨[(.int .i64 1), (.int .i64 0), (.int .i64 1), (.int .i64 0)], 4, 3, true, true⟩)) ok rfl rfl rfl (Ac.buildSlice (cs := [(.int .i64 1), (.int .i64 0), (.int .i64 1), (.int .i64 0)]) rfl Tryd.underlying32 T3 (by decide) (by decide) rfl rfl) rfl rfl fun b52 e12 ok => ?_
      replace hS := hS b52 _ e12 rfl
      refine R.look rfl rfl rfl (Lk.move rfl rfl) fun _ => ?_
      obtain ⟨a54, e13, e14, e15, hS⟩ := hS
      refine R.look rfl rfl rfl (Lk.ixAddr rfl Tryd.underlying32 T3 rfl e13 rfl e14 e15) fun _ => ?_
      obtain ⟨v55, e16, hS⟩ := hS
      refine R.look rfl rfl rfl (Look.loc ok (Lk.load1 rfl Tryd.underlying3 rfl rfl e16)) fun _ => ?_
      refine R.look rfl rfl rfl (Lk.assign rfl rfl) fun _ => ?_
      refine R.nil ?_
      refine EvC.seq ?_
      refine EvC.region [Item.look 0, Item.look 1, Item.look 2, Item.eff 3 [], Item.look 4] (by kernel_rfl) ?_
      refine R.look rfl rfl rfl (Lk.loadN (vs := [(.slice p1_0.a p1_0.l p1_0.c), (.slice p1_1.a p1_1.l p1_1.c)]) rfl Tryd.underlying29 rfl T29 rfl (H.rdn_loc ok (i := 1) rfl rfl rfl)) fun _ => ?_
      refine R.look rfl rfl rfl (Lk.move rfl rfl) fun _ => ?_
      refine R.look rfl rfl rfl (Lk.move rfl rfl) fun _ => ?_
      refine R.eff rfl rfl rfl (Eff.loc ok (Ef.call rfl CB49 rfl ((f49_ok hS).mono ?_)))
      rintro _ h_8 ⟨v59, rfl, hS⟩
      refine fun ok => ⟨noChk, ?_⟩
      refine R.look rfl rfl rfl (Lk.assign rfl rfl) fun _ => ?_
      refine R.nil ?_
      refine EvC.join (σ := Int × Sl × Sl × Sl × Sl) (fun s => (Env.put (Env.put (Env.put (Env.put (Env.put (Env.put (Env.put (Env.put (Env.put Env.emp 12 (.int .i64 v55)) 11 (.int .i64 v51)) 10 (.int .i64 s.1)) 9 (.int .i64 v9)) 7 (.int .i64 (p0_0.l : Int))) 6 (.pointer (some ⟨b6, 0, none⟩))) 4 (.pointer (some ⟨b4, 0, none⟩))) 3 (.pointer (some ⟨b3, 0, none⟩))) 2 (.int .i64 p2))) (fun s => [(b6, .row ⟨[(.slice none 0 0), (.slice none 0 0), (.slice none 0 0), (.slice none 0 0)], 4, 43, true, true⟩), (b4, .row ⟨[(.slice p1_0.a p1_0.l p1_0.c), (.slice p1_1.a p1_1.l p1_1.c)], 2, 29, true, true⟩), (b3, .row ⟨[(.slice s.2.1.a s.2.1.l s.2.1.c), (.slice s.2.2.1.a s.2.2.1.l s.2.2.1.c), (.slice s.2.2.2.1.a s.2.2.2.1.l s.2.2.2.1.c), (.slice s.2.2.2.2.a s.2.2.2.2.l s.2.2.2.2.c)], 4, 43, true, true⟩)]) (fun s h_9 => S50_j2 v9 X v51 v55 s.1 s.2.1 s.2.2.1 s.2.2.2.1 s.2.2.2.2 h_9) ?_ (fun Ih_9 hIh_9 => ?_)
      · rintro ⟨v10, c3_0_2, c3_1_2, c3_2_2, c3_3_2⟩ h_9 ok hS
        replace hS : S50_j2 v9 X v51 v55 v10 c3_0_2 c3_1_2 c3_2_2 c3_3_2 h_9 := hS
        change EvC _ _ _ (Env.put (Env.put (Env.put (Env.put (Env.put (Env.put (Env.put (Env.put (Env.put Env.emp 12 (.int .i64 v55)) 11 (.int .i64 v51)) 10 (.int .i64 v10)) 9 (.int .i64 v9)) 7 (.int .i64 (p0_0.l : Int))) 6 (.pointer (some ⟨b6, 0, none⟩))) 4 (.pointer (some ⟨b4, 0, none⟩))) 3 (.pointer (some ⟨b3, 0, none⟩))) 2 (.int .i64 p2)) (H.add h_9 [(b6, .row ⟨[(.slice none 0 0), (.slice none 0 0), (.slice none 0 0), (.slice none 0 0)], 4, 43, true, true⟩), (b4, .row ⟨[(.slice p1_0.a p1_0.l p1_0.c), (.slice p1_1.a p1_1.l p1_1.c)], 2, 29, true, true⟩), (b3, .row ⟨[(.slice c3_0_2.a c3_0_2.l c3_0_2.c), (.slice c3_1_2.a c3_1_2.l c3_1_2.c), (.slice c3_2_2.a c3_2_2.l c3_2_2.c), (.slice c3_3_2.a c3_3_2.l c3_3_2.c)], 4, 43, true, true⟩)]) _
        unfold S50_j2 at hS
        refine EvC.region [Item.look 0, Item.look 1, Item.look 2, Item.look 3, Item.look 4, Item.eff 5 [], Item.look 6, Item.look 7, Item.look 8, Item.look 9, Item.eff 10 []] (by kernel_rfl) ?_
        refine R.look (v := (.pointer (some ⟨b3, 0, none⟩))) rfl rfl rfl (Lk.fldAddr rfl Tryd.underlying43 rfl rfl T31 rfl rfl rfl) fun _ => ?_
        refine R.look rfl rfl rfl (Lk.load1 (v := (.slice c3_0_2.a c3_0_2.l c3_0_2.c)) rfl Tryd.underlying31 rfl rfl (H.rd_loc ok (i := 2) rfl rfl)) fun _ => ?_
        refine R.look rfl rfl rfl (Lk.move rfl rfl) fun _ => ?_
        refine R.look rfl rfl rfl (Lk.move rfl rfl) fun _ => ?_
        refine R.look rfl rfl rfl (Lk.move rfl rfl) fun _ => ?_
        refine R.eff rfl rfl rfl (Eff.loc ok (Ef.call rfl CB52 rfl ((f52_ok hS).mono ?_)))
        rintro _ h_10 ⟨v107_0, v107_1, rfl, hS⟩
        refine fun ok => ⟨noChk, ?_⟩
        refine R.look rfl rfl rfl (Lk.move rfl rfl) fun _ => ?_
        refine R.look rfl rfl rfl (Lk.extract rfl rfl rfl) fun _ => ?_
        refine R.look rfl rfl rfl (Lk.extract rfl rfl rfl) fun _ => ?_
        refine R.look (v := (.pointer (some ⟨b3, 0, none⟩))) rfl rfl rfl (Lk.fldAddr rfl Tryd.underlying43 rfl rfl T31 rfl rfl rfl) fun _ => ?_
        refine R.effN rfl rfl rfl (Ef.storeLoc (i := 2) (vs := [(.slice v107_0.a v107_0.l v107_0.c)]) (cs := [(.slice v107_0.a v107_0.l v107_0.c), (.slice c3_1_2.a c3_1_2.l c3_1_2.c), (.slice c3_2_2.a c3_2_2.l c3_2_2.c), (.slice c3_3_2.a c3_3_2.l c3_3_2.c)]) (l' := [(b6, .row ⟨[(.slice none 0 0), (.slice none 0 0), (.slice none 0 0), (.slice none 0 0)], 4, 43, true, true⟩), (b4, .row ⟨[(.slice p1_0.a p1_0.l p1_0.c), (.slice p1_1.a p1_1.l p1_1.c)], 2, 29, true, true⟩), (b3, .row ⟨[(.slice v107_0.a v107_0.l v107_0.c), (.slice c3_1_2.a c3_1_2.l c3_1_2.c), (.slice c3_2_2.a c3_2_2.l c3_2_2.c), (.slice c3_3_2.a c3_3_2.l c3_3_2.c)], 4, 43, true, true⟩)]) ok rfl T31 rfl rfl rfl rfl rfl rfl rfl rfl rfl rfl fun ok => ⟨noChk, ?_⟩)
        refine R.nil ?_
        refine EvC.region [Item.look 0, Item.look 1, Item.look 2] (by kernel_rfl) ?_
        refine R.look rfl rfl rfl (Lk.move rfl rfl) fun _ => ?_
        refine R.look rfl rfl rfl (Lk.arith rfl rfl rfl rfl) fun _ => ?_
        refine R.look rfl rfl rfl (Lk.assign rfl rfl) fun _ => ?_
        refine R.nil ?_
        exact hX ((IntKind.wrap .i64 (v9 + 1)), v107_0, c3_1_2, c3_2_2, c3_3_2) _ _ _ hS (ok.sub (.cons_cons _ (.cons_cons _ (.cons_cons _ List.Sublist.slnil)))) (Env.le_put rfl (Env.le_put rfl (Env.le_put rfl (Env.le_put rfl (Env.le_put rfl (Env.le_put rfl (Env.le_emp _))))))) (H.add_sub ok (.cons_cons _ (.cons_cons _ (.cons_cons _ List.Sublist.slnil))))
      · refine EvC.seq ?_
        refine EvC.region [Item.look 0] (by kernel_rfl) ?_
        refine R.look rfl rfl rfl (Lk.assign rfl rfl) fun _ => ?_
        refine R.nil ?_
        refine EvC.block ?_
        refine EvC.loop ?_
        refine LoopC.lfp (σ := Int × Int × Sl × Sl × Sl × Sl) (fun s => (Env.put (Env.put (Env.put (Env.put (Env.put (Env.put (Env.put (Env.put (Env.put (Env.put (Env.put Env.emp 14 (.int .i64 s.2.1)) 13 (.slice v59.a v59.l v59.c)) 12 (.int .i64 v55)) 11 (.int .i64 v51)) 10 (.int .i64 s.1)) 9 (.int .i64 v9)) 7 (.int .i64 (p0_0.l : Int))) 6 (.pointer (some ⟨b6, 0, none⟩))) 4 (.pointer (some ⟨b4, 0, none⟩))) 3 (.pointer (some ⟨b3, 0, none⟩))) 2 (.int .i64 p2))) (fun s => [(b6, .row ⟨[(.slice none 0 0), (.slice none 0 0), (.slice none 0 0), (.slice none 0 0)], 4, 43, true, true⟩), (b4, .row ⟨[(.slice p1_0.a p1_0.l p1_0.c), (.slice p1_1.a p1_1.l p1_1.c)], 2, 29, true, true⟩), (b3, .row ⟨[(.slice s.2.2.1.a s.2.2.1.l s.2.2.1.c), (.slice s.2.2.2.1.a s.2.2.2.1.l s.2.2.2.1.c), (.slice s.2.2.2.2.1.a s.2.2.2.2.1.l s.2.2.2.2.1.c), (.slice s.2.2.2.2.2.a s.2.2.2.2.2.l s.2.2.2.2.2.c)], 4, 43, true, true⟩)]) (fun X_1 hX_1 => ?_) hS (ok.sub (.cons_cons _ (.cons_cons _ (.cons_cons _ List.Sublist.slnil)))) (Env.le_put rfl (Env.le_put rfl (Env.le_put rfl (Env.le_put rfl (Env.le_put rfl (Env.le_put rfl (Env.le_put rfl (Env.le_put rfl (Env.le_put rfl (Env.le_put rfl (Env.le_put rfl (Env.le_emp _)))))))))))) (H.add_sub ok (.cons_cons _ (.cons_cons _ (.cons_cons _ List.Sublist.slnil))))
        rintro ⟨v10_1, v14, c3_0_3, c3_1_3, c3_2_3, c3_3_3⟩ h_11 hS ok
        replace hS : S50_l3 v9 X v51 v55 v59 X_1 v10_1 v14 c3_0_3 c3_1_3 c3_2_3 c3_3_3 h_11 := hS
        change EvC _ _ _ (Env.put (Env.put (Env.put (Env.put (Env.put (Env.put (Env.put (Env.put (Env.put (Env.put (Env.put Env.emp 14 (.int .i64 v14)) 13 (.slice v59.a v59.l v59.c)) 12 (.int .i64 v55)) 11 (.int .i64 v51)) 10 (.int .i64 v10_1)) 9 (.int .i64 v9)) 7 (.int .i64 (p0_0.l : Int))) 6 (.pointer (some ⟨b6, 0, none⟩))) 4 (.pointer (some ⟨b4, 0, none⟩))) 3 (.pointer (some ⟨b3, 0, none⟩))) 2 (.int .i64 p2)) (H.add h_11 [(b6, .row ⟨[(.slice none 0 0), (.slice none 0 0), (.slice none 0 0), (.slice none 0 0)], 4, 43, true, true⟩), (b4, .row ⟨[(.slice p1_0.a p1_0.l p1_0.c), (.slice p1_1.a p1_1.l p1_1.c)], 2, 29, true, true⟩), (b3, .row ⟨[(.slice c3_0_3.a c3_0_3.l c3_0_3.c), (.slice c3_1_3.a c3_1_3.l c3_1_3.c), (.slice c3_2_3.a c3_2_3.l c3_2_3.c), (.slice c3_3_3.a c3_3_3.l c3_3_3.c)], 4, 43, true, true⟩)]) _
        unfold S50_l3 at hS
        refine EvC.seq ?_
        refine EvC.seq ?_
        refine EvC.region [Item.look 0, Item.look 1, Item.look 2, Item.look 3] (by kernel_rfl) ?_
        refine R.look rfl rfl rfl (Lk.move rfl rfl) fun _ => ?_
        refine R.look rfl rfl rfl (Lk.move rfl rfl) fun _ => ?_
        refine R.look rfl rfl rfl (Lk.len rfl Tryd.underlying32 rfl) fun _ => ?_
        refine R.look rfl rfl rfl (Lk.arith rfl rfl rfl rfl) fun _ => ?_
        refine R.nil ?_
        by_cases e17 : (decide (v14 < (v59.l : Int))) = true
        · rw [if_pos e17] at hS
          refine EvC.condT rfl e17 ?_
          refine EvC.skip ?_
          refine EvC.seq ?_
          refine EvC.block ?_
          refine EvC.seq ?_
          refine EvC.region [Item.look 0, Item.look 1, Item.look 2, Item.look 3] (by kernel_rfl) ?_
          refine R.look (v := (.pointer (some ⟨b3, 0, none⟩))) rfl rfl rfl (Lk.fldAddr rfl Tryd.underlying43 rfl rfl T31 rfl rfl rfl) fun _ => ?_
          refine R.look rfl rfl rfl (Lk.load1 (v := (.slice c3_0_3.a c3_0_3.l c3_0_3.c)) rfl Tryd.underlying31 rfl rfl (H.rd_loc ok (i := 2) rfl rfl)) fun _ => ?_
          refine R.look rfl rfl rfl (Lk.len rfl Tryd.underlying31 rfl) fun _ => ?_
          refine R.look rfl rfl rfl (Lk.assign rfl rfl) fun _ => ?_
          refine R.nil ?_
          refine EvC.seq ?_
          refine EvC.region [Item.eff 0 [], Item.look 1] (by kernel_rfl) ?_
          refine R.eff rfl rfl rfl (Eff.loc ok (Ef.call rfl CB51 rfl ((f51_ok hS).mono ?_)))
          rintro _ h_12 ⟨v69, rfl, hS⟩
          refine fun ok => ⟨noChk, ?_⟩
          refine R.look rfl rfl rfl (Lk.assign rfl rfl) fun _ => ?_
          refine R.nil ?_
          refine EvC.seq ?_
          refine EvC.region [Item.look 0, Item.look 1, Item.look 2, Item.eff 3 [], Item.look 4, Item.eff 5 []] (by kernel_rfl) ?_
          refine R.look (v := (.pointer (some ⟨b3, 0, none⟩))) rfl rfl rfl (Lk.fldAddr rfl Tryd.underlying43 rfl rfl T31 rfl rfl rfl) fun _ => ?_
          refine R.look rfl rfl rfl (Lk.load1 (v := (.slice c3_0_3.a c3_0_3.l c3_0_3.c)) rfl Tryd.underlying31 rfl rfl (H.rd_loc ok (i := 2) rfl rfl)) fun _ => ?_
          refine R.look rfl rfl rfl (Lk.move rfl rfl) fun _ => ?_
          obtain ⟨e32, hS⟩ := hS
          refine R.appS ok rfl rfl rfl rfl Tryd.underlying31 T51 rfl rfl rfl rfl e32 hS ?_
          intro v73 h_13 hS ok
          refine ⟨noChk, ?_⟩
          refine R.look (v := (.pointer (some ⟨b3, 0, none⟩))) rfl rfl rfl (Lk.fldAddr rfl Tryd.underlying43 rfl rfl T31 rfl rfl rfl) fun _ => ?_
          refine R.effN rfl rfl rfl (Ef.storeLoc (i := 2) (vs := [(.slice v73.a v73.l v73.c)]) (cs := [(.slice v73.a v73.l v73.c), (.slice c3_1_3.a c3_1_3.l c3_1_3.c), (.slice c3_2_3.a c3_2_3.l c3_2_3.c), (.slice c3_3_3.a c3_3_3.l c3_3_3.c)]) (l' := [(b6, .row ⟨[(.slice none 0 0), (.slice none 0 0), (.slice none 0 0), (.slice none 0 0)], 4, 43, true, true⟩), (b4, .row ⟨[(.slice p1_0.a p1_0.l p1_0.c), (.slice p1_1.a p1_1.l p1_1.c)], 2, 29, true, true⟩), (b3, .row ⟨[(.slice v73.a v73.l v73.c), (.slice c3_1_3.a c3_1_3.l c3_1_3.c), (.slice c3_2_3.a c3_2_3.l c3_2_3.c), (.slice c3_3_3.a c3_3_3.l c3_3_3.c)], 4, 43, true, true⟩)]) ok rfl T31 rfl rfl rfl rfl rfl rfl rfl rfl rfl rfl fun ok => ⟨noChk, ?_⟩)
          refine R.nil ?_
          refine EvC.seq ?_
          refine EvC.draw [0, 1, 0, 0, 12, 28, 60, 0, 0, 384, 896, 1920, 0, 127, 16383, 32767] [Item.look 0, Item.look 1, Item.look 2, Item.look 3, Item.look 4, Item.look 5, Item.look 6, Item.look 7, Item.look 8, Item.look 9, Item.look 10, Item.look 11, Item.look 12, Item.look 13, Item.look 14, Item.eff 15 []] MO (by kernel_rfl) ?_
          refine R.look (v := (.pointer (some ⟨b3, 2, none⟩))) rfl rfl rfl (Lk.fldAddr rfl Tryd.underlying43 rfl rfl T41 rfl rfl rfl) fun _ => ?_
          refine R.look rfl rfl rfl (Lk.load1 (v := (.slice c3_2_3.a c3_2_3.l c3_2_3.c)) rfl Tryd.underlying41 rfl rfl (H.rd_loc ok (i := 2) rfl rfl)) fun _ => ?_
          refine R.look rfl rfl rfl (Lk.move rfl rfl) fun _ => ?_
          refine R.look rfl rfl rfl (Lk.move rfl rfl) fun _ => ?_
          obtain ⟨a79, e18, e19, e20, hS⟩ := hS
          refine R.look rfl rfl rfl (Lk.ixAddr rfl Tryd.underlying32 T3 rfl e18 rfl e19 e20) fun _ => ?_
          obtain ⟨v80, e21, hS⟩ := hS
          refine R.look rfl rfl rfl (Look.loc ok (Lk.load1 rfl Tryd.underlying3 rfl rfl e21)) fun _ => ?_
          refine R.look rfl rfl rfl (Lk.quo (j := 2) rfl rfl rfl (by decide)) fun _ => ?_
          refine R.look rfl rfl rfl (Lk.move rfl rfl) fun _ => ?_
          refine R.look rfl rfl rfl (Lk.move rfl rfl) fun _ => ?_
          obtain ⟨a84, e22, e23, e24, hS⟩ := hS
          refine R.look rfl rfl rfl (Lk.ixAddr rfl Tryd.underlying32 T3 rfl e22 rfl e23 e24) fun _ => ?_
          obtain ⟨v85, e25, hS⟩ := hS
          refine R.look rfl rfl rfl (Look.loc ok (Lk.load1 rfl Tryd.underlying3 rfl rfl e25)) fun _ => ?_
          refine R.look rfl rfl rfl (Lk.rem (j := 2) rfl rfl rfl (by decide)) fun _ => ?_
          refine R.look rfl rfl rfl (Lk.move rfl rfl) fun _ => ?_
          obtain ⟨a88, e26, e27, e28, hS⟩ := hS
          refine R.look rfl rfl rfl (Lk.ixAddr rfl Tryd.underlying41 T116 rfl e26 rfl e27 e28) fun _ => ?_
          obtain ⟨e29, e30, hS⟩ := hS
          refine R.look rfl rfl rfl (Lk.indexAddrA rfl Tryd.underlying116 T3 rfl rfl e29 e30) fun _ => ?_
          obtain ⟨h_14, e31, hS⟩ := hS
          refine R.effN rfl rfl rfl (Eff.loc ok (Ef.store rfl T3 rfl rfl rfl rfl rfl e31 fun ok => ⟨noChk, ?_⟩))
          refine R.nil ?_
          refine EvC.seq ?_
          refine EvC.region [Item.look 0, Item.look 1, Item.look 2, Item.look 3, Item.look 4, Item.eff 5 [], Item.look 6, Item.look 7, Item.look 8, Item.look 9, Item.eff 10 []] (by kernel_rfl) ?_
          refine R.look (v := (.pointer (some ⟨b3, 0, none⟩))) rfl rfl rfl (Lk.fldAddr rfl Tryd.underlying43 rfl rfl T31 rfl rfl rfl) fun _ => ?_
          refine R.look rfl rfl rfl (Lk.load1 (v := (.slice v73.a v73.l v73.c)) rfl Tryd.underlying31 rfl rfl (H.rd_loc ok (i := 2) rfl rfl)) fun _ => ?_
          refine R.look rfl rfl rfl (Lk.move rfl rfl) fun _ => ?_
          refine R.look rfl rfl rfl (Lk.move rfl rfl) fun _ => ?_
          refine R.look rfl rfl rfl (Lk.move rfl rfl) fun _ => ?_
          refine R.eff rfl rfl rfl (Eff.loc ok (Ef.call rfl CB52 rfl ((f52_ok hS).mono ?_)))
          rintro _ h_15 ⟨v96_0, v96_1, rfl, hS⟩
          refine fun ok => ⟨noChk, ?_⟩
          refine R.look rfl rfl rfl (Lk.move rfl rfl) fun _ => ?_
          refine R.look rfl rfl rfl (Lk.extract rfl rfl rfl) fun _ => ?_
          refine R.look rfl rfl rfl (Lk.extract rfl rfl rfl) fun _ => ?_
          refine R.look (v := (.pointer (some ⟨b3, 0, none⟩))) rfl rfl rfl (Lk.fldAddr rfl Tryd.underlying43 rfl rfl T31 rfl rfl rfl) fun _ => ?_
          refine R.effN rfl rfl rfl (Ef.storeLoc (i := 2) (vs := [(.slice v96_0.a v96_0.l v96_0.c)]) (cs := [(.slice v96_0.a v96_0.l v96_0.c), (.slice c3_1_3.a c3_1_3.l c3_1_3.c), (.slice c3_2_3.a c3_2_3.l c3_2_3.c), (.slice c3_3_3.a c3_3_3.l c3_3_3.c)]) (l' := [(b6, .row ⟨[(.slice none 0 0), (.slice none 0 0), (.slice none 0 0), (.slice none 0 0)], 4, 43, true, true⟩), (b4, .row ⟨[(.slice p1_0.a p1_0.l p1_0.c), (.slice p1_1.a p1_1.l p1_1.c)], 2, 29, true, true⟩), (b3, .row ⟨[(.slice v96_0.a v96_0.l v96_0.c), (.slice c3_1_3.a c3_1_3.l c3_1_3.c), (.slice c3_2_3.a c3_2_3.l c3_2_3.c), (.slice c3_3_3.a c3_3_3.l c3_3_3.c)], 4, 43, true, true⟩)]) ok rfl T31 rfl rfl rfl rfl rfl rfl rfl rfl rfl rfl fun ok => ⟨noChk, ?_⟩)
          refine R.nil ?_
          refine EvC.region [Item.look 0, Item.look 1] (by kernel_rfl) ?_
          refine R.look rfl rfl rfl (Lk.move rfl rfl) fun _ => ?_
          refine R.look rfl rfl rfl (Lk.assign rfl rfl) fun _ => ?_
          refine R.nil ?_
          refine EvC.region [Item.look 0, Item.look 1, Item.look 2] (by kernel_rfl) ?_
          refine R.look rfl rfl rfl (Lk.move rfl rfl) fun _ => ?_
          refine R.look rfl rfl rfl (Lk.arith rfl rfl rfl rfl) fun _ => ?_
          refine R.look rfl rfl rfl (Lk.assign rfl rfl) fun _ => ?_
          refine R.nil ?_
          exact hX_1 ((c3_0_3.l : Int), (IntKind.wrap .i64 (v14 + 1)), v96_0, c3_1_3, c3_2_3, c3_3_3) _ _ _ hS (ok.sub (.cons_cons _ (.cons_cons _ (.cons_cons _ List.Sublist.slnil)))) (Env.le_put rfl (Env.le_put rfl (Env.le_put rfl (Env.le_put rfl (Env.le_put rfl (Env.le_put rfl (Env.le_put rfl (Env.le_put rfl (Env.le_put rfl (Env.le_put rfl (Env.le_put rfl (Env.le_emp _)))))))))))) (H.add_sub ok (.cons_cons _ (.cons_cons _ (.cons_cons _ List.Sublist.slnil))))
        · rw [if_neg e17] at hS
          replace e17 := eq_false_of_ne_true e17
          refine EvC.condF rfl e17 ?_
          refine EvC.exit ?_
          exact hIh_9 (v10_1, c3_0_3, c3_1_3, c3_2_3, c3_3_3) _ _ _ (Env.le_put rfl (Env.le_put rfl (Env.le_put rfl (Env.le_put rfl (Env.le_put rfl (Env.le_put rfl (Env.le_put rfl (Env.le_put rfl (Env.le_put rfl (Env.le_emp _)))))))))) (ok.sub (.cons_cons _ (.cons_cons _ (.cons_cons _ List.Sublist.slnil)))) (H.add_sub ok (.cons_cons _ (.cons_cons _ (.cons_cons _ List.Sublist.slnil)))) hS
    · rw [if_neg e1] at hS
      replace e1 := eq_false_of_ne_true e1
      refine EvC.condF rfl e1 ?_
      refine EvC.exit ?_
      exact hIh_3 (c3_0_1, c3_1_1, c3_2_1, c3_3_1) _ _ _ (Env.le_put rfl (Env.le_put rfl (Env.le_emp _))) (ok.sub (.cons_cons _ (.cons _ (.cons_cons _ List.Sublist.slnil)))) (H.add_sub ok (.cons_cons _ (.cons _ (.cons_cons _ List.Sublist.slnil)))) hS
end Go.Proofs.YtimadnngfhbfiaaDoor
end

section
/- PRINTED by wip/gen.py: the machine's call of muntin/muntinref11.Of does what S15 says. -/
namespace Go.Proofs.YtimadnngfhbfiaaDoor
open Go Go.Mu
set_option maxHeartbeats 4000000
set_option maxRecDepth 100000
theorem f15_ok {p0_0 : Sl} {p0_1 : Sl} {h : H} {K : Sl → Sl → Sl → Sl → H → Prop} (hS : S15 p0_0 p0_1 h K) : ACall Tryd.prog 15 ([(.agg ([(.slice p0_0.a p0_0.l p0_0.c), (.slice p0_1.a p0_1.l p0_1.c)] : List Value).toArray)] : List Value).toArray h (fun r h' => ∃ r0_0 : Sl, ∃ r0_1 : Sl, ∃ r0_2 : Sl, ∃ r0_3 : Sl, r = tup [(.agg ([(.slice r0_0.a r0_0.l r0_0.c), (.slice r0_1.a r0_1.l r0_1.c), (.slice r0_2.a r0_2.l r0_2.c), (.slice r0_3.a r0_3.l r0_3.c)] : List Value).toArray)] ∧ K r0_0 r0_1 r0_2 r0_3 h') := by
  refine ACall.enter (fn := Tryd.f15) Tryd.func15 rfl (Nat.le_of_ble_eq_true rfl) ?_
  unfold S15 at hS
  have ok := Lok.nil h
  change EvC _ _ _ _ (H.add h []) _
  refine EvC.seq ?_
  refine EvC.region [Item.alc 0, Item.alc 1] (by kernel_rfl) ?_
  refine R.var (blk := .row ⟨[(.slice p0_0.a p0_0.l p0_0.c), (.slice p0_1.a p0_1.l p0_1.c)], 2, 29, true, true⟩) ok rfl rfl rfl (Ac.box rfl rfl) rfl rfl fun b1 ok => ?_
  refine R.var (blk := .row ⟨[(.slice none 0 0), (.slice none 0 0), (.slice none 0 0), (.slice none 0 0)], 4, 43, true, true⟩) ok rfl rfl rfl (Ac.alloc rfl T43) rfl rfl fun b2 ok => ?_
  refine R.nil ?_
  refine EvC.seq ?_
  refine EvC.region [Item.look 0, Item.look 1, Item.look 2, Item.alc 3, Item.look 4, Item.alc 5, Item.eff 6 []] (by kernel_rfl) ?_
  refine R.look (v := (.pointer (some ⟨b1, 1, none⟩))) rfl rfl rfl (Lk.fldAddr rfl Tryd.underlying29 rfl rfl T27 rfl rfl rfl) fun _ => ?_
  refine R.look rfl rfl rfl (Lk.load1 (v := (.slice p0_1.a p0_1.l p0_1.c)) rfl Tryd.underlying27 rfl rfl (H.rd_loc ok (i := 1) rfl rfl)) fun _ => ?_
  refine R.look rfl rfl rfl (Lk.len rfl Tryd.underlying27 rfl) fun _ => ?_
  obtain ⟨e1, e2, e3, e4, hS⟩ := hS
  refine R.new (blk := (.row ⟨zeros (.agg #[(.int .i64 0), (.int .i64 0)]) (Int.toNat (p0_1.l : Int) * 2), (zeros (.agg #[(.int .i64 0), (.int .i64 0)]) (Int.toNat (p0_1.l : Int) * 2)).length, 116, true, true⟩)) ok rfl rfl rfl (Ac.makeSlice rfl Tryd.underlying41 T116 rfl rfl e1 e2 e3 e4) rfl rfl fun b20 e5 ok => ?_
  replace hS := hS b20 _ e5 rfl
  refine R.look rfl rfl rfl (Lk.build (cs := [(.slice none 0 0), (.slice none 0 0), (.slice (some ⟨b20, 0, none⟩) (Int.toNat (p0_1.l : Int)) (Int.toNat (p0_1.l : Int))), (.slice none 0 0)]) (pl := [(0, 1), (1, 1), (2, 1), (3, 1)]) rfl Tryd.underlying43 T43 (PlacesL.places (.cons T31 (.cons T32 (.cons T41 (.cons T33 PlacesL.nil))))) rfl rfl) fun _ => ?_
  refine R.var (blk := .row ⟨[(.slice none 0 0), (.slice none 0 0), (.slice none 0 0), (.slice none 0 0)], 4, 43, true, true⟩) ok rfl rfl rfl (Ac.alloc rfl T43) rfl rfl fun b3 ok => ?_
  refine R.effN rfl rfl rfl (Ef.storeLoc (i := 0) (vs := [(.slice none 0 0), (.slice none 0 0), (.slice (some ⟨b20, 0, none⟩) (Int.toNat (p0_1.l : Int)) (Int.toNat (p0_1.l : Int))), (.slice none 0 0)]) (cs := [(.slice none 0 0), (.slice none 0 0), (.slice (some ⟨b20, 0, none⟩) (Int.toNat (p0_1.l : Int)) (Int.toNat (p0_1.l : Int))), (.slice none 0 0)]) (l' := [(b3, .row ⟨[(.slice none 0 0), (.slice none 0 0), (.slice (some ⟨b20, 0, none⟩) (Int.toNat (p0_1.l : Int)) (Int.toNat (p0_1.l : Int))), (.slice none 0 0)], 4, 43, true, true⟩), (b2, .row ⟨[(.slice none 0 0), (.slice none 0 0), (.slice none 0 0), (.slice none 0 0)], 4, 43, true, true⟩), (b1, .row ⟨[(.slice p0_0.a p0_0.l p0_0.c), (.slice p0_1.a p0_1.l p0_1.c)], 2, 29, true, true⟩)]) ok rfl T43 rfl rfl rfl rfl rfl rfl rfl rfl rfl rfl fun ok => ⟨noChk, ?_⟩)
  refine R.nil ?_
  refine EvC.join (σ := Sl × Sl × Sl × Sl) (fun s => (Env.put (Env.put (Env.put Env.emp 3 (.pointer (some ⟨b3, 0, none⟩))) 2 (.pointer (some ⟨b2, 0, none⟩))) 1 (.pointer (some ⟨b1, 0, none⟩)))) (fun s => [(b3, .row ⟨[(.slice s.1.a s.1.l s.1.c), (.slice s.2.1.a s.2.1.l s.2.1.c), (.slice s.2.2.1.a s.2.2.1.l s.2.2.1.c), (.slice s.2.2.2.a s.2.2.2.l s.2.2.2.c)], 4, 43, true, true⟩), (b2, .row ⟨[(.slice none 0 0), (.slice none 0 0), (.slice none 0 0), (.slice none 0 0)], 4, 43, true, true⟩), (b1, .row ⟨[(.slice p0_0.a p0_0.l p0_0.c), (.slice p0_1.a p0_1.l p0_1.c)], 2, 29, true, true⟩)]) (fun s h_2 => S15_j6 p0_1 K s.1 s.2.1 s.2.2.1 s.2.2.2 h_2) ?_ (fun Ih_2 hIh_2 => ?_)
  · rintro ⟨c3_0, c3_1, c3_2, c3_3⟩ h_2 ok hS
    replace hS : S15_j6 p0_1 K c3_0 c3_1 c3_2 c3_3 h_2 := hS
    change EvC _ _ _ (Env.put (Env.put (Env.put Env.emp 3 (.pointer (some ⟨b3, 0, none⟩))) 2 (.pointer (some ⟨b2, 0, none⟩))) 1 (.pointer (some ⟨b1, 0, none⟩))) (H.add h_2 [(b3, .row ⟨[(.slice c3_0.a c3_0.l c3_0.c), (.slice c3_1.a c3_1.l c3_1.c), (.slice c3_2.a c3_2.l c3_2.c), (.slice c3_3.a c3_3.l c3_3.c)], 4, 43, true, true⟩), (b2, .row ⟨[(.slice none 0 0), (.slice none 0 0), (.slice none 0 0), (.slice none 0 0)], 4, 43, true, true⟩), (b1, .row ⟨[(.slice p0_0.a p0_0.l p0_0.c), (.slice p0_1.a p0_1.l p0_1.c)], 2, 29, true, true⟩)]) _
    unfold S15_j6 at hS
    refine EvC.join (σ := Sl × Sl × Sl × Sl) (fun s => (Env.put (Env.put Env.emp 3 (.pointer (some ⟨b3, 0, none⟩))) 2 (.pointer (some ⟨b2, 0, none⟩)))) (fun s => [(b3, .row ⟨[(.slice s.1.a s.1.l s.1.c), (.slice s.2.1.a s.2.1.l s.2.1.c), (.slice s.2.2.1.a s.2.2.1.l s.2.2.1.c), (.slice s.2.2.2.a s.2.2.2.l s.2.2.2.c)], 4, 43, true, true⟩), (b2, .row ⟨[(.slice none 0 0), (.slice none 0 0), (.slice none 0 0), (.slice none 0 0)], 4, 43, true, true⟩)]) (fun s h_3 => S15_j1 K s.1 s.2.1 s.2.2.1 s.2.2.2 h_3) ?_ (fun Ih_3 hIh_3 => ?_)
    · rintro ⟨c3_0_1, c3_1_1, c3_2_1, c3_3_1⟩ h_3 ok hS
      replace hS : S15_j1 K c3_0_1 c3_1_1 c3_2_1 c3_3_1 h_3 := hS
      change EvC _ _ _ (Env.put (Env.put Env.emp 3 (.pointer (some ⟨b3, 0, none⟩))) 2 (.pointer (some ⟨b2, 0, none⟩))) (H.add h_3 [(b3, .row ⟨[(.slice c3_0_1.a c3_0_1.l c3_0_1.c), (.slice c3_1_1.a c3_1_1.l c3_1_1.c), (.slice c3_2_1.a c3_2_1.l c3_2_1.c), (.slice c3_3_1.a c3_3_1.l c3_3_1.c)], 4, 43, true, true⟩), (b2, .row ⟨[(.slice none 0 0), (.slice none 0 0), (.slice none 0 0), (.slice none 0 0)], 4, 43, true, true⟩)]) _
      unfold S15_j1 at hS
      refine EvC.seq ?_
      refine EvC.region [Item.look 0, Item.eff 1 []] (by kernel_rfl) ?_
      refine R.look rfl rfl rfl (Lk.loadN (vs := [(.slice c3_0_1.a c3_0_1.l c3_0_1.c), (.slice c3_1_1.a c3_1_1.l c3_1_1.c), (.slice c3_2_1.a c3_2_1.l c3_2_1.c), (.slice c3_3_1.a c3_3_1.l c3_3_1.c)]) rfl Tryd.underlying43 rfl T43 rfl (H.rdn_loc ok (i := 0) rfl rfl rfl)) fun _ => ?_
      refine R.effN rfl rfl rfl (Ef.storeLoc (i := 1) (vs := [(.slice c3_0_1.a c3_0_1.l c3_0_1.c), (.slice c3_1_1.a c3_1_1.l c3_1_1.c), (.slice c3_2_1.a c3_2_1.l c3_2_1.c), (.slice c3_3_1.a c3_3_1.l c3_3_1.c)]) (cs := [(.slice c3_0_1.a c3_0_1.l c3_0_1.c), (.slice c3_1_1.a c3_1_1.l c3_1_1.c), (.slice c3_2_1.a c3_2_1.l c3_2_1.c), (.slice c3_3_1.a c3_3_1.l c3_3_1.c)]) (l' := [(b3, .row ⟨[(.slice c3_0_1.a c3_0_1.l c3_0_1.c), (.slice c3_1_1.a c3_1_1.l c3_1_1.c), (.slice c3_2_1.a c3_2_1.l c3_2_1.c), (.slice c3_3_1.a c3_3_1.l c3_3_1.c)], 4, 43, true, true⟩), (b2, .row ⟨[(.slice c3_0_1.a c3_0_1.l c3_0_1.c), (.slice c3_1_1.a c3_1_1.l c3_1_1.c), (.slice c3_2_1.a c3_2_1.l c3_2_1.c), (.slice c3_3_1.a c3_3_1.l c3_3_1.c)], 4, 43, true, true⟩)]) ok rfl T43 rfl rfl rfl rfl rfl rfl rfl rfl rfl rfl fun ok => ⟨noChk, ?_⟩)
      refine R.nil ?_
      refine EvC.ret ?_
      exact ⟨.inr rfl, _, _, (.cons (.cells rfl (fun w => Und.agg Tryd.underlying43 w) (fun w => T43.size_ w) (H.rdn_loc ok (i := 1) rfl rfl rfl)) .nil), ok.le, _, _, _, _, rfl, hS⟩
    · refine EvC.seq ?_
      refine EvC.region [Item.look 0] (by kernel_rfl) ?_
      refine R.look rfl rfl rfl (Lk.assign rfl rfl) fun _ => ?_
      refine R.nil ?_
      refine EvC.block ?_
      refine EvC.loop ?_
      refine LoopC.lfp (σ := Int × Sl × Sl × Sl × Sl) (fun s => (Env.put (Env.put (Env.put (Env.put Env.emp 10 (.int .i64 s.1)) 3 (.pointer (some ⟨b3, 0, none⟩))) 2 (.pointer (some ⟨b2, 0, none⟩))) 1 (.pointer (some ⟨b1, 0, none⟩)))) (fun s => [(b3, .row ⟨[(.slice s.2.1.a s.2.1.l s.2.1.c), (.slice s.2.2.1.a s.2.2.1.l s.2.2.1.c), (.slice s.2.2.2.1.a s.2.2.2.1.l s.2.2.2.1.c), (.slice s.2.2.2.2.a s.2.2.2.2.l s.2.2.2.2.c)], 4, 43, true, true⟩), (b2, .row ⟨[(.slice none 0 0), (.slice none 0 0), (.slice none 0 0), (.slice none 0 0)], 4, 43, true, true⟩), (b1, .row ⟨[(.slice p0_0.a p0_0.l p0_0.c), (.slice p0_1.a p0_1.l p0_1.c)], 2, 29, true, true⟩)]) (fun X hX => ?_) hS (ok.sub (.cons_cons _ (.cons_cons _ (.cons_cons _ List.Sublist.slnil)))) (Env.le_put rfl (Env.le_put rfl (Env.le_put rfl (Env.le_put rfl (Env.le_emp _))))) (H.add_sub ok (.cons_cons _ (.cons_cons _ (.cons_cons _ List.Sublist.slnil))))
      rintro ⟨v10, c3_0_2, c3_1_2, c3_2_2, c3_3_2⟩ h_4 hS ok
      replace hS : S15_l5 p0_1 K X v10 c3_0_2 c3_1_2 c3_2_2 c3_3_2 h_4 := hS
      change EvC _ _ _ (Env.put (Env.put (Env.put (Env.put Env.emp 10 (.int .i64 v10)) 3 (.pointer (some ⟨b3, 0, none⟩))) 2 (.pointer (some ⟨b2, 0, none⟩))) 1 (.pointer (some ⟨b1, 0, none⟩))) (H.add h_4 [(b3, .row ⟨[(.slice c3_0_2.a c3_0_2.l c3_0_2.c), (.slice c3_1_2.a c3_1_2.l c3_1_2.c), (.slice c3_2_2.a c3_2_2.l c3_2_2.c), (.slice c3_3_2.a c3_3_2.l c3_3_2.c)], 4, 43, true, true⟩), (b2, .row ⟨[(.slice none 0 0), (.slice none 0 0), (.slice none 0 0), (.slice none 0 0)], 4, 43, true, true⟩), (b1, .row ⟨[(.slice p0_0.a p0_0.l p0_0.c), (.slice p0_1.a p0_1.l p0_1.c)], 2, 29, true, true⟩)]) _
      unfold S15_l5 at hS
      refine EvC.seq ?_
      refine EvC.seq ?_
      refine EvC.region [Item.look 0, Item.look 1, Item.look 2, Item.look 3, Item.look 4] (by kernel_rfl) ?_
      refine R.look rfl rfl rfl (Lk.move rfl rfl) fun _ => ?_
      refine R.look (v := (.pointer (some ⟨b1, 1, none⟩))) rfl rfl rfl (Lk.fldAddr rfl Tryd.underlying29 rfl rfl T27 rfl rfl rfl) fun _ => ?_
      refine R.look rfl rfl rfl (Lk.load1 (v := (.slice p0_1.a p0_1.l p0_1.c)) rfl Tryd.underlying27 rfl rfl (H.rd_loc ok (i := 2) rfl rfl)) fun _ => ?_
      refine R.look rfl rfl rfl (Lk.len rfl Tryd.underlying27 rfl) fun _ => ?_
      refine R.look rfl rfl rfl (Lk.arith rfl rfl rfl rfl) fun _ => ?_
      refine R.nil ?_
      by_cases e6 : (decide (v10 < (p0_1.l : Int))) = true
      · rw [if_pos e6] at hS
        refine EvC.condT rfl e6 ?_
        refine EvC.skip ?_
        refine EvC.seq ?_
        refine EvC.block ?_
        refine EvC.seq ?_
        refine EvC.region [Item.look 0, Item.look 1, Item.look 2, Item.look 3, Item.look 4, Item.look 5, Item.look 6] (by kernel_rfl) ?_
        refine R.look (v := (.pointer (some ⟨b3, 2, none⟩))) rfl rfl rfl (Lk.fldAddr rfl Tryd.underlying43 rfl rfl T41 rfl rfl rfl) fun _ => ?_
        refine R.look rfl rfl rfl (Lk.load1 (v := (.slice c3_2_2.a c3_2_2.l c3_2_2.c)) rfl Tryd.underlying41 rfl rfl (H.rd_loc ok (i := 0) rfl rfl)) fun _ => ?_
        refine R.look rfl rfl rfl (Lk.move rfl rfl) fun _ => ?_
        obtain ⟨a92, e7, e8, e9, hS⟩ := hS
        refine R.look rfl rfl rfl (Lk.ixAddr rfl Tryd.underlying41 T116 rfl e7 rfl e8 e9) fun _ => ?_
        refine R.look (v := (.pointer (some (Addr.add a92 (Int.toNat v10 * 2))))) rfl rfl rfl (Lk.ixConst rfl Tryd.underlying116 T3 rfl rfl rfl rfl) fun _ => ?_
        obtain ⟨v94, e10, hS⟩ := hS
        refine R.look rfl rfl rfl (Look.loc ok (Lk.load1 rfl Tryd.underlying3 rfl rfl e10)) fun _ => ?_
        refine R.look rfl rfl rfl (Lk.assign rfl rfl) fun _ => ?_
        refine R.nil ?_
        refine EvC.seq ?_
        refine EvC.region [Item.look 0, Item.look 1, Item.look 2, Item.look 3, Item.look 4, Item.look 5, Item.look 6] (by kernel_rfl) ?_
        refine R.look (v := (.pointer (some ⟨b1, 1, none⟩))) rfl rfl rfl (Lk.fldAddr rfl Tryd.underlying29 rfl rfl T27 rfl rfl rfl) fun _ => ?_
        refine R.look rfl rfl rfl (Lk.load1 (v := (.slice p0_1.a p0_1.l p0_1.c)) rfl Tryd.underlying27 rfl rfl (H.rd_loc ok (i := 2) rfl rfl)) fun _ => ?_
        refine R.look rfl rfl rfl (Lk.move rfl rfl) fun _ => ?_
        obtain ⟨a98, e11, e12, e13, hS⟩ := hS
        refine R.look rfl rfl rfl (Lk.ixAddr rfl Tryd.underlying27 T54 rfl e11 rfl e12 e13) fun _ => ?_
        refine R.look (v := (.pointer (some (Addr.add (Addr.add a98 (Int.toNat v10 * 4)) 2)))) rfl rfl rfl (Lk.fldAddr rfl Tryd.underlying54 rfl rfl T3 rfl rfl rfl) fun _ => ?_
        obtain ⟨v100, e14, hS⟩ := hS
        refine R.look rfl rfl rfl (Look.loc ok (Lk.load1 rfl Tryd.underlying3 rfl rfl e14)) fun _ => ?_
        refine R.look rfl rfl rfl (Lk.assign rfl rfl) fun _ => ?_
        refine R.nil ?_
        refine EvC.seq ?_
        refine EvC.region [Item.look 0, Item.alc 1, Item.look 2] (by kernel_rfl) ?_
        refine R.look rfl rfl rfl (Lk.move rfl rfl) fun _ => ?_
        refine R.new (blk := (.row ⟨[(.int .i64 v94)], 1, 3, true, true⟩)) ok rfl rfl rfl (Ac.buildSlice (cs := [(.int .i64 v94)]) rfl Tryd.underlying32 T3 (by decide) (by decide) rfl rfl) rfl rfl fun b102 e15 ok => ?_
        replace hS := hS b102 _ e15 rfl
        refine R.look rfl rfl rfl (Lk.assign rfl rfl) fun _ => ?_
        refine R.nil ?_
        refine EvC.join (σ := Int × Int × Sl × Sl × Sl × Sl × Sl) (fun s => (Env.put (Env.put (Env.put (Env.put (Env.put (Env.put (Env.put Env.emp 13 (.slice s.2.2.1.a s.2.2.1.l s.2.2.1.c)) 12 (.int .i64 s.2.1)) 11 (.int .i64 s.1)) 10 (.int .i64 v10)) 3 (.pointer (some ⟨b3, 0, none⟩))) 2 (.pointer (some ⟨b2, 0, none⟩))) 1 (.pointer (some ⟨b1, 0, none⟩)))) (fun s => [(b3, .row ⟨[(.slice s.2.2.2.1.a s.2.2.2.1.l s.2.2.2.1.c), (.slice s.2.2.2.2.1.a s.2.2.2.2.1.l s.2.2.2.2.1.c), (.slice s.2.2.2.2.2.1.a s.2.2.2.2.2.1.l s.2.2.2.2.2.1.c), (.slice s.2.2.2.2.2.2.a s.2.2.2.2.2.2.l s.2.2.2.2.2.2.c)], 4, 43, true, true⟩), (b2, .row ⟨[(.slice none 0 0), (.slice none 0 0), (.slice none 0 0), (.slice none 0 0)], 4, 43, true, true⟩), (b1, .row ⟨[(.slice p0_0.a p0_0.l p0_0.c), (.slice p0_1.a p0_1.l p0_1.c)], 2, 29, true, true⟩)]) (fun s h_6 => S15_j2 v10 X s.1 s.2.1 s.2.2.1 s.2.2.2.1 s.2.2.2.2.1 s.2.2.2.2.2.1 s.2.2.2.2.2.2 h_6) ?_ (fun Ih_6 hIh_6 => ?_)
        · rintro ⟨v11, v12, v13, c3_0_3, c3_1_3, c3_2_3, c3_3_3⟩ h_6 ok hS
          replace hS : S15_j2 v10 X v11 v12 v13 c3_0_3 c3_1_3 c3_2_3 c3_3_3 h_6 := hS
          change EvC _ _ _ (Env.put (Env.put (Env.put (Env.put (Env.put (Env.put (Env.put Env.emp 13 (.slice v13.a v13.l v13.c)) 12 (.int .i64 v12)) 11 (.int .i64 v11)) 10 (.int .i64 v10)) 3 (.pointer (some ⟨b3, 0, none⟩))) 2 (.pointer (some ⟨b2, 0, none⟩))) 1 (.pointer (some ⟨b1, 0, none⟩))) (H.add h_6 [(b3, .row ⟨[(.slice c3_0_3.a c3_0_3.l c3_0_3.c), (.slice c3_1_3.a c3_1_3.l c3_1_3.c), (.slice c3_2_3.a c3_2_3.l c3_2_3.c), (.slice c3_3_3.a c3_3_3.l c3_3_3.c)], 4, 43, true, true⟩), (b2, .row ⟨[(.slice none 0 0), (.slice none 0 0), (.slice none 0 0), (.slice none 0 0)], 4, 43, true, true⟩), (b1, .row ⟨[(.slice p0_0.a p0_0.l p0_0.c), (.slice p0_1.a p0_1.l p0_1.c)], 2, 29, true, true⟩)]) _
          unfold S15_j2 at hS
          refine EvC.seq ?_
          refine EvC.draw [0, 1, 0, 0, 0, 16, 0, 112, 240, 496, 0, 2047, 4095, 8191, 8191, 16383, 49151] [Item.look 0, Item.look 1, Item.look 2, Item.look 3, Item.look 4, Item.look 5, Item.look 6, Item.look 7, Item.look 8, Item.look 9, Item.look 10, Item.eff 11 [], Item.look 12, Item.look 13, Item.look 14, Item.look 15, Item.eff 16 [14]] MO (by kernel_rfl) ?_
          refine R.lookL (v := (.pointer (some ⟨b3, 0, none⟩))) rfl rfl rfl (Lk.fldAddr rfl Tryd.underlying43 rfl rfl T31 rfl rfl rfl) ?_
          refine R.lookL rfl rfl rfl (Lk.load1 (v := (.slice c3_0_3.a c3_0_3.l c3_0_3.c)) rfl Tryd.underlying31 rfl rfl (H.rd_loc ok (i := 0) rfl rfl)) ?_
          refine R.lookL rfl rfl rfl (Lk.move rfl rfl) ?_
          refine R.lookL rfl rfl rfl (Lk.move rfl rfl) ?_
          refine R.lookL (v := (.pointer (some ⟨b3, 2, none⟩))) rfl rfl rfl (Lk.fldAddr rfl Tryd.underlying43 rfl rfl T41 rfl rfl rfl) ?_
          refine R.lookL rfl rfl rfl (Lk.load1 (v := (.slice c3_2_3.a c3_2_3.l c3_2_3.c)) rfl Tryd.underlying41 rfl rfl (H.rd_loc ok (i := 0) rfl rfl)) ?_
          refine R.lookL rfl rfl rfl (Lk.move rfl rfl) ?_
          obtain ⟨a162, e16, e17, e18, hS⟩ := hS
          refine R.lookL rfl rfl rfl (Lk.ixAddr rfl Tryd.underlying41 T116 rfl e16 rfl e17 e18) ?_
          refine R.lookL (v := (.pointer (some (Addr.add (Addr.add a162 (Int.toNat v10 * 2)) 1)))) rfl rfl rfl (Lk.ixConst rfl Tryd.underlying116 T3 rfl rfl rfl rfl) ?_
          obtain ⟨v164, e19, hS⟩ := hS
          refine R.lookL rfl rfl rfl (Look.loc ok (Lk.load1 rfl Tryd.underlying3 rfl rfl e19)) ?_
          refine R.lookL rfl rfl rfl (Lk.move rfl rfl) ?_
          refine R.eff rfl rfl rfl (Eff.loc ok (Ef.call rfl CB52 rfl ((f52_ok hS).mono ?_)))
          rintro _ h_7 ⟨v166_0, v166_1, rfl, hS⟩
          refine fun ok => ⟨noChk, ?_⟩
          refine R.lookL rfl rfl rfl (Lk.move rfl rfl) ?_
          refine R.lookL rfl rfl rfl (Lk.extract rfl rfl rfl) ?_
          refine R.lookL rfl rfl rfl (Lk.extract rfl rfl rfl) ?_
          refine R.lookL (v := (.pointer (some ⟨b3, 0, none⟩))) rfl rfl rfl (Lk.fldAddr rfl Tryd.underlying43 rfl rfl T31 rfl rfl rfl) ?_
          refine R.effN rfl rfl rfl (Ef.storeLoc (i := 0) (vs := [(.slice v166_0.a v166_0.l v166_0.c)]) (cs := [(.slice v166_0.a v166_0.l v166_0.c), (.slice c3_1_3.a c3_1_3.l c3_1_3.c), (.slice c3_2_3.a c3_2_3.l c3_2_3.c), (.slice c3_3_3.a c3_3_3.l c3_3_3.c)]) (l' := [(b3, .row ⟨[(.slice v166_0.a v166_0.l v166_0.c), (.slice c3_1_3.a c3_1_3.l c3_1_3.c), (.slice c3_2_3.a c3_2_3.l c3_2_3.c), (.slice c3_3_3.a c3_3_3.l c3_3_3.c)], 4, 43, true, true⟩), (b2, .row ⟨[(.slice none 0 0), (.slice none 0 0), (.slice none 0 0), (.slice none 0 0)], 4, 43, true, true⟩), (b1, .row ⟨[(.slice p0_0.a p0_0.l p0_0.c), (.slice p0_1.a p0_1.l p0_1.c)], 2, 29, true, true⟩)]) ok rfl T31 rfl rfl rfl rfl rfl rfl rfl rfl rfl rfl fun ok => ⟨(List.forall_mem_cons.2 ⟨(Log.past (by decide) (Log.at_ (LookG.of rfl (Lk.extract rfl rfl rfl)))), noChk⟩), ?_⟩)
          refine R.nil ?_
          refine EvC.seq ?_
          refine EvC.region [Item.look 0, Item.look 1, Item.look 2, Item.look 3, Item.look 4, Item.look 5, Item.look 6, Item.alc 7, Item.eff 8 [], Item.look 9] (by kernel_rfl) ?_
          refine R.look rfl rfl rfl (Lk.move rfl rfl) fun _ => ?_
          refine R.look (v := (.pointer (some ⟨b3, 2, none⟩))) rfl rfl rfl (Lk.fldAddr rfl Tryd.underlying43 rfl rfl T41 rfl rfl rfl) fun _ => ?_
          refine R.look rfl rfl rfl (Lk.load1 (v := (.slice c3_2_3.a c3_2_3.l c3_2_3.c)) rfl Tryd.underlying41 rfl rfl (H.rd_loc ok (i := 0) rfl rfl)) fun _ => ?_
          refine R.look rfl rfl rfl (Lk.move rfl rfl) fun _ => ?_
          obtain ⟨a174, e20, e21, e22, hS⟩ := hS
          refine R.look rfl rfl rfl (Lk.ixAddr rfl Tryd.underlying41 T116 rfl e20 rfl e21 e22) fun _ => ?_
          refine R.look (v := (.pointer (some (Addr.add (Addr.add a174 (Int.toNat v10 * 2)) 1)))) rfl rfl rfl (Lk.ixConst rfl Tryd.underlying116 T3 rfl rfl rfl rfl) fun _ => ?_
          obtain ⟨v176, e23, hS⟩ := hS
          refine R.look rfl rfl rfl (Look.loc ok (Lk.load1 rfl Tryd.underlying3 rfl rfl e23)) fun _ => ?_
          refine R.appL (cs := [(.int .i64 v176)]) ok rfl rfl rfl rfl rfl rfl rfl rfl Tryd.underlying32 T3 rfl (by decide) (by decide) rfl rfl rfl rfl rfl (fun _ => rfl) hS ?_
          intro bb177 v178 h_8 hS ok
          refine ⟨noChk, ?_⟩
          refine R.look rfl rfl rfl (Lk.assign rfl rfl) fun _ => ?_
          refine R.nil ?_
          refine EvC.region [Item.look 0, Item.look 1, Item.look 2, Item.alc 3, Item.eff 4 [], Item.look 5, Item.eff 6 []] (by kernel_rfl) ?_
          refine R.look (v := (.pointer (some ⟨b3, 3, none⟩))) rfl rfl rfl (Lk.fldAddr rfl Tryd.underlying43 rfl rfl T33 rfl rfl rfl) fun _ => ?_
          refine R.look rfl rfl rfl (Lk.load1 (v := (.slice c3_3_3.a c3_3_3.l c3_3_3.c)) rfl Tryd.underlying33 rfl rfl (H.rd_loc ok (i := 0) rfl rfl)) fun _ => ?_
          refine R.look rfl rfl rfl (Lk.move rfl rfl) fun _ => ?_
          refine R.appL (cs := [(.slice v178.a v178.l v178.c)]) ok rfl rfl rfl rfl rfl rfl rfl rfl Tryd.underlying33 T32 rfl (by decide) (by decide) rfl rfl rfl rfl rfl (fun _ => rfl) hS ?_
          intro bb182 v183 h_9 hS ok
          refine ⟨noChk, ?_⟩
          refine R.look (v := (.pointer (some ⟨b3, 3, none⟩))) rfl rfl rfl (Lk.fldAddr rfl Tryd.underlying43 rfl rfl T33 rfl rfl rfl) fun _ => ?_
          refine R.effN rfl rfl rfl (Ef.storeLoc (i := 0) (vs := [(.slice v183.a v183.l v183.c)]) (cs := [(.slice v166_0.a v166_0.l v166_0.c), (.slice c3_1_3.a c3_1_3.l c3_1_3.c), (.slice c3_2_3.a c3_2_3.l c3_2_3.c), (.slice v183.a v183.l v183.c)]) (l' := [(b3, .row ⟨[(.slice v166_0.a v166_0.l v166_0.c), (.slice c3_1_3.a c3_1_3.l c3_1_3.c), (.slice c3_2_3.a c3_2_3.l c3_2_3.c), (.slice v183.a v183.l v183.c)], 4, 43, true, true⟩), (b2, .row ⟨[(.slice none 0 0), (.slice none 0 0), (.slice none 0 0), (.slice none 0 0)], 4, 43, true, true⟩), (b1, .row ⟨[(.slice p0_0.a p0_0.l p0_0.c), (.slice p0_1.a p0_1.l p0_1.c)], 2, 29, true, true⟩)]) ok rfl T33 rfl rfl rfl rfl rfl rfl rfl rfl rfl rfl fun ok => ⟨noChk, ?_⟩)
          refine R.nil ?_
          refine EvC.region [Item.look 0, Item.look 1, Item.look 2] (by kernel_rfl) ?_
          refine R.look rfl rfl rfl (Lk.move rfl rfl) fun _ => ?_
          refine R.look rfl rfl rfl (Lk.arith rfl rfl rfl rfl) fun _ => ?_
          refine R.look rfl rfl rfl (Lk.assign rfl rfl) fun _ => ?_
          refine R.nil ?_
          exact hX ((IntKind.wrap .i64 (v10 + 1)), v166_0, c3_1_3, c3_2_3, v183) _ _ _ hS (ok.sub (.cons_cons _ (.cons_cons _ (.cons_cons _ List.Sublist.slnil)))) (Env.le_put rfl (Env.le_put rfl (Env.le_put rfl (Env.le_put rfl (Env.le_emp _))))) (H.add_sub ok (.cons_cons _ (.cons_cons _ (.cons_cons _ List.Sublist.slnil))))
        · refine EvC.seq ?_
          refine EvC.region [Item.look 0] (by kernel_rfl) ?_
          refine R.look rfl rfl rfl (Lk.assign rfl rfl) fun _ => ?_
          refine R.nil ?_
          refine EvC.block ?_
          refine EvC.loop ?_
          refine LoopC.lfp (σ := Int × Int × Sl × Int × Sl × Sl × Sl × Sl) (fun s => (Env.put (Env.put (Env.put (Env.put (Env.put (Env.put (Env.put (Env.put Env.emp 14 (.int .i64 s.2.2.2.1)) 13 (.slice s.2.2.1.a s.2.2.1.l s.2.2.1.c)) 12 (.int .i64 s.2.1)) 11 (.int .i64 s.1)) 10 (.int .i64 v10)) 3 (.pointer (some ⟨b3, 0, none⟩))) 2 (.pointer (some ⟨b2, 0, none⟩))) 1 (.pointer (some ⟨b1, 0, none⟩)))) (fun s => [(b3, .row ⟨[(.slice s.2.2.2.2.1.a s.2.2.2.2.1.l s.2.2.2.2.1.c), (.slice s.2.2.2.2.2.1.a s.2.2.2.2.2.1.l s.2.2.2.2.2.1.c), (.slice s.2.2.2.2.2.2.1.a s.2.2.2.2.2.2.1.l s.2.2.2.2.2.2.1.c), (.slice s.2.2.2.2.2.2.2.a s.2.2.2.2.2.2.2.l s.2.2.2.2.2.2.2.c)], 4, 43, true, true⟩), (b2, .row ⟨[(.slice none 0 0), (.slice none 0 0), (.slice none 0 0), (.slice none 0 0)], 4, 43, true, true⟩), (b1, .row ⟨[(.slice p0_0.a p0_0.l p0_0.c), (.slice p0_1.a p0_1.l p0_1.c)], 2, 29, true, true⟩)]) (fun X_1 hX_1 => ?_) hS (ok.sub (.cons_cons _ (.cons_cons _ (.cons_cons _ List.Sublist.slnil)))) (Env.le_put rfl (Env.le_put rfl (Env.le_put rfl (Env.le_put rfl (Env.le_put rfl (Env.le_put rfl (Env.le_put rfl (Env.le_put rfl (Env.le_emp _))))))))) (H.add_sub ok (.cons_cons _ (.cons_cons _ (.cons_cons _ List.Sublist.slnil))))
          rintro ⟨v11_1, v12_1, v13_1, v14, c3_0_4, c3_1_4, c3_2_4, c3_3_4⟩ h_10 hS ok
          replace hS : S15_l4 p0_1 v10 X X_1 v11_1 v12_1 v13_1 v14 c3_0_4 c3_1_4 c3_2_4 c3_3_4 h_10 := hS
          change EvC _ _ _ (Env.put (Env.put (Env.put (Env.put (Env.put (Env.put (Env.put (Env.put Env.emp 14 (.int .i64 v14)) 13 (.slice v13_1.a v13_1.l v13_1.c)) 12 (.int .i64 v12_1)) 11 (.int .i64 v11_1)) 10 (.int .i64 v10)) 3 (.pointer (some ⟨b3, 0, none⟩))) 2 (.pointer (some ⟨b2, 0, none⟩))) 1 (.pointer (some ⟨b1, 0, none⟩))) (H.add h_10 [(b3, .row ⟨[(.slice c3_0_4.a c3_0_4.l c3_0_4.c), (.slice c3_1_4.a c3_1_4.l c3_1_4.c), (.slice c3_2_4.a c3_2_4.l c3_2_4.c), (.slice c3_3_4.a c3_3_4.l c3_3_4.c)], 4, 43, true, true⟩), (b2, .row ⟨[(.slice none 0 0), (.slice none 0 0), (.slice none 0 0), (.slice none 0 0)], 4, 43, true, true⟩), (b1, .row ⟨[(.slice p0_0.a p0_0.l p0_0.c), (.slice p0_1.a p0_1.l p0_1.c)], 2, 29, true, true⟩)]) _
          unfold S15_l4 at hS
          refine EvC.seq ?_
          refine EvC.seq ?_
          refine EvC.region [Item.look 0, Item.look 1, Item.look 2, Item.look 3, Item.look 4, Item.look 5, Item.look 6, Item.look 7, Item.look 8] (by kernel_rfl) ?_
          refine R.look rfl rfl rfl (Lk.move rfl rfl) fun _ => ?_
          refine R.look (v := (.pointer (some ⟨b1, 1, none⟩))) rfl rfl rfl (Lk.fldAddr rfl Tryd.underlying29 rfl rfl T27 rfl rfl rfl) fun _ => ?_
          refine R.look rfl rfl rfl (Lk.load1 (v := (.slice p0_1.a p0_1.l p0_1.c)) rfl Tryd.underlying27 rfl rfl (H.rd_loc ok (i := 2) rfl rfl)) fun _ => ?_
          refine R.look rfl rfl rfl (Lk.move rfl rfl) fun _ => ?_
          obtain ⟨a107, e24, e25, e26, hS⟩ := hS
          refine R.look rfl rfl rfl (Lk.ixAddr rfl Tryd.underlying27 T54 rfl e24 rfl e25 e26) fun _ => ?_
          refine R.look (v := (.pointer (some (Addr.add (Addr.add a107 (Int.toNat v10 * 4)) 3)))) rfl rfl rfl (Lk.fldAddr rfl Tryd.underlying54 rfl rfl T9 rfl rfl rfl) fun _ => ?_
          obtain ⟨v109, e27, hS⟩ := hS
          refine R.look rfl rfl rfl (Look.loc ok (Lk.load1 rfl Tryd.underlying9 rfl rfl e27)) fun _ => ?_
          refine R.look rfl rfl rfl (Lk.lenS rfl Tryd.underlying9 rfl) fun _ => ?_
          refine R.look rfl rfl rfl (Lk.arith rfl rfl rfl rfl) fun _ => ?_
          refine R.nil ?_
          by_cases e28 : (decide (v14 < (ByteArray.size v109 : Int))) = true
          · rw [if_pos e28] at hS
            refine EvC.condT rfl e28 ?_
            refine EvC.skip ?_
            refine EvC.join (σ := Int × Int × Sl × Sl × Sl × Sl × Sl) (fun s => (Env.put (Env.put (Env.put (Env.put (Env.put (Env.put (Env.put (Env.put Env.emp 14 (.int .i64 v14)) 13 (.slice s.2.2.1.a s.2.2.1.l s.2.2.1.c)) 12 (.int .i64 s.2.1)) 11 (.int .i64 s.1)) 10 (.int .i64 v10)) 3 (.pointer (some ⟨b3, 0, none⟩))) 2 (.pointer (some ⟨b2, 0, none⟩))) 1 (.pointer (some ⟨b1, 0, none⟩)))) (fun s => [(b3, .row ⟨[(.slice s.2.2.2.1.a s.2.2.2.1.l s.2.2.2.1.c), (.slice s.2.2.2.2.1.a s.2.2.2.2.1.l s.2.2.2.2.1.c), (.slice s.2.2.2.2.2.1.a s.2.2.2.2.2.1.l s.2.2.2.2.2.1.c), (.slice s.2.2.2.2.2.2.a s.2.2.2.2.2.2.l s.2.2.2.2.2.2.c)], 4, 43, true, true⟩), (b2, .row ⟨[(.slice none 0 0), (.slice none 0 0), (.slice none 0 0), (.slice none 0 0)], 4, 43, true, true⟩), (b1, .row ⟨[(.slice p0_0.a p0_0.l p0_0.c), (.slice p0_1.a p0_1.l p0_1.c)], 2, 29, true, true⟩)]) (fun s h_11 => S15_j3 v14 X_1 s.1 s.2.1 s.2.2.1 s.2.2.2.1 s.2.2.2.2.1 s.2.2.2.2.2.1 s.2.2.2.2.2.2 h_11) ?_ (fun Ih_11 hIh_11 => ?_)
            · rintro ⟨v11_2, v12_2, v13_2, c3_0_5, c3_1_5, c3_2_5, c3_3_5⟩ h_11 ok hS
              replace hS : S15_j3 v14 X_1 v11_2 v12_2 v13_2 c3_0_5 c3_1_5 c3_2_5 c3_3_5 h_11 := hS
              change EvC _ _ _ (Env.put (Env.put (Env.put (Env.put (Env.put (Env.put (Env.put (Env.put Env.emp 14 (.int .i64 v14)) 13 (.slice v13_2.a v13_2.l v13_2.c)) 12 (.int .i64 v12_2)) 11 (.int .i64 v11_2)) 10 (.int .i64 v10)) 3 (.pointer (some ⟨b3, 0, none⟩))) 2 (.pointer (some ⟨b2, 0, none⟩))) 1 (.pointer (some ⟨b1, 0, none⟩))) (H.add h_11 [(b3, .row ⟨[(.slice c3_0_5.a c3_0_5.l c3_0_5.c), (.slice c3_1_5.a c3_1_5.l c3_1_5.c), (.slice c3_2_5.a c3_2_5.l c3_2_5.c), (.slice c3_3_5.a c3_3_5.l c3_3_5.c)], 4, 43, true, true⟩), (b2, .row ⟨[(.slice none 0 0), (.slice none 0 0), (.slice none 0 0), (.slice none 0 0)], 4, 43, true, true⟩), (b1, .row ⟨[(.slice p0_0.a p0_0.l p0_0.c), (.slice p0_1.a p0_1.l p0_1.c)], 2, 29, true, true⟩)]) _
              unfold S15_j3 at hS
              refine EvC.region [Item.look 0, Item.look 1, Item.look 2] (by kernel_rfl) ?_
              refine R.look rfl rfl rfl (Lk.move rfl rfl) fun _ => ?_
              refine R.look rfl rfl rfl (Lk.arith rfl rfl rfl rfl) fun _ => ?_
              refine R.look rfl rfl rfl (Lk.assign rfl rfl) fun _ => ?_
              refine R.nil ?_
              exact hX_1 (v11_2, v12_2, v13_2, (IntKind.wrap .i64 (v14 + 1)), c3_0_5, c3_1_5, c3_2_5, c3_3_5) _ _ _ hS (ok.sub (.cons_cons _ (.cons_cons _ (.cons_cons _ List.Sublist.slnil)))) (Env.le_put rfl (Env.le_put rfl (Env.le_put rfl (Env.le_put rfl (Env.le_put rfl (Env.le_put rfl (Env.le_put rfl (Env.le_put rfl (Env.le_emp _))))))))) (H.add_sub ok (.cons_cons _ (.cons_cons _ (.cons_cons _ List.Sublist.slnil))))
            · refine EvC.block ?_
              refine EvC.seq ?_
              refine EvC.region [Item.look 0, Item.look 1, Item.look 2, Item.look 3] (by kernel_rfl) ?_
              refine R.look (v := (.pointer (some ⟨b3, 0, none⟩))) rfl rfl rfl (Lk.fldAddr rfl Tryd.underlying43 rfl rfl T31 rfl rfl rfl) fun _ => ?_
              refine R.look rfl rfl rfl (Lk.load1 (v := (.slice c3_0_4.a c3_0_4.l c3_0_4.c)) rfl Tryd.underlying31 rfl rfl (H.rd_loc ok (i := 0) rfl rfl)) fun _ => ?_
              refine R.look rfl rfl rfl (Lk.len rfl Tryd.underlying31 rfl) fun _ => ?_
              refine R.look rfl rfl rfl (Lk.assign rfl rfl) fun _ => ?_
              refine R.nil ?_
              refine EvC.seq ?_
              refine EvC.region [Item.eff 0 [], Item.look 1] (by kernel_rfl) ?_
              refine R.eff rfl rfl rfl (Eff.loc ok (Ef.call rfl CB51 rfl ((f51_ok hS).mono ?_)))
              rintro _ h_12 ⟨v117, rfl, hS⟩
              refine fun ok => ⟨noChk, ?_⟩
              refine R.look rfl rfl rfl (Lk.assign rfl rfl) fun _ => ?_
              refine R.nil ?_
              refine EvC.seq ?_
              refine EvC.region [Item.look 0, Item.look 1, Item.look 2, Item.eff 3 [], Item.look 4, Item.eff 5 []] (by kernel_rfl) ?_
              refine R.look (v := (.pointer (some ⟨b3, 0, none⟩))) rfl rfl rfl (Lk.fldAddr rfl Tryd.underlying43 rfl rfl T31 rfl rfl rfl) fun _ => ?_
              refine R.look rfl rfl rfl (Lk.load1 (v := (.slice c3_0_4.a c3_0_4.l c3_0_4.c)) rfl Tryd.underlying31 rfl rfl (H.rd_loc ok (i := 0) rfl rfl)) fun _ => ?_
              refine R.look rfl rfl rfl (Lk.move rfl rfl) fun _ => ?_
              obtain ⟨e36, hS⟩ := hS
              refine R.appS ok rfl rfl rfl rfl Tryd.underlying31 T51 rfl rfl rfl rfl e36 hS ?_
              intro v121 h_13 hS ok
              refine ⟨noChk, ?_⟩
              refine R.look (v := (.pointer (some ⟨b3, 0, none⟩))) rfl rfl rfl (Lk.fldAddr rfl Tryd.underlying43 rfl rfl T31 rfl rfl rfl) fun _ => ?_
              refine R.effN rfl rfl rfl (Ef.storeLoc (i := 0) (vs := [(.slice v121.a v121.l v121.c)]) (cs := [(.slice v121.a v121.l v121.c), (.slice c3_1_4.a c3_1_4.l c3_1_4.c), (.slice c3_2_4.a c3_2_4.l c3_2_4.c), (.slice c3_3_4.a c3_3_4.l c3_3_4.c)]) (l' := [(b3, .row ⟨[(.slice v121.a v121.l v121.c), (.slice c3_1_4.a c3_1_4.l c3_1_4.c), (.slice c3_2_4.a c3_2_4.l c3_2_4.c), (.slice c3_3_4.a c3_3_4.l c3_3_4.c)], 4, 43, true, true⟩), (b2, .row ⟨[(.slice none 0 0), (.slice none 0 0), (.slice none 0 0), (.slice none 0 0)], 4, 43, true, true⟩), (b1, .row ⟨[(.slice p0_0.a p0_0.l p0_0.c), (.slice p0_1.a p0_1.l p0_1.c)], 2, 29, true, true⟩)]) ok rfl T31 rfl rfl rfl rfl rfl rfl rfl rfl rfl rfl fun ok => ⟨noChk, ?_⟩)
              refine R.nil ?_
              refine EvC.seq ?_
              refine EvC.region [Item.look 0, Item.look 1, Item.look 2, Item.look 3, Item.look 4, Item.look 5, Item.eff 6 [], Item.look 7, Item.look 8, Item.look 9, Item.look 10, Item.eff 11 []] (by kernel_rfl) ?_
              refine R.look (v := (.pointer (some ⟨b3, 0, none⟩))) rfl rfl rfl (Lk.fldAddr rfl Tryd.underlying43 rfl rfl T31 rfl rfl rfl) fun _ => ?_
              refine R.look rfl rfl rfl (Lk.load1 (v := (.slice v121.a v121.l v121.c)) rfl Tryd.underlying31 rfl rfl (H.rd_loc ok (i := 0) rfl rfl)) fun _ => ?_
              refine R.look rfl rfl rfl (Lk.move rfl rfl) fun _ => ?_
              refine R.look rfl rfl rfl (Lk.move rfl rfl) fun _ => ?_
              refine R.look rfl rfl rfl (Lk.move rfl rfl) fun _ => ?_
              refine R.look rfl rfl rfl (Lk.move rfl rfl) fun _ => ?_
              refine R.eff rfl rfl rfl (Eff.loc ok (Ef.call rfl CB52 rfl ((f52_ok hS).mono ?_)))
              rintro _ h_14 ⟨v130_0, v130_1, rfl, hS⟩
              refine fun ok => ⟨noChk, ?_⟩
              refine R.look rfl rfl rfl (Lk.move rfl rfl) fun _ => ?_
              refine R.look rfl rfl rfl (Lk.extract rfl rfl rfl) fun _ => ?_
              refine R.look rfl rfl rfl (Lk.extract rfl rfl rfl) fun _ => ?_
              refine R.look (v := (.pointer (some ⟨b3, 0, none⟩))) rfl rfl rfl (Lk.fldAddr rfl Tryd.underlying43 rfl rfl T31 rfl rfl rfl) fun _ => ?_
              refine R.effN rfl rfl rfl (Ef.storeLoc (i := 0) (vs := [(.slice v130_0.a v130_0.l v130_0.c)]) (cs := [(.slice v130_0.a v130_0.l v130_0.c), (.slice c3_1_4.a c3_1_4.l c3_1_4.c), (.slice c3_2_4.a c3_2_4.l c3_2_4.c), (.slice c3_3_4.a c3_3_4.l c3_3_4.c)]) (l' := [(b3, .row ⟨[(.slice v130_0.a v130_0.l v130_0.c), (.slice c3_1_4.a c3_1_4.l c3_1_4.c), (.slice c3_2_4.a c3_2_4.l c3_2_4.c), (.slice c3_3_4.a c3_3_4.l c3_3_4.c)], 4, 43, true, true⟩), (b2, .row ⟨[(.slice none 0 0), (.slice none 0 0), (.slice none 0 0), (.slice none 0 0)], 4, 43, true, true⟩), (b1, .row ⟨[(.slice p0_0.a p0_0.l p0_0.c), (.slice p0_1.a p0_1.l p0_1.c)], 2, 29, true, true⟩)]) ok rfl T31 rfl rfl rfl rfl rfl rfl rfl rfl rfl rfl fun ok => ⟨noChk, ?_⟩)
              refine R.nil ?_
              refine EvC.seq ?_
              refine EvC.region [Item.look 0, Item.look 1] (by kernel_rfl) ?_
              refine R.look rfl rfl rfl (Lk.move rfl rfl) fun _ => ?_
              refine R.look rfl rfl rfl (Lk.assign rfl rfl) fun _ => ?_
              refine R.nil ?_
              refine EvC.seq ?_
              refine EvC.region [Item.look 0, Item.look 1, Item.alc 2, Item.eff 3 [], Item.look 4] (by kernel_rfl) ?_
              refine R.look rfl rfl rfl (Lk.move rfl rfl) fun _ => ?_
              refine R.look rfl rfl rfl (Lk.move rfl rfl) fun _ => ?_
              refine R.appL (cs := [(.int .i64 (c3_0_4.l : Int))]) ok rfl rfl rfl rfl rfl rfl rfl rfl Tryd.underlying32 T3 rfl (by decide) (by decide) rfl rfl rfl rfl rfl (fun _ => rfl) hS ?_
              intro bb137 v138 h_15 hS ok
              refine ⟨noChk, ?_⟩
              refine R.look rfl rfl rfl (Lk.assign rfl rfl) fun _ => ?_
              refine R.nil ?_
              refine EvC.seq ?_
              refine EvC.region [Item.look 0, Item.look 1, Item.look 2, Item.look 3, Item.look 4, Item.look 5, Item.look 6, Item.look 7, Item.look 8] (by kernel_rfl) ?_
              refine R.look (v := (.pointer (some ⟨b1, 1, none⟩))) rfl rfl rfl (Lk.fldAddr rfl Tryd.underlying29 rfl rfl T27 rfl rfl rfl) fun _ => ?_
              refine R.look rfl rfl rfl (Lk.load1 (v := (.slice p0_1.a p0_1.l p0_1.c)) rfl Tryd.underlying27 rfl rfl (H.rd_loc ok (i := 2) rfl rfl)) fun _ => ?_
              refine R.look rfl rfl rfl (Lk.move rfl rfl) fun _ => ?_
              obtain ⟨a142, e29, e30, e31, hS⟩ := hS
              refine R.look rfl rfl rfl (Lk.ixAddr rfl Tryd.underlying27 T54 rfl e29 rfl e30 e31) fun _ => ?_
              refine R.look (v := (.pointer (some (Addr.add (Addr.add a142 (Int.toNat v10 * 4)) 3)))) rfl rfl rfl (Lk.fldAddr rfl Tryd.underlying54 rfl rfl T9 rfl rfl rfl) fun _ => ?_
              obtain ⟨v144, e32, hS⟩ := hS
              refine R.look rfl rfl rfl (Look.loc ok (Lk.load1 rfl Tryd.underlying9 rfl rfl e32)) fun _ => ?_
              refine R.look rfl rfl rfl (Lk.move rfl rfl) fun _ => ?_
              obtain ⟨e33, e34, hS⟩ := hS
              refine R.look rfl rfl rfl (Lk.byte rfl Tryd.underlying9 rfl rfl e33 e34) fun _ => ?_
              refine R.look rfl rfl rfl (Lk.arith rfl rfl rfl rfl) fun _ => ?_
              refine R.nil ?_
              by_cases e35 : ((byteAt v144 v14) == 76) = true
              · rw [if_pos e35] at hS
                refine EvC.condT rfl e35 ?_
                refine EvC.region [Item.look 0, Item.look 1, Item.look 2, Item.look 3] (by kernel_rfl) ?_
                refine R.look rfl rfl rfl (Lk.move rfl rfl) fun _ => ?_
                refine R.look rfl rfl rfl (Lk.arith rfl rfl rfl rfl) fun _ => ?_
                refine R.look rfl rfl rfl (Lk.rem (j := 4) rfl rfl rfl (by decide)) fun _ => ?_
                refine R.look rfl rfl rfl (Lk.assign rfl rfl) fun _ => ?_
                refine R.nil ?_
                exact hIh_11 ((c3_0_4.l : Int), (Int.tmod (IntKind.wrap .i64 (v12_1 + 1)) 4), v138, v130_0, c3_1_4, c3_2_4, c3_3_4) _ _ _ (Env.le_put rfl (Env.le_put rfl (Env.le_put rfl (Env.le_put rfl (Env.le_put rfl (Env.le_put rfl (Env.le_put rfl (Env.le_put rfl (Env.le_emp _))))))))) (ok.sub (.cons_cons _ (.cons_cons _ (.cons_cons _ List.Sublist.slnil)))) (H.add_sub ok (.cons_cons _ (.cons_cons _ (.cons_cons _ List.Sublist.slnil)))) hS
              · rw [if_neg e35] at hS
                replace e35 := eq_false_of_ne_true e35
                refine EvC.condF rfl e35 ?_
                refine EvC.region [Item.look 0, Item.look 1, Item.look 2, Item.look 3] (by kernel_rfl) ?_
                refine R.look rfl rfl rfl (Lk.move rfl rfl) fun _ => ?_
                refine R.look rfl rfl rfl (Lk.arith rfl rfl rfl rfl) fun _ => ?_
                refine R.look rfl rfl rfl (Lk.rem (j := 4) rfl rfl rfl (by decide)) fun _ => ?_
                refine R.look rfl rfl rfl (Lk.assign rfl rfl) fun _ => ?_
                refine R.nil ?_
                exact hIh_11 ((c3_0_4.l : Int), (Int.tmod (IntKind.wrap .i64 (v12_1 + 3)) 4), v138, v130_0, c3_1_4, c3_2_4, c3_3_4) _ _ _ (Env.le_put rfl (Env.le_put rfl (Env.le_put rfl (Env.le_put rfl (Env.le_put rfl (Env.le_put rfl (Env.le_put rfl (Env.le_put rfl (Env.le_emp _))))))))) (ok.sub (.cons_cons _ (.cons_cons _ (.cons_cons _ List.Sublist.slnil)))) (H.add_sub ok (.cons_cons _ (.cons_cons _ (.cons_cons _ List.Sublist.slnil)))) hS
          · rw [if_neg e28] at hS
            replace e28 := eq_false_of_ne_true e28
            refine EvC.condF rfl e28 ?_
            refine EvC.exit ?_
            exact hIh_6 (v11_1, v12_1, v13_1, c3_0_4, c3_1_4, c3_2_4, c3_3_4) _ _ _ (Env.le_put rfl (Env.le_put rfl (Env.le_put rfl (Env.le_put rfl (Env.le_put rfl (Env.le_put rfl (Env.le_put rfl (Env.le_emp _)))))))) (ok.sub (.cons_cons _ (.cons_cons _ (.cons_cons _ List.Sublist.slnil)))) (H.add_sub ok (.cons_cons _ (.cons_cons _ (.cons_cons _ List.Sublist.slnil)))) hS
      · rw [if_neg e6] at hS
        replace e6 := eq_false_of_ne_true e6
        refine EvC.condF rfl e6 ?_
        refine EvC.exit ?_
        exact hIh_3 (c3_0_2, c3_1_2, c3_2_2, c3_3_2) _ _ _ (Env.le_put rfl (Env.le_put rfl (Env.le_emp _))) (ok.sub (.cons_cons _ (.cons_cons _ (.cons _ List.Sublist.slnil)))) (H.add_sub ok (.cons_cons _ (.cons_cons _ (.cons _ List.Sublist.slnil)))) hS
  · refine EvC.seq ?_
    refine EvC.region [Item.look 0] (by kernel_rfl) ?_
    refine R.look rfl rfl rfl (Lk.assign rfl rfl) fun _ => ?_
    refine R.nil ?_
    refine EvC.block ?_
    refine EvC.loop ?_
    refine LoopC.lfp (σ := Int × Sl × Sl × Sl × Sl) (fun s => (Env.put (Env.put (Env.put (Env.put Env.emp 4 (.int .i64 s.1)) 3 (.pointer (some ⟨b3, 0, none⟩))) 2 (.pointer (some ⟨b2, 0, none⟩))) 1 (.pointer (some ⟨b1, 0, none⟩)))) (fun s => [(b3, .row ⟨[(.slice s.2.1.a s.2.1.l s.2.1.c), (.slice s.2.2.1.a s.2.2.1.l s.2.2.1.c), (.slice s.2.2.2.1.a s.2.2.2.1.l s.2.2.2.1.c), (.slice s.2.2.2.2.a s.2.2.2.2.l s.2.2.2.2.c)], 4, 43, true, true⟩), (b2, .row ⟨[(.slice none 0 0), (.slice none 0 0), (.slice none 0 0), (.slice none 0 0)], 4, 43, true, true⟩), (b1, .row ⟨[(.slice p0_0.a p0_0.l p0_0.c), (.slice p0_1.a p0_1.l p0_1.c)], 2, 29, true, true⟩)]) (fun X_2 hX_2 => ?_) hS (ok.sub (.cons_cons _ (.cons_cons _ (.cons_cons _ List.Sublist.slnil)))) (Env.le_put rfl (Env.le_put rfl (Env.le_put rfl (Env.le_put rfl (Env.le_emp _))))) (H.add_sub ok (.cons_cons _ (.cons_cons _ (.cons_cons _ List.Sublist.slnil))))
    rintro ⟨v4, c3_0_6, c3_1_6, c3_2_6, c3_3_6⟩ h_16 hS ok
    replace hS : S15_l11 p0_0 p0_1 K X_2 v4 c3_0_6 c3_1_6 c3_2_6 c3_3_6 h_16 := hS
    change EvC _ _ _ (Env.put (Env.put (Env.put (Env.put Env.emp 4 (.int .i64 v4)) 3 (.pointer (some ⟨b3, 0, none⟩))) 2 (.pointer (some ⟨b2, 0, none⟩))) 1 (.pointer (some ⟨b1, 0, none⟩))) (H.add h_16 [(b3, .row ⟨[(.slice c3_0_6.a c3_0_6.l c3_0_6.c), (.slice c3_1_6.a c3_1_6.l c3_1_6.c), (.slice c3_2_6.a c3_2_6.l c3_2_6.c), (.slice c3_3_6.a c3_3_6.l c3_3_6.c)], 4, 43, true, true⟩), (b2, .row ⟨[(.slice none 0 0), (.slice none 0 0), (.slice none 0 0), (.slice none 0 0)], 4, 43, true, true⟩), (b1, .row ⟨[(.slice p0_0.a p0_0.l p0_0.c), (.slice p0_1.a p0_1.l p0_1.c)], 2, 29, true, true⟩)]) _
    unfold S15_l11 at hS
    refine EvC.seq ?_
    refine EvC.seq ?_
    refine EvC.region [Item.look 0, Item.look 1, Item.look 2, Item.look 3, Item.look 4] (by kernel_rfl) ?_
    refine R.look rfl rfl rfl (Lk.move rfl rfl) fun _ => ?_
    refine R.look (v := (.pointer (some ⟨b1, 0, none⟩))) rfl rfl rfl (Lk.fldAddr rfl Tryd.underlying29 rfl rfl T22 rfl rfl rfl) fun _ => ?_
    refine R.look rfl rfl rfl (Lk.load1 (v := (.slice p0_0.a p0_0.l p0_0.c)) rfl Tryd.underlying22 rfl rfl (H.rd_loc ok (i := 2) rfl rfl)) fun _ => ?_
    refine R.look rfl rfl rfl (Lk.len rfl Tryd.underlying22 rfl) fun _ => ?_
    refine R.look rfl rfl rfl (Lk.arith rfl rfl rfl rfl) fun _ => ?_
    refine R.nil ?_
    by_cases e37 : (decide (v4 < (p0_0.l : Int))) = true
    · rw [if_pos e37] at hS
      refine EvC.condT rfl e37 ?_
      refine EvC.skip ?_
      refine EvC.join (σ := Sl × Sl × Sl × Sl) (fun s => (Env.put (Env.put (Env.put (Env.put Env.emp 4 (.int .i64 v4)) 3 (.pointer (some ⟨b3, 0, none⟩))) 2 (.pointer (some ⟨b2, 0, none⟩))) 1 (.pointer (some ⟨b1, 0, none⟩)))) (fun s => [(b3, .row ⟨[(.slice s.1.a s.1.l s.1.c), (.slice s.2.1.a s.2.1.l s.2.1.c), (.slice s.2.2.1.a s.2.2.1.l s.2.2.1.c), (.slice s.2.2.2.a s.2.2.2.l s.2.2.2.c)], 4, 43, true, true⟩), (b2, .row ⟨[(.slice none 0 0), (.slice none 0 0), (.slice none 0 0), (.slice none 0 0)], 4, 43, true, true⟩), (b1, .row ⟨[(.slice p0_0.a p0_0.l p0_0.c), (.slice p0_1.a p0_1.l p0_1.c)], 2, 29, true, true⟩)]) (fun s h_17 => S15_j7 v4 X_2 s.1 s.2.1 s.2.2.1 s.2.2.2 h_17) ?_ (fun Ih_17 hIh_17 => ?_)
      · rintro ⟨c3_0_7, c3_1_7, c3_2_7, c3_3_7⟩ h_17 ok hS
        replace hS : S15_j7 v4 X_2 c3_0_7 c3_1_7 c3_2_7 c3_3_7 h_17 := hS
        change EvC _ _ _ (Env.put (Env.put (Env.put (Env.put Env.emp 4 (.int .i64 v4)) 3 (.pointer (some ⟨b3, 0, none⟩))) 2 (.pointer (some ⟨b2, 0, none⟩))) 1 (.pointer (some ⟨b1, 0, none⟩))) (H.add h_17 [(b3, .row ⟨[(.slice c3_0_7.a c3_0_7.l c3_0_7.c), (.slice c3_1_7.a c3_1_7.l c3_1_7.c), (.slice c3_2_7.a c3_2_7.l c3_2_7.c), (.slice c3_3_7.a c3_3_7.l c3_3_7.c)], 4, 43, true, true⟩), (b2, .row ⟨[(.slice none 0 0), (.slice none 0 0), (.slice none 0 0), (.slice none 0 0)], 4, 43, true, true⟩), (b1, .row ⟨[(.slice p0_0.a p0_0.l p0_0.c), (.slice p0_1.a p0_1.l p0_1.c)], 2, 29, true, true⟩)]) _
        unfold S15_j7 at hS
        refine EvC.region [Item.look 0, Item.look 1, Item.look 2] (by kernel_rfl) ?_
        refine R.look rfl rfl rfl (Lk.move rfl rfl) fun _ => ?_
        refine R.look rfl rfl rfl (Lk.arith rfl rfl rfl rfl) fun _ => ?_
        refine R.look rfl rfl rfl (Lk.assign rfl rfl) fun _ => ?_
        refine R.nil ?_
        exact hX_2 ((IntKind.wrap .i64 (v4 + 1)), c3_0_7, c3_1_7, c3_2_7, c3_3_7) _ _ _ hS (ok.sub (.cons_cons _ (.cons_cons _ (.cons_cons _ List.Sublist.slnil)))) (Env.le_put rfl (Env.le_put rfl (Env.le_put rfl (Env.le_put rfl (Env.le_emp _))))) (H.add_sub ok (.cons_cons _ (.cons_cons _ (.cons_cons _ List.Sublist.slnil))))
      · refine EvC.block ?_
        refine EvC.seq ?_
        refine EvC.region [Item.look 0, Item.look 1, Item.look 2, Item.look 3] (by kernel_rfl) ?_
        refine R.look (v := (.pointer (some ⟨b3, 0, none⟩))) rfl rfl rfl (Lk.fldAddr rfl Tryd.underlying43 rfl rfl T31 rfl rfl rfl) fun _ => ?_
        refine R.look rfl rfl rfl (Lk.load1 (v := (.slice c3_0_6.a c3_0_6.l c3_0_6.c)) rfl Tryd.underlying31 rfl rfl (H.rd_loc ok (i := 0) rfl rfl)) fun _ => ?_
        refine R.look rfl rfl rfl (Lk.len rfl Tryd.underlying31 rfl) fun _ => ?_
        refine R.look rfl rfl rfl (Lk.assign rfl rfl) fun _ => ?_
        refine R.nil ?_
        refine EvC.seq ?_
        refine EvC.region [Item.look 0, Item.look 1, Item.look 2, Item.alc 3, Item.eff 4 [], Item.look 5, Item.eff 6 []] (by kernel_rfl) ?_
        refine R.look (v := (.pointer (some ⟨b3, 1, none⟩))) rfl rfl rfl (Lk.fldAddr rfl Tryd.underlying43 rfl rfl T32 rfl rfl rfl) fun _ => ?_
        refine R.look rfl rfl rfl (Lk.load1 (v := (.slice c3_1_6.a c3_1_6.l c3_1_6.c)) rfl Tryd.underlying32 rfl rfl (H.rd_loc ok (i := 0) rfl rfl)) fun _ => ?_
        refine R.look rfl rfl rfl (Lk.move rfl rfl) fun _ => ?_
        refine R.appL (cs := [(.int .i64 (c3_0_6.l : Int))]) ok rfl rfl rfl rfl rfl rfl rfl rfl Tryd.underlying32 T3 rfl (by decide) (by decide) rfl rfl rfl rfl rfl (fun _ => rfl) hS ?_
        intro bb35 v36 h_18 hS ok
        refine ⟨noChk, ?_⟩
        refine R.look (v := (.pointer (some ⟨b3, 1, none⟩))) rfl rfl rfl (Lk.fldAddr rfl Tryd.underlying43 rfl rfl T32 rfl rfl rfl) fun _ => ?_
        refine R.effN rfl rfl rfl (Ef.storeLoc (i := 0) (vs := [(.slice v36.a v36.l v36.c)]) (cs := [(.slice c3_0_6.a c3_0_6.l c3_0_6.c), (.slice v36.a v36.l v36.c), (.slice c3_2_6.a c3_2_6.l c3_2_6.c), (.slice c3_3_6.a c3_3_6.l c3_3_6.c)]) (l' := [(b3, .row ⟨[(.slice c3_0_6.a c3_0_6.l c3_0_6.c), (.slice v36.a v36.l v36.c), (.slice c3_2_6.a c3_2_6.l c3_2_6.c), (.slice c3_3_6.a c3_3_6.l c3_3_6.c)], 4, 43, true, true⟩), (b2, .row ⟨[(.slice none 0 0), (.slice none 0 0), (.slice none 0 0), (.slice none 0 0)], 4, 43, true, true⟩), (b1, .row ⟨[(.slice p0_0.a p0_0.l p0_0.c), (.slice p0_1.a p0_1.l p0_1.c)], 2, 29, true, true⟩)]) ok rfl T32 rfl rfl rfl rfl rfl rfl rfl rfl rfl rfl fun ok => ⟨noChk, ?_⟩)
        refine R.nil ?_
        refine EvC.seq ?_
        refine EvC.seq ?_
        refine EvC.region [Item.look 0, Item.look 1, Item.look 2, Item.look 3, Item.look 4] (by kernel_rfl) ?_
        refine R.look (v := (.pointer (some ⟨b1, 0, none⟩))) rfl rfl rfl (Lk.fldAddr rfl Tryd.underlying29 rfl rfl T22 rfl rfl rfl) fun _ => ?_
        refine R.look rfl rfl rfl (Lk.load1 (v := (.slice p0_0.a p0_0.l p0_0.c)) rfl Tryd.underlying22 rfl rfl (H.rd_loc ok (i := 2) rfl rfl)) fun _ => ?_
        refine R.look rfl rfl rfl (Lk.move rfl rfl) fun _ => ?_
        obtain ⟨a41, e38, e39, e40, hS⟩ := hS
        refine R.look rfl rfl rfl (Lk.ixAddr rfl Tryd.underlying22 T4 rfl e38 rfl e39 e40) fun _ => ?_
        obtain ⟨v42, e41, hS⟩ := hS
        refine R.look rfl rfl rfl (Look.loc ok (Lk.load1 rfl Tryd.underlying4 rfl rfl e41)) fun _ => ?_
        refine R.nil ?_
        by_cases e42 : v42 = true
        · rw [if_pos e42] at hS
          refine EvC.condT rfl e42 ?_
          refine EvC.seq ?_
          refine EvC.region [Item.look 0, Item.look 1, Item.look 2, Item.eff 3 [], Item.eff 4 []] (by kernel_rfl) ?_
          refine R.look rfl rfl rfl (Lk.loadN (vs := [(.slice c3_0_6.a c3_0_6.l c3_0_6.c), (.slice v36.a v36.l v36.c), (.slice c3_2_6.a c3_2_6.l c3_2_6.c), (.slice c3_3_6.a c3_3_6.l c3_3_6.c)]) rfl Tryd.underlying43 rfl T43 rfl (H.rdn_loc ok (i := 0) rfl rfl rfl)) fun _ => ?_
          refine R.look rfl rfl rfl (Lk.loadN (vs := [(.slice p0_0.a p0_0.l p0_0.c), (.slice p0_1.a p0_1.l p0_1.c)]) rfl Tryd.underlying29 rfl T29 rfl (H.rdn_loc ok (i := 2) rfl rfl rfl)) fun _ => ?_
          refine R.look rfl rfl rfl (Lk.move rfl rfl) fun _ => ?_
          refine R.eff rfl rfl rfl (Eff.loc ok (Ef.call rfl CB50 rfl ((f50_ok hS).mono ?_)))
          rintro _ h_19 ⟨v46_0, v46_1, v46_2, v46_3, rfl, hS⟩
          refine fun ok => ⟨noChk, ?_⟩
          refine R.effN rfl rfl rfl (Ef.storeLoc (i := 0) (vs := [(.slice v46_0.a v46_0.l v46_0.c), (.slice v46_1.a v46_1.l v46_1.c), (.slice v46_2.a v46_2.l v46_2.c), (.slice v46_3.a v46_3.l v46_3.c)]) (cs := [(.slice v46_0.a v46_0.l v46_0.c), (.slice v46_1.a v46_1.l v46_1.c), (.slice v46_2.a v46_2.l v46_2.c), (.slice v46_3.a v46_3.l v46_3.c)]) (l' := [(b3, .row ⟨[(.slice v46_0.a v46_0.l v46_0.c), (.slice v46_1.a v46_1.l v46_1.c), (.slice v46_2.a v46_2.l v46_2.c), (.slice v46_3.a v46_3.l v46_3.c)], 4, 43, true, true⟩), (b2, .row ⟨[(.slice none 0 0), (.slice none 0 0), (.slice none 0 0), (.slice none 0 0)], 4, 43, true, true⟩), (b1, .row ⟨[(.slice p0_0.a p0_0.l p0_0.c), (.slice p0_1.a p0_1.l p0_1.c)], 2, 29, true, true⟩)]) ok rfl T43 rfl rfl rfl rfl rfl rfl rfl rfl rfl rfl fun ok => ⟨noChk, ?_⟩)
          refine R.nil ?_
          refine EvC.exit ?_
          exact hIh_17 (v46_0, v46_1, v46_2, v46_3) _ _ _ (Env.le_put rfl (Env.le_put rfl (Env.le_put rfl (Env.le_put rfl (Env.le_emp _))))) (ok.sub (.cons_cons _ (.cons_cons _ (.cons_cons _ List.Sublist.slnil)))) (H.add_sub ok (.cons_cons _ (.cons_cons _ (.cons_cons _ List.Sublist.slnil)))) hS
        · rw [if_neg e42] at hS
          replace e42 := eq_false_of_ne_true e42
          refine EvC.condF rfl e42 ?_
          refine EvC.skip ?_
          refine EvC.seq ?_
          refine EvC.region [Item.eff 0 [], Item.look 1] (by kernel_rfl) ?_
          refine R.eff rfl rfl rfl (Eff.loc ok (Ef.call rfl CB51 rfl ((f51_ok hS).mono ?_)))
          rintro _ h_20 ⟨v47, rfl, hS⟩
          refine fun ok => ⟨noChk, ?_⟩
          refine R.look rfl rfl rfl (Lk.assign rfl rfl) fun _ => ?_
          refine R.nil ?_
          refine EvC.seq ?_
          refine EvC.region [Item.look 0, Item.look 1, Item.look 2, Item.eff 3 [], Item.look 4, Item.eff 5 []] (by kernel_rfl) ?_
          refine R.look (v := (.pointer (some ⟨b3, 0, none⟩))) rfl rfl rfl (Lk.fldAddr rfl Tryd.underlying43 rfl rfl T31 rfl rfl rfl) fun _ => ?_
          refine R.look rfl rfl rfl (Lk.load1 (v := (.slice c3_0_6.a c3_0_6.l c3_0_6.c)) rfl Tryd.underlying31 rfl rfl (H.rd_loc ok (i := 0) rfl rfl)) fun _ => ?_
          refine R.look rfl rfl rfl (Lk.move rfl rfl) fun _ => ?_
          obtain ⟨e59, hS⟩ := hS
          refine R.appS ok rfl rfl rfl rfl Tryd.underlying31 T51 rfl rfl rfl rfl e59 hS ?_
          intro v51 h_21 hS ok
          refine ⟨noChk, ?_⟩
          refine R.look (v := (.pointer (some ⟨b3, 0, none⟩))) rfl rfl rfl (Lk.fldAddr rfl Tryd.underlying43 rfl rfl T31 rfl rfl rfl) fun _ => ?_
          refine R.effN rfl rfl rfl (Ef.storeLoc (i := 0) (vs := [(.slice v51.a v51.l v51.c)]) (cs := [(.slice v51.a v51.l v51.c), (.slice v36.a v36.l v36.c), (.slice c3_2_6.a c3_2_6.l c3_2_6.c), (.slice c3_3_6.a c3_3_6.l c3_3_6.c)]) (l' := [(b3, .row ⟨[(.slice v51.a v51.l v51.c), (.slice v36.a v36.l v36.c), (.slice c3_2_6.a c3_2_6.l c3_2_6.c), (.slice c3_3_6.a c3_3_6.l c3_3_6.c)], 4, 43, true, true⟩), (b2, .row ⟨[(.slice none 0 0), (.slice none 0 0), (.slice none 0 0), (.slice none 0 0)], 4, 43, true, true⟩), (b1, .row ⟨[(.slice p0_0.a p0_0.l p0_0.c), (.slice p0_1.a p0_1.l p0_1.c)], 2, 29, true, true⟩)]) ok rfl T31 rfl rfl rfl rfl rfl rfl rfl rfl rfl rfl fun ok => ⟨noChk, ?_⟩)
          refine R.nil ?_
          refine EvC.seq ?_
          refine EvC.region [Item.look 0] (by kernel_rfl) ?_
          refine R.look rfl rfl rfl (Lk.assign rfl rfl) fun _ => ?_
          refine R.nil ?_
          refine EvC.block ?_
          refine EvC.loop ?_
          refine LoopC.lfp (σ := Int) (fun s => (Env.put (Env.put (Env.put (Env.put (Env.put (Env.put Env.emp 7 (.int .i64 s)) 5 (.int .i64 (c3_0_6.l : Int))) 4 (.int .i64 v4)) 3 (.pointer (some ⟨b3, 0, none⟩))) 2 (.pointer (some ⟨b2, 0, none⟩))) 1 (.pointer (some ⟨b1, 0, none⟩)))) (fun s => [(b3, .row ⟨[(.slice v51.a v51.l v51.c), (.slice v36.a v36.l v36.c), (.slice c3_2_6.a c3_2_6.l c3_2_6.c), (.slice c3_3_6.a c3_3_6.l c3_3_6.c)], 4, 43, true, true⟩), (b2, .row ⟨[(.slice none 0 0), (.slice none 0 0), (.slice none 0 0), (.slice none 0 0)], 4, 43, true, true⟩), (b1, .row ⟨[(.slice p0_0.a p0_0.l p0_0.c), (.slice p0_1.a p0_1.l p0_1.c)], 2, 29, true, true⟩)]) (fun X_3 hX_3 => ?_) hS (ok.sub (.cons_cons _ (.cons_cons _ (.cons_cons _ List.Sublist.slnil)))) (Env.le_put rfl (Env.le_put rfl (Env.le_put rfl (Env.le_put rfl (Env.le_put rfl (Env.le_put rfl (Env.le_emp _))))))) (H.add_sub ok (.cons_cons _ (.cons_cons _ (.cons_cons _ List.Sublist.slnil))))
          intro v7 h_22 hS ok
          replace hS : S15_l10 p0_0 p0_1 v4 c3_0_6 c3_2_6 c3_3_6 X_2 v36 v51 X_3 v7 h_22 := hS
          change EvC _ _ _ (Env.put (Env.put (Env.put (Env.put (Env.put (Env.put Env.emp 7 (.int .i64 v7)) 5 (.int .i64 (c3_0_6.l : Int))) 4 (.int .i64 v4)) 3 (.pointer (some ⟨b3, 0, none⟩))) 2 (.pointer (some ⟨b2, 0, none⟩))) 1 (.pointer (some ⟨b1, 0, none⟩))) (H.add h_22 [(b3, .row ⟨[(.slice v51.a v51.l v51.c), (.slice v36.a v36.l v36.c), (.slice c3_2_6.a c3_2_6.l c3_2_6.c), (.slice c3_3_6.a c3_3_6.l c3_3_6.c)], 4, 43, true, true⟩), (b2, .row ⟨[(.slice none 0 0), (.slice none 0 0), (.slice none 0 0), (.slice none 0 0)], 4, 43, true, true⟩), (b1, .row ⟨[(.slice p0_0.a p0_0.l p0_0.c), (.slice p0_1.a p0_1.l p0_1.c)], 2, 29, true, true⟩)]) _
          unfold S15_l10 at hS
          refine EvC.seq ?_
          refine EvC.seq ?_
          refine EvC.region [Item.look 0, Item.look 1] (by kernel_rfl) ?_
          refine R.look rfl rfl rfl (Lk.move rfl rfl) fun _ => ?_
          refine R.look rfl rfl rfl (Lk.arith rfl rfl rfl rfl) fun _ => ?_
          refine R.nil ?_
          by_cases e43 : (decide (v7 < 4)) = true
          · rw [if_pos e43] at hS
            refine EvC.condT rfl e43 ?_
            refine EvC.skip ?_
            refine EvC.join (σ := Unit) (fun s => (Env.put (Env.put (Env.put (Env.put (Env.put (Env.put Env.emp 7 (.int .i64 v7)) 5 (.int .i64 (c3_0_6.l : Int))) 4 (.int .i64 v4)) 3 (.pointer (some ⟨b3, 0, none⟩))) 2 (.pointer (some ⟨b2, 0, none⟩))) 1 (.pointer (some ⟨b1, 0, none⟩)))) (fun s => [(b3, .row ⟨[(.slice v51.a v51.l v51.c), (.slice v36.a v36.l v36.c), (.slice c3_2_6.a c3_2_6.l c3_2_6.c), (.slice c3_3_6.a c3_3_6.l c3_3_6.c)], 4, 43, true, true⟩), (b2, .row ⟨[(.slice none 0 0), (.slice none 0 0), (.slice none 0 0), (.slice none 0 0)], 4, 43, true, true⟩), (b1, .row ⟨[(.slice p0_0.a p0_0.l p0_0.c), (.slice p0_1.a p0_1.l p0_1.c)], 2, 29, true, true⟩)]) (fun s h_23 => S15_j8 v7 X_3 h_23) ?_ (fun Ih_23 hIh_23 => ?_)
            · rintro ⟨⟩ h_23 ok hS
              replace hS : S15_j8 v7 X_3 h_23 := hS
              change EvC _ _ _ (Env.put (Env.put (Env.put (Env.put (Env.put (Env.put Env.emp 7 (.int .i64 v7)) 5 (.int .i64 (c3_0_6.l : Int))) 4 (.int .i64 v4)) 3 (.pointer (some ⟨b3, 0, none⟩))) 2 (.pointer (some ⟨b2, 0, none⟩))) 1 (.pointer (some ⟨b1, 0, none⟩))) (H.add h_23 [(b3, .row ⟨[(.slice v51.a v51.l v51.c), (.slice v36.a v36.l v36.c), (.slice c3_2_6.a c3_2_6.l c3_2_6.c), (.slice c3_3_6.a c3_3_6.l c3_3_6.c)], 4, 43, true, true⟩), (b2, .row ⟨[(.slice none 0 0), (.slice none 0 0), (.slice none 0 0), (.slice none 0 0)], 4, 43, true, true⟩), (b1, .row ⟨[(.slice p0_0.a p0_0.l p0_0.c), (.slice p0_1.a p0_1.l p0_1.c)], 2, 29, true, true⟩)]) _
              unfold S15_j8 at hS
              refine EvC.region [Item.look 0, Item.look 1, Item.look 2] (by kernel_rfl) ?_
              refine R.look rfl rfl rfl (Lk.move rfl rfl) fun _ => ?_
              refine R.look rfl rfl rfl (Lk.arith rfl rfl rfl rfl) fun _ => ?_
              refine R.look rfl rfl rfl (Lk.assign rfl rfl) fun _ => ?_
              refine R.nil ?_
              exact hX_3 (IntKind.wrap .i64 (v7 + 1)) _ _ _ hS (ok.sub (.cons_cons _ (.cons_cons _ (.cons_cons _ List.Sublist.slnil)))) (Env.le_put rfl (Env.le_put rfl (Env.le_put rfl (Env.le_put rfl (Env.le_put rfl (Env.le_put rfl (Env.le_emp _))))))) (H.add_sub ok (.cons_cons _ (.cons_cons _ (.cons_cons _ List.Sublist.slnil))))
            · refine EvC.block ?_
              refine EvC.seq ?_
              refine EvC.region [Item.look 0, Item.look 1, Item.look 2, Item.eff 3 [], Item.look 4] (by kernel_rfl) ?_
              refine R.look rfl rfl rfl (Lk.loadN (vs := [(.slice p0_0.a p0_0.l p0_0.c), (.slice p0_1.a p0_1.l p0_1.c)]) rfl Tryd.underlying29 rfl T29 rfl (H.rdn_loc ok (i := 2) rfl rfl rfl)) fun _ => ?_
              refine R.look rfl rfl rfl (Lk.move rfl rfl) fun _ => ?_
              refine R.look rfl rfl rfl (Lk.move rfl rfl) fun _ => ?_
              refine R.eff rfl rfl rfl (Eff.loc ok (Ef.call rfl CB49 rfl ((f49_ok hS).mono ?_)))
              rintro _ h_24 ⟨v60, rfl, hS⟩
              refine fun ok => ⟨noChk, ?_⟩
              refine R.look rfl rfl rfl (Lk.assign rfl rfl) fun _ => ?_
              refine R.nil ?_
              refine EvC.seq ?_
              refine EvC.region [Item.look 0] (by kernel_rfl) ?_
              refine R.look rfl rfl rfl (Lk.assign rfl rfl) fun _ => ?_
              refine R.nil ?_
              refine EvC.block ?_
              refine EvC.loop ?_
              refine LoopC.lfp (σ := Int) (fun s => (Env.put (Env.put (Env.put (Env.put (Env.put (Env.put (Env.put (Env.put Env.emp 9 (.int .i64 s)) 8 (.slice v60.a v60.l v60.c)) 7 (.int .i64 v7)) 5 (.int .i64 (c3_0_6.l : Int))) 4 (.int .i64 v4)) 3 (.pointer (some ⟨b3, 0, none⟩))) 2 (.pointer (some ⟨b2, 0, none⟩))) 1 (.pointer (some ⟨b1, 0, none⟩)))) (fun s => [(b3, .row ⟨[(.slice v51.a v51.l v51.c), (.slice v36.a v36.l v36.c), (.slice c3_2_6.a c3_2_6.l c3_2_6.c), (.slice c3_3_6.a c3_3_6.l c3_3_6.c)], 4, 43, true, true⟩), (b2, .row ⟨[(.slice none 0 0), (.slice none 0 0), (.slice none 0 0), (.slice none 0 0)], 4, 43, true, true⟩), (b1, .row ⟨[(.slice p0_0.a p0_0.l p0_0.c), (.slice p0_1.a p0_1.l p0_1.c)], 2, 29, true, true⟩)]) (fun X_4 hX_4 => ?_) hS (ok.sub (.cons_cons _ (.cons_cons _ (.cons_cons _ List.Sublist.slnil)))) (Env.le_put rfl (Env.le_put rfl (Env.le_put rfl (Env.le_put rfl (Env.le_put rfl (Env.le_put rfl (Env.le_put rfl (Env.le_put rfl (Env.le_emp _))))))))) (H.add_sub ok (.cons_cons _ (.cons_cons _ (.cons_cons _ List.Sublist.slnil))))
              intro v9 h_25 hS ok
              replace hS : S15_l9 c3_0_6 c3_2_6 v7 X_3 v60 X_4 v9 h_25 := hS
              change EvC _ _ _ (Env.put (Env.put (Env.put (Env.put (Env.put (Env.put (Env.put (Env.put Env.emp 9 (.int .i64 v9)) 8 (.slice v60.a v60.l v60.c)) 7 (.int .i64 v7)) 5 (.int .i64 (c3_0_6.l : Int))) 4 (.int .i64 v4)) 3 (.pointer (some ⟨b3, 0, none⟩))) 2 (.pointer (some ⟨b2, 0, none⟩))) 1 (.pointer (some ⟨b1, 0, none⟩))) (H.add h_25 [(b3, .row ⟨[(.slice v51.a v51.l v51.c), (.slice v36.a v36.l v36.c), (.slice c3_2_6.a c3_2_6.l c3_2_6.c), (.slice c3_3_6.a c3_3_6.l c3_3_6.c)], 4, 43, true, true⟩), (b2, .row ⟨[(.slice none 0 0), (.slice none 0 0), (.slice none 0 0), (.slice none 0 0)], 4, 43, true, true⟩), (b1, .row ⟨[(.slice p0_0.a p0_0.l p0_0.c), (.slice p0_1.a p0_1.l p0_1.c)], 2, 29, true, true⟩)]) _
              unfold S15_l9 at hS
              refine EvC.seq ?_
              refine EvC.seq ?_
              refine EvC.region [Item.look 0, Item.look 1, Item.look 2, Item.look 3] (by kernel_rfl) ?_
              refine R.look rfl rfl rfl (Lk.move rfl rfl) fun _ => ?_
              refine R.look rfl rfl rfl (Lk.move rfl rfl) fun _ => ?_
              refine R.look rfl rfl rfl (Lk.len rfl Tryd.underlying32 rfl) fun _ => ?_
              refine R.look rfl rfl rfl (Lk.arith rfl rfl rfl rfl) fun _ => ?_
              refine R.nil ?_
              by_cases e44 : (decide (v9 < (v60.l : Int))) = true
              · rw [if_pos e44] at hS
                refine EvC.condT rfl e44 ?_
                refine EvC.skip ?_
                refine EvC.seq ?_
                refine EvC.block ?_
                refine EvC.draw [0, 1, 0, 0, 12, 28, 60, 0, 0, 384, 896, 1920, 0, 127, 16383, 32767] [Item.look 0, Item.look 1, Item.look 2, Item.look 3, Item.look 4, Item.look 5, Item.look 6, Item.look 7, Item.look 8, Item.look 9, Item.look 10, Item.look 11, Item.look 12, Item.look 13, Item.look 14, Item.eff 15 []] MO (by kernel_rfl) ?_
                refine R.look (v := (.pointer (some ⟨b3, 2, none⟩))) rfl rfl rfl (Lk.fldAddr rfl Tryd.underlying43 rfl rfl T41 rfl rfl rfl) fun _ => ?_
                refine R.look rfl rfl rfl (Lk.load1 (v := (.slice c3_2_6.a c3_2_6.l c3_2_6.c)) rfl Tryd.underlying41 rfl rfl (H.rd_loc ok (i := 0) rfl rfl)) fun _ => ?_
                refine R.look rfl rfl rfl (Lk.move rfl rfl) fun _ => ?_
                refine R.look rfl rfl rfl (Lk.move rfl rfl) fun _ => ?_
                obtain ⟨a71, e45, e46, e47, hS⟩ := hS
                refine R.look rfl rfl rfl (Lk.ixAddr rfl Tryd.underlying32 T3 rfl e45 rfl e46 e47) fun _ => ?_
                obtain ⟨v72, e48, hS⟩ := hS
                refine R.look rfl rfl rfl (Look.loc ok (Lk.load1 rfl Tryd.underlying3 rfl rfl e48)) fun _ => ?_
                refine R.look rfl rfl rfl (Lk.quo (j := 2) rfl rfl rfl (by decide)) fun _ => ?_
                refine R.look rfl rfl rfl (Lk.move rfl rfl) fun _ => ?_
                refine R.look rfl rfl rfl (Lk.move rfl rfl) fun _ => ?_
                obtain ⟨a76, e49, e50, e51, hS⟩ := hS
                refine R.look rfl rfl rfl (Lk.ixAddr rfl Tryd.underlying32 T3 rfl e49 rfl e50 e51) fun _ => ?_
                obtain ⟨v77, e52, hS⟩ := hS
                refine R.look rfl rfl rfl (Look.loc ok (Lk.load1 rfl Tryd.underlying3 rfl rfl e52)) fun _ => ?_
                refine R.look rfl rfl rfl (Lk.rem (j := 2) rfl rfl rfl (by decide)) fun _ => ?_
                refine R.look rfl rfl rfl (Lk.move rfl rfl) fun _ => ?_
                obtain ⟨a80, e53, e54, e55, hS⟩ := hS
                refine R.look rfl rfl rfl (Lk.ixAddr rfl Tryd.underlying41 T116 rfl e53 rfl e54 e55) fun _ => ?_
                obtain ⟨e56, e57, hS⟩ := hS
                refine R.look rfl rfl rfl (Lk.indexAddrA rfl Tryd.underlying116 T3 rfl rfl e56 e57) fun _ => ?_
                obtain ⟨h_26, e58, hS⟩ := hS
                refine R.effN rfl rfl rfl (Eff.loc ok (Ef.store rfl T3 rfl rfl rfl rfl rfl e58 fun ok => ⟨noChk, ?_⟩))
                refine R.nil ?_
                refine EvC.region [Item.look 0, Item.look 1, Item.look 2] (by kernel_rfl) ?_
                refine R.look rfl rfl rfl (Lk.move rfl rfl) fun _ => ?_
                refine R.look rfl rfl rfl (Lk.arith rfl rfl rfl rfl) fun _ => ?_
                refine R.look rfl rfl rfl (Lk.assign rfl rfl) fun _ => ?_
                refine R.nil ?_
                exact hX_4 (IntKind.wrap .i64 (v9 + 1)) _ _ _ hS (ok.sub (.cons_cons _ (.cons_cons _ (.cons_cons _ List.Sublist.slnil)))) (Env.le_put rfl (Env.le_put rfl (Env.le_put rfl (Env.le_put rfl (Env.le_put rfl (Env.le_put rfl (Env.le_put rfl (Env.le_put rfl (Env.le_emp _))))))))) (H.add_sub ok (.cons_cons _ (.cons_cons _ (.cons_cons _ List.Sublist.slnil))))
              · rw [if_neg e44] at hS
                replace e44 := eq_false_of_ne_true e44
                refine EvC.condF rfl e44 ?_
                refine EvC.exit ?_
                exact hIh_23 () _ _ _ (Env.le_put rfl (Env.le_put rfl (Env.le_put rfl (Env.le_put rfl (Env.le_put rfl (Env.le_put rfl (Env.le_emp _))))))) (ok.sub (.cons_cons _ (.cons_cons _ (.cons_cons _ List.Sublist.slnil)))) (H.add_sub ok (.cons_cons _ (.cons_cons _ (.cons_cons _ List.Sublist.slnil)))) hS
          · rw [if_neg e43] at hS
            replace e43 := eq_false_of_ne_true e43
            refine EvC.condF rfl e43 ?_
            refine EvC.exit ?_
            exact hIh_17 (v51, v36, c3_2_6, c3_3_6) _ _ _ (Env.le_put rfl (Env.le_put rfl (Env.le_put rfl (Env.le_put rfl (Env.le_emp _))))) (ok.sub (.cons_cons _ (.cons_cons _ (.cons_cons _ List.Sublist.slnil)))) (H.add_sub ok (.cons_cons _ (.cons_cons _ (.cons_cons _ List.Sublist.slnil)))) hS
    · rw [if_neg e37] at hS
      replace e37 := eq_false_of_ne_true e37
      refine EvC.condF rfl e37 ?_
      refine EvC.exit ?_
      exact hIh_2 (c3_0_6, c3_1_6, c3_2_6, c3_3_6) _ _ _ (Env.le_put rfl (Env.le_put rfl (Env.le_put rfl (Env.le_emp _)))) (ok.sub (.cons_cons _ (.cons_cons _ (.cons_cons _ List.Sublist.slnil)))) (H.add_sub ok (.cons_cons _ (.cons_cons _ (.cons_cons _ List.Sublist.slnil)))) hS
end Go.Proofs.YtimadnngfhbfiaaDoor
end

section
/- PRINTED by wip/gen.py: the machine's call of muntin/muntinref10.Same does what S16 says. -/
namespace Go.Proofs.YtimadnngfhbfiaaDoor
open Go Go.Mu
set_option maxHeartbeats 4000000
set_option maxRecDepth 100000
theorem f16_ok {p0 : Sl} {p1 : Sl} {h : H} {K : Bool → H → Prop} (hS : S16 p0 p1 h K) : ACall Tryd.prog 16 ([(.slice p0.a p0.l p0.c), (.slice p1.a p1.l p1.c)] : List Value).toArray h (fun r h' => ∃ r0 : Bool, r = tup [(.bool r0)] ∧ K r0 h') := by
  refine ACall.enter (fn := Tryd.f16) Tryd.func16 rfl (Nat.le_of_ble_eq_true rfl) ?_
  unfold S16 at hS
  have ok := Lok.nil h
  change EvC _ _ _ _ (H.add h []) _
  refine EvC.seq ?_
  refine EvC.region [Item.look 0] (by kernel_rfl) ?_
  refine R.look rfl rfl rfl (Lk.assign rfl rfl) fun _ => ?_
  refine R.nil ?_
  refine EvC.seq ?_
  refine EvC.seq ?_
  refine EvC.region [Item.look 0, Item.look 1, Item.look 2, Item.look 3, Item.look 4] (by kernel_rfl) ?_
  refine R.look rfl rfl rfl (Lk.move rfl rfl) fun _ => ?_
  refine R.look rfl rfl rfl (Lk.len rfl Tryd.underlying31 rfl) fun _ => ?_
  refine R.look rfl rfl rfl (Lk.move rfl rfl) fun _ => ?_
  refine R.look rfl rfl rfl (Lk.len rfl Tryd.underlying31 rfl) fun _ => ?_
  refine R.look rfl rfl rfl (Lk.arith rfl rfl rfl rfl) fun _ => ?_
  refine R.nil ?_
  by_cases e1 : ((p0.l : Int) != (p1.l : Int)) = true
  · rw [if_pos e1] at hS
    refine EvC.condT rfl e1 ?_
    refine EvC.seq ?_
    refine EvC.region [Item.look 0] (by kernel_rfl) ?_
    refine R.look rfl rfl rfl (Lk.assign rfl rfl) fun _ => ?_
    refine R.nil ?_
    refine EvC.ret ?_
    exact ⟨.inr rfl, _, _, (.cons (.tmp rfl) .nil), ok.le, _, rfl, hS⟩
  · rw [if_neg e1] at hS
    replace e1 := eq_false_of_ne_true e1
    refine EvC.condF rfl e1 ?_
    refine EvC.skip ?_
    refine EvC.join (σ := Unit) (fun s => Env.emp) (fun s => []) (fun s h_1 => S16_j1 K h_1) ?_ (fun Ih_1 hIh_1 => ?_)
    · rintro ⟨⟩ h_1 ok hS
      replace hS : S16_j1 K h_1 := hS
      change EvC _ _ _ Env.emp (H.add h_1 []) _
      unfold S16_j1 at hS
      refine EvC.seq ?_
      refine EvC.region [Item.look 0] (by kernel_rfl) ?_
      refine R.look rfl rfl rfl (Lk.assign rfl rfl) fun _ => ?_
      refine R.nil ?_
      refine EvC.ret ?_
      exact ⟨.inr rfl, _, _, (.cons (.tmp rfl) .nil), ok.le, _, rfl, hS⟩
    · refine EvC.seq ?_
      refine EvC.region [Item.look 0] (by kernel_rfl) ?_
      refine R.look rfl rfl rfl (Lk.assign rfl rfl) fun _ => ?_
      refine R.nil ?_
      refine EvC.block ?_
      refine EvC.loop ?_
      refine LoopC.lfp (σ := Int) (fun s => (Env.put (Env.put (Env.put Env.emp 5 (.int .i64 s)) 1 (.slice p1.a p1.l p1.c)) 0 (.slice p0.a p0.l p0.c))) (fun s => []) (fun X hX => ?_) hS (ok.sub List.Sublist.slnil) (Env.le_put rfl (Env.le_put rfl (Env.le_put rfl (Env.le_emp _)))) (H.add_sub ok List.Sublist.slnil)
      intro v5 h_2 hS ok
      replace hS : S16_l2 p0 p1 K X v5 h_2 := hS
      change EvC _ _ _ (Env.put (Env.put (Env.put Env.emp 5 (.int .i64 v5)) 1 (.slice p1.a p1.l p1.c)) 0 (.slice p0.a p0.l p0.c)) (H.add h_2 []) _
      unfold S16_l2 at hS
      refine EvC.seq ?_
      refine EvC.seq ?_
      refine EvC.region [Item.look 0, Item.look 1, Item.look 2, Item.look 3] (by kernel_rfl) ?_
      refine R.look rfl rfl rfl (Lk.move rfl rfl) fun _ => ?_
      refine R.look rfl rfl rfl (Lk.move rfl rfl) fun _ => ?_
      refine R.look rfl rfl rfl (Lk.len rfl Tryd.underlying31 rfl) fun _ => ?_
      refine R.look rfl rfl rfl (Lk.arith rfl rfl rfl rfl) fun _ => ?_
      refine R.nil ?_
      by_cases e2 : (decide (v5 < (p0.l : Int))) = true
      · rw [if_pos e2] at hS
        refine EvC.condT rfl e2 ?_
        refine EvC.skip ?_
        refine EvC.seq ?_
        refine EvC.block ?_
        refine EvC.seq ?_
        refine EvC.draw [0, 0, 3, 7, 0, 0, 48, 112, 255] [Item.look 0, Item.look 1, Item.look 2, Item.look 3, Item.look 4, Item.look 5, Item.look 6, Item.look 7, Item.look 8] MO (by kernel_rfl) ?_
        refine R.look rfl rfl rfl (Lk.move rfl rfl) fun _ => ?_
        refine R.look rfl rfl rfl (Lk.move rfl rfl) fun _ => ?_
        obtain ⟨a19, e3, e4, e5, hS⟩ := hS
        refine R.look rfl rfl rfl (Lk.ixAddr rfl Tryd.underlying31 T51 rfl e3 rfl e4 e5) fun _ => ?_
        obtain ⟨v20_0, v20_1, v20_2, v20_3, v20_4, v20_5, v20_6, v20_7, e6, hS⟩ := hS
        refine R.look rfl rfl rfl (Look.loc ok (Lk.loadN rfl Tryd.underlying51 rfl T51 rfl e6)) fun _ => ?_
        refine R.look rfl rfl rfl (Lk.move rfl rfl) fun _ => ?_
        refine R.look rfl rfl rfl (Lk.move rfl rfl) fun _ => ?_
        obtain ⟨a23, e7, e8, e9, hS⟩ := hS
        refine R.look rfl rfl rfl (Lk.ixAddr rfl Tryd.underlying31 T51 rfl e7 rfl e8 e9) fun _ => ?_
        obtain ⟨v24_0, v24_1, v24_2, v24_3, v24_4, v24_5, v24_6, v24_7, e10, hS⟩ := hS
        refine R.look rfl rfl rfl (Look.loc ok (Lk.loadN rfl Tryd.underlying51 rfl T51 rfl e10)) fun _ => ?_
        refine R.look (v := (.bool (!((([v20_0, v20_1, v20_2, v20_3] : List Int) == ([v24_0, v24_1, v24_2, v24_3] : List Int)) && ((([v20_4, v20_5, v20_6, v20_7] : List Int) == ([v24_4, v24_5, v24_6, v24_7] : List Int)) && true))))) rfl rfl rfl (Lk.neS rfl EG51 rfl rfl (EqR.struct Tryd.underlying51 SH51 (EqF.cons (a := (.agg ([(.int .i64 v20_0), (.int .i64 v20_1), (.int .i64 v20_2), (.int .i64 v20_3)] : List Value).toArray)) (b := (.agg ([(.int .i64 v24_0), (.int .i64 v24_1), (.int .i64 v24_2), (.int .i64 v24_3)] : List Value).toArray)) (by decide) Tryd.underlying49 T49 rfl rfl (EqR.arrI (l1 := ([v20_0, v20_1, v20_2, v20_3] : List Int)) (l2 := ([v24_0, v24_1, v24_2, v24_3] : List Int)) Tryd.underlying49 Tryd.underlying3 T3 rfl rfl) (EqF.cons (a := (.agg ([(.int .i64 v20_4), (.int .i64 v20_5), (.int .i64 v20_6), (.int .i64 v20_7)] : List Value).toArray)) (b := (.agg ([(.int .i64 v24_4), (.int .i64 v24_5), (.int .i64 v24_6), (.int .i64 v24_7)] : List Value).toArray)) (by decide) Tryd.underlying49 T49 rfl rfl (EqR.arrI (l1 := ([v20_4, v20_5, v20_6, v20_7] : List Int)) (l2 := ([v24_4, v24_5, v24_6, v24_7] : List Int)) Tryd.underlying49 Tryd.underlying3 T3 rfl rfl) EqF.nil)))) fun _ => ?_
        refine R.nil ?_
        by_cases e11 : (!((([v20_0, v20_1, v20_2, v20_3] : List Int) == ([v24_0, v24_1, v24_2, v24_3] : List Int)) && ((([v20_4, v20_5, v20_6, v20_7] : List Int) == ([v24_4, v24_5, v24_6, v24_7] : List Int)) && true))) = true
        · rw [if_pos e11] at hS
          refine EvC.condT rfl e11 ?_
          refine EvC.seq ?_
          refine EvC.region [Item.look 0] (by kernel_rfl) ?_
          refine R.look rfl rfl rfl (Lk.assign rfl rfl) fun _ => ?_
          refine R.nil ?_
          refine EvC.ret ?_
          exact ⟨.inr rfl, _, _, (.cons (.tmp rfl) .nil), ok.le, _, rfl, hS⟩
        · rw [if_neg e11] at hS
          replace e11 := eq_false_of_ne_true e11
          refine EvC.condF rfl e11 ?_
          refine EvC.skip ?_
          refine EvC.region [Item.look 0, Item.look 1, Item.look 2] (by kernel_rfl) ?_
          refine R.look rfl rfl rfl (Lk.move rfl rfl) fun _ => ?_
          refine R.look rfl rfl rfl (Lk.arith rfl rfl rfl rfl) fun _ => ?_
          refine R.look rfl rfl rfl (Lk.assign rfl rfl) fun _ => ?_
          refine R.nil ?_
          exact hX (IntKind.wrap .i64 (v5 + 1)) _ _ _ hS (ok.sub List.Sublist.slnil) (Env.le_put rfl (Env.le_put rfl (Env.le_put rfl (Env.le_emp _)))) (H.add_sub ok List.Sublist.slnil)
      · rw [if_neg e2] at hS
        replace e2 := eq_false_of_ne_true e2
        refine EvC.condF rfl e2 ?_
        refine EvC.exit ?_
        exact hIh_1 () _ _ _ (Env.le_emp _) (ok.sub List.Sublist.slnil) (H.add_sub ok List.Sublist.slnil) hS
end Go.Proofs.YtimadnngfhbfiaaDoor
end

section
/- PRINTED by wip/gen.py: the machine's call of muntin/muntinlaw11.NormTells does what S3 says. -/
namespace Go.Proofs.YtimadnngfhbfiaaDoor
open Go Go.Mu
set_option maxHeartbeats 4000000
set_option maxRecDepth 100000
theorem f3_ok {p0_0 : Sl} {p0_1 : Sl} {p0_2 : Sl} {h : H} {K : Bool → H → Prop} (hS : S3 p0_0 p0_1 p0_2 h K) : ACall Tryd.prog 3 ([(.agg ([(.slice p0_0.a p0_0.l p0_0.c), (.slice p0_1.a p0_1.l p0_1.c), (.slice p0_2.a p0_2.l p0_2.c)] : List Value).toArray)] : List Value).toArray h (fun r h' => ∃ r0 : Bool, r = tup [(.bool r0)] ∧ K r0 h') := by
  refine ACall.enter (fn := Tryd.f3) Tryd.func3 rfl (Nat.le_of_ble_eq_true rfl) ?_
  unfold S3 at hS
  have ok := Lok.nil h
  change EvC _ _ _ _ (H.add h []) _
  refine EvC.seq ?_
  refine EvC.region [Item.alc 0, Item.look 1] (by kernel_rfl) ?_
  refine R.var (blk := .row ⟨[(.slice p0_0.a p0_0.l p0_0.c), (.slice p0_1.a p0_1.l p0_1.c), (.slice p0_2.a p0_2.l p0_2.c)], 3, 26, true, true⟩) ok rfl rfl rfl (Ac.box rfl rfl) rfl rfl fun b1 ok => ?_
  refine R.look rfl rfl rfl (Lk.assign rfl rfl) fun _ => ?_
  refine R.nil ?_
  refine EvC.seq ?_
  refine EvC.region [Item.look 0, Item.eff 1 [], Item.alc 2, Item.eff 3 []] (by kernel_rfl) ?_
  refine R.look rfl rfl rfl (Lk.loadN (vs := [(.slice p0_0.a p0_0.l p0_0.c), (.slice p0_1.a p0_1.l p0_1.c), (.slice p0_2.a p0_2.l p0_2.c)]) rfl Tryd.underlying26 rfl T26 rfl (H.rdn_loc ok (i := 0) rfl rfl rfl)) fun _ => ?_
  refine R.eff rfl rfl rfl (Eff.loc ok (Ef.call rfl CB11 rfl ((f11_ok hS).mono ?_)))
  rintro _ h_1 ⟨v10_0, v10_1, rfl, hS⟩
  refine fun ok => ⟨noChk, ?_⟩
  refine R.var (blk := .row ⟨[(.slice none 0 0), (.slice none 0 0)], 2, 29, true, true⟩) ok rfl rfl rfl (Ac.alloc rfl T29) rfl rfl fun b3 ok => ?_
  refine R.effN rfl rfl rfl (Ef.storeLoc (i := 0) (vs := [(.slice v10_0.a v10_0.l v10_0.c), (.slice v10_1.a v10_1.l v10_1.c)]) (cs := [(.slice v10_0.a v10_0.l v10_0.c), (.slice v10_1.a v10_1.l v10_1.c)]) (l' := [(b3, .row ⟨[(.slice v10_0.a v10_0.l v10_0.c), (.slice v10_1.a v10_1.l v10_1.c)], 2, 29, true, true⟩), (b1, .row ⟨[(.slice p0_0.a p0_0.l p0_0.c), (.slice p0_1.a p0_1.l p0_1.c), (.slice p0_2.a p0_2.l p0_2.c)], 3, 26, true, true⟩)]) ok rfl T29 rfl rfl rfl rfl rfl rfl rfl rfl rfl rfl fun ok => ⟨noChk, ?_⟩)
  refine R.nil ?_
  refine EvC.seq ?_
  refine EvC.region [Item.look 0, Item.eff 1 [], Item.look 2, Item.look 3, Item.look 4, Item.alc 5, Item.eff 6 [], Item.look 7] (by kernel_rfl) ?_
  refine R.look rfl rfl rfl (Lk.loadN (vs := [(.slice v10_0.a v10_0.l v10_0.c), (.slice v10_1.a v10_1.l v10_1.c)]) rfl Tryd.underlying29 rfl T29 rfl (H.rdn_loc ok (i := 0) rfl rfl rfl)) fun _ => ?_
  refine R.eff rfl rfl rfl (Eff.loc ok (Ef.call rfl CB12 rfl ((f12_ok hS).mono ?_)))
  rintro _ h_2 ⟨v13_0_0, v13_0_1, v13_0_2, v13_1, rfl, hS⟩
  refine fun ok => ⟨noChk, ?_⟩
  refine R.look rfl rfl rfl (Lk.move rfl rfl) fun _ => ?_
  refine R.look rfl rfl rfl (Lk.extract rfl rfl rfl) fun _ => ?_
  refine R.look rfl rfl rfl (Lk.extract rfl rfl rfl) fun _ => ?_
  refine R.var (blk := .row ⟨[(.slice none 0 0), (.slice none 0 0), (.slice none 0 0)], 3, 35, true, true⟩) ok rfl rfl rfl (Ac.alloc rfl T35) rfl rfl fun b4 ok => ?_
  refine R.effN rfl rfl rfl (Ef.storeLoc (i := 0) (vs := [(.slice v13_0_0.a v13_0_0.l v13_0_0.c), (.slice v13_0_1.a v13_0_1.l v13_0_1.c), (.slice v13_0_2.a v13_0_2.l v13_0_2.c)]) (cs := [(.slice v13_0_0.a v13_0_0.l v13_0_0.c), (.slice v13_0_1.a v13_0_1.l v13_0_1.c), (.slice v13_0_2.a v13_0_2.l v13_0_2.c)]) (l' := [(b4, .row ⟨[(.slice v13_0_0.a v13_0_0.l v13_0_0.c), (.slice v13_0_1.a v13_0_1.l v13_0_1.c), (.slice v13_0_2.a v13_0_2.l v13_0_2.c)], 3, 35, true, true⟩), (b3, .row ⟨[(.slice v10_0.a v10_0.l v10_0.c), (.slice v10_1.a v10_1.l v10_1.c)], 2, 29, true, true⟩), (b1, .row ⟨[(.slice p0_0.a p0_0.l p0_0.c), (.slice p0_1.a p0_1.l p0_1.c), (.slice p0_2.a p0_2.l p0_2.c)], 3, 26, true, true⟩)]) ok rfl T35 rfl rfl rfl rfl rfl rfl rfl rfl rfl rfl fun ok => ⟨noChk, ?_⟩)
  refine R.look rfl rfl rfl (Lk.assign rfl rfl) fun _ => ?_
  refine R.nil ?_
  refine EvC.seq ?_
  refine EvC.region [Item.look 0, Item.eff 1 [], Item.look 2] (by kernel_rfl) ?_
  refine R.look rfl rfl rfl (Lk.loadN (vs := [(.slice v10_0.a v10_0.l v10_0.c), (.slice v10_1.a v10_1.l v10_1.c)]) rfl Tryd.underlying29 rfl T29 rfl (H.rdn_loc ok (i := 1) rfl rfl rfl)) fun _ => ?_
  refine R.eff rfl rfl rfl (Eff.loc ok (Ef.call rfl CB13 rfl ((f13_ok hS).mono ?_)))
  rintro _ h_3 ⟨v17, rfl, hS⟩
  refine fun ok => ⟨noChk, ?_⟩
  refine R.look rfl rfl rfl (Lk.assign rfl rfl) fun _ => ?_
  refine R.nil ?_
  refine EvC.seq ?_
  refine EvC.join (σ := Bool) (fun s => (Env.put (Env.put (Env.put (Env.put Env.emp 24 (.bool s)) 6 (.int .i64 v17)) 4 (.pointer (some ⟨b4, 0, none⟩))) 3 (.pointer (some ⟨b3, 0, none⟩)))) (fun s => [(b4, .row ⟨[(.slice v13_0_0.a v13_0_0.l v13_0_0.c), (.slice v13_0_1.a v13_0_1.l v13_0_1.c), (.slice v13_0_2.a v13_0_2.l v13_0_2.c)], 3, 35, true, true⟩), (b3, .row ⟨[(.slice v10_0.a v10_0.l v10_0.c), (.slice v10_1.a v10_1.l v10_1.c)], 2, 29, true, true⟩)]) (fun s h_4 => S3_j5 K v10_0 v10_1 v13_0_0 v13_0_1 v13_0_2 v17 s h_4) ?_ (fun Ih_4 hIh_4 => ?_)
  · intro v24 h_4 ok hS
    replace hS : S3_j5 K v10_0 v10_1 v13_0_0 v13_0_1 v13_0_2 v17 v24 h_4 := hS
    change EvC _ _ _ (Env.put (Env.put (Env.put (Env.put Env.emp 24 (.bool v24)) 6 (.int .i64 v17)) 4 (.pointer (some ⟨b4, 0, none⟩))) 3 (.pointer (some ⟨b3, 0, none⟩))) (H.add h_4 [(b4, .row ⟨[(.slice v13_0_0.a v13_0_0.l v13_0_0.c), (.slice v13_0_1.a v13_0_1.l v13_0_1.c), (.slice v13_0_2.a v13_0_2.l v13_0_2.c)], 3, 35, true, true⟩), (b3, .row ⟨[(.slice v10_0.a v10_0.l v10_0.c), (.slice v10_1.a v10_1.l v10_1.c)], 2, 29, true, true⟩)]) _
    unfold S3_j5 at hS
    by_cases e1 : v24 = true
    · rw [if_pos e1] at hS
      refine EvC.condT rfl e1 ?_
      refine EvC.seq ?_
      refine EvC.region [Item.look 0] (by kernel_rfl) ?_
      refine R.look rfl rfl rfl (Lk.assign rfl rfl) fun _ => ?_
      refine R.nil ?_
      refine EvC.ret ?_
      exact ⟨.inr rfl, _, _, (.cons (.tmp rfl) .nil), ok.le, _, rfl, hS⟩
    · rw [if_neg e1] at hS
      replace e1 := eq_false_of_ne_true e1
      refine EvC.condF rfl e1 ?_
      refine EvC.skip ?_
      refine EvC.seq ?_
      refine EvC.seq ?_
      refine EvC.region [Item.look 0, Item.look 1] (by kernel_rfl) ?_
      refine R.look rfl rfl rfl (Lk.move rfl rfl) fun _ => ?_
      refine R.look rfl rfl rfl (Lk.arith rfl rfl rfl rfl) fun _ => ?_
      refine R.nil ?_
      by_cases e2 : (v17 != 0) = true
      · rw [if_pos e2] at hS
        refine EvC.condT rfl e2 ?_
        refine EvC.join (σ := Bool) (fun s => (Env.put Env.emp 2 (.bool s))) (fun s => []) (fun s h_5 => S3_j1 K s h_5) ?_ (fun Ih_5 hIh_5 => ?_)
        · intro v2 h_5 ok hS
          replace hS : S3_j1 K v2 h_5 := hS
          change EvC _ _ _ (Env.put Env.emp 2 (.bool v2)) (H.add h_5 []) _
          unfold S3_j1 at hS
          refine EvC.ret ?_
          exact ⟨.inr rfl, _, _, (.cons (.tmp rfl) .nil), ok.le, _, rfl, hS⟩
        · refine EvC.region [Item.look 0, Item.look 1, Item.look 2, Item.look 3, Item.look 4, Item.look 5, Item.look 6, Item.look 7, Item.look 8, Item.look 9, Item.look 10, Item.look 11, Item.look 12, Item.look 13, Item.look 14, Item.look 15, Item.look 16] (by kernel_rfl) ?_
          refine R.look (v := (.pointer (some ⟨b4, 0, none⟩))) rfl rfl rfl (Lk.fldAddr rfl Tryd.underlying35 rfl rfl T31 rfl rfl rfl) fun _ => ?_
          refine R.look rfl rfl rfl (Lk.load1 (v := (.slice v13_0_0.a v13_0_0.l v13_0_0.c)) rfl Tryd.underlying31 rfl rfl (H.rd_loc ok (i := 0) rfl rfl)) fun _ => ?_
          refine R.look rfl rfl rfl (Lk.len rfl Tryd.underlying31 rfl) fun _ => ?_
          refine R.look rfl rfl rfl (Lk.arith rfl rfl rfl rfl) fun _ => ?_
          refine R.look rfl rfl rfl (Lk.move rfl rfl) fun _ => ?_
          by_cases e3 : ((v13_0_0.l : Int) == 0) = true
          · refine R.lookT (v := (.pointer (some ⟨b4, 1, none⟩))) rfl rfl rfl rfl e3 rfl (Lk.fldAddr rfl Tryd.underlying35 rfl rfl T32 rfl rfl rfl) fun _ => ?_
            refine R.lookT rfl rfl rfl rfl e3 rfl (Lk.load1 (v := (.slice v13_0_1.a v13_0_1.l v13_0_1.c)) rfl Tryd.underlying32 rfl rfl (H.rd_loc ok (i := 0) rfl rfl)) fun _ => ?_
            refine R.lookT rfl rfl rfl rfl e3 rfl (Lk.len rfl Tryd.underlying32 rfl) fun _ => ?_
            refine R.lookT rfl rfl rfl rfl e3 rfl (Lk.arith rfl rfl rfl rfl) fun _ => ?_
            refine R.look rfl rfl rfl (Lk.pick rfl rfl (fun _ => rfl) (fun e => by rw [e3] at e; cases e)) fun _ => ?_
            refine R.look rfl rfl rfl (Lk.move rfl rfl) fun _ => ?_
            by_cases e4 : ((v13_0_1.l : Int) == 0) = true
            · refine R.lookT (v := (.pointer (some ⟨b4, 2, none⟩))) rfl rfl rfl rfl e4 rfl (Lk.fldAddr rfl Tryd.underlying35 rfl rfl T33 rfl rfl rfl) fun _ => ?_
              refine R.lookT rfl rfl rfl rfl e4 rfl (Lk.load1 (v := (.slice v13_0_2.a v13_0_2.l v13_0_2.c)) rfl Tryd.underlying33 rfl rfl (H.rd_loc ok (i := 0) rfl rfl)) fun _ => ?_
              refine R.lookT rfl rfl rfl rfl e4 rfl (Lk.len rfl Tryd.underlying33 rfl) fun _ => ?_
              refine R.lookT rfl rfl rfl rfl e4 rfl (Lk.arith rfl rfl rfl rfl) fun _ => ?_
              refine R.look rfl rfl rfl (Lk.pick rfl rfl (fun _ => rfl) (fun e => by rw [e4] at e; cases e)) fun _ => ?_
              refine R.look rfl rfl rfl (Lk.assign rfl rfl) fun _ => ?_
              refine R.nil ?_
              exact hIh_5 ((((v13_0_0.l : Int) == 0) && ((v13_0_1.l : Int) == 0)) && ((v13_0_2.l : Int) == 0)) _ _ _ (Env.le_put (by rw [e3, e4]; rfl) (Env.le_emp _)) (ok.sub (.cons _ (.cons _ List.Sublist.slnil))) (H.add_sub ok (.cons _ (.cons _ List.Sublist.slnil))) hS
            · replace e4 := eq_false_of_ne_true e4
              refine R.lookF rfl rfl rfl rfl e4 rfl fun _ => ?_
              refine R.lookF rfl rfl rfl rfl e4 rfl fun _ => ?_
              refine R.lookF rfl rfl rfl rfl e4 rfl fun _ => ?_
              refine R.lookF rfl rfl rfl rfl e4 rfl fun _ => ?_
              refine R.look rfl rfl rfl (Lk.pick rfl rfl (fun e => by rw [e4] at e; cases e) (fun _ => rfl)) fun _ => ?_
              refine R.look rfl rfl rfl (Lk.assign rfl rfl) fun _ => ?_
              refine R.nil ?_
              exact hIh_5 ((((v13_0_0.l : Int) == 0) && ((v13_0_1.l : Int) == 0)) && ((v13_0_2.l : Int) == 0)) _ _ _ (Env.le_put (by rw [e3, e4]; rfl) (Env.le_emp _)) (ok.sub (.cons _ (.cons _ List.Sublist.slnil))) (H.add_sub ok (.cons _ (.cons _ List.Sublist.slnil))) hS
          · replace e3 := eq_false_of_ne_true e3
            refine R.lookF rfl rfl rfl rfl e3 rfl fun _ => ?_
            refine R.lookF rfl rfl rfl rfl e3 rfl fun _ => ?_
            refine R.lookF rfl rfl rfl rfl e3 rfl fun _ => ?_
            refine R.lookF rfl rfl rfl rfl e3 rfl fun _ => ?_
            refine R.look rfl rfl rfl (Lk.pick rfl rfl (fun e => by rw [e3] at e; cases e) (fun _ => rfl)) fun _ => ?_
            refine R.look rfl rfl rfl (Lk.move rfl rfl) fun _ => ?_
            refine R.lookF rfl rfl rfl rfl rfl rfl fun _ => ?_
            refine R.lookF rfl rfl rfl rfl rfl rfl fun _ => ?_
            refine R.lookF rfl rfl rfl rfl rfl rfl fun _ => ?_
            refine R.lookF rfl rfl rfl rfl rfl rfl fun _ => ?_
            refine R.look rfl rfl rfl (Lk.pick rfl rfl (fun e => by cases e) (fun _ => rfl)) fun _ => ?_
            refine R.look rfl rfl rfl (Lk.assign rfl rfl) fun _ => ?_
            refine R.nil ?_
            exact hIh_5 ((((v13_0_0.l : Int) == 0) && ((v13_0_1.l : Int) == 0)) && ((v13_0_2.l : Int) == 0)) _ _ _ (Env.le_put (by rw [e3]; rfl) (Env.le_emp _)) (ok.sub (.cons _ (.cons _ List.Sublist.slnil))) (H.add_sub ok (.cons _ (.cons _ List.Sublist.slnil))) hS
      · rw [if_neg e2] at hS
        replace e2 := eq_false_of_ne_true e2
        refine EvC.condF rfl e2 ?_
        refine EvC.skip ?_
        refine EvC.seq ?_
        refine EvC.region [Item.look 0, Item.eff 1 [], Item.alc 2, Item.eff 3 []] (by kernel_rfl) ?_
        refine R.look rfl rfl rfl (Lk.loadN (vs := [(.slice v10_0.a v10_0.l v10_0.c), (.slice v10_1.a v10_1.l v10_1.c)]) rfl Tryd.underlying29 rfl T29 rfl (H.rdn_loc ok (i := 1) rfl rfl rfl)) fun _ => ?_
        refine R.eff rfl rfl rfl (Eff.loc ok (Ef.call rfl CB15 rfl ((f15_ok hS).mono ?_)))
        rintro _ h_6 ⟨v44_0, v44_1, v44_2, v44_3, rfl, hS⟩
        refine fun ok => ⟨noChk, ?_⟩
        refine R.var (blk := .row ⟨[(.slice none 0 0), (.slice none 0 0), (.slice none 0 0), (.slice none 0 0)], 4, 43, true, true⟩) ok rfl rfl rfl (Ac.alloc rfl T43) rfl rfl fun b7 ok => ?_
        refine R.effN rfl rfl rfl (Ef.storeLoc (i := 0) (vs := [(.slice v44_0.a v44_0.l v44_0.c), (.slice v44_1.a v44_1.l v44_1.c), (.slice v44_2.a v44_2.l v44_2.c), (.slice v44_3.a v44_3.l v44_3.c)]) (cs := [(.slice v44_0.a v44_0.l v44_0.c), (.slice v44_1.a v44_1.l v44_1.c), (.slice v44_2.a v44_2.l v44_2.c), (.slice v44_3.a v44_3.l v44_3.c)]) (l' := [(b7, .row ⟨[(.slice v44_0.a v44_0.l v44_0.c), (.slice v44_1.a v44_1.l v44_1.c), (.slice v44_2.a v44_2.l v44_2.c), (.slice v44_3.a v44_3.l v44_3.c)], 4, 43, true, true⟩), (b4, .row ⟨[(.slice v13_0_0.a v13_0_0.l v13_0_0.c), (.slice v13_0_1.a v13_0_1.l v13_0_1.c), (.slice v13_0_2.a v13_0_2.l v13_0_2.c)], 3, 35, true, true⟩), (b3, .row ⟨[(.slice v10_0.a v10_0.l v10_0.c), (.slice v10_1.a v10_1.l v10_1.c)], 2, 29, true, true⟩)]) ok rfl T43 rfl rfl rfl rfl rfl rfl rfl rfl rfl rfl fun ok => ⟨noChk, ?_⟩)
        refine R.nil ?_
        refine EvC.seq ?_
        refine EvC.join (σ := Bool) (fun s => (Env.put (Env.put (Env.put (Env.put Env.emp 67 (.bool s)) 7 (.pointer (some ⟨b7, 0, none⟩))) 4 (.pointer (some ⟨b4, 0, none⟩))) 3 (.pointer (some ⟨b3, 0, none⟩)))) (fun s => [(b7, .row ⟨[(.slice v44_0.a v44_0.l v44_0.c), (.slice v44_1.a v44_1.l v44_1.c), (.slice v44_2.a v44_2.l v44_2.c), (.slice v44_3.a v44_3.l v44_3.c)], 4, 43, true, true⟩), (b4, .row ⟨[(.slice v13_0_0.a v13_0_0.l v13_0_0.c), (.slice v13_0_1.a v13_0_1.l v13_0_1.c), (.slice v13_0_2.a v13_0_2.l v13_0_2.c)], 3, 35, true, true⟩), (b3, .row ⟨[(.slice v10_0.a v10_0.l v10_0.c), (.slice v10_1.a v10_1.l v10_1.c)], 2, 29, true, true⟩)]) (fun s h_7 => S3_j4 K v10_1 v13_0_2 v44_3 s h_7) ?_ (fun Ih_7 hIh_7 => ?_)
        · intro v67 h_7 ok hS
          replace hS : S3_j4 K v10_1 v13_0_2 v44_3 v67 h_7 := hS
          change EvC _ _ _ (Env.put (Env.put (Env.put (Env.put Env.emp 67 (.bool v67)) 7 (.pointer (some ⟨b7, 0, none⟩))) 4 (.pointer (some ⟨b4, 0, none⟩))) 3 (.pointer (some ⟨b3, 0, none⟩))) (H.add h_7 [(b7, .row ⟨[(.slice v44_0.a v44_0.l v44_0.c), (.slice v44_1.a v44_1.l v44_1.c), (.slice v44_2.a v44_2.l v44_2.c), (.slice v44_3.a v44_3.l v44_3.c)], 4, 43, true, true⟩), (b4, .row ⟨[(.slice v13_0_0.a v13_0_0.l v13_0_0.c), (.slice v13_0_1.a v13_0_1.l v13_0_1.c), (.slice v13_0_2.a v13_0_2.l v13_0_2.c)], 3, 35, true, true⟩), (b3, .row ⟨[(.slice v10_0.a v10_0.l v10_0.c), (.slice v10_1.a v10_1.l v10_1.c)], 2, 29, true, true⟩)]) _
          unfold S3_j4 at hS
          by_cases e5 : v67 = true
          · rw [if_pos e5] at hS
            refine EvC.condT rfl e5 ?_
            refine EvC.seq ?_
            refine EvC.region [Item.look 0] (by kernel_rfl) ?_
            refine R.look rfl rfl rfl (Lk.assign rfl rfl) fun _ => ?_
            refine R.nil ?_
            refine EvC.ret ?_
            exact ⟨.inr rfl, _, _, (.cons (.tmp rfl) .nil), ok.le, _, rfl, hS⟩
          · rw [if_neg e5] at hS
            replace e5 := eq_false_of_ne_true e5
            refine EvC.condF rfl e5 ?_
            refine EvC.skip ?_
            refine EvC.join (σ := Unit) (fun s => Env.emp) (fun s => []) (fun s h_8 => S3_j2 K h_8) ?_ (fun Ih_8 hIh_8 => ?_)
            · rintro ⟨⟩ h_8 ok hS
              replace hS : S3_j2 K h_8 := hS
              change EvC _ _ _ Env.emp (H.add h_8 []) _
              unfold S3_j2 at hS
              refine EvC.seq ?_
              refine EvC.region [Item.look 0] (by kernel_rfl) ?_
              refine R.look rfl rfl rfl (Lk.assign rfl rfl) fun _ => ?_
              refine R.nil ?_
              refine EvC.ret ?_
              exact ⟨.inr rfl, _, _, (.cons (.tmp rfl) .nil), ok.le, _, rfl, hS⟩
            · refine EvC.seq ?_
              refine EvC.region [Item.look 0, Item.look 1, Item.look 2, Item.look 3] (by kernel_rfl) ?_
              refine R.look (v := (.pointer (some ⟨b3, 1, none⟩))) rfl rfl rfl (Lk.fldAddr rfl Tryd.underlying29 rfl rfl T27 rfl rfl rfl) fun _ => ?_
              refine R.look rfl rfl rfl (Lk.load1 (v := (.slice v10_1.a v10_1.l v10_1.c)) rfl Tryd.underlying27 rfl rfl (H.rd_loc ok (i := 2) rfl rfl)) fun _ => ?_
              refine R.look rfl rfl rfl (Lk.len rfl Tryd.underlying27 rfl) fun _ => ?_
              refine R.look rfl rfl rfl (Lk.move rfl rfl) fun _ => ?_
              refine R.nil ?_
              refine EvC.block ?_
              refine EvC.loop ?_
              refine LoopC.lfp (σ := Int) (fun s => (Env.put (Env.put (Env.put (Env.put Env.emp 71 (.int .i64 s)) 70 (.int .i64 (v10_1.l : Int))) 7 (.pointer (some ⟨b7, 0, none⟩))) 4 (.pointer (some ⟨b4, 0, none⟩)))) (fun s => [(b7, .row ⟨[(.slice v44_0.a v44_0.l v44_0.c), (.slice v44_1.a v44_1.l v44_1.c), (.slice v44_2.a v44_2.l v44_2.c), (.slice v44_3.a v44_3.l v44_3.c)], 4, 43, true, true⟩), (b4, .row ⟨[(.slice v13_0_0.a v13_0_0.l v13_0_0.c), (.slice v13_0_1.a v13_0_1.l v13_0_1.c), (.slice v13_0_2.a v13_0_2.l v13_0_2.c)], 3, 35, true, true⟩)]) (fun X hX => ?_) hS (ok.sub (.cons_cons _ (.cons_cons _ (.cons _ List.Sublist.slnil)))) (Env.le_put rfl (Env.le_put rfl (Env.le_put rfl (Env.le_put rfl (Env.le_emp _))))) (H.add_sub ok (.cons_cons _ (.cons_cons _ (.cons _ List.Sublist.slnil))))
              intro v71 h_9 hS ok
              replace hS : S3_l3 K v10_1 v13_0_2 v44_3 X v71 h_9 := hS
              change EvC _ _ _ (Env.put (Env.put (Env.put (Env.put Env.emp 71 (.int .i64 v71)) 70 (.int .i64 (v10_1.l : Int))) 7 (.pointer (some ⟨b7, 0, none⟩))) 4 (.pointer (some ⟨b4, 0, none⟩))) (H.add h_9 [(b7, .row ⟨[(.slice v44_0.a v44_0.l v44_0.c), (.slice v44_1.a v44_1.l v44_1.c), (.slice v44_2.a v44_2.l v44_2.c), (.slice v44_3.a v44_3.l v44_3.c)], 4, 43, true, true⟩), (b4, .row ⟨[(.slice v13_0_0.a v13_0_0.l v13_0_0.c), (.slice v13_0_1.a v13_0_1.l v13_0_1.c), (.slice v13_0_2.a v13_0_2.l v13_0_2.c)], 3, 35, true, true⟩)]) _
              unfold S3_l3 at hS
              refine EvC.seq ?_
              refine EvC.region [Item.look 0] (by kernel_rfl) ?_
              refine R.look rfl rfl rfl (Lk.arith rfl rfl rfl rfl) fun _ => ?_
              refine R.nil ?_
              refine EvC.seq ?_
              by_cases e6 : (decide (v71 < (v10_1.l : Int))) = true
              · rw [if_pos e6] at hS
                refine EvC.condT rfl e6 ?_
                refine EvC.skip ?_
                refine EvC.seq ?_
                refine EvC.block ?_
                refine EvC.seq ?_
                refine EvC.region [Item.look 0, Item.look 1] (by kernel_rfl) ?_
                refine R.look rfl rfl rfl (Lk.move rfl rfl) fun _ => ?_
                refine R.look rfl rfl rfl (Lk.assign rfl rfl) fun _ => ?_
                refine R.nil ?_
                refine EvC.seq ?_
                refine EvC.draw [0, 1, 0, 7, 15, 0, 32, 0, 224, 480, 1023, 2047] [Item.look 0, Item.look 1, Item.look 2, Item.look 3, Item.look 4, Item.look 5, Item.look 6, Item.look 7, Item.look 8, Item.look 9, Item.eff 10 [], Item.look 11] MO (by kernel_rfl) ?_
                refine R.look (v := (.pointer (some ⟨b4, 2, none⟩))) rfl rfl rfl (Lk.fldAddr rfl Tryd.underlying35 rfl rfl T33 rfl rfl rfl) fun _ => ?_
                refine R.look rfl rfl rfl (Lk.load1 (v := (.slice v13_0_2.a v13_0_2.l v13_0_2.c)) rfl Tryd.underlying33 rfl rfl (H.rd_loc ok (i := 1) rfl rfl)) fun _ => ?_
                refine R.look rfl rfl rfl (Lk.move rfl rfl) fun _ => ?_
                obtain ⟨a77, e7, e8, e9, hS⟩ := hS
                refine R.look rfl rfl rfl (Lk.ixAddr rfl Tryd.underlying33 T32 rfl e7 rfl e8 e9) fun _ => ?_
                obtain ⟨v78, e10, hS⟩ := hS
                refine R.look rfl rfl rfl (Look.loc ok (Lk.load1 rfl Tryd.underlying32 rfl rfl e10)) fun _ => ?_
                refine R.look (v := (.pointer (some ⟨b7, 3, none⟩))) rfl rfl rfl (Lk.fldAddr rfl Tryd.underlying43 rfl rfl T33 rfl rfl rfl) fun _ => ?_
                refine R.look rfl rfl rfl (Lk.load1 (v := (.slice v44_3.a v44_3.l v44_3.c)) rfl Tryd.underlying33 rfl rfl (H.rd_loc ok (i := 0) rfl rfl)) fun _ => ?_
                refine R.look rfl rfl rfl (Lk.move rfl rfl) fun _ => ?_
                obtain ⟨a82, e11, e12, e13, hS⟩ := hS
                refine R.look rfl rfl rfl (Lk.ixAddr rfl Tryd.underlying33 T32 rfl e11 rfl e12 e13) fun _ => ?_
                obtain ⟨v83, e14, hS⟩ := hS
                refine R.look rfl rfl rfl (Look.loc ok (Lk.load1 rfl Tryd.underlying32 rfl rfl e14)) fun _ => ?_
                refine R.eff rfl rfl rfl (Eff.loc ok (Ef.call rfl CB17 rfl ((f17_ok hS).mono ?_)))
                rintro _ h_10 ⟨v84, rfl, hS⟩
                refine fun ok => ⟨noChk, ?_⟩
                refine R.look rfl rfl rfl (Lk.not rfl rfl) fun _ => ?_
                refine R.nil ?_
                by_cases e15 : (!v84) = true
                · rw [if_pos e15] at hS
                  refine EvC.condT rfl e15 ?_
                  refine EvC.seq ?_
                  refine EvC.region [Item.look 0] (by kernel_rfl) ?_
                  refine R.look rfl rfl rfl (Lk.assign rfl rfl) fun _ => ?_
                  refine R.nil ?_
                  refine EvC.ret ?_
                  exact ⟨.inr rfl, _, _, (.cons (.tmp rfl) .nil), ok.le, _, rfl, hS⟩
                · rw [if_neg e15] at hS
                  replace e15 := eq_false_of_ne_true e15
                  refine EvC.condF rfl e15 ?_
                  refine EvC.skip ?_
                  refine EvC.region [Item.look 0, Item.look 1] (by kernel_rfl) ?_
                  refine R.look rfl rfl rfl (Lk.arith rfl rfl rfl rfl) fun _ => ?_
                  refine R.look rfl rfl rfl (Lk.move rfl rfl) fun _ => ?_
                  refine R.nil ?_
                  exact hX (IntKind.wrap .i64 (v71 + 1)) _ _ _ hS (ok.sub (.cons_cons _ (.cons_cons _ List.Sublist.slnil))) (Env.le_put rfl (Env.le_put rfl (Env.le_put rfl (Env.le_put rfl (Env.le_emp _))))) (H.add_sub ok (.cons_cons _ (.cons_cons _ List.Sublist.slnil)))
              · rw [if_neg e6] at hS
                replace e6 := eq_false_of_ne_true e6
                refine EvC.condF rfl e6 ?_
                refine EvC.exit ?_
                exact hIh_8 () _ _ _ (Env.le_emp _) (ok.sub (.cons _ (.cons _ List.Sublist.slnil))) (H.add_sub ok (.cons _ (.cons _ List.Sublist.slnil))) hS
        · refine EvC.region [Item.look 0, Item.look 1, Item.look 2, Item.look 3, Item.eff 4 [], Item.look 5, Item.look 6, Item.look 7, Item.look 8, Item.look 9, Item.look 10, Item.eff 11 [], Item.look 12, Item.look 13, Item.look 14, Item.look 15, Item.look 16, Item.look 17, Item.look 18, Item.look 19, Item.look 20, Item.look 21, Item.look 22] (by kernel_rfl) ?_
          refine R.look (v := (.pointer (some ⟨b4, 0, none⟩))) rfl rfl rfl (Lk.fldAddr rfl Tryd.underlying35 rfl rfl T31 rfl rfl rfl) fun _ => ?_
          refine R.look rfl rfl rfl (Lk.load1 (v := (.slice v13_0_0.a v13_0_0.l v13_0_0.c)) rfl Tryd.underlying31 rfl rfl (H.rd_loc ok (i := 1) rfl rfl)) fun _ => ?_
          refine R.look (v := (.pointer (some ⟨b7, 0, none⟩))) rfl rfl rfl (Lk.fldAddr rfl Tryd.underlying43 rfl rfl T31 rfl rfl rfl) fun _ => ?_
          refine R.look rfl rfl rfl (Lk.load1 (v := (.slice v44_0.a v44_0.l v44_0.c)) rfl Tryd.underlying31 rfl rfl (H.rd_loc ok (i := 0) rfl rfl)) fun _ => ?_
          refine R.eff rfl rfl rfl (Eff.loc ok (Ef.call rfl CB16 rfl ((f16_ok hS).mono ?_)))
          rintro _ h_11 ⟨v49, rfl, hS⟩
          refine fun ok => ⟨noChk, ?_⟩
          refine R.look rfl rfl rfl (Lk.not rfl rfl) fun _ => ?_
          refine R.look rfl rfl rfl (Lk.move rfl rfl) fun _ => ?_
          by_cases e16 : (!v49) = true
          · rw [if_pos e16] at hS
            refine R.lookF rfl rfl rfl rfl e16 rfl fun _ => ?_
            refine R.lookF rfl rfl rfl rfl e16 rfl fun _ => ?_
            refine R.lookF rfl rfl rfl rfl e16 rfl fun _ => ?_
            refine R.lookF rfl rfl rfl rfl e16 rfl fun _ => ?_
            refine R.effF rfl rfl rfl rfl e16 rfl ?_
            refine R.lookF rfl rfl rfl rfl e16 rfl fun _ => ?_
            refine R.look rfl rfl rfl (Lk.pick rfl rfl (fun _ => rfl) (fun e => by rw [e16] at e; cases e)) fun _ => ?_
            refine R.look rfl rfl rfl (Lk.move rfl rfl) fun _ => ?_
            refine R.lookF rfl rfl rfl rfl rfl rfl fun _ => ?_
            refine R.lookF rfl rfl rfl rfl rfl rfl fun _ => ?_
            refine R.lookF rfl rfl rfl rfl rfl rfl fun _ => ?_
            refine R.lookF rfl rfl rfl rfl rfl rfl fun _ => ?_
            refine R.lookF rfl rfl rfl rfl rfl rfl fun _ => ?_
            refine R.lookF rfl rfl rfl rfl rfl rfl fun _ => ?_
            refine R.lookF rfl rfl rfl rfl rfl rfl fun _ => ?_
            refine R.look rfl rfl rfl (Lk.pick rfl rfl (fun _ => rfl) (fun e => by cases e)) fun _ => ?_
            refine R.nil ?_
            exact hIh_7 true _ _ _ (Env.le_put rfl (Env.le_put rfl (Env.le_put rfl (Env.le_put rfl (Env.le_emp _))))) (ok.sub (.cons_cons _ (.cons_cons _ (.cons_cons _ List.Sublist.slnil)))) (H.add_sub ok (.cons_cons _ (.cons_cons _ (.cons_cons _ List.Sublist.slnil)))) hS
          · rw [if_neg e16] at hS
            replace e16 := eq_false_of_ne_true e16
            refine R.lookT (v := (.pointer (some ⟨b4, 1, none⟩))) rfl rfl rfl rfl e16 rfl (Lk.fldAddr rfl Tryd.underlying35 rfl rfl T32 rfl rfl rfl) fun _ => ?_
            refine R.lookT rfl rfl rfl rfl e16 rfl (Lk.load1 (v := (.slice v13_0_1.a v13_0_1.l v13_0_1.c)) rfl Tryd.underlying32 rfl rfl (H.rd_loc ok (i := 1) rfl rfl)) fun _ => ?_
            refine R.lookT (v := (.pointer (some ⟨b7, 1, none⟩))) rfl rfl rfl rfl e16 rfl (Lk.fldAddr rfl Tryd.underlying43 rfl rfl T32 rfl rfl rfl) fun _ => ?_
            refine R.lookT rfl rfl rfl rfl e16 rfl (Lk.load1 (v := (.slice v44_1.a v44_1.l v44_1.c)) rfl Tryd.underlying32 rfl rfl (H.rd_loc ok (i := 0) rfl rfl)) fun _ => ?_
            refine R.effT rfl rfl rfl rfl e16 rfl (Eff.loc ok (Ef.call rfl CB17 rfl ((f17_ok hS).mono ?_)))
            rintro _ h_12 ⟨v56, rfl, hS⟩
            refine fun ok => ⟨noChk, ?_⟩
            refine R.lookT rfl rfl rfl rfl e16 rfl (Lk.not rfl rfl) fun _ => ?_
            refine R.look rfl rfl rfl (Lk.pick rfl rfl (fun e => by rw [e16] at e; cases e) (fun _ => rfl)) fun _ => ?_
            refine R.look rfl rfl rfl (Lk.move rfl rfl) fun _ => ?_
            by_cases e17 : (!v56) = true
            · rw [if_pos e17] at hS
              refine R.lookF rfl rfl rfl rfl e17 rfl fun _ => ?_
              refine R.lookF rfl rfl rfl rfl e17 rfl fun _ => ?_
              refine R.lookF rfl rfl rfl rfl e17 rfl fun _ => ?_
              refine R.lookF rfl rfl rfl rfl e17 rfl fun _ => ?_
              refine R.lookF rfl rfl rfl rfl e17 rfl fun _ => ?_
              refine R.lookF rfl rfl rfl rfl e17 rfl fun _ => ?_
              refine R.lookF rfl rfl rfl rfl e17 rfl fun _ => ?_
              refine R.look rfl rfl rfl (Lk.pick rfl rfl (fun _ => rfl) (fun e => by rw [e17] at e; cases e)) fun _ => ?_
              refine R.nil ?_
              exact hIh_7 true _ _ _ (Env.le_put rfl (Env.le_put rfl (Env.le_put rfl (Env.le_put rfl (Env.le_emp _))))) (ok.sub (.cons_cons _ (.cons_cons _ (.cons_cons _ List.Sublist.slnil)))) (H.add_sub ok (.cons_cons _ (.cons_cons _ (.cons_cons _ List.Sublist.slnil)))) hS
            · rw [if_neg e17] at hS
              replace e17 := eq_false_of_ne_true e17
              refine R.lookT (v := (.pointer (some ⟨b4, 2, none⟩))) rfl rfl rfl rfl e17 rfl (Lk.fldAddr rfl Tryd.underlying35 rfl rfl T33 rfl rfl rfl) fun _ => ?_
              refine R.lookT rfl rfl rfl rfl e17 rfl (Lk.load1 (v := (.slice v13_0_2.a v13_0_2.l v13_0_2.c)) rfl Tryd.underlying33 rfl rfl (H.rd_loc ok (i := 1) rfl rfl)) fun _ => ?_
              refine R.lookT rfl rfl rfl rfl e17 rfl (Lk.len rfl Tryd.underlying33 rfl) fun _ => ?_
              refine R.lookT (v := (.pointer (some ⟨b3, 1, none⟩))) rfl rfl rfl rfl e17 rfl (Lk.fldAddr rfl Tryd.underlying29 rfl rfl T27 rfl rfl rfl) fun _ => ?_
              refine R.lookT rfl rfl rfl rfl e17 rfl (Lk.load1 (v := (.slice v10_1.a v10_1.l v10_1.c)) rfl Tryd.underlying27 rfl rfl (H.rd_loc ok (i := 2) rfl rfl)) fun _ => ?_
              refine R.lookT rfl rfl rfl rfl e17 rfl (Lk.len rfl Tryd.underlying27 rfl) fun _ => ?_
              refine R.lookT rfl rfl rfl rfl e17 rfl (Lk.arith rfl rfl rfl rfl) fun _ => ?_
              refine R.look rfl rfl rfl (Lk.pick rfl rfl (fun e => by rw [e17] at e; cases e) (fun _ => rfl)) fun _ => ?_
              refine R.nil ?_
              exact hIh_7 ((v13_0_2.l : Int) != (v10_1.l : Int)) _ _ _ (Env.le_put rfl (Env.le_put rfl (Env.le_put rfl (Env.le_put rfl (Env.le_emp _))))) (ok.sub (.cons_cons _ (.cons_cons _ (.cons_cons _ List.Sublist.slnil)))) (H.add_sub ok (.cons_cons _ (.cons_cons _ (.cons_cons _ List.Sublist.slnil)))) hS
  · refine EvC.region [Item.eff 0 [], Item.look 1, Item.look 2, Item.look 3, Item.look 4, Item.look 5, Item.look 6] (by kernel_rfl) ?_
    refine R.eff rfl rfl rfl (Eff.loc ok (Ef.call rfl CB14 rfl ((f14_ok hS).mono ?_)))
    rintro _ h_13 ⟨v18, rfl, hS⟩
    refine fun ok => ⟨noChk, ?_⟩
    refine R.look rfl rfl rfl (Lk.not rfl rfl) fun _ => ?_
    refine R.look rfl rfl rfl (Lk.move rfl rfl) fun _ => ?_
    by_cases e18 : (!v18) = true
    · refine R.lookF rfl rfl rfl rfl e18 rfl fun _ => ?_
      refine R.lookF rfl rfl rfl rfl e18 rfl fun _ => ?_
      refine R.lookF rfl rfl rfl rfl e18 rfl fun _ => ?_
      refine R.look rfl rfl rfl (Lk.pick rfl rfl (fun _ => rfl) (fun e => by rw [e18] at e; cases e)) fun _ => ?_
      refine R.nil ?_
      exact hIh_4 ((!v18) || (v13_1 != v17)) _ _ _ (Env.le_put rfl (Env.le_put rfl (Env.le_put rfl (Env.le_put (by rw [e18]; rfl) (Env.le_emp _))))) (ok.sub (.cons_cons _ (.cons_cons _ (.cons _ List.Sublist.slnil)))) (H.add_sub ok (.cons_cons _ (.cons_cons _ (.cons _ List.Sublist.slnil)))) hS
    · replace e18 := eq_false_of_ne_true e18
      refine R.lookT rfl rfl rfl rfl e18 rfl (Lk.move rfl rfl) fun _ => ?_
      refine R.lookT rfl rfl rfl rfl e18 rfl (Lk.move rfl rfl) fun _ => ?_
      refine R.lookT rfl rfl rfl rfl e18 rfl (Lk.arith rfl rfl rfl rfl) fun _ => ?_
      refine R.look rfl rfl rfl (Lk.pick rfl rfl (fun e => by rw [e18] at e; cases e) (fun _ => rfl)) fun _ => ?_
      refine R.nil ?_
      exact hIh_4 ((!v18) || (v13_1 != v17)) _ _ _ (Env.le_put rfl (Env.le_put rfl (Env.le_put rfl (Env.le_put (by rw [e18]; rfl) (Env.le_emp _))))) (ok.sub (.cons_cons _ (.cons_cons _ (.cons _ List.Sublist.slnil)))) (H.add_sub ok (.cons_cons _ (.cons_cons _ (.cons _ List.Sublist.slnil)))) hS
end Go.Proofs.YtimadnngfhbfiaaDoor
end

section
/-
  NormTells: the statement and its card.
-/
namespace Go.Proofs.YtimadnngfhbfiaaDoor
open Go Go.Mu Go.Shape
open Go.ChangeShapes Go.WideShapes Go.ChangeAt Go.RowKit Go.Joins Go.Deep

theorem ownKnob_none : ownKnob Tryd.prog.godebug = none := by kernel_rfl
theorem laidOut_prog : laidOutB Tryd.prog = true := by kernel_rfl
set_option maxRecDepth 100000 in
theorem raw_in {H' : Type} {enc : TypeId × Value → H'} {W : World} {base : Nat} {v : Value} {d : DataW H'} {p : List MemPlace} (hv : Value.okWide Tryd.prog W .any base 26 v) (h : DataW.Trod enc Tryd.prog W 0 (fun _ => true) true 26 v d p) :
    ∃ z0 z1 z2 : Sl, v = .agg ([(.slice z0.a z0.l z0.c), (.slice z1.a z1.l z1.c), (.slice z2.a z2.l z2.c)] : List Value).toArray ∧ RawIn (H.of W) z0 z1 z2 := by
  obtain ⟨v0, v1, v2, y0, y1, y2, n, rfl, _, _, t0, t1, t2⟩ := open_agg3 Tryd.underlying26 (by kernel_rfl) (by kernel_rfl) hv h
  obtain ⟨s0, rfl, l0, r0⟩ := rd_bools Tryd.underlying22 Tryd.underlying4 (by kernel_rfl) t0
  obtain ⟨s1, rfl, l1, r1, u1⟩ := rd_threes Tryd.underlying23 Tryd.underlying100 Tryd.underlying5 (by kernel_rfl) (by kernel_rfl) t1
  obtain ⟨s2, rfl, l2, r2, u2⟩ := rd_bytes Tryd.underlying24 Tryd.underlying5 (by kernel_rfl) t2
  exact ⟨s0, s1, s2, rfl, ⟨l0, l1, l2, r0, r1, r2, u1, u2⟩⟩

set_option maxRecDepth 100000 in
theorem normTells_lifted (os : Os) (started : os.Started) (H' : Type) (enc : TypeId × Value → H') :
    ReturnsInHanded {} Tryd.checked os 3 .any (fun w args => (Rows.normTellsSpec.pre enc Tryd.prog Tryd.f3 [] false w args ∧ laidMetH Tryd.prog Rows.normTellsRow.laid w) ∧ sizedMet enc Tryd.prog Tryd.f3 (OpenSpec.ofChange Rows.normTellsSpec) false w args)
      (Rows.normTellsSpec.post enc Tryd.prog Tryd.f3 false true false false) := by
  refine returnsInHanded_of_change_and (C := Tryd.checked) (X := fun w _ => laidMetH Tryd.prog Rows.normTellsRow.laid w) (fun _ _ _ hh h => h.of_heap hh) ownKnob_none started (by kernel_rfl) Tryd.func3
    (ChangeSpec.witness_shaped (enc := enc) (C := Tryd.checked) (os := os) (X := fun w _ => laidMetH Tryd.prog Rows.normTellsRow.laid w) false (World.laidAll Tryd.prog os Rows.normTellsRow.laid) #[.agg #[.slice none 0 0, .slice none 0 0, .slice none 0 0]] 8 (World.laidAll_os _ _ _)
      (World.shaped_of_ZipB (by kernel_rfl) (by kernel_rfl)) (by kernel_rfl) (by kernel_rfl) (by kernel_rfl)
      (by rw [MakeChecks.laidMetH_plain _ _ _ (by kernel_rfl)]; exact laidMet_laidAll _ (by kernel_rfl) (by kernel_rfl))) ?_
  intro W base args ds gs before hval0 hW _ _ hL _
  have hval : ∀ (j : Nat) t v, Tryd.f3.params[j]? = some t → args[j]? = some v → Value.okWide Tryd.prog W .any base t v := hval0
  have hW' := hW
  obtain ⟨p, q, hA0, hV, rfl, _, _⟩ := hW
  have hA : DataW.TrodAll enc Tryd.prog W 0 (fun _ => true) true Tryd.f3.params.toList args.toList ds p := hA0
  rw [Tryd.params3] at hA hval
  obtain ⟨v0, d0, rfl, rfl, h0⟩ := trodAll_one hA
  obtain ⟨rfl, rfl⟩ := trodVars_none hV
  have h0k := h0
  clear hA0 hval0
  simp only [List.append_nil] at hW'
  have hlt : ∀ x ∈ p, x.block < W.heap.size := fun x hx => by simpa using hW'.lt x hx
  obtain ⟨z0, z1, z2, rfl, raw⟩ := raw_in (hval 0 26 v0 rfl rfl) h0
  refine (ACall.world (f3_ok (K := fun r _ => r = true) (c3 raw fun _ => rfl))).mono fun e W' ⟨r, h', he, hb, b, hr, hk⟩ => ?_
  subst hk
  have hr' : r = .bool true := hr
  subst hr' he
  exact ⟨_, rfl, ⟨_, _, _, [], _, [], hW', trodAll_mk1 (shut_bool Tryd.underlying4 _), trodAll_mk1 (Below.trod laidOut_prog (by kernel_rfl) (of_decide_eq_true (by kernel_rfl)) h0k hb hlt), rfl, hb.frame _, fun h => by cases h⟩⟩

theorem normTells_said : Rows.NormTellsSaid :=
  OpenClaim.holds_of_wide 3 Tryd.f3 rfl rfl rfl rfl rfl rfl rfl ⟨rfl, rfl, rfl, rfl, rfl⟩ rfl rfl rfl rfl rfl (by kernel_rfl) Tryd.func3 (by kernel_rfl)
    (of_decide_eq_true (by kernel_rfl)) (by unfold Func.isWrapper; first | (rw [if_pos (by decide +kernel)]; kernel_rfl) | (rw [if_neg (by decide +kernel)]; exact ⟨rfl, rfl⟩))
    (fun os started H enc _ => normTells_lifted os started H enc)

theorem normTells_holds : Rows.NormTellsCardSaid :=
  Claim7.holds_tied_plain_at .later [] [.data, .pinned] true (true, "d6f36886d12485c9cea0d9571512dfa97f8ee8e7a58d0d4df16bc376e7d03632") false
    normTells_said (fun _ h => by cases h) (by kernel_rfl) (fun _ h => by cases h) normTells_row_tie rfl ⟨rfl, rfl⟩ (by kernel_rfl) rfl
    (fun f fn hf hfn => by
      obtain rfl : f = 3 := Option.some.inj ((show Tryd.prog.funcNamed "muntin/muntinlaw11.NormTells" = some 3 by kernel_rfl).symm.trans hf) |>.symm
      obtain rfl : fn = Tryd.f3 := (Option.some.inj (Tryd.func3.symm.trans hfn)).symm
      exact ⟨by kernel_rfl, fun j t ht => by
        rw [Tryd.params3] at ht
        have h3 : t = 26 := by
          rcases j with _ | j
          · simpa using ht.symm
          · simp at ht
        subst h3
        exact (show Tryd.prog.wantsStandIn 26 = false by kernel_rfl)⟩)
    (by kernel_rfl)
end Go.Proofs.YtimadnngfhbfiaaDoor
end
