/-
  PROVED HERE: 'muntinlaw11.NormCells' answers true whatever the raw shape, and what was handed in reads as it did. Conditions: the package variables that the row lists hold what the program's text lays.
  Part 4 of 5.
-/
import Derived.Test.YtimadnngfhbfiaaDoorNcC

section
/- PRINTED by wip/gen.py: the machine's call of slices.Repeat[[]muntin/api.Cell,muntin/api.Cell] does what S72 says. -/
namespace Go.Proofs.YtimadnngfhbfiaaDoor
open Go Go.Mu
set_option maxHeartbeats 4000000
set_option maxRecDepth 100000
theorem f72_ok {p0 : Sl} {p1 : Int} {h : H} {K : Sl → H → Prop} (hS : S72 p0 p1 h K) : ACall Tryd.prog 72 ([(.slice p0.a p0.l p0.c), (.int .i64 p1)] : List Value).toArray h (fun r h' => ∃ r0 : Sl, r = tup [(.slice r0.a r0.l r0.c)] ∧ K r0 h') := by
  refine ACall.enter (fn := Tryd.f72) Tryd.func72 rfl (Nat.le_of_ble_eq_true rfl) ?_
  unfold S72 at hS
  have ok := Lok.nil h
  change EvC _ _ _ _ (H.add h []) _
  refine EvC.seq ?_
  refine EvC.region [Item.look 0] (by kernel_rfl) ?_
  refine R.look rfl rfl rfl (Lk.assign rfl rfl) fun _ => ?_
  refine R.nil ?_
  refine EvC.join (σ := Unit) (fun s => (Env.put (Env.put Env.emp 1 (.int .i64 p1)) 0 (.slice p0.a p0.l p0.c))) (fun s => []) (fun s h_1 => S72_j5 p0 p1 K h_1) ?_ (fun Ih_1 hIh_1 => ?_)
  · rintro ⟨⟩ h_1 ok hS
    replace hS : S72_j5 p0 p1 K h_1 := hS
    change EvC _ _ _ (Env.put (Env.put Env.emp 1 (.int .i64 p1)) 0 (.slice p0.a p0.l p0.c)) (H.add h_1 []) _
    unfold S72_j5 at hS
    refine EvC.seq ?_
    refine EvC.region [Item.look 0, Item.look 1, Item.look 2, Item.look 3, Item.look 4, Item.eff 5 [], Item.look 6, Item.look 7, Item.look 8, Item.look 9, Item.look 10] (by kernel_rfl) ?_
    refine R.look rfl rfl rfl (Lk.move rfl rfl) fun _ => ?_
    refine R.look rfl rfl rfl (Lk.len rfl Tryd.underlying31 rfl) fun _ => ?_
    refine R.look rfl rfl rfl (Lk.conv rfl Tryd.underlying3 Tryd.underlying166 rfl) fun _ => ?_
    refine R.look rfl rfl rfl (Lk.move rfl rfl) fun _ => ?_
    refine R.look rfl rfl rfl (Lk.conv rfl Tryd.underlying3 Tryd.underlying166 rfl) fun _ => ?_
    refine R.eff rfl rfl rfl (Eff.loc ok (Ef.call rfl CB94 rfl ((f94_ok hS).mono ?_)))
    rintro _ h_2 ⟨v18_0, v18_1, rfl, hS⟩
    refine fun ok => ⟨noChk, ?_⟩
    refine R.look rfl rfl rfl (Lk.move rfl rfl) fun _ => ?_
    refine R.look rfl rfl rfl (Lk.extract rfl rfl rfl) fun _ => ?_
    refine R.look rfl rfl rfl (Lk.extract rfl rfl rfl) fun _ => ?_
    refine R.look rfl rfl rfl (Lk.assign rfl rfl) fun _ => ?_
    refine R.look rfl rfl rfl (Lk.assign rfl rfl) fun _ => ?_
    refine R.nil ?_
    refine EvC.join (σ := Unit) (fun s => (Env.put (Env.put Env.emp 6 (.int .u64 v18_1)) 0 (.slice p0.a p0.l p0.c))) (fun s => []) (fun s h_3 => S72_j3 K v18_1 h_3) ?_ (fun Ih_3 hIh_3 => ?_)
    · rintro ⟨⟩ h_3 ok hS
      replace hS : S72_j3 K v18_1 h_3 := hS
      change EvC _ _ _ (Env.put (Env.put Env.emp 6 (.int .u64 v18_1)) 0 (.slice p0.a p0.l p0.c)) (H.add h_3 []) _
      unfold S72_j3 at hS
      refine EvC.seq ?_
      refine EvC.region [Item.look 0, Item.look 1, Item.alc 2, Item.look 3] (by kernel_rfl) ?_
      refine R.look rfl rfl rfl (Lk.move rfl rfl) fun _ => ?_
      refine R.look rfl rfl rfl (Lk.conv rfl Tryd.underlying166 Tryd.underlying3 rfl) fun _ => ?_
      obtain ⟨e1, e2, e3, e4, hS⟩ := hS
      refine R.new (blk := (.row ⟨zeros (.agg #[(.int .i64 0), (.int .i64 0), (.int .i64 0), (.int .i64 0), (.int .i64 0), (.int .i64 0), (.int .i64 0), (.int .i64 0)]) (Int.toNat (IntKind.wrap .i64 v18_1) * 8), (zeros (.agg #[(.int .i64 0), (.int .i64 0), (.int .i64 0), (.int .i64 0), (.int .i64 0), (.int .i64 0), (.int .i64 0), (.int .i64 0)]) (Int.toNat (IntKind.wrap .i64 v18_1) * 8)).length, 51, true, true⟩)) ok rfl rfl rfl (Ac.makeSlice rfl Tryd.underlying31 T51 rfl rfl e1 e2 e3 e4) rfl rfl fun b30 e5 ok => ?_
      replace hS := hS b30 _ e5 rfl
      refine R.look rfl rfl rfl (Lk.assign rfl rfl) fun _ => ?_
      refine R.nil ?_
      refine EvC.seq ?_
      refine EvC.region [Item.look 0, Item.look 1, Item.eff 2 [], Item.look 3] (by kernel_rfl) ?_
      refine R.look rfl rfl rfl (Lk.move rfl rfl) fun _ => ?_
      refine R.look rfl rfl rfl (Lk.move rfl rfl) fun _ => ?_
      obtain ⟨e6, hS⟩ := hS
      refine R.eff rfl rfl rfl (Eff.loc ok (Ef.copy0 rfl Tryd.underlying31 T51 rfl e6 rfl fun ok => ⟨noChk, ?_⟩))
      refine R.look rfl rfl rfl (Lk.assign rfl rfl) fun _ => ?_
      refine R.nil ?_
      refine EvC.join (σ := Unit) (fun s => (Env.put Env.emp 7 (.slice (some ⟨b30, 0, none⟩) (Int.toNat (IntKind.wrap .i64 v18_1)) (Int.toNat (IntKind.wrap .i64 v18_1))))) (fun s => []) (fun s h_5 => S72_j1 K v18_1 b30 h_5) ?_ (fun Ih_5 hIh_5 => ?_)
      · rintro ⟨⟩ h_5 ok hS
        replace hS : S72_j1 K v18_1 b30 h_5 := hS
        change EvC _ _ _ (Env.put Env.emp 7 (.slice (some ⟨b30, 0, none⟩) (Int.toNat (IntKind.wrap .i64 v18_1)) (Int.toNat (IntKind.wrap .i64 v18_1)))) (H.add h_5 []) _
        unfold S72_j1 at hS
        refine EvC.seq ?_
        refine EvC.region [Item.look 0, Item.look 1] (by kernel_rfl) ?_
        refine R.look rfl rfl rfl (Lk.move rfl rfl) fun _ => ?_
        refine R.look rfl rfl rfl (Lk.assign rfl rfl) fun _ => ?_
        refine R.nil ?_
        refine EvC.ret ?_
        exact ⟨.inr rfl, _, _, (.cons (.tmp rfl) .nil), ok.le, _, rfl, hS⟩
      · refine EvC.block ?_
        refine EvC.loop ?_
        refine LoopC.lfp (σ := Int) (fun s => (Env.put (Env.put Env.emp 8 (.int .i64 s)) 7 (.slice (some ⟨b30, 0, none⟩) (Int.toNat (IntKind.wrap .i64 v18_1)) (Int.toNat (IntKind.wrap .i64 v18_1))))) (fun s => []) (fun X hX => ?_) hS (ok.sub List.Sublist.slnil) (Env.le_put rfl (Env.le_put rfl (Env.le_emp _))) (H.add_sub ok List.Sublist.slnil)
        intro v8 h_6 hS ok
        replace hS : S72_l2 K v18_1 b30 X v8 h_6 := hS
        change EvC _ _ _ (Env.put (Env.put Env.emp 8 (.int .i64 v8)) 7 (.slice (some ⟨b30, 0, none⟩) (Int.toNat (IntKind.wrap .i64 v18_1)) (Int.toNat (IntKind.wrap .i64 v18_1)))) (H.add h_6 []) _
        unfold S72_l2 at hS
        refine EvC.seq ?_
        refine EvC.seq ?_
        refine EvC.region [Item.look 0, Item.look 1, Item.look 2, Item.look 3] (by kernel_rfl) ?_
        refine R.look rfl rfl rfl (Lk.move rfl rfl) fun _ => ?_
        refine R.look rfl rfl rfl (Lk.move rfl rfl) fun _ => ?_
        refine R.look rfl rfl rfl (Lk.len rfl Tryd.underlying31 rfl) fun _ => ?_
        refine R.look rfl rfl rfl (Lk.arith rfl rfl rfl rfl) fun _ => ?_
        refine R.nil ?_
        by_cases e7 : (decide (v8 < ((Int.toNat (IntKind.wrap .i64 v18_1)) : Int))) = true
        · rw [if_pos e7] at hS
          refine EvC.condT rfl e7 ?_
          refine EvC.skip ?_
          refine EvC.block ?_
          refine EvC.draw [0, 0, 0, 6, 0, 0, 48, 126, 255, 511] [Item.look 0, Item.look 1, Item.look 2, Item.look 3, Item.look 4, Item.look 5, Item.look 6, Item.eff 7 [0], Item.look 8, Item.look 9] MO (by kernel_rfl) ?_
          refine R.lookL rfl rfl rfl (Lk.move rfl rfl) ?_
          refine R.lookL rfl rfl rfl (Lk.move rfl rfl) ?_
          refine R.lookL rfl rfl rfl (Lk.move rfl rfl) ?_
          obtain ⟨e8, e9, e10, e11, hS⟩ := hS
          refine R.lookL (v := (.slice (if Int.toNat (IntKind.wrap .i64 v18_1) = Int.toNat v8 then some ⟨b30, 0, none⟩ else Option.map (fun x => Addr.add x (Int.toNat v8 * 8)) (some ⟨b30, 0, none⟩)) (Int.toNat ((Int.toNat (IntKind.wrap .i64 v18_1)) : Int) - Int.toNat v8) (Int.toNat (IntKind.wrap .i64 v18_1) - Int.toNat v8))) rfl rfl rfl (Lk.subSlice (i := v8) (j := ((Int.toNat (IntKind.wrap .i64 v18_1)) : Int)) rfl Tryd.underlying31 T51 rfl ⟨_, rfl⟩ rfl e8 e9 e10 e11) ?_
          refine R.lookL rfl rfl rfl (Lk.move rfl rfl) ?_
          refine R.lookL rfl rfl rfl (Lk.move rfl rfl) ?_
          obtain ⟨e12, e13, e14, e15, hS⟩ := hS
          refine R.lookL (v := (.slice (if Int.toNat (IntKind.wrap .i64 v18_1) = Int.toNat 0 then some ⟨b30, 0, none⟩ else Option.map (fun x => Addr.add x (Int.toNat 0 * 8)) (some ⟨b30, 0, none⟩)) (Int.toNat v8 - Int.toNat 0) (Int.toNat (IntKind.wrap .i64 v18_1) - Int.toNat 0))) rfl rfl rfl (Lk.subSlice (i := 0) (j := v8) rfl Tryd.underlying31 T51 rfl rfl ⟨_, rfl⟩ e12 e13 e14 e15) ?_
          obtain ⟨e16, hS⟩ := hS
          refine R.eff rfl rfl rfl (Eff.loc ok (Ef.copy0 rfl Tryd.underlying31 T51 rfl e16 rfl fun ok => ⟨(List.forall_mem_cons.2 ⟨(Log.past (by decide) (Log.past (by decide) (Log.past (by decide) (Log.past (by decide) (Log.past (by decide) (Log.past (by decide) (Log.at_ (LookG.of rfl (Lk.move rfl rfl))))))))), noChk⟩), ?_⟩))
          refine R.lookL rfl rfl rfl (Lk.arith rfl rfl rfl rfl) ?_
          refine R.lookL rfl rfl rfl (Lk.assign rfl rfl) ?_
          refine R.nil ?_
          exact hX (IntKind.wrap .i64 (v8 + 0)) _ _ _ hS (ok.sub List.Sublist.slnil) (Env.le_put rfl (Env.le_put rfl (Env.le_emp _))) (H.add_sub ok List.Sublist.slnil)
        · rw [if_neg e7] at hS
          replace e7 := eq_false_of_ne_true e7
          refine EvC.condF rfl e7 ?_
          refine EvC.exit ?_
          exact hIh_5 () _ _ _ (Env.le_put rfl (Env.le_emp _)) (ok.sub List.Sublist.slnil) (H.add_sub ok List.Sublist.slnil) hS
    · refine EvC.join (σ := Bool) (fun s => (Env.put (Env.put (Env.put Env.emp 26 (.bool s)) 6 (.int .u64 v18_1)) 0 (.slice p0.a p0.l p0.c))) (fun s => []) (fun s h_7 => S72_j4 K v18_1 s h_7) ?_ (fun Ih_7 hIh_7 => ?_)
      · intro v26 h_7 ok hS
        replace hS : S72_j4 K v18_1 v26 h_7 := hS
        change EvC _ _ _ (Env.put (Env.put (Env.put Env.emp 26 (.bool v26)) 6 (.int .u64 v18_1)) 0 (.slice p0.a p0.l p0.c)) (H.add h_7 []) _
        unfold S72_j4 at hS
        by_cases e17 : v26 = true
        · rw [if_pos e17] at hS
          refine EvC.condT rfl e17 ?_
          refine EvC.region [Item.look 0, Item.eff 1 []] (by kernel_rfl) ?_
          exact hS.elim
        · rw [if_neg e17] at hS
          replace e17 := eq_false_of_ne_true e17
          refine EvC.condF rfl e17 ?_
          refine EvC.skip ?_
          exact hIh_3 () _ _ _ (Env.le_put rfl (Env.le_put rfl (Env.le_emp _))) (ok.sub List.Sublist.slnil) (H.add_sub ok List.Sublist.slnil) hS
      · refine EvC.region [Item.look 0, Item.look 1, Item.look 2, Item.look 3, Item.look 4, Item.look 5] (by kernel_rfl) ?_
        refine R.look rfl rfl rfl (Lk.move rfl rfl) fun _ => ?_
        refine R.look rfl rfl rfl (Lk.arith rfl rfl rfl rfl) fun _ => ?_
        refine R.look rfl rfl rfl (Lk.move rfl rfl) fun _ => ?_
        by_cases e18 : (decide (v18_0 > 0)) = true
        · refine R.lookF rfl rfl rfl rfl e18 rfl fun _ => ?_
          refine R.lookF rfl rfl rfl rfl e18 rfl fun _ => ?_
          refine R.look rfl rfl rfl (Lk.pick rfl rfl (fun _ => rfl) (fun e => by rw [e18] at e; cases e)) fun _ => ?_
          refine R.nil ?_
          exact hIh_7 ((decide (v18_0 > 0)) || (decide (v18_1 > 9223372036854775807))) _ _ _ (Env.le_put rfl (Env.le_put rfl (Env.le_put (by rw [e18]; rfl) (Env.le_emp _)))) (ok.sub List.Sublist.slnil) (H.add_sub ok List.Sublist.slnil) hS
        · replace e18 := eq_false_of_ne_true e18
          refine R.lookT rfl rfl rfl rfl e18 rfl (Lk.move rfl rfl) fun _ => ?_
          refine R.lookT rfl rfl rfl rfl e18 rfl (Lk.arith rfl rfl rfl rfl) fun _ => ?_
          refine R.look rfl rfl rfl (Lk.pick rfl rfl (fun e => by rw [e18] at e; cases e) (fun _ => rfl)) fun _ => ?_
          refine R.nil ?_
          exact hIh_7 ((decide (v18_0 > 0)) || (decide (v18_1 > 9223372036854775807))) _ _ _ (Env.le_put rfl (Env.le_put rfl (Env.le_put (by rw [e18]; rfl) (Env.le_emp _)))) (ok.sub List.Sublist.slnil) (H.add_sub ok List.Sublist.slnil) hS
  · refine EvC.seq ?_
    refine EvC.region [Item.look 0, Item.look 1] (by kernel_rfl) ?_
    refine R.look rfl rfl rfl (Lk.move rfl rfl) fun _ => ?_
    refine R.look rfl rfl rfl (Lk.arith rfl rfl rfl rfl) fun _ => ?_
    refine R.nil ?_
    by_cases e19 : (decide (p1 < 0)) = true
    · rw [if_pos e19] at hS
      refine EvC.condT rfl e19 ?_
      refine EvC.region [Item.look 0, Item.eff 1 []] (by kernel_rfl) ?_
      exact hS.elim
    · rw [if_neg e19] at hS
      replace e19 := eq_false_of_ne_true e19
      refine EvC.condF rfl e19 ?_
      refine EvC.skip ?_
      exact hIh_1 () _ _ _ (Env.le_put rfl (Env.le_put rfl (Env.le_emp _))) (ok.sub List.Sublist.slnil) (H.add_sub ok List.Sublist.slnil) hS
end Go.Proofs.YtimadnngfhbfiaaDoor
end

section
/- PRINTED by wip/gen.py: the machine's call of muntin/grid.empty does what S73 says. -/
namespace Go.Proofs.YtimadnngfhbfiaaDoor
open Go Go.Mu
set_option maxHeartbeats 4000000
set_option maxRecDepth 100000
theorem f73_ok {h : H} {K : Int → Int → Int → Int → Int → Int → Int → Int → H → Prop} (hS : S73  h K) : ACall Tryd.prog 73 ([] : List Value).toArray h (fun r h' => ∃ r0_0 : Int, ∃ r0_1 : Int, ∃ r0_2 : Int, ∃ r0_3 : Int, ∃ r0_4 : Int, ∃ r0_5 : Int, ∃ r0_6 : Int, ∃ r0_7 : Int, r = tup [(.agg ([(.int .i64 r0_0), (.int .i64 r0_1), (.int .i64 r0_2), (.int .i64 r0_3), (.int .i64 r0_4), (.int .i64 r0_5), (.int .i64 r0_6), (.int .i64 r0_7)] : List Value).toArray)] ∧ K r0_0 r0_1 r0_2 r0_3 r0_4 r0_5 r0_6 r0_7 h') := by
  refine ACall.enter (fn := Tryd.f73) Tryd.func73 rfl (Nat.le_of_ble_eq_true rfl) ?_
  unfold S73 at hS
  have ok := Lok.nil h
  change EvC _ _ _ _ (H.add h []) _
  refine EvC.seq ?_
  refine EvC.region [Item.alc 0] (by kernel_rfl) ?_
  refine R.var (blk := .row ⟨[(.int .i64 0), (.int .i64 0), (.int .i64 0), (.int .i64 0), (.int .i64 0), (.int .i64 0), (.int .i64 0), (.int .i64 0)], 8, 51, true, true⟩) ok rfl rfl rfl (Ac.alloc rfl T51) rfl rfl fun b0 ok => ?_
  refine R.nil ?_
  refine EvC.seq ?_
  refine EvC.region [Item.look 0, Item.look 1, Item.eff 2 []] (by kernel_rfl) ?_
  refine R.look rfl rfl rfl (Lk.buildA (cs := [(.int .i64 (-1)), (.int .i64 (-1)), (.int .i64 (-1)), (.int .i64 (-1))]) rfl Tryd.underlying49 T49 T3 rfl rfl) fun _ => ?_
  refine R.look rfl rfl rfl (Lk.build (cs := [(.int .i64 (-1)), (.int .i64 (-1)), (.int .i64 (-1)), (.int .i64 (-1)), (.int .i64 0), (.int .i64 0), (.int .i64 0), (.int .i64 0)]) (pl := [(0, 4), (4, 4)]) rfl Tryd.underlying51 T51 (PlacesL.places (.cons T49 (.cons T49 PlacesL.nil))) rfl rfl) fun _ => ?_
  refine R.effN rfl rfl rfl (Ef.storeLoc (i := 0) (vs := [(.int .i64 (-1)), (.int .i64 (-1)), (.int .i64 (-1)), (.int .i64 (-1)), (.int .i64 0), (.int .i64 0), (.int .i64 0), (.int .i64 0)]) (cs := [(.int .i64 (-1)), (.int .i64 (-1)), (.int .i64 (-1)), (.int .i64 (-1)), (.int .i64 0), (.int .i64 0), (.int .i64 0), (.int .i64 0)]) (l' := [(b0, .row ⟨[(.int .i64 (-1)), (.int .i64 (-1)), (.int .i64 (-1)), (.int .i64 (-1)), (.int .i64 0), (.int .i64 0), (.int .i64 0), (.int .i64 0)], 8, 51, true, true⟩)]) ok rfl T51 rfl rfl rfl rfl rfl rfl rfl rfl rfl rfl fun ok => ⟨noChk, ?_⟩)
  refine R.nil ?_
  refine EvC.ret ?_
  exact ⟨.inr rfl, _, _, (.cons (.cells rfl (fun w => Und.agg Tryd.underlying51 w) (fun w => T51.size_ w) (H.rdn_loc ok (i := 0) rfl rfl rfl)) .nil), ok.le, _, _, _, _, _, _, _, _, rfl, hS⟩
end Go.Proofs.YtimadnngfhbfiaaDoor
end

section
/- PRINTED by wip/gen.py: the machine's call of muntin/grid.New does what S42 says. -/
namespace Go.Proofs.YtimadnngfhbfiaaDoor
open Go Go.Mu
set_option maxHeartbeats 4000000
set_option maxRecDepth 100000
theorem f42_ok {p0 : Int} {h : H} {K : Option Addr → Int → H → Prop} (hS : S42 p0 h K) : ACall Tryd.prog 42 ([(.int .i64 p0)] : List Value).toArray h (fun r h' => ∃ r0 : Option Addr, ∃ r1 : Int, r = tup [(.pointer r0), (.int .i64 r1)] ∧ K r0 r1 h') := by
  refine ACall.enter (fn := Tryd.f42) Tryd.func42 rfl (Nat.le_of_ble_eq_true rfl) ?_
  unfold S42 at hS
  have ok := Lok.nil h
  change EvC _ _ _ _ (H.add h []) _
  refine EvC.seq ?_
  refine EvC.region [Item.look 0, Item.look 1] (by kernel_rfl) ?_
  refine R.look rfl rfl rfl (Lk.assign rfl rfl) fun _ => ?_
  refine R.look rfl rfl rfl (Lk.assign rfl rfl) fun _ => ?_
  refine R.nil ?_
  refine EvC.seq ?_
  refine EvC.block ?_
  refine EvC.seq ?_
  refine EvC.region [Item.look 0, Item.look 1, Item.look 2] (by kernel_rfl) ?_
  refine R.look rfl rfl rfl (Lk.move rfl rfl) fun _ => ?_
  refine R.look rfl rfl rfl (Lk.arith rfl rfl rfl rfl) fun _ => ?_
  refine R.look rfl rfl rfl (Lk.assign rfl rfl) fun _ => ?_
  refine R.nil ?_
  by_cases e1 : (decide (p0 < 0)) = true
  · rw [if_pos e1] at hS
    refine EvC.condT rfl e1 ?_
    refine EvC.seq ?_
    refine EvC.region [Item.look 0, Item.look 1] (by kernel_rfl) ?_
    refine R.look rfl rfl rfl (Lk.assign rfl rfl) fun _ => ?_
    refine R.look rfl rfl rfl (Lk.assign rfl rfl) fun _ => ?_
    refine R.nil ?_
    refine EvC.ret ?_
    exact ⟨.inr rfl, _, _, (.cons (.tmp rfl) (.cons (.tmp rfl) .nil)), ok.le, _, _, rfl, hS⟩
  · rw [if_neg e1] at hS
    replace e1 := eq_false_of_ne_true e1
    refine EvC.condF rfl e1 ?_
    refine EvC.seq ?_
    refine EvC.region [Item.look 0, Item.look 1, Item.look 2] (by kernel_rfl) ?_
    refine R.look rfl rfl rfl (Lk.move rfl rfl) fun _ => ?_
    refine R.look rfl rfl rfl (Lk.arith rfl rfl rfl rfl) fun _ => ?_
    refine R.look rfl rfl rfl (Lk.assign rfl rfl) fun _ => ?_
    refine R.nil ?_
    by_cases e2 : (decide (p0 > 4096)) = true
    · rw [if_pos e2] at hS
      refine EvC.condT rfl e2 ?_
      refine EvC.seq ?_
      refine EvC.region [Item.look 0, Item.look 1] (by kernel_rfl) ?_
      refine R.look rfl rfl rfl (Lk.assign rfl rfl) fun _ => ?_
      refine R.look rfl rfl rfl (Lk.assign rfl rfl) fun _ => ?_
      refine R.nil ?_
      refine EvC.ret ?_
      exact ⟨.inr rfl, _, _, (.cons (.tmp rfl) (.cons (.tmp rfl) .nil)), ok.le, _, _, rfl, hS⟩
    · rw [if_neg e2] at hS
      replace e2 := eq_false_of_ne_true e2
      refine EvC.condF rfl e2 ?_
      refine EvC.skip ?_
      refine EvC.seq ?_
      refine EvC.region [Item.eff 0 [], Item.alc 1, Item.look 2, Item.eff 3 [], Item.look 4, Item.alc 5, Item.look 6, Item.look 7] (by kernel_rfl) ?_
      refine R.eff rfl rfl rfl (Eff.loc ok (Ef.call rfl CB73 rfl ((f73_ok hS).mono ?_)))
      rintro _ h_1 ⟨v10_0, v10_1, v10_2, v10_3, v10_4, v10_5, v10_6, v10_7, rfl, hS⟩
      refine fun ok => ⟨noChk, ?_⟩
      refine R.new (blk := (.row ⟨[(.int .i64 v10_0), (.int .i64 v10_1), (.int .i64 v10_2), (.int .i64 v10_3), (.int .i64 v10_4), (.int .i64 v10_5), (.int .i64 v10_6), (.int .i64 v10_7)], 8, 51, true, true⟩)) ok rfl rfl rfl (Ac.buildSlice (cs := [(.int .i64 v10_0), (.int .i64 v10_1), (.int .i64 v10_2), (.int .i64 v10_3), (.int .i64 v10_4), (.int .i64 v10_5), (.int .i64 v10_6), (.int .i64 v10_7)]) rfl Tryd.underlying31 T51 (by decide) (by decide) rfl rfl) rfl rfl fun b11 e3 ok => ?_
      replace hS := hS b11 _ e3 rfl
      refine R.look rfl rfl rfl (Lk.move rfl rfl) fun _ => ?_
      refine R.eff rfl rfl rfl (Eff.loc ok (Ef.call rfl CB72 rfl ((f72_ok hS).mono ?_)))
      rintro _ h_3 ⟨v13, rfl, hS⟩
      refine fun ok => ⟨noChk, ?_⟩
      refine R.look rfl rfl rfl (Lk.build (cs := [(.slice v13.a v13.l v13.c)]) (pl := [(0, 1)]) rfl Tryd.underlying151 T151 (PlacesL.places (.cons T31 PlacesL.nil)) rfl rfl) fun _ => ?_
      refine R.new (blk := (.row ⟨[(.slice v13.a v13.l v13.c)], 1, 151, true, true⟩)) ok rfl rfl rfl (Ac.box rfl rfl) rfl rfl fun b15 e4 ok => ?_
      replace hS := hS b15 _ e4 rfl
      refine R.look rfl rfl rfl (Lk.assign rfl rfl) fun _ => ?_
      refine R.look rfl rfl rfl (Lk.assign rfl rfl) fun _ => ?_
      refine R.nil ?_
      refine EvC.ret ?_
      exact ⟨.inr rfl, _, _, (.cons (.tmp rfl) (.cons (.tmp rfl) .nil)), ok.le, _, _, rfl, hS⟩
end Go.Proofs.YtimadnngfhbfiaaDoor
end

section
/- PRINTED by wip/gen.py: the machine's call of (*muntin/grid.Grid).Len does what S43 says. -/
namespace Go.Proofs.YtimadnngfhbfiaaDoor
open Go Go.Mu
set_option maxHeartbeats 4000000
set_option maxRecDepth 100000
theorem f43_ok {p0 : Option Addr} {h : H} {K : Int → H → Prop} (hS : S43 p0 h K) : ACall Tryd.prog 43 ([(.pointer p0)] : List Value).toArray h (fun r h' => ∃ r0 : Int, r = tup [(.int .i64 r0)] ∧ K r0 h') := by
  refine ACall.enter (fn := Tryd.f43) Tryd.func43 rfl (Nat.le_of_ble_eq_true rfl) ?_
  unfold S43 at hS
  have ok := Lok.nil h
  change EvC _ _ _ _ (H.add h []) _
  refine EvC.seq ?_
  refine EvC.region [Item.look 0] (by kernel_rfl) ?_
  refine R.look rfl rfl rfl (Lk.assign rfl rfl) fun _ => ?_
  refine R.nil ?_
  refine EvC.seq ?_
  refine EvC.seq ?_
  refine EvC.region [Item.look 0, Item.look 1] (by kernel_rfl) ?_
  refine R.look rfl rfl rfl (Lk.move rfl rfl) fun _ => ?_
  refine R.look rfl rfl rfl (Lk.ptrNil rfl Tryd.underlying103 rfl) fun _ => ?_
  refine R.nil ?_
  by_cases e1 : (Option.isNone p0) = true
  · rw [if_pos e1] at hS
    refine EvC.condT rfl e1 ?_
    refine EvC.seq ?_
    refine EvC.region [Item.look 0] (by kernel_rfl) ?_
    refine R.look rfl rfl rfl (Lk.assign rfl rfl) fun _ => ?_
    refine R.nil ?_
    refine EvC.ret ?_
    exact ⟨.inr rfl, _, _, (.cons (.tmp rfl) .nil), ok.le, _, rfl, hS⟩
  · rw [if_neg e1] at hS
    replace e1 := eq_false_of_ne_true e1
    refine EvC.condF rfl e1 ?_
    refine EvC.skip ?_
    refine EvC.seq ?_
    refine EvC.region [Item.look 0, Item.look 1, Item.look 2, Item.look 3, Item.look 4, Item.look 5] (by kernel_rfl) ?_
    refine R.look rfl rfl rfl (Lk.move rfl rfl) fun _ => ?_
    obtain ⟨a6, e2, hS⟩ := hS
    refine R.look (v := (.pointer (some a6))) rfl rfl rfl (Lk.nilChk rfl rfl e2) fun _ => ?_
    refine R.look (v := (.pointer (some a6))) rfl rfl rfl (Lk.fldAddr rfl Tryd.underlying151 rfl rfl T31 rfl rfl rfl) fun _ => ?_
    obtain ⟨v8, e3, hS⟩ := hS
    refine R.look rfl rfl rfl (Look.loc ok (Lk.load1 rfl Tryd.underlying31 rfl rfl e3)) fun _ => ?_
    refine R.look rfl rfl rfl (Lk.len rfl Tryd.underlying31 rfl) fun _ => ?_
    refine R.look rfl rfl rfl (Lk.assign rfl rfl) fun _ => ?_
    refine R.nil ?_
    refine EvC.ret ?_
    exact ⟨.inr rfl, _, _, (.cons (.tmp rfl) .nil), ok.le, _, rfl, hS⟩
end Go.Proofs.YtimadnngfhbfiaaDoor
end

section
/- PRINTED by wip/gen.py: the machine's call of (*muntin/grid.Grid).Add does what S95 says. -/
namespace Go.Proofs.YtimadnngfhbfiaaDoor
open Go Go.Mu
set_option maxHeartbeats 4000000
set_option maxRecDepth 100000
theorem f95_ok {p0 : Option Addr} {h : H} {K : Int → Int → H → Prop} (hS : S95 p0 h K) : ACall Tryd.prog 95 ([(.pointer p0)] : List Value).toArray h (fun r h' => ∃ r0 : Int, ∃ r1 : Int, r = tup [(.int .i64 r0), (.int .i64 r1)] ∧ K r0 r1 h') := by
  refine ACall.enter (fn := Tryd.f95) Tryd.func95 rfl (Nat.le_of_ble_eq_true rfl) ?_
  unfold S95 at hS
  have ok := Lok.nil h
  change EvC _ _ _ _ (H.add h []) _
  refine EvC.seq ?_
  refine EvC.region [Item.look 0, Item.look 1] (by kernel_rfl) ?_
  refine R.look rfl rfl rfl (Lk.assign rfl rfl) fun _ => ?_
  refine R.look rfl rfl rfl (Lk.assign rfl rfl) fun _ => ?_
  refine R.nil ?_
  refine EvC.seq ?_
  refine EvC.block ?_
  refine EvC.seq ?_
  refine EvC.region [Item.look 0, Item.look 1, Item.look 2] (by kernel_rfl) ?_
  refine R.look rfl rfl rfl (Lk.move rfl rfl) fun _ => ?_
  refine R.look rfl rfl rfl (Lk.ptrNil rfl Tryd.underlying103 rfl) fun _ => ?_
  refine R.look rfl rfl rfl (Lk.assign rfl rfl) fun _ => ?_
  refine R.nil ?_
  by_cases e1 : (Option.isNone p0) = true
  · rw [if_pos e1] at hS
    refine EvC.condT rfl e1 ?_
    refine EvC.seq ?_
    refine EvC.region [Item.look 0, Item.look 1] (by kernel_rfl) ?_
    refine R.look rfl rfl rfl (Lk.assign rfl rfl) fun _ => ?_
    refine R.look rfl rfl rfl (Lk.assign rfl rfl) fun _ => ?_
    refine R.nil ?_
    refine EvC.ret ?_
    exact ⟨.inr rfl, _, _, (.cons (.tmp rfl) (.cons (.tmp rfl) .nil)), ok.le, _, _, rfl, hS⟩
  · rw [if_neg e1] at hS
    replace e1 := eq_false_of_ne_true e1
    refine EvC.condF rfl e1 ?_
    refine EvC.seq ?_
    refine EvC.region [Item.look 0, Item.eff 1 [], Item.look 2, Item.look 3] (by kernel_rfl) ?_
    refine R.look rfl rfl rfl (Lk.move rfl rfl) fun _ => ?_
    refine R.eff rfl rfl rfl (Eff.loc ok (Ef.call rfl CB43 rfl ((f43_ok hS).mono ?_)))
    rintro _ h_1 ⟨v9, rfl, hS⟩
    refine fun ok => ⟨noChk, ?_⟩
    refine R.look rfl rfl rfl (Lk.arith rfl rfl rfl rfl) fun _ => ?_
    refine R.look rfl rfl rfl (Lk.assign rfl rfl) fun _ => ?_
    refine R.nil ?_
    by_cases e2 : (v9 == 4096) = true
    · rw [if_pos e2] at hS
      refine EvC.condT rfl e2 ?_
      refine EvC.seq ?_
      refine EvC.region [Item.look 0, Item.look 1] (by kernel_rfl) ?_
      refine R.look rfl rfl rfl (Lk.assign rfl rfl) fun _ => ?_
      refine R.look rfl rfl rfl (Lk.assign rfl rfl) fun _ => ?_
      refine R.nil ?_
      refine EvC.ret ?_
      exact ⟨.inr rfl, _, _, (.cons (.tmp rfl) (.cons (.tmp rfl) .nil)), ok.le, _, _, rfl, hS⟩
    · rw [if_neg e2] at hS
      replace e2 := eq_false_of_ne_true e2
      refine EvC.condF rfl e2 ?_
      refine EvC.skip ?_
      refine EvC.seq ?_
      refine EvC.draw [0, 0, 2, 6, 14, 0, 32, 126, 255, 511, 1023] [Item.look 0, Item.look 1, Item.look 2, Item.look 3, Item.look 4, Item.eff 5 [0, 1, 2, 3, 4], Item.alc 6, Item.eff 7 [0], Item.look 8, Item.look 9, Item.eff 10 []] MO (by kernel_rfl) ?_
      refine R.lookL rfl rfl rfl (Lk.move rfl rfl) ?_
      refine R.lookL rfl rfl rfl (Lk.move rfl rfl) ?_
      obtain ⟨a13, e3, hS⟩ := hS
      refine R.lookL (v := (.pointer (some a13))) rfl rfl rfl (Lk.nilChk rfl rfl e3) ?_
      refine R.lookL (v := (.pointer (some a13))) rfl rfl rfl (Lk.fldAddr rfl Tryd.underlying151 rfl rfl T31 rfl rfl rfl) ?_
      obtain ⟨v15, e4, hS⟩ := hS
      refine R.lookL rfl rfl rfl (Look.loc ok (Lk.load1 rfl Tryd.underlying31 rfl rfl e4)) ?_
      refine R.eff rfl rfl rfl (Eff.loc ok (Ef.call rfl CB73 rfl ((f73_ok hS).mono ?_)))
      rintro _ h_2 ⟨v16_0, v16_1, v16_2, v16_3, v16_4, v16_5, v16_6, v16_7, rfl, hS⟩
      obtain ⟨e5, hS⟩ := hS
      refine fun ok => ⟨(List.forall_mem_cons.2 ⟨(Log.past (by decide) (Log.past (by decide) (Log.past (by decide) (Log.past (by decide) (Log.at_ (LookG.of rfl (Lk.move rfl rfl))))))), (List.forall_mem_cons.2 ⟨(Log.past (by decide) (Log.past (by decide) (Log.past (by decide) (Log.at_ (LookG.of rfl (Lk.move rfl rfl)))))), (List.forall_mem_cons.2 ⟨(Log.past (by decide) (Log.past (by decide) (Log.at_ (LookG.of rfl (Lk.nilChk rfl rfl e3))))), (List.forall_mem_cons.2 ⟨(Log.past (by decide) (Log.at_ (LookG.of rfl (Lk.fldAddr rfl Tryd.underlying151 rfl rfl T31 rfl rfl rfl)))), (List.forall_mem_cons.2 ⟨(Log.at_ (LookG.of rfl (Look.loc ok (Lk.load1 rfl Tryd.underlying31 rfl rfl e5)))), noChk⟩)⟩)⟩)⟩)⟩), ?_⟩
      refine R.appL (cs := [(.int .i64 v16_0), (.int .i64 v16_1), (.int .i64 v16_2), (.int .i64 v16_3), (.int .i64 v16_4), (.int .i64 v16_5), (.int .i64 v16_6), (.int .i64 v16_7)]) ok rfl rfl rfl rfl rfl rfl rfl rfl Tryd.underlying31 T51 rfl (by decide) (by decide) rfl rfl rfl rfl rfl (fun _ => rfl) hS ?_
      intro bb17 v18 h_3 hS ok
      refine ⟨(List.forall_mem_cons.2 ⟨(Log.past (by decide) (Log.past (by decide) (Log.past (by decide) (Log.past (by decide) (Log.at_ (LookG.of rfl (Lk.move rfl rfl))))))), noChk⟩), ?_⟩
      obtain ⟨a19, e6, hS⟩ := hS
      refine R.lookL (v := (.pointer (some a19))) rfl rfl rfl (Lk.nilChk rfl rfl e6) ?_
      refine R.lookL (v := (.pointer (some a19))) rfl rfl rfl (Lk.fldAddr rfl Tryd.underlying151 rfl rfl T31 rfl rfl rfl) ?_
      obtain ⟨h_4, e7, hS⟩ := hS
      refine R.effN rfl rfl rfl (Eff.loc ok (Ef.store rfl T31 rfl rfl rfl rfl rfl e7 fun ok => ⟨noChk, ?_⟩))
      refine R.nil ?_
      refine EvC.seq ?_
      refine EvC.region [Item.look 0, Item.eff 1 [], Item.look 2, Item.look 3, Item.look 4] (by kernel_rfl) ?_
      refine R.look rfl rfl rfl (Lk.move rfl rfl) fun _ => ?_
      refine R.eff rfl rfl rfl (Eff.loc ok (Ef.call rfl CB43 rfl ((f43_ok hS).mono ?_)))
      rintro _ h_5 ⟨v22, rfl, hS⟩
      refine fun ok => ⟨noChk, ?_⟩
      refine R.look rfl rfl rfl (Lk.arith rfl rfl rfl rfl) fun _ => ?_
      refine R.look rfl rfl rfl (Lk.assign rfl rfl) fun _ => ?_
      refine R.look rfl rfl rfl (Lk.assign rfl rfl) fun _ => ?_
      refine R.nil ?_
      refine EvC.ret ?_
      exact ⟨.inr rfl, _, _, (.cons (.tmp rfl) (.cons (.tmp rfl) .nil)), ok.le, _, _, rfl, hS⟩
end Go.Proofs.YtimadnngfhbfiaaDoor
end

section
/- PRINTED by wip/gen.py: the machine's call of (*muntin/norm.maker).add does what S74 says. -/
namespace Go.Proofs.YtimadnngfhbfiaaDoor
open Go Go.Mu
set_option maxHeartbeats 4000000
set_option maxRecDepth 100000
theorem f74_ok {p0 : Option Addr} {h : H} {K : Int → H → Prop} (hS : S74 p0 h K) : ACall Tryd.prog 74 ([(.pointer p0)] : List Value).toArray h (fun r h' => ∃ r0 : Int, r = tup [(.int .i64 r0)] ∧ K r0 h') := by
  refine ACall.enter (fn := Tryd.f74) Tryd.func74 rfl (Nat.le_of_ble_eq_true rfl) ?_
  unfold S74 at hS
  have ok := Lok.nil h
  change EvC _ _ _ _ (H.add h []) _
  refine EvC.seq ?_
  refine EvC.region [Item.look 0] (by kernel_rfl) ?_
  refine R.look rfl rfl rfl (Lk.assign rfl rfl) fun _ => ?_
  refine R.nil ?_
  refine EvC.seq ?_
  refine EvC.region [Item.look 0, Item.look 1, Item.look 2, Item.look 3, Item.eff 4 [], Item.look 5, Item.look 6, Item.look 7, Item.look 8, Item.look 9] (by kernel_rfl) ?_
  refine R.look rfl rfl rfl (Lk.move rfl rfl) fun _ => ?_
  obtain ⟨a7, e1, hS⟩ := hS
  refine R.look (v := (.pointer (some a7))) rfl rfl rfl (Lk.nilChk rfl rfl e1) fun _ => ?_
  refine R.look (v := (.pointer (some (Addr.add a7 2)))) rfl rfl rfl (Lk.fldAddr rfl Tryd.underlying106 rfl rfl T103 rfl rfl rfl) fun _ => ?_
  obtain ⟨v9, e2, hS⟩ := hS
  refine R.look rfl rfl rfl (Look.loc ok (Lk.load1 rfl Tryd.underlying103 rfl rfl e2)) fun _ => ?_
  refine R.eff rfl rfl rfl (Eff.loc ok (Ef.call rfl CB95 rfl ((f95_ok hS).mono ?_)))
  rintro _ h_1 ⟨v10_0, v10_1, rfl, hS⟩
  refine fun ok => ⟨noChk, ?_⟩
  refine R.look rfl rfl rfl (Lk.move rfl rfl) fun _ => ?_
  refine R.look rfl rfl rfl (Lk.extract rfl rfl rfl) fun _ => ?_
  refine R.look rfl rfl rfl (Lk.extract rfl rfl rfl) fun _ => ?_
  refine R.look rfl rfl rfl (Lk.assign rfl rfl) fun _ => ?_
  refine R.look rfl rfl rfl (Lk.assign rfl rfl) fun _ => ?_
  refine R.nil ?_
  refine EvC.seq ?_
  refine EvC.region [Item.look 0, Item.look 1] (by kernel_rfl) ?_
  refine R.look rfl rfl rfl (Lk.move rfl rfl) fun _ => ?_
  refine R.look rfl rfl rfl (Lk.assign rfl rfl) fun _ => ?_
  refine R.nil ?_
  refine EvC.ret ?_
  exact ⟨.inr rfl, _, _, (.cons (.tmp rfl) .nil), ok.le, _, rfl, hS⟩
end Go.Proofs.YtimadnngfhbfiaaDoor
end

section
/- PRINTED by wip/gen.py: the machine's call of (*muntin/grid.Grid).is does what S96 says. -/
namespace Go.Proofs.YtimadnngfhbfiaaDoor
open Go Go.Mu
set_option maxHeartbeats 4000000
set_option maxRecDepth 100000
theorem f96_ok {p0 : Option Addr} {p1 : Int} {p2 : Int} {h : H} {K : Bool → H → Prop} (hS : S96 p0 p1 p2 h K) : ACall Tryd.prog 96 ([(.pointer p0), (.int .i64 p1), (.int .i64 p2)] : List Value).toArray h (fun r h' => ∃ r0 : Bool, r = tup [(.bool r0)] ∧ K r0 h') := by
  refine ACall.enter (fn := Tryd.f96) Tryd.func96 rfl (Nat.le_of_ble_eq_true rfl) ?_
  unfold S96 at hS
  have ok := Lok.nil h
  change EvC _ _ _ _ (H.add h []) _
  refine EvC.seq ?_
  refine EvC.region [Item.look 0] (by kernel_rfl) ?_
  refine R.look rfl rfl rfl (Lk.assign rfl rfl) fun _ => ?_
  refine R.nil ?_
  refine EvC.join (σ := Bool) (fun s => (Env.put Env.emp 6 (.bool s))) (fun s => []) (fun s h_1 => S96_j1 K s h_1) ?_ (fun Ih_1 hIh_1 => ?_)
  · intro v6 h_1 ok hS
    replace hS : S96_j1 K v6 h_1 := hS
    change EvC _ _ _ (Env.put Env.emp 6 (.bool v6)) (H.add h_1 []) _
    unfold S96_j1 at hS
    refine EvC.ret ?_
    exact ⟨.inr rfl, _, _, (.cons (.tmp rfl) .nil), ok.le, _, rfl, hS⟩
  · refine EvC.region [Item.look 0, Item.look 1, Item.look 2, Item.look 3, Item.look 4, Item.eff 5 [], Item.look 6, Item.look 7, Item.look 8, Item.look 9, Item.eff 10 [], Item.look 11, Item.look 12] (by kernel_rfl) ?_
    refine R.look rfl rfl rfl (Lk.move rfl rfl) fun _ => ?_
    refine R.look rfl rfl rfl (Lk.arith rfl rfl rfl rfl) fun _ => ?_
    refine R.look rfl rfl rfl (Lk.move rfl rfl) fun _ => ?_
    by_cases e1 : (decide (p1 ≥ 0)) = true
    · rw [if_pos e1] at hS
      refine R.lookT rfl rfl rfl rfl e1 rfl (Lk.move rfl rfl) fun _ => ?_
      refine R.lookT rfl rfl rfl rfl e1 rfl (Lk.move rfl rfl) fun _ => ?_
      refine R.effT rfl rfl rfl rfl e1 rfl (Eff.loc ok (Ef.call rfl CB43 rfl ((f43_ok hS).mono ?_)))
      rintro _ h_2 ⟨v12, rfl, hS⟩
      refine fun ok => ⟨noChk, ?_⟩
      refine R.lookT rfl rfl rfl rfl e1 rfl (Lk.arith rfl rfl rfl rfl) fun _ => ?_
      refine R.look rfl rfl rfl (Lk.pick rfl rfl (fun _ => rfl) (fun e => by rw [e1] at e; cases e)) fun _ => ?_
      refine R.look rfl rfl rfl (Lk.move rfl rfl) fun _ => ?_
      by_cases e2 : (decide (p1 < v12)) = true
      · rw [if_pos e2] at hS
        refine R.lookT rfl rfl rfl rfl e2 rfl (Lk.move rfl rfl) fun _ => ?_
        refine R.effT rfl rfl rfl rfl e2 rfl (Eff.loc ok (Ef.call rfl CB54 rfl ((f54_ok hS).mono ?_)))
        rintro _ h_3 ⟨v17, rfl, hS⟩
        refine fun ok => ⟨noChk, ?_⟩
        refine R.look rfl rfl rfl (Lk.pick rfl rfl (fun _ => rfl) (fun e => by rw [e2] at e; cases e)) fun _ => ?_
        refine R.look rfl rfl rfl (Lk.assign rfl rfl) fun _ => ?_
        refine R.nil ?_
        exact hIh_1 v17 _ _ _ (Env.le_put rfl (Env.le_emp _)) (ok.sub List.Sublist.slnil) (H.add_sub ok List.Sublist.slnil) hS
      · rw [if_neg e2] at hS
        replace e2 := eq_false_of_ne_true e2
        refine R.lookF rfl rfl rfl rfl e2 rfl fun _ => ?_
        refine R.effF rfl rfl rfl rfl e2 rfl ?_
        refine R.look rfl rfl rfl (Lk.pick rfl rfl (fun e => by rw [e2] at e; cases e) (fun _ => rfl)) fun _ => ?_
        refine R.look rfl rfl rfl (Lk.assign rfl rfl) fun _ => ?_
        refine R.nil ?_
        exact hIh_1 false _ _ _ (Env.le_put rfl (Env.le_emp _)) (ok.sub List.Sublist.slnil) (H.add_sub ok List.Sublist.slnil) hS
    · rw [if_neg e1] at hS
      replace e1 := eq_false_of_ne_true e1
      refine R.lookF rfl rfl rfl rfl e1 rfl fun _ => ?_
      refine R.lookF rfl rfl rfl rfl e1 rfl fun _ => ?_
      refine R.effF rfl rfl rfl rfl e1 rfl ?_
      refine R.lookF rfl rfl rfl rfl e1 rfl fun _ => ?_
      refine R.look rfl rfl rfl (Lk.pick rfl rfl (fun e => by rw [e1] at e; cases e) (fun _ => rfl)) fun _ => ?_
      refine R.look rfl rfl rfl (Lk.move rfl rfl) fun _ => ?_
      refine R.lookF rfl rfl rfl rfl rfl rfl fun _ => ?_
      refine R.effF rfl rfl rfl rfl rfl rfl ?_
      refine R.look rfl rfl rfl (Lk.pick rfl rfl (fun e => by cases e) (fun _ => rfl)) fun _ => ?_
      refine R.look rfl rfl rfl (Lk.assign rfl rfl) fun _ => ?_
      refine R.nil ?_
      exact hIh_1 false _ _ _ (Env.le_put rfl (Env.le_emp _)) (ok.sub List.Sublist.slnil) (H.add_sub ok List.Sublist.slnil) hS
end Go.Proofs.YtimadnngfhbfiaaDoor
end

section
/- PRINTED by wip/gen.py: the machine's call of (*muntin/grid.Grid).lay does what S97 says. -/
namespace Go.Proofs.YtimadnngfhbfiaaDoor
open Go Go.Mu
set_option maxHeartbeats 4000000
set_option maxRecDepth 100000
theorem f97_ok {p0 : Option Addr} {p1 : Int} {p2 : Int} {p3 : Int} {p4 : Int} {h : H} {K : H → Prop} (hS : S97 p0 p1 p2 p3 p4 h K) : ACall Tryd.prog 97 ([(.pointer p0), (.int .i64 p1), (.int .i64 p2), (.int .i64 p3), (.int .i64 p4)] : List Value).toArray h (fun r h' => r = tup [] ∧ K  h') := by
  refine ACall.enter (fn := Tryd.f97) Tryd.func97 rfl (Nat.le_of_ble_eq_true rfl) ?_
  unfold S97 at hS
  have ok := Lok.nil h
  change EvC _ _ _ _ (H.add h []) _
  refine EvC.seq ?_
  refine EvC.region [Item.look 0, Item.eff 1 [], Item.look 2] (by kernel_rfl) ?_
  refine R.look rfl rfl rfl (Lk.move rfl rfl) fun _ => ?_
  refine R.eff rfl rfl rfl (Eff.loc ok (Ef.call rfl CB56 rfl ((f56_ok hS).mono ?_)))
  rintro _ h_1 ⟨v12, rfl, hS⟩
  refine fun ok => ⟨noChk, ?_⟩
  refine R.look rfl rfl rfl (Lk.assign rfl rfl) fun _ => ?_
  refine R.nil ?_
  refine EvC.seq ?_
  refine EvC.draw [0, 1, 3, 7, 0, 0, 0, 64, 192, 448, 0, 0, 0, 0, 31, 16415, 54271, 119807, 1984, 264128, 1048575, 2097151] [Item.look 0, Item.look 1, Item.look 2, Item.look 3, Item.look 4, Item.look 5, Item.look 6, Item.look 7, Item.look 8, Item.look 9, Item.look 10, Item.look 11, Item.look 12, Item.look 13, Item.look 14, Item.look 15, Item.look 16, Item.look 18, Item.look 19, Item.eff 17 [10, 11, 13, 18, 19], Item.look 20, Item.eff 21 []] MO (by kernel_rfl) ?_
  refine R.lookL rfl rfl rfl (Lk.move rfl rfl) ?_
  obtain ⟨a14, e1, hS⟩ := hS
  refine R.lookL (v := (.pointer (some a14))) rfl rfl rfl (Lk.nilChk rfl rfl e1) ?_
  refine R.lookL (v := (.pointer (some a14))) rfl rfl rfl (Lk.fldAddr rfl Tryd.underlying151 rfl rfl T31 rfl rfl rfl) ?_
  obtain ⟨v16, e2, hS⟩ := hS
  refine R.lookL rfl rfl rfl (Look.loc ok (Lk.load1 rfl Tryd.underlying31 rfl rfl e2)) ?_
  refine R.lookL rfl rfl rfl (Lk.move rfl rfl) ?_
  refine R.lookL rfl rfl rfl (Lk.move rfl rfl) ?_
  refine R.lookL rfl rfl rfl (Lk.move rfl rfl) ?_
  obtain ⟨a20, e3, hS⟩ := hS
  refine R.lookL (v := (.pointer (some a20))) rfl rfl rfl (Lk.nilChk rfl rfl e3) ?_
  refine R.lookL (v := (.pointer (some a20))) rfl rfl rfl (Lk.fldAddr rfl Tryd.underlying151 rfl rfl T31 rfl rfl rfl) ?_
  obtain ⟨v22, e4, hS⟩ := hS
  refine R.lookL rfl rfl rfl (Look.loc ok (Lk.load1 rfl Tryd.underlying31 rfl rfl e4)) ?_
  refine R.lookL rfl rfl rfl (Lk.move rfl rfl) ?_
  refine R.lookL rfl rfl rfl (Lk.move rfl rfl) ?_
  refine R.lookL rfl rfl rfl (Lk.move rfl rfl) ?_
  refine R.lookL rfl rfl rfl (Lk.move rfl rfl) ?_
  obtain ⟨a27, e5, e6, e7, hS⟩ := hS
  refine R.lookL rfl rfl rfl (Lk.ixAddr rfl Tryd.underlying31 T51 rfl e5 rfl e6 e7) ?_
  refine R.lookL (v := (.pointer (some (Addr.add a27 (Int.toNat p1 * 8))))) rfl rfl rfl (Lk.fldAddr rfl Tryd.underlying51 rfl rfl T49 rfl rfl rfl) ?_
  obtain ⟨e8, e9, hS⟩ := hS
  refine R.lookL rfl rfl rfl (Lk.indexAddrA rfl Tryd.underlying49 T3 rfl rfl e8 e9) ?_
  obtain ⟨a30, e10, e11, e12, hS⟩ := hS
  refine R.lookL rfl rfl rfl (Lk.ixAddr rfl Tryd.underlying31 T51 rfl e10 rfl e11 e12) ?_
  refine R.lookL (v := (.pointer (some (Addr.add (Addr.add a30 (Int.toNat p1 * 8)) 4)))) rfl rfl rfl (Lk.fldAddr rfl Tryd.underlying51 rfl rfl T49 rfl rfl rfl) ?_
  obtain ⟨h_2, e13, hS⟩ := hS
  refine R.effN rfl rfl rfl (Eff.loc ok (Ef.store rfl T3 rfl rfl rfl rfl rfl e13 fun ok => ⟨(List.forall_mem_cons.2 ⟨(Log.past (by decide) (Log.past (by decide) (Log.past (by decide) (Log.past (by decide) (Log.past (by decide) (Log.past (by decide) (Log.past (by decide) (Log.past (by decide) (Log.at_ (LookG.of rfl (Lk.move rfl rfl))))))))))), (List.forall_mem_cons.2 ⟨(Log.past (by decide) (Log.past (by decide) (Log.past (by decide) (Log.past (by decide) (Log.past (by decide) (Log.past (by decide) (Log.past (by decide) (Log.at_ (LookG.of rfl (Lk.move rfl rfl)))))))))), (List.forall_mem_cons.2 ⟨(Log.past (by decide) (Log.past (by decide) (Log.past (by decide) (Log.past (by decide) (Log.past (by decide) (Log.at_ (LookG.of rfl (Lk.move rfl rfl)))))))), (List.forall_mem_cons.2 ⟨(Log.past (by decide) (Log.at_ (LookG.of rfl (Lk.ixAddr rfl Tryd.underlying31 T51 rfl e10 rfl e11 e12)))), (List.forall_mem_cons.2 ⟨(Log.at_ (LookG.of rfl (Lk.fldAddr rfl Tryd.underlying51 rfl rfl T49 rfl rfl rfl))), noChk⟩)⟩)⟩)⟩)⟩), ?_⟩))
  obtain ⟨e14, e15, hS⟩ := hS
  refine R.lookL rfl rfl rfl (Lk.indexAddrA rfl Tryd.underlying49 T3 rfl rfl e14 e15) ?_
  obtain ⟨h_3, e16, hS⟩ := hS
  refine R.effN rfl rfl rfl (Eff.loc ok (Ef.store rfl T3 rfl rfl rfl rfl rfl e16 fun ok => ⟨noChk, ?_⟩))
  refine R.nil ?_
  refine EvC.draw [0, 1, 3, 7, 0, 0, 0, 64, 192, 448, 0, 0, 0, 0, 31, 16415, 54271, 119807, 1984, 264128, 1048575, 2097151] [Item.look 0, Item.look 1, Item.look 2, Item.look 3, Item.look 4, Item.look 5, Item.look 6, Item.look 7, Item.look 8, Item.look 9, Item.look 10, Item.look 11, Item.look 12, Item.look 13, Item.look 14, Item.look 15, Item.look 16, Item.look 18, Item.look 19, Item.eff 17 [10, 11, 13, 18, 19], Item.look 20, Item.eff 21 []] MO (by kernel_rfl) ?_
  refine R.lookL rfl rfl rfl (Lk.move rfl rfl) ?_
  obtain ⟨a34, e17, hS⟩ := hS
  refine R.lookL (v := (.pointer (some a34))) rfl rfl rfl (Lk.nilChk rfl rfl e17) ?_
  refine R.lookL (v := (.pointer (some a34))) rfl rfl rfl (Lk.fldAddr rfl Tryd.underlying151 rfl rfl T31 rfl rfl rfl) ?_
  obtain ⟨v36, e18, hS⟩ := hS
  refine R.lookL rfl rfl rfl (Look.loc ok (Lk.load1 rfl Tryd.underlying31 rfl rfl e18)) ?_
  refine R.lookL rfl rfl rfl (Lk.move rfl rfl) ?_
  refine R.lookL rfl rfl rfl (Lk.move rfl rfl) ?_
  refine R.lookL rfl rfl rfl (Lk.move rfl rfl) ?_
  obtain ⟨a40, e19, hS⟩ := hS
  refine R.lookL (v := (.pointer (some a40))) rfl rfl rfl (Lk.nilChk rfl rfl e19) ?_
  refine R.lookL (v := (.pointer (some a40))) rfl rfl rfl (Lk.fldAddr rfl Tryd.underlying151 rfl rfl T31 rfl rfl rfl) ?_
  obtain ⟨v42, e20, hS⟩ := hS
  refine R.lookL rfl rfl rfl (Look.loc ok (Lk.load1 rfl Tryd.underlying31 rfl rfl e20)) ?_
  refine R.lookL rfl rfl rfl (Lk.move rfl rfl) ?_
  refine R.lookL rfl rfl rfl (Lk.move rfl rfl) ?_
  refine R.lookL rfl rfl rfl (Lk.move rfl rfl) ?_
  refine R.lookL rfl rfl rfl (Lk.move rfl rfl) ?_
  obtain ⟨a47, e21, e22, e23, hS⟩ := hS
  refine R.lookL rfl rfl rfl (Lk.ixAddr rfl Tryd.underlying31 T51 rfl e21 rfl e22 e23) ?_
  refine R.lookL (v := (.pointer (some (Addr.add a47 (Int.toNat p3 * 8))))) rfl rfl rfl (Lk.fldAddr rfl Tryd.underlying51 rfl rfl T49 rfl rfl rfl) ?_
  obtain ⟨e24, e25, hS⟩ := hS
  refine R.lookL rfl rfl rfl (Lk.indexAddrA rfl Tryd.underlying49 T3 rfl rfl e24 e25) ?_
  obtain ⟨a50, e26, e27, e28, hS⟩ := hS
  refine R.lookL rfl rfl rfl (Lk.ixAddr rfl Tryd.underlying31 T51 rfl e26 rfl e27 e28) ?_
  refine R.lookL (v := (.pointer (some (Addr.add (Addr.add a50 (Int.toNat p3 * 8)) 4)))) rfl rfl rfl (Lk.fldAddr rfl Tryd.underlying51 rfl rfl T49 rfl rfl rfl) ?_
  obtain ⟨h_4, e29, hS⟩ := hS
  refine R.effN rfl rfl rfl (Eff.loc ok (Ef.store rfl T3 rfl rfl rfl rfl rfl e29 fun ok => ⟨(List.forall_mem_cons.2 ⟨(Log.past (by decide) (Log.past (by decide) (Log.past (by decide) (Log.past (by decide) (Log.past (by decide) (Log.past (by decide) (Log.past (by decide) (Log.past (by decide) (Log.at_ (LookG.of rfl (Lk.move rfl rfl))))))))))), (List.forall_mem_cons.2 ⟨(Log.past (by decide) (Log.past (by decide) (Log.past (by decide) (Log.past (by decide) (Log.past (by decide) (Log.past (by decide) (Log.past (by decide) (Log.at_ (LookG.of rfl (Lk.move rfl rfl)))))))))), (List.forall_mem_cons.2 ⟨(Log.past (by decide) (Log.past (by decide) (Log.past (by decide) (Log.past (by decide) (Log.past (by decide) (Log.at_ (LookG.of rfl (Lk.move rfl rfl)))))))), (List.forall_mem_cons.2 ⟨(Log.past (by decide) (Log.at_ (LookG.of rfl (Lk.ixAddr rfl Tryd.underlying31 T51 rfl e26 rfl e27 e28)))), (List.forall_mem_cons.2 ⟨(Log.at_ (LookG.of rfl (Lk.fldAddr rfl Tryd.underlying51 rfl rfl T49 rfl rfl rfl))), noChk⟩)⟩)⟩)⟩)⟩), ?_⟩))
  obtain ⟨e30, e31, hS⟩ := hS
  refine R.lookL rfl rfl rfl (Lk.indexAddrA rfl Tryd.underlying49 T3 rfl rfl e30 e31) ?_
  obtain ⟨h_5, e32, hS⟩ := hS
  refine R.effN rfl rfl rfl (Eff.loc ok (Ef.store rfl T3 rfl rfl rfl rfl rfl e32 fun ok => ⟨noChk, ?_⟩))
  refine R.nil ?_
  exact ⟨.inl rfl, _, _, .nil, ok.le, rfl, hS⟩
end Go.Proofs.YtimadnngfhbfiaaDoor
end

section
/- PRINTED by wip/gen.py: the machine's call of (*muntin/grid.Grid).Join does what S75 says. -/
namespace Go.Proofs.YtimadnngfhbfiaaDoor
open Go Go.Mu
set_option maxHeartbeats 4000000
set_option maxRecDepth 100000
theorem f75_ok {p0 : Option Addr} {p1 : Int} {p2 : Int} {p3 : Int} {p4 : Int} {h : H} {K : Int → H → Prop} (hS : S75 p0 p1 p2 p3 p4 h K) : ACall Tryd.prog 75 ([(.pointer p0), (.int .i64 p1), (.int .i64 p2), (.int .i64 p3), (.int .i64 p4)] : List Value).toArray h (fun r h' => ∃ r0 : Int, r = tup [(.int .i64 r0)] ∧ K r0 h') := by
  refine ACall.enter (fn := Tryd.f75) Tryd.func75 rfl (Nat.le_of_ble_eq_true rfl) ?_
  unfold S75 at hS
  have ok := Lok.nil h
  change EvC _ _ _ _ (H.add h []) _
  refine EvC.seq ?_
  refine EvC.region [Item.look 0] (by kernel_rfl) ?_
  refine R.look rfl rfl rfl (Lk.assign rfl rfl) fun _ => ?_
  refine R.nil ?_
  refine EvC.seq ?_
  refine EvC.block ?_
  refine EvC.seq ?_
  refine EvC.region [Item.look 0, Item.look 1, Item.look 2] (by kernel_rfl) ?_
  refine R.look rfl rfl rfl (Lk.move rfl rfl) fun _ => ?_
  refine R.look rfl rfl rfl (Lk.ptrNil rfl Tryd.underlying103 rfl) fun _ => ?_
  refine R.look rfl rfl rfl (Lk.assign rfl rfl) fun _ => ?_
  refine R.nil ?_
  by_cases e1 : (Option.isNone p0) = true
  · rw [if_pos e1] at hS
    refine EvC.condT rfl e1 ?_
    refine EvC.seq ?_
    refine EvC.region [Item.look 0] (by kernel_rfl) ?_
    refine R.look rfl rfl rfl (Lk.assign rfl rfl) fun _ => ?_
    refine R.nil ?_
    refine EvC.ret ?_
    exact ⟨.inr rfl, _, _, (.cons (.tmp rfl) .nil), ok.le, _, rfl, hS⟩
  · rw [if_neg e1] at hS
    replace e1 := eq_false_of_ne_true e1
    refine EvC.condF rfl e1 ?_
    refine EvC.join (σ := Bool) (fun s => (Env.put (Env.put (Env.put (Env.put (Env.put (Env.put Env.emp 14 (.bool s)) 4 (.int .i64 p4)) 3 (.int .i64 p3)) 2 (.int .i64 p2)) 1 (.int .i64 p1)) 0 (.pointer p0))) (fun s => []) (fun s h_1 => S75_j2 p0 p1 p2 p3 p4 K s h_1) ?_ (fun Ih_1 hIh_1 => ?_)
    · intro v14 h_1 ok hS
      replace hS : S75_j2 p0 p1 p2 p3 p4 K v14 h_1 := hS
      change EvC _ _ _ (Env.put (Env.put (Env.put (Env.put (Env.put (Env.put Env.emp 14 (.bool v14)) 4 (.int .i64 p4)) 3 (.int .i64 p3)) 2 (.int .i64 p2)) 1 (.int .i64 p1)) 0 (.pointer p0)) (H.add h_1 []) _
      unfold S75_j2 at hS
      by_cases e2 : v14 = true
      · rw [if_pos e2] at hS
        refine EvC.condT rfl e2 ?_
        refine EvC.seq ?_
        refine EvC.region [Item.look 0] (by kernel_rfl) ?_
        refine R.look rfl rfl rfl (Lk.assign rfl rfl) fun _ => ?_
        refine R.nil ?_
        refine EvC.ret ?_
        exact ⟨.inr rfl, _, _, (.cons (.tmp rfl) .nil), ok.le, _, rfl, hS⟩
      · rw [if_neg e2] at hS
        replace e2 := eq_false_of_ne_true e2
        refine EvC.condF rfl e2 ?_
        refine EvC.join (σ := Bool) (fun s => (Env.put (Env.put (Env.put (Env.put (Env.put (Env.put Env.emp 36 (.bool s)) 4 (.int .i64 p4)) 3 (.int .i64 p3)) 2 (.int .i64 p2)) 1 (.int .i64 p1)) 0 (.pointer p0))) (fun s => []) (fun s h_2 => S75_j1 p0 p1 p2 p3 p4 K s h_2) ?_ (fun Ih_2 hIh_2 => ?_)
        · intro v36 h_2 ok hS
          replace hS : S75_j1 p0 p1 p2 p3 p4 K v36 h_2 := hS
          change EvC _ _ _ (Env.put (Env.put (Env.put (Env.put (Env.put (Env.put Env.emp 36 (.bool v36)) 4 (.int .i64 p4)) 3 (.int .i64 p3)) 2 (.int .i64 p2)) 1 (.int .i64 p1)) 0 (.pointer p0)) (H.add h_2 []) _
          unfold S75_j1 at hS
          by_cases e3 : v36 = true
          · rw [if_pos e3] at hS
            refine EvC.condT rfl e3 ?_
            refine EvC.seq ?_
            refine EvC.region [Item.look 0] (by kernel_rfl) ?_
            refine R.look rfl rfl rfl (Lk.assign rfl rfl) fun _ => ?_
            refine R.nil ?_
            refine EvC.ret ?_
            exact ⟨.inr rfl, _, _, (.cons (.tmp rfl) .nil), ok.le, _, rfl, hS⟩
          · rw [if_neg e3] at hS
            replace e3 := eq_false_of_ne_true e3
            refine EvC.condF rfl e3 ?_
            refine EvC.skip ?_
            refine EvC.seq ?_
            refine EvC.region [Item.look 0, Item.look 1, Item.look 2, Item.look 3, Item.look 4, Item.eff 5 []] (by kernel_rfl) ?_
            refine R.look rfl rfl rfl (Lk.move rfl rfl) fun _ => ?_
            refine R.look rfl rfl rfl (Lk.move rfl rfl) fun _ => ?_
            refine R.look rfl rfl rfl (Lk.move rfl rfl) fun _ => ?_
            refine R.look rfl rfl rfl (Lk.move rfl rfl) fun _ => ?_
            refine R.look rfl rfl rfl (Lk.move rfl rfl) fun _ => ?_
            refine R.eff rfl rfl rfl (Eff.loc ok (Ef.call rfl CB97 rfl ((f97_ok hS).mono ?_)))
            rintro _ h_3 ⟨rfl, hS⟩
            refine fun ok => ⟨noChk, ?_⟩
            refine R.nil ?_
            refine EvC.seq ?_
            refine EvC.region [Item.look 0] (by kernel_rfl) ?_
            refine R.look rfl rfl rfl (Lk.assign rfl rfl) fun _ => ?_
            refine R.nil ?_
            refine EvC.ret ?_
            exact ⟨.inr rfl, _, _, (.cons (.tmp rfl) .nil), ok.le, _, rfl, hS⟩
        · refine EvC.draw [0, 1, 3, 7, 0, 0, 31, 95, 255, 511, 1023, 2047, 4095, 8191, 16383, 32767, 4095, 4095, 135167, 131071, 655359, 2097151, 4194303, 8388607, 16777215, 33554431] [Item.look 0, Item.look 1, Item.look 2, Item.look 3, Item.look 4, Item.look 5, Item.look 6, Item.look 7, Item.look 8, Item.look 9, Item.look 10, Item.look 11, Item.look 12, Item.look 13, Item.look 14, Item.look 15, Item.look 16, Item.look 17, Item.look 19, Item.look 20, Item.eff 18 [12, 13, 14, 15, 16, 19, 20], Item.look 21, Item.look 22, Item.look 23, Item.look 24, Item.look 25] MO (by kernel_rfl) ?_
          refine R.lookL rfl rfl rfl (Lk.move rfl rfl) ?_
          obtain ⟨a38, e4, hS⟩ := hS
          refine R.lookL (v := (.pointer (some a38))) rfl rfl rfl (Lk.nilChk rfl rfl e4) ?_
          refine R.lookL (v := (.pointer (some a38))) rfl rfl rfl (Lk.fldAddr rfl Tryd.underlying151 rfl rfl T31 rfl rfl rfl) ?_
          obtain ⟨v40, e5, hS⟩ := hS
          refine R.lookL rfl rfl rfl (Look.loc ok (Lk.load1 rfl Tryd.underlying31 rfl rfl e5)) ?_
          refine R.lookL rfl rfl rfl (Lk.move rfl rfl) ?_
          refine R.lookL rfl rfl rfl (Lk.move rfl rfl) ?_
          obtain ⟨a43, e6, e7, e8, hS⟩ := hS
          refine R.lookL rfl rfl rfl (Lk.ixAddr rfl Tryd.underlying31 T51 rfl e6 rfl e7 e8) ?_
          refine R.lookL (v := (.pointer (some (Addr.add a43 (Int.toNat p1 * 8))))) rfl rfl rfl (Lk.fldAddr rfl Tryd.underlying51 rfl rfl T49 rfl rfl rfl) ?_
          obtain ⟨e9, e10, hS⟩ := hS
          refine R.lookL rfl rfl rfl (Lk.indexAddrA rfl Tryd.underlying49 T3 rfl rfl e9 e10) ?_
          obtain ⟨v46, e11, hS⟩ := hS
          refine R.lookL rfl rfl rfl (Look.loc ok (Lk.load1 rfl Tryd.underlying3 rfl rfl e11)) ?_
          refine R.lookL rfl rfl rfl (Lk.arith rfl rfl rfl rfl) ?_
          refine R.lookL rfl rfl rfl (Lk.move rfl rfl) ?_
          by_cases e12 : (v46 != (-1)) = true
          · rw [if_pos e12] at hS
            refine R.lookFL rfl rfl rfl rfl e12 rfl ?_
            refine R.lookFL rfl rfl rfl rfl e12 rfl ?_
            refine R.lookFL rfl rfl rfl rfl e12 rfl ?_
            refine R.lookFL rfl rfl rfl rfl e12 rfl ?_
            refine R.lookFL rfl rfl rfl rfl e12 rfl ?_
            refine R.lookFL rfl rfl rfl rfl e12 rfl ?_
            refine R.lookFL rfl rfl rfl rfl e12 rfl ?_
            refine R.lookFL rfl rfl rfl rfl e12 rfl ?_
            refine R.effF rfl rfl rfl rfl e12 rfl ?_
            refine R.lookFL rfl rfl rfl rfl e12 rfl ?_
            refine R.lookFL rfl rfl rfl rfl e12 rfl ?_
            refine R.lookFL rfl rfl rfl rfl e12 rfl ?_
            refine R.lookL rfl rfl rfl (Lk.pick rfl rfl (fun _ => rfl) (fun e => by rw [e12] at e; cases e)) ?_
            refine R.lookL rfl rfl rfl (Lk.assign rfl rfl) ?_
            refine R.nil ?_
            exact hIh_2 true _ _ _ (Env.le_put rfl (Env.le_put rfl (Env.le_put rfl (Env.le_put rfl (Env.le_put rfl (Env.le_put rfl (Env.le_emp _))))))) (ok.sub List.Sublist.slnil) (H.add_sub ok List.Sublist.slnil) hS
          · rw [if_neg e12] at hS
            replace e12 := eq_false_of_ne_true e12
            refine R.lookTL rfl rfl rfl rfl e12 rfl (Lk.move rfl rfl) ?_
            obtain ⟨a50, e13, hS⟩ := hS
            refine R.lookTL (v := (.pointer (some a50))) rfl rfl rfl rfl e12 rfl (Lk.nilChk rfl rfl e13) ?_
            refine R.lookTL (v := (.pointer (some a50))) rfl rfl rfl rfl e12 rfl (Lk.fldAddr rfl Tryd.underlying151 rfl rfl T31 rfl rfl rfl) ?_
            obtain ⟨v52, e14, hS⟩ := hS
            refine R.lookTL rfl rfl rfl rfl e12 rfl (Look.loc ok (Lk.load1 rfl Tryd.underlying31 rfl rfl e14)) ?_
            refine R.lookTL rfl rfl rfl rfl e12 rfl (Lk.move rfl rfl) ?_
            refine R.lookTL rfl rfl rfl rfl e12 rfl (Lk.move rfl rfl) ?_
            obtain ⟨a56, e15, e16, e17, hS⟩ := hS
            refine R.lookTL rfl rfl rfl rfl e12 rfl (Lk.ixAddr rfl Tryd.underlying31 T51 rfl e15 rfl e16 e17) ?_
            refine R.lookTL (v := (.pointer (some (Addr.add a56 (Int.toNat p3 * 8))))) rfl rfl rfl rfl e12 rfl (Lk.fldAddr rfl Tryd.underlying51 rfl rfl T49 rfl rfl rfl) ?_
            refine R.effT rfl rfl rfl rfl e12 rfl (Eff.loc ok (Ef.call rfl CB56 rfl ((f56_ok hS).mono ?_)))
            rintro _ h_4 ⟨v55, rfl, hS⟩
            obtain ⟨e18, hS⟩ := hS
            refine fun ok => ⟨(List.forall_mem_cons.2 ⟨(Log.past (by decide) (Log.past (by decide) (Log.past (by decide) (Log.past (by decide) (Log.past (by decide) (Log.past (by decide) (Log.past (by decide) (Log.at_ (LookG.ofT rfl rfl rfl e12 (Lk.move rfl rfl)))))))))), (List.forall_mem_cons.2 ⟨(Log.past (by decide) (Log.past (by decide) (Log.past (by decide) (Log.past (by decide) (Log.past (by decide) (Log.past (by decide) (Log.at_ (LookG.ofT rfl rfl rfl e12 (Lk.nilChk rfl rfl e13))))))))), (List.forall_mem_cons.2 ⟨(Log.past (by decide) (Log.past (by decide) (Log.past (by decide) (Log.past (by decide) (Log.past (by decide) (Log.at_ (LookG.ofT rfl rfl rfl e12 (Lk.fldAddr rfl Tryd.underlying151 rfl rfl T31 rfl rfl rfl)))))))), (List.forall_mem_cons.2 ⟨(Log.past (by decide) (Log.past (by decide) (Log.past (by decide) (Log.past (by decide) (Log.at_ (LookG.ofT rfl rfl rfl e12 (Look.loc ok (Lk.load1 rfl Tryd.underlying31 rfl rfl e18)))))))), (List.forall_mem_cons.2 ⟨(Log.past (by decide) (Log.past (by decide) (Log.past (by decide) (Log.at_ (LookG.ofT rfl rfl rfl e12 (Lk.move rfl rfl)))))), (List.forall_mem_cons.2 ⟨(Log.past (by decide) (Log.at_ (LookG.ofT rfl rfl rfl e12 (Lk.ixAddr rfl Tryd.underlying31 T51 rfl e15 rfl e16 e17)))), (List.forall_mem_cons.2 ⟨(Log.at_ (LookG.ofT rfl rfl rfl e12 (Lk.fldAddr rfl Tryd.underlying51 rfl rfl T49 rfl rfl rfl))), noChk⟩)⟩)⟩)⟩)⟩)⟩)⟩), ?_⟩
            obtain ⟨e19, e20, hS⟩ := hS
            refine R.lookTL rfl rfl rfl rfl e12 rfl (Lk.indexAddrA rfl Tryd.underlying49 T3 rfl rfl e19 e20) ?_
            obtain ⟨v59, e21, hS⟩ := hS
            refine R.lookTL rfl rfl rfl rfl e12 rfl (Look.loc ok (Lk.load1 rfl Tryd.underlying3 rfl rfl e21)) ?_
            refine R.lookTL rfl rfl rfl rfl e12 rfl (Lk.arith rfl rfl rfl rfl) ?_
            refine R.lookL rfl rfl rfl (Lk.pick rfl rfl (fun e => by rw [e12] at e; cases e) (fun _ => rfl)) ?_
            refine R.lookL rfl rfl rfl (Lk.assign rfl rfl) ?_
            refine R.nil ?_
            exact hIh_2 (v59 != (-1)) _ _ _ (Env.le_put rfl (Env.le_put rfl (Env.le_put rfl (Env.le_put rfl (Env.le_put rfl (Env.le_put rfl (Env.le_emp _))))))) (ok.sub List.Sublist.slnil) (H.add_sub ok List.Sublist.slnil) hS
    · refine EvC.region [Item.look 0, Item.look 1, Item.look 2, Item.eff 3 [], Item.look 4, Item.look 5, Item.look 6, Item.look 7, Item.look 8, Item.eff 9 [], Item.look 10, Item.look 11, Item.look 12, Item.look 13, Item.look 14, Item.look 15, Item.look 16, Item.look 17, Item.look 18, Item.look 19, Item.look 20, Item.look 21] (by kernel_rfl) ?_
      refine R.look rfl rfl rfl (Lk.move rfl rfl) fun _ => ?_
      refine R.look rfl rfl rfl (Lk.move rfl rfl) fun _ => ?_
      refine R.look rfl rfl rfl (Lk.move rfl rfl) fun _ => ?_
      refine R.eff rfl rfl rfl (Eff.loc ok (Ef.call rfl CB96 rfl ((f96_ok hS).mono ?_)))
      rintro _ h_5 ⟨v18, rfl, hS⟩
      refine fun ok => ⟨noChk, ?_⟩
      refine R.look rfl rfl rfl (Lk.not rfl rfl) fun _ => ?_
      refine R.look rfl rfl rfl (Lk.move rfl rfl) fun _ => ?_
      by_cases e22 : (!v18) = true
      · rw [if_pos e22] at hS
        refine R.lookF rfl rfl rfl rfl e22 rfl fun _ => ?_
        refine R.lookF rfl rfl rfl rfl e22 rfl fun _ => ?_
        refine R.lookF rfl rfl rfl rfl e22 rfl fun _ => ?_
        refine R.effF rfl rfl rfl rfl e22 rfl ?_
        refine R.lookF rfl rfl rfl rfl e22 rfl fun _ => ?_
        refine R.look rfl rfl rfl (Lk.pick rfl rfl (fun _ => rfl) (fun e => by rw [e22] at e; cases e)) fun _ => ?_
        refine R.look rfl rfl rfl (Lk.move rfl rfl) fun _ => ?_
        refine R.lookF rfl rfl rfl rfl rfl rfl fun _ => ?_
        refine R.lookF rfl rfl rfl rfl rfl rfl fun _ => ?_
        refine R.lookF rfl rfl rfl rfl rfl rfl fun _ => ?_
        refine R.look rfl rfl rfl (Lk.pick rfl rfl (fun _ => rfl) (fun e => by cases e)) fun _ => ?_
        refine R.look rfl rfl rfl (Lk.move rfl rfl) fun _ => ?_
        refine R.lookF rfl rfl rfl rfl rfl rfl fun _ => ?_
        refine R.lookF rfl rfl rfl rfl rfl rfl fun _ => ?_
        refine R.look rfl rfl rfl (Lk.pick rfl rfl (fun _ => rfl) (fun e => by cases e)) fun _ => ?_
        refine R.look rfl rfl rfl (Lk.assign rfl rfl) fun _ => ?_
        refine R.nil ?_
        exact hIh_1 true _ _ _ (Env.le_put rfl (Env.le_put rfl (Env.le_put rfl (Env.le_put rfl (Env.le_put rfl (Env.le_put rfl (Env.le_emp _))))))) (ok.sub List.Sublist.slnil) (H.add_sub ok List.Sublist.slnil) hS
      · rw [if_neg e22] at hS
        replace e22 := eq_false_of_ne_true e22
        refine R.lookT rfl rfl rfl rfl e22 rfl (Lk.move rfl rfl) fun _ => ?_
        refine R.lookT rfl rfl rfl rfl e22 rfl (Lk.move rfl rfl) fun _ => ?_
        refine R.lookT rfl rfl rfl rfl e22 rfl (Lk.move rfl rfl) fun _ => ?_
        refine R.effT rfl rfl rfl rfl e22 rfl (Eff.loc ok (Ef.call rfl CB96 rfl ((f96_ok hS).mono ?_)))
        rintro _ h_6 ⟨v24, rfl, hS⟩
        refine fun ok => ⟨noChk, ?_⟩
        refine R.lookT rfl rfl rfl rfl e22 rfl (Lk.not rfl rfl) fun _ => ?_
        refine R.look rfl rfl rfl (Lk.pick rfl rfl (fun e => by rw [e22] at e; cases e) (fun _ => rfl)) fun _ => ?_
        refine R.look rfl rfl rfl (Lk.move rfl rfl) fun _ => ?_
        by_cases e23 : (!v24) = true
        · rw [if_pos e23] at hS
          refine R.lookF rfl rfl rfl rfl e23 rfl fun _ => ?_
          refine R.lookF rfl rfl rfl rfl e23 rfl fun _ => ?_
          refine R.lookF rfl rfl rfl rfl e23 rfl fun _ => ?_
          refine R.look rfl rfl rfl (Lk.pick rfl rfl (fun _ => rfl) (fun e => by rw [e23] at e; cases e)) fun _ => ?_
          refine R.look rfl rfl rfl (Lk.move rfl rfl) fun _ => ?_
          refine R.lookF rfl rfl rfl rfl rfl rfl fun _ => ?_
          refine R.lookF rfl rfl rfl rfl rfl rfl fun _ => ?_
          refine R.look rfl rfl rfl (Lk.pick rfl rfl (fun _ => rfl) (fun e => by cases e)) fun _ => ?_
          refine R.look rfl rfl rfl (Lk.assign rfl rfl) fun _ => ?_
          refine R.nil ?_
          exact hIh_1 true _ _ _ (Env.le_put rfl (Env.le_put rfl (Env.le_put rfl (Env.le_put rfl (Env.le_put rfl (Env.le_put rfl (Env.le_emp _))))))) (ok.sub List.Sublist.slnil) (H.add_sub ok List.Sublist.slnil) hS
        · rw [if_neg e23] at hS
          replace e23 := eq_false_of_ne_true e23
          refine R.lookT rfl rfl rfl rfl e23 rfl (Lk.move rfl rfl) fun _ => ?_
          refine R.lookT rfl rfl rfl rfl e23 rfl (Lk.move rfl rfl) fun _ => ?_
          refine R.lookT rfl rfl rfl rfl e23 rfl (Lk.arith rfl rfl rfl rfl) fun _ => ?_
          refine R.look rfl rfl rfl (Lk.pick rfl rfl (fun e => by rw [e23] at e; cases e) (fun _ => rfl)) fun _ => ?_
          refine R.look rfl rfl rfl (Lk.move rfl rfl) fun _ => ?_
          by_cases e24 : (p1 == p3) = true
          · rw [if_pos e24] at hS
            refine R.lookF rfl rfl rfl rfl e24 rfl fun _ => ?_
            refine R.lookF rfl rfl rfl rfl e24 rfl fun _ => ?_
            refine R.look rfl rfl rfl (Lk.pick rfl rfl (fun _ => rfl) (fun e => by rw [e24] at e; cases e)) fun _ => ?_
            refine R.look rfl rfl rfl (Lk.assign rfl rfl) fun _ => ?_
            refine R.nil ?_
            exact hIh_1 true _ _ _ (Env.le_put rfl (Env.le_put rfl (Env.le_put rfl (Env.le_put rfl (Env.le_put rfl (Env.le_put rfl (Env.le_emp _))))))) (ok.sub List.Sublist.slnil) (H.add_sub ok List.Sublist.slnil) hS
          · rw [if_neg e24] at hS
            replace e24 := eq_false_of_ne_true e24
            refine R.lookT rfl rfl rfl rfl e24 rfl (Lk.move rfl rfl) fun _ => ?_
            refine R.lookT rfl rfl rfl rfl e24 rfl (Lk.arith rfl rfl rfl rfl) fun _ => ?_
            refine R.look rfl rfl rfl (Lk.pick rfl rfl (fun e => by rw [e24] at e; cases e) (fun _ => rfl)) fun _ => ?_
            refine R.look rfl rfl rfl (Lk.assign rfl rfl) fun _ => ?_
            refine R.nil ?_
            exact hIh_1 (decide (p4 < (-2))) _ _ _ (Env.le_put rfl (Env.le_put rfl (Env.le_put rfl (Env.le_put rfl (Env.le_put rfl (Env.le_put rfl (Env.le_emp _))))))) (ok.sub List.Sublist.slnil) (H.add_sub ok List.Sublist.slnil) hS
end Go.Proofs.YtimadnngfhbfiaaDoor
end

section
/- PRINTED by wip/gen.py: the machine's call of (*muntin/norm.maker).box does what S44 says. -/
namespace Go.Proofs.YtimadnngfhbfiaaDoor
open Go Go.Mu
set_option maxHeartbeats 4000000
set_option maxRecDepth 100000
theorem f44_ok {p0 : Option Addr} {p1 : Int} {h : H} {K : H → Prop} (hS : S44 p0 p1 h K) : ACall Tryd.prog 44 ([(.pointer p0), (.int .i64 p1)] : List Value).toArray h (fun r h' => r = tup [] ∧ K  h') := by
  refine ACall.enter (fn := Tryd.f44) Tryd.func44 rfl (Nat.le_of_ble_eq_true rfl) ?_
  unfold S44 at hS
  have ok := Lok.nil h
  change EvC _ _ _ _ (H.add h []) _
  refine EvC.seq ?_
  refine EvC.region [Item.look 0, Item.eff 1 [], Item.look 2, Item.eff 3 [], Item.look 4, Item.eff 5 [], Item.look 6, Item.eff 7 [], Item.look 8, Item.alc 9, Item.eff 10 []] (by kernel_rfl) ?_
  refine R.look rfl rfl rfl (Lk.move rfl rfl) fun _ => ?_
  refine R.eff rfl rfl rfl (Eff.loc ok (Ef.call rfl CB74 rfl ((f74_ok hS).mono ?_)))
  rintro _ h_1 ⟨v15, rfl, hS⟩
  refine fun ok => ⟨noChk, ?_⟩
  refine R.look rfl rfl rfl (Lk.move rfl rfl) fun _ => ?_
  refine R.eff rfl rfl rfl (Eff.loc ok (Ef.call rfl CB74 rfl ((f74_ok hS).mono ?_)))
  rintro _ h_2 ⟨v17, rfl, hS⟩
  refine fun ok => ⟨noChk, ?_⟩
  refine R.look rfl rfl rfl (Lk.move rfl rfl) fun _ => ?_
  refine R.eff rfl rfl rfl (Eff.loc ok (Ef.call rfl CB74 rfl ((f74_ok hS).mono ?_)))
  rintro _ h_3 ⟨v19, rfl, hS⟩
  refine fun ok => ⟨noChk, ?_⟩
  refine R.look rfl rfl rfl (Lk.move rfl rfl) fun _ => ?_
  refine R.eff rfl rfl rfl (Eff.loc ok (Ef.call rfl CB74 rfl ((f74_ok hS).mono ?_)))
  rintro _ h_4 ⟨v21, rfl, hS⟩
  refine fun ok => ⟨noChk, ?_⟩
  refine R.look rfl rfl rfl (Lk.buildA (cs := [(.int .i64 v15), (.int .i64 v17), (.int .i64 v19), (.int .i64 v21)]) rfl Tryd.underlying49 T49 T3 rfl rfl) fun _ => ?_
  refine R.var (blk := .row ⟨[(.int .i64 0), (.int .i64 0), (.int .i64 0), (.int .i64 0)], 4, 49, true, true⟩) ok rfl rfl rfl (Ac.alloc rfl T49) rfl rfl fun b4 ok => ?_
  refine R.effN rfl rfl rfl (Ef.storeLoc (i := 0) (vs := [(.int .i64 v15), (.int .i64 v17), (.int .i64 v19), (.int .i64 v21)]) (cs := [(.int .i64 v15), (.int .i64 v17), (.int .i64 v19), (.int .i64 v21)]) (l' := [(b4, .row ⟨[(.int .i64 v15), (.int .i64 v17), (.int .i64 v19), (.int .i64 v21)], 4, 49, true, true⟩)]) ok rfl T49 rfl rfl rfl rfl rfl rfl rfl rfl rfl rfl fun ok => ⟨noChk, ?_⟩)
  refine R.nil ?_
  refine EvC.seq ?_
  refine EvC.draw [0, 1, 0, 4, 0, 16, 0, 64, 255, 0, 512, 0, 2048, 0, 8192, 0, 32768, 130560, 0, 0, 0, 0, 3670527, 8126463, 16777215] [Item.look 0, Item.look 1, Item.look 2, Item.look 3, Item.look 4, Item.look 5, Item.look 6, Item.look 7, Item.look 8, Item.look 9, Item.look 10, Item.look 11, Item.look 12, Item.look 13, Item.look 14, Item.look 15, Item.look 16, Item.look 17, Item.look 18, Item.alc 19, Item.alc 20, Item.alc 21, Item.eff 22 [9, 10, 11, 12, 13, 14, 15, 16, 17, 18], Item.eff 23 [18], Item.eff 24 []] MO (by kernel_rfl) ?_
  refine R.lookL (v := (.pointer (some ⟨b4, 1, none⟩))) rfl rfl rfl (Lk.ixConst rfl Tryd.underlying49 T3 rfl rfl rfl rfl) ?_
  refine R.lookL rfl rfl rfl (Lk.load1 (v := (.int .i64 v17)) rfl Tryd.underlying3 rfl rfl (H.rd_loc ok (i := 0) rfl rfl)) ?_
  refine R.lookL (v := (.pointer (some ⟨b4, 3, none⟩))) rfl rfl rfl (Lk.ixConst rfl Tryd.underlying49 T3 rfl rfl rfl rfl) ?_
  refine R.lookL rfl rfl rfl (Lk.load1 (v := (.int .i64 v21)) rfl Tryd.underlying3 rfl rfl (H.rd_loc ok (i := 0) rfl rfl)) ?_
  refine R.lookL (v := (.pointer (some ⟨b4, 0, none⟩))) rfl rfl rfl (Lk.ixConst rfl Tryd.underlying49 T3 rfl rfl rfl rfl) ?_
  refine R.lookL rfl rfl rfl (Lk.load1 (v := (.int .i64 v15)) rfl Tryd.underlying3 rfl rfl (H.rd_loc ok (i := 0) rfl rfl)) ?_
  refine R.lookL (v := (.pointer (some ⟨b4, 0, none⟩))) rfl rfl rfl (Lk.ixConst rfl Tryd.underlying49 T3 rfl rfl rfl rfl) ?_
  refine R.lookL rfl rfl rfl (Lk.load1 (v := (.int .i64 v15)) rfl Tryd.underlying3 rfl rfl (H.rd_loc ok (i := 0) rfl rfl)) ?_
  refine R.lookL rfl rfl rfl (Lk.buildA (cs := [(.int .i64 v17), (.int .i64 v21), (.int .i64 v15), (.int .i64 v15)]) rfl Tryd.underlying49 T49 T3 rfl rfl) ?_
  refine R.lookL (v := (.pointer (some ⟨b4, 2, none⟩))) rfl rfl rfl (Lk.ixConst rfl Tryd.underlying49 T3 rfl rfl rfl rfl) ?_
  refine R.lookL rfl rfl rfl (Lk.load1 (v := (.int .i64 v19)) rfl Tryd.underlying3 rfl rfl (H.rd_loc ok (i := 0) rfl rfl)) ?_
  refine R.lookL (v := (.pointer (some ⟨b4, 2, none⟩))) rfl rfl rfl (Lk.ixConst rfl Tryd.underlying49 T3 rfl rfl rfl rfl) ?_
  refine R.lookL rfl rfl rfl (Lk.load1 (v := (.int .i64 v19)) rfl Tryd.underlying3 rfl rfl (H.rd_loc ok (i := 0) rfl rfl)) ?_
  refine R.lookL (v := (.pointer (some ⟨b4, 3, none⟩))) rfl rfl rfl (Lk.ixConst rfl Tryd.underlying49 T3 rfl rfl rfl rfl) ?_
  refine R.lookL rfl rfl rfl (Lk.load1 (v := (.int .i64 v21)) rfl Tryd.underlying3 rfl rfl (H.rd_loc ok (i := 0) rfl rfl)) ?_
  refine R.lookL (v := (.pointer (some ⟨b4, 1, none⟩))) rfl rfl rfl (Lk.ixConst rfl Tryd.underlying49 T3 rfl rfl rfl rfl) ?_
  refine R.lookL rfl rfl rfl (Lk.load1 (v := (.int .i64 v17)) rfl Tryd.underlying3 rfl rfl (H.rd_loc ok (i := 0) rfl rfl)) ?_
  refine R.lookL rfl rfl rfl (Lk.buildA (cs := [(.int .i64 v19), (.int .i64 v19), (.int .i64 v21), (.int .i64 v17)]) rfl Tryd.underlying49 T49 T3 rfl rfl) ?_
  refine R.lookL rfl rfl rfl (Lk.buildA (cs := [(.int .i64 1), (.int .i64 0), (.int .i64 1), (.int .i64 0)]) rfl Tryd.underlying49 T49 T3 rfl rfl) ?_
  refine R.var (blk := .row ⟨[(.int .i64 0), (.int .i64 0), (.int .i64 0), (.int .i64 0)], 4, 49, true, true⟩) ok rfl rfl rfl (Ac.alloc rfl T49) rfl rfl fun b5 ok => ?_
  refine R.var (blk := .row ⟨[(.int .i64 0), (.int .i64 0), (.int .i64 0), (.int .i64 0)], 4, 49, true, true⟩) ok rfl rfl rfl (Ac.alloc rfl T49) rfl rfl fun b6 ok => ?_
  refine R.var (blk := .row ⟨[(.int .i64 0), (.int .i64 0), (.int .i64 0), (.int .i64 0)], 4, 49, true, true⟩) ok rfl rfl rfl (Ac.alloc rfl T49) rfl rfl fun b7 ok => ?_
  refine R.effN rfl rfl rfl (Ef.storeLoc (i := 2) (vs := [(.int .i64 v17), (.int .i64 v21), (.int .i64 v15), (.int .i64 v15)]) (cs := [(.int .i64 v17), (.int .i64 v21), (.int .i64 v15), (.int .i64 v15)]) (l' := [(b7, .row ⟨[(.int .i64 0), (.int .i64 0), (.int .i64 0), (.int .i64 0)], 4, 49, true, true⟩), (b6, .row ⟨[(.int .i64 0), (.int .i64 0), (.int .i64 0), (.int .i64 0)], 4, 49, true, true⟩), (b5, .row ⟨[(.int .i64 v17), (.int .i64 v21), (.int .i64 v15), (.int .i64 v15)], 4, 49, true, true⟩), (b4, .row ⟨[(.int .i64 v15), (.int .i64 v17), (.int .i64 v19), (.int .i64 v21)], 4, 49, true, true⟩)]) ok rfl T49 rfl rfl rfl rfl rfl rfl rfl rfl rfl rfl fun ok => ⟨(List.forall_mem_cons.2 ⟨(Log.past (by decide) (Log.past (by decide) (Log.past (by decide) (Log.past (by decide) (Log.past (by decide) (Log.past (by decide) (Log.past (by decide) (Log.past (by decide) (Log.past (by decide) (Log.at_ (LookG.of rfl (Lk.ixConst rfl Tryd.underlying49 T3 rfl rfl rfl rfl)))))))))))), (List.forall_mem_cons.2 ⟨(Log.past (by decide) (Log.past (by decide) (Log.past (by decide) (Log.past (by decide) (Log.past (by decide) (Log.past (by decide) (Log.past (by decide) (Log.past (by decide) (Log.at_ (LookG.of rfl (Lk.load1 (v := (.int .i64 v19)) rfl Tryd.underlying3 rfl rfl (H.rd_loc ok (i := 3) rfl rfl)))))))))))), (List.forall_mem_cons.2 ⟨(Log.past (by decide) (Log.past (by decide) (Log.past (by decide) (Log.past (by decide) (Log.past (by decide) (Log.past (by decide) (Log.past (by decide) (Log.at_ (LookG.of rfl (Lk.ixConst rfl Tryd.underlying49 T3 rfl rfl rfl rfl)))))))))), (List.forall_mem_cons.2 ⟨(Log.past (by decide) (Log.past (by decide) (Log.past (by decide) (Log.past (by decide) (Log.past (by decide) (Log.past (by decide) (Log.at_ (LookG.of rfl (Lk.load1 (v := (.int .i64 v19)) rfl Tryd.underlying3 rfl rfl (H.rd_loc ok (i := 3) rfl rfl)))))))))), (List.forall_mem_cons.2 ⟨(Log.past (by decide) (Log.past (by decide) (Log.past (by decide) (Log.past (by decide) (Log.past (by decide) (Log.at_ (LookG.of rfl (Lk.ixConst rfl Tryd.underlying49 T3 rfl rfl rfl rfl)))))))), (List.forall_mem_cons.2 ⟨(Log.past (by decide) (Log.past (by decide) (Log.past (by decide) (Log.past (by decide) (Log.at_ (LookG.of rfl (Lk.load1 (v := (.int .i64 v21)) rfl Tryd.underlying3 rfl rfl (H.rd_loc ok (i := 3) rfl rfl)))))))), (List.forall_mem_cons.2 ⟨(Log.past (by decide) (Log.past (by decide) (Log.past (by decide) (Log.at_ (LookG.of rfl (Lk.ixConst rfl Tryd.underlying49 T3 rfl rfl rfl rfl)))))), (List.forall_mem_cons.2 ⟨(Log.past (by decide) (Log.past (by decide) (Log.at_ (LookG.of rfl (Lk.load1 (v := (.int .i64 v17)) rfl Tryd.underlying3 rfl rfl (H.rd_loc ok (i := 3) rfl rfl)))))), (List.forall_mem_cons.2 ⟨(Log.past (by decide) (Log.at_ (LookG.of rfl (Lk.buildA (cs := [(.int .i64 v19), (.int .i64 v19), (.int .i64 v21), (.int .i64 v17)]) rfl Tryd.underlying49 T49 T3 rfl rfl)))), (List.forall_mem_cons.2 ⟨(Log.at_ (LookG.of rfl (Lk.buildA (cs := [(.int .i64 1), (.int .i64 0), (.int .i64 1), (.int .i64 0)]) rfl Tryd.underlying49 T49 T3 rfl rfl))), noChk⟩)⟩)⟩)⟩)⟩)⟩)⟩)⟩)⟩)⟩), ?_⟩)
  refine R.effN rfl rfl rfl (Ef.storeLoc (i := 1) (vs := [(.int .i64 v19), (.int .i64 v19), (.int .i64 v21), (.int .i64 v17)]) (cs := [(.int .i64 v19), (.int .i64 v19), (.int .i64 v21), (.int .i64 v17)]) (l' := [(b7, .row ⟨[(.int .i64 0), (.int .i64 0), (.int .i64 0), (.int .i64 0)], 4, 49, true, true⟩), (b6, .row ⟨[(.int .i64 v19), (.int .i64 v19), (.int .i64 v21), (.int .i64 v17)], 4, 49, true, true⟩), (b5, .row ⟨[(.int .i64 v17), (.int .i64 v21), (.int .i64 v15), (.int .i64 v15)], 4, 49, true, true⟩), (b4, .row ⟨[(.int .i64 v15), (.int .i64 v17), (.int .i64 v19), (.int .i64 v21)], 4, 49, true, true⟩)]) ok rfl T49 rfl rfl rfl rfl rfl rfl rfl rfl rfl rfl fun ok => ⟨(List.forall_mem_cons.2 ⟨(Log.at_ (LookG.of rfl (Lk.buildA (cs := [(.int .i64 1), (.int .i64 0), (.int .i64 1), (.int .i64 0)]) rfl Tryd.underlying49 T49 T3 rfl rfl))), noChk⟩), ?_⟩)
  refine R.effN rfl rfl rfl (Ef.storeLoc (i := 0) (vs := [(.int .i64 1), (.int .i64 0), (.int .i64 1), (.int .i64 0)]) (cs := [(.int .i64 1), (.int .i64 0), (.int .i64 1), (.int .i64 0)]) (l' := [(b7, .row ⟨[(.int .i64 1), (.int .i64 0), (.int .i64 1), (.int .i64 0)], 4, 49, true, true⟩), (b6, .row ⟨[(.int .i64 v19), (.int .i64 v19), (.int .i64 v21), (.int .i64 v17)], 4, 49, true, true⟩), (b5, .row ⟨[(.int .i64 v17), (.int .i64 v21), (.int .i64 v15), (.int .i64 v15)], 4, 49, true, true⟩), (b4, .row ⟨[(.int .i64 v15), (.int .i64 v17), (.int .i64 v19), (.int .i64 v21)], 4, 49, true, true⟩)]) ok rfl T49 rfl rfl rfl rfl rfl rfl rfl rfl rfl rfl fun ok => ⟨noChk, ?_⟩)
  refine R.nil ?_
  refine EvC.seq ?_
  refine EvC.region [Item.look 0, Item.look 1, Item.look 2, Item.look 3, Item.look 4, Item.look 5, Item.look 6, Item.look 7] (by kernel_rfl) ?_
  refine R.look rfl rfl rfl (Lk.move rfl rfl) fun _ => ?_
  obtain ⟨a43, e1, hS⟩ := hS
  refine R.look (v := (.pointer (some a43))) rfl rfl rfl (Lk.nilChk rfl rfl e1) fun _ => ?_
  refine R.look (v := (.pointer (some (Addr.add a43 3)))) rfl rfl rfl (Lk.fldAddr rfl Tryd.underlying106 rfl rfl T104 rfl rfl rfl) fun _ => ?_
  obtain ⟨v45, e2, hS⟩ := hS
  refine R.look rfl rfl rfl (Look.loc ok (Lk.load1 rfl Tryd.underlying104 rfl rfl e2)) fun _ => ?_
  refine R.look rfl rfl rfl (Lk.move rfl rfl) fun _ => ?_
  obtain ⟨a47, e3, e4, e5, hS⟩ := hS
  refine R.look rfl rfl rfl (Lk.ixAddr rfl Tryd.underlying104 T145 rfl e3 rfl e4 e5) fun _ => ?_
  obtain ⟨v48_0, v48_1, v48_2, v48_3, e6, hS⟩ := hS
  refine R.look rfl rfl rfl (Look.loc ok (Lk.loadN rfl Tryd.underlying145 rfl T145 rfl e6)) fun _ => ?_
  refine R.look rfl rfl rfl (Lk.move rfl rfl) fun _ => ?_
  refine R.nil ?_
  refine EvC.block ?_
  refine EvC.loop ?_
  refine LoopC.lfp (σ := Int) (fun s => (Env.put (Env.put (Env.put (Env.put (Env.put (Env.put Env.emp 49 (.int .i64 s)) 48 (.agg ([(.slice v48_0.a v48_0.l v48_0.c), (.slice v48_1.a v48_1.l v48_1.c), (.slice v48_2.a v48_2.l v48_2.c), (.slice v48_3.a v48_3.l v48_3.c)] : List Value).toArray)) 7 (.pointer (some ⟨b7, 0, none⟩))) 6 (.pointer (some ⟨b6, 0, none⟩))) 5 (.pointer (some ⟨b5, 0, none⟩))) 0 (.pointer p0))) (fun s => [(b7, .row ⟨[(.int .i64 1), (.int .i64 0), (.int .i64 1), (.int .i64 0)], 4, 49, true, true⟩), (b6, .row ⟨[(.int .i64 v19), (.int .i64 v19), (.int .i64 v21), (.int .i64 v17)], 4, 49, true, true⟩), (b5, .row ⟨[(.int .i64 v17), (.int .i64 v21), (.int .i64 v15), (.int .i64 v15)], 4, 49, true, true⟩)]) (fun X hX => ?_) hS (ok.sub (.cons_cons _ (.cons_cons _ (.cons_cons _ (.cons _ List.Sublist.slnil))))) (Env.le_put rfl (Env.le_put rfl (Env.le_put rfl (Env.le_put rfl (Env.le_put rfl (Env.le_put rfl (Env.le_emp _))))))) (H.add_sub ok (.cons_cons _ (.cons_cons _ (.cons_cons _ (.cons _ List.Sublist.slnil)))))
  intro v49 h_5 hS ok
  replace hS : S44_l3 p0 K v15 v17 v19 v21 v48_0 v48_1 v48_2 v48_3 X v49 h_5 := hS
  change EvC _ _ _ (Env.put (Env.put (Env.put (Env.put (Env.put (Env.put Env.emp 49 (.int .i64 v49)) 48 (.agg ([(.slice v48_0.a v48_0.l v48_0.c), (.slice v48_1.a v48_1.l v48_1.c), (.slice v48_2.a v48_2.l v48_2.c), (.slice v48_3.a v48_3.l v48_3.c)] : List Value).toArray)) 7 (.pointer (some ⟨b7, 0, none⟩))) 6 (.pointer (some ⟨b6, 0, none⟩))) 5 (.pointer (some ⟨b5, 0, none⟩))) 0 (.pointer p0)) (H.add h_5 [(b7, .row ⟨[(.int .i64 1), (.int .i64 0), (.int .i64 1), (.int .i64 0)], 4, 49, true, true⟩), (b6, .row ⟨[(.int .i64 v19), (.int .i64 v19), (.int .i64 v21), (.int .i64 v17)], 4, 49, true, true⟩), (b5, .row ⟨[(.int .i64 v17), (.int .i64 v21), (.int .i64 v15), (.int .i64 v15)], 4, 49, true, true⟩)]) _
  unfold S44_l3 at hS
  refine EvC.seq ?_
  refine EvC.region [Item.look 0] (by kernel_rfl) ?_
  refine R.look rfl rfl rfl (Lk.arith rfl rfl rfl rfl) fun _ => ?_
  refine R.nil ?_
  refine EvC.seq ?_
  by_cases e7 : (decide (v49 < 4)) = true
  · rw [if_pos e7] at hS
    refine EvC.condT rfl e7 ?_
    refine EvC.skip ?_
    refine EvC.seq ?_
    refine EvC.block ?_
    refine EvC.seq ?_
    refine EvC.region [Item.look 0, Item.look 1, Item.look 2, Item.look 3] (by kernel_rfl) ?_
    refine R.look rfl rfl rfl (Lk.move rfl rfl) fun _ => ?_
    obtain ⟨e8, e9, hS⟩ := hS
    refine R.look rfl rfl rfl (Lk.elemSel Sl.v ([v48_0, v48_1, v48_2, v48_3] : List Sl) rfl Tryd.underlying145 Tryd.underlying144 rfl T144 rfl rfl e8 e9 rfl) fun _ => ?_
    refine R.look rfl rfl rfl (Lk.assign rfl rfl) fun _ => ?_
    refine R.look rfl rfl rfl (Lk.assign rfl rfl) fun _ => ?_
    refine R.nil ?_
    refine EvC.seq ?_
    refine EvC.region [Item.look 0, Item.look 1, Item.look 2, Item.look 3] (by kernel_rfl) ?_
    refine R.look rfl rfl rfl (Lk.move rfl rfl) fun _ => ?_
    obtain ⟨e10, e11, hS⟩ := hS
    refine R.look (v := (.pointer (some ⟨b5, 0 + Int.toNat v49, none⟩))) rfl rfl rfl (Lk.ixLoc rfl Tryd.underlying49 T3 rfl rfl e10 e11) fun _ => ?_
    refine R.look (v := (.int .i64 (sel ([v17, v21, v15, v15] : List Int) v49))) rfl rfl rfl (Lk.load1 rfl Tryd.underlying3 rfl rfl (H.rd_loc ok (i := 2) rfl (sel_at (fun x => Value.int .i64 x) ([v17, v21, v15, v15] : List Int) [] [] rfl (by have h1 := e10; have h2 := e11; simp only [List.length_cons, List.length_nil]; omega)))) fun _ => ?_
    refine R.look (v := (.int .i64 (sel ([v17, v21, v15, v15] : List Int) v49))) rfl rfl rfl (Lk.assign rfl rfl) fun _ => ?_
    refine R.nil ?_
    refine EvC.join (σ := Int) (fun s => (Env.put (Env.put (Env.put (Env.put (Env.put (Env.put (Env.put (Env.put Env.emp 49 (.int .i64 v49)) 48 (.agg ([(.slice v48_0.a v48_0.l v48_0.c), (.slice v48_1.a v48_1.l v48_1.c), (.slice v48_2.a v48_2.l v48_2.c), (.slice v48_3.a v48_3.l v48_3.c)] : List Value).toArray)) 10 (.int .i64 s)) 8 (.int .i64 v49)) 7 (.pointer (some ⟨b7, 0, none⟩))) 6 (.pointer (some ⟨b6, 0, none⟩))) 5 (.pointer (some ⟨b5, 0, none⟩))) 0 (.pointer p0))) (fun s => [(b7, .row ⟨[(.int .i64 1), (.int .i64 0), (.int .i64 1), (.int .i64 0)], 4, 49, true, true⟩), (b6, .row ⟨[(.int .i64 v19), (.int .i64 v19), (.int .i64 v21), (.int .i64 v17)], 4, 49, true, true⟩), (b5, .row ⟨[(.int .i64 v17), (.int .i64 v21), (.int .i64 v15), (.int .i64 v15)], 4, 49, true, true⟩)]) (fun s h_6 => S44_j1 p0 v17 v19 v21 v49 X s h_6) ?_ (fun Ih_6 hIh_6 => ?_)
    · intro v10 h_6 ok hS
      replace hS : S44_j1 p0 v17 v19 v21 v49 X v10 h_6 := hS
      change EvC _ _ _ (Env.put (Env.put (Env.put (Env.put (Env.put (Env.put (Env.put (Env.put Env.emp 49 (.int .i64 v49)) 48 (.agg ([(.slice v48_0.a v48_0.l v48_0.c), (.slice v48_1.a v48_1.l v48_1.c), (.slice v48_2.a v48_2.l v48_2.c), (.slice v48_3.a v48_3.l v48_3.c)] : List Value).toArray)) 10 (.int .i64 v10)) 8 (.int .i64 v49)) 7 (.pointer (some ⟨b7, 0, none⟩))) 6 (.pointer (some ⟨b6, 0, none⟩))) 5 (.pointer (some ⟨b5, 0, none⟩))) 0 (.pointer p0)) (H.add h_6 [(b7, .row ⟨[(.int .i64 1), (.int .i64 0), (.int .i64 1), (.int .i64 0)], 4, 49, true, true⟩), (b6, .row ⟨[(.int .i64 v19), (.int .i64 v19), (.int .i64 v21), (.int .i64 v17)], 4, 49, true, true⟩), (b5, .row ⟨[(.int .i64 v17), (.int .i64 v21), (.int .i64 v15), (.int .i64 v15)], 4, 49, true, true⟩)]) _
      unfold S44_j1 at hS
      refine EvC.draw [0, 1, 3, 7, 0, 0, 32, 96, 0, 256, 768, 2047] [Item.look 0, Item.look 1, Item.look 2, Item.look 3, Item.look 4, Item.look 5, Item.look 6, Item.look 7, Item.look 8, Item.look 9, Item.look 10, Item.eff 11 []] MO (by kernel_rfl) ?_
      refine R.look rfl rfl rfl (Lk.move rfl rfl) fun _ => ?_
      obtain ⟨a88, e12, hS⟩ := hS
      refine R.look (v := (.pointer (some a88))) rfl rfl rfl (Lk.nilChk rfl rfl e12) fun _ => ?_
      refine R.look (v := (.pointer (some (Addr.add a88 2)))) rfl rfl rfl (Lk.fldAddr rfl Tryd.underlying106 rfl rfl T103 rfl rfl rfl) fun _ => ?_
      obtain ⟨v90, e13, hS⟩ := hS
      refine R.look rfl rfl rfl (Look.loc ok (Lk.load1 rfl Tryd.underlying103 rfl rfl e13)) fun _ => ?_
      refine R.look rfl rfl rfl (Lk.move rfl rfl) fun _ => ?_
      refine R.look rfl rfl rfl (Lk.move rfl rfl) fun _ => ?_
      obtain ⟨e14, e15, hS⟩ := hS
      refine R.look (v := (.pointer (some ⟨b7, 0 + Int.toNat v49, none⟩))) rfl rfl rfl (Lk.ixLoc rfl Tryd.underlying49 T3 rfl rfl e14 e15) fun _ => ?_
      refine R.look (v := (.int .i64 (sel ([1, 0, 1, 0] : List Int) v49))) rfl rfl rfl (Lk.load1 rfl Tryd.underlying3 rfl rfl (H.rd_loc ok (i := 0) rfl (sel_at (fun x => Value.int .i64 x) ([1, 0, 1, 0] : List Int) [] [] rfl (by have h1 := e14; have h2 := e15; simp only [List.length_cons, List.length_nil]; omega)))) fun _ => ?_
      refine R.look rfl rfl rfl (Lk.move rfl rfl) fun _ => ?_
      obtain ⟨e16, e17, hS⟩ := hS
      refine R.look (v := (.pointer (some ⟨b6, 0 + Int.toNat v49, none⟩))) rfl rfl rfl (Lk.ixLoc rfl Tryd.underlying49 T3 rfl rfl e16 e17) fun _ => ?_
      refine R.look (v := (.int .i64 (sel ([v19, v19, v21, v17] : List Int) v49))) rfl rfl rfl (Lk.load1 rfl Tryd.underlying3 rfl rfl (H.rd_loc ok (i := 1) rfl (sel_at (fun x => Value.int .i64 x) ([v19, v19, v21, v17] : List Int) [] [] rfl (by have h1 := e16; have h2 := e17; simp only [List.length_cons, List.length_nil]; omega)))) fun _ => ?_
      refine R.eff rfl rfl rfl (Eff.loc ok (Ef.call rfl CB75 rfl ((f75_ok hS).mono ?_)))
      rintro _ h_7 ⟨v98, rfl, hS⟩
      refine fun ok => ⟨noChk, ?_⟩
      refine R.nil ?_
      refine EvC.region [Item.look 0, Item.look 1] (by kernel_rfl) ?_
      refine R.look rfl rfl rfl (Lk.arith rfl rfl rfl rfl) fun _ => ?_
      refine R.look rfl rfl rfl (Lk.move rfl rfl) fun _ => ?_
      refine R.nil ?_
      exact hX (IntKind.wrap .i64 (v49 + 1)) _ _ _ hS (ok.sub (.cons_cons _ (.cons_cons _ (.cons_cons _ List.Sublist.slnil)))) (Env.le_put rfl (Env.le_put rfl (Env.le_put rfl (Env.le_put rfl (Env.le_put rfl (Env.le_put rfl (Env.le_emp _))))))) (H.add_sub ok (.cons_cons _ (.cons_cons _ (.cons_cons _ List.Sublist.slnil))))
    · refine EvC.seq ?_
      refine EvC.region [Item.look 0, Item.look 1, Item.look 2] (by kernel_rfl) ?_
      refine R.look rfl rfl rfl (Lk.move rfl rfl) fun _ => ?_
      refine R.look rfl rfl rfl (Lk.len rfl Tryd.underlying144 rfl) fun _ => ?_
      refine R.look rfl rfl rfl (Lk.move rfl rfl) fun _ => ?_
      refine R.nil ?_
      refine EvC.block ?_
      refine EvC.loop ?_
      refine LoopC.lfp (σ := Int × Int) (fun s => (Env.put (Env.put (Env.put (Env.put (Env.put (Env.put (Env.put (Env.put (Env.put (Env.put (Env.put Env.emp 58 (.int .i64 s.2)) 57 (.int .i64 (((sel ([v48_0, v48_1, v48_2, v48_3] : List Sl) v49).l) : Int))) 56 (.slice ((sel ([v48_0, v48_1, v48_2, v48_3] : List Sl) v49).a) ((sel ([v48_0, v48_1, v48_2, v48_3] : List Sl) v49).l) ((sel ([v48_0, v48_1, v48_2, v48_3] : List Sl) v49).c))) 49 (.int .i64 v49)) 48 (.agg ([(.slice v48_0.a v48_0.l v48_0.c), (.slice v48_1.a v48_1.l v48_1.c), (.slice v48_2.a v48_2.l v48_2.c), (.slice v48_3.a v48_3.l v48_3.c)] : List Value).toArray)) 10 (.int .i64 s.1)) 8 (.int .i64 v49)) 7 (.pointer (some ⟨b7, 0, none⟩))) 6 (.pointer (some ⟨b6, 0, none⟩))) 5 (.pointer (some ⟨b5, 0, none⟩))) 0 (.pointer p0))) (fun s => [(b7, .row ⟨[(.int .i64 1), (.int .i64 0), (.int .i64 1), (.int .i64 0)], 4, 49, true, true⟩), (b6, .row ⟨[(.int .i64 v19), (.int .i64 v19), (.int .i64 v21), (.int .i64 v17)], 4, 49, true, true⟩), (b5, .row ⟨[(.int .i64 v17), (.int .i64 v21), (.int .i64 v15), (.int .i64 v15)], 4, 49, true, true⟩)]) (fun X_1 hX_1 => ?_) hS (ok.sub (.cons_cons _ (.cons_cons _ (.cons_cons _ List.Sublist.slnil)))) (Env.le_put rfl (Env.le_put rfl (Env.le_put rfl (Env.le_put rfl (Env.le_put rfl (Env.le_put rfl (Env.le_put rfl (Env.le_put rfl (Env.le_put rfl (Env.le_put rfl (Env.le_put rfl (Env.le_emp _)))))))))))) (H.add_sub ok (.cons_cons _ (.cons_cons _ (.cons_cons _ List.Sublist.slnil))))
      rintro ⟨v10_1, v58⟩ h_8 hS ok
      replace hS : S44_l2 p0 v17 v19 v21 v48_0 v48_1 v48_2 v48_3 v49 X X_1 v10_1 v58 h_8 := hS
      change EvC _ _ _ (Env.put (Env.put (Env.put (Env.put (Env.put (Env.put (Env.put (Env.put (Env.put (Env.put (Env.put Env.emp 58 (.int .i64 v58)) 57 (.int .i64 (((sel ([v48_0, v48_1, v48_2, v48_3] : List Sl) v49).l) : Int))) 56 (.slice ((sel ([v48_0, v48_1, v48_2, v48_3] : List Sl) v49).a) ((sel ([v48_0, v48_1, v48_2, v48_3] : List Sl) v49).l) ((sel ([v48_0, v48_1, v48_2, v48_3] : List Sl) v49).c))) 49 (.int .i64 v49)) 48 (.agg ([(.slice v48_0.a v48_0.l v48_0.c), (.slice v48_1.a v48_1.l v48_1.c), (.slice v48_2.a v48_2.l v48_2.c), (.slice v48_3.a v48_3.l v48_3.c)] : List Value).toArray)) 10 (.int .i64 v10_1)) 8 (.int .i64 v49)) 7 (.pointer (some ⟨b7, 0, none⟩))) 6 (.pointer (some ⟨b6, 0, none⟩))) 5 (.pointer (some ⟨b5, 0, none⟩))) 0 (.pointer p0)) (H.add h_8 [(b7, .row ⟨[(.int .i64 1), (.int .i64 0), (.int .i64 1), (.int .i64 0)], 4, 49, true, true⟩), (b6, .row ⟨[(.int .i64 v19), (.int .i64 v19), (.int .i64 v21), (.int .i64 v17)], 4, 49, true, true⟩), (b5, .row ⟨[(.int .i64 v17), (.int .i64 v21), (.int .i64 v15), (.int .i64 v15)], 4, 49, true, true⟩)]) _
      unfold S44_l2 at hS
      refine EvC.seq ?_
      refine EvC.region [Item.look 0] (by kernel_rfl) ?_
      refine R.look rfl rfl rfl (Lk.arith rfl rfl rfl rfl) fun _ => ?_
      refine R.nil ?_
      refine EvC.seq ?_
      by_cases e18 : (decide (v58 < (((sel ([v48_0, v48_1, v48_2, v48_3] : List Sl) v49).l) : Int))) = true
      · rw [if_pos e18] at hS
        refine EvC.condT rfl e18 ?_
        refine EvC.skip ?_
        refine EvC.seq ?_
        refine EvC.block ?_
        refine EvC.seq ?_
        refine EvC.region [Item.look 0, Item.look 1, Item.alc 2, Item.eff 3 []] (by kernel_rfl) ?_
        obtain ⟨a60, e19, e20, e21, hS⟩ := hS
        refine R.look rfl rfl rfl (Lk.ixAddr rfl Tryd.underlying144 T147 rfl e19 rfl e20 e21) fun _ => ?_
        obtain ⟨v61_0, v61_1, e22, hS⟩ := hS
        refine R.look rfl rfl rfl (Look.loc ok (Lk.loadN rfl Tryd.underlying147 rfl T147 rfl e22)) fun _ => ?_
        refine R.var (blk := .row ⟨[(.int .i64 0), (.int .i64 0)], 2, 147, true, true⟩) ok rfl rfl rfl (Ac.alloc rfl T147) rfl rfl fun b12 ok => ?_
        refine R.effN rfl rfl rfl (Ef.storeLoc (i := 0) (vs := [(.int .i64 v61_0), (.int .i64 v61_1)]) (cs := [(.int .i64 v61_0), (.int .i64 v61_1)]) (l' := [(b12, .row ⟨[(.int .i64 v61_0), (.int .i64 v61_1)], 2, 147, true, true⟩), (b7, .row ⟨[(.int .i64 1), (.int .i64 0), (.int .i64 1), (.int .i64 0)], 4, 49, true, true⟩), (b6, .row ⟨[(.int .i64 v19), (.int .i64 v19), (.int .i64 v21), (.int .i64 v17)], 4, 49, true, true⟩), (b5, .row ⟨[(.int .i64 v17), (.int .i64 v21), (.int .i64 v15), (.int .i64 v15)], 4, 49, true, true⟩)]) ok rfl T147 rfl rfl rfl rfl rfl rfl rfl rfl rfl rfl fun ok => ⟨noChk, ?_⟩)
        refine R.nil ?_
        refine EvC.seq ?_
        refine EvC.region [Item.look 0, Item.eff 1 [], Item.look 2] (by kernel_rfl) ?_
        refine R.look rfl rfl rfl (Lk.move rfl rfl) fun _ => ?_
        refine R.eff rfl rfl rfl (Eff.loc ok (Ef.call rfl CB74 rfl ((f74_ok hS).mono ?_)))
        rintro _ h_9 ⟨v63, rfl, hS⟩
        refine fun ok => ⟨noChk, ?_⟩
        refine R.look rfl rfl rfl (Lk.assign rfl rfl) fun _ => ?_
        refine R.nil ?_
        refine EvC.seq ?_
        refine EvC.draw [0, 1, 3, 7, 0, 16, 0, 64, 0, 63, 1023, 2047] [Item.look 0, Item.look 1, Item.look 2, Item.look 3, Item.look 4, Item.look 5, Item.look 6, Item.look 7, Item.look 8, Item.look 9, Item.look 10, Item.eff 11 []] MO (by kernel_rfl) ?_
        refine R.look rfl rfl rfl (Lk.move rfl rfl) fun _ => ?_
        obtain ⟨a65, e23, hS⟩ := hS
        refine R.look (v := (.pointer (some a65))) rfl rfl rfl (Lk.nilChk rfl rfl e23) fun _ => ?_
        refine R.look (v := (.pointer (some (Addr.add a65 4)))) rfl rfl rfl (Lk.fldAddr rfl Tryd.underlying106 rfl rfl T41 rfl rfl rfl) fun _ => ?_
        obtain ⟨v67, e24, hS⟩ := hS
        refine R.look rfl rfl rfl (Look.loc ok (Lk.load1 rfl Tryd.underlying41 rfl rfl e24)) fun _ => ?_
        refine R.look (v := (.pointer (some ⟨b12, 0, none⟩))) rfl rfl rfl (Lk.fldAddr rfl Tryd.underlying147 rfl rfl T3 rfl rfl rfl) fun _ => ?_
        refine R.look rfl rfl rfl (Lk.load1 (v := (.int .i64 v61_0)) rfl Tryd.underlying3 rfl rfl (H.rd_loc ok (i := 0) rfl rfl)) fun _ => ?_
        refine R.look (v := (.pointer (some ⟨b12, 1, none⟩))) rfl rfl rfl (Lk.fldAddr rfl Tryd.underlying147 rfl rfl T3 rfl rfl rfl) fun _ => ?_
        refine R.look rfl rfl rfl (Lk.load1 (v := (.int .i64 v61_1)) rfl Tryd.underlying3 rfl rfl (H.rd_loc ok (i := 0) rfl rfl)) fun _ => ?_
        refine R.look rfl rfl rfl (Lk.move rfl rfl) fun _ => ?_
        obtain ⟨a73, e25, e26, e27, hS⟩ := hS
        refine R.look rfl rfl rfl (Lk.ixAddr rfl Tryd.underlying41 T116 rfl e25 rfl e26 e27) fun _ => ?_
        obtain ⟨e28, e29, hS⟩ := hS
        refine R.look rfl rfl rfl (Lk.indexAddrA rfl Tryd.underlying116 T3 rfl rfl e28 e29) fun _ => ?_
        obtain ⟨h_10, e30, hS⟩ := hS
        refine R.effN rfl rfl rfl (Eff.loc ok (Ef.store rfl T3 rfl rfl rfl rfl rfl e30 fun ok => ⟨noChk, ?_⟩))
        refine R.nil ?_
        refine EvC.seq ?_
        refine EvC.draw [0, 1, 3, 7, 0, 0, 32, 96, 0, 511] [Item.look 0, Item.look 1, Item.look 2, Item.look 3, Item.look 4, Item.look 5, Item.look 6, Item.look 7, Item.look 8, Item.eff 9 []] MO (by kernel_rfl) ?_
        refine R.look rfl rfl rfl (Lk.move rfl rfl) fun _ => ?_
        obtain ⟨a76, e31, hS⟩ := hS
        refine R.look (v := (.pointer (some a76))) rfl rfl rfl (Lk.nilChk rfl rfl e31) fun _ => ?_
        refine R.look (v := (.pointer (some (Addr.add a76 2)))) rfl rfl rfl (Lk.fldAddr rfl Tryd.underlying106 rfl rfl T103 rfl rfl rfl) fun _ => ?_
        obtain ⟨v78, e32, hS⟩ := hS
        refine R.look rfl rfl rfl (Look.loc ok (Lk.load1 rfl Tryd.underlying103 rfl rfl e32)) fun _ => ?_
        refine R.look rfl rfl rfl (Lk.move rfl rfl) fun _ => ?_
        refine R.look rfl rfl rfl (Lk.move rfl rfl) fun _ => ?_
        obtain ⟨e33, e34, hS⟩ := hS
        refine R.look (v := (.pointer (some ⟨b7, 0 + Int.toNat v49, none⟩))) rfl rfl rfl (Lk.ixLoc rfl Tryd.underlying49 T3 rfl rfl e33 e34) fun _ => ?_
        refine R.look (v := (.int .i64 (sel ([1, 0, 1, 0] : List Int) v49))) rfl rfl rfl (Lk.load1 rfl Tryd.underlying3 rfl rfl (H.rd_loc ok (i := 1) rfl (sel_at (fun x => Value.int .i64 x) ([1, 0, 1, 0] : List Int) [] [] rfl (by have h1 := e33; have h2 := e34; simp only [List.length_cons, List.length_nil]; omega)))) fun _ => ?_
        refine R.look rfl rfl rfl (Lk.move rfl rfl) fun _ => ?_
        refine R.eff rfl rfl rfl (Eff.loc ok (Ef.call rfl CB75 rfl ((f75_ok hS).mono ?_)))
        rintro _ h_11 ⟨v84, rfl, hS⟩
        refine fun ok => ⟨noChk, ?_⟩
        refine R.nil ?_
        refine EvC.region [Item.look 0, Item.look 1] (by kernel_rfl) ?_
        refine R.look rfl rfl rfl (Lk.move rfl rfl) fun _ => ?_
        refine R.look rfl rfl rfl (Lk.assign rfl rfl) fun _ => ?_
        refine R.nil ?_
        refine EvC.region [Item.look 0, Item.look 1] (by kernel_rfl) ?_
        refine R.look rfl rfl rfl (Lk.arith rfl rfl rfl rfl) fun _ => ?_
        refine R.look rfl rfl rfl (Lk.move rfl rfl) fun _ => ?_
        refine R.nil ?_
        exact hX_1 (v63, (IntKind.wrap .i64 (v58 + 1))) _ _ _ hS (ok.sub (.cons _ (.cons_cons _ (.cons_cons _ (.cons_cons _ List.Sublist.slnil))))) (Env.le_put rfl (Env.le_put rfl (Env.le_put rfl (Env.le_put rfl (Env.le_put rfl (Env.le_put rfl (Env.le_put rfl (Env.le_put rfl (Env.le_put rfl (Env.le_put rfl (Env.le_put rfl (Env.le_emp _)))))))))))) (H.add_sub ok (.cons _ (.cons_cons _ (.cons_cons _ (.cons_cons _ List.Sublist.slnil)))))
      · rw [if_neg e18] at hS
        replace e18 := eq_false_of_ne_true e18
        refine EvC.condF rfl e18 ?_
        refine EvC.exit ?_
        exact hIh_6 v10_1 _ _ _ (Env.le_put rfl (Env.le_put rfl (Env.le_put rfl (Env.le_put rfl (Env.le_put rfl (Env.le_put rfl (Env.le_put rfl (Env.le_put rfl (Env.le_emp _))))))))) (ok.sub (.cons_cons _ (.cons_cons _ (.cons_cons _ List.Sublist.slnil)))) (H.add_sub ok (.cons_cons _ (.cons_cons _ (.cons_cons _ List.Sublist.slnil)))) hS
  · rw [if_neg e7] at hS
    replace e7 := eq_false_of_ne_true e7
    refine EvC.condF rfl e7 ?_
    refine EvC.exit ?_
    exact ⟨.inl rfl, _, _, .nil, ok.le, rfl, hS⟩
end Go.Proofs.YtimadnngfhbfiaaDoor
end

section
/- PRINTED by wip/gen.py: the machine's call of (*muntin/norm.maker).point does what S45 says. -/
namespace Go.Proofs.YtimadnngfhbfiaaDoor
open Go Go.Mu
set_option maxHeartbeats 4000000
set_option maxRecDepth 100000
theorem f45_ok {p0 : Option Addr} {p1 : Int} {h : H} {K : Int → H → Prop} (hS : S45 p0 p1 h K) : ACall Tryd.prog 45 ([(.pointer p0), (.int .i64 p1)] : List Value).toArray h (fun r h' => ∃ r0 : Int, r = tup [(.int .i64 r0)] ∧ K r0 h') := by
  refine ACall.enter (fn := Tryd.f45) Tryd.func45 rfl (Nat.le_of_ble_eq_true rfl) ?_
  unfold S45 at hS
  have ok := Lok.nil h
  change EvC _ _ _ _ (H.add h []) _
  refine EvC.seq ?_
  refine EvC.region [Item.look 0] (by kernel_rfl) ?_
  refine R.look rfl rfl rfl (Lk.assign rfl rfl) fun _ => ?_
  refine R.nil ?_
  refine EvC.seq ?_
  refine EvC.region [Item.look 0, Item.eff 1 [], Item.look 2] (by kernel_rfl) ?_
  refine R.look rfl rfl rfl (Lk.move rfl rfl) fun _ => ?_
  refine R.eff rfl rfl rfl (Eff.loc ok (Ef.call rfl CB74 rfl ((f74_ok hS).mono ?_)))
  rintro _ h_1 ⟨v11, rfl, hS⟩
  refine fun ok => ⟨noChk, ?_⟩
  refine R.look rfl rfl rfl (Lk.assign rfl rfl) fun _ => ?_
  refine R.nil ?_
  refine EvC.join (σ := Unit) (fun s => Env.emp) (fun s => []) (fun s h_2 => S45_j1 K h_2) ?_ (fun Ih_2 hIh_2 => ?_)
  · rintro ⟨⟩ h_2 ok hS
    replace hS : S45_j1 K h_2 := hS
    change EvC _ _ _ Env.emp (H.add h_2 []) _
    unfold S45_j1 at hS
    refine EvC.seq ?_
    refine EvC.region [Item.look 0] (by kernel_rfl) ?_
    refine R.look rfl rfl rfl (Lk.assign rfl rfl) fun _ => ?_
    refine R.nil ?_
    refine EvC.ret ?_
    exact ⟨.inr rfl, _, _, (.cons (.tmp rfl) .nil), ok.le, _, rfl, hS⟩
  · refine EvC.seq ?_
    refine EvC.region [Item.look 0, Item.look 1, Item.look 2, Item.look 3, Item.look 4, Item.look 5, Item.look 6, Item.look 7] (by kernel_rfl) ?_
    refine R.look rfl rfl rfl (Lk.move rfl rfl) fun _ => ?_
    obtain ⟨a13, e1, hS⟩ := hS
    refine R.look (v := (.pointer (some a13))) rfl rfl rfl (Lk.nilChk rfl rfl e1) fun _ => ?_
    refine R.look (v := (.pointer (some (Addr.add a13 3)))) rfl rfl rfl (Lk.fldAddr rfl Tryd.underlying106 rfl rfl T104 rfl rfl rfl) fun _ => ?_
    obtain ⟨v15, e2, hS⟩ := hS
    refine R.look rfl rfl rfl (Look.loc ok (Lk.load1 rfl Tryd.underlying104 rfl rfl e2)) fun _ => ?_
    refine R.look rfl rfl rfl (Lk.move rfl rfl) fun _ => ?_
    obtain ⟨a17, e3, e4, e5, hS⟩ := hS
    refine R.look rfl rfl rfl (Lk.ixAddr rfl Tryd.underlying104 T145 rfl e3 rfl e4 e5) fun _ => ?_
    obtain ⟨v18_0, v18_1, v18_2, v18_3, e6, hS⟩ := hS
    refine R.look rfl rfl rfl (Look.loc ok (Lk.loadN rfl Tryd.underlying145 rfl T145 rfl e6)) fun _ => ?_
    refine R.look rfl rfl rfl (Lk.move rfl rfl) fun _ => ?_
    refine R.nil ?_
    refine EvC.block ?_
    refine EvC.loop ?_
    refine LoopC.lfp (σ := Int) (fun s => (Env.put (Env.put (Env.put (Env.put Env.emp 19 (.int .i64 s)) 18 (.agg ([(.slice v18_0.a v18_0.l v18_0.c), (.slice v18_1.a v18_1.l v18_1.c), (.slice v18_2.a v18_2.l v18_2.c), (.slice v18_3.a v18_3.l v18_3.c)] : List Value).toArray)) 5 (.int .i64 v11)) 0 (.pointer p0))) (fun s => []) (fun X hX => ?_) hS (ok.sub List.Sublist.slnil) (Env.le_put rfl (Env.le_put rfl (Env.le_put rfl (Env.le_put rfl (Env.le_emp _))))) (H.add_sub ok List.Sublist.slnil)
    intro v19 h_3 hS ok
    replace hS : S45_l4 p0 K v11 v18_0 v18_1 v18_2 v18_3 X v19 h_3 := hS
    change EvC _ _ _ (Env.put (Env.put (Env.put (Env.put Env.emp 19 (.int .i64 v19)) 18 (.agg ([(.slice v18_0.a v18_0.l v18_0.c), (.slice v18_1.a v18_1.l v18_1.c), (.slice v18_2.a v18_2.l v18_2.c), (.slice v18_3.a v18_3.l v18_3.c)] : List Value).toArray)) 5 (.int .i64 v11)) 0 (.pointer p0)) (H.add h_3 []) _
    unfold S45_l4 at hS
    refine EvC.seq ?_
    refine EvC.region [Item.look 0] (by kernel_rfl) ?_
    refine R.look rfl rfl rfl (Lk.arith rfl rfl rfl rfl) fun _ => ?_
    refine R.nil ?_
    refine EvC.seq ?_
    by_cases e7 : (decide (v19 < 4)) = true
    · rw [if_pos e7] at hS
      refine EvC.condT rfl e7 ?_
      refine EvC.skip ?_
      refine EvC.join (σ := Unit) (fun s => (Env.put (Env.put (Env.put (Env.put Env.emp 19 (.int .i64 v19)) 18 (.agg ([(.slice v18_0.a v18_0.l v18_0.c), (.slice v18_1.a v18_1.l v18_1.c), (.slice v18_2.a v18_2.l v18_2.c), (.slice v18_3.a v18_3.l v18_3.c)] : List Value).toArray)) 5 (.int .i64 v11)) 0 (.pointer p0))) (fun s => []) (fun s h_4 => S45_j2 v19 X h_4) ?_ (fun Ih_4 hIh_4 => ?_)
      · rintro ⟨⟩ h_4 ok hS
        replace hS : S45_j2 v19 X h_4 := hS
        change EvC _ _ _ (Env.put (Env.put (Env.put (Env.put Env.emp 19 (.int .i64 v19)) 18 (.agg ([(.slice v18_0.a v18_0.l v18_0.c), (.slice v18_1.a v18_1.l v18_1.c), (.slice v18_2.a v18_2.l v18_2.c), (.slice v18_3.a v18_3.l v18_3.c)] : List Value).toArray)) 5 (.int .i64 v11)) 0 (.pointer p0)) (H.add h_4 []) _
        unfold S45_j2 at hS
        refine EvC.region [Item.look 0, Item.look 1] (by kernel_rfl) ?_
        refine R.look rfl rfl rfl (Lk.arith rfl rfl rfl rfl) fun _ => ?_
        refine R.look rfl rfl rfl (Lk.move rfl rfl) fun _ => ?_
        refine R.nil ?_
        exact hX (IntKind.wrap .i64 (v19 + 1)) _ _ _ hS (ok.sub List.Sublist.slnil) (Env.le_put rfl (Env.le_put rfl (Env.le_put rfl (Env.le_put rfl (Env.le_emp _))))) (H.add_sub ok List.Sublist.slnil)
      · refine EvC.block ?_
        refine EvC.seq ?_
        refine EvC.region [Item.look 0, Item.look 1] (by kernel_rfl) ?_
        obtain ⟨e8, e9, hS⟩ := hS
        refine R.look rfl rfl rfl (Lk.elemSel Sl.v ([v18_0, v18_1, v18_2, v18_3] : List Sl) rfl Tryd.underlying145 Tryd.underlying144 rfl T144 rfl rfl e8 e9 rfl) fun _ => ?_
        refine R.look rfl rfl rfl (Lk.assign rfl rfl) fun _ => ?_
        refine R.nil ?_
        refine EvC.seq ?_
        refine EvC.seq ?_
        refine EvC.region [Item.look 0, Item.look 1, Item.look 2] (by kernel_rfl) ?_
        refine R.look rfl rfl rfl (Lk.move rfl rfl) fun _ => ?_
        refine R.look rfl rfl rfl (Lk.len rfl Tryd.underlying144 rfl) fun _ => ?_
        refine R.look rfl rfl rfl (Lk.arith rfl rfl rfl rfl) fun _ => ?_
        refine R.nil ?_
        by_cases e10 : (decide ((((sel ([v18_0, v18_1, v18_2, v18_3] : List Sl) v19).l) : Int) > 1)) = true
        · rw [if_pos e10] at hS
          refine EvC.condT rfl e10 ?_
          refine EvC.seq ?_
          refine EvC.region [Item.look 0] (by kernel_rfl) ?_
          refine R.look rfl rfl rfl (Lk.assign rfl rfl) fun _ => ?_
          refine R.nil ?_
          refine EvC.ret ?_
          exact ⟨.inr rfl, _, _, (.cons (.tmp rfl) .nil), ok.le, _, rfl, hS⟩
        · rw [if_neg e10] at hS
          replace e10 := eq_false_of_ne_true e10
          refine EvC.condF rfl e10 ?_
          refine EvC.skip ?_
          refine EvC.seq ?_
          refine EvC.region [Item.look 0, Item.look 1, Item.look 2] (by kernel_rfl) ?_
          refine R.look rfl rfl rfl (Lk.move rfl rfl) fun _ => ?_
          refine R.look rfl rfl rfl (Lk.len rfl Tryd.underlying144 rfl) fun _ => ?_
          refine R.look rfl rfl rfl (Lk.move rfl rfl) fun _ => ?_
          refine R.nil ?_
          refine EvC.block ?_
          refine EvC.loop ?_
          refine LoopC.lfp (σ := Int) (fun s => (Env.put (Env.put (Env.put (Env.put (Env.put (Env.put (Env.put Env.emp 27 (.int .i64 s)) 26 (.int .i64 (((sel ([v18_0, v18_1, v18_2, v18_3] : List Sl) v19).l) : Int))) 25 (.slice ((sel ([v18_0, v18_1, v18_2, v18_3] : List Sl) v19).a) ((sel ([v18_0, v18_1, v18_2, v18_3] : List Sl) v19).l) ((sel ([v18_0, v18_1, v18_2, v18_3] : List Sl) v19).c))) 19 (.int .i64 v19)) 18 (.agg ([(.slice v18_0.a v18_0.l v18_0.c), (.slice v18_1.a v18_1.l v18_1.c), (.slice v18_2.a v18_2.l v18_2.c), (.slice v18_3.a v18_3.l v18_3.c)] : List Value).toArray)) 5 (.int .i64 v11)) 0 (.pointer p0))) (fun s => []) (fun X_1 hX_1 => ?_) hS (ok.sub List.Sublist.slnil) (Env.le_put rfl (Env.le_put rfl (Env.le_put rfl (Env.le_put rfl (Env.le_put rfl (Env.le_put rfl (Env.le_put rfl (Env.le_emp _)))))))) (H.add_sub ok List.Sublist.slnil)
          intro v27 h_5 hS ok
          replace hS : S45_l3 p0 v11 v18_0 v18_1 v18_2 v18_3 v19 X X_1 v27 h_5 := hS
          change EvC _ _ _ (Env.put (Env.put (Env.put (Env.put (Env.put (Env.put (Env.put Env.emp 27 (.int .i64 v27)) 26 (.int .i64 (((sel ([v18_0, v18_1, v18_2, v18_3] : List Sl) v19).l) : Int))) 25 (.slice ((sel ([v18_0, v18_1, v18_2, v18_3] : List Sl) v19).a) ((sel ([v18_0, v18_1, v18_2, v18_3] : List Sl) v19).l) ((sel ([v18_0, v18_1, v18_2, v18_3] : List Sl) v19).c))) 19 (.int .i64 v19)) 18 (.agg ([(.slice v18_0.a v18_0.l v18_0.c), (.slice v18_1.a v18_1.l v18_1.c), (.slice v18_2.a v18_2.l v18_2.c), (.slice v18_3.a v18_3.l v18_3.c)] : List Value).toArray)) 5 (.int .i64 v11)) 0 (.pointer p0)) (H.add h_5 []) _
          unfold S45_l3 at hS
          refine EvC.seq ?_
          refine EvC.region [Item.look 0] (by kernel_rfl) ?_
          refine R.look rfl rfl rfl (Lk.arith rfl rfl rfl rfl) fun _ => ?_
          refine R.nil ?_
          refine EvC.seq ?_
          by_cases e11 : (decide (v27 < (((sel ([v18_0, v18_1, v18_2, v18_3] : List Sl) v19).l) : Int))) = true
          · rw [if_pos e11] at hS
            refine EvC.condT rfl e11 ?_
            refine EvC.skip ?_
            refine EvC.seq ?_
            refine EvC.block ?_
            refine EvC.seq ?_
            refine EvC.region [Item.look 0, Item.look 1, Item.alc 2, Item.eff 3 []] (by kernel_rfl) ?_
            obtain ⟨a29, e12, e13, e14, hS⟩ := hS
            refine R.look rfl rfl rfl (Lk.ixAddr rfl Tryd.underlying144 T147 rfl e12 rfl e13 e14) fun _ => ?_
            obtain ⟨v30_0, v30_1, e15, hS⟩ := hS
            refine R.look rfl rfl rfl (Look.loc ok (Lk.loadN rfl Tryd.underlying147 rfl T147 rfl e15)) fun _ => ?_
            refine R.var (blk := .row ⟨[(.int .i64 0), (.int .i64 0)], 2, 147, true, true⟩) ok rfl rfl rfl (Ac.alloc rfl T147) rfl rfl fun b9 ok => ?_
            refine R.effN rfl rfl rfl (Ef.storeLoc (i := 0) (vs := [(.int .i64 v30_0), (.int .i64 v30_1)]) (cs := [(.int .i64 v30_0), (.int .i64 v30_1)]) (l' := [(b9, .row ⟨[(.int .i64 v30_0), (.int .i64 v30_1)], 2, 147, true, true⟩)]) ok rfl T147 rfl rfl rfl rfl rfl rfl rfl rfl rfl rfl fun ok => ⟨noChk, ?_⟩)
            refine R.nil ?_
            refine EvC.draw [0, 1, 3, 7, 0, 16, 0, 64, 0, 63, 1023, 2047] [Item.look 0, Item.look 1, Item.look 2, Item.look 3, Item.look 4, Item.look 5, Item.look 6, Item.look 7, Item.look 8, Item.look 9, Item.look 10, Item.eff 11 []] MO (by kernel_rfl) ?_
            refine R.look rfl rfl rfl (Lk.move rfl rfl) fun _ => ?_
            obtain ⟨a32, e16, hS⟩ := hS
            refine R.look (v := (.pointer (some a32))) rfl rfl rfl (Lk.nilChk rfl rfl e16) fun _ => ?_
            refine R.look (v := (.pointer (some (Addr.add a32 4)))) rfl rfl rfl (Lk.fldAddr rfl Tryd.underlying106 rfl rfl T41 rfl rfl rfl) fun _ => ?_
            obtain ⟨v34, e17, hS⟩ := hS
            refine R.look rfl rfl rfl (Look.loc ok (Lk.load1 rfl Tryd.underlying41 rfl rfl e17)) fun _ => ?_
            refine R.look (v := (.pointer (some ⟨b9, 0, none⟩))) rfl rfl rfl (Lk.fldAddr rfl Tryd.underlying147 rfl rfl T3 rfl rfl rfl) fun _ => ?_
            refine R.look rfl rfl rfl (Lk.load1 (v := (.int .i64 v30_0)) rfl Tryd.underlying3 rfl rfl (H.rd_loc ok (i := 0) rfl rfl)) fun _ => ?_
            refine R.look (v := (.pointer (some ⟨b9, 1, none⟩))) rfl rfl rfl (Lk.fldAddr rfl Tryd.underlying147 rfl rfl T3 rfl rfl rfl) fun _ => ?_
            refine R.look rfl rfl rfl (Lk.load1 (v := (.int .i64 v30_1)) rfl Tryd.underlying3 rfl rfl (H.rd_loc ok (i := 0) rfl rfl)) fun _ => ?_
            refine R.look rfl rfl rfl (Lk.move rfl rfl) fun _ => ?_
            obtain ⟨a40, e18, e19, e20, hS⟩ := hS
            refine R.look rfl rfl rfl (Lk.ixAddr rfl Tryd.underlying41 T116 rfl e18 rfl e19 e20) fun _ => ?_
            obtain ⟨e21, e22, hS⟩ := hS
            refine R.look rfl rfl rfl (Lk.indexAddrA rfl Tryd.underlying116 T3 rfl rfl e21 e22) fun _ => ?_
            obtain ⟨h_6, e23, hS⟩ := hS
            refine R.effN rfl rfl rfl (Eff.loc ok (Ef.store rfl T3 rfl rfl rfl rfl rfl e23 fun ok => ⟨noChk, ?_⟩))
            refine R.nil ?_
            refine EvC.region [Item.look 0, Item.look 1] (by kernel_rfl) ?_
            refine R.look rfl rfl rfl (Lk.arith rfl rfl rfl rfl) fun _ => ?_
            refine R.look rfl rfl rfl (Lk.move rfl rfl) fun _ => ?_
            refine R.nil ?_
            exact hX_1 (IntKind.wrap .i64 (v27 + 1)) _ _ _ hS (ok.sub (.cons _ List.Sublist.slnil)) (Env.le_put rfl (Env.le_put rfl (Env.le_put rfl (Env.le_put rfl (Env.le_put rfl (Env.le_put rfl (Env.le_put rfl (Env.le_emp _)))))))) (H.add_sub ok (.cons _ List.Sublist.slnil))
          · rw [if_neg e11] at hS
            replace e11 := eq_false_of_ne_true e11
            refine EvC.condF rfl e11 ?_
            refine EvC.exit ?_
            exact hIh_4 () _ _ _ (Env.le_put rfl (Env.le_put rfl (Env.le_put rfl (Env.le_put rfl (Env.le_emp _))))) (ok.sub List.Sublist.slnil) (H.add_sub ok List.Sublist.slnil) hS
    · rw [if_neg e7] at hS
      replace e7 := eq_false_of_ne_true e7
      refine EvC.condF rfl e7 ?_
      refine EvC.exit ?_
      exact hIh_2 () _ _ _ (Env.le_emp _) (ok.sub List.Sublist.slnil) (H.add_sub ok List.Sublist.slnil) hS
end Go.Proofs.YtimadnngfhbfiaaDoor
end

section
/- PRINTED by wip/gen.py: the machine's call of (*muntin/norm.maker).edge does what S46 says. -/
namespace Go.Proofs.YtimadnngfhbfiaaDoor
open Go Go.Mu
set_option maxHeartbeats 4000000
set_option maxRecDepth 100000
theorem f46_ok {p0 : Option Addr} {p1 : Int} {h : H} {K : Int → H → Prop} (hS : S46 p0 p1 h K) : ACall Tryd.prog 46 ([(.pointer p0), (.int .i64 p1)] : List Value).toArray h (fun r h' => ∃ r0 : Int, r = tup [(.int .i64 r0)] ∧ K r0 h') := by
  refine ACall.enter (fn := Tryd.f46) Tryd.func46 rfl (Nat.le_of_ble_eq_true rfl) ?_
  unfold S46 at hS
  have ok := Lok.nil h
  change EvC _ _ _ _ (H.add h []) _
  refine EvC.seq ?_
  refine EvC.region [Item.look 0] (by kernel_rfl) ?_
  refine R.look rfl rfl rfl (Lk.assign rfl rfl) fun _ => ?_
  refine R.nil ?_
  refine EvC.seq ?_
  refine EvC.region [Item.look 0, Item.look 1, Item.look 2, Item.look 3, Item.look 4, Item.look 5, Item.look 6, Item.look 7, Item.alc 8, Item.eff 9 []] (by kernel_rfl) ?_
  refine R.look rfl rfl rfl (Lk.move rfl rfl) fun _ => ?_
  obtain ⟨a13, e1, hS⟩ := hS
  refine R.look (v := (.pointer (some a13))) rfl rfl rfl (Lk.nilChk rfl rfl e1) fun _ => ?_
  refine R.look (v := (.pointer (some a13))) rfl rfl rfl (Lk.fldAddr rfl Tryd.underlying106 rfl rfl T29 rfl rfl rfl) fun _ => ?_
  refine R.look (v := (.pointer (some (Addr.add a13 1)))) rfl rfl rfl (Lk.fldAddr rfl Tryd.underlying29 rfl rfl T27 rfl rfl rfl) fun _ => ?_
  obtain ⟨v16, e2, hS⟩ := hS
  refine R.look rfl rfl rfl (Look.loc ok (Lk.load1 rfl Tryd.underlying27 rfl rfl e2)) fun _ => ?_
  refine R.look rfl rfl rfl (Lk.move rfl rfl) fun _ => ?_
  obtain ⟨a18, e3, e4, e5, hS⟩ := hS
  refine R.look rfl rfl rfl (Lk.ixAddr rfl Tryd.underlying27 T54 rfl e3 rfl e4 e5) fun _ => ?_
  obtain ⟨v19_0, v19_1, v19_2, v19_3, e6, hS⟩ := hS
  refine R.look rfl rfl rfl (Look.loc ok (Lk.loadN rfl Tryd.underlying54 rfl T54 rfl e6)) fun _ => ?_
  refine R.var (blk := .row ⟨[(.int .i64 0), (.int .i64 0), (.int .i64 0), (.string ⟨#[]⟩)], 4, 54, true, true⟩) ok rfl rfl rfl (Ac.alloc rfl T54) rfl rfl fun b5 ok => ?_
  refine R.effN rfl rfl rfl (Ef.storeLoc (i := 0) (vs := [(.int .i64 v19_0), (.int .i64 v19_1), (.int .i64 v19_2), (.string v19_3)]) (cs := [(.int .i64 v19_0), (.int .i64 v19_1), (.int .i64 v19_2), (.string v19_3)]) (l' := [(b5, .row ⟨[(.int .i64 v19_0), (.int .i64 v19_1), (.int .i64 v19_2), (.string v19_3)], 4, 54, true, true⟩)]) ok rfl T54 rfl rfl rfl rfl rfl rfl rfl rfl rfl rfl fun ok => ⟨noChk, ?_⟩)
  refine R.nil ?_
  refine EvC.seq ?_
  refine EvC.draw [0, 1, 3, 7, 0, 31, 63, 127, 0, 256, 255, 2047] [Item.look 0, Item.look 1, Item.look 2, Item.look 3, Item.look 4, Item.look 5, Item.look 6, Item.look 7, Item.look 8, Item.look 9, Item.look 10, Item.look 11] MO (by kernel_rfl) ?_
  refine R.look rfl rfl rfl (Lk.move rfl rfl) fun _ => ?_
  obtain ⟨a21, e7, hS⟩ := hS
  refine R.look (v := (.pointer (some a21))) rfl rfl rfl (Lk.nilChk rfl rfl e7) fun _ => ?_
  refine R.look (v := (.pointer (some (Addr.add a21 4)))) rfl rfl rfl (Lk.fldAddr rfl Tryd.underlying106 rfl rfl T41 rfl rfl rfl) fun _ => ?_
  obtain ⟨v23, e8, hS⟩ := hS
  refine R.look rfl rfl rfl (Look.loc ok (Lk.load1 rfl Tryd.underlying41 rfl rfl e8)) fun _ => ?_
  refine R.look rfl rfl rfl (Lk.move rfl rfl) fun _ => ?_
  obtain ⟨a25, e9, e10, e11, hS⟩ := hS
  refine R.look rfl rfl rfl (Lk.ixAddr rfl Tryd.underlying41 T116 rfl e9 rfl e10 e11) fun _ => ?_
  refine R.look (v := (.pointer (some (Addr.add a25 (Int.toNat p1 * 2))))) rfl rfl rfl (Lk.ixConst rfl Tryd.underlying116 T3 rfl rfl rfl rfl) fun _ => ?_
  obtain ⟨v27, e12, hS⟩ := hS
  refine R.look rfl rfl rfl (Look.loc ok (Lk.load1 rfl Tryd.underlying3 rfl rfl e12)) fun _ => ?_
  refine R.look (v := (.pointer (some ⟨b5, 2, none⟩))) rfl rfl rfl (Lk.fldAddr rfl Tryd.underlying54 rfl rfl T3 rfl rfl rfl) fun _ => ?_
  refine R.look rfl rfl rfl (Lk.load1 (v := (.int .i64 v19_2)) rfl Tryd.underlying3 rfl rfl (H.rd_loc ok (i := 0) rfl rfl)) fun _ => ?_
  refine R.look rfl rfl rfl (Lk.assign rfl rfl) fun _ => ?_
  refine R.look rfl rfl rfl (Lk.assign rfl rfl) fun _ => ?_
  refine R.nil ?_
  refine EvC.seq ?_
  refine EvC.region [Item.look 0, Item.alc 1, Item.look 2] (by kernel_rfl) ?_
  refine R.look rfl rfl rfl (Lk.move rfl rfl) fun _ => ?_
  refine R.new (blk := (.row ⟨[(.int .i64 v27)], 1, 3, true, true⟩)) ok rfl rfl rfl (Ac.buildSlice (cs := [(.int .i64 v27)]) rfl Tryd.underlying32 T3 (by decide) (by decide) rfl rfl) rfl rfl fun b31 e13 ok => ?_
  replace hS := hS b31 _ e13 rfl
  refine R.look rfl rfl rfl (Lk.assign rfl rfl) fun _ => ?_
  refine R.nil ?_
  refine EvC.join (σ := Int × Int × Sl) (fun s => (Env.put (Env.put (Env.put (Env.put (Env.put Env.emp 8 (.slice s.2.2.a s.2.2.l s.2.2.c)) 7 (.int .i64 s.2.1)) 6 (.int .i64 s.1)) 1 (.int .i64 p1)) 0 (.pointer p0))) (fun s => []) (fun s h_2 => S46_j1 p0 p1 K s.1 s.2.1 s.2.2 h_2) ?_ (fun Ih_2 hIh_2 => ?_)
  · rintro ⟨v6, v7, v8⟩ h_2 ok hS
    replace hS : S46_j1 p0 p1 K v6 v7 v8 h_2 := hS
    change EvC _ _ _ (Env.put (Env.put (Env.put (Env.put (Env.put Env.emp 8 (.slice v8.a v8.l v8.c)) 7 (.int .i64 v7)) 6 (.int .i64 v6)) 1 (.int .i64 p1)) 0 (.pointer p0)) (H.add h_2 []) _
    unfold S46_j1 at hS
    refine EvC.seq ?_
    refine EvC.seq ?_
    refine EvC.region [Item.look 0, Item.look 1, Item.look 2, Item.look 3, Item.look 4, Item.look 5, Item.look 6, Item.look 7, Item.look 8, Item.look 9] (by kernel_rfl) ?_
    refine R.look rfl rfl rfl (Lk.move rfl rfl) fun _ => ?_
    refine R.look rfl rfl rfl (Lk.move rfl rfl) fun _ => ?_
    obtain ⟨a59, e14, hS⟩ := hS
    refine R.look (v := (.pointer (some a59))) rfl rfl rfl (Lk.nilChk rfl rfl e14) fun _ => ?_
    refine R.look (v := (.pointer (some (Addr.add a59 4)))) rfl rfl rfl (Lk.fldAddr rfl Tryd.underlying106 rfl rfl T41 rfl rfl rfl) fun _ => ?_
    obtain ⟨v61, e15, hS⟩ := hS
    refine R.look rfl rfl rfl (Look.loc ok (Lk.load1 rfl Tryd.underlying41 rfl rfl e15)) fun _ => ?_
    refine R.look rfl rfl rfl (Lk.move rfl rfl) fun _ => ?_
    obtain ⟨a63, e16, e17, e18, hS⟩ := hS
    refine R.look rfl rfl rfl (Lk.ixAddr rfl Tryd.underlying41 T116 rfl e16 rfl e17 e18) fun _ => ?_
    refine R.look (v := (.pointer (some (Addr.add (Addr.add a63 (Int.toNat p1 * 2)) 1)))) rfl rfl rfl (Lk.ixConst rfl Tryd.underlying116 T3 rfl rfl rfl rfl) fun _ => ?_
    obtain ⟨v65, e19, hS⟩ := hS
    refine R.look rfl rfl rfl (Look.loc ok (Lk.load1 rfl Tryd.underlying3 rfl rfl e19)) fun _ => ?_
    refine R.look rfl rfl rfl (Lk.arith rfl rfl rfl rfl) fun _ => ?_
    refine R.nil ?_
    by_cases e20 : (v6 == v65) = true
    · rw [if_pos e20] at hS
      refine EvC.condT rfl e20 ?_
      refine EvC.seq ?_
      refine EvC.region [Item.look 0] (by kernel_rfl) ?_
      refine R.look rfl rfl rfl (Lk.assign rfl rfl) fun _ => ?_
      refine R.nil ?_
      refine EvC.ret ?_
      exact ⟨.inr rfl, _, _, (.cons (.tmp rfl) .nil), ok.le, _, rfl, hS⟩
    · rw [if_neg e20] at hS
      replace e20 := eq_false_of_ne_true e20
      refine EvC.condF rfl e20 ?_
      refine EvC.skip ?_
      refine EvC.seq ?_
      refine EvC.draw [0, 1, 3, 7, 0, 0, 0, 64, 192, 448, 0, 1984, 4032, 8128, 0, 32767] [Item.look 0, Item.look 1, Item.look 2, Item.look 3, Item.look 4, Item.look 5, Item.look 6, Item.look 7, Item.look 8, Item.look 9, Item.look 10, Item.look 11, Item.look 12, Item.look 13, Item.look 14, Item.eff 15 []] MO (by kernel_rfl) ?_
      refine R.look rfl rfl rfl (Lk.move rfl rfl) fun _ => ?_
      obtain ⟨a68, e21, hS⟩ := hS
      refine R.look (v := (.pointer (some a68))) rfl rfl rfl (Lk.nilChk rfl rfl e21) fun _ => ?_
      refine R.look (v := (.pointer (some (Addr.add a68 2)))) rfl rfl rfl (Lk.fldAddr rfl Tryd.underlying106 rfl rfl T103 rfl rfl rfl) fun _ => ?_
      obtain ⟨v70, e22, hS⟩ := hS
      refine R.look rfl rfl rfl (Look.loc ok (Lk.load1 rfl Tryd.underlying103 rfl rfl e22)) fun _ => ?_
      refine R.look rfl rfl rfl (Lk.move rfl rfl) fun _ => ?_
      refine R.look rfl rfl rfl (Lk.move rfl rfl) fun _ => ?_
      refine R.look rfl rfl rfl (Lk.move rfl rfl) fun _ => ?_
      obtain ⟨a74, e23, hS⟩ := hS
      refine R.look (v := (.pointer (some a74))) rfl rfl rfl (Lk.nilChk rfl rfl e23) fun _ => ?_
      refine R.look (v := (.pointer (some (Addr.add a74 4)))) rfl rfl rfl (Lk.fldAddr rfl Tryd.underlying106 rfl rfl T41 rfl rfl rfl) fun _ => ?_
      obtain ⟨v76, e24, hS⟩ := hS
      refine R.look rfl rfl rfl (Look.loc ok (Lk.load1 rfl Tryd.underlying41 rfl rfl e24)) fun _ => ?_
      refine R.look rfl rfl rfl (Lk.move rfl rfl) fun _ => ?_
      obtain ⟨a78, e25, e26, e27, hS⟩ := hS
      refine R.look rfl rfl rfl (Lk.ixAddr rfl Tryd.underlying41 T116 rfl e25 rfl e26 e27) fun _ => ?_
      refine R.look (v := (.pointer (some (Addr.add (Addr.add a78 (Int.toNat p1 * 2)) 1)))) rfl rfl rfl (Lk.ixConst rfl Tryd.underlying116 T3 rfl rfl rfl rfl) fun _ => ?_
      obtain ⟨v80, e28, hS⟩ := hS
      refine R.look rfl rfl rfl (Look.loc ok (Lk.load1 rfl Tryd.underlying3 rfl rfl e28)) fun _ => ?_
      refine R.look rfl rfl rfl (Lk.move rfl rfl) fun _ => ?_
      refine R.eff rfl rfl rfl (Eff.loc ok (Ef.call rfl CB75 rfl ((f75_ok hS).mono ?_)))
      rintro _ h_3 ⟨v82, rfl, hS⟩
      refine fun ok => ⟨noChk, ?_⟩
      refine R.nil ?_
      refine EvC.seq ?_
      refine EvC.draw [0, 0, 2, 6, 14, 30, 0, 0, 128, 384, 896, 0, 3968, 8064, 16256, 32640, 65472, 131008, 262142, 524287, 1048575, 2097151, 4194303] [Item.look 0, Item.look 1, Item.look 2, Item.look 3, Item.look 4, Item.look 5, Item.look 6, Item.look 7, Item.look 8, Item.look 9, Item.look 10, Item.look 11, Item.look 12, Item.look 13, Item.look 14, Item.alc 15, Item.eff 16 [0, 1, 2, 3, 4, 5], Item.alc 17, Item.eff 18 [0], Item.look 19, Item.look 20, Item.look 21, Item.eff 22 []] MO (by kernel_rfl) ?_
      refine R.lookL rfl rfl rfl (Lk.move rfl rfl) ?_
      refine R.lookL rfl rfl rfl (Lk.move rfl rfl) ?_
      obtain ⟨a85, e29, hS⟩ := hS
      refine R.lookL (v := (.pointer (some a85))) rfl rfl rfl (Lk.nilChk rfl rfl e29) ?_
      refine R.lookL (v := (.pointer (some (Addr.add a85 5)))) rfl rfl rfl (Lk.fldAddr rfl Tryd.underlying106 rfl rfl T35 rfl rfl rfl) ?_
      refine R.lookL (v := (.pointer (some (Addr.add (Addr.add a85 5) 2)))) rfl rfl rfl (Lk.fldAddr rfl Tryd.underlying35 rfl rfl T33 rfl rfl rfl) ?_
      obtain ⟨v88, e30, hS⟩ := hS
      refine R.lookL rfl rfl rfl (Look.loc ok (Lk.load1 rfl Tryd.underlying33 rfl rfl e30)) ?_
      refine R.lookL rfl rfl rfl (Lk.move rfl rfl) ?_
      refine R.lookL rfl rfl rfl (Lk.move rfl rfl) ?_
      obtain ⟨a91, e31, hS⟩ := hS
      refine R.lookL (v := (.pointer (some a91))) rfl rfl rfl (Lk.nilChk rfl rfl e31) ?_
      refine R.lookL (v := (.pointer (some (Addr.add a91 4)))) rfl rfl rfl (Lk.fldAddr rfl Tryd.underlying106 rfl rfl T41 rfl rfl rfl) ?_
      obtain ⟨v93, e32, hS⟩ := hS
      refine R.lookL rfl rfl rfl (Look.loc ok (Lk.load1 rfl Tryd.underlying41 rfl rfl e32)) ?_
      refine R.lookL rfl rfl rfl (Lk.move rfl rfl) ?_
      obtain ⟨a95, e33, e34, e35, hS⟩ := hS
      refine R.lookL rfl rfl rfl (Lk.ixAddr rfl Tryd.underlying41 T116 rfl e33 rfl e34 e35) ?_
      refine R.lookL (v := (.pointer (some (Addr.add (Addr.add a95 (Int.toNat p1 * 2)) 1)))) rfl rfl rfl (Lk.ixConst rfl Tryd.underlying116 T3 rfl rfl rfl rfl) ?_
      obtain ⟨v97, e36, hS⟩ := hS
      refine R.lookL rfl rfl rfl (Look.loc ok (Lk.load1 rfl Tryd.underlying3 rfl rfl e36)) ?_
      refine R.appL (cs := [(.int .i64 v97)]) ok rfl rfl rfl rfl rfl rfl rfl rfl Tryd.underlying32 T3 rfl (by decide) (by decide) rfl rfl rfl rfl rfl (fun _ => rfl) hS ?_
      intro bb98 v99 h_4 hS ok
      obtain ⟨e37, hS⟩ := hS
      refine ⟨(List.forall_mem_cons.2 ⟨(Log.past (by decide) (Log.past (by decide) (Log.past (by decide) (Log.past (by decide) (Log.past (by decide) (Log.past (by decide) (Log.past (by decide) (Log.past (by decide) (Log.past (by decide) (Log.past (by decide) (Log.past (by decide) (Log.past (by decide) (Log.past (by decide) (Log.past (by decide) (Log.at_ (LookG.of rfl (Lk.move rfl rfl))))))))))))))))), (List.forall_mem_cons.2 ⟨(Log.past (by decide) (Log.past (by decide) (Log.past (by decide) (Log.past (by decide) (Log.past (by decide) (Log.past (by decide) (Log.past (by decide) (Log.past (by decide) (Log.past (by decide) (Log.past (by decide) (Log.past (by decide) (Log.past (by decide) (Log.past (by decide) (Log.at_ (LookG.of rfl (Lk.move rfl rfl)))))))))))))))), (List.forall_mem_cons.2 ⟨(Log.past (by decide) (Log.past (by decide) (Log.past (by decide) (Log.past (by decide) (Log.past (by decide) (Log.past (by decide) (Log.past (by decide) (Log.past (by decide) (Log.past (by decide) (Log.past (by decide) (Log.past (by decide) (Log.past (by decide) (Log.at_ (LookG.of rfl (Lk.nilChk rfl rfl e29))))))))))))))), (List.forall_mem_cons.2 ⟨(Log.past (by decide) (Log.past (by decide) (Log.past (by decide) (Log.past (by decide) (Log.past (by decide) (Log.past (by decide) (Log.past (by decide) (Log.past (by decide) (Log.past (by decide) (Log.past (by decide) (Log.past (by decide) (Log.at_ (LookG.of rfl (Lk.fldAddr rfl Tryd.underlying106 rfl rfl T35 rfl rfl rfl)))))))))))))), (List.forall_mem_cons.2 ⟨(Log.past (by decide) (Log.past (by decide) (Log.past (by decide) (Log.past (by decide) (Log.past (by decide) (Log.past (by decide) (Log.past (by decide) (Log.past (by decide) (Log.past (by decide) (Log.past (by decide) (Log.at_ (LookG.of rfl (Lk.fldAddr rfl Tryd.underlying35 rfl rfl T33 rfl rfl rfl))))))))))))), (List.forall_mem_cons.2 ⟨(Log.past (by decide) (Log.past (by decide) (Log.past (by decide) (Log.past (by decide) (Log.past (by decide) (Log.past (by decide) (Log.past (by decide) (Log.past (by decide) (Log.past (by decide) (Log.at_ (LookG.of rfl (Look.loc ok (Lk.load1 rfl Tryd.underlying33 rfl rfl e37))))))))))))), noChk⟩)⟩)⟩)⟩)⟩)⟩), ?_⟩
      refine R.appL (cs := [(.slice v99.a v99.l v99.c)]) ok rfl rfl rfl rfl rfl rfl rfl rfl Tryd.underlying33 T32 rfl (by decide) (by decide) rfl rfl rfl rfl rfl (fun _ => rfl) hS ?_
      intro bb100 v101 h_5 hS ok
      refine ⟨(List.forall_mem_cons.2 ⟨(Log.past (by decide) (Log.past (by decide) (Log.past (by decide) (Log.past (by decide) (Log.past (by decide) (Log.past (by decide) (Log.past (by decide) (Log.past (by decide) (Log.past (by decide) (Log.past (by decide) (Log.past (by decide) (Log.past (by decide) (Log.past (by decide) (Log.past (by decide) (Log.at_ (LookG.of rfl (Lk.move rfl rfl))))))))))))))))), noChk⟩), ?_⟩
      obtain ⟨a102, e38, hS⟩ := hS
      refine R.lookL (v := (.pointer (some a102))) rfl rfl rfl (Lk.nilChk rfl rfl e38) ?_
      refine R.lookL (v := (.pointer (some (Addr.add a102 5)))) rfl rfl rfl (Lk.fldAddr rfl Tryd.underlying106 rfl rfl T35 rfl rfl rfl) ?_
      refine R.lookL (v := (.pointer (some (Addr.add (Addr.add a102 5) 2)))) rfl rfl rfl (Lk.fldAddr rfl Tryd.underlying35 rfl rfl T33 rfl rfl rfl) ?_
      obtain ⟨h_6, e39, hS⟩ := hS
      refine R.effN rfl rfl rfl (Eff.loc ok (Ef.store rfl T33 rfl rfl rfl rfl rfl e39 fun ok => ⟨noChk, ?_⟩))
      refine R.nil ?_
      refine EvC.seq ?_
      refine EvC.region [Item.look 0] (by kernel_rfl) ?_
      refine R.look rfl rfl rfl (Lk.assign rfl rfl) fun _ => ?_
      refine R.nil ?_
      refine EvC.ret ?_
      exact ⟨.inr rfl, _, _, (.cons (.tmp rfl) .nil), ok.le, _, rfl, hS⟩
  · refine EvC.seq ?_
    refine EvC.region [Item.look 0, Item.look 1, Item.alc 2] (by kernel_rfl) ?_
    refine R.look (v := (.pointer (some ⟨b5, 3, none⟩))) rfl rfl rfl (Lk.fldAddr rfl Tryd.underlying54 rfl rfl T9 rfl rfl rfl) fun _ => ?_
    refine R.look rfl rfl rfl (Lk.load1 (v := (.string v19_3)) rfl Tryd.underlying9 rfl rfl (H.rd_loc ok (i := 0) rfl rfl)) fun _ => ?_
    refine R.var (blk := .obj (.stringIter v19_3 0)) ok rfl rfl rfl (Ac.range rfl Tryd.underlying9 rfl) trivial rfl fun b34 ok => ?_
    refine R.nil ?_
    refine EvC.block ?_
    refine EvC.loop ?_
    refine LoopC.lfp (σ := Int × Int × Sl × Nat) (fun s => (Env.put (Env.put (Env.put (Env.put (Env.put (Env.put Env.emp 34 (.pointer (some ⟨b34, 0, none⟩))) 8 (.slice s.2.2.1.a s.2.2.1.l s.2.2.1.c)) 7 (.int .i64 s.2.1)) 6 (.int .i64 s.1)) 1 (.int .i64 p1)) 0 (.pointer p0))) (fun s => [(b34, .obj (.stringIter v19_3 s.2.2.2))]) (fun X hX => ?_) hS (ok.sub (.cons_cons _ (.cons _ List.Sublist.slnil))) (Env.le_put rfl (Env.le_put rfl (Env.le_put rfl (Env.le_put rfl (Env.le_put rfl (Env.le_put rfl (Env.le_emp _))))))) (H.add_sub ok (.cons_cons _ (.cons _ List.Sublist.slnil)))
    rintro ⟨v6_1, v7_1, v8_1, c34_1⟩ h_7 hS ok
    replace hS : S46_l2 p0 p1 K v19_3 X v6_1 v7_1 v8_1 c34_1 h_7 := hS
    change EvC _ _ _ (Env.put (Env.put (Env.put (Env.put (Env.put (Env.put Env.emp 34 (.pointer (some ⟨b34, 0, none⟩))) 8 (.slice v8_1.a v8_1.l v8_1.c)) 7 (.int .i64 v7_1)) 6 (.int .i64 v6_1)) 1 (.int .i64 p1)) 0 (.pointer p0)) (H.add h_7 [(b34, .obj (.stringIter v19_3 c34_1))]) _
    unfold S46_l2 at hS
    refine EvC.seq ?_
    refine EvC.region [Item.eff 0 [], Item.look 1] (by kernel_rfl) ?_
    by_cases e40 : c34_1 < ByteArray.size v19_3
    · rw [if_pos e40] at hS
      refine R.eff rfl rfl rfl (Ef.nextLoc (i := 0) (l' := [(b34, .obj (.stringIter v19_3 (c34_1 + (Utf8.decode v19_3 c34_1).2)))]) ok rfl rfl rfl e40 rfl fun ok => ⟨noChk, ?_⟩)
      refine R.look rfl rfl rfl (Lk.extract rfl rfl rfl) fun _ => ?_
      refine R.nil ?_
      refine EvC.seq ?_
      refine EvC.condT rfl rfl ?_
      refine EvC.skip ?_
      refine EvC.block ?_
      refine EvC.seq ?_
      refine EvC.region [Item.look 0, Item.look 1] (by kernel_rfl) ?_
      refine R.look rfl rfl rfl (Lk.extract rfl rfl rfl) fun _ => ?_
      refine R.look rfl rfl rfl (Lk.assign rfl rfl) fun _ => ?_
      refine R.nil ?_
      refine EvC.seq ?_
      refine EvC.region [Item.look 0, Item.eff 1 [], Item.look 2] (by kernel_rfl) ?_
      refine R.look rfl rfl rfl (Lk.move rfl rfl) fun _ => ?_
      refine R.eff rfl rfl rfl (Eff.loc ok (Ef.call rfl CB74 rfl ((f74_ok hS).mono ?_)))
      rintro _ h_8 ⟨v39, rfl, hS⟩
      refine fun ok => ⟨noChk, ?_⟩
      refine R.look rfl rfl rfl (Lk.assign rfl rfl) fun _ => ?_
      refine R.nil ?_
      refine EvC.seq ?_
      refine EvC.region [Item.look 0, Item.look 1, Item.look 2, Item.look 3, Item.look 4, Item.look 5, Item.look 6, Item.look 7, Item.eff 8 []] (by kernel_rfl) ?_
      refine R.look rfl rfl rfl (Lk.move rfl rfl) fun _ => ?_
      obtain ⟨a41, e41, hS⟩ := hS
      refine R.look (v := (.pointer (some a41))) rfl rfl rfl (Lk.nilChk rfl rfl e41) fun _ => ?_
      refine R.look (v := (.pointer (some (Addr.add a41 2)))) rfl rfl rfl (Lk.fldAddr rfl Tryd.underlying106 rfl rfl T103 rfl rfl rfl) fun _ => ?_
      obtain ⟨v43, e42, hS⟩ := hS
      refine R.look rfl rfl rfl (Look.loc ok (Lk.load1 rfl Tryd.underlying103 rfl rfl e42)) fun _ => ?_
      refine R.look rfl rfl rfl (Lk.move rfl rfl) fun _ => ?_
      refine R.look rfl rfl rfl (Lk.move rfl rfl) fun _ => ?_
      refine R.look rfl rfl rfl (Lk.move rfl rfl) fun _ => ?_
      refine R.look rfl rfl rfl (Lk.move rfl rfl) fun _ => ?_
      refine R.eff rfl rfl rfl (Eff.loc ok (Ef.call rfl CB75 rfl ((f75_ok hS).mono ?_)))
      rintro _ h_9 ⟨v48, rfl, hS⟩
      refine fun ok => ⟨noChk, ?_⟩
      refine R.nil ?_
      refine EvC.seq ?_
      refine EvC.region [Item.look 0, Item.look 1, Item.look 2, Item.eff 3 [], Item.look 4, Item.look 5] (by kernel_rfl) ?_
      refine R.look rfl rfl rfl (Lk.move rfl rfl) fun _ => ?_
      refine R.look rfl rfl rfl (Lk.move rfl rfl) fun _ => ?_
      refine R.look rfl rfl rfl (Lk.move rfl rfl) fun _ => ?_
      refine R.eff rfl rfl rfl (Eff.loc ok (Ef.call rfl CB76 rfl ((f76_ok hS).mono ?_)))
      rintro _ h_10 ⟨v52, rfl, hS⟩
      refine fun ok => ⟨noChk, ?_⟩
      refine R.look rfl rfl rfl (Lk.assign rfl rfl) fun _ => ?_
      refine R.look rfl rfl rfl (Lk.assign rfl rfl) fun _ => ?_
      refine R.nil ?_
      refine EvC.region [Item.look 0, Item.look 1, Item.alc 2, Item.eff 3 [], Item.look 4] (by kernel_rfl) ?_
      refine R.look rfl rfl rfl (Lk.move rfl rfl) fun _ => ?_
      refine R.look rfl rfl rfl (Lk.move rfl rfl) fun _ => ?_
      refine R.appL (cs := [(.int .i64 v39)]) ok rfl rfl rfl rfl rfl rfl rfl rfl Tryd.underlying32 T3 rfl (by decide) (by decide) rfl rfl rfl rfl rfl (fun _ => rfl) hS ?_
      intro bb55 v56 h_11 hS ok
      refine ⟨noChk, ?_⟩
      refine R.look rfl rfl rfl (Lk.assign rfl rfl) fun _ => ?_
      refine R.nil ?_
      exact hX (v39, v52, v56, (c34_1 + (Utf8.decode v19_3 c34_1).2)) _ _ _ hS (ok.sub (.cons_cons _ List.Sublist.slnil)) (Env.le_put rfl (Env.le_put rfl (Env.le_put rfl (Env.le_put rfl (Env.le_put rfl (Env.le_put rfl (Env.le_emp _))))))) (H.add_sub ok (.cons_cons _ List.Sublist.slnil))
    · rw [if_neg e40] at hS
      refine R.eff rfl rfl rfl (Ef.nextEnd (i := 0) ok rfl rfl rfl e40 ⟨noChk, ?_⟩)
      refine R.look rfl rfl rfl (Lk.extract rfl rfl rfl) fun _ => ?_
      refine R.nil ?_
      refine EvC.seq ?_
      refine EvC.condF rfl rfl ?_
      refine EvC.exit ?_
      exact hIh_2 (v6_1, v7_1, v8_1) _ _ _ (Env.le_put rfl (Env.le_put rfl (Env.le_put rfl (Env.le_put rfl (Env.le_put rfl (Env.le_emp _)))))) (ok.sub (.cons _ List.Sublist.slnil)) (H.add_sub ok (.cons _ List.Sublist.slnil)) hS
end Go.Proofs.YtimadnngfhbfiaaDoor
end

section
/- PRINTED by wip/gen.py: the machine's call of slices.Clone[[]muntin/api.Cell,muntin/api.Cell] does what S77 says. -/
namespace Go.Proofs.YtimadnngfhbfiaaDoor
open Go Go.Mu
set_option maxHeartbeats 4000000
set_option maxRecDepth 100000
theorem f77_ok {p0 : Sl} {h : H} {K : Sl → H → Prop} (hS : S77 p0 h K) : ACall Tryd.prog 77 ([(.slice p0.a p0.l p0.c)] : List Value).toArray h (fun r h' => ∃ r0 : Sl, r = tup [(.slice r0.a r0.l r0.c)] ∧ K r0 h') := by
  refine ACall.enter (fn := Tryd.f77) Tryd.func77 rfl (Nat.le_of_ble_eq_true rfl) ?_
  unfold S77 at hS
  have ok := Lok.nil h
  change EvC _ _ _ _ (H.add h []) _
  refine EvC.seq ?_
  refine EvC.region [Item.look 0] (by kernel_rfl) ?_
  refine R.look rfl rfl rfl (Lk.assign rfl rfl) fun _ => ?_
  refine R.nil ?_
  refine EvC.seq ?_
  refine EvC.seq ?_
  refine EvC.region [Item.look 0, Item.look 1] (by kernel_rfl) ?_
  refine R.look rfl rfl rfl (Lk.move rfl rfl) fun _ => ?_
  refine R.look rfl rfl rfl (Lk.sliceNil rfl Tryd.underlying31 rfl) fun _ => ?_
  refine R.nil ?_
  by_cases e1 : (Option.isNone p0.a) = true
  · rw [if_pos e1] at hS
    refine EvC.condT rfl e1 ?_
    refine EvC.seq ?_
    refine EvC.region [Item.look 0] (by kernel_rfl) ?_
    refine R.look rfl rfl rfl (Lk.assign rfl rfl) fun _ => ?_
    refine R.nil ?_
    refine EvC.ret ?_
    exact ⟨.inr rfl, _, _, (.cons (.tmp rfl) .nil), ok.le, _, rfl, hS⟩
  · rw [if_neg e1] at hS
    replace e1 := eq_false_of_ne_true e1
    refine EvC.condF rfl e1 ?_
    refine EvC.skip ?_
    refine EvC.seq ?_
    refine EvC.region [Item.alc 0, Item.look 1, Item.eff 2 [], Item.look 3] (by kernel_rfl) ?_
    refine R.new (blk := (.row ⟨[], 0, 51, true, true⟩)) ok rfl rfl rfl (Ac.buildSlice0 rfl Tryd.underlying31 T51) rfl rfl fun b5 e2 ok => ?_
    replace hS := hS b5 _ e2 rfl
    refine R.look rfl rfl rfl (Lk.move rfl rfl) fun _ => ?_
    obtain ⟨e3, hS⟩ := hS
    refine R.appS ok rfl rfl rfl rfl Tryd.underlying31 T51 rfl rfl rfl rfl e3 hS ?_
    intro v7 h_2 hS ok
    refine ⟨noChk, ?_⟩
    refine R.look rfl rfl rfl (Lk.assign rfl rfl) fun _ => ?_
    refine R.nil ?_
    refine EvC.ret ?_
    exact ⟨.inr rfl, _, _, (.cons (.tmp rfl) .nil), ok.le, _, rfl, hS⟩
end Go.Proofs.YtimadnngfhbfiaaDoor
end

section
/- PRINTED by wip/gen.py: the machine's call of (*muntin/grid.Grid).Cells does what S47 says. -/
namespace Go.Proofs.YtimadnngfhbfiaaDoor
open Go Go.Mu
set_option maxHeartbeats 4000000
set_option maxRecDepth 100000
theorem f47_ok {p0 : Option Addr} {h : H} {K : Sl → H → Prop} (hS : S47 p0 h K) : ACall Tryd.prog 47 ([(.pointer p0)] : List Value).toArray h (fun r h' => ∃ r0 : Sl, r = tup [(.slice r0.a r0.l r0.c)] ∧ K r0 h') := by
  refine ACall.enter (fn := Tryd.f47) Tryd.func47 rfl (Nat.le_of_ble_eq_true rfl) ?_
  unfold S47 at hS
  have ok := Lok.nil h
  change EvC _ _ _ _ (H.add h []) _
  refine EvC.seq ?_
  refine EvC.region [Item.look 0] (by kernel_rfl) ?_
  refine R.look rfl rfl rfl (Lk.assign rfl rfl) fun _ => ?_
  refine R.nil ?_
  refine EvC.seq ?_
  refine EvC.seq ?_
  refine EvC.region [Item.look 0, Item.look 1] (by kernel_rfl) ?_
  refine R.look rfl rfl rfl (Lk.move rfl rfl) fun _ => ?_
  refine R.look rfl rfl rfl (Lk.ptrNil rfl Tryd.underlying103 rfl) fun _ => ?_
  refine R.nil ?_
  by_cases e1 : (Option.isNone p0) = true
  · rw [if_pos e1] at hS
    refine EvC.condT rfl e1 ?_
    refine EvC.seq ?_
    refine EvC.region [Item.look 0] (by kernel_rfl) ?_
    refine R.look rfl rfl rfl (Lk.assign rfl rfl) fun _ => ?_
    refine R.nil ?_
    refine EvC.ret ?_
    exact ⟨.inr rfl, _, _, (.cons (.tmp rfl) .nil), ok.le, _, rfl, hS⟩
  · rw [if_neg e1] at hS
    replace e1 := eq_false_of_ne_true e1
    refine EvC.condF rfl e1 ?_
    refine EvC.skip ?_
    refine EvC.seq ?_
    refine EvC.region [Item.look 0, Item.look 1, Item.look 2, Item.look 3, Item.eff 4 [], Item.look 5] (by kernel_rfl) ?_
    refine R.look rfl rfl rfl (Lk.move rfl rfl) fun _ => ?_
    obtain ⟨a6, e2, hS⟩ := hS
    refine R.look (v := (.pointer (some a6))) rfl rfl rfl (Lk.nilChk rfl rfl e2) fun _ => ?_
    refine R.look (v := (.pointer (some a6))) rfl rfl rfl (Lk.fldAddr rfl Tryd.underlying151 rfl rfl T31 rfl rfl rfl) fun _ => ?_
    obtain ⟨v8, e3, hS⟩ := hS
    refine R.look rfl rfl rfl (Look.loc ok (Lk.load1 rfl Tryd.underlying31 rfl rfl e3)) fun _ => ?_
    refine R.eff rfl rfl rfl (Eff.loc ok (Ef.call rfl CB77 rfl ((f77_ok hS).mono ?_)))
    rintro _ h_1 ⟨v9, rfl, hS⟩
    refine fun ok => ⟨noChk, ?_⟩
    refine R.look rfl rfl rfl (Lk.assign rfl rfl) fun _ => ?_
    refine R.nil ?_
    refine EvC.ret ?_
    exact ⟨.inr rfl, _, _, (.cons (.tmp rfl) .nil), ok.le, _, rfl, hS⟩
end Go.Proofs.YtimadnngfhbfiaaDoor
end

section
/- PRINTED by wip/gen.py: the machine's call of muntin/norm.Of does what S12 says. -/
namespace Go.Proofs.YtimadnngfhbfiaaDoor
open Go Go.Mu
set_option maxHeartbeats 4000000
set_option maxRecDepth 100000
theorem f12_ok {p0_0 : Sl} {p0_1 : Sl} {h : H} {K : Sl → Sl → Sl → Int → H → Prop} (hS : S12 p0_0 p0_1 h K) : ACall Tryd.prog 12 ([(.agg ([(.slice p0_0.a p0_0.l p0_0.c), (.slice p0_1.a p0_1.l p0_1.c)] : List Value).toArray)] : List Value).toArray h (fun r h' => ∃ r0_0 : Sl, ∃ r0_1 : Sl, ∃ r0_2 : Sl, ∃ r1 : Int, r = tup [(.agg ([(.slice r0_0.a r0_0.l r0_0.c), (.slice r0_1.a r0_1.l r0_1.c), (.slice r0_2.a r0_2.l r0_2.c)] : List Value).toArray), (.int .i64 r1)] ∧ K r0_0 r0_1 r0_2 r1 h') := by
  refine ACall.enter (fn := Tryd.f12) Tryd.func12 rfl (Nat.le_of_ble_eq_true rfl) ?_
  unfold S12 at hS
  have ok := Lok.nil h
  change EvC _ _ _ _ (H.add h []) _
  refine EvC.seq ?_
  refine EvC.region [Item.alc 0, Item.alc 1, Item.look 2] (by kernel_rfl) ?_
  refine R.var (blk := .row ⟨[(.slice p0_0.a p0_0.l p0_0.c), (.slice p0_1.a p0_1.l p0_1.c)], 2, 29, true, true⟩) ok rfl rfl rfl (Ac.box rfl rfl) rfl rfl fun b1 ok => ?_
  refine R.var (blk := .row ⟨[(.slice none 0 0), (.slice none 0 0), (.slice none 0 0)], 3, 35, true, true⟩) ok rfl rfl rfl (Ac.alloc rfl T35) rfl rfl fun b2 ok => ?_
  refine R.look rfl rfl rfl (Lk.assign rfl rfl) fun _ => ?_
  refine R.nil ?_
  refine EvC.seq ?_
  refine EvC.seq ?_
  refine EvC.region [Item.look 0, Item.eff 1 [], Item.look 2] (by kernel_rfl) ?_
  refine R.look rfl rfl rfl (Lk.loadN (vs := [(.slice p0_0.a p0_0.l p0_0.c), (.slice p0_1.a p0_1.l p0_1.c)]) rfl Tryd.underlying29 rfl T29 rfl (H.rdn_loc ok (i := 1) rfl rfl rfl)) fun _ => ?_
  refine R.eff rfl rfl rfl (Eff.loc ok (Ef.call rfl CB39 rfl ((f39_ok hS).mono ?_)))
  rintro _ h_1 ⟨v12, rfl, hS⟩
  refine fun ok => ⟨noChk, ?_⟩
  refine R.look rfl rfl rfl (Lk.assign rfl rfl) fun _ => ?_
  refine R.nil ?_
  refine EvC.seq ?_
  refine EvC.region [Item.look 0, Item.look 1] (by kernel_rfl) ?_
  refine R.look rfl rfl rfl (Lk.move rfl rfl) fun _ => ?_
  refine R.look rfl rfl rfl (Lk.arith rfl rfl rfl rfl) fun _ => ?_
  refine R.nil ?_
  by_cases e1 : (v12 != 0) = true
  · rw [if_pos e1] at hS
    refine EvC.condT rfl e1 ?_
    refine EvC.seq ?_
    refine EvC.region [Item.look 0, Item.look 1, Item.eff 2 [], Item.look 3] (by kernel_rfl) ?_
    refine R.look rfl rfl rfl (Lk.build (cs := [(.slice none 0 0), (.slice none 0 0), (.slice none 0 0)]) (pl := [(0, 1), (1, 1), (2, 1)]) rfl Tryd.underlying35 T35 (PlacesL.places (.cons T31 (.cons T32 (.cons T33 PlacesL.nil)))) rfl rfl) fun _ => ?_
    refine R.look rfl rfl rfl (Lk.move rfl rfl) fun _ => ?_
    refine R.effN rfl rfl rfl (Ef.storeLoc (i := 0) (vs := [(.slice none 0 0), (.slice none 0 0), (.slice none 0 0)]) (cs := [(.slice none 0 0), (.slice none 0 0), (.slice none 0 0)]) (l' := [(b2, .row ⟨[(.slice none 0 0), (.slice none 0 0), (.slice none 0 0)], 3, 35, true, true⟩), (b1, .row ⟨[(.slice p0_0.a p0_0.l p0_0.c), (.slice p0_1.a p0_1.l p0_1.c)], 2, 29, true, true⟩)]) ok rfl T35 rfl rfl rfl rfl rfl rfl rfl rfl rfl rfl fun ok => ⟨noChk, ?_⟩)
    refine R.look rfl rfl rfl (Lk.assign rfl rfl) fun _ => ?_
    refine R.nil ?_
    refine EvC.ret ?_
    exact ⟨.inr rfl, _, _, (.cons (.cells rfl (fun w => Und.agg Tryd.underlying35 w) (fun w => T35.size_ w) (H.rdn_loc ok (i := 0) rfl rfl rfl)) (.cons (.tmp rfl) .nil)), ok.le, _, _, _, _, rfl, hS⟩
  · rw [if_neg e1] at hS
    replace e1 := eq_false_of_ne_true e1
    refine EvC.condF rfl e1 ?_
    refine EvC.skip ?_
    refine EvC.seq ?_
    refine EvC.draw [0, 0, 2, 6, 14, 31, 63, 127] [Item.look 0, Item.look 1, Item.look 2, Item.look 3, Item.alc 4, Item.look 5, Item.alc 6, Item.look 7] MO (by kernel_rfl) ?_
    refine R.look rfl rfl rfl (Lk.loadN (vs := [(.slice p0_0.a p0_0.l p0_0.c), (.slice p0_1.a p0_1.l p0_1.c)]) rfl Tryd.underlying29 rfl T29 rfl (H.rdn_loc ok (i := 1) rfl rfl rfl)) fun _ => ?_
    refine R.look (v := (.pointer (some ⟨b1, 1, none⟩))) rfl rfl rfl (Lk.fldAddr rfl Tryd.underlying29 rfl rfl T27 rfl rfl rfl) fun _ => ?_
    refine R.look rfl rfl rfl (Lk.load1 (v := (.slice p0_1.a p0_1.l p0_1.c)) rfl Tryd.underlying27 rfl rfl (H.rd_loc ok (i := 1) rfl rfl)) fun _ => ?_
    refine R.look rfl rfl rfl (Lk.len rfl Tryd.underlying27 rfl) fun _ => ?_
    obtain ⟨e2, e3, e4, e5, hS⟩ := hS
    refine R.new (blk := (.row ⟨zeros (.agg #[(.int .i64 0), (.int .i64 0)]) (Int.toNat (p0_1.l : Int) * 2), (zeros (.agg #[(.int .i64 0), (.int .i64 0)]) (Int.toNat (p0_1.l : Int) * 2)).length, 116, true, true⟩)) ok rfl rfl rfl (Ac.makeSlice rfl Tryd.underlying41 T116 rfl rfl e2 e3 e4 e5) rfl rfl fun b21 e6 ok => ?_
    replace hS := hS b21 _ e6 rfl
    refine R.look rfl rfl rfl (Lk.build (cs := [(.slice p0_0.a p0_0.l p0_0.c), (.slice p0_1.a p0_1.l p0_1.c), (.pointer none), (.slice none 0 0), (.slice (some ⟨b21, 0, none⟩) (Int.toNat (p0_1.l : Int)) (Int.toNat (p0_1.l : Int))), (.slice none 0 0), (.slice none 0 0), (.slice none 0 0)]) (pl := [(0, 2), (2, 1), (3, 1), (4, 1), (5, 3)]) rfl Tryd.underlying106 T106 (PlacesL.places (.cons T29 (.cons T103 (.cons T104 (.cons T41 (.cons T35 PlacesL.nil)))))) rfl rfl) fun _ => ?_
    refine R.new (blk := (.row ⟨[(.slice p0_0.a p0_0.l p0_0.c), (.slice p0_1.a p0_1.l p0_1.c), (.pointer none), (.slice none 0 0), (.slice (some ⟨b21, 0, none⟩) (Int.toNat (p0_1.l : Int)) (Int.toNat (p0_1.l : Int))), (.slice none 0 0), (.slice none 0 0), (.slice none 0 0)], 8, 106, true, true⟩)) ok rfl rfl rfl (Ac.box rfl rfl) rfl rfl fun b23 e7 ok => ?_
    replace hS := hS b23 _ e7 rfl
    refine R.look rfl rfl rfl (Lk.assign rfl rfl) fun _ => ?_
    refine R.nil ?_
    refine EvC.seq ?_
    refine EvC.region [Item.look 0, Item.eff 1 []] (by kernel_rfl) ?_
    refine R.look rfl rfl rfl (Lk.move rfl rfl) fun _ => ?_
    refine R.eff rfl rfl rfl (Eff.loc ok (Ef.call rfl CB40 rfl ((f40_ok hS).mono ?_)))
    rintro _ h_4 ⟨rfl, hS⟩
    refine fun ok => ⟨noChk, ?_⟩
    refine R.nil ?_
    refine EvC.seq ?_
    refine EvC.seq ?_
    refine EvC.region [Item.look 0, Item.eff 1 [], Item.look 2] (by kernel_rfl) ?_
    refine R.look rfl rfl rfl (Lk.move rfl rfl) fun _ => ?_
    refine R.eff rfl rfl rfl (Eff.loc ok (Ef.call rfl CB41 rfl ((f41_ok hS).mono ?_)))
    rintro _ h_5 ⟨v27, rfl, hS⟩
    refine fun ok => ⟨noChk, ?_⟩
    refine R.look rfl rfl rfl (Lk.arith rfl rfl rfl rfl) fun _ => ?_
    refine R.nil ?_
    by_cases e8 : (decide (v27 > 4096)) = true
    · rw [if_pos e8] at hS
      refine EvC.condT rfl e8 ?_
      refine EvC.seq ?_
      refine EvC.region [Item.look 0, Item.eff 1 [], Item.look 2] (by kernel_rfl) ?_
      refine R.look rfl rfl rfl (Lk.build (cs := [(.slice none 0 0), (.slice none 0 0), (.slice none 0 0)]) (pl := [(0, 1), (1, 1), (2, 1)]) rfl Tryd.underlying35 T35 (PlacesL.places (.cons T31 (.cons T32 (.cons T33 PlacesL.nil)))) rfl rfl) fun _ => ?_
      refine R.effN rfl rfl rfl (Ef.storeLoc (i := 0) (vs := [(.slice none 0 0), (.slice none 0 0), (.slice none 0 0)]) (cs := [(.slice none 0 0), (.slice none 0 0), (.slice none 0 0)]) (l' := [(b2, .row ⟨[(.slice none 0 0), (.slice none 0 0), (.slice none 0 0)], 3, 35, true, true⟩), (b1, .row ⟨[(.slice p0_0.a p0_0.l p0_0.c), (.slice p0_1.a p0_1.l p0_1.c)], 2, 29, true, true⟩)]) ok rfl T35 rfl rfl rfl rfl rfl rfl rfl rfl rfl rfl fun ok => ⟨noChk, ?_⟩)
      refine R.look rfl rfl rfl (Lk.assign rfl rfl) fun _ => ?_
      refine R.nil ?_
      refine EvC.ret ?_
      exact ⟨.inr rfl, _, _, (.cons (.cells rfl (fun w => Und.agg Tryd.underlying35 w) (fun w => T35.size_ w) (H.rdn_loc ok (i := 0) rfl rfl rfl)) (.cons (.tmp rfl) .nil)), ok.le, _, _, _, _, rfl, hS⟩
    · rw [if_neg e8] at hS
      replace e8 := eq_false_of_ne_true e8
      refine EvC.condF rfl e8 ?_
      refine EvC.skip ?_
      refine EvC.seq ?_
      refine EvC.region [Item.look 0, Item.eff 1 [], Item.look 2, Item.look 3, Item.look 4, Item.look 5, Item.look 6, Item.eff 7 []] (by kernel_rfl) ?_
      refine R.look rfl rfl rfl (Lk.move rfl rfl) fun _ => ?_
      refine R.eff rfl rfl rfl (Eff.loc ok (Ef.call rfl CB42 rfl ((f42_ok hS).mono ?_)))
      rintro _ h_6 ⟨v32_0, v32_1, rfl, hS⟩
      refine fun ok => ⟨noChk, ?_⟩
      refine R.look rfl rfl rfl (Lk.move rfl rfl) fun _ => ?_
      refine R.look rfl rfl rfl (Lk.extract rfl rfl rfl) fun _ => ?_
      refine R.look rfl rfl rfl (Lk.extract rfl rfl rfl) fun _ => ?_
      refine R.look rfl rfl rfl (Lk.nilCheck rfl rfl) fun _ => ?_
      refine R.look (v := (.pointer (some ⟨b23, 2, none⟩))) rfl rfl rfl (Lk.fldAddr rfl Tryd.underlying106 rfl rfl T103 rfl rfl rfl) fun _ => ?_
      obtain ⟨h_7, e9, hS⟩ := hS
      refine R.effN rfl rfl rfl (Eff.loc ok (Ef.store rfl T103 rfl rfl rfl rfl rfl e9 fun ok => ⟨noChk, ?_⟩))
      refine R.nil ?_
      refine EvC.join (σ := Sl × Sl × Sl) (fun s => (Env.put (Env.put (Env.put Env.emp 5 (.pointer (some ⟨b23, 0, none⟩))) 2 (.pointer (some ⟨b2, 0, none⟩))) 1 (.pointer (some ⟨b1, 0, none⟩)))) (fun s => [(b2, .row ⟨[(.slice s.1.a s.1.l s.1.c), (.slice s.2.1.a s.2.1.l s.2.1.c), (.slice s.2.2.a s.2.2.l s.2.2.c)], 3, 35, true, true⟩), (b1, .row ⟨[(.slice p0_0.a p0_0.l p0_0.c), (.slice p0_1.a p0_1.l p0_1.c)], 2, 29, true, true⟩)]) (fun s h_8 => S12_j3 p0_1 K b23 s.1 s.2.1 s.2.2 h_8) ?_ (fun Ih_8 hIh_8 => ?_)
      · rintro ⟨c2_0, c2_1, c2_2⟩ h_8 ok hS
        replace hS : S12_j3 p0_1 K b23 c2_0 c2_1 c2_2 h_8 := hS
        change EvC _ _ _ (Env.put (Env.put (Env.put Env.emp 5 (.pointer (some ⟨b23, 0, none⟩))) 2 (.pointer (some ⟨b2, 0, none⟩))) 1 (.pointer (some ⟨b1, 0, none⟩))) (H.add h_8 [(b2, .row ⟨[(.slice c2_0.a c2_0.l c2_0.c), (.slice c2_1.a c2_1.l c2_1.c), (.slice c2_2.a c2_2.l c2_2.c)], 3, 35, true, true⟩), (b1, .row ⟨[(.slice p0_0.a p0_0.l p0_0.c), (.slice p0_1.a p0_1.l p0_1.c)], 2, 29, true, true⟩)]) _
        unfold S12_j3 at hS
        refine EvC.join (σ := Sl × Sl × Sl) (fun s => (Env.put (Env.put Env.emp 5 (.pointer (some ⟨b23, 0, none⟩))) 2 (.pointer (some ⟨b2, 0, none⟩)))) (fun s => [(b2, .row ⟨[(.slice s.1.a s.1.l s.1.c), (.slice s.2.1.a s.2.1.l s.2.1.c), (.slice s.2.2.a s.2.2.l s.2.2.c)], 3, 35, true, true⟩)]) (fun s h_9 => S12_j1 K b23 s.1 s.2.1 s.2.2 h_9) ?_ (fun Ih_9 hIh_9 => ?_)
        · rintro ⟨c2_0_1, c2_1_1, c2_2_1⟩ h_9 ok hS
          replace hS : S12_j1 K b23 c2_0_1 c2_1_1 c2_2_1 h_9 := hS
          change EvC _ _ _ (Env.put (Env.put Env.emp 5 (.pointer (some ⟨b23, 0, none⟩))) 2 (.pointer (some ⟨b2, 0, none⟩))) (H.add h_9 [(b2, .row ⟨[(.slice c2_0_1.a c2_0_1.l c2_0_1.c), (.slice c2_1_1.a c2_1_1.l c2_1_1.c), (.slice c2_2_1.a c2_2_1.l c2_2_1.c)], 3, 35, true, true⟩)]) _
          unfold S12_j1 at hS
          refine EvC.seq ?_
          refine EvC.region [Item.look 0, Item.look 1, Item.look 2, Item.look 3, Item.look 4, Item.eff 5 [], Item.look 6, Item.look 7, Item.look 8, Item.eff 9 []] (by kernel_rfl) ?_
          refine R.look rfl rfl rfl (Lk.move rfl rfl) fun _ => ?_
          refine R.look rfl rfl rfl (Lk.move rfl rfl) fun _ => ?_
          refine R.look rfl rfl rfl (Lk.nilCheck rfl rfl) fun _ => ?_
          refine R.look (v := (.pointer (some ⟨b23, 2, none⟩))) rfl rfl rfl (Lk.fldAddr rfl Tryd.underlying106 rfl rfl T103 rfl rfl rfl) fun _ => ?_
          obtain ⟨v91, e10, hS⟩ := hS
          refine R.look rfl rfl rfl (Look.loc ok (Lk.load1 rfl Tryd.underlying103 rfl rfl e10)) fun _ => ?_
          refine R.eff rfl rfl rfl (Eff.loc ok (Ef.call rfl CB47 rfl ((f47_ok hS).mono ?_)))
          rintro _ h_10 ⟨v92, rfl, hS⟩
          refine fun ok => ⟨noChk, ?_⟩
          refine R.look rfl rfl rfl (Lk.nilCheck rfl rfl) fun _ => ?_
          refine R.look (v := (.pointer (some ⟨b23, 5, none⟩))) rfl rfl rfl (Lk.fldAddr rfl Tryd.underlying106 rfl rfl T35 rfl rfl rfl) fun _ => ?_
          refine R.look (v := (.pointer (some ⟨b23, 5, none⟩))) rfl rfl rfl (Lk.fldAddr rfl Tryd.underlying35 rfl rfl T31 rfl rfl rfl) fun _ => ?_
          obtain ⟨h_11, e11, hS⟩ := hS
          refine R.effN rfl rfl rfl (Eff.loc ok (Ef.store rfl T31 rfl rfl rfl rfl rfl e11 fun ok => ⟨noChk, ?_⟩))
          refine R.nil ?_
          refine EvC.seq ?_
          refine EvC.region [Item.look 0, Item.look 1, Item.look 2, Item.look 3, Item.eff 4 [], Item.look 5] (by kernel_rfl) ?_
          refine R.look rfl rfl rfl (Lk.move rfl rfl) fun _ => ?_
          refine R.look rfl rfl rfl (Lk.nilCheck rfl rfl) fun _ => ?_
          refine R.look (v := (.pointer (some ⟨b23, 5, none⟩))) rfl rfl rfl (Lk.fldAddr rfl Tryd.underlying106 rfl rfl T35 rfl rfl rfl) fun _ => ?_
          obtain ⟨v99_0, v99_1, v99_2, e12, hS⟩ := hS
          refine R.look rfl rfl rfl (Look.loc ok (Lk.loadN rfl Tryd.underlying35 rfl T35 rfl e12)) fun _ => ?_
          refine R.effN rfl rfl rfl (Ef.storeLoc (i := 0) (vs := [(.slice v99_0.a v99_0.l v99_0.c), (.slice v99_1.a v99_1.l v99_1.c), (.slice v99_2.a v99_2.l v99_2.c)]) (cs := [(.slice v99_0.a v99_0.l v99_0.c), (.slice v99_1.a v99_1.l v99_1.c), (.slice v99_2.a v99_2.l v99_2.c)]) (l' := [(b2, .row ⟨[(.slice v99_0.a v99_0.l v99_0.c), (.slice v99_1.a v99_1.l v99_1.c), (.slice v99_2.a v99_2.l v99_2.c)], 3, 35, true, true⟩)]) ok rfl T35 rfl rfl rfl rfl rfl rfl rfl rfl rfl rfl fun ok => ⟨noChk, ?_⟩)
          refine R.look rfl rfl rfl (Lk.assign rfl rfl) fun _ => ?_
          refine R.nil ?_
          refine EvC.ret ?_
          exact ⟨.inr rfl, _, _, (.cons (.cells rfl (fun w => Und.agg Tryd.underlying35 w) (fun w => T35.size_ w) (H.rdn_loc ok (i := 0) rfl rfl rfl)) (.cons (.tmp rfl) .nil)), ok.le, _, _, _, _, rfl, hS⟩
        · refine EvC.seq ?_
          refine EvC.region [Item.look 0, Item.look 1, Item.look 2, Item.look 3] (by kernel_rfl) ?_
          refine R.look (v := (.pointer (some ⟨b1, 1, none⟩))) rfl rfl rfl (Lk.fldAddr rfl Tryd.underlying29 rfl rfl T27 rfl rfl rfl) fun _ => ?_
          refine R.look rfl rfl rfl (Lk.load1 (v := (.slice p0_1.a p0_1.l p0_1.c)) rfl Tryd.underlying27 rfl rfl (H.rd_loc ok (i := 1) rfl rfl)) fun _ => ?_
          refine R.look rfl rfl rfl (Lk.len rfl Tryd.underlying27 rfl) fun _ => ?_
          refine R.look rfl rfl rfl (Lk.move rfl rfl) fun _ => ?_
          refine R.nil ?_
          refine EvC.block ?_
          refine EvC.loop ?_
          refine LoopC.lfp (σ := Int × Sl × Sl × Sl) (fun s => (Env.put (Env.put (Env.put (Env.put Env.emp 76 (.int .i64 s.1)) 75 (.int .i64 (p0_1.l : Int))) 5 (.pointer (some ⟨b23, 0, none⟩))) 2 (.pointer (some ⟨b2, 0, none⟩)))) (fun s => [(b2, .row ⟨[(.slice s.2.1.a s.2.1.l s.2.1.c), (.slice s.2.2.1.a s.2.2.1.l s.2.2.1.c), (.slice s.2.2.2.a s.2.2.2.l s.2.2.2.c)], 3, 35, true, true⟩)]) (fun X hX => ?_) hS (ok.sub (.cons_cons _ (.cons _ List.Sublist.slnil))) (Env.le_put rfl (Env.le_put rfl (Env.le_put rfl (Env.le_put rfl (Env.le_emp _))))) (H.add_sub ok (.cons_cons _ (.cons _ List.Sublist.slnil)))
          rintro ⟨v76, c2_0_2, c2_1_2, c2_2_2⟩ h_12 hS ok
          replace hS : S12_l2 p0_1 K b23 X v76 c2_0_2 c2_1_2 c2_2_2 h_12 := hS
          change EvC _ _ _ (Env.put (Env.put (Env.put (Env.put Env.emp 76 (.int .i64 v76)) 75 (.int .i64 (p0_1.l : Int))) 5 (.pointer (some ⟨b23, 0, none⟩))) 2 (.pointer (some ⟨b2, 0, none⟩))) (H.add h_12 [(b2, .row ⟨[(.slice c2_0_2.a c2_0_2.l c2_0_2.c), (.slice c2_1_2.a c2_1_2.l c2_1_2.c), (.slice c2_2_2.a c2_2_2.l c2_2_2.c)], 3, 35, true, true⟩)]) _
          unfold S12_l2 at hS
          refine EvC.seq ?_
          refine EvC.region [Item.look 0] (by kernel_rfl) ?_
          refine R.look rfl rfl rfl (Lk.arith rfl rfl rfl rfl) fun _ => ?_
          refine R.nil ?_
          refine EvC.seq ?_
          by_cases e13 : (decide (v76 < (p0_1.l : Int))) = true
          · rw [if_pos e13] at hS
            refine EvC.condT rfl e13 ?_
            refine EvC.skip ?_
            refine EvC.seq ?_
            refine EvC.block ?_
            refine EvC.seq ?_
            refine EvC.region [Item.look 0, Item.look 1] (by kernel_rfl) ?_
            refine R.look rfl rfl rfl (Lk.move rfl rfl) fun _ => ?_
            refine R.look rfl rfl rfl (Lk.assign rfl rfl) fun _ => ?_
            refine R.nil ?_
            refine EvC.seq ?_
            refine EvC.region [Item.look 0, Item.look 1, Item.eff 2 [], Item.look 3] (by kernel_rfl) ?_
            refine R.look rfl rfl rfl (Lk.move rfl rfl) fun _ => ?_
            refine R.look rfl rfl rfl (Lk.move rfl rfl) fun _ => ?_
            refine R.eff rfl rfl rfl (Eff.loc ok (Ef.call rfl CB46 rfl ((f46_ok hS).mono ?_)))
            rintro _ h_13 ⟨v81, rfl, hS⟩
            refine fun ok => ⟨noChk, ?_⟩
            refine R.look rfl rfl rfl (Lk.assign rfl rfl) fun _ => ?_
            refine R.nil ?_
            refine EvC.seq ?_
            refine EvC.region [Item.look 0, Item.look 1] (by kernel_rfl) ?_
            refine R.look rfl rfl rfl (Lk.move rfl rfl) fun _ => ?_
            refine R.look rfl rfl rfl (Lk.arith rfl rfl rfl rfl) fun _ => ?_
            refine R.nil ?_
            by_cases e14 : (v81 != 0) = true
            · rw [if_pos e14] at hS
              refine EvC.condT rfl e14 ?_
              refine EvC.seq ?_
              refine EvC.region [Item.look 0, Item.look 1, Item.eff 2 [], Item.look 3] (by kernel_rfl) ?_
              refine R.look rfl rfl rfl (Lk.build (cs := [(.slice none 0 0), (.slice none 0 0), (.slice none 0 0)]) (pl := [(0, 1), (1, 1), (2, 1)]) rfl Tryd.underlying35 T35 (PlacesL.places (.cons T31 (.cons T32 (.cons T33 PlacesL.nil)))) rfl rfl) fun _ => ?_
              refine R.look rfl rfl rfl (Lk.move rfl rfl) fun _ => ?_
              refine R.effN rfl rfl rfl (Ef.storeLoc (i := 0) (vs := [(.slice none 0 0), (.slice none 0 0), (.slice none 0 0)]) (cs := [(.slice none 0 0), (.slice none 0 0), (.slice none 0 0)]) (l' := [(b2, .row ⟨[(.slice none 0 0), (.slice none 0 0), (.slice none 0 0)], 3, 35, true, true⟩)]) ok rfl T35 rfl rfl rfl rfl rfl rfl rfl rfl rfl rfl fun ok => ⟨noChk, ?_⟩)
              refine R.look rfl rfl rfl (Lk.assign rfl rfl) fun _ => ?_
              refine R.nil ?_
              refine EvC.ret ?_
              exact ⟨.inr rfl, _, _, (.cons (.cells rfl (fun w => Und.agg Tryd.underlying35 w) (fun w => T35.size_ w) (H.rdn_loc ok (i := 0) rfl rfl rfl)) (.cons (.tmp rfl) .nil)), ok.le, _, _, _, _, rfl, hS⟩
            · rw [if_neg e14] at hS
              replace e14 := eq_false_of_ne_true e14
              refine EvC.condF rfl e14 ?_
              refine EvC.skip ?_
              refine EvC.region [Item.look 0, Item.look 1] (by kernel_rfl) ?_
              refine R.look rfl rfl rfl (Lk.arith rfl rfl rfl rfl) fun _ => ?_
              refine R.look rfl rfl rfl (Lk.move rfl rfl) fun _ => ?_
              refine R.nil ?_
              exact hX ((IntKind.wrap .i64 (v76 + 1)), c2_0_2, c2_1_2, c2_2_2) _ _ _ hS (ok.sub (.cons_cons _ List.Sublist.slnil)) (Env.le_put rfl (Env.le_put rfl (Env.le_put rfl (Env.le_put rfl (Env.le_emp _))))) (H.add_sub ok (.cons_cons _ List.Sublist.slnil))
          · rw [if_neg e13] at hS
            replace e13 := eq_false_of_ne_true e13
            refine EvC.condF rfl e13 ?_
            refine EvC.exit ?_
            exact hIh_9 (c2_0_2, c2_1_2, c2_2_2) _ _ _ (Env.le_put rfl (Env.le_put rfl (Env.le_emp _))) (ok.sub (.cons_cons _ List.Sublist.slnil)) (H.add_sub ok (.cons_cons _ List.Sublist.slnil)) hS
      · refine EvC.seq ?_
        refine EvC.region [Item.look 0, Item.look 1, Item.look 2, Item.look 3] (by kernel_rfl) ?_
        refine R.look (v := (.pointer (some ⟨b1, 0, none⟩))) rfl rfl rfl (Lk.fldAddr rfl Tryd.underlying29 rfl rfl T22 rfl rfl rfl) fun _ => ?_
        refine R.look rfl rfl rfl (Lk.load1 (v := (.slice p0_0.a p0_0.l p0_0.c)) rfl Tryd.underlying22 rfl rfl (H.rd_loc ok (i := 1) rfl rfl)) fun _ => ?_
        refine R.look rfl rfl rfl (Lk.len rfl Tryd.underlying22 rfl) fun _ => ?_
        refine R.look rfl rfl rfl (Lk.move rfl rfl) fun _ => ?_
        refine R.nil ?_
        refine EvC.block ?_
        refine EvC.loop ?_
        refine LoopC.lfp (σ := Int × Sl × Sl × Sl) (fun s => (Env.put (Env.put (Env.put (Env.put (Env.put (Env.put Env.emp 40 (.int .i64 s.1)) 39 (.int .i64 (p0_0.l : Int))) 38 (.slice p0_0.a p0_0.l p0_0.c)) 5 (.pointer (some ⟨b23, 0, none⟩))) 2 (.pointer (some ⟨b2, 0, none⟩))) 1 (.pointer (some ⟨b1, 0, none⟩)))) (fun s => [(b2, .row ⟨[(.slice s.2.1.a s.2.1.l s.2.1.c), (.slice s.2.2.1.a s.2.2.1.l s.2.2.1.c), (.slice s.2.2.2.a s.2.2.2.l s.2.2.2.c)], 3, 35, true, true⟩), (b1, .row ⟨[(.slice p0_0.a p0_0.l p0_0.c), (.slice p0_1.a p0_1.l p0_1.c)], 2, 29, true, true⟩)]) (fun X_1 hX_1 => ?_) hS (ok.sub (.cons_cons _ (.cons_cons _ List.Sublist.slnil))) (Env.le_put rfl (Env.le_put rfl (Env.le_put rfl (Env.le_put rfl (Env.le_put rfl (Env.le_put rfl (Env.le_emp _))))))) (H.add_sub ok (.cons_cons _ (.cons_cons _ List.Sublist.slnil)))
        rintro ⟨v40, c2_0_3, c2_1_3, c2_2_3⟩ h_14 hS ok
        replace hS : S12_l5 p0_0 p0_1 K b23 X_1 v40 c2_0_3 c2_1_3 c2_2_3 h_14 := hS
        change EvC _ _ _ (Env.put (Env.put (Env.put (Env.put (Env.put (Env.put Env.emp 40 (.int .i64 v40)) 39 (.int .i64 (p0_0.l : Int))) 38 (.slice p0_0.a p0_0.l p0_0.c)) 5 (.pointer (some ⟨b23, 0, none⟩))) 2 (.pointer (some ⟨b2, 0, none⟩))) 1 (.pointer (some ⟨b1, 0, none⟩))) (H.add h_14 [(b2, .row ⟨[(.slice c2_0_3.a c2_0_3.l c2_0_3.c), (.slice c2_1_3.a c2_1_3.l c2_1_3.c), (.slice c2_2_3.a c2_2_3.l c2_2_3.c)], 3, 35, true, true⟩), (b1, .row ⟨[(.slice p0_0.a p0_0.l p0_0.c), (.slice p0_1.a p0_1.l p0_1.c)], 2, 29, true, true⟩)]) _
        unfold S12_l5 at hS
        refine EvC.seq ?_
        refine EvC.region [Item.look 0] (by kernel_rfl) ?_
        refine R.look rfl rfl rfl (Lk.arith rfl rfl rfl rfl) fun _ => ?_
        refine R.nil ?_
        refine EvC.seq ?_
        by_cases e15 : (decide (v40 < (p0_0.l : Int))) = true
        · rw [if_pos e15] at hS
          refine EvC.condT rfl e15 ?_
          refine EvC.skip ?_
          refine EvC.join (σ := Sl × Sl × Sl) (fun s => (Env.put (Env.put (Env.put (Env.put (Env.put (Env.put Env.emp 40 (.int .i64 v40)) 39 (.int .i64 (p0_0.l : Int))) 38 (.slice p0_0.a p0_0.l p0_0.c)) 5 (.pointer (some ⟨b23, 0, none⟩))) 2 (.pointer (some ⟨b2, 0, none⟩))) 1 (.pointer (some ⟨b1, 0, none⟩)))) (fun s => [(b2, .row ⟨[(.slice s.1.a s.1.l s.1.c), (.slice s.2.1.a s.2.1.l s.2.1.c), (.slice s.2.2.a s.2.2.l s.2.2.c)], 3, 35, true, true⟩), (b1, .row ⟨[(.slice p0_0.a p0_0.l p0_0.c), (.slice p0_1.a p0_1.l p0_1.c)], 2, 29, true, true⟩)]) (fun s h_15 => S12_j4 v40 X_1 s.1 s.2.1 s.2.2 h_15) ?_ (fun Ih_15 hIh_15 => ?_)
          · rintro ⟨c2_0_4, c2_1_4, c2_2_4⟩ h_15 ok hS
            replace hS : S12_j4 v40 X_1 c2_0_4 c2_1_4 c2_2_4 h_15 := hS
            change EvC _ _ _ (Env.put (Env.put (Env.put (Env.put (Env.put (Env.put Env.emp 40 (.int .i64 v40)) 39 (.int .i64 (p0_0.l : Int))) 38 (.slice p0_0.a p0_0.l p0_0.c)) 5 (.pointer (some ⟨b23, 0, none⟩))) 2 (.pointer (some ⟨b2, 0, none⟩))) 1 (.pointer (some ⟨b1, 0, none⟩))) (H.add h_15 [(b2, .row ⟨[(.slice c2_0_4.a c2_0_4.l c2_0_4.c), (.slice c2_1_4.a c2_1_4.l c2_1_4.c), (.slice c2_2_4.a c2_2_4.l c2_2_4.c)], 3, 35, true, true⟩), (b1, .row ⟨[(.slice p0_0.a p0_0.l p0_0.c), (.slice p0_1.a p0_1.l p0_1.c)], 2, 29, true, true⟩)]) _
            unfold S12_j4 at hS
            refine EvC.region [Item.look 0, Item.look 1] (by kernel_rfl) ?_
            refine R.look rfl rfl rfl (Lk.arith rfl rfl rfl rfl) fun _ => ?_
            refine R.look rfl rfl rfl (Lk.move rfl rfl) fun _ => ?_
            refine R.nil ?_
            exact hX_1 ((IntKind.wrap .i64 (v40 + 1)), c2_0_4, c2_1_4, c2_2_4) _ _ _ hS (ok.sub (.cons_cons _ (.cons_cons _ List.Sublist.slnil))) (Env.le_put rfl (Env.le_put rfl (Env.le_put rfl (Env.le_put rfl (Env.le_put rfl (Env.le_put rfl (Env.le_emp _))))))) (H.add_sub ok (.cons_cons _ (.cons_cons _ List.Sublist.slnil)))
          · refine EvC.block ?_
            refine EvC.seq ?_
            refine EvC.region [Item.look 0, Item.look 1, Item.look 2, Item.look 3, Item.look 4] (by kernel_rfl) ?_
            refine R.look rfl rfl rfl (Lk.move rfl rfl) fun _ => ?_
            obtain ⟨a43, e16, e17, e18, hS⟩ := hS
            refine R.look rfl rfl rfl (Lk.ixAddr rfl Tryd.underlying22 T4 rfl e16 rfl e17 e18) fun _ => ?_
            obtain ⟨v44, e19, hS⟩ := hS
            refine R.look rfl rfl rfl (Look.loc ok (Lk.load1 rfl Tryd.underlying4 rfl rfl e19)) fun _ => ?_
            refine R.look rfl rfl rfl (Lk.assign rfl rfl) fun _ => ?_
            refine R.look rfl rfl rfl (Lk.assign rfl rfl) fun _ => ?_
            refine R.nil ?_
            refine EvC.seq ?_
            refine EvC.draw [0, 0, 2, 6, 14, 30, 0, 64, 192, 448, 960, 1984, 4094, 8191, 16383, 32767, 65535] [Item.look 0, Item.look 1, Item.look 2, Item.look 3, Item.look 4, Item.look 5, Item.look 6, Item.look 7, Item.look 8, Item.look 9, Item.eff 10 [0, 1, 2, 3, 4, 5], Item.alc 11, Item.eff 12 [0], Item.look 13, Item.look 14, Item.look 15, Item.eff 16 []] MO (by kernel_rfl) ?_
            refine R.lookL rfl rfl rfl (Lk.move rfl rfl) ?_
            refine R.lookL rfl rfl rfl (Lk.move rfl rfl) ?_
            refine R.lookL rfl rfl rfl (Lk.nilCheck rfl rfl) ?_
            refine R.lookL (v := (.pointer (some ⟨b23, 5, none⟩))) rfl rfl rfl (Lk.fldAddr rfl Tryd.underlying106 rfl rfl T35 rfl rfl rfl) ?_
            refine R.lookL (v := (.pointer (some ⟨b23, 6, none⟩))) rfl rfl rfl (Lk.fldAddr rfl Tryd.underlying35 rfl rfl T32 rfl rfl rfl) ?_
            obtain ⟨v50, e20, hS⟩ := hS
            refine R.lookL rfl rfl rfl (Look.loc ok (Lk.load1 rfl Tryd.underlying32 rfl rfl e20)) ?_
            refine R.lookL rfl rfl rfl (Lk.move rfl rfl) ?_
            refine R.lookL rfl rfl rfl (Lk.nilCheck rfl rfl) ?_
            refine R.lookL (v := (.pointer (some ⟨b23, 2, none⟩))) rfl rfl rfl (Lk.fldAddr rfl Tryd.underlying106 rfl rfl T103 rfl rfl rfl) ?_
            obtain ⟨v54, e21, hS⟩ := hS
            refine R.lookL rfl rfl rfl (Look.loc ok (Lk.load1 rfl Tryd.underlying103 rfl rfl e21)) ?_
            refine R.eff rfl rfl rfl (Eff.loc ok (Ef.call rfl CB43 rfl ((f43_ok hS).mono ?_)))
            rintro _ h_16 ⟨v55, rfl, hS⟩
            obtain ⟨e22, hS⟩ := hS
            refine fun ok => ⟨(List.forall_mem_cons.2 ⟨(Log.past (by decide) (Log.past (by decide) (Log.past (by decide) (Log.past (by decide) (Log.past (by decide) (Log.past (by decide) (Log.past (by decide) (Log.past (by decide) (Log.past (by decide) (Log.at_ (LookG.of rfl (Lk.move rfl rfl)))))))))))), (List.forall_mem_cons.2 ⟨(Log.past (by decide) (Log.past (by decide) (Log.past (by decide) (Log.past (by decide) (Log.past (by decide) (Log.past (by decide) (Log.past (by decide) (Log.past (by decide) (Log.at_ (LookG.of rfl (Lk.move rfl rfl))))))))))), (List.forall_mem_cons.2 ⟨(Log.past (by decide) (Log.past (by decide) (Log.past (by decide) (Log.past (by decide) (Log.past (by decide) (Log.past (by decide) (Log.past (by decide) (Log.at_ (LookG.of rfl (Lk.nilCheck rfl rfl)))))))))), (List.forall_mem_cons.2 ⟨(Log.past (by decide) (Log.past (by decide) (Log.past (by decide) (Log.past (by decide) (Log.past (by decide) (Log.past (by decide) (Log.at_ (LookG.of rfl (Lk.fldAddr rfl Tryd.underlying106 rfl rfl T35 rfl rfl rfl))))))))), (List.forall_mem_cons.2 ⟨(Log.past (by decide) (Log.past (by decide) (Log.past (by decide) (Log.past (by decide) (Log.past (by decide) (Log.at_ (LookG.of rfl (Lk.fldAddr rfl Tryd.underlying35 rfl rfl T32 rfl rfl rfl)))))))), (List.forall_mem_cons.2 ⟨(Log.past (by decide) (Log.past (by decide) (Log.past (by decide) (Log.past (by decide) (Log.at_ (LookG.of rfl (Look.loc ok (Lk.load1 rfl Tryd.underlying32 rfl rfl e22)))))))), noChk⟩)⟩)⟩)⟩)⟩)⟩), ?_⟩
            refine R.appL (cs := [(.int .i64 v55)]) ok rfl rfl rfl rfl rfl rfl rfl rfl Tryd.underlying32 T3 rfl (by decide) (by decide) rfl rfl rfl rfl rfl (fun _ => rfl) hS ?_
            intro bb56 v57 h_17 hS ok
            refine ⟨(List.forall_mem_cons.2 ⟨(Log.past (by decide) (Log.past (by decide) (Log.past (by decide) (Log.past (by decide) (Log.past (by decide) (Log.past (by decide) (Log.past (by decide) (Log.past (by decide) (Log.past (by decide) (Log.at_ (LookG.of rfl (Lk.move rfl rfl)))))))))))), noChk⟩), ?_⟩
            refine R.lookL rfl rfl rfl (Lk.nilCheck rfl rfl) ?_
            refine R.lookL (v := (.pointer (some ⟨b23, 5, none⟩))) rfl rfl rfl (Lk.fldAddr rfl Tryd.underlying106 rfl rfl T35 rfl rfl rfl) ?_
            refine R.lookL (v := (.pointer (some ⟨b23, 6, none⟩))) rfl rfl rfl (Lk.fldAddr rfl Tryd.underlying35 rfl rfl T32 rfl rfl rfl) ?_
            obtain ⟨h_18, e23, hS⟩ := hS
            refine R.effN rfl rfl rfl (Eff.loc ok (Ef.store rfl T32 rfl rfl rfl rfl rfl e23 fun ok => ⟨noChk, ?_⟩))
            refine R.nil ?_
            refine EvC.seq ?_
            refine EvC.region [Item.look 0] (by kernel_rfl) ?_
            refine R.look rfl rfl rfl (Lk.move rfl rfl) fun _ => ?_
            refine R.nil ?_
            by_cases e24 : v44 = true
            · rw [if_pos e24] at hS
              refine EvC.condT rfl e24 ?_
              refine EvC.region [Item.look 0, Item.look 1, Item.eff 2 []] (by kernel_rfl) ?_
              refine R.look rfl rfl rfl (Lk.move rfl rfl) fun _ => ?_
              refine R.look rfl rfl rfl (Lk.move rfl rfl) fun _ => ?_
              refine R.eff rfl rfl rfl (Eff.loc ok (Ef.call rfl CB44 rfl ((f44_ok hS).mono ?_)))
              rintro _ h_19 ⟨rfl, hS⟩
              refine fun ok => ⟨noChk, ?_⟩
              refine R.nil ?_
              exact hIh_15 (c2_0_3, c2_1_3, c2_2_3) _ _ _ (Env.le_put rfl (Env.le_put rfl (Env.le_put rfl (Env.le_put rfl (Env.le_put rfl (Env.le_put rfl (Env.le_emp _))))))) (ok.sub (.cons_cons _ (.cons_cons _ List.Sublist.slnil))) (H.add_sub ok (.cons_cons _ (.cons_cons _ List.Sublist.slnil))) hS
            · rw [if_neg e24] at hS
              replace e24 := eq_false_of_ne_true e24
              refine EvC.condF rfl e24 ?_
              refine EvC.seq ?_
              refine EvC.region [Item.look 0, Item.look 1, Item.eff 2 [], Item.look 3] (by kernel_rfl) ?_
              refine R.look rfl rfl rfl (Lk.move rfl rfl) fun _ => ?_
              refine R.look rfl rfl rfl (Lk.move rfl rfl) fun _ => ?_
              refine R.eff rfl rfl rfl (Eff.loc ok (Ef.call rfl CB45 rfl ((f45_ok hS).mono ?_)))
              rintro _ h_20 ⟨v67, rfl, hS⟩
              refine fun ok => ⟨noChk, ?_⟩
              refine R.look rfl rfl rfl (Lk.assign rfl rfl) fun _ => ?_
              refine R.nil ?_
              refine EvC.seq ?_
              refine EvC.region [Item.look 0, Item.look 1] (by kernel_rfl) ?_
              refine R.look rfl rfl rfl (Lk.move rfl rfl) fun _ => ?_
              refine R.look rfl rfl rfl (Lk.arith rfl rfl rfl rfl) fun _ => ?_
              refine R.nil ?_
              by_cases e25 : (v67 != 0) = true
              · rw [if_pos e25] at hS
                refine EvC.condT rfl e25 ?_
                refine EvC.seq ?_
                refine EvC.region [Item.look 0, Item.look 1, Item.eff 2 [], Item.look 3] (by kernel_rfl) ?_
                refine R.look rfl rfl rfl (Lk.build (cs := [(.slice none 0 0), (.slice none 0 0), (.slice none 0 0)]) (pl := [(0, 1), (1, 1), (2, 1)]) rfl Tryd.underlying35 T35 (PlacesL.places (.cons T31 (.cons T32 (.cons T33 PlacesL.nil)))) rfl rfl) fun _ => ?_
                refine R.look rfl rfl rfl (Lk.move rfl rfl) fun _ => ?_
                refine R.effN rfl rfl rfl (Ef.storeLoc (i := 0) (vs := [(.slice none 0 0), (.slice none 0 0), (.slice none 0 0)]) (cs := [(.slice none 0 0), (.slice none 0 0), (.slice none 0 0)]) (l' := [(b2, .row ⟨[(.slice none 0 0), (.slice none 0 0), (.slice none 0 0)], 3, 35, true, true⟩), (b1, .row ⟨[(.slice p0_0.a p0_0.l p0_0.c), (.slice p0_1.a p0_1.l p0_1.c)], 2, 29, true, true⟩)]) ok rfl T35 rfl rfl rfl rfl rfl rfl rfl rfl rfl rfl fun ok => ⟨noChk, ?_⟩)
                refine R.look rfl rfl rfl (Lk.assign rfl rfl) fun _ => ?_
                refine R.nil ?_
                refine EvC.ret ?_
                exact ⟨.inr rfl, _, _, (.cons (.cells rfl (fun w => Und.agg Tryd.underlying35 w) (fun w => T35.size_ w) (H.rdn_loc ok (i := 0) rfl rfl rfl)) (.cons (.tmp rfl) .nil)), ok.le, _, _, _, _, rfl, hS⟩
              · rw [if_neg e25] at hS
                replace e25 := eq_false_of_ne_true e25
                refine EvC.condF rfl e25 ?_
                refine EvC.skip ?_
                exact hIh_15 (c2_0_3, c2_1_3, c2_2_3) _ _ _ (Env.le_put rfl (Env.le_put rfl (Env.le_put rfl (Env.le_put rfl (Env.le_put rfl (Env.le_put rfl (Env.le_emp _))))))) (ok.sub (.cons_cons _ (.cons_cons _ List.Sublist.slnil))) (H.add_sub ok (.cons_cons _ (.cons_cons _ List.Sublist.slnil))) hS
        · rw [if_neg e15] at hS
          replace e15 := eq_false_of_ne_true e15
          refine EvC.condF rfl e15 ?_
          refine EvC.exit ?_
          exact hIh_8 (c2_0_3, c2_1_3, c2_2_3) _ _ _ (Env.le_put rfl (Env.le_put rfl (Env.le_put rfl (Env.le_emp _)))) (ok.sub (.cons_cons _ (.cons_cons _ List.Sublist.slnil))) (H.add_sub ok (.cons_cons _ (.cons_cons _ List.Sublist.slnil))) hS
end Go.Proofs.YtimadnngfhbfiaaDoor
end

section
/- PRINTED by wip/gen.py: the machine's call of slices.Equal[[]int,int] does what S17 says. -/
namespace Go.Proofs.YtimadnngfhbfiaaDoor
open Go Go.Mu
set_option maxHeartbeats 4000000
set_option maxRecDepth 100000
theorem f17_ok {p0 : Sl} {p1 : Sl} {h : H} {K : Bool → H → Prop} (hS : S17 p0 p1 h K) : ACall Tryd.prog 17 ([(.slice p0.a p0.l p0.c), (.slice p1.a p1.l p1.c)] : List Value).toArray h (fun r h' => ∃ r0 : Bool, r = tup [(.bool r0)] ∧ K r0 h') := by
  refine ACall.enter (fn := Tryd.f17) Tryd.func17 rfl (Nat.le_of_ble_eq_true rfl) ?_
  unfold S17 at hS
  have ok := Lok.nil h
  change EvC _ _ _ _ (H.add h []) _
  refine EvC.seq ?_
  refine EvC.region [Item.look 0] (by kernel_rfl) ?_
  refine R.look rfl rfl rfl (Lk.assign rfl rfl) fun _ => ?_
  refine R.nil ?_
  refine EvC.seq ?_
  refine EvC.seq ?_
  refine EvC.region [Item.look 0, Item.look 1, Item.look 2, Item.look 3, Item.look 4] (by kernel_rfl) ?_
  refine R.look rfl rfl rfl (Lk.move rfl rfl) fun _ => ?_
  refine R.look rfl rfl rfl (Lk.len rfl Tryd.underlying32 rfl) fun _ => ?_
  refine R.look rfl rfl rfl (Lk.move rfl rfl) fun _ => ?_
  refine R.look rfl rfl rfl (Lk.len rfl Tryd.underlying32 rfl) fun _ => ?_
  refine R.look rfl rfl rfl (Lk.arith rfl rfl rfl rfl) fun _ => ?_
  refine R.nil ?_
  by_cases e1 : ((p0.l : Int) != (p1.l : Int)) = true
  · rw [if_pos e1] at hS
    refine EvC.condT rfl e1 ?_
    refine EvC.seq ?_
    refine EvC.region [Item.look 0] (by kernel_rfl) ?_
    refine R.look rfl rfl rfl (Lk.assign rfl rfl) fun _ => ?_
    refine R.nil ?_
    refine EvC.ret ?_
    exact ⟨.inr rfl, _, _, (.cons (.tmp rfl) .nil), ok.le, _, rfl, hS⟩
  · rw [if_neg e1] at hS
    replace e1 := eq_false_of_ne_true e1
    refine EvC.condF rfl e1 ?_
    refine EvC.skip ?_
    refine EvC.join (σ := Unit) (fun s => Env.emp) (fun s => []) (fun s h_1 => S17_j1 K h_1) ?_ (fun Ih_1 hIh_1 => ?_)
    · rintro ⟨⟩ h_1 ok hS
      replace hS : S17_j1 K h_1 := hS
      change EvC _ _ _ Env.emp (H.add h_1 []) _
      unfold S17_j1 at hS
      refine EvC.seq ?_
      refine EvC.region [Item.look 0] (by kernel_rfl) ?_
      refine R.look rfl rfl rfl (Lk.assign rfl rfl) fun _ => ?_
      refine R.nil ?_
      refine EvC.ret ?_
      exact ⟨.inr rfl, _, _, (.cons (.tmp rfl) .nil), ok.le, _, rfl, hS⟩
    · refine EvC.seq ?_
      refine EvC.region [Item.look 0, Item.look 1, Item.look 2] (by kernel_rfl) ?_
      refine R.look rfl rfl rfl (Lk.move rfl rfl) fun _ => ?_
      refine R.look rfl rfl rfl (Lk.len rfl Tryd.underlying32 rfl) fun _ => ?_
      refine R.look rfl rfl rfl (Lk.move rfl rfl) fun _ => ?_
      refine R.nil ?_
      refine EvC.block ?_
      refine EvC.loop ?_
      refine LoopC.lfp (σ := Int) (fun s => (Env.put (Env.put (Env.put (Env.put Env.emp 13 (.int .i64 s)) 12 (.int .i64 (p0.l : Int))) 1 (.slice p1.a p1.l p1.c)) 0 (.slice p0.a p0.l p0.c))) (fun s => []) (fun X hX => ?_) hS (ok.sub List.Sublist.slnil) (Env.le_put rfl (Env.le_put rfl (Env.le_put rfl (Env.le_put rfl (Env.le_emp _))))) (H.add_sub ok List.Sublist.slnil)
      intro v13 h_2 hS ok
      replace hS : S17_l2 p0 p1 K X v13 h_2 := hS
      change EvC _ _ _ (Env.put (Env.put (Env.put (Env.put Env.emp 13 (.int .i64 v13)) 12 (.int .i64 (p0.l : Int))) 1 (.slice p1.a p1.l p1.c)) 0 (.slice p0.a p0.l p0.c)) (H.add h_2 []) _
      unfold S17_l2 at hS
      refine EvC.seq ?_
      refine EvC.region [Item.look 0] (by kernel_rfl) ?_
      refine R.look rfl rfl rfl (Lk.arith rfl rfl rfl rfl) fun _ => ?_
      refine R.nil ?_
      refine EvC.seq ?_
      by_cases e2 : (decide (v13 < (p0.l : Int))) = true
      · rw [if_pos e2] at hS
        refine EvC.condT rfl e2 ?_
        refine EvC.skip ?_
        refine EvC.seq ?_
        refine EvC.block ?_
        refine EvC.seq ?_
        refine EvC.region [Item.look 0, Item.look 1] (by kernel_rfl) ?_
        refine R.look rfl rfl rfl (Lk.move rfl rfl) fun _ => ?_
        refine R.look rfl rfl rfl (Lk.assign rfl rfl) fun _ => ?_
        refine R.nil ?_
        refine EvC.seq ?_
        refine EvC.draw [0, 0, 3, 7, 0, 0, 48, 112, 255] [Item.look 0, Item.look 1, Item.look 2, Item.look 3, Item.look 4, Item.look 5, Item.look 6, Item.look 7, Item.look 8] MO (by kernel_rfl) ?_
        refine R.look rfl rfl rfl (Lk.move rfl rfl) fun _ => ?_
        refine R.look rfl rfl rfl (Lk.move rfl rfl) fun _ => ?_
        obtain ⟨a18, e3, e4, e5, hS⟩ := hS
        refine R.look rfl rfl rfl (Lk.ixAddr rfl Tryd.underlying32 T3 rfl e3 rfl e4 e5) fun _ => ?_
        obtain ⟨v19, e6, hS⟩ := hS
        refine R.look rfl rfl rfl (Look.loc ok (Lk.load1 rfl Tryd.underlying3 rfl rfl e6)) fun _ => ?_
        refine R.look rfl rfl rfl (Lk.move rfl rfl) fun _ => ?_
        refine R.look rfl rfl rfl (Lk.move rfl rfl) fun _ => ?_
        obtain ⟨a22, e7, e8, e9, hS⟩ := hS
        refine R.look rfl rfl rfl (Lk.ixAddr rfl Tryd.underlying32 T3 rfl e7 rfl e8 e9) fun _ => ?_
        obtain ⟨v23, e10, hS⟩ := hS
        refine R.look rfl rfl rfl (Look.loc ok (Lk.load1 rfl Tryd.underlying3 rfl rfl e10)) fun _ => ?_
        refine R.look rfl rfl rfl (Lk.arith rfl rfl rfl rfl) fun _ => ?_
        refine R.nil ?_
        by_cases e11 : (v19 != v23) = true
        · rw [if_pos e11] at hS
          refine EvC.condT rfl e11 ?_
          refine EvC.seq ?_
          refine EvC.region [Item.look 0] (by kernel_rfl) ?_
          refine R.look rfl rfl rfl (Lk.assign rfl rfl) fun _ => ?_
          refine R.nil ?_
          refine EvC.ret ?_
          exact ⟨.inr rfl, _, _, (.cons (.tmp rfl) .nil), ok.le, _, rfl, hS⟩
        · rw [if_neg e11] at hS
          replace e11 := eq_false_of_ne_true e11
          refine EvC.condF rfl e11 ?_
          refine EvC.skip ?_
          refine EvC.region [Item.look 0, Item.look 1] (by kernel_rfl) ?_
          refine R.look rfl rfl rfl (Lk.arith rfl rfl rfl rfl) fun _ => ?_
          refine R.look rfl rfl rfl (Lk.move rfl rfl) fun _ => ?_
          refine R.nil ?_
          exact hX (IntKind.wrap .i64 (v13 + 1)) _ _ _ hS (ok.sub List.Sublist.slnil) (Env.le_put rfl (Env.le_put rfl (Env.le_put rfl (Env.le_put rfl (Env.le_emp _))))) (H.add_sub ok List.Sublist.slnil)
      · rw [if_neg e2] at hS
        replace e2 := eq_false_of_ne_true e2
        refine EvC.condF rfl e2 ?_
        refine EvC.exit ?_
        exact hIh_1 () _ _ _ (Env.le_emp _) (ok.sub List.Sublist.slnil) (H.add_sub ok List.Sublist.slnil) hS
end Go.Proofs.YtimadnngfhbfiaaDoor
end

section
/- PRINTED by wip/gen.py: the machine's call of muntin/muntinlaw11.wakes does what S14 says. -/
namespace Go.Proofs.YtimadnngfhbfiaaDoor
open Go Go.Mu
set_option maxHeartbeats 4000000
set_option maxRecDepth 100000
theorem f14_ok {h : H} {K : Bool → H → Prop} (hS : S14  h K) : ACall Tryd.prog 14 ([] : List Value).toArray h (fun r h' => ∃ r0 : Bool, r = tup [(.bool r0)] ∧ K r0 h') := by
  refine ACall.enter (fn := Tryd.f14) Tryd.func14 rfl (Nat.le_of_ble_eq_true rfl) ?_
  unfold S14 at hS
  have ok := Lok.nil h
  change EvC _ _ _ _ (H.add h []) _
  refine EvC.seq ?_
  refine EvC.region [Item.look 0] (by kernel_rfl) ?_
  refine R.look rfl rfl rfl (Lk.assign rfl rfl) fun _ => ?_
  refine R.nil ?_
  refine EvC.seq ?_
  refine EvC.region [Item.alc 0, Item.look 1, Item.alc 2, Item.look 3, Item.eff 4 [], Item.look 5, Item.look 6, Item.look 7, Item.alc 8, Item.eff 9 [], Item.look 10] (by kernel_rfl) ?_
  refine R.new (blk := (.row ⟨[(.bool false), (.bool true)], 2, 4, true, true⟩)) ok rfl rfl rfl (Ac.buildSlice (cs := [(.bool false), (.bool true)]) rfl Tryd.underlying22 T4 (by decide) (by decide) rfl rfl) rfl rfl fun b6 e1 ok => ?_
  replace hS := hS b6 _ e1 rfl
  refine R.look rfl rfl rfl (Lk.build (cs := [(.int .i64 0), (.int .i64 1), (.int .i64 0), (.string ⟨#[]⟩)]) (pl := [(0, 1), (1, 1), (2, 1), (3, 1)]) rfl Tryd.underlying54 T54 (PlacesL.places (.cons T3 (.cons T3 (.cons T3 (.cons T9 PlacesL.nil))))) rfl rfl) fun _ => ?_
  refine R.new (blk := (.row ⟨[(.int .i64 0), (.int .i64 1), (.int .i64 0), (.string ⟨#[]⟩)], 4, 54, true, true⟩)) ok rfl rfl rfl (Ac.buildSlice (cs := [(.int .i64 0), (.int .i64 1), (.int .i64 0), (.string ⟨#[]⟩)]) rfl Tryd.underlying27 T54 (by decide) (by decide) rfl rfl) rfl rfl fun b8 e2 ok => ?_
  replace hS := hS b8 _ e2 rfl
  refine R.look rfl rfl rfl (Lk.build (cs := [(.slice (some ⟨b6, 0, none⟩) 2 2), (.slice (some ⟨b8, 0, none⟩) 1 1)]) (pl := [(0, 1), (1, 1)]) rfl Tryd.underlying29 T29 (PlacesL.places (.cons T22 (.cons T27 PlacesL.nil))) rfl rfl) fun _ => ?_
  refine R.eff rfl rfl rfl (Eff.loc ok (Ef.call rfl CB12 rfl ((f12_ok hS).mono ?_)))
  rintro _ h_3 ⟨v10_0_0, v10_0_1, v10_0_2, v10_1, rfl, hS⟩
  refine fun ok => ⟨noChk, ?_⟩
  refine R.look rfl rfl rfl (Lk.move rfl rfl) fun _ => ?_
  refine R.look rfl rfl rfl (Lk.extract rfl rfl rfl) fun _ => ?_
  refine R.look rfl rfl rfl (Lk.extract rfl rfl rfl) fun _ => ?_
  refine R.var (blk := .row ⟨[(.slice none 0 0), (.slice none 0 0), (.slice none 0 0)], 3, 35, true, true⟩) ok rfl rfl rfl (Ac.alloc rfl T35) rfl rfl fun b1 ok => ?_
  refine R.effN rfl rfl rfl (Ef.storeLoc (i := 0) (vs := [(.slice v10_0_0.a v10_0_0.l v10_0_0.c), (.slice v10_0_1.a v10_0_1.l v10_0_1.c), (.slice v10_0_2.a v10_0_2.l v10_0_2.c)]) (cs := [(.slice v10_0_0.a v10_0_0.l v10_0_0.c), (.slice v10_0_1.a v10_0_1.l v10_0_1.c), (.slice v10_0_2.a v10_0_2.l v10_0_2.c)]) (l' := [(b1, .row ⟨[(.slice v10_0_0.a v10_0_0.l v10_0_0.c), (.slice v10_0_1.a v10_0_1.l v10_0_1.c), (.slice v10_0_2.a v10_0_2.l v10_0_2.c)], 3, 35, true, true⟩)]) ok rfl T35 rfl rfl rfl rfl rfl rfl rfl rfl rfl rfl fun ok => ⟨noChk, ?_⟩)
  refine R.look rfl rfl rfl (Lk.assign rfl rfl) fun _ => ?_
  refine R.nil ?_
  refine EvC.seq ?_
  refine EvC.region [Item.alc 0, Item.look 1, Item.look 2, Item.alc 3, Item.look 4, Item.eff 5 [], Item.look 6, Item.look 7, Item.look 8, Item.alc 9, Item.eff 10 [], Item.look 11] (by kernel_rfl) ?_
  refine R.new (blk := (.row ⟨[(.bool false), (.bool false)], 2, 4, true, true⟩)) ok rfl rfl rfl (Ac.buildSlice (cs := [(.bool false), (.bool false)]) rfl Tryd.underlying22 T4 (by decide) (by decide) rfl rfl) rfl rfl fun b14 e3 ok => ?_
  replace hS := hS b14 _ e3 rfl
  refine R.look rfl rfl rfl (Lk.build (cs := [(.int .i64 0), (.int .i64 1), (.int .i64 0), (.string ⟨#[]⟩)]) (pl := [(0, 1), (1, 1), (2, 1), (3, 1)]) rfl Tryd.underlying54 T54 (PlacesL.places (.cons T3 (.cons T3 (.cons T3 (.cons T9 PlacesL.nil))))) rfl rfl) fun _ => ?_
  refine R.look rfl rfl rfl (Lk.build (cs := [(.int .i64 0), (.int .i64 1), (.int .i64 0), (.string ⟨#[]⟩)]) (pl := [(0, 1), (1, 1), (2, 1), (3, 1)]) rfl Tryd.underlying54 T54 (PlacesL.places (.cons T3 (.cons T3 (.cons T3 (.cons T9 PlacesL.nil))))) rfl rfl) fun _ => ?_
  refine R.new (blk := (.row ⟨[(.int .i64 0), (.int .i64 1), (.int .i64 0), (.string ⟨#[]⟩), (.int .i64 0), (.int .i64 1), (.int .i64 0), (.string ⟨#[]⟩)], 8, 54, true, true⟩)) ok rfl rfl rfl (Ac.buildSlice (cs := [(.int .i64 0), (.int .i64 1), (.int .i64 0), (.string ⟨#[]⟩), (.int .i64 0), (.int .i64 1), (.int .i64 0), (.string ⟨#[]⟩)]) rfl Tryd.underlying27 T54 (by decide) (by decide) rfl rfl) rfl rfl fun b17 e4 ok => ?_
  replace hS := hS b17 _ e4 rfl
  refine R.look rfl rfl rfl (Lk.build (cs := [(.slice (some ⟨b14, 0, none⟩) 2 2), (.slice (some ⟨b17, 0, none⟩) 2 2)]) (pl := [(0, 1), (1, 1)]) rfl Tryd.underlying29 T29 (PlacesL.places (.cons T22 (.cons T27 PlacesL.nil))) rfl rfl) fun _ => ?_
  refine R.eff rfl rfl rfl (Eff.loc ok (Ef.call rfl CB12 rfl ((f12_ok hS).mono ?_)))
  rintro _ h_6 ⟨v19_0_0, v19_0_1, v19_0_2, v19_1, rfl, hS⟩
  refine fun ok => ⟨noChk, ?_⟩
  refine R.look rfl rfl rfl (Lk.move rfl rfl) fun _ => ?_
  refine R.look rfl rfl rfl (Lk.extract rfl rfl rfl) fun _ => ?_
  refine R.look rfl rfl rfl (Lk.extract rfl rfl rfl) fun _ => ?_
  refine R.var (blk := .row ⟨[(.slice none 0 0), (.slice none 0 0), (.slice none 0 0)], 3, 35, true, true⟩) ok rfl rfl rfl (Ac.alloc rfl T35) rfl rfl fun b3 ok => ?_
  refine R.effN rfl rfl rfl (Ef.storeLoc (i := 0) (vs := [(.slice v19_0_0.a v19_0_0.l v19_0_0.c), (.slice v19_0_1.a v19_0_1.l v19_0_1.c), (.slice v19_0_2.a v19_0_2.l v19_0_2.c)]) (cs := [(.slice v19_0_0.a v19_0_0.l v19_0_0.c), (.slice v19_0_1.a v19_0_1.l v19_0_1.c), (.slice v19_0_2.a v19_0_2.l v19_0_2.c)]) (l' := [(b3, .row ⟨[(.slice v19_0_0.a v19_0_0.l v19_0_0.c), (.slice v19_0_1.a v19_0_1.l v19_0_1.c), (.slice v19_0_2.a v19_0_2.l v19_0_2.c)], 3, 35, true, true⟩), (b1, .row ⟨[(.slice v10_0_0.a v10_0_0.l v10_0_0.c), (.slice v10_0_1.a v10_0_1.l v10_0_1.c), (.slice v10_0_2.a v10_0_2.l v10_0_2.c)], 3, 35, true, true⟩)]) ok rfl T35 rfl rfl rfl rfl rfl rfl rfl rfl rfl rfl fun ok => ⟨noChk, ?_⟩)
  refine R.look rfl rfl rfl (Lk.assign rfl rfl) fun _ => ?_
  refine R.nil ?_
  refine EvC.join (σ := Bool) (fun s => (Env.put Env.emp 0 (.bool s))) (fun s => []) (fun s h_7 => S14_j1 K s h_7) ?_ (fun Ih_7 hIh_7 => ?_)
  · intro v0 h_7 ok hS
    replace hS : S14_j1 K v0 h_7 := hS
    change EvC _ _ _ (Env.put Env.emp 0 (.bool v0)) (H.add h_7 []) _
    unfold S14_j1 at hS
    refine EvC.ret ?_
    exact ⟨.inr rfl, _, _, (.cons (.tmp rfl) .nil), ok.le, _, rfl, hS⟩
  · refine EvC.region [Item.look 0, Item.look 1, Item.look 2, Item.look 3, Item.look 4, Item.look 5, Item.look 6, Item.look 7, Item.look 8, Item.look 9, Item.look 10, Item.look 11, Item.look 12, Item.look 13, Item.look 14, Item.look 15, Item.look 16, Item.look 17, Item.look 18, Item.look 19, Item.look 20, Item.look 21, Item.look 22, Item.look 23, Item.look 24, Item.look 25, Item.look 26, Item.look 27, Item.look 28, Item.look 29, Item.look 30, Item.look 31, Item.alc 32, Item.eff 33 [], Item.look 34, Item.look 35, Item.look 36, Item.look 37, Item.look 38, Item.look 39] (by kernel_rfl) ?_
    refine R.look rfl rfl rfl (Lk.move rfl rfl) fun _ => ?_
    refine R.look rfl rfl rfl (Lk.arith rfl rfl rfl rfl) fun _ => ?_
    refine R.look rfl rfl rfl (Lk.move rfl rfl) fun _ => ?_
    by_cases e5 : (v10_1 == 0) = true
    · rw [if_pos e5] at hS
      refine R.lookT (v := (.pointer (some ⟨b1, 0, none⟩))) rfl rfl rfl rfl e5 rfl (Lk.fldAddr rfl Tryd.underlying35 rfl rfl T31 rfl rfl rfl) fun _ => ?_
      refine R.lookT rfl rfl rfl rfl e5 rfl (Lk.load1 (v := (.slice v10_0_0.a v10_0_0.l v10_0_0.c)) rfl Tryd.underlying31 rfl rfl (H.rd_loc ok (i := 1) rfl rfl)) fun _ => ?_
      refine R.lookT rfl rfl rfl rfl e5 rfl (Lk.len rfl Tryd.underlying31 rfl) fun _ => ?_
      refine R.lookT rfl rfl rfl rfl e5 rfl (Lk.arith rfl rfl rfl rfl) fun _ => ?_
      refine R.look rfl rfl rfl (Lk.pick rfl rfl (fun _ => rfl) (fun e => by rw [e5] at e; cases e)) fun _ => ?_
      refine R.look rfl rfl rfl (Lk.move rfl rfl) fun _ => ?_
      by_cases e6 : ((v10_0_0.l : Int) == 6) = true
      · rw [if_pos e6] at hS
        refine R.lookT (v := (.pointer (some ⟨b1, 1, none⟩))) rfl rfl rfl rfl e6 rfl (Lk.fldAddr rfl Tryd.underlying35 rfl rfl T32 rfl rfl rfl) fun _ => ?_
        refine R.lookT rfl rfl rfl rfl e6 rfl (Lk.load1 (v := (.slice v10_0_1.a v10_0_1.l v10_0_1.c)) rfl Tryd.underlying32 rfl rfl (H.rd_loc ok (i := 1) rfl rfl)) fun _ => ?_
        refine R.lookT rfl rfl rfl rfl e6 rfl (Lk.len rfl Tryd.underlying32 rfl) fun _ => ?_
        refine R.lookT rfl rfl rfl rfl e6 rfl (Lk.arith rfl rfl rfl rfl) fun _ => ?_
        refine R.look rfl rfl rfl (Lk.pick rfl rfl (fun _ => rfl) (fun e => by rw [e6] at e; cases e)) fun _ => ?_
        refine R.look rfl rfl rfl (Lk.move rfl rfl) fun _ => ?_
        by_cases e7 : ((v10_0_1.l : Int) == 2) = true
        · rw [if_pos e7] at hS
          refine R.lookT (v := (.pointer (some ⟨b1, 1, none⟩))) rfl rfl rfl rfl e7 rfl (Lk.fldAddr rfl Tryd.underlying35 rfl rfl T32 rfl rfl rfl) fun _ => ?_
          refine R.lookT rfl rfl rfl rfl e7 rfl (Lk.load1 (v := (.slice v10_0_1.a v10_0_1.l v10_0_1.c)) rfl Tryd.underlying32 rfl rfl (H.rd_loc ok (i := 1) rfl rfl)) fun _ => ?_
          obtain ⟨a39, e8, e9, e10, hS⟩ := hS
          refine R.lookT rfl rfl rfl rfl e7 rfl (Lk.ixAddr rfl Tryd.underlying32 T3 rfl e8 rfl e9 e10) fun _ => ?_
          obtain ⟨v40, e11, hS⟩ := hS
          refine R.lookT rfl rfl rfl rfl e7 rfl (Look.loc ok (Lk.load1 rfl Tryd.underlying3 rfl rfl e11)) fun _ => ?_
          refine R.lookT rfl rfl rfl rfl e7 rfl (Lk.arith rfl rfl rfl rfl) fun _ => ?_
          refine R.look rfl rfl rfl (Lk.pick rfl rfl (fun _ => rfl) (fun e => by rw [e7] at e; cases e)) fun _ => ?_
          refine R.look rfl rfl rfl (Lk.move rfl rfl) fun _ => ?_
          by_cases e12 : (v40 == 1) = true
          · rw [if_pos e12] at hS
            refine R.lookT (v := (.pointer (some ⟨b1, 2, none⟩))) rfl rfl rfl rfl e12 rfl (Lk.fldAddr rfl Tryd.underlying35 rfl rfl T33 rfl rfl rfl) fun _ => ?_
            refine R.lookT rfl rfl rfl rfl e12 rfl (Lk.load1 (v := (.slice v10_0_2.a v10_0_2.l v10_0_2.c)) rfl Tryd.underlying33 rfl rfl (H.rd_loc ok (i := 1) rfl rfl)) fun _ => ?_
            refine R.lookT rfl rfl rfl rfl e12 rfl (Lk.len rfl Tryd.underlying33 rfl) fun _ => ?_
            refine R.lookT rfl rfl rfl rfl e12 rfl (Lk.arith rfl rfl rfl rfl) fun _ => ?_
            refine R.look rfl rfl rfl (Lk.pick rfl rfl (fun _ => rfl) (fun e => by rw [e12] at e; cases e)) fun _ => ?_
            refine R.look rfl rfl rfl (Lk.move rfl rfl) fun _ => ?_
            by_cases e13 : ((v10_0_2.l : Int) == 1) = true
            · rw [if_pos e13] at hS
              refine R.lookT (v := (.pointer (some ⟨b1, 2, none⟩))) rfl rfl rfl rfl e13 rfl (Lk.fldAddr rfl Tryd.underlying35 rfl rfl T33 rfl rfl rfl) fun _ => ?_
              refine R.lookT rfl rfl rfl rfl e13 rfl (Lk.load1 (v := (.slice v10_0_2.a v10_0_2.l v10_0_2.c)) rfl Tryd.underlying33 rfl rfl (H.rd_loc ok (i := 1) rfl rfl)) fun _ => ?_
              obtain ⟨a52, e14, e15, e16, hS⟩ := hS
              refine R.lookT rfl rfl rfl rfl e13 rfl (Lk.ixAddr rfl Tryd.underlying33 T32 rfl e14 rfl e15 e16) fun _ => ?_
              obtain ⟨v53, e17, hS⟩ := hS
              refine R.lookT rfl rfl rfl rfl e13 rfl (Look.loc ok (Lk.load1 rfl Tryd.underlying32 rfl rfl e17)) fun _ => ?_
              refine R.newT (blk := (.row ⟨[(.int .i64 0), (.int .i64 5)], 2, 3, true, true⟩)) ok rfl rfl rfl rfl e13 rfl (Ac.buildSlice (cs := [(.int .i64 0), (.int .i64 5)]) rfl Tryd.underlying32 T3 (by decide) (by decide) rfl rfl) rfl rfl fun b54 e18 ok => ?_
              replace hS := hS b54 _ e18 rfl
              refine R.effT rfl rfl rfl rfl e13 rfl (Eff.loc ok (Ef.call rfl CB17 rfl ((f17_ok hS).mono ?_)))
              rintro _ h_9 ⟨v55, rfl, hS⟩
              refine fun ok => ⟨noChk, ?_⟩
              refine R.look rfl rfl rfl (Lk.pick rfl rfl (fun _ => rfl) (fun e => by rw [e13] at e; cases e)) fun _ => ?_
              refine R.look rfl rfl rfl (Lk.move rfl rfl) fun _ => ?_
              by_cases e19 : v55 = true
              · rw [if_pos e19] at hS
                refine R.lookT rfl rfl rfl rfl e19 rfl (Lk.move rfl rfl) fun _ => ?_
                refine R.lookT rfl rfl rfl rfl e19 rfl (Lk.arith rfl rfl rfl rfl) fun _ => ?_
                refine R.look rfl rfl rfl (Lk.pick rfl rfl (fun _ => rfl) (fun e => by rw [e19] at e; cases e)) fun _ => ?_
                refine R.look rfl rfl rfl (Lk.assign rfl rfl) fun _ => ?_
                refine R.nil ?_
                exact hIh_7 (v19_1 == 8) _ _ _ (Env.le_put rfl (Env.le_emp _)) (ok.sub (.cons _ (.cons _ List.Sublist.slnil))) (H.add_sub ok (.cons _ (.cons _ List.Sublist.slnil))) hS
              · rw [if_neg e19] at hS
                replace e19 := eq_false_of_ne_true e19
                refine R.lookF rfl rfl rfl rfl e19 rfl fun _ => ?_
                refine R.lookF rfl rfl rfl rfl e19 rfl fun _ => ?_
                refine R.look rfl rfl rfl (Lk.pick rfl rfl (fun e => by rw [e19] at e; cases e) (fun _ => rfl)) fun _ => ?_
                refine R.look rfl rfl rfl (Lk.assign rfl rfl) fun _ => ?_
                refine R.nil ?_
                exact hIh_7 false _ _ _ (Env.le_put rfl (Env.le_emp _)) (ok.sub (.cons _ (.cons _ List.Sublist.slnil))) (H.add_sub ok (.cons _ (.cons _ List.Sublist.slnil))) hS
            · rw [if_neg e13] at hS
              replace e13 := eq_false_of_ne_true e13
              refine R.lookF rfl rfl rfl rfl e13 rfl fun _ => ?_
              refine R.lookF rfl rfl rfl rfl e13 rfl fun _ => ?_
              refine R.lookF rfl rfl rfl rfl e13 rfl fun _ => ?_
              refine R.lookF rfl rfl rfl rfl e13 rfl fun _ => ?_
              refine R.alcF rfl rfl rfl rfl e13 rfl ?_
              refine R.effF rfl rfl rfl rfl e13 rfl ?_
              refine R.look rfl rfl rfl (Lk.pick rfl rfl (fun e => by rw [e13] at e; cases e) (fun _ => rfl)) fun _ => ?_
              refine R.look rfl rfl rfl (Lk.move rfl rfl) fun _ => ?_
              refine R.lookF rfl rfl rfl rfl rfl rfl fun _ => ?_
              refine R.lookF rfl rfl rfl rfl rfl rfl fun _ => ?_
              refine R.look rfl rfl rfl (Lk.pick rfl rfl (fun e => by cases e) (fun _ => rfl)) fun _ => ?_
              refine R.look rfl rfl rfl (Lk.assign rfl rfl) fun _ => ?_
              refine R.nil ?_
              exact hIh_7 false _ _ _ (Env.le_put rfl (Env.le_emp _)) (ok.sub (.cons _ (.cons _ List.Sublist.slnil))) (H.add_sub ok (.cons _ (.cons _ List.Sublist.slnil))) hS
          · rw [if_neg e12] at hS
            replace e12 := eq_false_of_ne_true e12
            refine R.lookF rfl rfl rfl rfl e12 rfl fun _ => ?_
            refine R.lookF rfl rfl rfl rfl e12 rfl fun _ => ?_
            refine R.lookF rfl rfl rfl rfl e12 rfl fun _ => ?_
            refine R.lookF rfl rfl rfl rfl e12 rfl fun _ => ?_
            refine R.look rfl rfl rfl (Lk.pick rfl rfl (fun e => by rw [e12] at e; cases e) (fun _ => rfl)) fun _ => ?_
            refine R.look rfl rfl rfl (Lk.move rfl rfl) fun _ => ?_
            refine R.lookF rfl rfl rfl rfl rfl rfl fun _ => ?_
            refine R.lookF rfl rfl rfl rfl rfl rfl fun _ => ?_
            refine R.lookF rfl rfl rfl rfl rfl rfl fun _ => ?_
            refine R.lookF rfl rfl rfl rfl rfl rfl fun _ => ?_
            refine R.alcF rfl rfl rfl rfl rfl rfl ?_
            refine R.effF rfl rfl rfl rfl rfl rfl ?_
            refine R.look rfl rfl rfl (Lk.pick rfl rfl (fun e => by cases e) (fun _ => rfl)) fun _ => ?_
            refine R.look rfl rfl rfl (Lk.move rfl rfl) fun _ => ?_
            refine R.lookF rfl rfl rfl rfl rfl rfl fun _ => ?_
            refine R.lookF rfl rfl rfl rfl rfl rfl fun _ => ?_
            refine R.look rfl rfl rfl (Lk.pick rfl rfl (fun e => by cases e) (fun _ => rfl)) fun _ => ?_
            refine R.look rfl rfl rfl (Lk.assign rfl rfl) fun _ => ?_
            refine R.nil ?_
            exact hIh_7 false _ _ _ (Env.le_put rfl (Env.le_emp _)) (ok.sub (.cons _ (.cons _ List.Sublist.slnil))) (H.add_sub ok (.cons _ (.cons _ List.Sublist.slnil))) hS
        · rw [if_neg e7] at hS
          replace e7 := eq_false_of_ne_true e7
          refine R.lookF rfl rfl rfl rfl e7 rfl fun _ => ?_
          refine R.lookF rfl rfl rfl rfl e7 rfl fun _ => ?_
          refine R.lookF rfl rfl rfl rfl e7 rfl fun _ => ?_
          refine R.lookF rfl rfl rfl rfl e7 rfl fun _ => ?_
          refine R.lookF rfl rfl rfl rfl e7 rfl fun _ => ?_
          refine R.look rfl rfl rfl (Lk.pick rfl rfl (fun e => by rw [e7] at e; cases e) (fun _ => rfl)) fun _ => ?_
          refine R.look rfl rfl rfl (Lk.move rfl rfl) fun _ => ?_
          refine R.lookF rfl rfl rfl rfl rfl rfl fun _ => ?_
          refine R.lookF rfl rfl rfl rfl rfl rfl fun _ => ?_
          refine R.lookF rfl rfl rfl rfl rfl rfl fun _ => ?_
          refine R.lookF rfl rfl rfl rfl rfl rfl fun _ => ?_
          refine R.look rfl rfl rfl (Lk.pick rfl rfl (fun e => by cases e) (fun _ => rfl)) fun _ => ?_
          refine R.look rfl rfl rfl (Lk.move rfl rfl) fun _ => ?_
          refine R.lookF rfl rfl rfl rfl rfl rfl fun _ => ?_
          refine R.lookF rfl rfl rfl rfl rfl rfl fun _ => ?_
          refine R.lookF rfl rfl rfl rfl rfl rfl fun _ => ?_
          refine R.lookF rfl rfl rfl rfl rfl rfl fun _ => ?_
          refine R.alcF rfl rfl rfl rfl rfl rfl ?_
          refine R.effF rfl rfl rfl rfl rfl rfl ?_
          refine R.look rfl rfl rfl (Lk.pick rfl rfl (fun e => by cases e) (fun _ => rfl)) fun _ => ?_
          refine R.look rfl rfl rfl (Lk.move rfl rfl) fun _ => ?_
          refine R.lookF rfl rfl rfl rfl rfl rfl fun _ => ?_
          refine R.lookF rfl rfl rfl rfl rfl rfl fun _ => ?_
          refine R.look rfl rfl rfl (Lk.pick rfl rfl (fun e => by cases e) (fun _ => rfl)) fun _ => ?_
          refine R.look rfl rfl rfl (Lk.assign rfl rfl) fun _ => ?_
          refine R.nil ?_
          exact hIh_7 false _ _ _ (Env.le_put rfl (Env.le_emp _)) (ok.sub (.cons _ (.cons _ List.Sublist.slnil))) (H.add_sub ok (.cons _ (.cons _ List.Sublist.slnil))) hS
      · rw [if_neg e6] at hS
        replace e6 := eq_false_of_ne_true e6
        refine R.lookF rfl rfl rfl rfl e6 rfl fun _ => ?_
        refine R.lookF rfl rfl rfl rfl e6 rfl fun _ => ?_
        refine R.lookF rfl rfl rfl rfl e6 rfl fun _ => ?_
        refine R.lookF rfl rfl rfl rfl e6 rfl fun _ => ?_
        refine R.look rfl rfl rfl (Lk.pick rfl rfl (fun e => by rw [e6] at e; cases e) (fun _ => rfl)) fun _ => ?_
        refine R.look rfl rfl rfl (Lk.move rfl rfl) fun _ => ?_
        refine R.lookF rfl rfl rfl rfl rfl rfl fun _ => ?_
        refine R.lookF rfl rfl rfl rfl rfl rfl fun _ => ?_
        refine R.lookF rfl rfl rfl rfl rfl rfl fun _ => ?_
        refine R.lookF rfl rfl rfl rfl rfl rfl fun _ => ?_
        refine R.lookF rfl rfl rfl rfl rfl rfl fun _ => ?_
        refine R.look rfl rfl rfl (Lk.pick rfl rfl (fun e => by cases e) (fun _ => rfl)) fun _ => ?_
        refine R.look rfl rfl rfl (Lk.move rfl rfl) fun _ => ?_
        refine R.lookF rfl rfl rfl rfl rfl rfl fun _ => ?_
        refine R.lookF rfl rfl rfl rfl rfl rfl fun _ => ?_
        refine R.lookF rfl rfl rfl rfl rfl rfl fun _ => ?_
        refine R.lookF rfl rfl rfl rfl rfl rfl fun _ => ?_
        refine R.look rfl rfl rfl (Lk.pick rfl rfl (fun e => by cases e) (fun _ => rfl)) fun _ => ?_
        refine R.look rfl rfl rfl (Lk.move rfl rfl) fun _ => ?_
        refine R.lookF rfl rfl rfl rfl rfl rfl fun _ => ?_
        refine R.lookF rfl rfl rfl rfl rfl rfl fun _ => ?_
        refine R.lookF rfl rfl rfl rfl rfl rfl fun _ => ?_
        refine R.lookF rfl rfl rfl rfl rfl rfl fun _ => ?_
        refine R.alcF rfl rfl rfl rfl rfl rfl ?_
        refine R.effF rfl rfl rfl rfl rfl rfl ?_
        refine R.look rfl rfl rfl (Lk.pick rfl rfl (fun e => by cases e) (fun _ => rfl)) fun _ => ?_
        refine R.look rfl rfl rfl (Lk.move rfl rfl) fun _ => ?_
        refine R.lookF rfl rfl rfl rfl rfl rfl fun _ => ?_
        refine R.lookF rfl rfl rfl rfl rfl rfl fun _ => ?_
        refine R.look rfl rfl rfl (Lk.pick rfl rfl (fun e => by cases e) (fun _ => rfl)) fun _ => ?_
        refine R.look rfl rfl rfl (Lk.assign rfl rfl) fun _ => ?_
        refine R.nil ?_
        exact hIh_7 false _ _ _ (Env.le_put rfl (Env.le_emp _)) (ok.sub (.cons _ (.cons _ List.Sublist.slnil))) (H.add_sub ok (.cons _ (.cons _ List.Sublist.slnil))) hS
    · rw [if_neg e5] at hS
      replace e5 := eq_false_of_ne_true e5
      refine R.lookF rfl rfl rfl rfl e5 rfl fun _ => ?_
      refine R.lookF rfl rfl rfl rfl e5 rfl fun _ => ?_
      refine R.lookF rfl rfl rfl rfl e5 rfl fun _ => ?_
      refine R.lookF rfl rfl rfl rfl e5 rfl fun _ => ?_
      refine R.look rfl rfl rfl (Lk.pick rfl rfl (fun e => by rw [e5] at e; cases e) (fun _ => rfl)) fun _ => ?_
      refine R.look rfl rfl rfl (Lk.move rfl rfl) fun _ => ?_
      refine R.lookF rfl rfl rfl rfl rfl rfl fun _ => ?_
      refine R.lookF rfl rfl rfl rfl rfl rfl fun _ => ?_
      refine R.lookF rfl rfl rfl rfl rfl rfl fun _ => ?_
      refine R.lookF rfl rfl rfl rfl rfl rfl fun _ => ?_
      refine R.look rfl rfl rfl (Lk.pick rfl rfl (fun e => by cases e) (fun _ => rfl)) fun _ => ?_
      refine R.look rfl rfl rfl (Lk.move rfl rfl) fun _ => ?_
      refine R.lookF rfl rfl rfl rfl rfl rfl fun _ => ?_
      refine R.lookF rfl rfl rfl rfl rfl rfl fun _ => ?_
      refine R.lookF rfl rfl rfl rfl rfl rfl fun _ => ?_
      refine R.lookF rfl rfl rfl rfl rfl rfl fun _ => ?_
      refine R.lookF rfl rfl rfl rfl rfl rfl fun _ => ?_
      refine R.look rfl rfl rfl (Lk.pick rfl rfl (fun e => by cases e) (fun _ => rfl)) fun _ => ?_
      refine R.look rfl rfl rfl (Lk.move rfl rfl) fun _ => ?_
      refine R.lookF rfl rfl rfl rfl rfl rfl fun _ => ?_
      refine R.lookF rfl rfl rfl rfl rfl rfl fun _ => ?_
      refine R.lookF rfl rfl rfl rfl rfl rfl fun _ => ?_
      refine R.lookF rfl rfl rfl rfl rfl rfl fun _ => ?_
      refine R.look rfl rfl rfl (Lk.pick rfl rfl (fun e => by cases e) (fun _ => rfl)) fun _ => ?_
      refine R.look rfl rfl rfl (Lk.move rfl rfl) fun _ => ?_
      refine R.lookF rfl rfl rfl rfl rfl rfl fun _ => ?_
      refine R.lookF rfl rfl rfl rfl rfl rfl fun _ => ?_
      refine R.lookF rfl rfl rfl rfl rfl rfl fun _ => ?_
      refine R.lookF rfl rfl rfl rfl rfl rfl fun _ => ?_
      refine R.alcF rfl rfl rfl rfl rfl rfl ?_
      refine R.effF rfl rfl rfl rfl rfl rfl ?_
      refine R.look rfl rfl rfl (Lk.pick rfl rfl (fun e => by cases e) (fun _ => rfl)) fun _ => ?_
      refine R.look rfl rfl rfl (Lk.move rfl rfl) fun _ => ?_
      refine R.lookF rfl rfl rfl rfl rfl rfl fun _ => ?_
      refine R.lookF rfl rfl rfl rfl rfl rfl fun _ => ?_
      refine R.look rfl rfl rfl (Lk.pick rfl rfl (fun e => by cases e) (fun _ => rfl)) fun _ => ?_
      refine R.look rfl rfl rfl (Lk.assign rfl rfl) fun _ => ?_
      refine R.nil ?_
      exact hIh_7 false _ _ _ (Env.le_put rfl (Env.le_emp _)) (ok.sub (.cons _ (.cons _ List.Sublist.slnil))) (H.add_sub ok (.cons _ (.cons _ List.Sublist.slnil))) hS
end Go.Proofs.YtimadnngfhbfiaaDoor
end

section
/- PRINTED by wip/gen.py: the machine's call of muntin/muntinref10.Check does what S18 says. -/
namespace Go.Proofs.YtimadnngfhbfiaaDoor
open Go Go.Mu
set_option maxHeartbeats 4000000
set_option maxRecDepth 100000
theorem f18_ok {p0 : Sl} {h : H} {K : Int → H → Prop} (hS : S18 p0 h K) : ACall Tryd.prog 18 ([(.slice p0.a p0.l p0.c)] : List Value).toArray h (fun r h' => ∃ r0 : Int, r = tup [(.int .i64 r0)] ∧ K r0 h') := by
  refine ACall.enter (fn := Tryd.f18) Tryd.func18 rfl (Nat.le_of_ble_eq_true rfl) ?_
  unfold S18 at hS
  have ok := Lok.nil h
  change EvC _ _ _ _ (H.add h []) _
  refine EvC.seq ?_
  refine EvC.region [Item.look 0] (by kernel_rfl) ?_
  refine R.look rfl rfl rfl (Lk.assign rfl rfl) fun _ => ?_
  refine R.nil ?_
  refine EvC.seq ?_
  refine EvC.seq ?_
  refine EvC.region [Item.look 0, Item.look 1, Item.look 2] (by kernel_rfl) ?_
  refine R.look rfl rfl rfl (Lk.move rfl rfl) fun _ => ?_
  refine R.look rfl rfl rfl (Lk.len rfl Tryd.underlying31 rfl) fun _ => ?_
  refine R.look rfl rfl rfl (Lk.arith rfl rfl rfl rfl) fun _ => ?_
  refine R.nil ?_
  by_cases e1 : (decide ((p0.l : Int) > 4096)) = true
  · rw [if_pos e1] at hS
    refine EvC.condT rfl e1 ?_
    refine EvC.seq ?_
    refine EvC.region [Item.look 0] (by kernel_rfl) ?_
    refine R.look rfl rfl rfl (Lk.assign rfl rfl) fun _ => ?_
    refine R.nil ?_
    refine EvC.ret ?_
    exact ⟨.inr rfl, _, _, (.cons (.tmp rfl) .nil), ok.le, _, rfl, hS⟩
  · rw [if_neg e1] at hS
    replace e1 := eq_false_of_ne_true e1
    refine EvC.condF rfl e1 ?_
    refine EvC.skip ?_
    refine EvC.join (σ := Unit) (fun s => Env.emp) (fun s => []) (fun s h_1 => S18_j1 K h_1) ?_ (fun Ih_1 hIh_1 => ?_)
    · rintro ⟨⟩ h_1 ok hS
      replace hS : S18_j1 K h_1 := hS
      change EvC _ _ _ Env.emp (H.add h_1 []) _
      unfold S18_j1 at hS
      refine EvC.seq ?_
      refine EvC.region [Item.look 0] (by kernel_rfl) ?_
      refine R.look rfl rfl rfl (Lk.assign rfl rfl) fun _ => ?_
      refine R.nil ?_
      refine EvC.ret ?_
      exact ⟨.inr rfl, _, _, (.cons (.tmp rfl) .nil), ok.le, _, rfl, hS⟩
    · refine EvC.seq ?_
      refine EvC.region [Item.look 0] (by kernel_rfl) ?_
      refine R.look rfl rfl rfl (Lk.assign rfl rfl) fun _ => ?_
      refine R.nil ?_
      refine EvC.block ?_
      refine EvC.loop ?_
      refine LoopC.lfp (σ := Int) (fun s => (Env.put (Env.put Env.emp 3 (.int .i64 s)) 0 (.slice p0.a p0.l p0.c))) (fun s => []) (fun X hX => ?_) hS (ok.sub List.Sublist.slnil) (Env.le_put rfl (Env.le_put rfl (Env.le_emp _))) (H.add_sub ok List.Sublist.slnil)
      intro v3 h_2 hS ok
      replace hS : S18_l7 p0 K X v3 h_2 := hS
      change EvC _ _ _ (Env.put (Env.put Env.emp 3 (.int .i64 v3)) 0 (.slice p0.a p0.l p0.c)) (H.add h_2 []) _
      unfold S18_l7 at hS
      refine EvC.seq ?_
      refine EvC.seq ?_
      refine EvC.region [Item.look 0, Item.look 1, Item.look 2, Item.look 3] (by kernel_rfl) ?_
      refine R.look rfl rfl rfl (Lk.move rfl rfl) fun _ => ?_
      refine R.look rfl rfl rfl (Lk.move rfl rfl) fun _ => ?_
      refine R.look rfl rfl rfl (Lk.len rfl Tryd.underlying31 rfl) fun _ => ?_
      refine R.look rfl rfl rfl (Lk.arith rfl rfl rfl rfl) fun _ => ?_
      refine R.nil ?_
      by_cases e2 : (decide (v3 < (p0.l : Int))) = true
      · rw [if_pos e2] at hS
        refine EvC.condT rfl e2 ?_
        refine EvC.skip ?_
        refine EvC.join (σ := Unit) (fun s => (Env.put (Env.put Env.emp 3 (.int .i64 v3)) 0 (.slice p0.a p0.l p0.c))) (fun s => []) (fun s h_3 => S18_j2 v3 X h_3) ?_ (fun Ih_3 hIh_3 => ?_)
        · rintro ⟨⟩ h_3 ok hS
          replace hS : S18_j2 v3 X h_3 := hS
          change EvC _ _ _ (Env.put (Env.put Env.emp 3 (.int .i64 v3)) 0 (.slice p0.a p0.l p0.c)) (H.add h_3 []) _
          unfold S18_j2 at hS
          refine EvC.region [Item.look 0, Item.look 1, Item.look 2] (by kernel_rfl) ?_
          refine R.look rfl rfl rfl (Lk.move rfl rfl) fun _ => ?_
          refine R.look rfl rfl rfl (Lk.arith rfl rfl rfl rfl) fun _ => ?_
          refine R.look rfl rfl rfl (Lk.assign rfl rfl) fun _ => ?_
          refine R.nil ?_
          exact hX (IntKind.wrap .i64 (v3 + 1)) _ _ _ hS (ok.sub List.Sublist.slnil) (Env.le_put rfl (Env.le_put rfl (Env.le_emp _))) (H.add_sub ok List.Sublist.slnil)
        · refine EvC.block ?_
          refine EvC.seq ?_
          refine EvC.region [Item.look 0] (by kernel_rfl) ?_
          refine R.look rfl rfl rfl (Lk.assign rfl rfl) fun _ => ?_
          refine R.nil ?_
          refine EvC.block ?_
          refine EvC.loop ?_
          refine LoopC.lfp (σ := Int) (fun s => (Env.put (Env.put (Env.put Env.emp 4 (.int .i64 s)) 3 (.int .i64 v3)) 0 (.slice p0.a p0.l p0.c))) (fun s => []) (fun X_1 hX_1 => ?_) hS (ok.sub List.Sublist.slnil) (Env.le_put rfl (Env.le_put rfl (Env.le_put rfl (Env.le_emp _)))) (H.add_sub ok List.Sublist.slnil)
          intro v4 h_4 hS ok
          replace hS : S18_l6 p0 K v3 X X_1 v4 h_4 := hS
          change EvC _ _ _ (Env.put (Env.put (Env.put Env.emp 4 (.int .i64 v4)) 3 (.int .i64 v3)) 0 (.slice p0.a p0.l p0.c)) (H.add h_4 []) _
          unfold S18_l6 at hS
          refine EvC.seq ?_
          refine EvC.seq ?_
          refine EvC.region [Item.look 0, Item.look 1] (by kernel_rfl) ?_
          refine R.look rfl rfl rfl (Lk.move rfl rfl) fun _ => ?_
          refine R.look rfl rfl rfl (Lk.arith rfl rfl rfl rfl) fun _ => ?_
          refine R.nil ?_
          by_cases e3 : (decide (v4 < 4)) = true
          · rw [if_pos e3] at hS
            refine EvC.condT rfl e3 ?_
            refine EvC.skip ?_
            refine EvC.join (σ := Unit) (fun s => (Env.put (Env.put (Env.put Env.emp 4 (.int .i64 v4)) 3 (.int .i64 v3)) 0 (.slice p0.a p0.l p0.c))) (fun s => []) (fun s h_5 => S18_j3 v4 X_1 h_5) ?_ (fun Ih_5 hIh_5 => ?_)
            · rintro ⟨⟩ h_5 ok hS
              replace hS : S18_j3 v4 X_1 h_5 := hS
              change EvC _ _ _ (Env.put (Env.put (Env.put Env.emp 4 (.int .i64 v4)) 3 (.int .i64 v3)) 0 (.slice p0.a p0.l p0.c)) (H.add h_5 []) _
              unfold S18_j3 at hS
              refine EvC.region [Item.look 0, Item.look 1, Item.look 2] (by kernel_rfl) ?_
              refine R.look rfl rfl rfl (Lk.move rfl rfl) fun _ => ?_
              refine R.look rfl rfl rfl (Lk.arith rfl rfl rfl rfl) fun _ => ?_
              refine R.look rfl rfl rfl (Lk.assign rfl rfl) fun _ => ?_
              refine R.nil ?_
              exact hX_1 (IntKind.wrap .i64 (v4 + 1)) _ _ _ hS (ok.sub List.Sublist.slnil) (Env.le_put rfl (Env.le_put rfl (Env.le_put rfl (Env.le_emp _)))) (H.add_sub ok List.Sublist.slnil)
            · refine EvC.block ?_
              refine EvC.seq ?_
              refine EvC.region [Item.look 0, Item.look 1, Item.look 2, Item.look 3, Item.look 4, Item.look 5, Item.look 6, Item.look 7] (by kernel_rfl) ?_
              refine R.look rfl rfl rfl (Lk.move rfl rfl) fun _ => ?_
              refine R.look rfl rfl rfl (Lk.move rfl rfl) fun _ => ?_
              refine R.look rfl rfl rfl (Lk.move rfl rfl) fun _ => ?_
              obtain ⟨a23, e4, e5, e6, hS⟩ := hS
              refine R.look rfl rfl rfl (Lk.ixAddr rfl Tryd.underlying31 T51 rfl e4 rfl e5 e6) fun _ => ?_
              refine R.look (v := (.pointer (some (Addr.add a23 (Int.toNat v3 * 8))))) rfl rfl rfl (Lk.fldAddr rfl Tryd.underlying51 rfl rfl T49 rfl rfl rfl) fun _ => ?_
              obtain ⟨e7, e8, hS⟩ := hS
              refine R.look rfl rfl rfl (Lk.indexAddrA rfl Tryd.underlying49 T3 rfl rfl e7 e8) fun _ => ?_
              obtain ⟨v26, e9, hS⟩ := hS
              refine R.look rfl rfl rfl (Look.loc ok (Lk.load1 rfl Tryd.underlying3 rfl rfl e9)) fun _ => ?_
              refine R.look rfl rfl rfl (Lk.assign rfl rfl) fun _ => ?_
              refine R.nil ?_
              refine EvC.seq ?_
              refine EvC.region [Item.look 0, Item.look 1, Item.look 2, Item.look 3, Item.look 4, Item.look 5, Item.look 6, Item.look 7] (by kernel_rfl) ?_
              refine R.look rfl rfl rfl (Lk.move rfl rfl) fun _ => ?_
              refine R.look rfl rfl rfl (Lk.move rfl rfl) fun _ => ?_
              refine R.look rfl rfl rfl (Lk.move rfl rfl) fun _ => ?_
              obtain ⟨a30, e10, e11, e12, hS⟩ := hS
              refine R.look rfl rfl rfl (Lk.ixAddr rfl Tryd.underlying31 T51 rfl e10 rfl e11 e12) fun _ => ?_
              refine R.look (v := (.pointer (some (Addr.add (Addr.add a30 (Int.toNat v3 * 8)) 4)))) rfl rfl rfl (Lk.fldAddr rfl Tryd.underlying51 rfl rfl T49 rfl rfl rfl) fun _ => ?_
              obtain ⟨e13, e14, hS⟩ := hS
              refine R.look rfl rfl rfl (Lk.indexAddrA rfl Tryd.underlying49 T3 rfl rfl e13 e14) fun _ => ?_
              obtain ⟨v33, e15, hS⟩ := hS
              refine R.look rfl rfl rfl (Look.loc ok (Lk.load1 rfl Tryd.underlying3 rfl rfl e15)) fun _ => ?_
              refine R.look rfl rfl rfl (Lk.assign rfl rfl) fun _ => ?_
              refine R.nil ?_
              refine EvC.seq ?_
              refine EvC.seq ?_
              refine EvC.region [Item.look 0, Item.look 1] (by kernel_rfl) ?_
              refine R.look rfl rfl rfl (Lk.move rfl rfl) fun _ => ?_
              refine R.look rfl rfl rfl (Lk.arith rfl rfl rfl rfl) fun _ => ?_
              refine R.nil ?_
              by_cases e16 : (v26 == (-1)) = true
              · rw [if_pos e16] at hS
                refine EvC.condT rfl e16 ?_
                refine EvC.seq ?_
                refine EvC.seq ?_
                refine EvC.region [Item.look 0, Item.look 1] (by kernel_rfl) ?_
                refine R.look rfl rfl rfl (Lk.move rfl rfl) fun _ => ?_
                refine R.look rfl rfl rfl (Lk.arith rfl rfl rfl rfl) fun _ => ?_
                refine R.nil ?_
                by_cases e17 : (v33 != 0) = true
                · rw [if_pos e17] at hS
                  refine EvC.condT rfl e17 ?_
                  refine EvC.seq ?_
                  refine EvC.region [Item.look 0] (by kernel_rfl) ?_
                  refine R.look rfl rfl rfl (Lk.assign rfl rfl) fun _ => ?_
                  refine R.nil ?_
                  refine EvC.ret ?_
                  exact ⟨.inr rfl, _, _, (.cons (.tmp rfl) .nil), ok.le, _, rfl, hS⟩
                · rw [if_neg e17] at hS
                  replace e17 := eq_false_of_ne_true e17
                  refine EvC.condF rfl e17 ?_
                  refine EvC.skip ?_
                  refine EvC.exit ?_
                  exact hIh_5 () _ _ _ (Env.le_put rfl (Env.le_put rfl (Env.le_put rfl (Env.le_emp _)))) (ok.sub List.Sublist.slnil) (H.add_sub ok List.Sublist.slnil) hS
              · rw [if_neg e16] at hS
                replace e16 := eq_false_of_ne_true e16
                refine EvC.condF rfl e16 ?_
                refine EvC.skip ?_
                refine EvC.seq ?_
                refine EvC.join (σ := Bool) (fun s => (Env.put (Env.put (Env.put (Env.put (Env.put (Env.put Env.emp 50 (.bool s)) 6 (.int .i64 v33)) 5 (.int .i64 v26)) 4 (.int .i64 v4)) 3 (.int .i64 v3)) 0 (.slice p0.a p0.l p0.c))) (fun s => []) (fun s h_6 => S18_j5 p0 K v3 v4 X_1 v26 v33 s h_6) ?_ (fun Ih_6 hIh_6 => ?_)
                · intro v50 h_6 ok hS
                  replace hS : S18_j5 p0 K v3 v4 X_1 v26 v33 v50 h_6 := hS
                  change EvC _ _ _ (Env.put (Env.put (Env.put (Env.put (Env.put (Env.put Env.emp 50 (.bool v50)) 6 (.int .i64 v33)) 5 (.int .i64 v26)) 4 (.int .i64 v4)) 3 (.int .i64 v3)) 0 (.slice p0.a p0.l p0.c)) (H.add h_6 []) _
                  unfold S18_j5 at hS
                  by_cases e18 : v50 = true
                  · rw [if_pos e18] at hS
                    refine EvC.condT rfl e18 ?_
                    refine EvC.seq ?_
                    refine EvC.region [Item.look 0] (by kernel_rfl) ?_
                    refine R.look rfl rfl rfl (Lk.assign rfl rfl) fun _ => ?_
                    refine R.nil ?_
                    refine EvC.ret ?_
                    exact ⟨.inr rfl, _, _, (.cons (.tmp rfl) .nil), ok.le, _, rfl, hS⟩
                  · rw [if_neg e18] at hS
                    replace e18 := eq_false_of_ne_true e18
                    refine EvC.condF rfl e18 ?_
                    refine EvC.skip ?_
                    refine EvC.join (σ := Bool) (fun s => (Env.put (Env.put (Env.put (Env.put Env.emp 78 (.bool s)) 4 (.int .i64 v4)) 3 (.int .i64 v3)) 0 (.slice p0.a p0.l p0.c))) (fun s => []) (fun s h_7 => S18_j4 K v4 X_1 s h_7) ?_ (fun Ih_7 hIh_7 => ?_)
                    · intro v78 h_7 ok hS
                      replace hS : S18_j4 K v4 X_1 v78 h_7 := hS
                      change EvC _ _ _ (Env.put (Env.put (Env.put (Env.put Env.emp 78 (.bool v78)) 4 (.int .i64 v4)) 3 (.int .i64 v3)) 0 (.slice p0.a p0.l p0.c)) (H.add h_7 []) _
                      unfold S18_j4 at hS
                      by_cases e19 : v78 = true
                      · rw [if_pos e19] at hS
                        refine EvC.condT rfl e19 ?_
                        refine EvC.seq ?_
                        refine EvC.region [Item.look 0] (by kernel_rfl) ?_
                        refine R.look rfl rfl rfl (Lk.assign rfl rfl) fun _ => ?_
                        refine R.nil ?_
                        refine EvC.ret ?_
                        exact ⟨.inr rfl, _, _, (.cons (.tmp rfl) .nil), ok.le, _, rfl, hS⟩
                      · rw [if_neg e19] at hS
                        replace e19 := eq_false_of_ne_true e19
                        refine EvC.condF rfl e19 ?_
                        refine EvC.skip ?_
                        exact hIh_5 () _ _ _ (Env.le_put rfl (Env.le_put rfl (Env.le_put rfl (Env.le_emp _)))) (ok.sub List.Sublist.slnil) (H.add_sub ok List.Sublist.slnil) hS
                    · refine EvC.region [Item.look 0, Item.look 1, Item.look 2, Item.look 3, Item.look 4, Item.look 5, Item.look 6, Item.look 7, Item.look 8, Item.look 9, Item.look 10, Item.look 11, Item.look 12, Item.look 13, Item.look 14, Item.look 15, Item.look 16, Item.look 17, Item.look 18, Item.look 19, Item.look 20, Item.look 21, Item.look 22, Item.look 23, Item.look 24, Item.look 25, Item.look 26, Item.look 27] (by kernel_rfl) ?_
                      refine R.look rfl rfl rfl (Lk.move rfl rfl) fun _ => ?_
                      refine R.look rfl rfl rfl (Lk.move rfl rfl) fun _ => ?_
                      refine R.look rfl rfl rfl (Lk.move rfl rfl) fun _ => ?_
                      refine R.look rfl rfl rfl (Lk.arith rfl rfl rfl rfl) fun _ => ?_
                      refine R.look rfl rfl rfl (Lk.rem (j := 4) rfl rfl rfl (by decide)) fun _ => ?_
                      obtain ⟨a56, e20, e21, e22, hS⟩ := hS
                      refine R.look rfl rfl rfl (Lk.ixAddr rfl Tryd.underlying31 T51 rfl e20 rfl e21 e22) fun _ => ?_
                      refine R.look (v := (.pointer (some (Addr.add a56 (Int.toNat v26 * 8))))) rfl rfl rfl (Lk.fldAddr rfl Tryd.underlying51 rfl rfl T49 rfl rfl rfl) fun _ => ?_
                      obtain ⟨e23, e24, hS⟩ := hS
                      refine R.look rfl rfl rfl (Lk.indexAddrA rfl Tryd.underlying49 T3 rfl rfl e23 e24) fun _ => ?_
                      obtain ⟨v59, e25, hS⟩ := hS
                      refine R.look rfl rfl rfl (Look.loc ok (Lk.load1 rfl Tryd.underlying3 rfl rfl e25)) fun _ => ?_
                      refine R.look rfl rfl rfl (Lk.move rfl rfl) fun _ => ?_
                      refine R.look rfl rfl rfl (Lk.arith rfl rfl rfl rfl) fun _ => ?_
                      refine R.look rfl rfl rfl (Lk.move rfl rfl) fun _ => ?_
                      by_cases e26 : (v59 != v3) = true
                      · rw [if_pos e26] at hS
                        refine R.lookF rfl rfl rfl rfl e26 rfl fun _ => ?_
                        refine R.lookF rfl rfl rfl rfl e26 rfl fun _ => ?_
                        refine R.lookF rfl rfl rfl rfl e26 rfl fun _ => ?_
                        refine R.lookF rfl rfl rfl rfl e26 rfl fun _ => ?_
                        refine R.lookF rfl rfl rfl rfl e26 rfl fun _ => ?_
                        refine R.lookF rfl rfl rfl rfl e26 rfl fun _ => ?_
                        refine R.lookF rfl rfl rfl rfl e26 rfl fun _ => ?_
                        refine R.lookF rfl rfl rfl rfl e26 rfl fun _ => ?_
                        refine R.lookF rfl rfl rfl rfl e26 rfl fun _ => ?_
                        refine R.lookF rfl rfl rfl rfl e26 rfl fun _ => ?_
                        refine R.lookF rfl rfl rfl rfl e26 rfl fun _ => ?_
                        refine R.look rfl rfl rfl (Lk.pick rfl rfl (fun _ => rfl) (fun e => by rw [e26] at e; cases e)) fun _ => ?_
                        refine R.look rfl rfl rfl (Lk.move rfl rfl) fun _ => ?_
                        refine R.lookF rfl rfl rfl rfl rfl rfl fun _ => ?_
                        refine R.lookF rfl rfl rfl rfl rfl rfl fun _ => ?_
                        refine R.look rfl rfl rfl (Lk.pick rfl rfl (fun _ => rfl) (fun e => by cases e)) fun _ => ?_
                        refine R.nil ?_
                        exact hIh_7 true _ _ _ (Env.le_put rfl (Env.le_put rfl (Env.le_put rfl (Env.le_put rfl (Env.le_emp _))))) (ok.sub List.Sublist.slnil) (H.add_sub ok List.Sublist.slnil) hS
                      · rw [if_neg e26] at hS
                        replace e26 := eq_false_of_ne_true e26
                        refine R.lookT rfl rfl rfl rfl e26 rfl (Lk.move rfl rfl) fun _ => ?_
                        refine R.lookT rfl rfl rfl rfl e26 rfl (Lk.move rfl rfl) fun _ => ?_
                        refine R.lookT rfl rfl rfl rfl e26 rfl (Lk.move rfl rfl) fun _ => ?_
                        refine R.lookT rfl rfl rfl rfl e26 rfl (Lk.arith rfl rfl rfl rfl) fun _ => ?_
                        refine R.lookT rfl rfl rfl rfl e26 rfl (Lk.rem (j := 4) rfl rfl rfl (by decide)) fun _ => ?_
                        obtain ⟨a68, e27, e28, e29, hS⟩ := hS
                        refine R.lookT rfl rfl rfl rfl e26 rfl (Lk.ixAddr rfl Tryd.underlying31 T51 rfl e27 rfl e28 e29) fun _ => ?_
                        refine R.lookT (v := (.pointer (some (Addr.add (Addr.add a68 (Int.toNat v26 * 8)) 4)))) rfl rfl rfl rfl e26 rfl (Lk.fldAddr rfl Tryd.underlying51 rfl rfl T49 rfl rfl rfl) fun _ => ?_
                        obtain ⟨e30, e31, hS⟩ := hS
                        refine R.lookT rfl rfl rfl rfl e26 rfl (Lk.indexAddrA rfl Tryd.underlying49 T3 rfl rfl e30 e31) fun _ => ?_
                        obtain ⟨v71, e32, hS⟩ := hS
                        refine R.lookT rfl rfl rfl rfl e26 rfl (Look.loc ok (Lk.load1 rfl Tryd.underlying3 rfl rfl e32)) fun _ => ?_
                        refine R.lookT rfl rfl rfl rfl e26 rfl (Lk.move rfl rfl) fun _ => ?_
                        refine R.lookT rfl rfl rfl rfl e26 rfl (Lk.arith rfl rfl rfl rfl) fun _ => ?_
                        refine R.look rfl rfl rfl (Lk.pick rfl rfl (fun e => by rw [e26] at e; cases e) (fun _ => rfl)) fun _ => ?_
                        refine R.look rfl rfl rfl (Lk.move rfl rfl) fun _ => ?_
                        by_cases e33 : (v71 != v33) = true
                        · rw [if_pos e33] at hS
                          refine R.lookF rfl rfl rfl rfl e33 rfl fun _ => ?_
                          refine R.lookF rfl rfl rfl rfl e33 rfl fun _ => ?_
                          refine R.look rfl rfl rfl (Lk.pick rfl rfl (fun _ => rfl) (fun e => by rw [e33] at e; cases e)) fun _ => ?_
                          refine R.nil ?_
                          exact hIh_7 true _ _ _ (Env.le_put rfl (Env.le_put rfl (Env.le_put rfl (Env.le_put rfl (Env.le_emp _))))) (ok.sub List.Sublist.slnil) (H.add_sub ok List.Sublist.slnil) hS
                        · rw [if_neg e33] at hS
                          replace e33 := eq_false_of_ne_true e33
                          refine R.lookT rfl rfl rfl rfl e33 rfl (Lk.move rfl rfl) fun _ => ?_
                          refine R.lookT rfl rfl rfl rfl e33 rfl (Lk.arith rfl rfl rfl rfl) fun _ => ?_
                          refine R.look rfl rfl rfl (Lk.pick rfl rfl (fun e => by rw [e33] at e; cases e) (fun _ => rfl)) fun _ => ?_
                          refine R.nil ?_
                          exact hIh_7 (decide (v33 < (-2))) _ _ _ (Env.le_put rfl (Env.le_put rfl (Env.le_put rfl (Env.le_put rfl (Env.le_emp _))))) (ok.sub List.Sublist.slnil) (H.add_sub ok List.Sublist.slnil) hS
                · refine EvC.region [Item.look 0, Item.look 1, Item.look 2, Item.look 3, Item.look 4, Item.look 5, Item.look 6, Item.look 7, Item.look 8, Item.look 9, Item.look 10, Item.look 11, Item.look 12] (by kernel_rfl) ?_
                  refine R.look rfl rfl rfl (Lk.move rfl rfl) fun _ => ?_
                  refine R.look rfl rfl rfl (Lk.arith rfl rfl rfl rfl) fun _ => ?_
                  refine R.look rfl rfl rfl (Lk.move rfl rfl) fun _ => ?_
                  by_cases e34 : (decide (v26 < 0)) = true
                  · refine R.lookF rfl rfl rfl rfl e34 rfl fun _ => ?_
                    refine R.lookF rfl rfl rfl rfl e34 rfl fun _ => ?_
                    refine R.lookF rfl rfl rfl rfl e34 rfl fun _ => ?_
                    refine R.lookF rfl rfl rfl rfl e34 rfl fun _ => ?_
                    refine R.look rfl rfl rfl (Lk.pick rfl rfl (fun _ => rfl) (fun e => by rw [e34] at e; cases e)) fun _ => ?_
                    refine R.look rfl rfl rfl (Lk.move rfl rfl) fun _ => ?_
                    refine R.lookF rfl rfl rfl rfl rfl rfl fun _ => ?_
                    refine R.lookF rfl rfl rfl rfl rfl rfl fun _ => ?_
                    refine R.lookF rfl rfl rfl rfl rfl rfl fun _ => ?_
                    refine R.look rfl rfl rfl (Lk.pick rfl rfl (fun _ => rfl) (fun e => by cases e)) fun _ => ?_
                    refine R.nil ?_
                    exact hIh_6 (((decide (v26 < 0)) || (decide (v26 ≥ (p0.l : Int)))) || (v26 == v3)) _ _ _ (Env.le_put rfl (Env.le_put rfl (Env.le_put rfl (Env.le_put rfl (Env.le_put rfl (Env.le_put (by rw [e34]; rfl) (Env.le_emp _))))))) (ok.sub List.Sublist.slnil) (H.add_sub ok List.Sublist.slnil) hS
                  · replace e34 := eq_false_of_ne_true e34
                    refine R.lookT rfl rfl rfl rfl e34 rfl (Lk.move rfl rfl) fun _ => ?_
                    refine R.lookT rfl rfl rfl rfl e34 rfl (Lk.move rfl rfl) fun _ => ?_
                    refine R.lookT rfl rfl rfl rfl e34 rfl (Lk.len rfl Tryd.underlying31 rfl) fun _ => ?_
                    refine R.lookT rfl rfl rfl rfl e34 rfl (Lk.arith rfl rfl rfl rfl) fun _ => ?_
                    refine R.look rfl rfl rfl (Lk.pick rfl rfl (fun e => by rw [e34] at e; cases e) (fun _ => rfl)) fun _ => ?_
                    refine R.look rfl rfl rfl (Lk.move rfl rfl) fun _ => ?_
                    by_cases e35 : (decide (v26 ≥ (p0.l : Int))) = true
                    · refine R.lookF rfl rfl rfl rfl e35 rfl fun _ => ?_
                      refine R.lookF rfl rfl rfl rfl e35 rfl fun _ => ?_
                      refine R.lookF rfl rfl rfl rfl e35 rfl fun _ => ?_
                      refine R.look rfl rfl rfl (Lk.pick rfl rfl (fun _ => rfl) (fun e => by rw [e35] at e; cases e)) fun _ => ?_
                      refine R.nil ?_
                      exact hIh_6 (((decide (v26 < 0)) || (decide (v26 ≥ (p0.l : Int)))) || (v26 == v3)) _ _ _ (Env.le_put rfl (Env.le_put rfl (Env.le_put rfl (Env.le_put rfl (Env.le_put rfl (Env.le_put (by rw [e34, e35]; rfl) (Env.le_emp _))))))) (ok.sub List.Sublist.slnil) (H.add_sub ok List.Sublist.slnil) hS
                    · replace e35 := eq_false_of_ne_true e35
                      refine R.lookT rfl rfl rfl rfl e35 rfl (Lk.move rfl rfl) fun _ => ?_
                      refine R.lookT rfl rfl rfl rfl e35 rfl (Lk.move rfl rfl) fun _ => ?_
                      refine R.lookT rfl rfl rfl rfl e35 rfl (Lk.arith rfl rfl rfl rfl) fun _ => ?_
                      refine R.look rfl rfl rfl (Lk.pick rfl rfl (fun e => by rw [e35] at e; cases e) (fun _ => rfl)) fun _ => ?_
                      refine R.nil ?_
                      exact hIh_6 (((decide (v26 < 0)) || (decide (v26 ≥ (p0.l : Int)))) || (v26 == v3)) _ _ _ (Env.le_put rfl (Env.le_put rfl (Env.le_put rfl (Env.le_put rfl (Env.le_put rfl (Env.le_put (by rw [e34, e35]; rfl) (Env.le_emp _))))))) (ok.sub List.Sublist.slnil) (H.add_sub ok List.Sublist.slnil) hS
          · rw [if_neg e3] at hS
            replace e3 := eq_false_of_ne_true e3
            refine EvC.condF rfl e3 ?_
            refine EvC.exit ?_
            exact hIh_3 () _ _ _ (Env.le_put rfl (Env.le_put rfl (Env.le_emp _))) (ok.sub List.Sublist.slnil) (H.add_sub ok List.Sublist.slnil) hS
      · rw [if_neg e2] at hS
        replace e2 := eq_false_of_ne_true e2
        refine EvC.condF rfl e2 ?_
        refine EvC.exit ?_
        exact hIh_1 () _ _ _ (Env.le_emp _) (ok.sub List.Sublist.slnil) (H.add_sub ok List.Sublist.slnil) hS
end Go.Proofs.YtimadnngfhbfiaaDoor
end

section
/- PRINTED by wip/gen.py: the machine's call of muntin/muntinlaw11.NormCells$1 does what S19 says. -/
namespace Go.Proofs.YtimadnngfhbfiaaDoor
open Go Go.Mu
set_option maxHeartbeats 4000000
set_option maxRecDepth 100000
theorem f19_ok {p0 : Int} {q0 : Addr} {h : H} {K : Int → H → Prop} (hS : S19 p0 q0 h K) : ACall Tryd.prog 19 ([(.int .i64 p0), (.pointer (some q0))] : List Value).toArray h (fun r h' => ∃ r0 : Int, r = tup [(.int .i64 r0)] ∧ K r0 h') := by
  refine ACall.enter (fn := Tryd.f19) Tryd.func19 rfl (Nat.le_of_ble_eq_true rfl) ?_
  unfold S19 at hS
  have ok := Lok.nil h
  change EvC _ _ _ _ (H.add h []) _
  refine EvC.seq ?_
  refine EvC.region [Item.look 0] (by kernel_rfl) ?_
  refine R.look rfl rfl rfl (Lk.assign rfl rfl) fun _ => ?_
  refine R.nil ?_
  refine EvC.seq ?_
  refine EvC.region [Item.look 0] (by kernel_rfl) ?_
  refine R.look rfl rfl rfl (Lk.assign rfl rfl) fun _ => ?_
  refine R.nil ?_
  refine EvC.join (σ := Int) (fun s => (Env.put Env.emp 4 (.int .i64 s))) (fun s => []) (fun s h_1 => S19_j1 K s h_1) ?_ (fun Ih_1 hIh_1 => ?_)
  · intro v4 h_1 ok hS
    replace hS : S19_j1 K v4 h_1 := hS
    change EvC _ _ _ (Env.put Env.emp 4 (.int .i64 v4)) (H.add h_1 []) _
    unfold S19_j1 at hS
    refine EvC.seq ?_
    refine EvC.region [Item.look 0, Item.look 1] (by kernel_rfl) ?_
    refine R.look rfl rfl rfl (Lk.move rfl rfl) fun _ => ?_
    refine R.look rfl rfl rfl (Lk.assign rfl rfl) fun _ => ?_
    refine R.nil ?_
    refine EvC.ret ?_
    exact ⟨.inr rfl, _, _, (.cons (.tmp rfl) .nil), ok.le, _, rfl, hS⟩
  · refine EvC.seq ?_
    refine EvC.region [Item.look 0, Item.look 1, Item.look 2, Item.look 3, Item.look 4, Item.look 5, Item.look 6] (by kernel_rfl) ?_
    refine R.look (v := (.pointer (some q0))) rfl rfl rfl (Lk.fldAddr rfl Tryd.underlying35 rfl rfl T31 rfl rfl rfl) fun _ => ?_
    obtain ⟨v8, e1, hS⟩ := hS
    refine R.look rfl rfl rfl (Look.loc ok (Lk.load1 rfl Tryd.underlying31 rfl rfl e1)) fun _ => ?_
    refine R.look rfl rfl rfl (Lk.move rfl rfl) fun _ => ?_
    obtain ⟨a10, e2, e3, e4, hS⟩ := hS
    refine R.look rfl rfl rfl (Lk.ixAddr rfl Tryd.underlying31 T51 rfl e2 rfl e3 e4) fun _ => ?_
    refine R.look (v := (.pointer (some (Addr.add a10 (Int.toNat p0 * 8))))) rfl rfl rfl (Lk.fldAddr rfl Tryd.underlying51 rfl rfl T49 rfl rfl rfl) fun _ => ?_
    obtain ⟨v12_0, v12_1, v12_2, v12_3, e5, hS⟩ := hS
    refine R.look rfl rfl rfl (Look.loc ok (Lk.loadN rfl Tryd.underlying49 rfl T49 rfl e5)) fun _ => ?_
    refine R.look rfl rfl rfl (Lk.move rfl rfl) fun _ => ?_
    refine R.nil ?_
    refine EvC.block ?_
    refine EvC.loop ?_
    refine LoopC.lfp (σ := Int × Int) (fun s => (Env.put (Env.put (Env.put Env.emp 13 (.int .i64 s.2)) 12 (.agg ([(.int .i64 v12_0), (.int .i64 v12_1), (.int .i64 v12_2), (.int .i64 v12_3)] : List Value).toArray)) 4 (.int .i64 s.1))) (fun s => []) (fun X hX => ?_) hS (ok.sub List.Sublist.slnil) (Env.le_put rfl (Env.le_put rfl (Env.le_put rfl (Env.le_emp _)))) (H.add_sub ok List.Sublist.slnil)
    rintro ⟨v4_1, v13⟩ h_2 hS ok
    replace hS : S19_l3 K v12_0 v12_1 v12_2 v12_3 X v4_1 v13 h_2 := hS
    change EvC _ _ _ (Env.put (Env.put (Env.put Env.emp 13 (.int .i64 v13)) 12 (.agg ([(.int .i64 v12_0), (.int .i64 v12_1), (.int .i64 v12_2), (.int .i64 v12_3)] : List Value).toArray)) 4 (.int .i64 v4_1)) (H.add h_2 []) _
    unfold S19_l3 at hS
    refine EvC.seq ?_
    refine EvC.region [Item.look 0] (by kernel_rfl) ?_
    refine R.look rfl rfl rfl (Lk.arith rfl rfl rfl rfl) fun _ => ?_
    refine R.nil ?_
    refine EvC.seq ?_
    by_cases e6 : (decide (v13 < 4)) = true
    · rw [if_pos e6] at hS
      refine EvC.condT rfl e6 ?_
      refine EvC.skip ?_
      refine EvC.join (σ := Int) (fun s => (Env.put (Env.put (Env.put Env.emp 13 (.int .i64 v13)) 12 (.agg ([(.int .i64 v12_0), (.int .i64 v12_1), (.int .i64 v12_2), (.int .i64 v12_3)] : List Value).toArray)) 4 (.int .i64 s))) (fun s => []) (fun s h_3 => S19_j2 v13 X s h_3) ?_ (fun Ih_3 hIh_3 => ?_)
      · intro v4_2 h_3 ok hS
        replace hS : S19_j2 v13 X v4_2 h_3 := hS
        change EvC _ _ _ (Env.put (Env.put (Env.put Env.emp 13 (.int .i64 v13)) 12 (.agg ([(.int .i64 v12_0), (.int .i64 v12_1), (.int .i64 v12_2), (.int .i64 v12_3)] : List Value).toArray)) 4 (.int .i64 v4_2)) (H.add h_3 []) _
        unfold S19_j2 at hS
        refine EvC.region [Item.look 0, Item.look 1] (by kernel_rfl) ?_
        refine R.look rfl rfl rfl (Lk.arith rfl rfl rfl rfl) fun _ => ?_
        refine R.look rfl rfl rfl (Lk.move rfl rfl) fun _ => ?_
        refine R.nil ?_
        exact hX (v4_2, (IntKind.wrap .i64 (v13 + 1))) _ _ _ hS (ok.sub List.Sublist.slnil) (Env.le_put rfl (Env.le_put rfl (Env.le_put rfl (Env.le_emp _)))) (H.add_sub ok List.Sublist.slnil)
      · refine EvC.block ?_
        refine EvC.seq ?_
        refine EvC.region [Item.look 0, Item.look 1] (by kernel_rfl) ?_
        obtain ⟨e7, e8, hS⟩ := hS
        refine R.look rfl rfl rfl (Lk.elemSel (fun x => Value.int .i64 x) ([v12_0, v12_1, v12_2, v12_3] : List Int) rfl Tryd.underlying49 Tryd.underlying3 rfl T3 rfl rfl e7 e8 rfl) fun _ => ?_
        refine R.look rfl rfl rfl (Lk.assign rfl rfl) fun _ => ?_
        refine R.nil ?_
        refine EvC.seq ?_
        refine EvC.region [Item.look 0, Item.look 1] (by kernel_rfl) ?_
        refine R.look rfl rfl rfl (Lk.move rfl rfl) fun _ => ?_
        refine R.look rfl rfl rfl (Lk.arith rfl rfl rfl rfl) fun _ => ?_
        refine R.nil ?_
        by_cases e9 : (decide ((sel ([v12_0, v12_1, v12_2, v12_3] : List Int) v13) ≥ 0)) = true
        · rw [if_pos e9] at hS
          refine EvC.condT rfl e9 ?_
          refine EvC.region [Item.look 0, Item.look 1, Item.look 2] (by kernel_rfl) ?_
          refine R.look rfl rfl rfl (Lk.move rfl rfl) fun _ => ?_
          refine R.look rfl rfl rfl (Lk.arith rfl rfl rfl rfl) fun _ => ?_
          refine R.look rfl rfl rfl (Lk.assign rfl rfl) fun _ => ?_
          refine R.nil ?_
          exact hIh_3 (IntKind.wrap .i64 (v4_1 + 1)) _ _ _ (Env.le_put rfl (Env.le_put rfl (Env.le_put rfl (Env.le_emp _)))) (ok.sub List.Sublist.slnil) (H.add_sub ok List.Sublist.slnil) hS
        · rw [if_neg e9] at hS
          replace e9 := eq_false_of_ne_true e9
          refine EvC.condF rfl e9 ?_
          refine EvC.skip ?_
          exact hIh_3 v4_1 _ _ _ (Env.le_put rfl (Env.le_put rfl (Env.le_put rfl (Env.le_emp _)))) (ok.sub List.Sublist.slnil) (H.add_sub ok List.Sublist.slnil) hS
    · rw [if_neg e6] at hS
      replace e6 := eq_false_of_ne_true e6
      refine EvC.condF rfl e6 ?_
      refine EvC.exit ?_
      exact hIh_1 v4_1 _ _ _ (Env.le_put rfl (Env.le_emp _)) (ok.sub List.Sublist.slnil) (H.add_sub ok List.Sublist.slnil) hS
end Go.Proofs.YtimadnngfhbfiaaDoor
end
