/-
  Proved: the law NormBack returns true for every raw shape and every number; no condition beside those of the row.
  The texts: a logic over the kit's Calls (partial knowledge of the heap), Go functions told in its words by a program of this session's own, their contracts by hand, the plain law, and last the statement and its card.
  Part 3 of 4.
-/
import Derived.Test.YtimadnngfhbfiaaDoorNbB
import Derived.Test.YtimadnngfhbfiaaDoorProg

section
/- PRINTED by wip/gen.py: facts of the program's types and calls. -/
namespace Go.Proofs.YtimadnngfhbfiaaDoor
open Go Go.Mu
set_option maxRecDepth 100000
theorem MO : Tryd.prog.follows .mixedOrders = true := by kernel_rfl
theorem CB11 : callB Tryd.prog 11 = true := by kernel_rfl
theorem CB12 : callB Tryd.prog 12 = true := by kernel_rfl
theorem CB13 : callB Tryd.prog 13 = true := by kernel_rfl
theorem CB14 : callB Tryd.prog 14 = true := by kernel_rfl
theorem CB15 : callB Tryd.prog 15 = true := by kernel_rfl
theorem CB16 : callB Tryd.prog 16 = true := by kernel_rfl
theorem CB17 : callB Tryd.prog 17 = true := by kernel_rfl
theorem CB18 : callB Tryd.prog 18 = true := by kernel_rfl
theorem CB19 : callB Tryd.prog 19 = true := by kernel_rfl
theorem CB20 : callB Tryd.prog 20 = true := by kernel_rfl
theorem CB21 : callB Tryd.prog 21 = true := by kernel_rfl
theorem CB23 : callB Tryd.prog 23 = true := by kernel_rfl
theorem CB39 : callB Tryd.prog 39 = true := by kernel_rfl
theorem CB40 : callB Tryd.prog 40 = true := by kernel_rfl
theorem CB41 : callB Tryd.prog 41 = true := by kernel_rfl
theorem CB42 : callB Tryd.prog 42 = true := by kernel_rfl
theorem CB43 : callB Tryd.prog 43 = true := by kernel_rfl
theorem CB44 : callB Tryd.prog 44 = true := by kernel_rfl
theorem CB45 : callB Tryd.prog 45 = true := by kernel_rfl
theorem CB46 : callB Tryd.prog 46 = true := by kernel_rfl
theorem CB47 : callB Tryd.prog 47 = true := by kernel_rfl
theorem CB48 : callB Tryd.prog 48 = true := by kernel_rfl
theorem CB49 : callB Tryd.prog 49 = true := by kernel_rfl
theorem CB50 : callB Tryd.prog 50 = true := by kernel_rfl
theorem CB51 : callB Tryd.prog 51 = true := by kernel_rfl
theorem CB52 : callB Tryd.prog 52 = true := by kernel_rfl
theorem CB53 : callB Tryd.prog 53 = true := by kernel_rfl
theorem CB54 : callB Tryd.prog 54 = true := by kernel_rfl
theorem CB56 : callB Tryd.prog 56 = true := by kernel_rfl
theorem CB58 : callB Tryd.prog 58 = true := by kernel_rfl
theorem CB70 : callB Tryd.prog 70 = true := by kernel_rfl
theorem CB71 : callB Tryd.prog 71 = true := by kernel_rfl
theorem CB72 : callB Tryd.prog 72 = true := by kernel_rfl
theorem CB73 : callB Tryd.prog 73 = true := by kernel_rfl
theorem CB74 : callB Tryd.prog 74 = true := by kernel_rfl
theorem CB75 : callB Tryd.prog 75 = true := by kernel_rfl
theorem CB76 : callB Tryd.prog 76 = true := by kernel_rfl
theorem CB77 : callB Tryd.prog 77 = true := by kernel_rfl
theorem CB78 : callB Tryd.prog 78 = true := by kernel_rfl
theorem CB79 : callB Tryd.prog 79 = true := by kernel_rfl
theorem CB92 : callB Tryd.prog 92 = true := by kernel_rfl
theorem CB93 : callB Tryd.prog 93 = true := by kernel_rfl
theorem CB94 : callB Tryd.prog 94 = true := by kernel_rfl
theorem CB95 : callB Tryd.prog 95 = true := by kernel_rfl
theorem CB96 : callB Tryd.prog 96 = true := by kernel_rfl
theorem CB97 : callB Tryd.prog 97 = true := by kernel_rfl
theorem CB99 : callB Tryd.prog 99 = true := by kernel_rfl
theorem CB101 : callB Tryd.prog 101 = true := by kernel_rfl
theorem CB106 : callB Tryd.prog 106 = true := by kernel_rfl
theorem CB107 : callB Tryd.prog 107 = true := by kernel_rfl
theorem CB109 : callB Tryd.prog 109 = true := by kernel_rfl
theorem EG51 : Program.eqGuardType Tryd.prog (Program.depth Tryd.prog) 51 = false := by kernel_rfl
theorem SH51 : Program.stoodInHeld Tryd.prog 51 = false := by kernel_rfl
theorem T3 : TI Tryd.prog 3 (.int .i64 0) 1 8 := by unfold TI; kernel_rfl
theorem T4 : TI Tryd.prog 4 (.bool false) 1 1 := by unfold TI; kernel_rfl
theorem T5 : TI Tryd.prog 5 (.int .u8 0) 1 1 := by unfold TI; kernel_rfl
theorem T9 : TI Tryd.prog 9 (.string ⟨#[]⟩) 1 16 := by unfold TI; kernel_rfl
theorem T22 : TI Tryd.prog 22 (.slice none 0 0) 1 24 := by unfold TI; kernel_rfl
theorem T23 : TI Tryd.prog 23 (.slice none 0 0) 1 24 := by unfold TI; kernel_rfl
theorem T24 : TI Tryd.prog 24 (.slice none 0 0) 1 24 := by unfold TI; kernel_rfl
theorem T26 : TI Tryd.prog 26 (.agg #[(.slice none 0 0), (.slice none 0 0), (.slice none 0 0)]) 3 72 := by unfold TI; kernel_rfl
theorem T27 : TI Tryd.prog 27 (.slice none 0 0) 1 24 := by unfold TI; kernel_rfl
theorem T29 : TI Tryd.prog 29 (.agg #[(.slice none 0 0), (.slice none 0 0)]) 2 48 := by unfold TI; kernel_rfl
theorem T31 : TI Tryd.prog 31 (.slice none 0 0) 1 24 := by unfold TI; kernel_rfl
theorem T32 : TI Tryd.prog 32 (.slice none 0 0) 1 24 := by unfold TI; kernel_rfl
theorem T33 : TI Tryd.prog 33 (.slice none 0 0) 1 24 := by unfold TI; kernel_rfl
theorem T35 : TI Tryd.prog 35 (.agg #[(.slice none 0 0), (.slice none 0 0), (.slice none 0 0)]) 3 72 := by unfold TI; kernel_rfl
theorem T41 : TI Tryd.prog 41 (.slice none 0 0) 1 24 := by unfold TI; kernel_rfl
theorem T43 : TI Tryd.prog 43 (.agg #[(.slice none 0 0), (.slice none 0 0), (.slice none 0 0), (.slice none 0 0)]) 4 96 := by unfold TI; kernel_rfl
theorem T49 : TI Tryd.prog 49 (.agg #[(.int .i64 0), (.int .i64 0), (.int .i64 0), (.int .i64 0)]) 4 32 := by unfold TI; kernel_rfl
theorem T51 : TI Tryd.prog 51 (.agg #[(.int .i64 0), (.int .i64 0), (.int .i64 0), (.int .i64 0), (.int .i64 0), (.int .i64 0), (.int .i64 0), (.int .i64 0)]) 8 64 := by unfold TI; kernel_rfl
theorem T54 : TI Tryd.prog 54 (.agg #[(.int .i64 0), (.int .i64 0), (.int .i64 0), (.string ⟨#[]⟩)]) 4 40 := by unfold TI; kernel_rfl
theorem T100 : TI Tryd.prog 100 (.agg #[(.int .u8 0), (.int .u8 0), (.int .u8 0)]) 3 3 := by unfold TI; kernel_rfl
theorem T103 : TI Tryd.prog 103 (.pointer none) 1 8 := by unfold TI; kernel_rfl
theorem T104 : TI Tryd.prog 104 (.slice none 0 0) 1 24 := by unfold TI; kernel_rfl
theorem T106 : TI Tryd.prog 106 (.agg #[(.slice none 0 0), (.slice none 0 0), (.pointer none), (.slice none 0 0), (.slice none 0 0), (.slice none 0 0), (.slice none 0 0), (.slice none 0 0)]) 8 176 := by unfold TI; kernel_rfl
theorem T116 : TI Tryd.prog 116 (.agg #[(.int .i64 0), (.int .i64 0)]) 2 16 := by unfold TI; kernel_rfl
theorem T144 : TI Tryd.prog 144 (.slice none 0 0) 1 24 := by unfold TI; kernel_rfl
theorem T145 : TI Tryd.prog 145 (.agg #[(.slice none 0 0), (.slice none 0 0), (.slice none 0 0), (.slice none 0 0)]) 4 96 := by unfold TI; kernel_rfl
theorem T147 : TI Tryd.prog 147 (.agg #[(.int .i64 0), (.int .i64 0)]) 2 16 := by unfold TI; kernel_rfl
theorem T151 : TI Tryd.prog 151 (.agg #[(.slice none 0 0)]) 1 24 := by unfold TI; kernel_rfl
end Go.Proofs.YtimadnngfhbfiaaDoor
end

section
/- PRINTED by wip/gen.py: the machine's call of muntin/muntinref08.Make does what S11 says. -/
namespace Go.Proofs.YtimadnngfhbfiaaDoor
open Go Go.Mu
set_option maxHeartbeats 4000000
set_option maxRecDepth 100000
theorem f11_ok {p0_0 : Sl} {p0_1 : Sl} {p0_2 : Sl} {p1 : Int} {h : H} {K : Sl → Sl → H → Prop} (hS : S11 p0_0 p0_1 p0_2 p1 h K) : ACall Tryd.prog 11 ([(.agg ([(.slice p0_0.a p0_0.l p0_0.c), (.slice p0_1.a p0_1.l p0_1.c), (.slice p0_2.a p0_2.l p0_2.c)] : List Value).toArray), (.int .i64 p1)] : List Value).toArray h (fun r h' => ∃ r0_0 : Sl, ∃ r0_1 : Sl, r = tup [(.agg ([(.slice r0_0.a r0_0.l r0_0.c), (.slice r0_1.a r0_1.l r0_1.c)] : List Value).toArray)] ∧ K r0_0 r0_1 h') := by
  refine ACall.enter (fn := Tryd.f11) Tryd.func11 rfl (Nat.le_of_ble_eq_true rfl) ?_
  unfold S11 at hS
  have ok := Lok.nil h
  change EvC _ _ _ _ (H.add h []) _
  refine EvC.seq ?_
  refine EvC.region [Item.alc 0, Item.alc 1] (by kernel_rfl) ?_
  refine R.var (blk := .row ⟨[(.slice p0_0.a p0_0.l p0_0.c), (.slice p0_1.a p0_1.l p0_1.c), (.slice p0_2.a p0_2.l p0_2.c)], 3, 26, true, true⟩) ok rfl rfl rfl (Ac.box rfl rfl) rfl rfl fun b2 ok => ?_
  refine R.var (blk := .row ⟨[(.slice none 0 0), (.slice none 0 0)], 2, 29, true, true⟩) ok rfl rfl rfl (Ac.alloc rfl T29) rfl rfl fun b4 ok => ?_
  refine R.nil ?_
  refine EvC.seq ?_
  refine EvC.region [Item.look 0, Item.alc 1, Item.eff 2 []] (by kernel_rfl) ?_
  refine R.look rfl rfl rfl (Lk.build (cs := [(.slice none 0 0), (.slice none 0 0)]) (pl := [(0, 1), (1, 1)]) rfl Tryd.underlying29 T29 (PlacesL.places (.cons T22 (.cons T27 PlacesL.nil))) rfl rfl) fun _ => ?_
  refine R.var (blk := .row ⟨[(.slice none 0 0), (.slice none 0 0)], 2, 29, true, true⟩) ok rfl rfl rfl (Ac.alloc rfl T29) rfl rfl fun b5 ok => ?_
  refine R.effN rfl rfl rfl (Ef.storeLoc (i := 0) (vs := [(.slice none 0 0), (.slice none 0 0)]) (cs := [(.slice none 0 0), (.slice none 0 0)]) (l' := [(b5, .row ⟨[(.slice none 0 0), (.slice none 0 0)], 2, 29, true, true⟩), (b4, .row ⟨[(.slice none 0 0), (.slice none 0 0)], 2, 29, true, true⟩), (b2, .row ⟨[(.slice p0_0.a p0_0.l p0_0.c), (.slice p0_1.a p0_1.l p0_1.c), (.slice p0_2.a p0_2.l p0_2.c)], 3, 26, true, true⟩)]) ok rfl T29 rfl rfl rfl rfl rfl rfl rfl rfl rfl rfl fun ok => ⟨noChk, ?_⟩)
  refine R.nil ?_
  refine EvC.join (σ := Sl × Sl) (fun s => (Env.put (Env.put (Env.put (Env.put Env.emp 5 (.pointer (some ⟨b5, 0, none⟩))) 4 (.pointer (some ⟨b4, 0, none⟩))) 2 (.pointer (some ⟨b2, 0, none⟩))) 1 (.int .i64 p1))) (fun s => [(b5, .row ⟨[(.slice s.1.a s.1.l s.1.c), (.slice s.2.a s.2.l s.2.c)], 2, 29, true, true⟩), (b4, .row ⟨[(.slice none 0 0), (.slice none 0 0)], 2, 29, true, true⟩), (b2, .row ⟨[(.slice p0_0.a p0_0.l p0_0.c), (.slice p0_1.a p0_1.l p0_1.c), (.slice p0_2.a p0_2.l p0_2.c)], 3, 26, true, true⟩)]) (fun s h_1 => S11_j7 p0_1 p0_2 p1 K s.1 s.2 h_1) ?_ (fun Ih_1 hIh_1 => ?_)
  · rintro ⟨c5_0, c5_1⟩ h_1 ok hS
    replace hS : S11_j7 p0_1 p0_2 p1 K c5_0 c5_1 h_1 := hS
    change EvC _ _ _ (Env.put (Env.put (Env.put (Env.put Env.emp 5 (.pointer (some ⟨b5, 0, none⟩))) 4 (.pointer (some ⟨b4, 0, none⟩))) 2 (.pointer (some ⟨b2, 0, none⟩))) 1 (.int .i64 p1)) (H.add h_1 [(b5, .row ⟨[(.slice c5_0.a c5_0.l c5_0.c), (.slice c5_1.a c5_1.l c5_1.c)], 2, 29, true, true⟩), (b4, .row ⟨[(.slice none 0 0), (.slice none 0 0)], 2, 29, true, true⟩), (b2, .row ⟨[(.slice p0_0.a p0_0.l p0_0.c), (.slice p0_1.a p0_1.l p0_1.c), (.slice p0_2.a p0_2.l p0_2.c)], 3, 26, true, true⟩)]) _
    unfold S11_j7 at hS
    refine EvC.join (σ := Sl × Sl) (fun s => (Env.put (Env.put Env.emp 5 (.pointer (some ⟨b5, 0, none⟩))) 4 (.pointer (some ⟨b4, 0, none⟩)))) (fun s => [(b5, .row ⟨[(.slice s.1.a s.1.l s.1.c), (.slice s.2.a s.2.l s.2.c)], 2, 29, true, true⟩), (b4, .row ⟨[(.slice none 0 0), (.slice none 0 0)], 2, 29, true, true⟩)]) (fun s h_2 => S11_j1 K s.1 s.2 h_2) ?_ (fun Ih_2 hIh_2 => ?_)
    · rintro ⟨c5_0_1, c5_1_1⟩ h_2 ok hS
      replace hS : S11_j1 K c5_0_1 c5_1_1 h_2 := hS
      change EvC _ _ _ (Env.put (Env.put Env.emp 5 (.pointer (some ⟨b5, 0, none⟩))) 4 (.pointer (some ⟨b4, 0, none⟩))) (H.add h_2 [(b5, .row ⟨[(.slice c5_0_1.a c5_0_1.l c5_0_1.c), (.slice c5_1_1.a c5_1_1.l c5_1_1.c)], 2, 29, true, true⟩), (b4, .row ⟨[(.slice none 0 0), (.slice none 0 0)], 2, 29, true, true⟩)]) _
      unfold S11_j1 at hS
      refine EvC.seq ?_
      refine EvC.region [Item.look 0, Item.eff 1 []] (by kernel_rfl) ?_
      refine R.look rfl rfl rfl (Lk.loadN (vs := [(.slice c5_0_1.a c5_0_1.l c5_0_1.c), (.slice c5_1_1.a c5_1_1.l c5_1_1.c)]) rfl Tryd.underlying29 rfl T29 rfl (H.rdn_loc ok (i := 0) rfl rfl rfl)) fun _ => ?_
      refine R.effN rfl rfl rfl (Ef.storeLoc (i := 1) (vs := [(.slice c5_0_1.a c5_0_1.l c5_0_1.c), (.slice c5_1_1.a c5_1_1.l c5_1_1.c)]) (cs := [(.slice c5_0_1.a c5_0_1.l c5_0_1.c), (.slice c5_1_1.a c5_1_1.l c5_1_1.c)]) (l' := [(b5, .row ⟨[(.slice c5_0_1.a c5_0_1.l c5_0_1.c), (.slice c5_1_1.a c5_1_1.l c5_1_1.c)], 2, 29, true, true⟩), (b4, .row ⟨[(.slice c5_0_1.a c5_0_1.l c5_0_1.c), (.slice c5_1_1.a c5_1_1.l c5_1_1.c)], 2, 29, true, true⟩)]) ok rfl T29 rfl rfl rfl rfl rfl rfl rfl rfl rfl rfl fun ok => ⟨noChk, ?_⟩)
      refine R.nil ?_
      refine EvC.ret ?_
      exact ⟨.inr rfl, _, _, (.cons (.cells rfl (fun w => Und.agg Tryd.underlying29 w) (fun w => T29.size_ w) (H.rdn_loc ok (i := 1) rfl rfl rfl)) .nil), ok.le, _, _, rfl, hS⟩
    · refine EvC.seq ?_
      refine EvC.region [Item.look 0] (by kernel_rfl) ?_
      refine R.look rfl rfl rfl (Lk.assign rfl rfl) fun _ => ?_
      refine R.nil ?_
      refine EvC.block ?_
      refine EvC.loop ?_
      refine LoopC.lfp (σ := Int × Sl × Sl) (fun s => (Env.put (Env.put (Env.put (Env.put (Env.put Env.emp 7 (.int .i64 s.1)) 5 (.pointer (some ⟨b5, 0, none⟩))) 4 (.pointer (some ⟨b4, 0, none⟩))) 2 (.pointer (some ⟨b2, 0, none⟩))) 1 (.int .i64 p1))) (fun s => [(b5, .row ⟨[(.slice s.2.1.a s.2.1.l s.2.1.c), (.slice s.2.2.a s.2.2.l s.2.2.c)], 2, 29, true, true⟩), (b4, .row ⟨[(.slice none 0 0), (.slice none 0 0)], 2, 29, true, true⟩), (b2, .row ⟨[(.slice p0_0.a p0_0.l p0_0.c), (.slice p0_1.a p0_1.l p0_1.c), (.slice p0_2.a p0_2.l p0_2.c)], 3, 26, true, true⟩)]) (fun X hX => ?_) hS (ok.sub (.cons_cons _ (.cons_cons _ (.cons_cons _ List.Sublist.slnil)))) (Env.le_put rfl (Env.le_put rfl (Env.le_put rfl (Env.le_put rfl (Env.le_put rfl (Env.le_emp _)))))) (H.add_sub ok (.cons_cons _ (.cons_cons _ (.cons_cons _ List.Sublist.slnil))))
      rintro ⟨v7, c5_0_2, c5_1_2⟩ h_3 hS ok
      replace hS : S11_l6 p0_1 p0_2 p1 K X v7 c5_0_2 c5_1_2 h_3 := hS
      change EvC _ _ _ (Env.put (Env.put (Env.put (Env.put (Env.put Env.emp 7 (.int .i64 v7)) 5 (.pointer (some ⟨b5, 0, none⟩))) 4 (.pointer (some ⟨b4, 0, none⟩))) 2 (.pointer (some ⟨b2, 0, none⟩))) 1 (.int .i64 p1)) (H.add h_3 [(b5, .row ⟨[(.slice c5_0_2.a c5_0_2.l c5_0_2.c), (.slice c5_1_2.a c5_1_2.l c5_1_2.c)], 2, 29, true, true⟩), (b4, .row ⟨[(.slice none 0 0), (.slice none 0 0)], 2, 29, true, true⟩), (b2, .row ⟨[(.slice p0_0.a p0_0.l p0_0.c), (.slice p0_1.a p0_1.l p0_1.c), (.slice p0_2.a p0_2.l p0_2.c)], 3, 26, true, true⟩)]) _
      unfold S11_l6 at hS
      refine EvC.seq ?_
      refine EvC.join (σ := Bool) (fun s => (Env.put (Env.put (Env.put (Env.put (Env.put (Env.put Env.emp 49 (.bool s)) 7 (.int .i64 v7)) 5 (.pointer (some ⟨b5, 0, none⟩))) 4 (.pointer (some ⟨b4, 0, none⟩))) 2 (.pointer (some ⟨b2, 0, none⟩))) 1 (.int .i64 p1))) (fun s => [(b5, .row ⟨[(.slice c5_0_2.a c5_0_2.l c5_0_2.c), (.slice c5_1_2.a c5_1_2.l c5_1_2.c)], 2, 29, true, true⟩), (b4, .row ⟨[(.slice none 0 0), (.slice none 0 0)], 2, 29, true, true⟩), (b2, .row ⟨[(.slice p0_0.a p0_0.l p0_0.c), (.slice p0_1.a p0_1.l p0_1.c), (.slice p0_2.a p0_2.l p0_2.c)], 3, 26, true, true⟩)]) (fun s h_4 => S11_j5 p0_1 p0_2 K v7 c5_0_2 c5_1_2 X s h_4) ?_ (fun Ih_4 hIh_4 => ?_)
      · intro v49 h_4 ok hS
        replace hS : S11_j5 p0_1 p0_2 K v7 c5_0_2 c5_1_2 X v49 h_4 := hS
        change EvC _ _ _ (Env.put (Env.put (Env.put (Env.put (Env.put (Env.put Env.emp 49 (.bool v49)) 7 (.int .i64 v7)) 5 (.pointer (some ⟨b5, 0, none⟩))) 4 (.pointer (some ⟨b4, 0, none⟩))) 2 (.pointer (some ⟨b2, 0, none⟩))) 1 (.int .i64 p1)) (H.add h_4 [(b5, .row ⟨[(.slice c5_0_2.a c5_0_2.l c5_0_2.c), (.slice c5_1_2.a c5_1_2.l c5_1_2.c)], 2, 29, true, true⟩), (b4, .row ⟨[(.slice none 0 0), (.slice none 0 0)], 2, 29, true, true⟩), (b2, .row ⟨[(.slice p0_0.a p0_0.l p0_0.c), (.slice p0_1.a p0_1.l p0_1.c), (.slice p0_2.a p0_2.l p0_2.c)], 3, 26, true, true⟩)]) _
        unfold S11_j5 at hS
        by_cases e1 : v49 = true
        · rw [if_pos e1] at hS
          refine EvC.condT rfl e1 ?_
          refine EvC.skip ?_
          refine EvC.seq ?_
          refine EvC.block ?_
          refine EvC.seq ?_
          refine EvC.draw [0, 1, 0, 7, 15, 31, 63, 0, 128, 384, 1023, 0, 2048, 0, 14336, 30720, 63488, 129024, 0, 262144, 786432, 2095104, 0, 4194304, 0, 29360128, 62914560, 130023424, 264241152, 532676608, 1073741823, 0, 4294967295] [Item.look 0, Item.look 1, Item.look 2, Item.look 3, Item.look 4, Item.look 5, Item.look 6, Item.look 7, Item.look 8, Item.look 9, Item.look 10, Item.look 11, Item.look 12, Item.look 13, Item.look 14, Item.look 15, Item.look 16, Item.look 17, Item.look 18, Item.look 19, Item.look 20, Item.look 21, Item.look 22, Item.look 23, Item.look 24, Item.look 25, Item.look 26, Item.look 27, Item.look 28, Item.look 29, Item.look 30, Item.alc 31, Item.eff 32 []] MO (by kernel_rfl) ?_
          refine R.look (v := (.pointer (some ⟨b2, 1, none⟩))) rfl rfl rfl (Lk.fldAddr rfl Tryd.underlying26 rfl rfl T23 rfl rfl rfl) fun _ => ?_
          refine R.look rfl rfl rfl (Lk.load1 (v := (.slice p0_1.a p0_1.l p0_1.c)) rfl Tryd.underlying23 rfl rfl (H.rd_loc ok (i := 2) rfl rfl)) fun _ => ?_
          refine R.look rfl rfl rfl (Lk.move rfl rfl) fun _ => ?_
          obtain ⟨a55, e2, e3, e4, hS⟩ := hS
          refine R.look rfl rfl rfl (Lk.ixAddr rfl Tryd.underlying23 T100 rfl e2 rfl e3 e4) fun _ => ?_
          refine R.look (v := (.pointer (some (Addr.add a55 (Int.toNat v7 * 3))))) rfl rfl rfl (Lk.ixConst rfl Tryd.underlying100 T5 rfl rfl rfl rfl) fun _ => ?_
          obtain ⟨v57, e5, hS⟩ := hS
          refine R.look rfl rfl rfl (Look.loc ok (Lk.load1 rfl Tryd.underlying5 rfl rfl e5)) fun _ => ?_
          refine R.look rfl rfl rfl (Lk.conv rfl Tryd.underlying5 Tryd.underlying3 rfl) fun _ => ?_
          refine R.look (v := (.pointer (some ⟨b5, 0, none⟩))) rfl rfl rfl (Lk.fldAddr rfl Tryd.underlying29 rfl rfl T22 rfl rfl rfl) fun _ => ?_
          refine R.look rfl rfl rfl (Lk.load1 (v := (.slice c5_0_2.a c5_0_2.l c5_0_2.c)) rfl Tryd.underlying22 rfl rfl (H.rd_loc ok (i := 0) rfl rfl)) fun _ => ?_
          refine R.look rfl rfl rfl (Lk.len rfl Tryd.underlying22 rfl) fun _ => ?_
          obtain ⟨e6, hS⟩ := hS
          refine R.look rfl rfl rfl (Lk.rem rfl rfl rfl e6) fun _ => ?_
          refine R.look (v := (.pointer (some ⟨b2, 1, none⟩))) rfl rfl rfl (Lk.fldAddr rfl Tryd.underlying26 rfl rfl T23 rfl rfl rfl) fun _ => ?_
          refine R.look rfl rfl rfl (Lk.load1 (v := (.slice p0_1.a p0_1.l p0_1.c)) rfl Tryd.underlying23 rfl rfl (H.rd_loc ok (i := 2) rfl rfl)) fun _ => ?_
          refine R.look rfl rfl rfl (Lk.move rfl rfl) fun _ => ?_
          obtain ⟨a66, e7, e8, e9, hS⟩ := hS
          refine R.look rfl rfl rfl (Lk.ixAddr rfl Tryd.underlying23 T100 rfl e7 rfl e8 e9) fun _ => ?_
          refine R.look (v := (.pointer (some (Addr.add (Addr.add a66 (Int.toNat v7 * 3)) 1)))) rfl rfl rfl (Lk.ixConst rfl Tryd.underlying100 T5 rfl rfl rfl rfl) fun _ => ?_
          obtain ⟨v68, e10, hS⟩ := hS
          refine R.look rfl rfl rfl (Look.loc ok (Lk.load1 rfl Tryd.underlying5 rfl rfl e10)) fun _ => ?_
          refine R.look rfl rfl rfl (Lk.conv rfl Tryd.underlying5 Tryd.underlying3 rfl) fun _ => ?_
          refine R.look (v := (.pointer (some ⟨b5, 0, none⟩))) rfl rfl rfl (Lk.fldAddr rfl Tryd.underlying29 rfl rfl T22 rfl rfl rfl) fun _ => ?_
          refine R.look rfl rfl rfl (Lk.load1 (v := (.slice c5_0_2.a c5_0_2.l c5_0_2.c)) rfl Tryd.underlying22 rfl rfl (H.rd_loc ok (i := 0) rfl rfl)) fun _ => ?_
          refine R.look rfl rfl rfl (Lk.len rfl Tryd.underlying22 rfl) fun _ => ?_
          obtain ⟨e11, hS⟩ := hS
          refine R.look rfl rfl rfl (Lk.rem rfl rfl rfl e11) fun _ => ?_
          refine R.look (v := (.pointer (some ⟨b2, 1, none⟩))) rfl rfl rfl (Lk.fldAddr rfl Tryd.underlying26 rfl rfl T23 rfl rfl rfl) fun _ => ?_
          refine R.look rfl rfl rfl (Lk.load1 (v := (.slice p0_1.a p0_1.l p0_1.c)) rfl Tryd.underlying23 rfl rfl (H.rd_loc ok (i := 2) rfl rfl)) fun _ => ?_
          refine R.look rfl rfl rfl (Lk.move rfl rfl) fun _ => ?_
          obtain ⟨a77, e12, e13, e14, hS⟩ := hS
          refine R.look rfl rfl rfl (Lk.ixAddr rfl Tryd.underlying23 T100 rfl e12 rfl e13 e14) fun _ => ?_
          refine R.look (v := (.pointer (some (Addr.add (Addr.add a77 (Int.toNat v7 * 3)) 2)))) rfl rfl rfl (Lk.ixConst rfl Tryd.underlying100 T5 rfl rfl rfl rfl) fun _ => ?_
          obtain ⟨v79, e15, hS⟩ := hS
          refine R.look rfl rfl rfl (Look.loc ok (Lk.load1 rfl Tryd.underlying5 rfl rfl e15)) fun _ => ?_
          refine R.look rfl rfl rfl (Lk.conv rfl Tryd.underlying5 Tryd.underlying3 rfl) fun _ => ?_
          refine R.look rfl rfl rfl (Lk.rem (j := 4) rfl rfl rfl (by decide)) fun _ => ?_
          refine R.look rfl rfl rfl (Lk.build (cs := [(.int .i64 (Int.tmod (IntKind.wrap .i64 v57) (c5_0_2.l : Int))), (.int .i64 (Int.tmod (IntKind.wrap .i64 v68) (c5_0_2.l : Int))), (.int .i64 (Int.tmod (IntKind.wrap .i64 v79) 4)), (.string ⟨#[]⟩)]) (pl := [(0, 1), (1, 1), (2, 1), (3, 1)]) rfl Tryd.underlying54 T54 (PlacesL.places (.cons T3 (.cons T3 (.cons T3 (.cons T9 PlacesL.nil))))) rfl rfl) fun _ => ?_
          refine R.var (blk := .row ⟨[(.int .i64 0), (.int .i64 0), (.int .i64 0), (.string ⟨#[]⟩)], 4, 54, true, true⟩) ok rfl rfl rfl (Ac.alloc rfl T54) rfl rfl fun b8 ok => ?_
          refine R.effN rfl rfl rfl (Ef.storeLoc (i := 0) (vs := [(.int .i64 (Int.tmod (IntKind.wrap .i64 v57) (c5_0_2.l : Int))), (.int .i64 (Int.tmod (IntKind.wrap .i64 v68) (c5_0_2.l : Int))), (.int .i64 (Int.tmod (IntKind.wrap .i64 v79) 4)), (.string ⟨#[]⟩)]) (cs := [(.int .i64 (Int.tmod (IntKind.wrap .i64 v57) (c5_0_2.l : Int))), (.int .i64 (Int.tmod (IntKind.wrap .i64 v68) (c5_0_2.l : Int))), (.int .i64 (Int.tmod (IntKind.wrap .i64 v79) 4)), (.string ⟨#[]⟩)]) (l' := [(b8, .row ⟨[(.int .i64 (Int.tmod (IntKind.wrap .i64 v57) (c5_0_2.l : Int))), (.int .i64 (Int.tmod (IntKind.wrap .i64 v68) (c5_0_2.l : Int))), (.int .i64 (Int.tmod (IntKind.wrap .i64 v79) 4)), (.string ⟨#[]⟩)], 4, 54, true, true⟩), (b5, .row ⟨[(.slice c5_0_2.a c5_0_2.l c5_0_2.c), (.slice c5_1_2.a c5_1_2.l c5_1_2.c)], 2, 29, true, true⟩), (b4, .row ⟨[(.slice none 0 0), (.slice none 0 0)], 2, 29, true, true⟩), (b2, .row ⟨[(.slice p0_0.a p0_0.l p0_0.c), (.slice p0_1.a p0_1.l p0_1.c), (.slice p0_2.a p0_2.l p0_2.c)], 3, 26, true, true⟩)]) ok rfl T54 rfl rfl rfl rfl rfl rfl rfl rfl rfl rfl fun ok => ⟨noChk, ?_⟩)
          refine R.nil ?_
          refine EvC.join (σ := Int × Int × Int × ByteArray) (fun s => (Env.put (Env.put (Env.put (Env.put (Env.put (Env.put Env.emp 8 (.pointer (some ⟨b8, 0, none⟩))) 7 (.int .i64 v7)) 5 (.pointer (some ⟨b5, 0, none⟩))) 4 (.pointer (some ⟨b4, 0, none⟩))) 2 (.pointer (some ⟨b2, 0, none⟩))) 1 (.int .i64 p1))) (fun s => [(b8, .row ⟨[(.int .i64 s.1), (.int .i64 s.2.1), (.int .i64 s.2.2.1), (.string s.2.2.2)], 4, 54, true, true⟩), (b5, .row ⟨[(.slice c5_0_2.a c5_0_2.l c5_0_2.c), (.slice c5_1_2.a c5_1_2.l c5_1_2.c)], 2, 29, true, true⟩), (b4, .row ⟨[(.slice none 0 0), (.slice none 0 0)], 2, 29, true, true⟩), (b2, .row ⟨[(.slice p0_0.a p0_0.l p0_0.c), (.slice p0_1.a p0_1.l p0_1.c), (.slice p0_2.a p0_2.l p0_2.c)], 3, 26, true, true⟩)]) (fun s h_5 => S11_j2 v7 c5_0_2 c5_1_2 X s.1 s.2.1 s.2.2.1 s.2.2.2 h_5) ?_ (fun Ih_5 hIh_5 => ?_)
          · rintro ⟨c8_0, c8_1, c8_2, c8_3⟩ h_5 ok hS
            replace hS : S11_j2 v7 c5_0_2 c5_1_2 X c8_0 c8_1 c8_2 c8_3 h_5 := hS
            change EvC _ _ _ (Env.put (Env.put (Env.put (Env.put (Env.put (Env.put Env.emp 8 (.pointer (some ⟨b8, 0, none⟩))) 7 (.int .i64 v7)) 5 (.pointer (some ⟨b5, 0, none⟩))) 4 (.pointer (some ⟨b4, 0, none⟩))) 2 (.pointer (some ⟨b2, 0, none⟩))) 1 (.int .i64 p1)) (H.add h_5 [(b8, .row ⟨[(.int .i64 c8_0), (.int .i64 c8_1), (.int .i64 c8_2), (.string c8_3)], 4, 54, true, true⟩), (b5, .row ⟨[(.slice c5_0_2.a c5_0_2.l c5_0_2.c), (.slice c5_1_2.a c5_1_2.l c5_1_2.c)], 2, 29, true, true⟩), (b4, .row ⟨[(.slice none 0 0), (.slice none 0 0)], 2, 29, true, true⟩), (b2, .row ⟨[(.slice p0_0.a p0_0.l p0_0.c), (.slice p0_1.a p0_1.l p0_1.c), (.slice p0_2.a p0_2.l p0_2.c)], 3, 26, true, true⟩)]) _
            unfold S11_j2 at hS
            refine EvC.region [Item.look 0, Item.look 1, Item.look 2, Item.alc 3, Item.eff 4 [], Item.look 5, Item.eff 6 []] (by kernel_rfl) ?_
            refine R.look (v := (.pointer (some ⟨b5, 1, none⟩))) rfl rfl rfl (Lk.fldAddr rfl Tryd.underlying29 rfl rfl T27 rfl rfl rfl) fun _ => ?_
            refine R.look rfl rfl rfl (Lk.load1 (v := (.slice c5_1_2.a c5_1_2.l c5_1_2.c)) rfl Tryd.underlying27 rfl rfl (H.rd_loc ok (i := 1) rfl rfl)) fun _ => ?_
            refine R.look rfl rfl rfl (Lk.loadN (vs := [(.int .i64 c8_0), (.int .i64 c8_1), (.int .i64 c8_2), (.string c8_3)]) rfl Tryd.underlying54 rfl T54 rfl (H.rdn_loc ok (i := 0) rfl rfl rfl)) fun _ => ?_
            refine R.appL (cs := [(.int .i64 c8_0), (.int .i64 c8_1), (.int .i64 c8_2), (.string c8_3)]) ok rfl rfl rfl rfl rfl rfl rfl rfl Tryd.underlying27 T54 rfl (by decide) (by decide) rfl rfl rfl rfl rfl (fun _ => rfl) hS ?_
            intro bb120 v121 h_6 hS ok
            refine ⟨noChk, ?_⟩
            refine R.look (v := (.pointer (some ⟨b5, 1, none⟩))) rfl rfl rfl (Lk.fldAddr rfl Tryd.underlying29 rfl rfl T27 rfl rfl rfl) fun _ => ?_
            refine R.effN rfl rfl rfl (Ef.storeLoc (i := 1) (vs := [(.slice v121.a v121.l v121.c)]) (cs := [(.slice c5_0_2.a c5_0_2.l c5_0_2.c), (.slice v121.a v121.l v121.c)]) (l' := [(b8, .row ⟨[(.int .i64 c8_0), (.int .i64 c8_1), (.int .i64 c8_2), (.string c8_3)], 4, 54, true, true⟩), (b5, .row ⟨[(.slice c5_0_2.a c5_0_2.l c5_0_2.c), (.slice v121.a v121.l v121.c)], 2, 29, true, true⟩), (b4, .row ⟨[(.slice none 0 0), (.slice none 0 0)], 2, 29, true, true⟩), (b2, .row ⟨[(.slice p0_0.a p0_0.l p0_0.c), (.slice p0_1.a p0_1.l p0_1.c), (.slice p0_2.a p0_2.l p0_2.c)], 3, 26, true, true⟩)]) ok rfl T27 rfl rfl rfl rfl rfl rfl rfl rfl rfl rfl fun ok => ⟨noChk, ?_⟩)
            refine R.nil ?_
            refine EvC.region [Item.look 0, Item.look 1, Item.look 2] (by kernel_rfl) ?_
            refine R.look rfl rfl rfl (Lk.move rfl rfl) fun _ => ?_
            refine R.look rfl rfl rfl (Lk.arith rfl rfl rfl rfl) fun _ => ?_
            refine R.look rfl rfl rfl (Lk.assign rfl rfl) fun _ => ?_
            refine R.nil ?_
            exact hX ((IntKind.wrap .i64 (v7 + 1)), c5_0_2, v121) _ _ _ hS (ok.sub (.cons _ (.cons_cons _ (.cons_cons _ (.cons_cons _ List.Sublist.slnil))))) (Env.le_put rfl (Env.le_put rfl (Env.le_put rfl (Env.le_put rfl (Env.le_put rfl (Env.le_emp _)))))) (H.add_sub ok (.cons _ (.cons_cons _ (.cons_cons _ (.cons_cons _ List.Sublist.slnil)))))
          · refine EvC.seq ?_
            refine EvC.region [Item.look 0, Item.look 1, Item.look 2, Item.look 3, Item.look 4] (by kernel_rfl) ?_
            refine R.look rfl rfl rfl (Lk.move rfl rfl) fun _ => ?_
            refine R.look (v := (.pointer (some ⟨b2, 2, none⟩))) rfl rfl rfl (Lk.fldAddr rfl Tryd.underlying26 rfl rfl T24 rfl rfl rfl) fun _ => ?_
            refine R.look rfl rfl rfl (Lk.load1 (v := (.slice p0_2.a p0_2.l p0_2.c)) rfl Tryd.underlying24 rfl rfl (H.rd_loc ok (i := 3) rfl rfl)) fun _ => ?_
            refine R.look rfl rfl rfl (Lk.len rfl Tryd.underlying24 rfl) fun _ => ?_
            refine R.look rfl rfl rfl (Lk.arith rfl rfl rfl rfl) fun _ => ?_
            refine R.nil ?_
            by_cases e16 : (decide (v7 < (p0_2.l : Int))) = true
            · rw [if_pos e16] at hS
              refine EvC.condT rfl e16 ?_
              refine EvC.seq ?_
              refine EvC.region [Item.look 0] (by kernel_rfl) ?_
              refine R.look rfl rfl rfl (Lk.assign rfl rfl) fun _ => ?_
              refine R.nil ?_
              refine EvC.block ?_
              refine EvC.loop ?_
              refine LoopC.lfp (σ := Int × Int × Int × Int × ByteArray) (fun s => (Env.put (Env.put (Env.put (Env.put (Env.put (Env.put (Env.put Env.emp 9 (.int .i64 s.1)) 8 (.pointer (some ⟨b8, 0, none⟩))) 7 (.int .i64 v7)) 5 (.pointer (some ⟨b5, 0, none⟩))) 4 (.pointer (some ⟨b4, 0, none⟩))) 2 (.pointer (some ⟨b2, 0, none⟩))) 1 (.int .i64 p1))) (fun s => [(b8, .row ⟨[(.int .i64 s.2.1), (.int .i64 s.2.2.1), (.int .i64 s.2.2.2.1), (.string s.2.2.2.2)], 4, 54, true, true⟩), (b5, .row ⟨[(.slice c5_0_2.a c5_0_2.l c5_0_2.c), (.slice c5_1_2.a c5_1_2.l c5_1_2.c)], 2, 29, true, true⟩), (b4, .row ⟨[(.slice none 0 0), (.slice none 0 0)], 2, 29, true, true⟩), (b2, .row ⟨[(.slice p0_0.a p0_0.l p0_0.c), (.slice p0_1.a p0_1.l p0_1.c), (.slice p0_2.a p0_2.l p0_2.c)], 3, 26, true, true⟩)]) (fun X_1 hX_1 => ?_) hS (ok.sub (.cons_cons _ (.cons_cons _ (.cons_cons _ (.cons_cons _ List.Sublist.slnil))))) (Env.le_put rfl (Env.le_put rfl (Env.le_put rfl (Env.le_put rfl (Env.le_put rfl (Env.le_put rfl (Env.le_put rfl (Env.le_emp _)))))))) (H.add_sub ok (.cons_cons _ (.cons_cons _ (.cons_cons _ (.cons_cons _ List.Sublist.slnil)))))
              rintro ⟨v9, c8_0_1, c8_1_1, c8_2_1, c8_3_1⟩ h_7 hS ok
              replace hS : S11_l4 p0_2 v7 c5_0_2 c5_1_2 X X_1 v9 c8_0_1 c8_1_1 c8_2_1 c8_3_1 h_7 := hS
              change EvC _ _ _ (Env.put (Env.put (Env.put (Env.put (Env.put (Env.put (Env.put Env.emp 9 (.int .i64 v9)) 8 (.pointer (some ⟨b8, 0, none⟩))) 7 (.int .i64 v7)) 5 (.pointer (some ⟨b5, 0, none⟩))) 4 (.pointer (some ⟨b4, 0, none⟩))) 2 (.pointer (some ⟨b2, 0, none⟩))) 1 (.int .i64 p1)) (H.add h_7 [(b8, .row ⟨[(.int .i64 c8_0_1), (.int .i64 c8_1_1), (.int .i64 c8_2_1), (.string c8_3_1)], 4, 54, true, true⟩), (b5, .row ⟨[(.slice c5_0_2.a c5_0_2.l c5_0_2.c), (.slice c5_1_2.a c5_1_2.l c5_1_2.c)], 2, 29, true, true⟩), (b4, .row ⟨[(.slice none 0 0), (.slice none 0 0)], 2, 29, true, true⟩), (b2, .row ⟨[(.slice p0_0.a p0_0.l p0_0.c), (.slice p0_1.a p0_1.l p0_1.c), (.slice p0_2.a p0_2.l p0_2.c)], 3, 26, true, true⟩)]) _
              unfold S11_l4 at hS
              refine EvC.seq ?_
              refine EvC.seq ?_
              refine EvC.region [Item.look 0, Item.look 1, Item.look 2, Item.look 3, Item.look 4, Item.look 5, Item.look 6, Item.look 7, Item.look 8] (by kernel_rfl) ?_
              refine R.look rfl rfl rfl (Lk.move rfl rfl) fun _ => ?_
              refine R.look (v := (.pointer (some ⟨b2, 2, none⟩))) rfl rfl rfl (Lk.fldAddr rfl Tryd.underlying26 rfl rfl T24 rfl rfl rfl) fun _ => ?_
              refine R.look rfl rfl rfl (Lk.load1 (v := (.slice p0_2.a p0_2.l p0_2.c)) rfl Tryd.underlying24 rfl rfl (H.rd_loc ok (i := 3) rfl rfl)) fun _ => ?_
              refine R.look rfl rfl rfl (Lk.move rfl rfl) fun _ => ?_
              obtain ⟨a92, e17, e18, e19, hS⟩ := hS
              refine R.look rfl rfl rfl (Lk.ixAddr rfl Tryd.underlying24 T5 rfl e17 rfl e18 e19) fun _ => ?_
              obtain ⟨v93, e20, hS⟩ := hS
              refine R.look rfl rfl rfl (Look.loc ok (Lk.load1 rfl Tryd.underlying5 rfl rfl e20)) fun _ => ?_
              refine R.look rfl rfl rfl (Lk.conv rfl Tryd.underlying5 Tryd.underlying3 rfl) fun _ => ?_
              refine R.look rfl rfl rfl (Lk.rem (j := 4) rfl rfl rfl (by decide)) fun _ => ?_
              refine R.look rfl rfl rfl (Lk.arith rfl rfl rfl rfl) fun _ => ?_
              refine R.nil ?_
              by_cases e21 : (decide (v9 < (Int.tmod (IntKind.wrap .i64 v93) 4))) = true
              · rw [if_pos e21] at hS
                refine EvC.condT rfl e21 ?_
                refine EvC.skip ?_
                refine EvC.join (σ := Int × Int × Int × ByteArray) (fun s => (Env.put (Env.put (Env.put (Env.put (Env.put (Env.put (Env.put Env.emp 9 (.int .i64 v9)) 8 (.pointer (some ⟨b8, 0, none⟩))) 7 (.int .i64 v7)) 5 (.pointer (some ⟨b5, 0, none⟩))) 4 (.pointer (some ⟨b4, 0, none⟩))) 2 (.pointer (some ⟨b2, 0, none⟩))) 1 (.int .i64 p1))) (fun s => [(b8, .row ⟨[(.int .i64 s.1), (.int .i64 s.2.1), (.int .i64 s.2.2.1), (.string s.2.2.2)], 4, 54, true, true⟩), (b5, .row ⟨[(.slice c5_0_2.a c5_0_2.l c5_0_2.c), (.slice c5_1_2.a c5_1_2.l c5_1_2.c)], 2, 29, true, true⟩), (b4, .row ⟨[(.slice none 0 0), (.slice none 0 0)], 2, 29, true, true⟩), (b2, .row ⟨[(.slice p0_0.a p0_0.l p0_0.c), (.slice p0_1.a p0_1.l p0_1.c), (.slice p0_2.a p0_2.l p0_2.c)], 3, 26, true, true⟩)]) (fun s h_8 => S11_j3 v9 X_1 s.1 s.2.1 s.2.2.1 s.2.2.2 h_8) ?_ (fun Ih_8 hIh_8 => ?_)
                · rintro ⟨c8_0_2, c8_1_2, c8_2_2, c8_3_2⟩ h_8 ok hS
                  replace hS : S11_j3 v9 X_1 c8_0_2 c8_1_2 c8_2_2 c8_3_2 h_8 := hS
                  change EvC _ _ _ (Env.put (Env.put (Env.put (Env.put (Env.put (Env.put (Env.put Env.emp 9 (.int .i64 v9)) 8 (.pointer (some ⟨b8, 0, none⟩))) 7 (.int .i64 v7)) 5 (.pointer (some ⟨b5, 0, none⟩))) 4 (.pointer (some ⟨b4, 0, none⟩))) 2 (.pointer (some ⟨b2, 0, none⟩))) 1 (.int .i64 p1)) (H.add h_8 [(b8, .row ⟨[(.int .i64 c8_0_2), (.int .i64 c8_1_2), (.int .i64 c8_2_2), (.string c8_3_2)], 4, 54, true, true⟩), (b5, .row ⟨[(.slice c5_0_2.a c5_0_2.l c5_0_2.c), (.slice c5_1_2.a c5_1_2.l c5_1_2.c)], 2, 29, true, true⟩), (b4, .row ⟨[(.slice none 0 0), (.slice none 0 0)], 2, 29, true, true⟩), (b2, .row ⟨[(.slice p0_0.a p0_0.l p0_0.c), (.slice p0_1.a p0_1.l p0_1.c), (.slice p0_2.a p0_2.l p0_2.c)], 3, 26, true, true⟩)]) _
                  unfold S11_j3 at hS
                  refine EvC.region [Item.look 0, Item.look 1, Item.look 2] (by kernel_rfl) ?_
                  refine R.look rfl rfl rfl (Lk.move rfl rfl) fun _ => ?_
                  refine R.look rfl rfl rfl (Lk.arith rfl rfl rfl rfl) fun _ => ?_
                  refine R.look rfl rfl rfl (Lk.assign rfl rfl) fun _ => ?_
                  refine R.nil ?_
                  exact hX_1 ((IntKind.wrap .i64 (v9 + 1)), c8_0_2, c8_1_2, c8_2_2, c8_3_2) _ _ _ hS (ok.sub (.cons_cons _ (.cons_cons _ (.cons_cons _ (.cons_cons _ List.Sublist.slnil))))) (Env.le_put rfl (Env.le_put rfl (Env.le_put rfl (Env.le_put rfl (Env.le_put rfl (Env.le_put rfl (Env.le_put rfl (Env.le_emp _)))))))) (H.add_sub ok (.cons_cons _ (.cons_cons _ (.cons_cons _ (.cons_cons _ List.Sublist.slnil)))))
                · refine EvC.block ?_
                  refine EvC.seq ?_
                  refine EvC.region [Item.look 0, Item.look 1, Item.look 2, Item.look 3, Item.look 4, Item.look 5, Item.look 6, Item.look 7, Item.look 8, Item.look 9] (by kernel_rfl) ?_
                  refine R.look (v := (.pointer (some ⟨b2, 2, none⟩))) rfl rfl rfl (Lk.fldAddr rfl Tryd.underlying26 rfl rfl T24 rfl rfl rfl) fun _ => ?_
                  refine R.look rfl rfl rfl (Lk.load1 (v := (.slice p0_2.a p0_2.l p0_2.c)) rfl Tryd.underlying24 rfl rfl (H.rd_loc ok (i := 3) rfl rfl)) fun _ => ?_
                  refine R.look rfl rfl rfl (Lk.move rfl rfl) fun _ => ?_
                  obtain ⟨a102, e22, e23, e24, hS⟩ := hS
                  refine R.look rfl rfl rfl (Lk.ixAddr rfl Tryd.underlying24 T5 rfl e22 rfl e23 e24) fun _ => ?_
                  obtain ⟨v103, e25, hS⟩ := hS
                  refine R.look rfl rfl rfl (Look.loc ok (Lk.load1 rfl Tryd.underlying5 rfl rfl e25)) fun _ => ?_
                  refine R.look rfl rfl rfl (Lk.move rfl rfl) fun _ => ?_
                  refine R.look rfl rfl rfl (Lk.arith rfl rfl rfl rfl) fun _ => ?_
                  obtain ⟨e26, hS⟩ := hS
                  refine R.look rfl rfl rfl (Lk.shr rfl rfl rfl e26) fun _ => ?_
                  refine R.look rfl rfl rfl (Lk.arith rfl rfl rfl rfl) fun _ => ?_
                  refine R.look rfl rfl rfl (Lk.arith rfl rfl rfl rfl) fun _ => ?_
                  refine R.nil ?_
                  by_cases e27 : ((IntKind.wrap .u8 (((BitVec.ofInt (IntKind.bits .u8) (Int.fdiv v103 (2 ^ (min (Int.toNat (IntKind.wrap .i64 (2 + v9))) (IntKind.bits .u8)))) &&& BitVec.ofInt (IntKind.bits .u8) 1).toNat : Nat) : Int)) == 1) = true
                  · rw [if_pos e27] at hS
                    refine EvC.condT rfl e27 ?_
                    refine EvC.region [Item.look 0, Item.look 1, Item.look 2, Item.look 3, Item.eff 4 []] (by kernel_rfl) ?_
                    refine R.look (v := (.pointer (some ⟨b8, 3, none⟩))) rfl rfl rfl (Lk.fldAddr rfl Tryd.underlying54 rfl rfl T9 rfl rfl rfl) fun _ => ?_
                    refine R.look rfl rfl rfl (Lk.load1 (v := (.string c8_3_1)) rfl Tryd.underlying9 rfl rfl (H.rd_loc ok (i := 0) rfl rfl)) fun _ => ?_
                    obtain ⟨e28, hS⟩ := hS
                    refine R.look rfl rfl rfl (Lk.strAdd rfl rfl rfl e28) fun _ => ?_
                    refine R.look (v := (.pointer (some ⟨b8, 3, none⟩))) rfl rfl rfl (Lk.fldAddr rfl Tryd.underlying54 rfl rfl T9 rfl rfl rfl) fun _ => ?_
                    refine R.effN rfl rfl rfl (Ef.storeLoc (i := 0) (vs := [(.string (c8_3_1 ++ ⟨#[76]⟩))]) (cs := [(.int .i64 c8_0_1), (.int .i64 c8_1_1), (.int .i64 c8_2_1), (.string (c8_3_1 ++ ⟨#[76]⟩))]) (l' := [(b8, .row ⟨[(.int .i64 c8_0_1), (.int .i64 c8_1_1), (.int .i64 c8_2_1), (.string (c8_3_1 ++ ⟨#[76]⟩))], 4, 54, true, true⟩), (b5, .row ⟨[(.slice c5_0_2.a c5_0_2.l c5_0_2.c), (.slice c5_1_2.a c5_1_2.l c5_1_2.c)], 2, 29, true, true⟩), (b4, .row ⟨[(.slice none 0 0), (.slice none 0 0)], 2, 29, true, true⟩), (b2, .row ⟨[(.slice p0_0.a p0_0.l p0_0.c), (.slice p0_1.a p0_1.l p0_1.c), (.slice p0_2.a p0_2.l p0_2.c)], 3, 26, true, true⟩)]) ok rfl T9 rfl rfl rfl rfl rfl rfl rfl rfl rfl rfl fun ok => ⟨noChk, ?_⟩)
                    refine R.nil ?_
                    exact hIh_8 (c8_0_1, c8_1_1, c8_2_1, (c8_3_1 ++ ⟨#[76]⟩)) _ _ _ (Env.le_put rfl (Env.le_put rfl (Env.le_put rfl (Env.le_put rfl (Env.le_put rfl (Env.le_put rfl (Env.le_put rfl (Env.le_emp _)))))))) (ok.sub (.cons_cons _ (.cons_cons _ (.cons_cons _ (.cons_cons _ List.Sublist.slnil))))) (H.add_sub ok (.cons_cons _ (.cons_cons _ (.cons_cons _ (.cons_cons _ List.Sublist.slnil))))) hS
                  · rw [if_neg e27] at hS
                    replace e27 := eq_false_of_ne_true e27
                    refine EvC.condF rfl e27 ?_
                    refine EvC.region [Item.look 0, Item.look 1, Item.look 2, Item.look 3, Item.eff 4 []] (by kernel_rfl) ?_
                    refine R.look (v := (.pointer (some ⟨b8, 3, none⟩))) rfl rfl rfl (Lk.fldAddr rfl Tryd.underlying54 rfl rfl T9 rfl rfl rfl) fun _ => ?_
                    refine R.look rfl rfl rfl (Lk.load1 (v := (.string c8_3_1)) rfl Tryd.underlying9 rfl rfl (H.rd_loc ok (i := 0) rfl rfl)) fun _ => ?_
                    obtain ⟨e29, hS⟩ := hS
                    refine R.look rfl rfl rfl (Lk.strAdd rfl rfl rfl e29) fun _ => ?_
                    refine R.look (v := (.pointer (some ⟨b8, 3, none⟩))) rfl rfl rfl (Lk.fldAddr rfl Tryd.underlying54 rfl rfl T9 rfl rfl rfl) fun _ => ?_
                    refine R.effN rfl rfl rfl (Ef.storeLoc (i := 0) (vs := [(.string (c8_3_1 ++ ⟨#[82]⟩))]) (cs := [(.int .i64 c8_0_1), (.int .i64 c8_1_1), (.int .i64 c8_2_1), (.string (c8_3_1 ++ ⟨#[82]⟩))]) (l' := [(b8, .row ⟨[(.int .i64 c8_0_1), (.int .i64 c8_1_1), (.int .i64 c8_2_1), (.string (c8_3_1 ++ ⟨#[82]⟩))], 4, 54, true, true⟩), (b5, .row ⟨[(.slice c5_0_2.a c5_0_2.l c5_0_2.c), (.slice c5_1_2.a c5_1_2.l c5_1_2.c)], 2, 29, true, true⟩), (b4, .row ⟨[(.slice none 0 0), (.slice none 0 0)], 2, 29, true, true⟩), (b2, .row ⟨[(.slice p0_0.a p0_0.l p0_0.c), (.slice p0_1.a p0_1.l p0_1.c), (.slice p0_2.a p0_2.l p0_2.c)], 3, 26, true, true⟩)]) ok rfl T9 rfl rfl rfl rfl rfl rfl rfl rfl rfl rfl fun ok => ⟨noChk, ?_⟩)
                    refine R.nil ?_
                    exact hIh_8 (c8_0_1, c8_1_1, c8_2_1, (c8_3_1 ++ ⟨#[82]⟩)) _ _ _ (Env.le_put rfl (Env.le_put rfl (Env.le_put rfl (Env.le_put rfl (Env.le_put rfl (Env.le_put rfl (Env.le_put rfl (Env.le_emp _)))))))) (ok.sub (.cons_cons _ (.cons_cons _ (.cons_cons _ (.cons_cons _ List.Sublist.slnil))))) (H.add_sub ok (.cons_cons _ (.cons_cons _ (.cons_cons _ (.cons_cons _ List.Sublist.slnil))))) hS
              · rw [if_neg e21] at hS
                replace e21 := eq_false_of_ne_true e21
                refine EvC.condF rfl e21 ?_
                refine EvC.exit ?_
                exact hIh_5 (c8_0_1, c8_1_1, c8_2_1, c8_3_1) _ _ _ (Env.le_put rfl (Env.le_put rfl (Env.le_put rfl (Env.le_put rfl (Env.le_put rfl (Env.le_put rfl (Env.le_emp _))))))) (ok.sub (.cons_cons _ (.cons_cons _ (.cons_cons _ (.cons_cons _ List.Sublist.slnil))))) (H.add_sub ok (.cons_cons _ (.cons_cons _ (.cons_cons _ (.cons_cons _ List.Sublist.slnil))))) hS
            · rw [if_neg e16] at hS
              replace e16 := eq_false_of_ne_true e16
              refine EvC.condF rfl e16 ?_
              refine EvC.skip ?_
              exact hIh_5 ((Int.tmod (IntKind.wrap .i64 v57) (c5_0_2.l : Int)), (Int.tmod (IntKind.wrap .i64 v68) (c5_0_2.l : Int)), (Int.tmod (IntKind.wrap .i64 v79) 4), ⟨#[]⟩) _ _ _ (Env.le_put rfl (Env.le_put rfl (Env.le_put rfl (Env.le_put rfl (Env.le_put rfl (Env.le_put rfl (Env.le_emp _))))))) (ok.sub (.cons_cons _ (.cons_cons _ (.cons_cons _ (.cons_cons _ List.Sublist.slnil))))) (H.add_sub ok (.cons_cons _ (.cons_cons _ (.cons_cons _ (.cons_cons _ List.Sublist.slnil))))) hS
        · rw [if_neg e1] at hS
          replace e1 := eq_false_of_ne_true e1
          refine EvC.condF rfl e1 ?_
          refine EvC.exit ?_
          exact hIh_2 (c5_0_2, c5_1_2) _ _ _ (Env.le_put rfl (Env.le_put rfl (Env.le_emp _))) (ok.sub (.cons_cons _ (.cons_cons _ (.cons _ List.Sublist.slnil)))) (H.add_sub ok (.cons_cons _ (.cons_cons _ (.cons _ List.Sublist.slnil)))) hS
      · refine EvC.region [Item.look 0, Item.look 1, Item.look 2, Item.look 3, Item.look 4, Item.look 5, Item.look 6, Item.look 7, Item.look 8, Item.look 9, Item.look 10, Item.look 11, Item.look 12, Item.look 13, Item.look 14, Item.look 15, Item.look 16] (by kernel_rfl) ?_
        refine R.look rfl rfl rfl (Lk.move rfl rfl) fun _ => ?_
        refine R.look (v := (.pointer (some ⟨b2, 1, none⟩))) rfl rfl rfl (Lk.fldAddr rfl Tryd.underlying26 rfl rfl T23 rfl rfl rfl) fun _ => ?_
        refine R.look rfl rfl rfl (Lk.load1 (v := (.slice p0_1.a p0_1.l p0_1.c)) rfl Tryd.underlying23 rfl rfl (H.rd_loc ok (i := 2) rfl rfl)) fun _ => ?_
        refine R.look rfl rfl rfl (Lk.len rfl Tryd.underlying23 rfl) fun _ => ?_
        refine R.look rfl rfl rfl (Lk.arith rfl rfl rfl rfl) fun _ => ?_
        refine R.look rfl rfl rfl (Lk.move rfl rfl) fun _ => ?_
        by_cases e30 : (decide (v7 < (p0_1.l : Int))) = true
        · refine R.lookT rfl rfl rfl rfl e30 rfl (Lk.move rfl rfl) fun _ => ?_
          refine R.lookT rfl rfl rfl rfl e30 rfl (Lk.move rfl rfl) fun _ => ?_
          refine R.lookT rfl rfl rfl rfl e30 rfl (Lk.arith rfl rfl rfl rfl) fun _ => ?_
          refine R.lookT rfl rfl rfl rfl e30 rfl (Lk.arith rfl rfl rfl rfl) fun _ => ?_
          refine R.look rfl rfl rfl (Lk.pick rfl rfl (fun _ => rfl) (fun e => by rw [e30] at e; cases e)) fun _ => ?_
          refine R.look rfl rfl rfl (Lk.move rfl rfl) fun _ => ?_
          by_cases e31 : (decide (v7 < (IntKind.wrap .i64 (2 * p1)))) = true
          · refine R.lookT (v := (.pointer (some ⟨b5, 0, none⟩))) rfl rfl rfl rfl e31 rfl (Lk.fldAddr rfl Tryd.underlying29 rfl rfl T22 rfl rfl rfl) fun _ => ?_
            refine R.lookT rfl rfl rfl rfl e31 rfl (Lk.load1 (v := (.slice c5_0_2.a c5_0_2.l c5_0_2.c)) rfl Tryd.underlying22 rfl rfl (H.rd_loc ok (i := 0) rfl rfl)) fun _ => ?_
            refine R.lookT rfl rfl rfl rfl e31 rfl (Lk.len rfl Tryd.underlying22 rfl) fun _ => ?_
            refine R.lookT rfl rfl rfl rfl e31 rfl (Lk.arith rfl rfl rfl rfl) fun _ => ?_
            refine R.look rfl rfl rfl (Lk.pick rfl rfl (fun _ => rfl) (fun e => by rw [e31] at e; cases e)) fun _ => ?_
            refine R.nil ?_
            exact hIh_4 (((decide (v7 < (p0_1.l : Int))) && (decide (v7 < (IntKind.wrap .i64 (2 * p1))))) && (decide ((c5_0_2.l : Int) > 0))) _ _ _ (Env.le_put rfl (Env.le_put rfl (Env.le_put rfl (Env.le_put rfl (Env.le_put rfl (Env.le_put (by rw [e30, e31]; rfl) (Env.le_emp _))))))) (ok.sub (.cons_cons _ (.cons_cons _ (.cons_cons _ List.Sublist.slnil)))) (H.add_sub ok (.cons_cons _ (.cons_cons _ (.cons_cons _ List.Sublist.slnil)))) hS
          · replace e31 := eq_false_of_ne_true e31
            refine R.lookF rfl rfl rfl rfl e31 rfl fun _ => ?_
            refine R.lookF rfl rfl rfl rfl e31 rfl fun _ => ?_
            refine R.lookF rfl rfl rfl rfl e31 rfl fun _ => ?_
            refine R.lookF rfl rfl rfl rfl e31 rfl fun _ => ?_
            refine R.look rfl rfl rfl (Lk.pick rfl rfl (fun e => by rw [e31] at e; cases e) (fun _ => rfl)) fun _ => ?_
            refine R.nil ?_
            exact hIh_4 (((decide (v7 < (p0_1.l : Int))) && (decide (v7 < (IntKind.wrap .i64 (2 * p1))))) && (decide ((c5_0_2.l : Int) > 0))) _ _ _ (Env.le_put rfl (Env.le_put rfl (Env.le_put rfl (Env.le_put rfl (Env.le_put rfl (Env.le_put (by rw [e30, e31]; rfl) (Env.le_emp _))))))) (ok.sub (.cons_cons _ (.cons_cons _ (.cons_cons _ List.Sublist.slnil)))) (H.add_sub ok (.cons_cons _ (.cons_cons _ (.cons_cons _ List.Sublist.slnil)))) hS
        · replace e30 := eq_false_of_ne_true e30
          refine R.lookF rfl rfl rfl rfl e30 rfl fun _ => ?_
          refine R.lookF rfl rfl rfl rfl e30 rfl fun _ => ?_
          refine R.lookF rfl rfl rfl rfl e30 rfl fun _ => ?_
          refine R.lookF rfl rfl rfl rfl e30 rfl fun _ => ?_
          refine R.look rfl rfl rfl (Lk.pick rfl rfl (fun e => by rw [e30] at e; cases e) (fun _ => rfl)) fun _ => ?_
          refine R.look rfl rfl rfl (Lk.move rfl rfl) fun _ => ?_
          refine R.lookF rfl rfl rfl rfl rfl rfl fun _ => ?_
          refine R.lookF rfl rfl rfl rfl rfl rfl fun _ => ?_
          refine R.lookF rfl rfl rfl rfl rfl rfl fun _ => ?_
          refine R.lookF rfl rfl rfl rfl rfl rfl fun _ => ?_
          refine R.look rfl rfl rfl (Lk.pick rfl rfl (fun e => by cases e) (fun _ => rfl)) fun _ => ?_
          refine R.nil ?_
          exact hIh_4 (((decide (v7 < (p0_1.l : Int))) && (decide (v7 < (IntKind.wrap .i64 (2 * p1))))) && (decide ((c5_0_2.l : Int) > 0))) _ _ _ (Env.le_put rfl (Env.le_put rfl (Env.le_put rfl (Env.le_put rfl (Env.le_put rfl (Env.le_put (by rw [e30]; rfl) (Env.le_emp _))))))) (ok.sub (.cons_cons _ (.cons_cons _ (.cons_cons _ List.Sublist.slnil)))) (H.add_sub ok (.cons_cons _ (.cons_cons _ (.cons_cons _ List.Sublist.slnil)))) hS
  · refine EvC.seq ?_
    refine EvC.region [Item.look 0] (by kernel_rfl) ?_
    refine R.look rfl rfl rfl (Lk.assign rfl rfl) fun _ => ?_
    refine R.nil ?_
    refine EvC.block ?_
    refine EvC.loop ?_
    refine LoopC.lfp (σ := Int × Sl × Sl) (fun s => (Env.put (Env.put (Env.put (Env.put (Env.put Env.emp 6 (.int .i64 s.1)) 5 (.pointer (some ⟨b5, 0, none⟩))) 4 (.pointer (some ⟨b4, 0, none⟩))) 2 (.pointer (some ⟨b2, 0, none⟩))) 1 (.int .i64 p1))) (fun s => [(b5, .row ⟨[(.slice s.2.1.a s.2.1.l s.2.1.c), (.slice s.2.2.a s.2.2.l s.2.2.c)], 2, 29, true, true⟩), (b4, .row ⟨[(.slice none 0 0), (.slice none 0 0)], 2, 29, true, true⟩), (b2, .row ⟨[(.slice p0_0.a p0_0.l p0_0.c), (.slice p0_1.a p0_1.l p0_1.c), (.slice p0_2.a p0_2.l p0_2.c)], 3, 26, true, true⟩)]) (fun X_2 hX_2 => ?_) hS (ok.sub (.cons_cons _ (.cons_cons _ (.cons_cons _ List.Sublist.slnil)))) (Env.le_put rfl (Env.le_put rfl (Env.le_put rfl (Env.le_put rfl (Env.le_put rfl (Env.le_emp _)))))) (H.add_sub ok (.cons_cons _ (.cons_cons _ (.cons_cons _ List.Sublist.slnil))))
    rintro ⟨v6, c5_0_3, c5_1_3⟩ h_9 hS ok
    replace hS : S11_l9 p0_0 p0_1 p0_2 p1 K X_2 v6 c5_0_3 c5_1_3 h_9 := hS
    change EvC _ _ _ (Env.put (Env.put (Env.put (Env.put (Env.put Env.emp 6 (.int .i64 v6)) 5 (.pointer (some ⟨b5, 0, none⟩))) 4 (.pointer (some ⟨b4, 0, none⟩))) 2 (.pointer (some ⟨b2, 0, none⟩))) 1 (.int .i64 p1)) (H.add h_9 [(b5, .row ⟨[(.slice c5_0_3.a c5_0_3.l c5_0_3.c), (.slice c5_1_3.a c5_1_3.l c5_1_3.c)], 2, 29, true, true⟩), (b4, .row ⟨[(.slice none 0 0), (.slice none 0 0)], 2, 29, true, true⟩), (b2, .row ⟨[(.slice p0_0.a p0_0.l p0_0.c), (.slice p0_1.a p0_1.l p0_1.c), (.slice p0_2.a p0_2.l p0_2.c)], 3, 26, true, true⟩)]) _
    unfold S11_l9 at hS
    refine EvC.seq ?_
    refine EvC.join (σ := Bool) (fun s => (Env.put (Env.put (Env.put (Env.put (Env.put (Env.put Env.emp 20 (.bool s)) 6 (.int .i64 v6)) 5 (.pointer (some ⟨b5, 0, none⟩))) 4 (.pointer (some ⟨b4, 0, none⟩))) 2 (.pointer (some ⟨b2, 0, none⟩))) 1 (.int .i64 p1))) (fun s => [(b5, .row ⟨[(.slice c5_0_3.a c5_0_3.l c5_0_3.c), (.slice c5_1_3.a c5_1_3.l c5_1_3.c)], 2, 29, true, true⟩), (b4, .row ⟨[(.slice none 0 0), (.slice none 0 0)], 2, 29, true, true⟩), (b2, .row ⟨[(.slice p0_0.a p0_0.l p0_0.c), (.slice p0_1.a p0_1.l p0_1.c), (.slice p0_2.a p0_2.l p0_2.c)], 3, 26, true, true⟩)]) (fun s h_10 => S11_j8 p0_0 p0_1 p0_2 p1 K v6 c5_0_3 c5_1_3 X_2 s h_10) ?_ (fun Ih_10 hIh_10 => ?_)
    · intro v20 h_10 ok hS
      replace hS : S11_j8 p0_0 p0_1 p0_2 p1 K v6 c5_0_3 c5_1_3 X_2 v20 h_10 := hS
      change EvC _ _ _ (Env.put (Env.put (Env.put (Env.put (Env.put (Env.put Env.emp 20 (.bool v20)) 6 (.int .i64 v6)) 5 (.pointer (some ⟨b5, 0, none⟩))) 4 (.pointer (some ⟨b4, 0, none⟩))) 2 (.pointer (some ⟨b2, 0, none⟩))) 1 (.int .i64 p1)) (H.add h_10 [(b5, .row ⟨[(.slice c5_0_3.a c5_0_3.l c5_0_3.c), (.slice c5_1_3.a c5_1_3.l c5_1_3.c)], 2, 29, true, true⟩), (b4, .row ⟨[(.slice none 0 0), (.slice none 0 0)], 2, 29, true, true⟩), (b2, .row ⟨[(.slice p0_0.a p0_0.l p0_0.c), (.slice p0_1.a p0_1.l p0_1.c), (.slice p0_2.a p0_2.l p0_2.c)], 3, 26, true, true⟩)]) _
      unfold S11_j8 at hS
      by_cases e32 : v20 = true
      · rw [if_pos e32] at hS
        refine EvC.condT rfl e32 ?_
        refine EvC.skip ?_
        refine EvC.seq ?_
        refine EvC.block ?_
        refine EvC.draw [0, 1, 0, 4, 0, 28, 60, 124, 255, 511, 1023] [Item.look 0, Item.look 1, Item.look 2, Item.look 3, Item.look 4, Item.look 5, Item.look 6, Item.alc 7, Item.eff 8 [], Item.look 9, Item.eff 10 []] MO (by kernel_rfl) ?_
        refine R.look (v := (.pointer (some ⟨b5, 0, none⟩))) rfl rfl rfl (Lk.fldAddr rfl Tryd.underlying29 rfl rfl T22 rfl rfl rfl) fun _ => ?_
        refine R.look rfl rfl rfl (Lk.load1 (v := (.slice c5_0_3.a c5_0_3.l c5_0_3.c)) rfl Tryd.underlying22 rfl rfl (H.rd_loc ok (i := 0) rfl rfl)) fun _ => ?_
        refine R.look (v := (.pointer (some ⟨b2, 0, none⟩))) rfl rfl rfl (Lk.fldAddr rfl Tryd.underlying26 rfl rfl T22 rfl rfl rfl) fun _ => ?_
        refine R.look rfl rfl rfl (Lk.load1 (v := (.slice p0_0.a p0_0.l p0_0.c)) rfl Tryd.underlying22 rfl rfl (H.rd_loc ok (i := 2) rfl rfl)) fun _ => ?_
        refine R.look rfl rfl rfl (Lk.move rfl rfl) fun _ => ?_
        obtain ⟨a28, e33, e34, e35, hS⟩ := hS
        refine R.look rfl rfl rfl (Lk.ixAddr rfl Tryd.underlying22 T4 rfl e33 rfl e34 e35) fun _ => ?_
        obtain ⟨v29, e36, hS⟩ := hS
        refine R.look rfl rfl rfl (Look.loc ok (Lk.load1 rfl Tryd.underlying4 rfl rfl e36)) fun _ => ?_
        refine R.appL (cs := [(.bool v29)]) ok rfl rfl rfl rfl rfl rfl rfl rfl Tryd.underlying22 T4 rfl (by decide) (by decide) rfl rfl rfl rfl rfl (fun _ => rfl) hS ?_
        intro bb30 v31 h_11 hS ok
        refine ⟨noChk, ?_⟩
        refine R.look (v := (.pointer (some ⟨b5, 0, none⟩))) rfl rfl rfl (Lk.fldAddr rfl Tryd.underlying29 rfl rfl T22 rfl rfl rfl) fun _ => ?_
        refine R.effN rfl rfl rfl (Ef.storeLoc (i := 0) (vs := [(.slice v31.a v31.l v31.c)]) (cs := [(.slice v31.a v31.l v31.c), (.slice c5_1_3.a c5_1_3.l c5_1_3.c)]) (l' := [(b5, .row ⟨[(.slice v31.a v31.l v31.c), (.slice c5_1_3.a c5_1_3.l c5_1_3.c)], 2, 29, true, true⟩), (b4, .row ⟨[(.slice none 0 0), (.slice none 0 0)], 2, 29, true, true⟩), (b2, .row ⟨[(.slice p0_0.a p0_0.l p0_0.c), (.slice p0_1.a p0_1.l p0_1.c), (.slice p0_2.a p0_2.l p0_2.c)], 3, 26, true, true⟩)]) ok rfl T22 rfl rfl rfl rfl rfl rfl rfl rfl rfl rfl fun ok => ⟨noChk, ?_⟩)
        refine R.nil ?_
        refine EvC.region [Item.look 0, Item.look 1, Item.look 2] (by kernel_rfl) ?_
        refine R.look rfl rfl rfl (Lk.move rfl rfl) fun _ => ?_
        refine R.look rfl rfl rfl (Lk.arith rfl rfl rfl rfl) fun _ => ?_
        refine R.look rfl rfl rfl (Lk.assign rfl rfl) fun _ => ?_
        refine R.nil ?_
        exact hX_2 ((IntKind.wrap .i64 (v6 + 1)), v31, c5_1_3) _ _ _ hS (ok.sub (.cons_cons _ (.cons_cons _ (.cons_cons _ List.Sublist.slnil)))) (Env.le_put rfl (Env.le_put rfl (Env.le_put rfl (Env.le_put rfl (Env.le_put rfl (Env.le_emp _)))))) (H.add_sub ok (.cons_cons _ (.cons_cons _ (.cons_cons _ List.Sublist.slnil))))
      · rw [if_neg e32] at hS
        replace e32 := eq_false_of_ne_true e32
        refine EvC.condF rfl e32 ?_
        refine EvC.exit ?_
        exact hIh_1 (c5_0_3, c5_1_3) _ _ _ (Env.le_put rfl (Env.le_put rfl (Env.le_put rfl (Env.le_put rfl (Env.le_emp _))))) (ok.sub (.cons_cons _ (.cons_cons _ (.cons_cons _ List.Sublist.slnil)))) (H.add_sub ok (.cons_cons _ (.cons_cons _ (.cons_cons _ List.Sublist.slnil)))) hS
    · refine EvC.region [Item.look 0, Item.look 1, Item.look 2, Item.look 3, Item.look 4, Item.look 5, Item.look 6, Item.look 7, Item.look 8, Item.look 9] (by kernel_rfl) ?_
      refine R.look rfl rfl rfl (Lk.move rfl rfl) fun _ => ?_
      refine R.look (v := (.pointer (some ⟨b2, 0, none⟩))) rfl rfl rfl (Lk.fldAddr rfl Tryd.underlying26 rfl rfl T22 rfl rfl rfl) fun _ => ?_
      refine R.look rfl rfl rfl (Lk.load1 (v := (.slice p0_0.a p0_0.l p0_0.c)) rfl Tryd.underlying22 rfl rfl (H.rd_loc ok (i := 2) rfl rfl)) fun _ => ?_
      refine R.look rfl rfl rfl (Lk.len rfl Tryd.underlying22 rfl) fun _ => ?_
      refine R.look rfl rfl rfl (Lk.arith rfl rfl rfl rfl) fun _ => ?_
      refine R.look rfl rfl rfl (Lk.move rfl rfl) fun _ => ?_
      by_cases e37 : (decide (v6 < (p0_0.l : Int))) = true
      · refine R.lookT rfl rfl rfl rfl e37 rfl (Lk.move rfl rfl) fun _ => ?_
        refine R.lookT rfl rfl rfl rfl e37 rfl (Lk.move rfl rfl) fun _ => ?_
        refine R.lookT rfl rfl rfl rfl e37 rfl (Lk.arith rfl rfl rfl rfl) fun _ => ?_
        refine R.look rfl rfl rfl (Lk.pick rfl rfl (fun _ => rfl) (fun e => by rw [e37] at e; cases e)) fun _ => ?_
        refine R.nil ?_
        exact hIh_10 ((decide (v6 < (p0_0.l : Int))) && (decide (v6 < p1))) _ _ _ (Env.le_put rfl (Env.le_put rfl (Env.le_put rfl (Env.le_put rfl (Env.le_put rfl (Env.le_put (by rw [e37]; rfl) (Env.le_emp _))))))) (ok.sub (.cons_cons _ (.cons_cons _ (.cons_cons _ List.Sublist.slnil)))) (H.add_sub ok (.cons_cons _ (.cons_cons _ (.cons_cons _ List.Sublist.slnil)))) hS
      · replace e37 := eq_false_of_ne_true e37
        refine R.lookF rfl rfl rfl rfl e37 rfl fun _ => ?_
        refine R.lookF rfl rfl rfl rfl e37 rfl fun _ => ?_
        refine R.lookF rfl rfl rfl rfl e37 rfl fun _ => ?_
        refine R.look rfl rfl rfl (Lk.pick rfl rfl (fun e => by rw [e37] at e; cases e) (fun _ => rfl)) fun _ => ?_
        refine R.nil ?_
        exact hIh_10 ((decide (v6 < (p0_0.l : Int))) && (decide (v6 < p1))) _ _ _ (Env.le_put rfl (Env.le_put rfl (Env.le_put rfl (Env.le_put rfl (Env.le_put rfl (Env.le_put (by rw [e37]; rfl) (Env.le_emp _))))))) (ok.sub (.cons_cons _ (.cons_cons _ (.cons_cons _ List.Sublist.slnil)))) (H.add_sub ok (.cons_cons _ (.cons_cons _ (.cons_cons _ List.Sublist.slnil)))) hS
end Go.Proofs.YtimadnngfhbfiaaDoor
end

section
/- PRINTED by wip/gen.py: the machine's call of muntin/compass.Good does what S54 says. -/
namespace Go.Proofs.YtimadnngfhbfiaaDoor
open Go Go.Mu
set_option maxHeartbeats 4000000
set_option maxRecDepth 100000
theorem f54_ok {p0 : Int} {h : H} {K : Bool → H → Prop} (hS : S54 p0 h K) : ACall Tryd.prog 54 ([(.int .i64 p0)] : List Value).toArray h (fun r h' => ∃ r0 : Bool, r = tup [(.bool r0)] ∧ K r0 h') := by
  refine ACall.enter (fn := Tryd.f54) Tryd.func54 rfl (Nat.le_of_ble_eq_true rfl) ?_
  unfold S54 at hS
  have ok := Lok.nil h
  change EvC _ _ _ _ (H.add h []) _
  refine EvC.seq ?_
  refine EvC.region [Item.look 0] (by kernel_rfl) ?_
  refine R.look rfl rfl rfl (Lk.assign rfl rfl) fun _ => ?_
  refine R.nil ?_
  refine EvC.join (σ := Bool) (fun s => (Env.put Env.emp 2 (.bool s))) (fun s => []) (fun s h_1 => S54_j1 K s h_1) ?_ (fun Ih_1 hIh_1 => ?_)
  · intro v2 h_1 ok hS
    replace hS : S54_j1 K v2 h_1 := hS
    change EvC _ _ _ (Env.put Env.emp 2 (.bool v2)) (H.add h_1 []) _
    unfold S54_j1 at hS
    refine EvC.ret ?_
    exact ⟨.inr rfl, _, _, (.cons (.tmp rfl) .nil), ok.le, _, rfl, hS⟩
  · refine EvC.region [Item.look 0, Item.look 1, Item.look 2, Item.look 3, Item.look 4, Item.look 5, Item.look 6] (by kernel_rfl) ?_
    refine R.look rfl rfl rfl (Lk.move rfl rfl) fun _ => ?_
    refine R.look rfl rfl rfl (Lk.arith rfl rfl rfl rfl) fun _ => ?_
    refine R.look rfl rfl rfl (Lk.move rfl rfl) fun _ => ?_
    by_cases e1 : (decide (p0 ≥ 0)) = true
    · refine R.lookT rfl rfl rfl rfl e1 rfl (Lk.move rfl rfl) fun _ => ?_
      refine R.lookT rfl rfl rfl rfl e1 rfl (Lk.arith rfl rfl rfl rfl) fun _ => ?_
      refine R.look rfl rfl rfl (Lk.pick rfl rfl (fun _ => rfl) (fun e => by rw [e1] at e; cases e)) fun _ => ?_
      refine R.look rfl rfl rfl (Lk.assign rfl rfl) fun _ => ?_
      refine R.nil ?_
      exact hIh_1 ((decide (p0 ≥ 0)) && (decide (p0 ≤ 3))) _ _ _ (Env.le_put (by rw [e1]; rfl) (Env.le_emp _)) (ok.sub List.Sublist.slnil) (H.add_sub ok List.Sublist.slnil) hS
    · replace e1 := eq_false_of_ne_true e1
      refine R.lookF rfl rfl rfl rfl e1 rfl fun _ => ?_
      refine R.lookF rfl rfl rfl rfl e1 rfl fun _ => ?_
      refine R.look rfl rfl rfl (Lk.pick rfl rfl (fun e => by rw [e1] at e; cases e) (fun _ => rfl)) fun _ => ?_
      refine R.look rfl rfl rfl (Lk.assign rfl rfl) fun _ => ?_
      refine R.nil ?_
      exact hIh_1 ((decide (p0 ≥ 0)) && (decide (p0 ≤ 3))) _ _ _ (Env.le_put (by rw [e1]; rfl) (Env.le_emp _)) (ok.sub List.Sublist.slnil) (H.add_sub ok List.Sublist.slnil) hS
end Go.Proofs.YtimadnngfhbfiaaDoor
end

section
/- PRINTED by wip/gen.py: the machine's call of unicode/utf8.decodeRuneInStringSlow does what S107 says. -/
namespace Go.Proofs.YtimadnngfhbfiaaDoor
open Go Go.Mu
set_option maxHeartbeats 4000000
set_option maxRecDepth 100000
theorem f107_ok {p0 : ByteArray} {h : H} {K : Int → Int → H → Prop} (hS : S107 p0 h K) : ACall Tryd.prog 107 ([(.string p0)] : List Value).toArray h (fun r h' => ∃ r0 : Int, ∃ r1 : Int, r = tup [(.int .i32 r0), (.int .i64 r1)] ∧ K r0 r1 h') := by
  refine ACall.enter (fn := Tryd.f107) Tryd.func107 rfl (Nat.le_of_ble_eq_true rfl) ?_
  unfold S107 at hS
  have ok := Lok.nil h
  change EvC _ _ _ _ (H.add h []) _
  refine EvC.seq ?_
  refine EvC.region [Item.look 0, Item.look 1] (by kernel_rfl) ?_
  refine R.look rfl rfl rfl (Lk.assign rfl rfl) fun _ => ?_
  refine R.look rfl rfl rfl (Lk.assign rfl rfl) fun _ => ?_
  refine R.nil ?_
  refine EvC.seq ?_
  refine EvC.region [Item.look 0, Item.look 1, Item.look 2] (by kernel_rfl) ?_
  refine R.look rfl rfl rfl (Lk.move rfl rfl) fun _ => ?_
  refine R.look rfl rfl rfl (Lk.lenS rfl Tryd.underlying9 rfl) fun _ => ?_
  refine R.look rfl rfl rfl (Lk.assign rfl rfl) fun _ => ?_
  refine R.nil ?_
  refine EvC.seq ?_
  refine EvC.seq ?_
  refine EvC.region [Item.look 0, Item.look 1] (by kernel_rfl) ?_
  refine R.look rfl rfl rfl (Lk.move rfl rfl) fun _ => ?_
  refine R.look rfl rfl rfl (Lk.arith rfl rfl rfl rfl) fun _ => ?_
  refine R.nil ?_
  by_cases e1 : (decide ((ByteArray.size p0 : Int) < 1)) = true
  · rw [if_pos e1] at hS
    refine EvC.condT rfl e1 ?_
    refine EvC.seq ?_
    refine EvC.region [Item.look 0, Item.look 1] (by kernel_rfl) ?_
    refine R.look rfl rfl rfl (Lk.assign rfl rfl) fun _ => ?_
    refine R.look rfl rfl rfl (Lk.assign rfl rfl) fun _ => ?_
    refine R.nil ?_
    refine EvC.ret ?_
    exact ⟨.inr rfl, _, _, (.cons (.tmp rfl) (.cons (.tmp rfl) .nil)), ok.le, _, _, rfl, hS⟩
  · rw [if_neg e1] at hS
    replace e1 := eq_false_of_ne_true e1
    refine EvC.condF rfl e1 ?_
    refine EvC.skip ?_
    refine EvC.seq ?_
    refine EvC.region [Item.look 0, Item.look 1, Item.look 2] (by kernel_rfl) ?_
    refine R.look rfl rfl rfl (Lk.move rfl rfl) fun _ => ?_
    obtain ⟨e2, e3, hS⟩ := hS
    refine R.look rfl rfl rfl (Lk.byte rfl Tryd.underlying9 rfl rfl e2 e3) fun _ => ?_
    refine R.look rfl rfl rfl (Lk.assign rfl rfl) fun _ => ?_
    refine R.nil ?_
    refine EvC.seq ?_
    refine EvC.region [Item.look 0, Item.look 1, Item.look 2, Item.look 3] (by kernel_rfl) ?_
    refine R.look rfl rfl rfl (Lk.move rfl rfl) fun _ => ?_
    exact hS.elim
end Go.Proofs.YtimadnngfhbfiaaDoor
end

section
/- PRINTED by wip/gen.py: the machine's call of unicode/utf8.DecodeRuneInString does what S99 says. -/
namespace Go.Proofs.YtimadnngfhbfiaaDoor
open Go Go.Mu
set_option maxHeartbeats 4000000
set_option maxRecDepth 100000
theorem f99_ok {p0 : ByteArray} {h : H} {K : Int → Int → H → Prop} (hS : S99 p0 h K) : ACall Tryd.prog 99 ([(.string p0)] : List Value).toArray h (fun r h' => ∃ r0 : Int, ∃ r1 : Int, r = tup [(.int .i32 r0), (.int .i64 r1)] ∧ K r0 r1 h') := by
  refine ACall.enter (fn := Tryd.f99) Tryd.func99 rfl (Nat.le_of_ble_eq_true rfl) ?_
  unfold S99 at hS
  have ok := Lok.nil h
  change EvC _ _ _ _ (H.add h []) _
  refine EvC.seq ?_
  refine EvC.region [Item.look 0, Item.look 1] (by kernel_rfl) ?_
  refine R.look rfl rfl rfl (Lk.assign rfl rfl) fun _ => ?_
  refine R.look rfl rfl rfl (Lk.assign rfl rfl) fun _ => ?_
  refine R.nil ?_
  refine EvC.seq ?_
  refine EvC.join (σ := Bool) (fun s => (Env.put (Env.put Env.emp 10 (.bool s)) 0 (.string p0))) (fun s => []) (fun s h_1 => S99_j1 p0 K s h_1) ?_ (fun Ih_1 hIh_1 => ?_)
  · intro v10 h_1 ok hS
    replace hS : S99_j1 p0 K v10 h_1 := hS
    change EvC _ _ _ (Env.put (Env.put Env.emp 10 (.bool v10)) 0 (.string p0)) (H.add h_1 []) _
    unfold S99_j1 at hS
    by_cases e1 : v10 = true
    · rw [if_pos e1] at hS
      refine EvC.condT rfl e1 ?_
      refine EvC.seq ?_
      refine EvC.region [Item.look 0, Item.look 1, Item.look 2, Item.look 3, Item.look 4] (by kernel_rfl) ?_
      refine R.look rfl rfl rfl (Lk.move rfl rfl) fun _ => ?_
      obtain ⟨e2, e3, hS⟩ := hS
      refine R.look rfl rfl rfl (Lk.byte rfl Tryd.underlying9 rfl rfl e2 e3) fun _ => ?_
      refine R.look rfl rfl rfl (Lk.conv rfl Tryd.underlying5 Tryd.underlying21 rfl) fun _ => ?_
      refine R.look rfl rfl rfl (Lk.assign rfl rfl) fun _ => ?_
      refine R.look rfl rfl rfl (Lk.assign rfl rfl) fun _ => ?_
      refine R.nil ?_
      refine EvC.ret ?_
      exact ⟨.inr rfl, _, _, (.cons (.tmp rfl) (.cons (.tmp rfl) .nil)), ok.le, _, _, rfl, hS⟩
    · rw [if_neg e1] at hS
      replace e1 := eq_false_of_ne_true e1
      refine EvC.condF rfl e1 ?_
      refine EvC.region [Item.look 0, Item.eff 1 [], Item.look 2, Item.look 3, Item.look 4, Item.look 5, Item.look 6] (by kernel_rfl) ?_
      refine R.look rfl rfl rfl (Lk.move rfl rfl) fun _ => ?_
      refine R.eff rfl rfl rfl (Eff.loc ok (Ef.call rfl CB107 rfl ((f107_ok hS).mono ?_)))
      rintro _ h_2 ⟨v16_0, v16_1, rfl, hS⟩
      refine fun ok => ⟨noChk, ?_⟩
      refine R.look rfl rfl rfl (Lk.move rfl rfl) fun _ => ?_
      refine R.look rfl rfl rfl (Lk.extract rfl rfl rfl) fun _ => ?_
      refine R.look rfl rfl rfl (Lk.extract rfl rfl rfl) fun _ => ?_
      refine R.look rfl rfl rfl (Lk.assign rfl rfl) fun _ => ?_
      refine R.look rfl rfl rfl (Lk.assign rfl rfl) fun _ => ?_
      refine R.nil ?_
      refine EvC.ret ?_
      exact ⟨.inr rfl, _, _, (.cons (.tmp rfl) (.cons (.tmp rfl) .nil)), ok.le, _, _, rfl, hS⟩
  · refine EvC.region [Item.look 0, Item.look 1, Item.look 2, Item.look 3, Item.look 4, Item.look 5, Item.look 6] (by kernel_rfl) ?_
    refine R.look rfl rfl rfl (Lk.move rfl rfl) fun _ => ?_
    refine R.look rfl rfl rfl (Lk.strNe rfl rfl rfl) fun _ => ?_
    refine R.look rfl rfl rfl (Lk.move rfl rfl) fun _ => ?_
    by_cases e4 : (!(ByteArray.toList p0 == ByteArray.toList ⟨#[]⟩)) = true
    · rw [if_pos e4] at hS
      refine R.lookT rfl rfl rfl rfl e4 rfl (Lk.move rfl rfl) fun _ => ?_
      obtain ⟨e5, e6, hS⟩ := hS
      refine R.lookT rfl rfl rfl rfl e4 rfl (Lk.byte rfl Tryd.underlying9 rfl rfl e5 e6) fun _ => ?_
      refine R.lookT rfl rfl rfl rfl e4 rfl (Lk.arith rfl rfl rfl rfl) fun _ => ?_
      refine R.look rfl rfl rfl (Lk.pick rfl rfl (fun _ => rfl) (fun e => by rw [e4] at e; cases e)) fun _ => ?_
      refine R.nil ?_
      exact hIh_1 (decide ((byteAt p0 0) < 128)) _ _ _ (Env.le_put rfl (Env.le_put rfl (Env.le_emp _))) (ok.sub List.Sublist.slnil) (H.add_sub ok List.Sublist.slnil) hS
    · rw [if_neg e4] at hS
      replace e4 := eq_false_of_ne_true e4
      refine R.lookF rfl rfl rfl rfl e4 rfl fun _ => ?_
      refine R.lookF rfl rfl rfl rfl e4 rfl fun _ => ?_
      refine R.lookF rfl rfl rfl rfl e4 rfl fun _ => ?_
      refine R.look rfl rfl rfl (Lk.pick rfl rfl (fun e => by rw [e4] at e; cases e) (fun _ => rfl)) fun _ => ?_
      refine R.nil ?_
      exact hIh_1 false _ _ _ (Env.le_put rfl (Env.le_put rfl (Env.le_emp _))) (ok.sub List.Sublist.slnil) (H.add_sub ok List.Sublist.slnil) hS
end Go.Proofs.YtimadnngfhbfiaaDoor
end

section
/- PRINTED by wip/gen.py: the machine's call of unicode/utf8.RuneStart does what S109 says. -/
namespace Go.Proofs.YtimadnngfhbfiaaDoor
open Go Go.Mu
set_option maxHeartbeats 4000000
set_option maxRecDepth 100000
theorem f109_ok {p0 : Int} {h : H} {K : Bool → H → Prop} (hS : S109 p0 h K) : ACall Tryd.prog 109 ([(.int .u8 p0)] : List Value).toArray h (fun r h' => ∃ r0 : Bool, r = tup [(.bool r0)] ∧ K r0 h') := by
  refine ACall.enter (fn := Tryd.f109) Tryd.func109 rfl (Nat.le_of_ble_eq_true rfl) ?_
  unfold S109 at hS
  have ok := Lok.nil h
  change EvC _ _ _ _ (H.add h []) _
  refine EvC.seq ?_
  refine EvC.region [Item.look 0] (by kernel_rfl) ?_
  refine R.look rfl rfl rfl (Lk.assign rfl rfl) fun _ => ?_
  refine R.nil ?_
  refine EvC.seq ?_
  refine EvC.region [Item.look 0, Item.look 1, Item.look 2, Item.look 3] (by kernel_rfl) ?_
  refine R.look rfl rfl rfl (Lk.move rfl rfl) fun _ => ?_
  refine R.look rfl rfl rfl (Lk.arith rfl rfl rfl rfl) fun _ => ?_
  refine R.look rfl rfl rfl (Lk.arith rfl rfl rfl rfl) fun _ => ?_
  refine R.look rfl rfl rfl (Lk.assign rfl rfl) fun _ => ?_
  refine R.nil ?_
  refine EvC.ret ?_
  exact ⟨.inr rfl, _, _, (.cons (.tmp rfl) .nil), ok.le, _, rfl, hS⟩
end Go.Proofs.YtimadnngfhbfiaaDoor
end

section
/- PRINTED by wip/gen.py: the machine's call of unicode/utf8.DecodeLastRuneInString does what S101 says. -/
namespace Go.Proofs.YtimadnngfhbfiaaDoor
open Go Go.Mu
set_option maxHeartbeats 4000000
set_option maxRecDepth 100000
theorem f101_ok {p0 : ByteArray} {h : H} {K : Int → Int → H → Prop} (hS : S101 p0 h K) : ACall Tryd.prog 101 ([(.string p0)] : List Value).toArray h (fun r h' => ∃ r0 : Int, ∃ r1 : Int, r = tup [(.int .i32 r0), (.int .i64 r1)] ∧ K r0 r1 h') := by
  refine ACall.enter (fn := Tryd.f101) Tryd.func101 rfl (Nat.le_of_ble_eq_true rfl) ?_
  unfold S101 at hS
  have ok := Lok.nil h
  change EvC _ _ _ _ (H.add h []) _
  refine EvC.seq ?_
  refine EvC.region [Item.look 0, Item.look 1] (by kernel_rfl) ?_
  refine R.look rfl rfl rfl (Lk.assign rfl rfl) fun _ => ?_
  refine R.look rfl rfl rfl (Lk.assign rfl rfl) fun _ => ?_
  refine R.nil ?_
  refine EvC.seq ?_
  refine EvC.region [Item.look 0, Item.look 1, Item.look 2] (by kernel_rfl) ?_
  refine R.look rfl rfl rfl (Lk.move rfl rfl) fun _ => ?_
  refine R.look rfl rfl rfl (Lk.lenS rfl Tryd.underlying9 rfl) fun _ => ?_
  refine R.look rfl rfl rfl (Lk.assign rfl rfl) fun _ => ?_
  refine R.nil ?_
  refine EvC.seq ?_
  refine EvC.seq ?_
  refine EvC.region [Item.look 0, Item.look 1] (by kernel_rfl) ?_
  refine R.look rfl rfl rfl (Lk.move rfl rfl) fun _ => ?_
  refine R.look rfl rfl rfl (Lk.arith rfl rfl rfl rfl) fun _ => ?_
  refine R.nil ?_
  by_cases e1 : ((ByteArray.size p0 : Int) == 0) = true
  · rw [if_pos e1] at hS
    refine EvC.condT rfl e1 ?_
    refine EvC.seq ?_
    refine EvC.region [Item.look 0, Item.look 1] (by kernel_rfl) ?_
    refine R.look rfl rfl rfl (Lk.assign rfl rfl) fun _ => ?_
    refine R.look rfl rfl rfl (Lk.assign rfl rfl) fun _ => ?_
    refine R.nil ?_
    refine EvC.ret ?_
    exact ⟨.inr rfl, _, _, (.cons (.tmp rfl) (.cons (.tmp rfl) .nil)), ok.le, _, _, rfl, hS⟩
  · rw [if_neg e1] at hS
    replace e1 := eq_false_of_ne_true e1
    refine EvC.condF rfl e1 ?_
    refine EvC.skip ?_
    refine EvC.seq ?_
    refine EvC.region [Item.look 0, Item.look 1, Item.look 2] (by kernel_rfl) ?_
    refine R.look rfl rfl rfl (Lk.move rfl rfl) fun _ => ?_
    refine R.look rfl rfl rfl (Lk.arith rfl rfl rfl rfl) fun _ => ?_
    refine R.look rfl rfl rfl (Lk.assign rfl rfl) fun _ => ?_
    refine R.nil ?_
    refine EvC.seq ?_
    refine EvC.region [Item.look 0, Item.look 1, Item.look 2, Item.look 3, Item.look 4] (by kernel_rfl) ?_
    refine R.look rfl rfl rfl (Lk.move rfl rfl) fun _ => ?_
    refine R.look rfl rfl rfl (Lk.move rfl rfl) fun _ => ?_
    obtain ⟨e2, e3, hS⟩ := hS
    refine R.look rfl rfl rfl (Lk.byte rfl Tryd.underlying9 rfl rfl e2 e3) fun _ => ?_
    refine R.look rfl rfl rfl (Lk.conv rfl Tryd.underlying5 Tryd.underlying21 rfl) fun _ => ?_
    refine R.look rfl rfl rfl (Lk.assign rfl rfl) fun _ => ?_
    refine R.nil ?_
    refine EvC.seq ?_
    refine EvC.seq ?_
    refine EvC.region [Item.look 0, Item.look 1] (by kernel_rfl) ?_
    refine R.look rfl rfl rfl (Lk.move rfl rfl) fun _ => ?_
    refine R.look rfl rfl rfl (Lk.arith rfl rfl rfl rfl) fun _ => ?_
    refine R.nil ?_
    by_cases e4 : (decide ((IntKind.wrap .i32 (byteAt p0 (IntKind.wrap .i64 ((ByteArray.size p0 : Int) - 1)))) < 128)) = true
    · rw [if_pos e4] at hS
      refine EvC.condT rfl e4 ?_
      refine EvC.seq ?_
      refine EvC.region [Item.look 0, Item.look 1, Item.look 2] (by kernel_rfl) ?_
      refine R.look rfl rfl rfl (Lk.move rfl rfl) fun _ => ?_
      refine R.look rfl rfl rfl (Lk.assign rfl rfl) fun _ => ?_
      refine R.look rfl rfl rfl (Lk.assign rfl rfl) fun _ => ?_
      refine R.nil ?_
      refine EvC.ret ?_
      exact ⟨.inr rfl, _, _, (.cons (.tmp rfl) (.cons (.tmp rfl) .nil)), ok.le, _, _, rfl, hS⟩
    · rw [if_neg e4] at hS
      replace e4 := eq_false_of_ne_true e4
      refine EvC.condF rfl e4 ?_
      refine EvC.skip ?_
      refine EvC.seq ?_
      refine EvC.region [Item.look 0, Item.look 1, Item.look 2, Item.look 3] (by kernel_rfl) ?_
      refine R.look rfl rfl rfl (Lk.move rfl rfl) fun _ => ?_
      refine R.look rfl rfl rfl (Lk.arith rfl rfl rfl rfl) fun _ => ?_
      refine R.look rfl rfl rfl (Lk.max2 rfl rfl rfl) fun _ => ?_
      refine R.look rfl rfl rfl (Lk.assign rfl rfl) fun _ => ?_
      refine R.nil ?_
      refine EvC.join (σ := Int) (fun s => (Env.put (Env.put (Env.put Env.emp 5 (.int .i64 s)) 4 (.int .i64 (ByteArray.size p0 : Int))) 0 (.string p0))) (fun s => []) (fun s h_1 => S101_j2 p0 K s h_1) ?_ (fun Ih_1 hIh_1 => ?_)
      · intro v5 h_1 ok hS
        replace hS : S101_j2 p0 K v5 h_1 := hS
        change EvC _ _ _ (Env.put (Env.put (Env.put Env.emp 5 (.int .i64 v5)) 4 (.int .i64 (ByteArray.size p0 : Int))) 0 (.string p0)) (H.add h_1 []) _
        unfold S101_j2 at hS
        refine EvC.join (σ := Int) (fun s => (Env.put (Env.put (Env.put Env.emp 5 (.int .i64 s)) 4 (.int .i64 (ByteArray.size p0 : Int))) 0 (.string p0))) (fun s => []) (fun s h_2 => S101_j1 p0 K s h_2) ?_ (fun Ih_2 hIh_2 => ?_)
        · intro v5_1 h_2 ok hS
          replace hS : S101_j1 p0 K v5_1 h_2 := hS
          change EvC _ _ _ (Env.put (Env.put (Env.put Env.emp 5 (.int .i64 v5_1)) 4 (.int .i64 (ByteArray.size p0 : Int))) 0 (.string p0)) (H.add h_2 []) _
          unfold S101_j1 at hS
          refine EvC.seq ?_
          refine EvC.region [Item.look 0, Item.look 1, Item.look 2, Item.look 3, Item.eff 4 [], Item.look 5, Item.look 6, Item.look 7, Item.look 8, Item.look 9] (by kernel_rfl) ?_
          refine R.look rfl rfl rfl (Lk.move rfl rfl) fun _ => ?_
          refine R.look rfl rfl rfl (Lk.move rfl rfl) fun _ => ?_
          refine R.look rfl rfl rfl (Lk.move rfl rfl) fun _ => ?_
          obtain ⟨e5, e6, e7, hS⟩ := hS
          refine R.look rfl rfl rfl (Lk.subStr rfl Tryd.underlying9 rfl rfl rfl e5 e6 e7) fun _ => ?_
          refine R.eff rfl rfl rfl (Eff.loc ok (Ef.call rfl CB99 rfl ((f99_ok hS).mono ?_)))
          rintro _ h_3 ⟨v41_0, v41_1, rfl, hS⟩
          refine fun ok => ⟨noChk, ?_⟩
          refine R.look rfl rfl rfl (Lk.move rfl rfl) fun _ => ?_
          refine R.look rfl rfl rfl (Lk.extract rfl rfl rfl) fun _ => ?_
          refine R.look rfl rfl rfl (Lk.extract rfl rfl rfl) fun _ => ?_
          refine R.look rfl rfl rfl (Lk.assign rfl rfl) fun _ => ?_
          refine R.look rfl rfl rfl (Lk.assign rfl rfl) fun _ => ?_
          refine R.nil ?_
          refine EvC.seq ?_
          refine EvC.seq ?_
          refine EvC.region [Item.look 0, Item.look 1, Item.look 2, Item.look 3, Item.look 4] (by kernel_rfl) ?_
          refine R.look rfl rfl rfl (Lk.move rfl rfl) fun _ => ?_
          refine R.look rfl rfl rfl (Lk.move rfl rfl) fun _ => ?_
          refine R.look rfl rfl rfl (Lk.arith rfl rfl rfl rfl) fun _ => ?_
          refine R.look rfl rfl rfl (Lk.move rfl rfl) fun _ => ?_
          refine R.look rfl rfl rfl (Lk.arith rfl rfl rfl rfl) fun _ => ?_
          refine R.nil ?_
          by_cases e8 : ((IntKind.wrap .i64 (v5_1 + v41_1)) != (ByteArray.size p0 : Int)) = true
          · rw [if_pos e8] at hS
            refine EvC.condT rfl e8 ?_
            refine EvC.seq ?_
            refine EvC.region [Item.look 0, Item.look 1] (by kernel_rfl) ?_
            refine R.look rfl rfl rfl (Lk.assign rfl rfl) fun _ => ?_
            refine R.look rfl rfl rfl (Lk.assign rfl rfl) fun _ => ?_
            refine R.nil ?_
            refine EvC.ret ?_
            exact ⟨.inr rfl, _, _, (.cons (.tmp rfl) (.cons (.tmp rfl) .nil)), ok.le, _, _, rfl, hS⟩
          · rw [if_neg e8] at hS
            replace e8 := eq_false_of_ne_true e8
            refine EvC.condF rfl e8 ?_
            refine EvC.skip ?_
            refine EvC.seq ?_
            refine EvC.region [Item.look 0, Item.look 1, Item.look 2, Item.look 3] (by kernel_rfl) ?_
            refine R.look rfl rfl rfl (Lk.move rfl rfl) fun _ => ?_
            refine R.look rfl rfl rfl (Lk.move rfl rfl) fun _ => ?_
            refine R.look rfl rfl rfl (Lk.assign rfl rfl) fun _ => ?_
            refine R.look rfl rfl rfl (Lk.assign rfl rfl) fun _ => ?_
            refine R.nil ?_
            refine EvC.ret ?_
            exact ⟨.inr rfl, _, _, (.cons (.tmp rfl) (.cons (.tmp rfl) .nil)), ok.le, _, _, rfl, hS⟩
        · refine EvC.seq ?_
          refine EvC.region [Item.look 0, Item.look 1] (by kernel_rfl) ?_
          refine R.look rfl rfl rfl (Lk.move rfl rfl) fun _ => ?_
          refine R.look rfl rfl rfl (Lk.arith rfl rfl rfl rfl) fun _ => ?_
          refine R.nil ?_
          by_cases e9 : (decide (v5 < 0)) = true
          · rw [if_pos e9] at hS
            refine EvC.condT rfl e9 ?_
            refine EvC.region [Item.look 0] (by kernel_rfl) ?_
            refine R.look rfl rfl rfl (Lk.assign rfl rfl) fun _ => ?_
            refine R.nil ?_
            exact hIh_2 0 _ _ _ (Env.le_put rfl (Env.le_put rfl (Env.le_put rfl (Env.le_emp _)))) (ok.sub List.Sublist.slnil) (H.add_sub ok List.Sublist.slnil) hS
          · rw [if_neg e9] at hS
            replace e9 := eq_false_of_ne_true e9
            refine EvC.condF rfl e9 ?_
            refine EvC.skip ?_
            exact hIh_2 v5 _ _ _ (Env.le_put rfl (Env.le_put rfl (Env.le_put rfl (Env.le_emp _)))) (ok.sub List.Sublist.slnil) (H.add_sub ok List.Sublist.slnil) hS
      · refine EvC.seq ?_
        refine EvC.region [Item.look 0, Item.look 1, Item.look 2] (by kernel_rfl) ?_
        refine R.look rfl rfl rfl (Lk.move rfl rfl) fun _ => ?_
        refine R.look rfl rfl rfl (Lk.arith rfl rfl rfl rfl) fun _ => ?_
        refine R.look rfl rfl rfl (Lk.assign rfl rfl) fun _ => ?_
        refine R.nil ?_
        refine EvC.block ?_
        refine EvC.loop ?_
        refine LoopC.lfp (σ := Int) (fun s => (Env.put (Env.put (Env.put (Env.put Env.emp 6 (.int .i64 (if 0 > (IntKind.wrap .i64 ((ByteArray.size p0 : Int) - 4)) then 0 else (IntKind.wrap .i64 ((ByteArray.size p0 : Int) - 4))))) 5 (.int .i64 s)) 4 (.int .i64 (ByteArray.size p0 : Int))) 0 (.string p0))) (fun s => []) (fun X hX => ?_) hS (ok.sub List.Sublist.slnil) (Env.le_put rfl (Env.le_put rfl (Env.le_put rfl (Env.le_put rfl (Env.le_emp _))))) (H.add_sub ok List.Sublist.slnil)
        intro v5_2 h_4 hS ok
        replace hS : S101_l3 p0 K X v5_2 h_4 := hS
        change EvC _ _ _ (Env.put (Env.put (Env.put (Env.put Env.emp 6 (.int .i64 (if 0 > (IntKind.wrap .i64 ((ByteArray.size p0 : Int) - 4)) then 0 else (IntKind.wrap .i64 ((ByteArray.size p0 : Int) - 4))))) 5 (.int .i64 v5_2)) 4 (.int .i64 (ByteArray.size p0 : Int))) 0 (.string p0)) (H.add h_4 []) _
        unfold S101_l3 at hS
        refine EvC.seq ?_
        refine EvC.seq ?_
        refine EvC.region [Item.look 0, Item.look 1, Item.look 2] (by kernel_rfl) ?_
        refine R.look rfl rfl rfl (Lk.move rfl rfl) fun _ => ?_
        refine R.look rfl rfl rfl (Lk.move rfl rfl) fun _ => ?_
        refine R.look rfl rfl rfl (Lk.arith rfl rfl rfl rfl) fun _ => ?_
        refine R.nil ?_
        by_cases e10 : (decide (v5_2 ≥ (if 0 > (IntKind.wrap .i64 ((ByteArray.size p0 : Int) - 4)) then 0 else (IntKind.wrap .i64 ((ByteArray.size p0 : Int) - 4))))) = true
        · rw [if_pos e10] at hS
          refine EvC.condT rfl e10 ?_
          refine EvC.skip ?_
          refine EvC.seq ?_
          refine EvC.block ?_
          refine EvC.seq ?_
          refine EvC.region [Item.look 0, Item.look 1, Item.look 2, Item.eff 3 []] (by kernel_rfl) ?_
          refine R.look rfl rfl rfl (Lk.move rfl rfl) fun _ => ?_
          refine R.look rfl rfl rfl (Lk.move rfl rfl) fun _ => ?_
          obtain ⟨e11, e12, hS⟩ := hS
          refine R.look rfl rfl rfl (Lk.byte rfl Tryd.underlying9 rfl rfl e11 e12) fun _ => ?_
          refine R.eff rfl rfl rfl (Eff.loc ok (Ef.call rfl CB109 rfl ((f109_ok hS).mono ?_)))
          rintro _ h_5 ⟨v33, rfl, hS⟩
          refine fun ok => ⟨noChk, ?_⟩
          refine R.nil ?_
          by_cases e13 : v33 = true
          · rw [if_pos e13] at hS
            refine EvC.condT rfl e13 ?_
            refine EvC.exit ?_
            exact hIh_1 v5_2 _ _ _ (Env.le_put rfl (Env.le_put rfl (Env.le_put rfl (Env.le_emp _)))) (ok.sub List.Sublist.slnil) (H.add_sub ok List.Sublist.slnil) hS
          · rw [if_neg e13] at hS
            replace e13 := eq_false_of_ne_true e13
            refine EvC.condF rfl e13 ?_
            refine EvC.skip ?_
            refine EvC.region [Item.look 0, Item.look 1, Item.look 2] (by kernel_rfl) ?_
            refine R.look rfl rfl rfl (Lk.move rfl rfl) fun _ => ?_
            refine R.look rfl rfl rfl (Lk.arith rfl rfl rfl rfl) fun _ => ?_
            refine R.look rfl rfl rfl (Lk.assign rfl rfl) fun _ => ?_
            refine R.nil ?_
            exact hX (IntKind.wrap .i64 (v5_2 - 1)) _ _ _ hS (ok.sub List.Sublist.slnil) (Env.le_put rfl (Env.le_put rfl (Env.le_put rfl (Env.le_put rfl (Env.le_emp _))))) (H.add_sub ok List.Sublist.slnil)
        · rw [if_neg e10] at hS
          replace e10 := eq_false_of_ne_true e10
          refine EvC.condF rfl e10 ?_
          refine EvC.exit ?_
          exact hIh_1 v5_2 _ _ _ (Env.le_put rfl (Env.le_put rfl (Env.le_put rfl (Env.le_emp _)))) (ok.sub List.Sublist.slnil) (H.add_sub ok List.Sublist.slnil) hS
end Go.Proofs.YtimadnngfhbfiaaDoor
end

section
/- PRINTED by wip/gen.py: the machine's call of muntin/parse.cutRight does what S92 says. -/
namespace Go.Proofs.YtimadnngfhbfiaaDoor
open Go Go.Mu
set_option maxHeartbeats 4000000
set_option maxRecDepth 100000
theorem f92_ok {p0 : ByteArray} {p1 : ByteArray} {h : H} {K : ByteArray → H → Prop} (hS : S92 p0 p1 h K) : ACall Tryd.prog 92 ([(.string p0), (.string p1)] : List Value).toArray h (fun r h' => ∃ r0 : ByteArray, r = tup [(.string r0)] ∧ K r0 h') := by
  refine ACall.enter (fn := Tryd.f92) Tryd.func92 rfl (Nat.le_of_ble_eq_true rfl) ?_
  unfold S92 at hS
  have ok := Lok.nil h
  change EvC _ _ _ _ (H.add h []) _
  refine EvC.seq ?_
  refine EvC.region [Item.look 0] (by kernel_rfl) ?_
  refine R.look rfl rfl rfl (Lk.assign rfl rfl) fun _ => ?_
  refine R.nil ?_
  refine EvC.join (σ := ByteArray) (fun s => (Env.put Env.emp 0 (.string s))) (fun s => []) (fun s h_1 => S92_j1 K s h_1) ?_ (fun Ih_1 hIh_1 => ?_)
  · intro v0 h_1 ok hS
    replace hS : S92_j1 K v0 h_1 := hS
    change EvC _ _ _ (Env.put Env.emp 0 (.string v0)) (H.add h_1 []) _
    unfold S92_j1 at hS
    refine EvC.seq ?_
    refine EvC.region [Item.look 0, Item.look 1] (by kernel_rfl) ?_
    refine R.look rfl rfl rfl (Lk.move rfl rfl) fun _ => ?_
    refine R.look rfl rfl rfl (Lk.assign rfl rfl) fun _ => ?_
    refine R.nil ?_
    refine EvC.ret ?_
    exact ⟨.inr rfl, _, _, (.cons (.tmp rfl) .nil), ok.le, _, rfl, hS⟩
  · refine EvC.block ?_
    refine EvC.loop ?_
    refine LoopC.lfp (σ := ByteArray) (fun s => (Env.put (Env.put Env.emp 1 (.string p1)) 0 (.string s))) (fun s => []) (fun X hX => ?_) hS (ok.sub List.Sublist.slnil) (Env.le_put rfl (Env.le_put rfl (Env.le_emp _))) (H.add_sub ok List.Sublist.slnil)
    intro v0_1 h_2 hS ok
    replace hS : S92_l4 p1 K X v0_1 h_2 := hS
    change EvC _ _ _ (Env.put (Env.put Env.emp 1 (.string p1)) 0 (.string v0_1)) (H.add h_2 []) _
    unfold S92_l4 at hS
    refine EvC.seq ?_
    refine EvC.seq ?_
    refine EvC.region [Item.look 0, Item.look 1, Item.look 2] (by kernel_rfl) ?_
    refine R.look rfl rfl rfl (Lk.move rfl rfl) fun _ => ?_
    refine R.look rfl rfl rfl (Lk.lenS rfl Tryd.underlying9 rfl) fun _ => ?_
    refine R.look rfl rfl rfl (Lk.arith rfl rfl rfl rfl) fun _ => ?_
    refine R.nil ?_
    by_cases e1 : (decide ((ByteArray.size v0_1 : Int) > 0)) = true
    · rw [if_pos e1] at hS
      refine EvC.condT rfl e1 ?_
      refine EvC.skip ?_
      refine EvC.block ?_
      refine EvC.seq ?_
      refine EvC.region [Item.look 0, Item.eff 1 [], Item.look 2, Item.look 3, Item.look 4, Item.look 5, Item.look 6] (by kernel_rfl) ?_
      refine R.look rfl rfl rfl (Lk.move rfl rfl) fun _ => ?_
      refine R.eff rfl rfl rfl (Eff.loc ok (Ef.call rfl CB101 rfl ((f101_ok hS).mono ?_)))
      rintro _ h_3 ⟨v15_0, v15_1, rfl, hS⟩
      refine fun ok => ⟨noChk, ?_⟩
      refine R.look rfl rfl rfl (Lk.move rfl rfl) fun _ => ?_
      refine R.look rfl rfl rfl (Lk.extract rfl rfl rfl) fun _ => ?_
      refine R.look rfl rfl rfl (Lk.extract rfl rfl rfl) fun _ => ?_
      refine R.look rfl rfl rfl (Lk.assign rfl rfl) fun _ => ?_
      refine R.look rfl rfl rfl (Lk.assign rfl rfl) fun _ => ?_
      refine R.nil ?_
      refine EvC.seq ?_
      refine EvC.region [Item.look 0] (by kernel_rfl) ?_
      refine R.look rfl rfl rfl (Lk.assign rfl rfl) fun _ => ?_
      refine R.nil ?_
      refine EvC.join (σ := Bool) (fun s => (Env.put (Env.put (Env.put (Env.put Env.emp 7 (.bool s)) 6 (.int .i64 v15_1)) 1 (.string p1)) 0 (.string v0_1))) (fun s => []) (fun s h_4 => S92_j2 K v0_1 X v15_1 s h_4) ?_ (fun Ih_4 hIh_4 => ?_)
      · intro v7 h_4 ok hS
        replace hS : S92_j2 K v0_1 X v15_1 v7 h_4 := hS
        change EvC _ _ _ (Env.put (Env.put (Env.put (Env.put Env.emp 7 (.bool v7)) 6 (.int .i64 v15_1)) 1 (.string p1)) 0 (.string v0_1)) (H.add h_4 []) _
        unfold S92_j2 at hS
        refine EvC.seq ?_
        refine EvC.seq ?_
        refine EvC.region [Item.look 0, Item.look 1] (by kernel_rfl) ?_
        refine R.look rfl rfl rfl (Lk.move rfl rfl) fun _ => ?_
        refine R.look rfl rfl rfl (Lk.not rfl rfl) fun _ => ?_
        refine R.nil ?_
        by_cases e2 : (!v7) = true
        · rw [if_pos e2] at hS
          refine EvC.condT rfl e2 ?_
          refine EvC.seq ?_
          refine EvC.region [Item.look 0, Item.look 1] (by kernel_rfl) ?_
          refine R.look rfl rfl rfl (Lk.move rfl rfl) fun _ => ?_
          refine R.look rfl rfl rfl (Lk.assign rfl rfl) fun _ => ?_
          refine R.nil ?_
          refine EvC.ret ?_
          exact ⟨.inr rfl, _, _, (.cons (.tmp rfl) .nil), ok.le, _, rfl, hS⟩
        · rw [if_neg e2] at hS
          replace e2 := eq_false_of_ne_true e2
          refine EvC.condF rfl e2 ?_
          refine EvC.skip ?_
          refine EvC.region [Item.look 0, Item.look 1, Item.look 2, Item.look 3, Item.look 4, Item.look 5, Item.look 6] (by kernel_rfl) ?_
          refine R.look rfl rfl rfl (Lk.move rfl rfl) fun _ => ?_
          refine R.look rfl rfl rfl (Lk.move rfl rfl) fun _ => ?_
          refine R.look rfl rfl rfl (Lk.lenS rfl Tryd.underlying9 rfl) fun _ => ?_
          refine R.look rfl rfl rfl (Lk.move rfl rfl) fun _ => ?_
          refine R.look rfl rfl rfl (Lk.arith rfl rfl rfl rfl) fun _ => ?_
          obtain ⟨e3, e4, hS⟩ := hS
          refine R.look rfl rfl rfl (Lk.subStrTo rfl Tryd.underlying9 rfl rfl e3 e4) fun _ => ?_
          refine R.look rfl rfl rfl (Lk.assign rfl rfl) fun _ => ?_
          refine R.nil ?_
          exact hX (ByteArray.extract v0_1 0 (Int.toNat (IntKind.wrap .i64 ((ByteArray.size v0_1 : Int) - v15_1)))) _ _ _ hS (ok.sub List.Sublist.slnil) (Env.le_put rfl (Env.le_put rfl (Env.le_emp _))) (H.add_sub ok List.Sublist.slnil)
      · refine EvC.seq ?_
        refine EvC.region [Item.look 0, Item.alc 1] (by kernel_rfl) ?_
        refine R.look rfl rfl rfl (Lk.move rfl rfl) fun _ => ?_
        refine R.var (blk := .obj (.stringIter p1 0)) ok rfl rfl rfl (Ac.range rfl Tryd.underlying9 rfl) trivial rfl fun b19 ok => ?_
        refine R.nil ?_
        refine EvC.block ?_
        refine EvC.loop ?_
        refine LoopC.lfp (σ := Bool × Nat) (fun s => (Env.put (Env.put (Env.put (Env.put (Env.put (Env.put Env.emp 19 (.pointer (some ⟨b19, 0, none⟩))) 7 (.bool s.1)) 6 (.int .i64 v15_1)) 5 (.int .i32 v15_0)) 1 (.string p1)) 0 (.string v0_1))) (fun s => [(b19, .obj (.stringIter p1 s.2))]) (fun X_1 hX_1 => ?_) hS (ok.sub (.cons_cons _ List.Sublist.slnil)) (Env.le_put rfl (Env.le_put rfl (Env.le_put rfl (Env.le_put rfl (Env.le_put rfl (Env.le_put rfl (Env.le_emp _))))))) (H.add_sub ok (.cons_cons _ List.Sublist.slnil))
        rintro ⟨v7_1, c19_1⟩ h_5 hS ok
        replace hS : S92_l3 p1 K v0_1 X v15_0 v15_1 X_1 v7_1 c19_1 h_5 := hS
        change EvC _ _ _ (Env.put (Env.put (Env.put (Env.put (Env.put (Env.put Env.emp 19 (.pointer (some ⟨b19, 0, none⟩))) 7 (.bool v7_1)) 6 (.int .i64 v15_1)) 5 (.int .i32 v15_0)) 1 (.string p1)) 0 (.string v0_1)) (H.add h_5 [(b19, .obj (.stringIter p1 c19_1))]) _
        unfold S92_l3 at hS
        refine EvC.seq ?_
        refine EvC.region [Item.eff 0 [], Item.look 1] (by kernel_rfl) ?_
        by_cases e5 : c19_1 < ByteArray.size p1
        · rw [if_pos e5] at hS
          refine R.eff rfl rfl rfl (Ef.nextLoc (i := 0) (l' := [(b19, .obj (.stringIter p1 (c19_1 + (Utf8.decode p1 c19_1).2)))]) ok rfl rfl rfl e5 rfl fun ok => ⟨noChk, ?_⟩)
          refine R.look rfl rfl rfl (Lk.extract rfl rfl rfl) fun _ => ?_
          refine R.nil ?_
          refine EvC.seq ?_
          refine EvC.condT rfl rfl ?_
          refine EvC.skip ?_
          refine EvC.block ?_
          refine EvC.seq ?_
          refine EvC.region [Item.look 0, Item.look 1] (by kernel_rfl) ?_
          refine R.look rfl rfl rfl (Lk.extract rfl rfl rfl) fun _ => ?_
          refine R.look rfl rfl rfl (Lk.assign rfl rfl) fun _ => ?_
          refine R.nil ?_
          refine EvC.region [Item.look 0, Item.look 1, Item.look 2, Item.look 3, Item.look 4, Item.look 5, Item.look 6] (by kernel_rfl) ?_
          refine R.look rfl rfl rfl (Lk.move rfl rfl) fun _ => ?_
          refine R.look rfl rfl rfl (Lk.move rfl rfl) fun _ => ?_
          by_cases e6 : v7_1 = true
          · refine R.lookF rfl rfl rfl rfl e6 rfl fun _ => ?_
            refine R.lookF rfl rfl rfl rfl e6 rfl fun _ => ?_
            refine R.lookF rfl rfl rfl rfl e6 rfl fun _ => ?_
            refine R.look rfl rfl rfl (Lk.pick rfl rfl (fun _ => rfl) (fun e => by rw [e6] at e; cases e)) fun _ => ?_
            refine R.look rfl rfl rfl (Lk.assign rfl rfl) fun _ => ?_
            refine R.nil ?_
            exact hX_1 ((v7_1 || (v15_0 == ((Utf8.decode p1 c19_1).1 : Int))), (c19_1 + (Utf8.decode p1 c19_1).2)) _ _ _ hS (ok.sub (.cons_cons _ List.Sublist.slnil)) (Env.le_put rfl (Env.le_put rfl (Env.le_put rfl (Env.le_put rfl (Env.le_put (by rw [e6]; rfl) (Env.le_put rfl (Env.le_emp _))))))) (H.add_sub ok (.cons_cons _ List.Sublist.slnil))
          · replace e6 := eq_false_of_ne_true e6
            refine R.lookT rfl rfl rfl rfl e6 rfl (Lk.move rfl rfl) fun _ => ?_
            refine R.lookT rfl rfl rfl rfl e6 rfl (Lk.move rfl rfl) fun _ => ?_
            refine R.lookT rfl rfl rfl rfl e6 rfl (Lk.arith rfl rfl rfl rfl) fun _ => ?_
            refine R.look rfl rfl rfl (Lk.pick rfl rfl (fun e => by rw [e6] at e; cases e) (fun _ => rfl)) fun _ => ?_
            refine R.look rfl rfl rfl (Lk.assign rfl rfl) fun _ => ?_
            refine R.nil ?_
            exact hX_1 ((v7_1 || (v15_0 == ((Utf8.decode p1 c19_1).1 : Int))), (c19_1 + (Utf8.decode p1 c19_1).2)) _ _ _ hS (ok.sub (.cons_cons _ List.Sublist.slnil)) (Env.le_put rfl (Env.le_put rfl (Env.le_put rfl (Env.le_put rfl (Env.le_put (by rw [e6]; rfl) (Env.le_put rfl (Env.le_emp _))))))) (H.add_sub ok (.cons_cons _ List.Sublist.slnil))
        · rw [if_neg e5] at hS
          refine R.eff rfl rfl rfl (Ef.nextEnd (i := 0) ok rfl rfl rfl e5 ⟨noChk, ?_⟩)
          refine R.look rfl rfl rfl (Lk.extract rfl rfl rfl) fun _ => ?_
          refine R.nil ?_
          refine EvC.seq ?_
          refine EvC.condF rfl rfl ?_
          refine EvC.exit ?_
          exact hIh_4 v7_1 _ _ _ (Env.le_put rfl (Env.le_put rfl (Env.le_put rfl (Env.le_put rfl (Env.le_emp _))))) (ok.sub (.cons _ List.Sublist.slnil)) (H.add_sub ok (.cons _ List.Sublist.slnil)) hS
    · rw [if_neg e1] at hS
      replace e1 := eq_false_of_ne_true e1
      refine EvC.condF rfl e1 ?_
      refine EvC.exit ?_
      exact hIh_1 v0_1 _ _ _ (Env.le_put rfl (Env.le_emp _)) (ok.sub List.Sublist.slnil) (H.add_sub ok List.Sublist.slnil) hS
end Go.Proofs.YtimadnngfhbfiaaDoor
end

section
/- PRINTED by wip/gen.py: the machine's call of muntin/parse.cutLeft does what S93 says. -/
namespace Go.Proofs.YtimadnngfhbfiaaDoor
open Go Go.Mu
set_option maxHeartbeats 4000000
set_option maxRecDepth 100000
theorem f93_ok {p0 : ByteArray} {p1 : ByteArray} {h : H} {K : ByteArray → H → Prop} (hS : S93 p0 p1 h K) : ACall Tryd.prog 93 ([(.string p0), (.string p1)] : List Value).toArray h (fun r h' => ∃ r0 : ByteArray, r = tup [(.string r0)] ∧ K r0 h') := by
  refine ACall.enter (fn := Tryd.f93) Tryd.func93 rfl (Nat.le_of_ble_eq_true rfl) ?_
  unfold S93 at hS
  have ok := Lok.nil h
  change EvC _ _ _ _ (H.add h []) _
  refine EvC.seq ?_
  refine EvC.region [Item.look 0] (by kernel_rfl) ?_
  refine R.look rfl rfl rfl (Lk.assign rfl rfl) fun _ => ?_
  refine R.nil ?_
  refine EvC.join (σ := Unit) (fun s => Env.emp) (fun s => []) (fun s h_1 => S93_j1 K h_1) ?_ (fun Ih_1 hIh_1 => ?_)
  · rintro ⟨⟩ h_1 ok hS
    replace hS : S93_j1 K h_1 := hS
    change EvC _ _ _ Env.emp (H.add h_1 []) _
    unfold S93_j1 at hS
    refine EvC.seq ?_
    refine EvC.region [Item.look 0] (by kernel_rfl) ?_
    refine R.look rfl rfl rfl (Lk.assign rfl rfl) fun _ => ?_
    refine R.nil ?_
    refine EvC.ret ?_
    exact ⟨.inr rfl, _, _, (.cons (.tmp rfl) .nil), ok.le, _, rfl, hS⟩
  · refine EvC.seq ?_
    refine EvC.region [Item.look 0, Item.alc 1] (by kernel_rfl) ?_
    refine R.look rfl rfl rfl (Lk.move rfl rfl) fun _ => ?_
    refine R.var (blk := .obj (.stringIter p0 0)) ok rfl rfl rfl (Ac.range rfl Tryd.underlying9 rfl) trivial rfl fun b11 ok => ?_
    refine R.nil ?_
    refine EvC.block ?_
    refine EvC.loop ?_
    refine LoopC.lfp (σ := Nat) (fun s => (Env.put (Env.put (Env.put Env.emp 11 (.pointer (some ⟨b11, 0, none⟩))) 1 (.string p1)) 0 (.string p0))) (fun s => [(b11, .obj (.stringIter p0 s))]) (fun X hX => ?_) hS (ok.sub (.cons_cons _ List.Sublist.slnil)) (Env.le_put rfl (Env.le_put rfl (Env.le_put rfl (Env.le_emp _)))) (H.add_sub ok (.cons_cons _ List.Sublist.slnil))
    intro c11_1 h_2 hS ok
    replace hS : S93_l4 p0 p1 K X c11_1 h_2 := hS
    change EvC _ _ _ (Env.put (Env.put (Env.put Env.emp 11 (.pointer (some ⟨b11, 0, none⟩))) 1 (.string p1)) 0 (.string p0)) (H.add h_2 [(b11, .obj (.stringIter p0 c11_1))]) _
    unfold S93_l4 at hS
    refine EvC.seq ?_
    refine EvC.region [Item.eff 0 [], Item.look 1] (by kernel_rfl) ?_
    by_cases e1 : c11_1 < ByteArray.size p0
    · rw [if_pos e1] at hS
      refine R.eff rfl rfl rfl (Ef.nextLoc (i := 0) (l' := [(b11, .obj (.stringIter p0 (c11_1 + (Utf8.decode p0 c11_1).2)))]) ok rfl rfl rfl e1 rfl fun ok => ⟨noChk, ?_⟩)
      refine R.look rfl rfl rfl (Lk.extract rfl rfl rfl) fun _ => ?_
      refine R.nil ?_
      refine EvC.seq ?_
      refine EvC.condT rfl rfl ?_
      refine EvC.skip ?_
      refine EvC.block ?_
      refine EvC.seq ?_
      refine EvC.region [Item.look 0, Item.look 1, Item.look 2, Item.look 3] (by kernel_rfl) ?_
      refine R.look rfl rfl rfl (Lk.extract rfl rfl rfl) fun _ => ?_
      refine R.look rfl rfl rfl (Lk.extract rfl rfl rfl) fun _ => ?_
      refine R.look rfl rfl rfl (Lk.assign rfl rfl) fun _ => ?_
      refine R.look rfl rfl rfl (Lk.assign rfl rfl) fun _ => ?_
      refine R.nil ?_
      refine EvC.seq ?_
      refine EvC.region [Item.look 0] (by kernel_rfl) ?_
      refine R.look rfl rfl rfl (Lk.assign rfl rfl) fun _ => ?_
      refine R.nil ?_
      refine EvC.join (σ := Bool) (fun s => (Env.put (Env.put (Env.put (Env.put (Env.put Env.emp 11 (.pointer (some ⟨b11, 0, none⟩))) 7 (.bool s)) 5 (.int .i64 (c11_1 : Int))) 1 (.string p1)) 0 (.string p0))) (fun s => [(b11, .obj (.stringIter p0 (c11_1 + (Utf8.decode p0 c11_1).2)))]) (fun s h_3 => S93_j2 p0 K c11_1 X s h_3) ?_ (fun Ih_3 hIh_3 => ?_)
      · intro v7 h_3 ok hS
        replace hS : S93_j2 p0 K c11_1 X v7 h_3 := hS
        change EvC _ _ _ (Env.put (Env.put (Env.put (Env.put (Env.put Env.emp 11 (.pointer (some ⟨b11, 0, none⟩))) 7 (.bool v7)) 5 (.int .i64 (c11_1 : Int))) 1 (.string p1)) 0 (.string p0)) (H.add h_3 [(b11, .obj (.stringIter p0 (c11_1 + (Utf8.decode p0 c11_1).2)))]) _
        unfold S93_j2 at hS
        refine EvC.seq ?_
        refine EvC.region [Item.look 0, Item.look 1] (by kernel_rfl) ?_
        refine R.look rfl rfl rfl (Lk.move rfl rfl) fun _ => ?_
        refine R.look rfl rfl rfl (Lk.not rfl rfl) fun _ => ?_
        refine R.nil ?_
        by_cases e2 : (!v7) = true
        · rw [if_pos e2] at hS
          refine EvC.condT rfl e2 ?_
          refine EvC.seq ?_
          refine EvC.region [Item.look 0, Item.look 1, Item.look 2, Item.look 3] (by kernel_rfl) ?_
          refine R.look rfl rfl rfl (Lk.move rfl rfl) fun _ => ?_
          refine R.look rfl rfl rfl (Lk.move rfl rfl) fun _ => ?_
          obtain ⟨e3, e4, hS⟩ := hS
          refine R.look rfl rfl rfl (Lk.subStrFrom rfl Tryd.underlying9 rfl rfl e3 e4) fun _ => ?_
          refine R.look rfl rfl rfl (Lk.assign rfl rfl) fun _ => ?_
          refine R.nil ?_
          refine EvC.ret ?_
          exact ⟨.inr rfl, _, _, (.cons (.tmp rfl) .nil), ok.le, _, rfl, hS⟩
        · rw [if_neg e2] at hS
          replace e2 := eq_false_of_ne_true e2
          refine EvC.condF rfl e2 ?_
          refine EvC.skip ?_
          exact hX (c11_1 + (Utf8.decode p0 c11_1).2) _ _ _ hS (ok.sub (.cons_cons _ List.Sublist.slnil)) (Env.le_put rfl (Env.le_put rfl (Env.le_put rfl (Env.le_emp _)))) (H.add_sub ok (.cons_cons _ List.Sublist.slnil))
      · refine EvC.seq ?_
        refine EvC.region [Item.look 0, Item.alc 1] (by kernel_rfl) ?_
        refine R.look rfl rfl rfl (Lk.move rfl rfl) fun _ => ?_
        refine R.var (blk := .obj (.stringIter p1 0)) ok rfl rfl rfl (Ac.range rfl Tryd.underlying9 rfl) trivial rfl fun b17 ok => ?_
        refine R.nil ?_
        refine EvC.block ?_
        refine EvC.loop ?_
        refine LoopC.lfp (σ := Bool × Nat) (fun s => (Env.put (Env.put (Env.put (Env.put (Env.put (Env.put (Env.put Env.emp 17 (.pointer (some ⟨b17, 0, none⟩))) 11 (.pointer (some ⟨b11, 0, none⟩))) 7 (.bool s.1)) 6 (.int .i32 ((Utf8.decode p0 c11_1).1 : Int))) 5 (.int .i64 (c11_1 : Int))) 1 (.string p1)) 0 (.string p0))) (fun s => [(b17, .obj (.stringIter p1 s.2)), (b11, .obj (.stringIter p0 (c11_1 + (Utf8.decode p0 c11_1).2)))]) (fun X_1 hX_1 => ?_) hS (ok.sub (.cons_cons _ (.cons_cons _ List.Sublist.slnil))) (Env.le_put rfl (Env.le_put rfl (Env.le_put rfl (Env.le_put rfl (Env.le_put rfl (Env.le_put rfl (Env.le_put rfl (Env.le_emp _)))))))) (H.add_sub ok (.cons_cons _ (.cons_cons _ List.Sublist.slnil)))
        rintro ⟨v7_1, c17_1⟩ h_4 hS ok
        replace hS : S93_l3 p0 p1 K c11_1 X X_1 v7_1 c17_1 h_4 := hS
        change EvC _ _ _ (Env.put (Env.put (Env.put (Env.put (Env.put (Env.put (Env.put Env.emp 17 (.pointer (some ⟨b17, 0, none⟩))) 11 (.pointer (some ⟨b11, 0, none⟩))) 7 (.bool v7_1)) 6 (.int .i32 ((Utf8.decode p0 c11_1).1 : Int))) 5 (.int .i64 (c11_1 : Int))) 1 (.string p1)) 0 (.string p0)) (H.add h_4 [(b17, .obj (.stringIter p1 c17_1)), (b11, .obj (.stringIter p0 (c11_1 + (Utf8.decode p0 c11_1).2)))]) _
        unfold S93_l3 at hS
        refine EvC.seq ?_
        refine EvC.region [Item.eff 0 [], Item.look 1] (by kernel_rfl) ?_
        by_cases e5 : c17_1 < ByteArray.size p1
        · rw [if_pos e5] at hS
          refine R.eff rfl rfl rfl (Ef.nextLoc (i := 0) (l' := [(b17, .obj (.stringIter p1 (c17_1 + (Utf8.decode p1 c17_1).2))), (b11, .obj (.stringIter p0 (c11_1 + (Utf8.decode p0 c11_1).2)))]) ok rfl rfl rfl e5 rfl fun ok => ⟨noChk, ?_⟩)
          refine R.look rfl rfl rfl (Lk.extract rfl rfl rfl) fun _ => ?_
          refine R.nil ?_
          refine EvC.seq ?_
          refine EvC.condT rfl rfl ?_
          refine EvC.skip ?_
          refine EvC.block ?_
          refine EvC.seq ?_
          refine EvC.region [Item.look 0, Item.look 1] (by kernel_rfl) ?_
          refine R.look rfl rfl rfl (Lk.extract rfl rfl rfl) fun _ => ?_
          refine R.look rfl rfl rfl (Lk.assign rfl rfl) fun _ => ?_
          refine R.nil ?_
          refine EvC.region [Item.look 0, Item.look 1, Item.look 2, Item.look 3, Item.look 4, Item.look 5, Item.look 6] (by kernel_rfl) ?_
          refine R.look rfl rfl rfl (Lk.move rfl rfl) fun _ => ?_
          refine R.look rfl rfl rfl (Lk.move rfl rfl) fun _ => ?_
          by_cases e6 : v7_1 = true
          · refine R.lookF rfl rfl rfl rfl e6 rfl fun _ => ?_
            refine R.lookF rfl rfl rfl rfl e6 rfl fun _ => ?_
            refine R.lookF rfl rfl rfl rfl e6 rfl fun _ => ?_
            refine R.look rfl rfl rfl (Lk.pick rfl rfl (fun _ => rfl) (fun e => by rw [e6] at e; cases e)) fun _ => ?_
            refine R.look rfl rfl rfl (Lk.assign rfl rfl) fun _ => ?_
            refine R.nil ?_
            exact hX_1 ((v7_1 || (((Utf8.decode p0 c11_1).1 : Int) == ((Utf8.decode p1 c17_1).1 : Int))), (c17_1 + (Utf8.decode p1 c17_1).2)) _ _ _ hS (ok.sub (.cons_cons _ (.cons_cons _ List.Sublist.slnil))) (Env.le_put rfl (Env.le_put rfl (Env.le_put rfl (Env.le_put rfl (Env.le_put (by rw [e6]; rfl) (Env.le_put rfl (Env.le_put rfl (Env.le_emp _)))))))) (H.add_sub ok (.cons_cons _ (.cons_cons _ List.Sublist.slnil)))
          · replace e6 := eq_false_of_ne_true e6
            refine R.lookT rfl rfl rfl rfl e6 rfl (Lk.move rfl rfl) fun _ => ?_
            refine R.lookT rfl rfl rfl rfl e6 rfl (Lk.move rfl rfl) fun _ => ?_
            refine R.lookT rfl rfl rfl rfl e6 rfl (Lk.arith rfl rfl rfl rfl) fun _ => ?_
            refine R.look rfl rfl rfl (Lk.pick rfl rfl (fun e => by rw [e6] at e; cases e) (fun _ => rfl)) fun _ => ?_
            refine R.look rfl rfl rfl (Lk.assign rfl rfl) fun _ => ?_
            refine R.nil ?_
            exact hX_1 ((v7_1 || (((Utf8.decode p0 c11_1).1 : Int) == ((Utf8.decode p1 c17_1).1 : Int))), (c17_1 + (Utf8.decode p1 c17_1).2)) _ _ _ hS (ok.sub (.cons_cons _ (.cons_cons _ List.Sublist.slnil))) (Env.le_put rfl (Env.le_put rfl (Env.le_put rfl (Env.le_put rfl (Env.le_put (by rw [e6]; rfl) (Env.le_put rfl (Env.le_put rfl (Env.le_emp _)))))))) (H.add_sub ok (.cons_cons _ (.cons_cons _ List.Sublist.slnil)))
        · rw [if_neg e5] at hS
          refine R.eff rfl rfl rfl (Ef.nextEnd (i := 0) ok rfl rfl rfl e5 ⟨noChk, ?_⟩)
          refine R.look rfl rfl rfl (Lk.extract rfl rfl rfl) fun _ => ?_
          refine R.nil ?_
          refine EvC.seq ?_
          refine EvC.condF rfl rfl ?_
          refine EvC.exit ?_
          exact hIh_3 v7_1 _ _ _ (Env.le_put rfl (Env.le_put rfl (Env.le_put rfl (Env.le_put rfl (Env.le_put rfl (Env.le_emp _)))))) (ok.sub (.cons _ (.cons_cons _ List.Sublist.slnil))) (H.add_sub ok (.cons _ (.cons_cons _ List.Sublist.slnil))) hS
    · rw [if_neg e1] at hS
      refine R.eff rfl rfl rfl (Ef.nextEnd (i := 0) ok rfl rfl rfl e1 ⟨noChk, ?_⟩)
      refine R.look rfl rfl rfl (Lk.extract rfl rfl rfl) fun _ => ?_
      refine R.nil ?_
      refine EvC.seq ?_
      refine EvC.condF rfl rfl ?_
      refine EvC.exit ?_
      exact hIh_1 () _ _ _ (Env.le_emp _) (ok.sub (.cons _ List.Sublist.slnil)) (H.add_sub ok (.cons _ List.Sublist.slnil)) hS
end Go.Proofs.YtimadnngfhbfiaaDoor
end

section
/- PRINTED by wip/gen.py: the machine's call of muntin/parse.letters does what S70 says. -/
namespace Go.Proofs.YtimadnngfhbfiaaDoor
open Go Go.Mu
set_option maxHeartbeats 4000000
set_option maxRecDepth 100000
theorem f70_ok {p0 : ByteArray} {p1 : ByteArray} {h : H} {K : Bool → H → Prop} (hS : S70 p0 p1 h K) : ACall Tryd.prog 70 ([(.string p0), (.string p1)] : List Value).toArray h (fun r h' => ∃ r0 : Bool, r = tup [(.bool r0)] ∧ K r0 h') := by
  refine ACall.enter (fn := Tryd.f70) Tryd.func70 rfl (Nat.le_of_ble_eq_true rfl) ?_
  unfold S70 at hS
  have ok := Lok.nil h
  change EvC _ _ _ _ (H.add h []) _
  refine EvC.seq ?_
  refine EvC.region [Item.look 0] (by kernel_rfl) ?_
  refine R.look rfl rfl rfl (Lk.assign rfl rfl) fun _ => ?_
  refine R.nil ?_
  refine EvC.seq ?_
  refine EvC.region [Item.look 0, Item.look 1, Item.eff 2 [], Item.look 3, Item.eff 4 [], Item.look 5, Item.look 6] (by kernel_rfl) ?_
  refine R.look rfl rfl rfl (Lk.move rfl rfl) fun _ => ?_
  refine R.look rfl rfl rfl (Lk.move rfl rfl) fun _ => ?_
  refine R.eff rfl rfl rfl (Eff.loc ok (Ef.call rfl CB93 rfl ((f93_ok hS).mono ?_)))
  rintro _ h_1 ⟨v7, rfl, hS⟩
  refine fun ok => ⟨noChk, ?_⟩
  refine R.look rfl rfl rfl (Lk.move rfl rfl) fun _ => ?_
  refine R.eff rfl rfl rfl (Eff.loc ok (Ef.call rfl CB92 rfl ((f92_ok hS).mono ?_)))
  rintro _ h_2 ⟨v9, rfl, hS⟩
  refine fun ok => ⟨noChk, ?_⟩
  refine R.look rfl rfl rfl (Lk.strEq rfl rfl rfl) fun _ => ?_
  refine R.look rfl rfl rfl (Lk.assign rfl rfl) fun _ => ?_
  refine R.nil ?_
  refine EvC.ret ?_
  exact ⟨.inr rfl, _, _, (.cons (.tmp rfl) .nil), ok.le, _, rfl, hS⟩
end Go.Proofs.YtimadnngfhbfiaaDoor
end

section
/- PRINTED by wip/gen.py: the machine's call of muntin/parse.Check does what S39 says. -/
namespace Go.Proofs.YtimadnngfhbfiaaDoor
open Go Go.Mu
set_option maxHeartbeats 4000000
set_option maxRecDepth 100000
theorem f39_ok {p0_0 : Sl} {p0_1 : Sl} {h : H} {K : Int → H → Prop} (hS : S39 p0_0 p0_1 h K) : ACall Tryd.prog 39 ([(.agg ([(.slice p0_0.a p0_0.l p0_0.c), (.slice p0_1.a p0_1.l p0_1.c)] : List Value).toArray)] : List Value).toArray h (fun r h' => ∃ r0 : Int, r = tup [(.int .i64 r0)] ∧ K r0 h') := by
  refine ACall.enter (fn := Tryd.f39) Tryd.func39 rfl (Nat.le_of_ble_eq_true rfl) ?_
  unfold S39 at hS
  have ok := Lok.nil h
  change EvC _ _ _ _ (H.add h []) _
  refine EvC.seq ?_
  refine EvC.region [Item.alc 0, Item.look 1] (by kernel_rfl) ?_
  refine R.var (blk := .row ⟨[(.slice p0_0.a p0_0.l p0_0.c), (.slice p0_1.a p0_1.l p0_1.c)], 2, 29, true, true⟩) ok rfl rfl rfl (Ac.box rfl rfl) rfl rfl fun b1 ok => ?_
  refine R.look rfl rfl rfl (Lk.assign rfl rfl) fun _ => ?_
  refine R.nil ?_
  refine EvC.seq ?_
  refine EvC.region [Item.look 0] (by kernel_rfl) ?_
  refine R.look rfl rfl rfl (Lk.assign rfl rfl) fun _ => ?_
  refine R.nil ?_
  refine EvC.join (σ := Int) (fun s => (Env.put (Env.put Env.emp 3 (.int .i64 s)) 1 (.pointer (some ⟨b1, 0, none⟩)))) (fun s => [(b1, .row ⟨[(.slice p0_0.a p0_0.l p0_0.c), (.slice p0_1.a p0_1.l p0_1.c)], 2, 29, true, true⟩)]) (fun s h_1 => S39_j5 p0_0 p0_1 K s h_1) ?_ (fun Ih_1 hIh_1 => ?_)
  · intro v3 h_1 ok hS
    replace hS : S39_j5 p0_0 p0_1 K v3 h_1 := hS
    change EvC _ _ _ (Env.put (Env.put Env.emp 3 (.int .i64 v3)) 1 (.pointer (some ⟨b1, 0, none⟩))) (H.add h_1 [(b1, .row ⟨[(.slice p0_0.a p0_0.l p0_0.c), (.slice p0_1.a p0_1.l p0_1.c)], 2, 29, true, true⟩)]) _
    unfold S39_j5 at hS
    refine EvC.seq ?_
    refine EvC.seq ?_
    refine EvC.region [Item.look 0, Item.look 1, Item.look 2, Item.look 3, Item.look 4, Item.look 5, Item.look 6, Item.look 7, Item.look 8] (by kernel_rfl) ?_
    refine R.look (v := (.pointer (some ⟨b1, 0, none⟩))) rfl rfl rfl (Lk.fldAddr rfl Tryd.underlying29 rfl rfl T22 rfl rfl rfl) fun _ => ?_
    refine R.look rfl rfl rfl (Lk.load1 (v := (.slice p0_0.a p0_0.l p0_0.c)) rfl Tryd.underlying22 rfl rfl (H.rd_loc ok (i := 0) rfl rfl)) fun _ => ?_
    refine R.look rfl rfl rfl (Lk.len rfl Tryd.underlying22 rfl) fun _ => ?_
    refine R.look (v := (.pointer (some ⟨b1, 1, none⟩))) rfl rfl rfl (Lk.fldAddr rfl Tryd.underlying29 rfl rfl T27 rfl rfl rfl) fun _ => ?_
    refine R.look rfl rfl rfl (Lk.load1 (v := (.slice p0_1.a p0_1.l p0_1.c)) rfl Tryd.underlying27 rfl rfl (H.rd_loc ok (i := 0) rfl rfl)) fun _ => ?_
    refine R.look rfl rfl rfl (Lk.len rfl Tryd.underlying27 rfl) fun _ => ?_
    refine R.look rfl rfl rfl (Lk.move rfl rfl) fun _ => ?_
    refine R.look rfl rfl rfl (Lk.max3 rfl rfl rfl rfl) fun _ => ?_
    refine R.look rfl rfl rfl (Lk.arith rfl rfl rfl rfl) fun _ => ?_
    refine R.nil ?_
    by_cases e1 : (decide ((if v3 > (if (p0_1.l : Int) > (p0_0.l : Int) then (p0_1.l : Int) else (p0_0.l : Int)) then v3 else (if (p0_1.l : Int) > (p0_0.l : Int) then (p0_1.l : Int) else (p0_0.l : Int))) > 4096)) = true
    · rw [if_pos e1] at hS
      refine EvC.condT rfl e1 ?_
      refine EvC.seq ?_
      refine EvC.region [Item.look 0] (by kernel_rfl) ?_
      refine R.look rfl rfl rfl (Lk.assign rfl rfl) fun _ => ?_
      refine R.nil ?_
      refine EvC.ret ?_
      exact ⟨.inr rfl, _, _, (.cons (.tmp rfl) .nil), ok.le, _, rfl, hS⟩
    · rw [if_neg e1] at hS
      replace e1 := eq_false_of_ne_true e1
      refine EvC.condF rfl e1 ?_
      refine EvC.skip ?_
      refine EvC.join (σ := Unit) (fun s => Env.emp) (fun s => []) (fun s h_2 => S39_j1 K h_2) ?_ (fun Ih_2 hIh_2 => ?_)
      · rintro ⟨⟩ h_2 ok hS
        replace hS : S39_j1 K h_2 := hS
        change EvC _ _ _ Env.emp (H.add h_2 []) _
        unfold S39_j1 at hS
        refine EvC.seq ?_
        refine EvC.region [Item.look 0] (by kernel_rfl) ?_
        refine R.look rfl rfl rfl (Lk.assign rfl rfl) fun _ => ?_
        refine R.nil ?_
        refine EvC.ret ?_
        exact ⟨.inr rfl, _, _, (.cons (.tmp rfl) .nil), ok.le, _, rfl, hS⟩
      · refine EvC.seq ?_
        refine EvC.region [Item.look 0, Item.look 1, Item.look 2, Item.look 3] (by kernel_rfl) ?_
        refine R.look (v := (.pointer (some ⟨b1, 1, none⟩))) rfl rfl rfl (Lk.fldAddr rfl Tryd.underlying29 rfl rfl T27 rfl rfl rfl) fun _ => ?_
        refine R.look rfl rfl rfl (Lk.load1 (v := (.slice p0_1.a p0_1.l p0_1.c)) rfl Tryd.underlying27 rfl rfl (H.rd_loc ok (i := 0) rfl rfl)) fun _ => ?_
        refine R.look rfl rfl rfl (Lk.len rfl Tryd.underlying27 rfl) fun _ => ?_
        refine R.look rfl rfl rfl (Lk.move rfl rfl) fun _ => ?_
        refine R.nil ?_
        refine EvC.block ?_
        refine EvC.loop ?_
        refine LoopC.lfp (σ := Int) (fun s => (Env.put (Env.put (Env.put (Env.put Env.emp 34 (.int .i64 s)) 33 (.int .i64 (p0_1.l : Int))) 32 (.slice p0_1.a p0_1.l p0_1.c)) 1 (.pointer (some ⟨b1, 0, none⟩)))) (fun s => [(b1, .row ⟨[(.slice p0_0.a p0_0.l p0_0.c), (.slice p0_1.a p0_1.l p0_1.c)], 2, 29, true, true⟩)]) (fun X hX => ?_) hS (ok.sub (.cons_cons _ List.Sublist.slnil)) (Env.le_put rfl (Env.le_put rfl (Env.le_put rfl (Env.le_put rfl (Env.le_emp _))))) (H.add_sub ok (.cons_cons _ List.Sublist.slnil))
        intro v34 h_3 hS ok
        replace hS : S39_l4 p0_0 p0_1 K X v34 h_3 := hS
        change EvC _ _ _ (Env.put (Env.put (Env.put (Env.put Env.emp 34 (.int .i64 v34)) 33 (.int .i64 (p0_1.l : Int))) 32 (.slice p0_1.a p0_1.l p0_1.c)) 1 (.pointer (some ⟨b1, 0, none⟩))) (H.add h_3 [(b1, .row ⟨[(.slice p0_0.a p0_0.l p0_0.c), (.slice p0_1.a p0_1.l p0_1.c)], 2, 29, true, true⟩)]) _
        unfold S39_l4 at hS
        refine EvC.seq ?_
        refine EvC.region [Item.look 0] (by kernel_rfl) ?_
        refine R.look rfl rfl rfl (Lk.arith rfl rfl rfl rfl) fun _ => ?_
        refine R.nil ?_
        refine EvC.seq ?_
        by_cases e2 : (decide (v34 < (p0_1.l : Int))) = true
        · rw [if_pos e2] at hS
          refine EvC.condT rfl e2 ?_
          refine EvC.skip ?_
          refine EvC.seq ?_
          refine EvC.block ?_
          refine EvC.seq ?_
          refine EvC.region [Item.look 0, Item.look 1, Item.alc 2, Item.eff 3 []] (by kernel_rfl) ?_
          obtain ⟨a36, e3, e4, e5, hS⟩ := hS
          refine R.look rfl rfl rfl (Lk.ixAddr rfl Tryd.underlying27 T54 rfl e3 rfl e4 e5) fun _ => ?_
          obtain ⟨v37_0, v37_1, v37_2, v37_3, e6, hS⟩ := hS
          refine R.look rfl rfl rfl (Look.loc ok (Lk.loadN rfl Tryd.underlying54 rfl T54 rfl e6)) fun _ => ?_
          refine R.var (blk := .row ⟨[(.int .i64 0), (.int .i64 0), (.int .i64 0), (.string ⟨#[]⟩)], 4, 54, true, true⟩) ok rfl rfl rfl (Ac.alloc rfl T54) rfl rfl fun b7 ok => ?_
          refine R.effN rfl rfl rfl (Ef.storeLoc (i := 0) (vs := [(.int .i64 v37_0), (.int .i64 v37_1), (.int .i64 v37_2), (.string v37_3)]) (cs := [(.int .i64 v37_0), (.int .i64 v37_1), (.int .i64 v37_2), (.string v37_3)]) (l' := [(b7, .row ⟨[(.int .i64 v37_0), (.int .i64 v37_1), (.int .i64 v37_2), (.string v37_3)], 4, 54, true, true⟩), (b1, .row ⟨[(.slice p0_0.a p0_0.l p0_0.c), (.slice p0_1.a p0_1.l p0_1.c)], 2, 29, true, true⟩)]) ok rfl T54 rfl rfl rfl rfl rfl rfl rfl rfl rfl rfl fun ok => ⟨noChk, ?_⟩)
          refine R.nil ?_
          refine EvC.seq ?_
          refine EvC.join (σ := Bool) (fun s => (Env.put (Env.put (Env.put (Env.put (Env.put (Env.put Env.emp 54 (.bool s)) 34 (.int .i64 v34)) 33 (.int .i64 (p0_1.l : Int))) 32 (.slice p0_1.a p0_1.l p0_1.c)) 7 (.pointer (some ⟨b7, 0, none⟩))) 1 (.pointer (some ⟨b1, 0, none⟩)))) (fun s => [(b7, .row ⟨[(.int .i64 v37_0), (.int .i64 v37_1), (.int .i64 v37_2), (.string v37_3)], 4, 54, true, true⟩), (b1, .row ⟨[(.slice p0_0.a p0_0.l p0_0.c), (.slice p0_1.a p0_1.l p0_1.c)], 2, 29, true, true⟩)]) (fun s h_4 => S39_j3 K v34 X v37_2 v37_3 s h_4) ?_ (fun Ih_4 hIh_4 => ?_)
          · intro v54 h_4 ok hS
            replace hS : S39_j3 K v34 X v37_2 v37_3 v54 h_4 := hS
            change EvC _ _ _ (Env.put (Env.put (Env.put (Env.put (Env.put (Env.put Env.emp 54 (.bool v54)) 34 (.int .i64 v34)) 33 (.int .i64 (p0_1.l : Int))) 32 (.slice p0_1.a p0_1.l p0_1.c)) 7 (.pointer (some ⟨b7, 0, none⟩))) 1 (.pointer (some ⟨b1, 0, none⟩))) (H.add h_4 [(b7, .row ⟨[(.int .i64 v37_0), (.int .i64 v37_1), (.int .i64 v37_2), (.string v37_3)], 4, 54, true, true⟩), (b1, .row ⟨[(.slice p0_0.a p0_0.l p0_0.c), (.slice p0_1.a p0_1.l p0_1.c)], 2, 29, true, true⟩)]) _
            unfold S39_j3 at hS
            by_cases e7 : v54 = true
            · rw [if_pos e7] at hS
              refine EvC.condT rfl e7 ?_
              refine EvC.seq ?_
              refine EvC.region [Item.look 0] (by kernel_rfl) ?_
              refine R.look rfl rfl rfl (Lk.assign rfl rfl) fun _ => ?_
              refine R.nil ?_
              refine EvC.ret ?_
              exact ⟨.inr rfl, _, _, (.cons (.tmp rfl) .nil), ok.le, _, rfl, hS⟩
            · rw [if_neg e7] at hS
              replace e7 := eq_false_of_ne_true e7
              refine EvC.condF rfl e7 ?_
              refine EvC.skip ?_
              refine EvC.join (σ := Bool) (fun s => (Env.put (Env.put (Env.put (Env.put (Env.put Env.emp 64 (.bool s)) 34 (.int .i64 v34)) 33 (.int .i64 (p0_1.l : Int))) 32 (.slice p0_1.a p0_1.l p0_1.c)) 1 (.pointer (some ⟨b1, 0, none⟩)))) (fun s => [(b1, .row ⟨[(.slice p0_0.a p0_0.l p0_0.c), (.slice p0_1.a p0_1.l p0_1.c)], 2, 29, true, true⟩)]) (fun s h_5 => S39_j2 K v34 X s h_5) ?_ (fun Ih_5 hIh_5 => ?_)
              · intro v64 h_5 ok hS
                replace hS : S39_j2 K v34 X v64 h_5 := hS
                change EvC _ _ _ (Env.put (Env.put (Env.put (Env.put (Env.put Env.emp 64 (.bool v64)) 34 (.int .i64 v34)) 33 (.int .i64 (p0_1.l : Int))) 32 (.slice p0_1.a p0_1.l p0_1.c)) 1 (.pointer (some ⟨b1, 0, none⟩))) (H.add h_5 [(b1, .row ⟨[(.slice p0_0.a p0_0.l p0_0.c), (.slice p0_1.a p0_1.l p0_1.c)], 2, 29, true, true⟩)]) _
                unfold S39_j2 at hS
                by_cases e8 : v64 = true
                · rw [if_pos e8] at hS
                  refine EvC.condT rfl e8 ?_
                  refine EvC.seq ?_
                  refine EvC.region [Item.look 0] (by kernel_rfl) ?_
                  refine R.look rfl rfl rfl (Lk.assign rfl rfl) fun _ => ?_
                  refine R.nil ?_
                  refine EvC.ret ?_
                  exact ⟨.inr rfl, _, _, (.cons (.tmp rfl) .nil), ok.le, _, rfl, hS⟩
                · rw [if_neg e8] at hS
                  replace e8 := eq_false_of_ne_true e8
                  refine EvC.condF rfl e8 ?_
                  refine EvC.skip ?_
                  refine EvC.region [Item.look 0, Item.look 1] (by kernel_rfl) ?_
                  refine R.look rfl rfl rfl (Lk.arith rfl rfl rfl rfl) fun _ => ?_
                  refine R.look rfl rfl rfl (Lk.move rfl rfl) fun _ => ?_
                  refine R.nil ?_
                  exact hX (IntKind.wrap .i64 (v34 + 1)) _ _ _ hS (ok.sub (.cons_cons _ List.Sublist.slnil)) (Env.le_put rfl (Env.le_put rfl (Env.le_put rfl (Env.le_put rfl (Env.le_emp _))))) (H.add_sub ok (.cons_cons _ List.Sublist.slnil))
              · refine EvC.region [Item.look 0, Item.look 1, Item.eff 2 [], Item.look 3, Item.look 4, Item.look 5, Item.look 6, Item.eff 7 [], Item.look 8, Item.look 9] (by kernel_rfl) ?_
                refine R.look (v := (.pointer (some ⟨b7, 2, none⟩))) rfl rfl rfl (Lk.fldAddr rfl Tryd.underlying54 rfl rfl T3 rfl rfl rfl) fun _ => ?_
                refine R.look rfl rfl rfl (Lk.load1 (v := (.int .i64 v37_2)) rfl Tryd.underlying3 rfl rfl (H.rd_loc ok (i := 0) rfl rfl)) fun _ => ?_
                refine R.eff rfl rfl rfl (Eff.loc ok (Ef.call rfl CB54 rfl ((f54_ok hS).mono ?_)))
                rintro _ h_6 ⟨v57, rfl, hS⟩
                refine fun ok => ⟨noChk, ?_⟩
                refine R.look rfl rfl rfl (Lk.not rfl rfl) fun _ => ?_
                refine R.look rfl rfl rfl (Lk.move rfl rfl) fun _ => ?_
                by_cases e9 : (!v57) = true
                · rw [if_pos e9] at hS
                  refine R.lookF rfl rfl rfl rfl e9 rfl fun _ => ?_
                  refine R.lookF rfl rfl rfl rfl e9 rfl fun _ => ?_
                  refine R.effF rfl rfl rfl rfl e9 rfl ?_
                  refine R.lookF rfl rfl rfl rfl e9 rfl fun _ => ?_
                  refine R.look rfl rfl rfl (Lk.pick rfl rfl (fun _ => rfl) (fun e => by rw [e9] at e; cases e)) fun _ => ?_
                  refine R.nil ?_
                  exact hIh_5 true _ _ _ (Env.le_put rfl (Env.le_put rfl (Env.le_put rfl (Env.le_put rfl (Env.le_put rfl (Env.le_emp _)))))) (ok.sub (.cons _ (.cons_cons _ List.Sublist.slnil))) (H.add_sub ok (.cons _ (.cons_cons _ List.Sublist.slnil))) hS
                · rw [if_neg e9] at hS
                  replace e9 := eq_false_of_ne_true e9
                  refine R.lookT (v := (.pointer (some ⟨b7, 3, none⟩))) rfl rfl rfl rfl e9 rfl (Lk.fldAddr rfl Tryd.underlying54 rfl rfl T9 rfl rfl rfl) fun _ => ?_
                  refine R.lookT rfl rfl rfl rfl e9 rfl (Lk.load1 (v := (.string v37_3)) rfl Tryd.underlying9 rfl rfl (H.rd_loc ok (i := 0) rfl rfl)) fun _ => ?_
                  refine R.effT rfl rfl rfl rfl e9 rfl (Eff.loc ok (Ef.call rfl CB70 rfl ((f70_ok hS).mono ?_)))
                  rintro _ h_7 ⟨v62, rfl, hS⟩
                  refine fun ok => ⟨noChk, ?_⟩
                  refine R.lookT rfl rfl rfl rfl e9 rfl (Lk.not rfl rfl) fun _ => ?_
                  refine R.look rfl rfl rfl (Lk.pick rfl rfl (fun e => by rw [e9] at e; cases e) (fun _ => rfl)) fun _ => ?_
                  refine R.nil ?_
                  exact hIh_5 (!v62) _ _ _ (Env.le_put rfl (Env.le_put rfl (Env.le_put rfl (Env.le_put rfl (Env.le_put rfl (Env.le_emp _)))))) (ok.sub (.cons _ (.cons_cons _ List.Sublist.slnil))) (H.add_sub ok (.cons _ (.cons_cons _ List.Sublist.slnil))) hS
          · refine EvC.region [Item.look 0, Item.look 1, Item.look 2, Item.look 3, Item.look 4, Item.look 5, Item.look 6, Item.look 7, Item.look 8, Item.look 9, Item.look 10, Item.look 11, Item.look 12, Item.look 13, Item.look 14, Item.look 15, Item.look 16] (by kernel_rfl) ?_
            refine R.look (v := (.pointer (some ⟨b7, 0, none⟩))) rfl rfl rfl (Lk.fldAddr rfl Tryd.underlying54 rfl rfl T3 rfl rfl rfl) fun _ => ?_
            refine R.look rfl rfl rfl (Lk.load1 (v := (.int .i64 v37_0)) rfl Tryd.underlying3 rfl rfl (H.rd_loc ok (i := 0) rfl rfl)) fun _ => ?_
            refine R.look (v := (.pointer (some ⟨b7, 1, none⟩))) rfl rfl rfl (Lk.fldAddr rfl Tryd.underlying54 rfl rfl T3 rfl rfl rfl) fun _ => ?_
            refine R.look rfl rfl rfl (Lk.load1 (v := (.int .i64 v37_1)) rfl Tryd.underlying3 rfl rfl (H.rd_loc ok (i := 0) rfl rfl)) fun _ => ?_
            refine R.look rfl rfl rfl (Lk.min2 rfl rfl rfl) fun _ => ?_
            refine R.look rfl rfl rfl (Lk.arith rfl rfl rfl rfl) fun _ => ?_
            refine R.look rfl rfl rfl (Lk.move rfl rfl) fun _ => ?_
            by_cases e10 : (decide ((if v37_1 < v37_0 then v37_1 else v37_0) < 0)) = true
            · refine R.lookF rfl rfl rfl rfl e10 rfl fun _ => ?_
              refine R.lookF rfl rfl rfl rfl e10 rfl fun _ => ?_
              refine R.lookF rfl rfl rfl rfl e10 rfl fun _ => ?_
              refine R.lookF rfl rfl rfl rfl e10 rfl fun _ => ?_
              refine R.lookF rfl rfl rfl rfl e10 rfl fun _ => ?_
              refine R.lookF rfl rfl rfl rfl e10 rfl fun _ => ?_
              refine R.lookF rfl rfl rfl rfl e10 rfl fun _ => ?_
              refine R.lookF rfl rfl rfl rfl e10 rfl fun _ => ?_
              refine R.lookF rfl rfl rfl rfl e10 rfl fun _ => ?_
              refine R.look rfl rfl rfl (Lk.pick rfl rfl (fun _ => rfl) (fun e => by rw [e10] at e; cases e)) fun _ => ?_
              refine R.nil ?_
              exact hIh_4 ((decide ((if v37_1 < v37_0 then v37_1 else v37_0) < 0)) || (decide ((if v37_1 > v37_0 then v37_1 else v37_0) ≥ (p0_0.l : Int)))) _ _ _ (Env.le_put rfl (Env.le_put rfl (Env.le_put rfl (Env.le_put rfl (Env.le_put rfl (Env.le_put (by rw [e10]; rfl) (Env.le_emp _))))))) (ok.sub (.cons_cons _ (.cons_cons _ List.Sublist.slnil))) (H.add_sub ok (.cons_cons _ (.cons_cons _ List.Sublist.slnil))) hS
            · replace e10 := eq_false_of_ne_true e10
              refine R.lookT (v := (.pointer (some ⟨b7, 0, none⟩))) rfl rfl rfl rfl e10 rfl (Lk.fldAddr rfl Tryd.underlying54 rfl rfl T3 rfl rfl rfl) fun _ => ?_
              refine R.lookT rfl rfl rfl rfl e10 rfl (Lk.load1 (v := (.int .i64 v37_0)) rfl Tryd.underlying3 rfl rfl (H.rd_loc ok (i := 0) rfl rfl)) fun _ => ?_
              refine R.lookT (v := (.pointer (some ⟨b7, 1, none⟩))) rfl rfl rfl rfl e10 rfl (Lk.fldAddr rfl Tryd.underlying54 rfl rfl T3 rfl rfl rfl) fun _ => ?_
              refine R.lookT rfl rfl rfl rfl e10 rfl (Lk.load1 (v := (.int .i64 v37_1)) rfl Tryd.underlying3 rfl rfl (H.rd_loc ok (i := 0) rfl rfl)) fun _ => ?_
              refine R.lookT rfl rfl rfl rfl e10 rfl (Lk.max2 rfl rfl rfl) fun _ => ?_
              refine R.lookT (v := (.pointer (some ⟨b1, 0, none⟩))) rfl rfl rfl rfl e10 rfl (Lk.fldAddr rfl Tryd.underlying29 rfl rfl T22 rfl rfl rfl) fun _ => ?_
              refine R.lookT rfl rfl rfl rfl e10 rfl (Lk.load1 (v := (.slice p0_0.a p0_0.l p0_0.c)) rfl Tryd.underlying22 rfl rfl (H.rd_loc ok (i := 1) rfl rfl)) fun _ => ?_
              refine R.lookT rfl rfl rfl rfl e10 rfl (Lk.len rfl Tryd.underlying22 rfl) fun _ => ?_
              refine R.lookT rfl rfl rfl rfl e10 rfl (Lk.arith rfl rfl rfl rfl) fun _ => ?_
              refine R.look rfl rfl rfl (Lk.pick rfl rfl (fun e => by rw [e10] at e; cases e) (fun _ => rfl)) fun _ => ?_
              refine R.nil ?_
              exact hIh_4 ((decide ((if v37_1 < v37_0 then v37_1 else v37_0) < 0)) || (decide ((if v37_1 > v37_0 then v37_1 else v37_0) ≥ (p0_0.l : Int)))) _ _ _ (Env.le_put rfl (Env.le_put rfl (Env.le_put rfl (Env.le_put rfl (Env.le_put rfl (Env.le_put (by rw [e10]; rfl) (Env.le_emp _))))))) (ok.sub (.cons_cons _ (.cons_cons _ List.Sublist.slnil))) (H.add_sub ok (.cons_cons _ (.cons_cons _ List.Sublist.slnil))) hS
        · rw [if_neg e2] at hS
          replace e2 := eq_false_of_ne_true e2
          refine EvC.condF rfl e2 ?_
          refine EvC.exit ?_
          exact hIh_2 () _ _ _ (Env.le_emp _) (ok.sub (.cons _ List.Sublist.slnil)) (H.add_sub ok (.cons _ List.Sublist.slnil)) hS
  · refine EvC.seq ?_
    refine EvC.region [Item.look 0, Item.look 1, Item.look 2, Item.look 3] (by kernel_rfl) ?_
    refine R.look (v := (.pointer (some ⟨b1, 1, none⟩))) rfl rfl rfl (Lk.fldAddr rfl Tryd.underlying29 rfl rfl T27 rfl rfl rfl) fun _ => ?_
    refine R.look rfl rfl rfl (Lk.load1 (v := (.slice p0_1.a p0_1.l p0_1.c)) rfl Tryd.underlying27 rfl rfl (H.rd_loc ok (i := 0) rfl rfl)) fun _ => ?_
    refine R.look rfl rfl rfl (Lk.len rfl Tryd.underlying27 rfl) fun _ => ?_
    refine R.look rfl rfl rfl (Lk.move rfl rfl) fun _ => ?_
    refine R.nil ?_
    refine EvC.block ?_
    refine EvC.loop ?_
    refine LoopC.lfp (σ := Int × Int) (fun s => (Env.put (Env.put (Env.put (Env.put (Env.put Env.emp 11 (.int .i64 s.2)) 10 (.int .i64 (p0_1.l : Int))) 9 (.slice p0_1.a p0_1.l p0_1.c)) 3 (.int .i64 s.1)) 1 (.pointer (some ⟨b1, 0, none⟩)))) (fun s => [(b1, .row ⟨[(.slice p0_0.a p0_0.l p0_0.c), (.slice p0_1.a p0_1.l p0_1.c)], 2, 29, true, true⟩)]) (fun X_1 hX_1 => ?_) hS (ok.sub (.cons_cons _ List.Sublist.slnil)) (Env.le_put rfl (Env.le_put rfl (Env.le_put rfl (Env.le_put rfl (Env.le_put rfl (Env.le_emp _)))))) (H.add_sub ok (.cons_cons _ List.Sublist.slnil))
    rintro ⟨v3_1, v11⟩ h_8 hS ok
    replace hS : S39_l6 p0_0 p0_1 K X_1 v3_1 v11 h_8 := hS
    change EvC _ _ _ (Env.put (Env.put (Env.put (Env.put (Env.put Env.emp 11 (.int .i64 v11)) 10 (.int .i64 (p0_1.l : Int))) 9 (.slice p0_1.a p0_1.l p0_1.c)) 3 (.int .i64 v3_1)) 1 (.pointer (some ⟨b1, 0, none⟩))) (H.add h_8 [(b1, .row ⟨[(.slice p0_0.a p0_0.l p0_0.c), (.slice p0_1.a p0_1.l p0_1.c)], 2, 29, true, true⟩)]) _
    unfold S39_l6 at hS
    refine EvC.seq ?_
    refine EvC.region [Item.look 0] (by kernel_rfl) ?_
    refine R.look rfl rfl rfl (Lk.arith rfl rfl rfl rfl) fun _ => ?_
    refine R.nil ?_
    refine EvC.seq ?_
    by_cases e11 : (decide (v11 < (p0_1.l : Int))) = true
    · rw [if_pos e11] at hS
      refine EvC.condT rfl e11 ?_
      refine EvC.skip ?_
      refine EvC.seq ?_
      refine EvC.block ?_
      refine EvC.seq ?_
      refine EvC.region [Item.look 0, Item.look 1, Item.alc 2, Item.eff 3 []] (by kernel_rfl) ?_
      obtain ⟨a13, e12, e13, e14, hS⟩ := hS
      refine R.look rfl rfl rfl (Lk.ixAddr rfl Tryd.underlying27 T54 rfl e12 rfl e13 e14) fun _ => ?_
      obtain ⟨v14_0, v14_1, v14_2, v14_3, e15, hS⟩ := hS
      refine R.look rfl rfl rfl (Look.loc ok (Lk.loadN rfl Tryd.underlying54 rfl T54 rfl e15)) fun _ => ?_
      refine R.var (blk := .row ⟨[(.int .i64 0), (.int .i64 0), (.int .i64 0), (.string ⟨#[]⟩)], 4, 54, true, true⟩) ok rfl rfl rfl (Ac.alloc rfl T54) rfl rfl fun b5 ok => ?_
      refine R.effN rfl rfl rfl (Ef.storeLoc (i := 0) (vs := [(.int .i64 v14_0), (.int .i64 v14_1), (.int .i64 v14_2), (.string v14_3)]) (cs := [(.int .i64 v14_0), (.int .i64 v14_1), (.int .i64 v14_2), (.string v14_3)]) (l' := [(b5, .row ⟨[(.int .i64 v14_0), (.int .i64 v14_1), (.int .i64 v14_2), (.string v14_3)], 4, 54, true, true⟩), (b1, .row ⟨[(.slice p0_0.a p0_0.l p0_0.c), (.slice p0_1.a p0_1.l p0_1.c)], 2, 29, true, true⟩)]) ok rfl T54 rfl rfl rfl rfl rfl rfl rfl rfl rfl rfl fun ok => ⟨noChk, ?_⟩)
      refine R.nil ?_
      refine EvC.region [Item.look 0, Item.look 1, Item.look 2, Item.look 3, Item.look 4, Item.look 5, Item.look 6] (by kernel_rfl) ?_
      refine R.look rfl rfl rfl (Lk.move rfl rfl) fun _ => ?_
      refine R.look (v := (.pointer (some ⟨b5, 3, none⟩))) rfl rfl rfl (Lk.fldAddr rfl Tryd.underlying54 rfl rfl T9 rfl rfl rfl) fun _ => ?_
      refine R.look rfl rfl rfl (Lk.load1 (v := (.string v14_3)) rfl Tryd.underlying9 rfl rfl (H.rd_loc ok (i := 0) rfl rfl)) fun _ => ?_
      refine R.look rfl rfl rfl (Lk.lenS rfl Tryd.underlying9 rfl) fun _ => ?_
      refine R.look rfl rfl rfl (Lk.min2 rfl rfl rfl) fun _ => ?_
      refine R.look rfl rfl rfl (Lk.arith rfl rfl rfl rfl) fun _ => ?_
      refine R.look rfl rfl rfl (Lk.assign rfl rfl) fun _ => ?_
      refine R.nil ?_
      refine EvC.region [Item.look 0, Item.look 1] (by kernel_rfl) ?_
      refine R.look rfl rfl rfl (Lk.arith rfl rfl rfl rfl) fun _ => ?_
      refine R.look rfl rfl rfl (Lk.move rfl rfl) fun _ => ?_
      refine R.nil ?_
      exact hX_1 ((IntKind.wrap .i64 (v3_1 + (if 4097 < (ByteArray.size v14_3 : Int) then 4097 else (ByteArray.size v14_3 : Int)))), (IntKind.wrap .i64 (v11 + 1))) _ _ _ hS (ok.sub (.cons _ (.cons_cons _ List.Sublist.slnil))) (Env.le_put rfl (Env.le_put rfl (Env.le_put rfl (Env.le_put rfl (Env.le_put rfl (Env.le_emp _)))))) (H.add_sub ok (.cons _ (.cons_cons _ List.Sublist.slnil)))
    · rw [if_neg e11] at hS
      replace e11 := eq_false_of_ne_true e11
      refine EvC.condF rfl e11 ?_
      refine EvC.exit ?_
      exact hIh_1 v3_1 _ _ _ (Env.le_put rfl (Env.le_put rfl (Env.le_emp _))) (ok.sub (.cons_cons _ List.Sublist.slnil)) (H.add_sub ok (.cons_cons _ List.Sublist.slnil)) hS
end Go.Proofs.YtimadnngfhbfiaaDoor
end

section
/- PRINTED by wip/gen.py: the machine's call of muntin/compass.Left does what S56 says. -/
namespace Go.Proofs.YtimadnngfhbfiaaDoor
open Go Go.Mu
set_option maxHeartbeats 4000000
set_option maxRecDepth 100000
theorem f56_ok {p0 : Int} {p1 : Int} {h : H} {K : Int → H → Prop} (hS : S56 p0 p1 h K) : ACall Tryd.prog 56 ([(.int .i64 p0), (.int .i64 p1)] : List Value).toArray h (fun r h' => ∃ r0 : Int, r = tup [(.int .i64 r0)] ∧ K r0 h') := by
  refine ACall.enter (fn := Tryd.f56) Tryd.func56 rfl (Nat.le_of_ble_eq_true rfl) ?_
  unfold S56 at hS
  have ok := Lok.nil h
  change EvC _ _ _ _ (H.add h []) _
  refine EvC.seq ?_
  refine EvC.region [Item.look 0] (by kernel_rfl) ?_
  refine R.look rfl rfl rfl (Lk.assign rfl rfl) fun _ => ?_
  refine R.nil ?_
  refine EvC.seq ?_
  refine EvC.seq ?_
  refine EvC.region [Item.look 0, Item.eff 1 [], Item.look 2] (by kernel_rfl) ?_
  refine R.look rfl rfl rfl (Lk.move rfl rfl) fun _ => ?_
  refine R.eff rfl rfl rfl (Eff.loc ok (Ef.call rfl CB54 rfl ((f54_ok hS).mono ?_)))
  rintro _ h_1 ⟨v6, rfl, hS⟩
  refine fun ok => ⟨noChk, ?_⟩
  refine R.look rfl rfl rfl (Lk.not rfl rfl) fun _ => ?_
  refine R.nil ?_
  by_cases e1 : (!v6) = true
  · rw [if_pos e1] at hS
    refine EvC.condT rfl e1 ?_
    refine EvC.seq ?_
    refine EvC.region [Item.look 0] (by kernel_rfl) ?_
    refine R.look rfl rfl rfl (Lk.assign rfl rfl) fun _ => ?_
    refine R.nil ?_
    refine EvC.ret ?_
    exact ⟨.inr rfl, _, _, (.cons (.tmp rfl) .nil), ok.le, _, rfl, hS⟩
  · rw [if_neg e1] at hS
    replace e1 := eq_false_of_ne_true e1
    refine EvC.condF rfl e1 ?_
    refine EvC.skip ?_
    refine EvC.seq ?_
    refine EvC.region [Item.look 0, Item.look 1, Item.look 2, Item.look 3, Item.look 4, Item.look 5, Item.look 6] (by kernel_rfl) ?_
    refine R.look rfl rfl rfl (Lk.move rfl rfl) fun _ => ?_
    refine R.look rfl rfl rfl (Lk.move rfl rfl) fun _ => ?_
    refine R.look rfl rfl rfl (Lk.rem (j := 4) rfl rfl rfl (by decide)) fun _ => ?_
    refine R.look rfl rfl rfl (Lk.arith rfl rfl rfl rfl) fun _ => ?_
    refine R.look rfl rfl rfl (Lk.arith rfl rfl rfl rfl) fun _ => ?_
    refine R.look rfl rfl rfl (Lk.rem (j := 4) rfl rfl rfl (by decide)) fun _ => ?_
    refine R.look rfl rfl rfl (Lk.assign rfl rfl) fun _ => ?_
    refine R.nil ?_
    refine EvC.ret ?_
    exact ⟨.inr rfl, _, _, (.cons (.tmp rfl) .nil), ok.le, _, rfl, hS⟩
end Go.Proofs.YtimadnngfhbfiaaDoor
end

section
/- PRINTED by wip/gen.py: the machine's call of muntin/norm.turned does what S76 says. -/
namespace Go.Proofs.YtimadnngfhbfiaaDoor
open Go Go.Mu
set_option maxHeartbeats 4000000
set_option maxRecDepth 100000
theorem f76_ok {p0 : Int} {p1 : Int} {h : H} {K : Int → H → Prop} (hS : S76 p0 p1 h K) : ACall Tryd.prog 76 ([(.int .i64 p0), (.int .i32 p1)] : List Value).toArray h (fun r h' => ∃ r0 : Int, r = tup [(.int .i64 r0)] ∧ K r0 h') := by
  refine ACall.enter (fn := Tryd.f76) Tryd.func76 rfl (Nat.le_of_ble_eq_true rfl) ?_
  unfold S76 at hS
  have ok := Lok.nil h
  change EvC _ _ _ _ (H.add h []) _
  refine EvC.seq ?_
  refine EvC.region [Item.look 0] (by kernel_rfl) ?_
  refine R.look rfl rfl rfl (Lk.assign rfl rfl) fun _ => ?_
  refine R.nil ?_
  refine EvC.seq ?_
  refine EvC.seq ?_
  refine EvC.region [Item.look 0, Item.look 1] (by kernel_rfl) ?_
  refine R.look rfl rfl rfl (Lk.move rfl rfl) fun _ => ?_
  refine R.look rfl rfl rfl (Lk.arith rfl rfl rfl rfl) fun _ => ?_
  refine R.nil ?_
  by_cases e1 : (p1 == 76) = true
  · rw [if_pos e1] at hS
    refine EvC.condT rfl e1 ?_
    refine EvC.seq ?_
    refine EvC.region [Item.look 0, Item.eff 1 [], Item.look 2] (by kernel_rfl) ?_
    refine R.look rfl rfl rfl (Lk.move rfl rfl) fun _ => ?_
    refine R.eff rfl rfl rfl (Eff.loc ok (Ef.call rfl CB56 rfl ((f56_ok hS).mono ?_)))
    rintro _ h_1 ⟨v8, rfl, hS⟩
    refine fun ok => ⟨noChk, ?_⟩
    refine R.look rfl rfl rfl (Lk.assign rfl rfl) fun _ => ?_
    refine R.nil ?_
    refine EvC.ret ?_
    exact ⟨.inr rfl, _, _, (.cons (.tmp rfl) .nil), ok.le, _, rfl, hS⟩
  · rw [if_neg e1] at hS
    replace e1 := eq_false_of_ne_true e1
    refine EvC.condF rfl e1 ?_
    refine EvC.skip ?_
    refine EvC.seq ?_
    refine EvC.region [Item.look 0, Item.eff 1 [], Item.look 2] (by kernel_rfl) ?_
    refine R.look rfl rfl rfl (Lk.move rfl rfl) fun _ => ?_
    refine R.eff rfl rfl rfl (Eff.loc ok (Ef.call rfl CB56 rfl ((f56_ok hS).mono ?_)))
    rintro _ h_2 ⟨v10, rfl, hS⟩
    refine fun ok => ⟨noChk, ?_⟩
    refine R.look rfl rfl rfl (Lk.assign rfl rfl) fun _ => ?_
    refine R.nil ?_
    refine EvC.ret ?_
    exact ⟨.inr rfl, _, _, (.cons (.tmp rfl) .nil), ok.le, _, rfl, hS⟩
end Go.Proofs.YtimadnngfhbfiaaDoor
end

section
/- PRINTED by wip/gen.py: the machine's call of muntin/norm.last does what S71 says. -/
namespace Go.Proofs.YtimadnngfhbfiaaDoor
open Go Go.Mu
set_option maxHeartbeats 4000000
set_option maxRecDepth 100000
theorem f71_ok {p0_0 : Int} {p0_1 : Int} {p0_2 : Int} {p0_3 : ByteArray} {h : H} {K : Int → H → Prop} (hS : S71 p0_0 p0_1 p0_2 p0_3 h K) : ACall Tryd.prog 71 ([(.agg ([(.int .i64 p0_0), (.int .i64 p0_1), (.int .i64 p0_2), (.string p0_3)] : List Value).toArray)] : List Value).toArray h (fun r h' => ∃ r0 : Int, r = tup [(.int .i64 r0)] ∧ K r0 h') := by
  refine ACall.enter (fn := Tryd.f71) Tryd.func71 rfl (Nat.le_of_ble_eq_true rfl) ?_
  unfold S71 at hS
  have ok := Lok.nil h
  change EvC _ _ _ _ (H.add h []) _
  refine EvC.seq ?_
  refine EvC.region [Item.alc 0, Item.look 1] (by kernel_rfl) ?_
  refine R.var (blk := .row ⟨[(.int .i64 p0_0), (.int .i64 p0_1), (.int .i64 p0_2), (.string p0_3)], 4, 54, true, true⟩) ok rfl rfl rfl (Ac.box rfl rfl) rfl rfl fun b1 ok => ?_
  refine R.look rfl rfl rfl (Lk.assign rfl rfl) fun _ => ?_
  refine R.nil ?_
  refine EvC.seq ?_
  refine EvC.region [Item.look 0, Item.look 1, Item.look 2] (by kernel_rfl) ?_
  refine R.look (v := (.pointer (some ⟨b1, 2, none⟩))) rfl rfl rfl (Lk.fldAddr rfl Tryd.underlying54 rfl rfl T3 rfl rfl rfl) fun _ => ?_
  refine R.look rfl rfl rfl (Lk.load1 (v := (.int .i64 p0_2)) rfl Tryd.underlying3 rfl rfl (H.rd_loc ok (i := 0) rfl rfl)) fun _ => ?_
  refine R.look rfl rfl rfl (Lk.assign rfl rfl) fun _ => ?_
  refine R.nil ?_
  refine EvC.join (σ := Int) (fun s => (Env.put Env.emp 3 (.int .i64 s))) (fun s => []) (fun s h_1 => S71_j1 K s h_1) ?_ (fun Ih_1 hIh_1 => ?_)
  · intro v3 h_1 ok hS
    replace hS : S71_j1 K v3 h_1 := hS
    change EvC _ _ _ (Env.put Env.emp 3 (.int .i64 v3)) (H.add h_1 []) _
    unfold S71_j1 at hS
    refine EvC.seq ?_
    refine EvC.region [Item.look 0, Item.look 1] (by kernel_rfl) ?_
    refine R.look rfl rfl rfl (Lk.move rfl rfl) fun _ => ?_
    refine R.look rfl rfl rfl (Lk.assign rfl rfl) fun _ => ?_
    refine R.nil ?_
    refine EvC.ret ?_
    exact ⟨.inr rfl, _, _, (.cons (.tmp rfl) .nil), ok.le, _, rfl, hS⟩
  · refine EvC.seq ?_
    refine EvC.region [Item.look 0, Item.look 1, Item.alc 2] (by kernel_rfl) ?_
    refine R.look (v := (.pointer (some ⟨b1, 3, none⟩))) rfl rfl rfl (Lk.fldAddr rfl Tryd.underlying54 rfl rfl T9 rfl rfl rfl) fun _ => ?_
    refine R.look rfl rfl rfl (Lk.load1 (v := (.string p0_3)) rfl Tryd.underlying9 rfl rfl (H.rd_loc ok (i := 0) rfl rfl)) fun _ => ?_
    refine R.var (blk := .obj (.stringIter p0_3 0)) ok rfl rfl rfl (Ac.range rfl Tryd.underlying9 rfl) trivial rfl fun b10 ok => ?_
    refine R.nil ?_
    refine EvC.block ?_
    refine EvC.loop ?_
    refine LoopC.lfp (σ := Int × Nat) (fun s => (Env.put (Env.put Env.emp 10 (.pointer (some ⟨b10, 0, none⟩))) 3 (.int .i64 s.1))) (fun s => [(b10, .obj (.stringIter p0_3 s.2))]) (fun X hX => ?_) hS (ok.sub (.cons_cons _ (.cons _ List.Sublist.slnil))) (Env.le_put rfl (Env.le_put rfl (Env.le_emp _))) (H.add_sub ok (.cons_cons _ (.cons _ List.Sublist.slnil)))
    rintro ⟨v3_1, c10_1⟩ h_2 hS ok
    replace hS : S71_l2 p0_3 K X v3_1 c10_1 h_2 := hS
    change EvC _ _ _ (Env.put (Env.put Env.emp 10 (.pointer (some ⟨b10, 0, none⟩))) 3 (.int .i64 v3_1)) (H.add h_2 [(b10, .obj (.stringIter p0_3 c10_1))]) _
    unfold S71_l2 at hS
    refine EvC.seq ?_
    refine EvC.region [Item.eff 0 [], Item.look 1] (by kernel_rfl) ?_
    by_cases e1 : c10_1 < ByteArray.size p0_3
    · rw [if_pos e1] at hS
      refine R.eff rfl rfl rfl (Ef.nextLoc (i := 0) (l' := [(b10, .obj (.stringIter p0_3 (c10_1 + (Utf8.decode p0_3 c10_1).2)))]) ok rfl rfl rfl e1 rfl fun ok => ⟨noChk, ?_⟩)
      refine R.look rfl rfl rfl (Lk.extract rfl rfl rfl) fun _ => ?_
      refine R.nil ?_
      refine EvC.seq ?_
      refine EvC.condT rfl rfl ?_
      refine EvC.skip ?_
      refine EvC.block ?_
      refine EvC.seq ?_
      refine EvC.region [Item.look 0, Item.look 1] (by kernel_rfl) ?_
      refine R.look rfl rfl rfl (Lk.extract rfl rfl rfl) fun _ => ?_
      refine R.look rfl rfl rfl (Lk.assign rfl rfl) fun _ => ?_
      refine R.nil ?_
      refine EvC.region [Item.look 0, Item.look 1, Item.eff 2 [], Item.look 3] (by kernel_rfl) ?_
      refine R.look rfl rfl rfl (Lk.move rfl rfl) fun _ => ?_
      refine R.look rfl rfl rfl (Lk.move rfl rfl) fun _ => ?_
      refine R.eff rfl rfl rfl (Eff.loc ok (Ef.call rfl CB76 rfl ((f76_ok hS).mono ?_)))
      rintro _ h_3 ⟨v16, rfl, hS⟩
      refine fun ok => ⟨noChk, ?_⟩
      refine R.look rfl rfl rfl (Lk.assign rfl rfl) fun _ => ?_
      refine R.nil ?_
      exact hX (v16, (c10_1 + (Utf8.decode p0_3 c10_1).2)) _ _ _ hS (ok.sub (.cons_cons _ List.Sublist.slnil)) (Env.le_put rfl (Env.le_put rfl (Env.le_emp _))) (H.add_sub ok (.cons_cons _ List.Sublist.slnil))
    · rw [if_neg e1] at hS
      refine R.eff rfl rfl rfl (Ef.nextEnd (i := 0) ok rfl rfl rfl e1 ⟨noChk, ?_⟩)
      refine R.look rfl rfl rfl (Lk.extract rfl rfl rfl) fun _ => ?_
      refine R.nil ?_
      refine EvC.seq ?_
      refine EvC.condF rfl rfl ?_
      refine EvC.exit ?_
      exact hIh_1 v3_1 _ _ _ (Env.le_put rfl (Env.le_emp _)) (ok.sub (.cons _ List.Sublist.slnil)) (H.add_sub ok (.cons _ List.Sublist.slnil)) hS
end Go.Proofs.YtimadnngfhbfiaaDoor
end

section
/- PRINTED by wip/gen.py: the machine's call of (*muntin/norm.maker).sort does what S40 says. -/
namespace Go.Proofs.YtimadnngfhbfiaaDoor
open Go Go.Mu
set_option maxHeartbeats 4000000
set_option maxRecDepth 100000
theorem f40_ok {p0 : Option Addr} {h : H} {K : H → Prop} (hS : S40 p0 h K) : ACall Tryd.prog 40 ([(.pointer p0)] : List Value).toArray h (fun r h' => r = tup [] ∧ K  h') := by
  refine ACall.enter (fn := Tryd.f40) Tryd.func40 rfl (Nat.le_of_ble_eq_true rfl) ?_
  unfold S40 at hS
  have ok := Lok.nil h
  change EvC _ _ _ _ (H.add h []) _
  refine EvC.seq ?_
  refine EvC.region [Item.look 0, Item.look 1, Item.look 2, Item.look 3, Item.look 4, Item.look 5, Item.look 6, Item.alc 7, Item.look 8, Item.look 9, Item.eff 10 []] (by kernel_rfl) ?_
  refine R.look rfl rfl rfl (Lk.move rfl rfl) fun _ => ?_
  refine R.look rfl rfl rfl (Lk.move rfl rfl) fun _ => ?_
  obtain ⟨a8, e1, hS⟩ := hS
  refine R.look (v := (.pointer (some a8))) rfl rfl rfl (Lk.nilChk rfl rfl e1) fun _ => ?_
  refine R.look (v := (.pointer (some a8))) rfl rfl rfl (Lk.fldAddr rfl Tryd.underlying106 rfl rfl T29 rfl rfl rfl) fun _ => ?_
  refine R.look (v := (.pointer (some a8))) rfl rfl rfl (Lk.fldAddr rfl Tryd.underlying29 rfl rfl T22 rfl rfl rfl) fun _ => ?_
  obtain ⟨v11, e2, hS⟩ := hS
  refine R.look rfl rfl rfl (Look.loc ok (Lk.load1 rfl Tryd.underlying22 rfl rfl e2)) fun _ => ?_
  refine R.look rfl rfl rfl (Lk.len rfl Tryd.underlying22 rfl) fun _ => ?_
  obtain ⟨e3, e4, e5, e6, hS⟩ := hS
  refine R.new (blk := (.row ⟨zeros (.agg #[(.slice none 0 0), (.slice none 0 0), (.slice none 0 0), (.slice none 0 0)]) (Int.toNat (v11.l : Int) * 4), (zeros (.agg #[(.slice none 0 0), (.slice none 0 0), (.slice none 0 0), (.slice none 0 0)]) (Int.toNat (v11.l : Int) * 4)).length, 145, true, true⟩)) ok rfl rfl rfl (Ac.makeSlice rfl Tryd.underlying104 T145 rfl rfl e3 e4 e5 e6) rfl rfl fun b13 e7 ok => ?_
  replace hS := hS b13 _ e7 rfl
  obtain ⟨a14, e8, hS⟩ := hS
  refine R.look (v := (.pointer (some a14))) rfl rfl rfl (Lk.nilChk rfl rfl e8) fun _ => ?_
  refine R.look (v := (.pointer (some (Addr.add a14 3)))) rfl rfl rfl (Lk.fldAddr rfl Tryd.underlying106 rfl rfl T104 rfl rfl rfl) fun _ => ?_
  obtain ⟨h_2, e9, hS⟩ := hS
  refine R.effN rfl rfl rfl (Eff.loc ok (Ef.store rfl T104 rfl rfl rfl rfl rfl e9 fun ok => ⟨noChk, ?_⟩))
  refine R.nil ?_
  refine EvC.seq ?_
  refine EvC.region [Item.look 0, Item.look 1, Item.look 2, Item.look 3, Item.look 4, Item.look 5, Item.look 6] (by kernel_rfl) ?_
  refine R.look rfl rfl rfl (Lk.move rfl rfl) fun _ => ?_
  obtain ⟨a17, e10, hS⟩ := hS
  refine R.look (v := (.pointer (some a17))) rfl rfl rfl (Lk.nilChk rfl rfl e10) fun _ => ?_
  refine R.look (v := (.pointer (some a17))) rfl rfl rfl (Lk.fldAddr rfl Tryd.underlying106 rfl rfl T29 rfl rfl rfl) fun _ => ?_
  refine R.look (v := (.pointer (some (Addr.add a17 1)))) rfl rfl rfl (Lk.fldAddr rfl Tryd.underlying29 rfl rfl T27 rfl rfl rfl) fun _ => ?_
  obtain ⟨v20, e11, hS⟩ := hS
  refine R.look rfl rfl rfl (Look.loc ok (Lk.load1 rfl Tryd.underlying27 rfl rfl e11)) fun _ => ?_
  refine R.look rfl rfl rfl (Lk.len rfl Tryd.underlying27 rfl) fun _ => ?_
  refine R.look rfl rfl rfl (Lk.move rfl rfl) fun _ => ?_
  refine R.nil ?_
  refine EvC.block ?_
  refine EvC.loop ?_
  refine LoopC.lfp (σ := Int) (fun s => (Env.put (Env.put (Env.put (Env.put Env.emp 22 (.int .i64 s)) 21 (.int .i64 (v20.l : Int))) 20 (.slice v20.a v20.l v20.c)) 0 (.pointer p0))) (fun s => []) (fun X hX => ?_) hS (ok.sub List.Sublist.slnil) (Env.le_put rfl (Env.le_put rfl (Env.le_put rfl (Env.le_put rfl (Env.le_emp _))))) (H.add_sub ok List.Sublist.slnil)
  intro v22 h_3 hS ok
  replace hS : S40_l1 p0 K v20 X v22 h_3 := hS
  change EvC _ _ _ (Env.put (Env.put (Env.put (Env.put Env.emp 22 (.int .i64 v22)) 21 (.int .i64 (v20.l : Int))) 20 (.slice v20.a v20.l v20.c)) 0 (.pointer p0)) (H.add h_3 []) _
  unfold S40_l1 at hS
  refine EvC.seq ?_
  refine EvC.region [Item.look 0] (by kernel_rfl) ?_
  refine R.look rfl rfl rfl (Lk.arith rfl rfl rfl rfl) fun _ => ?_
  refine R.nil ?_
  refine EvC.seq ?_
  by_cases e12 : (decide (v22 < (v20.l : Int))) = true
  · rw [if_pos e12] at hS
    refine EvC.condT rfl e12 ?_
    refine EvC.skip ?_
    refine EvC.seq ?_
    refine EvC.block ?_
    refine EvC.seq ?_
    refine EvC.region [Item.look 0, Item.look 1, Item.look 2, Item.alc 3, Item.look 4, Item.eff 5 []] (by kernel_rfl) ?_
    refine R.look rfl rfl rfl (Lk.move rfl rfl) fun _ => ?_
    obtain ⟨a25, e13, e14, e15, hS⟩ := hS
    refine R.look rfl rfl rfl (Lk.ixAddr rfl Tryd.underlying27 T54 rfl e13 rfl e14 e15) fun _ => ?_
    obtain ⟨v26_0, v26_1, v26_2, v26_3, e16, hS⟩ := hS
    refine R.look rfl rfl rfl (Look.loc ok (Lk.loadN rfl Tryd.underlying54 rfl T54 rfl e16)) fun _ => ?_
    refine R.var (blk := .row ⟨[(.int .i64 0), (.int .i64 0), (.int .i64 0), (.string ⟨#[]⟩)], 4, 54, true, true⟩) ok rfl rfl rfl (Ac.alloc rfl T54) rfl rfl fun b3 ok => ?_
    refine R.look rfl rfl rfl (Lk.assign rfl rfl) fun _ => ?_
    refine R.effN rfl rfl rfl (Ef.storeLoc (i := 0) (vs := [(.int .i64 v26_0), (.int .i64 v26_1), (.int .i64 v26_2), (.string v26_3)]) (cs := [(.int .i64 v26_0), (.int .i64 v26_1), (.int .i64 v26_2), (.string v26_3)]) (l' := [(b3, .row ⟨[(.int .i64 v26_0), (.int .i64 v26_1), (.int .i64 v26_2), (.string v26_3)], 4, 54, true, true⟩)]) ok rfl T54 rfl rfl rfl rfl rfl rfl rfl rfl rfl rfl fun ok => ⟨noChk, ?_⟩)
    refine R.nil ?_
    refine EvC.seq ?_
    refine EvC.draw [0, 1, 3, 7, 0, 16, 0, 64, 63, 511, 0, 1024, 3072, 7168, 0, 16384, 0, 65536, 196608, 64512, 1047552, 459775, 4194303] [Item.look 0, Item.look 1, Item.look 2, Item.look 3, Item.look 4, Item.look 5, Item.look 6, Item.look 7, Item.look 8, Item.look 9, Item.look 10, Item.look 11, Item.look 12, Item.look 13, Item.look 14, Item.look 15, Item.look 16, Item.look 19, Item.eff 17 [0, 1, 2, 3, 4, 5, 6, 7, 8, 9, 10, 11, 12, 13, 14, 15, 19], Item.eff 18 [0, 1, 2, 3, 4, 5, 6, 7, 8, 9, 10, 11, 12, 13, 14, 15, 19], Item.look 20, Item.look 21, Item.look 22] MO (by kernel_rfl) ?_
    refine R.lookL rfl rfl rfl (Lk.move rfl rfl) ?_
    obtain ⟨a28, e17, hS⟩ := hS
    refine R.lookL (v := (.pointer (some a28))) rfl rfl rfl (Lk.nilChk rfl rfl e17) ?_
    refine R.lookL (v := (.pointer (some (Addr.add a28 3)))) rfl rfl rfl (Lk.fldAddr rfl Tryd.underlying106 rfl rfl T104 rfl rfl rfl) ?_
    obtain ⟨v30, e18, hS⟩ := hS
    refine R.lookL rfl rfl rfl (Look.loc ok (Lk.load1 rfl Tryd.underlying104 rfl rfl e18)) ?_
    refine R.lookL (v := (.pointer (some ⟨b3, 0, none⟩))) rfl rfl rfl (Lk.fldAddr rfl Tryd.underlying54 rfl rfl T3 rfl rfl rfl) ?_
    refine R.lookL rfl rfl rfl (Lk.load1 (v := (.int .i64 v26_0)) rfl Tryd.underlying3 rfl rfl (H.rd_loc ok (i := 0) rfl rfl)) ?_
    refine R.lookL (v := (.pointer (some ⟨b3, 2, none⟩))) rfl rfl rfl (Lk.fldAddr rfl Tryd.underlying54 rfl rfl T3 rfl rfl rfl) ?_
    refine R.lookL rfl rfl rfl (Lk.load1 (v := (.int .i64 v26_2)) rfl Tryd.underlying3 rfl rfl (H.rd_loc ok (i := 0) rfl rfl)) ?_
    obtain ⟨a35, e19, e20, e21, hS⟩ := hS
    refine R.lookL rfl rfl rfl (Lk.ixAddr rfl Tryd.underlying104 T145 rfl e19 rfl e20 e21) ?_
    obtain ⟨e22, e23, hS⟩ := hS
    refine R.lookL rfl rfl rfl (Lk.indexAddrA rfl Tryd.underlying145 T144 rfl rfl e22 e23) ?_
    refine R.lookL rfl rfl rfl (Lk.move rfl rfl) ?_
    obtain ⟨a38, e24, hS⟩ := hS
    refine R.lookL (v := (.pointer (some a38))) rfl rfl rfl (Lk.nilChk rfl rfl e24) ?_
    refine R.lookL (v := (.pointer (some (Addr.add a38 3)))) rfl rfl rfl (Lk.fldAddr rfl Tryd.underlying106 rfl rfl T104 rfl rfl rfl) ?_
    obtain ⟨v40, e25, hS⟩ := hS
    refine R.lookL rfl rfl rfl (Look.loc ok (Lk.load1 rfl Tryd.underlying104 rfl rfl e25)) ?_
    refine R.lookL (v := (.pointer (some ⟨b3, 1, none⟩))) rfl rfl rfl (Lk.fldAddr rfl Tryd.underlying54 rfl rfl T3 rfl rfl rfl) ?_
    refine R.lookL rfl rfl rfl (Lk.load1 (v := (.int .i64 v26_1)) rfl Tryd.underlying3 rfl rfl (H.rd_loc ok (i := 0) rfl rfl)) ?_
    refine R.lookL rfl rfl rfl (Lk.loadN (vs := [(.int .i64 v26_0), (.int .i64 v26_1), (.int .i64 v26_2), (.string v26_3)]) rfl Tryd.underlying54 rfl T54 rfl (H.rdn_loc ok (i := 0) rfl rfl rfl)) ?_
    obtain ⟨a46, e26, e27, e28, hS⟩ := hS
    refine R.lookL rfl rfl rfl (Lk.ixAddr rfl Tryd.underlying104 T145 rfl e26 rfl e27 e28) ?_
    refine R.eff rfl rfl rfl (Eff.loc ok (Ef.call rfl CB71 rfl ((f71_ok hS).mono ?_)))
    rintro _ h_4 ⟨v44, rfl, hS⟩
    obtain ⟨e29, hS⟩ := hS
    obtain ⟨e30, hS⟩ := hS
    refine fun ok => ⟨(List.forall_mem_cons.2 ⟨(Log.past (by decide) (Log.past (by decide) (Log.past (by decide) (Log.past (by decide) (Log.past (by decide) (Log.past (by decide) (Log.past (by decide) (Log.past (by decide) (Log.past (by decide) (Log.past (by decide) (Log.past (by decide) (Log.past (by decide) (Log.past (by decide) (Log.past (by decide) (Log.past (by decide) (Log.past (by decide) (Log.past (by decide) (Log.at_ (LookG.of rfl (Lk.move rfl rfl)))))))))))))))))))), (List.forall_mem_cons.2 ⟨(Log.past (by decide) (Log.past (by decide) (Log.past (by decide) (Log.past (by decide) (Log.past (by decide) (Log.past (by decide) (Log.past (by decide) (Log.past (by decide) (Log.past (by decide) (Log.past (by decide) (Log.past (by decide) (Log.past (by decide) (Log.past (by decide) (Log.past (by decide) (Log.past (by decide) (Log.past (by decide) (Log.at_ (LookG.of rfl (Lk.nilChk rfl rfl e17))))))))))))))))))), (List.forall_mem_cons.2 ⟨(Log.past (by decide) (Log.past (by decide) (Log.past (by decide) (Log.past (by decide) (Log.past (by decide) (Log.past (by decide) (Log.past (by decide) (Log.past (by decide) (Log.past (by decide) (Log.past (by decide) (Log.past (by decide) (Log.past (by decide) (Log.past (by decide) (Log.past (by decide) (Log.past (by decide) (Log.at_ (LookG.of rfl (Lk.fldAddr rfl Tryd.underlying106 rfl rfl T104 rfl rfl rfl)))))))))))))))))), (List.forall_mem_cons.2 ⟨(Log.past (by decide) (Log.past (by decide) (Log.past (by decide) (Log.past (by decide) (Log.past (by decide) (Log.past (by decide) (Log.past (by decide) (Log.past (by decide) (Log.past (by decide) (Log.past (by decide) (Log.past (by decide) (Log.past (by decide) (Log.past (by decide) (Log.past (by decide) (Log.at_ (LookG.of rfl (Look.loc ok (Lk.load1 rfl Tryd.underlying104 rfl rfl e29)))))))))))))))))), (List.forall_mem_cons.2 ⟨(Log.past (by decide) (Log.past (by decide) (Log.past (by decide) (Log.past (by decide) (Log.past (by decide) (Log.past (by decide) (Log.past (by decide) (Log.past (by decide) (Log.past (by decide) (Log.past (by decide) (Log.past (by decide) (Log.past (by decide) (Log.past (by decide) (Log.at_ (LookG.of rfl (Lk.fldAddr rfl Tryd.underlying54 rfl rfl T3 rfl rfl rfl)))))))))))))))), (List.forall_mem_cons.2 ⟨(Log.past (by decide) (Log.past (by decide) (Log.past (by decide) (Log.past (by decide) (Log.past (by decide) (Log.past (by decide) (Log.past (by decide) (Log.past (by decide) (Log.past (by decide) (Log.past (by decide) (Log.past (by decide) (Log.past (by decide) (Log.at_ (LookG.of rfl (Lk.load1 (v := (.int .i64 v26_0)) rfl Tryd.underlying3 rfl rfl (H.rd_loc ok (i := 0) rfl rfl)))))))))))))))), (List.forall_mem_cons.2 ⟨(Log.past (by decide) (Log.past (by decide) (Log.past (by decide) (Log.past (by decide) (Log.past (by decide) (Log.past (by decide) (Log.past (by decide) (Log.past (by decide) (Log.past (by decide) (Log.past (by decide) (Log.past (by decide) (Log.at_ (LookG.of rfl (Lk.fldAddr rfl Tryd.underlying54 rfl rfl T3 rfl rfl rfl)))))))))))))), (List.forall_mem_cons.2 ⟨(Log.past (by decide) (Log.past (by decide) (Log.past (by decide) (Log.past (by decide) (Log.past (by decide) (Log.past (by decide) (Log.past (by decide) (Log.past (by decide) (Log.past (by decide) (Log.past (by decide) (Log.at_ (LookG.of rfl (Lk.load1 (v := (.int .i64 v26_2)) rfl Tryd.underlying3 rfl rfl (H.rd_loc ok (i := 0) rfl rfl)))))))))))))), (List.forall_mem_cons.2 ⟨(Log.past (by decide) (Log.past (by decide) (Log.past (by decide) (Log.past (by decide) (Log.past (by decide) (Log.past (by decide) (Log.past (by decide) (Log.past (by decide) (Log.past (by decide) (Log.at_ (LookG.of rfl (Lk.ixAddr rfl Tryd.underlying104 T145 rfl e19 rfl e20 e21)))))))))))), (List.forall_mem_cons.2 ⟨(Log.past (by decide) (Log.past (by decide) (Log.past (by decide) (Log.past (by decide) (Log.past (by decide) (Log.past (by decide) (Log.past (by decide) (Log.past (by decide) (Log.at_ (LookG.of rfl (Lk.indexAddrA rfl Tryd.underlying145 T144 rfl rfl e22 e23))))))))))), (List.forall_mem_cons.2 ⟨(Log.past (by decide) (Log.past (by decide) (Log.past (by decide) (Log.past (by decide) (Log.past (by decide) (Log.past (by decide) (Log.past (by decide) (Log.at_ (LookG.of rfl (Lk.move rfl rfl)))))))))), (List.forall_mem_cons.2 ⟨(Log.past (by decide) (Log.past (by decide) (Log.past (by decide) (Log.past (by decide) (Log.past (by decide) (Log.past (by decide) (Log.at_ (LookG.of rfl (Lk.nilChk rfl rfl e24))))))))), (List.forall_mem_cons.2 ⟨(Log.past (by decide) (Log.past (by decide) (Log.past (by decide) (Log.past (by decide) (Log.past (by decide) (Log.at_ (LookG.of rfl (Lk.fldAddr rfl Tryd.underlying106 rfl rfl T104 rfl rfl rfl)))))))), (List.forall_mem_cons.2 ⟨(Log.past (by decide) (Log.past (by decide) (Log.past (by decide) (Log.past (by decide) (Log.at_ (LookG.of rfl (Look.loc ok (Lk.load1 rfl Tryd.underlying104 rfl rfl e30)))))))), (List.forall_mem_cons.2 ⟨(Log.past (by decide) (Log.past (by decide) (Log.past (by decide) (Log.at_ (LookG.of rfl (Lk.fldAddr rfl Tryd.underlying54 rfl rfl T3 rfl rfl rfl)))))), (List.forall_mem_cons.2 ⟨(Log.past (by decide) (Log.past (by decide) (Log.at_ (LookG.of rfl (Lk.load1 (v := (.int .i64 v26_1)) rfl Tryd.underlying3 rfl rfl (H.rd_loc ok (i := 0) rfl rfl)))))), (List.forall_mem_cons.2 ⟨(Log.at_ (LookG.of rfl (Lk.ixAddr rfl Tryd.underlying104 T145 rfl e26 rfl e27 e28))), noChk⟩)⟩)⟩)⟩)⟩)⟩)⟩)⟩)⟩)⟩)⟩)⟩)⟩)⟩)⟩)⟩)⟩), ?_⟩
    refine R.eff rfl rfl rfl (Eff.loc ok (Ef.call rfl CB56 rfl ((f56_ok hS).mono ?_)))
    rintro _ h_5 ⟨v45, rfl, hS⟩
    obtain ⟨e31, hS⟩ := hS
    obtain ⟨e32, hS⟩ := hS
    refine fun ok => ⟨(List.forall_mem_cons.2 ⟨(Log.past (by decide) (Log.past (by decide) (Log.past (by decide) (Log.past (by decide) (Log.past (by decide) (Log.past (by decide) (Log.past (by decide) (Log.past (by decide) (Log.past (by decide) (Log.past (by decide) (Log.past (by decide) (Log.past (by decide) (Log.past (by decide) (Log.past (by decide) (Log.past (by decide) (Log.past (by decide) (Log.past (by decide) (Log.at_ (LookG.of rfl (Lk.move rfl rfl)))))))))))))))))))), (List.forall_mem_cons.2 ⟨(Log.past (by decide) (Log.past (by decide) (Log.past (by decide) (Log.past (by decide) (Log.past (by decide) (Log.past (by decide) (Log.past (by decide) (Log.past (by decide) (Log.past (by decide) (Log.past (by decide) (Log.past (by decide) (Log.past (by decide) (Log.past (by decide) (Log.past (by decide) (Log.past (by decide) (Log.past (by decide) (Log.at_ (LookG.of rfl (Lk.nilChk rfl rfl e17))))))))))))))))))), (List.forall_mem_cons.2 ⟨(Log.past (by decide) (Log.past (by decide) (Log.past (by decide) (Log.past (by decide) (Log.past (by decide) (Log.past (by decide) (Log.past (by decide) (Log.past (by decide) (Log.past (by decide) (Log.past (by decide) (Log.past (by decide) (Log.past (by decide) (Log.past (by decide) (Log.past (by decide) (Log.past (by decide) (Log.at_ (LookG.of rfl (Lk.fldAddr rfl Tryd.underlying106 rfl rfl T104 rfl rfl rfl)))))))))))))))))), (List.forall_mem_cons.2 ⟨(Log.past (by decide) (Log.past (by decide) (Log.past (by decide) (Log.past (by decide) (Log.past (by decide) (Log.past (by decide) (Log.past (by decide) (Log.past (by decide) (Log.past (by decide) (Log.past (by decide) (Log.past (by decide) (Log.past (by decide) (Log.past (by decide) (Log.past (by decide) (Log.at_ (LookG.of rfl (Look.loc ok (Lk.load1 rfl Tryd.underlying104 rfl rfl e31)))))))))))))))))), (List.forall_mem_cons.2 ⟨(Log.past (by decide) (Log.past (by decide) (Log.past (by decide) (Log.past (by decide) (Log.past (by decide) (Log.past (by decide) (Log.past (by decide) (Log.past (by decide) (Log.past (by decide) (Log.past (by decide) (Log.past (by decide) (Log.past (by decide) (Log.past (by decide) (Log.at_ (LookG.of rfl (Lk.fldAddr rfl Tryd.underlying54 rfl rfl T3 rfl rfl rfl)))))))))))))))), (List.forall_mem_cons.2 ⟨(Log.past (by decide) (Log.past (by decide) (Log.past (by decide) (Log.past (by decide) (Log.past (by decide) (Log.past (by decide) (Log.past (by decide) (Log.past (by decide) (Log.past (by decide) (Log.past (by decide) (Log.past (by decide) (Log.past (by decide) (Log.at_ (LookG.of rfl (Lk.load1 (v := (.int .i64 v26_0)) rfl Tryd.underlying3 rfl rfl (H.rd_loc ok (i := 0) rfl rfl)))))))))))))))), (List.forall_mem_cons.2 ⟨(Log.past (by decide) (Log.past (by decide) (Log.past (by decide) (Log.past (by decide) (Log.past (by decide) (Log.past (by decide) (Log.past (by decide) (Log.past (by decide) (Log.past (by decide) (Log.past (by decide) (Log.past (by decide) (Log.at_ (LookG.of rfl (Lk.fldAddr rfl Tryd.underlying54 rfl rfl T3 rfl rfl rfl)))))))))))))), (List.forall_mem_cons.2 ⟨(Log.past (by decide) (Log.past (by decide) (Log.past (by decide) (Log.past (by decide) (Log.past (by decide) (Log.past (by decide) (Log.past (by decide) (Log.past (by decide) (Log.past (by decide) (Log.past (by decide) (Log.at_ (LookG.of rfl (Lk.load1 (v := (.int .i64 v26_2)) rfl Tryd.underlying3 rfl rfl (H.rd_loc ok (i := 0) rfl rfl)))))))))))))), (List.forall_mem_cons.2 ⟨(Log.past (by decide) (Log.past (by decide) (Log.past (by decide) (Log.past (by decide) (Log.past (by decide) (Log.past (by decide) (Log.past (by decide) (Log.past (by decide) (Log.past (by decide) (Log.at_ (LookG.of rfl (Lk.ixAddr rfl Tryd.underlying104 T145 rfl e19 rfl e20 e21)))))))))))), (List.forall_mem_cons.2 ⟨(Log.past (by decide) (Log.past (by decide) (Log.past (by decide) (Log.past (by decide) (Log.past (by decide) (Log.past (by decide) (Log.past (by decide) (Log.past (by decide) (Log.at_ (LookG.of rfl (Lk.indexAddrA rfl Tryd.underlying145 T144 rfl rfl e22 e23))))))))))), (List.forall_mem_cons.2 ⟨(Log.past (by decide) (Log.past (by decide) (Log.past (by decide) (Log.past (by decide) (Log.past (by decide) (Log.past (by decide) (Log.past (by decide) (Log.at_ (LookG.of rfl (Lk.move rfl rfl)))))))))), (List.forall_mem_cons.2 ⟨(Log.past (by decide) (Log.past (by decide) (Log.past (by decide) (Log.past (by decide) (Log.past (by decide) (Log.past (by decide) (Log.at_ (LookG.of rfl (Lk.nilChk rfl rfl e24))))))))), (List.forall_mem_cons.2 ⟨(Log.past (by decide) (Log.past (by decide) (Log.past (by decide) (Log.past (by decide) (Log.past (by decide) (Log.at_ (LookG.of rfl (Lk.fldAddr rfl Tryd.underlying106 rfl rfl T104 rfl rfl rfl)))))))), (List.forall_mem_cons.2 ⟨(Log.past (by decide) (Log.past (by decide) (Log.past (by decide) (Log.past (by decide) (Log.at_ (LookG.of rfl (Look.loc ok (Lk.load1 rfl Tryd.underlying104 rfl rfl e32)))))))), (List.forall_mem_cons.2 ⟨(Log.past (by decide) (Log.past (by decide) (Log.past (by decide) (Log.at_ (LookG.of rfl (Lk.fldAddr rfl Tryd.underlying54 rfl rfl T3 rfl rfl rfl)))))), (List.forall_mem_cons.2 ⟨(Log.past (by decide) (Log.past (by decide) (Log.at_ (LookG.of rfl (Lk.load1 (v := (.int .i64 v26_1)) rfl Tryd.underlying3 rfl rfl (H.rd_loc ok (i := 0) rfl rfl)))))), (List.forall_mem_cons.2 ⟨(Log.at_ (LookG.of rfl (Lk.ixAddr rfl Tryd.underlying104 T145 rfl e26 rfl e27 e28))), noChk⟩)⟩)⟩)⟩)⟩)⟩)⟩)⟩)⟩)⟩)⟩)⟩)⟩)⟩)⟩)⟩)⟩), ?_⟩
    obtain ⟨e33, e34, hS⟩ := hS
    refine R.lookL rfl rfl rfl (Lk.indexAddrA rfl Tryd.underlying145 T144 rfl rfl e33 e34) ?_
    refine R.lookL rfl rfl rfl (Lk.assign rfl rfl) ?_
    refine R.lookL rfl rfl rfl (Lk.assign rfl rfl) ?_
    refine R.nil ?_
    refine EvC.seq ?_
    refine EvC.region [Item.look 0, Item.look 1, Item.look 2, Item.look 3, Item.look 4, Item.look 5, Item.alc 6, Item.eff 7 [], Item.look 8, Item.eff 9 []] (by kernel_rfl) ?_
    refine R.look rfl rfl rfl (Lk.move rfl rfl) fun _ => ?_
    refine R.look rfl rfl rfl (Lk.move rfl rfl) fun _ => ?_
    refine R.look rfl rfl rfl (Lk.nilCheck rfl rfl) fun _ => ?_
    obtain ⟨v51, e35, hS⟩ := hS
    refine R.look rfl rfl rfl (Look.loc ok (Lk.load1 rfl Tryd.underlying144 rfl rfl e35)) fun _ => ?_
    refine R.look rfl rfl rfl (Lk.move rfl rfl) fun _ => ?_
    refine R.look rfl rfl rfl (Lk.build (cs := [(.int .i64 v22), (.int .i64 0)]) (pl := [(0, 1), (1, 1)]) rfl Tryd.underlying147 T147 (PlacesL.places (.cons T3 (.cons T3 PlacesL.nil))) rfl rfl) fun _ => ?_
    refine R.appL (cs := [(.int .i64 v22), (.int .i64 0)]) ok rfl rfl rfl rfl rfl rfl rfl rfl Tryd.underlying144 T147 rfl (by decide) (by decide) rfl rfl rfl rfl rfl (fun _ => rfl) hS ?_
    intro bb54 v55 h_6 hS ok
    refine ⟨noChk, ?_⟩
    refine R.look rfl rfl rfl (Lk.nilCheck rfl rfl) fun _ => ?_
    obtain ⟨h_7, e36, hS⟩ := hS
    refine R.effN rfl rfl rfl (Eff.loc ok (Ef.store rfl T144 rfl rfl rfl rfl rfl e36 fun ok => ⟨noChk, ?_⟩))
    refine R.nil ?_
    refine EvC.region [Item.look 0, Item.look 1, Item.look 2, Item.look 3, Item.look 4, Item.look 5, Item.alc 6, Item.eff 7 [], Item.look 8, Item.eff 9 []] (by kernel_rfl) ?_
    refine R.look rfl rfl rfl (Lk.move rfl rfl) fun _ => ?_
    refine R.look rfl rfl rfl (Lk.move rfl rfl) fun _ => ?_
    refine R.look rfl rfl rfl (Lk.nilCheck rfl rfl) fun _ => ?_
    obtain ⟨v60, e37, hS⟩ := hS
    refine R.look rfl rfl rfl (Look.loc ok (Lk.load1 rfl Tryd.underlying144 rfl rfl e37)) fun _ => ?_
    refine R.look rfl rfl rfl (Lk.move rfl rfl) fun _ => ?_
    refine R.look rfl rfl rfl (Lk.build (cs := [(.int .i64 v22), (.int .i64 1)]) (pl := [(0, 1), (1, 1)]) rfl Tryd.underlying147 T147 (PlacesL.places (.cons T3 (.cons T3 PlacesL.nil))) rfl rfl) fun _ => ?_
    refine R.appL (cs := [(.int .i64 v22), (.int .i64 1)]) ok rfl rfl rfl rfl rfl rfl rfl rfl Tryd.underlying144 T147 rfl (by decide) (by decide) rfl rfl rfl rfl rfl (fun _ => rfl) hS ?_
    intro bb63 v64 h_8 hS ok
    refine ⟨noChk, ?_⟩
    refine R.look rfl rfl rfl (Lk.nilCheck rfl rfl) fun _ => ?_
    obtain ⟨h_9, e38, hS⟩ := hS
    refine R.effN rfl rfl rfl (Eff.loc ok (Ef.store rfl T144 rfl rfl rfl rfl rfl e38 fun ok => ⟨noChk, ?_⟩))
    refine R.nil ?_
    refine EvC.region [Item.look 0, Item.look 1] (by kernel_rfl) ?_
    refine R.look rfl rfl rfl (Lk.arith rfl rfl rfl rfl) fun _ => ?_
    refine R.look rfl rfl rfl (Lk.move rfl rfl) fun _ => ?_
    refine R.nil ?_
    exact hX (IntKind.wrap .i64 (v22 + 1)) _ _ _ hS (ok.sub (.cons _ List.Sublist.slnil)) (Env.le_put rfl (Env.le_put rfl (Env.le_put rfl (Env.le_put rfl (Env.le_emp _))))) (H.add_sub ok (.cons _ List.Sublist.slnil))
  · rw [if_neg e12] at hS
    replace e12 := eq_false_of_ne_true e12
    refine EvC.condF rfl e12 ?_
    refine EvC.exit ?_
    exact ⟨.inl rfl, _, _, .nil, ok.le, rfl, hS⟩
end Go.Proofs.YtimadnngfhbfiaaDoor
end

section
/- PRINTED by wip/gen.py: the machine's call of (*muntin/norm.maker).count does what S41 says. -/
namespace Go.Proofs.YtimadnngfhbfiaaDoor
open Go Go.Mu
set_option maxHeartbeats 4000000
set_option maxRecDepth 100000
theorem f41_ok {p0 : Option Addr} {h : H} {K : Int → H → Prop} (hS : S41 p0 h K) : ACall Tryd.prog 41 ([(.pointer p0)] : List Value).toArray h (fun r h' => ∃ r0 : Int, r = tup [(.int .i64 r0)] ∧ K r0 h') := by
  refine ACall.enter (fn := Tryd.f41) Tryd.func41 rfl (Nat.le_of_ble_eq_true rfl) ?_
  unfold S41 at hS
  have ok := Lok.nil h
  change EvC _ _ _ _ (H.add h []) _
  refine EvC.seq ?_
  refine EvC.region [Item.look 0] (by kernel_rfl) ?_
  refine R.look rfl rfl rfl (Lk.assign rfl rfl) fun _ => ?_
  refine R.nil ?_
  refine EvC.seq ?_
  refine EvC.region [Item.look 0] (by kernel_rfl) ?_
  refine R.look rfl rfl rfl (Lk.assign rfl rfl) fun _ => ?_
  refine R.nil ?_
  refine EvC.join (σ := Int) (fun s => (Env.put (Env.put Env.emp 3 (.int .i64 s)) 0 (.pointer p0))) (fun s => []) (fun s h_1 => S41_j3 p0 K s h_1) ?_ (fun Ih_1 hIh_1 => ?_)
  · intro v3 h_1 ok hS
    replace hS : S41_j3 p0 K v3 h_1 := hS
    change EvC _ _ _ (Env.put (Env.put Env.emp 3 (.int .i64 v3)) 0 (.pointer p0)) (H.add h_1 []) _
    unfold S41_j3 at hS
    refine EvC.join (σ := Int) (fun s => (Env.put Env.emp 3 (.int .i64 s))) (fun s => []) (fun s h_2 => S41_j1 K s h_2) ?_ (fun Ih_2 hIh_2 => ?_)
    · intro v3_1 h_2 ok hS
      replace hS : S41_j1 K v3_1 h_2 := hS
      change EvC _ _ _ (Env.put Env.emp 3 (.int .i64 v3_1)) (H.add h_2 []) _
      unfold S41_j1 at hS
      refine EvC.seq ?_
      refine EvC.region [Item.look 0, Item.look 1] (by kernel_rfl) ?_
      refine R.look rfl rfl rfl (Lk.move rfl rfl) fun _ => ?_
      refine R.look rfl rfl rfl (Lk.assign rfl rfl) fun _ => ?_
      refine R.nil ?_
      refine EvC.ret ?_
      exact ⟨.inr rfl, _, _, (.cons (.tmp rfl) .nil), ok.le, _, rfl, hS⟩
    · refine EvC.seq ?_
      refine EvC.region [Item.look 0, Item.look 1, Item.look 2, Item.look 3, Item.look 4, Item.look 5, Item.look 6] (by kernel_rfl) ?_
      refine R.look rfl rfl rfl (Lk.move rfl rfl) fun _ => ?_
      obtain ⟨a43, e1, hS⟩ := hS
      refine R.look (v := (.pointer (some a43))) rfl rfl rfl (Lk.nilChk rfl rfl e1) fun _ => ?_
      refine R.look (v := (.pointer (some a43))) rfl rfl rfl (Lk.fldAddr rfl Tryd.underlying106 rfl rfl T29 rfl rfl rfl) fun _ => ?_
      refine R.look (v := (.pointer (some (Addr.add a43 1)))) rfl rfl rfl (Lk.fldAddr rfl Tryd.underlying29 rfl rfl T27 rfl rfl rfl) fun _ => ?_
      obtain ⟨v46, e2, hS⟩ := hS
      refine R.look rfl rfl rfl (Look.loc ok (Lk.load1 rfl Tryd.underlying27 rfl rfl e2)) fun _ => ?_
      refine R.look rfl rfl rfl (Lk.len rfl Tryd.underlying27 rfl) fun _ => ?_
      refine R.look rfl rfl rfl (Lk.move rfl rfl) fun _ => ?_
      refine R.nil ?_
      refine EvC.block ?_
      refine EvC.loop ?_
      refine LoopC.lfp (σ := Int × Int) (fun s => (Env.put (Env.put (Env.put (Env.put Env.emp 48 (.int .i64 s.2)) 47 (.int .i64 (v46.l : Int))) 46 (.slice v46.a v46.l v46.c)) 3 (.int .i64 s.1))) (fun s => []) (fun X hX => ?_) hS (ok.sub List.Sublist.slnil) (Env.le_put rfl (Env.le_put rfl (Env.le_put rfl (Env.le_put rfl (Env.le_emp _))))) (H.add_sub ok List.Sublist.slnil)
      rintro ⟨v3_2, v48⟩ h_3 hS ok
      replace hS : S41_l2 K v46 X v3_2 v48 h_3 := hS
      change EvC _ _ _ (Env.put (Env.put (Env.put (Env.put Env.emp 48 (.int .i64 v48)) 47 (.int .i64 (v46.l : Int))) 46 (.slice v46.a v46.l v46.c)) 3 (.int .i64 v3_2)) (H.add h_3 []) _
      unfold S41_l2 at hS
      refine EvC.seq ?_
      refine EvC.region [Item.look 0] (by kernel_rfl) ?_
      refine R.look rfl rfl rfl (Lk.arith rfl rfl rfl rfl) fun _ => ?_
      refine R.nil ?_
      refine EvC.seq ?_
      by_cases e3 : (decide (v48 < (v46.l : Int))) = true
      · rw [if_pos e3] at hS
        refine EvC.condT rfl e3 ?_
        refine EvC.skip ?_
        refine EvC.seq ?_
        refine EvC.block ?_
        refine EvC.seq ?_
        refine EvC.region [Item.look 0, Item.look 1, Item.alc 2, Item.eff 3 []] (by kernel_rfl) ?_
        obtain ⟨a50, e4, e5, e6, hS⟩ := hS
        refine R.look rfl rfl rfl (Lk.ixAddr rfl Tryd.underlying27 T54 rfl e4 rfl e5 e6) fun _ => ?_
        obtain ⟨v51_0, v51_1, v51_2, v51_3, e7, hS⟩ := hS
        refine R.look rfl rfl rfl (Look.loc ok (Lk.loadN rfl Tryd.underlying54 rfl T54 rfl e7)) fun _ => ?_
        refine R.var (blk := .row ⟨[(.int .i64 0), (.int .i64 0), (.int .i64 0), (.string ⟨#[]⟩)], 4, 54, true, true⟩) ok rfl rfl rfl (Ac.alloc rfl T54) rfl rfl fun b9 ok => ?_
        refine R.effN rfl rfl rfl (Ef.storeLoc (i := 0) (vs := [(.int .i64 v51_0), (.int .i64 v51_1), (.int .i64 v51_2), (.string v51_3)]) (cs := [(.int .i64 v51_0), (.int .i64 v51_1), (.int .i64 v51_2), (.string v51_3)]) (l' := [(b9, .row ⟨[(.int .i64 v51_0), (.int .i64 v51_1), (.int .i64 v51_2), (.string v51_3)], 4, 54, true, true⟩)]) ok rfl T54 rfl rfl rfl rfl rfl rfl rfl rfl rfl rfl fun ok => ⟨noChk, ?_⟩)
        refine R.nil ?_
        refine EvC.region [Item.look 0, Item.look 1, Item.look 2, Item.look 3, Item.look 4, Item.look 5] (by kernel_rfl) ?_
        refine R.look rfl rfl rfl (Lk.move rfl rfl) fun _ => ?_
        refine R.look (v := (.pointer (some ⟨b9, 3, none⟩))) rfl rfl rfl (Lk.fldAddr rfl Tryd.underlying54 rfl rfl T9 rfl rfl rfl) fun _ => ?_
        refine R.look rfl rfl rfl (Lk.load1 (v := (.string v51_3)) rfl Tryd.underlying9 rfl rfl (H.rd_loc ok (i := 0) rfl rfl)) fun _ => ?_
        refine R.look rfl rfl rfl (Lk.lenS rfl Tryd.underlying9 rfl) fun _ => ?_
        refine R.look rfl rfl rfl (Lk.arith rfl rfl rfl rfl) fun _ => ?_
        refine R.look rfl rfl rfl (Lk.assign rfl rfl) fun _ => ?_
        refine R.nil ?_
        refine EvC.region [Item.look 0, Item.look 1] (by kernel_rfl) ?_
        refine R.look rfl rfl rfl (Lk.arith rfl rfl rfl rfl) fun _ => ?_
        refine R.look rfl rfl rfl (Lk.move rfl rfl) fun _ => ?_
        refine R.nil ?_
        exact hX ((IntKind.wrap .i64 (v3_2 + (ByteArray.size v51_3 : Int))), (IntKind.wrap .i64 (v48 + 1))) _ _ _ hS (ok.sub (.cons _ List.Sublist.slnil)) (Env.le_put rfl (Env.le_put rfl (Env.le_put rfl (Env.le_put rfl (Env.le_emp _))))) (H.add_sub ok (.cons _ List.Sublist.slnil))
      · rw [if_neg e3] at hS
        replace e3 := eq_false_of_ne_true e3
        refine EvC.condF rfl e3 ?_
        refine EvC.exit ?_
        exact hIh_2 v3_2 _ _ _ (Env.le_put rfl (Env.le_emp _)) (ok.sub List.Sublist.slnil) (H.add_sub ok List.Sublist.slnil) hS
  · refine EvC.seq ?_
    refine EvC.region [Item.look 0, Item.look 1, Item.look 2, Item.look 3, Item.look 4, Item.look 5, Item.look 6] (by kernel_rfl) ?_
    refine R.look rfl rfl rfl (Lk.move rfl rfl) fun _ => ?_
    obtain ⟨a11, e8, hS⟩ := hS
    refine R.look (v := (.pointer (some a11))) rfl rfl rfl (Lk.nilChk rfl rfl e8) fun _ => ?_
    refine R.look (v := (.pointer (some a11))) rfl rfl rfl (Lk.fldAddr rfl Tryd.underlying106 rfl rfl T29 rfl rfl rfl) fun _ => ?_
    refine R.look (v := (.pointer (some a11))) rfl rfl rfl (Lk.fldAddr rfl Tryd.underlying29 rfl rfl T22 rfl rfl rfl) fun _ => ?_
    obtain ⟨v14, e9, hS⟩ := hS
    refine R.look rfl rfl rfl (Look.loc ok (Lk.load1 rfl Tryd.underlying22 rfl rfl e9)) fun _ => ?_
    refine R.look rfl rfl rfl (Lk.len rfl Tryd.underlying22 rfl) fun _ => ?_
    refine R.look rfl rfl rfl (Lk.move rfl rfl) fun _ => ?_
    refine R.nil ?_
    refine EvC.block ?_
    refine EvC.loop ?_
    refine LoopC.lfp (σ := Int × Int) (fun s => (Env.put (Env.put (Env.put (Env.put (Env.put Env.emp 16 (.int .i64 s.2)) 15 (.int .i64 (v14.l : Int))) 14 (.slice v14.a v14.l v14.c)) 3 (.int .i64 s.1)) 0 (.pointer p0))) (fun s => []) (fun X_1 hX_1 => ?_) hS (ok.sub List.Sublist.slnil) (Env.le_put rfl (Env.le_put rfl (Env.le_put rfl (Env.le_put rfl (Env.le_put rfl (Env.le_emp _)))))) (H.add_sub ok List.Sublist.slnil)
    rintro ⟨v3_3, v16⟩ h_4 hS ok
    replace hS : S41_l6 p0 K v14 X_1 v3_3 v16 h_4 := hS
    change EvC _ _ _ (Env.put (Env.put (Env.put (Env.put (Env.put Env.emp 16 (.int .i64 v16)) 15 (.int .i64 (v14.l : Int))) 14 (.slice v14.a v14.l v14.c)) 3 (.int .i64 v3_3)) 0 (.pointer p0)) (H.add h_4 []) _
    unfold S41_l6 at hS
    refine EvC.seq ?_
    refine EvC.region [Item.look 0] (by kernel_rfl) ?_
    refine R.look rfl rfl rfl (Lk.arith rfl rfl rfl rfl) fun _ => ?_
    refine R.nil ?_
    refine EvC.seq ?_
    by_cases e10 : (decide (v16 < (v14.l : Int))) = true
    · rw [if_pos e10] at hS
      refine EvC.condT rfl e10 ?_
      refine EvC.skip ?_
      refine EvC.join (σ := Int) (fun s => (Env.put (Env.put (Env.put (Env.put (Env.put Env.emp 16 (.int .i64 v16)) 15 (.int .i64 (v14.l : Int))) 14 (.slice v14.a v14.l v14.c)) 3 (.int .i64 s)) 0 (.pointer p0))) (fun s => []) (fun s h_5 => S41_j4 v16 X_1 s h_5) ?_ (fun Ih_5 hIh_5 => ?_)
      · intro v3_4 h_5 ok hS
        replace hS : S41_j4 v16 X_1 v3_4 h_5 := hS
        change EvC _ _ _ (Env.put (Env.put (Env.put (Env.put (Env.put Env.emp 16 (.int .i64 v16)) 15 (.int .i64 (v14.l : Int))) 14 (.slice v14.a v14.l v14.c)) 3 (.int .i64 v3_4)) 0 (.pointer p0)) (H.add h_5 []) _
        unfold S41_j4 at hS
        refine EvC.region [Item.look 0, Item.look 1] (by kernel_rfl) ?_
        refine R.look rfl rfl rfl (Lk.arith rfl rfl rfl rfl) fun _ => ?_
        refine R.look rfl rfl rfl (Lk.move rfl rfl) fun _ => ?_
        refine R.nil ?_
        exact hX_1 (v3_4, (IntKind.wrap .i64 (v16 + 1))) _ _ _ hS (ok.sub List.Sublist.slnil) (Env.le_put rfl (Env.le_put rfl (Env.le_put rfl (Env.le_put rfl (Env.le_put rfl (Env.le_emp _)))))) (H.add_sub ok List.Sublist.slnil)
      · refine EvC.block ?_
        refine EvC.seq ?_
        refine EvC.region [Item.look 0, Item.look 1, Item.look 2, Item.look 3, Item.look 4] (by kernel_rfl) ?_
        refine R.look rfl rfl rfl (Lk.move rfl rfl) fun _ => ?_
        obtain ⟨a19, e11, e12, e13, hS⟩ := hS
        refine R.look rfl rfl rfl (Lk.ixAddr rfl Tryd.underlying22 T4 rfl e11 rfl e12 e13) fun _ => ?_
        obtain ⟨v20, e14, hS⟩ := hS
        refine R.look rfl rfl rfl (Look.loc ok (Lk.load1 rfl Tryd.underlying4 rfl rfl e14)) fun _ => ?_
        refine R.look rfl rfl rfl (Lk.assign rfl rfl) fun _ => ?_
        refine R.look rfl rfl rfl (Lk.assign rfl rfl) fun _ => ?_
        refine R.nil ?_
        refine EvC.seq ?_
        refine EvC.region [Item.look 0, Item.look 1, Item.look 2] (by kernel_rfl) ?_
        refine R.look rfl rfl rfl (Lk.move rfl rfl) fun _ => ?_
        refine R.look rfl rfl rfl (Lk.arith rfl rfl rfl rfl) fun _ => ?_
        refine R.look rfl rfl rfl (Lk.assign rfl rfl) fun _ => ?_
        refine R.nil ?_
        refine EvC.seq ?_
        refine EvC.region [Item.look 0] (by kernel_rfl) ?_
        refine R.look rfl rfl rfl (Lk.move rfl rfl) fun _ => ?_
        refine R.nil ?_
        by_cases e15 : v20 = true
        · rw [if_pos e15] at hS
          refine EvC.condT rfl e15 ?_
          refine EvC.seq ?_
          refine EvC.region [Item.look 0, Item.look 1, Item.look 2] (by kernel_rfl) ?_
          refine R.look rfl rfl rfl (Lk.move rfl rfl) fun _ => ?_
          refine R.look rfl rfl rfl (Lk.arith rfl rfl rfl rfl) fun _ => ?_
          refine R.look rfl rfl rfl (Lk.assign rfl rfl) fun _ => ?_
          refine R.nil ?_
          refine EvC.seq ?_
          refine EvC.region [Item.look 0, Item.look 1, Item.look 2, Item.look 3, Item.look 4, Item.look 5, Item.look 6, Item.look 7] (by kernel_rfl) ?_
          refine R.look rfl rfl rfl (Lk.move rfl rfl) fun _ => ?_
          obtain ⟨a27, e16, hS⟩ := hS
          refine R.look (v := (.pointer (some a27))) rfl rfl rfl (Lk.nilChk rfl rfl e16) fun _ => ?_
          refine R.look (v := (.pointer (some (Addr.add a27 3)))) rfl rfl rfl (Lk.fldAddr rfl Tryd.underlying106 rfl rfl T104 rfl rfl rfl) fun _ => ?_
          obtain ⟨v29, e17, hS⟩ := hS
          refine R.look rfl rfl rfl (Look.loc ok (Lk.load1 rfl Tryd.underlying104 rfl rfl e17)) fun _ => ?_
          refine R.look rfl rfl rfl (Lk.move rfl rfl) fun _ => ?_
          obtain ⟨a31, e18, e19, e20, hS⟩ := hS
          refine R.look rfl rfl rfl (Lk.ixAddr rfl Tryd.underlying104 T145 rfl e18 rfl e19 e20) fun _ => ?_
          obtain ⟨v32_0, v32_1, v32_2, v32_3, e21, hS⟩ := hS
          refine R.look rfl rfl rfl (Look.loc ok (Lk.loadN rfl Tryd.underlying145 rfl T145 rfl e21)) fun _ => ?_
          refine R.look rfl rfl rfl (Lk.move rfl rfl) fun _ => ?_
          refine R.nil ?_
          refine EvC.block ?_
          refine EvC.loop ?_
          refine LoopC.lfp (σ := Int × Int) (fun s => (Env.put (Env.put (Env.put (Env.put (Env.put (Env.put (Env.put Env.emp 33 (.int .i64 s.2)) 32 (.agg ([(.slice v32_0.a v32_0.l v32_0.c), (.slice v32_1.a v32_1.l v32_1.c), (.slice v32_2.a v32_2.l v32_2.c), (.slice v32_3.a v32_3.l v32_3.c)] : List Value).toArray)) 16 (.int .i64 v16)) 15 (.int .i64 (v14.l : Int))) 14 (.slice v14.a v14.l v14.c)) 3 (.int .i64 s.1)) 0 (.pointer p0))) (fun s => []) (fun X_2 hX_2 => ?_) hS (ok.sub List.Sublist.slnil) (Env.le_put rfl (Env.le_put rfl (Env.le_put rfl (Env.le_put rfl (Env.le_put rfl (Env.le_put rfl (Env.le_put rfl (Env.le_emp _)))))))) (H.add_sub ok List.Sublist.slnil)
          rintro ⟨v3_5, v33⟩ h_6 hS ok
          replace hS : S41_l5 v16 X_1 v32_0 v32_1 v32_2 v32_3 X_2 v3_5 v33 h_6 := hS
          change EvC _ _ _ (Env.put (Env.put (Env.put (Env.put (Env.put (Env.put (Env.put Env.emp 33 (.int .i64 v33)) 32 (.agg ([(.slice v32_0.a v32_0.l v32_0.c), (.slice v32_1.a v32_1.l v32_1.c), (.slice v32_2.a v32_2.l v32_2.c), (.slice v32_3.a v32_3.l v32_3.c)] : List Value).toArray)) 16 (.int .i64 v16)) 15 (.int .i64 (v14.l : Int))) 14 (.slice v14.a v14.l v14.c)) 3 (.int .i64 v3_5)) 0 (.pointer p0)) (H.add h_6 []) _
          unfold S41_l5 at hS
          refine EvC.seq ?_
          refine EvC.region [Item.look 0] (by kernel_rfl) ?_
          refine R.look rfl rfl rfl (Lk.arith rfl rfl rfl rfl) fun _ => ?_
          refine R.nil ?_
          refine EvC.seq ?_
          by_cases e22 : (decide (v33 < 4)) = true
          · rw [if_pos e22] at hS
            refine EvC.condT rfl e22 ?_
            refine EvC.skip ?_
            refine EvC.seq ?_
            refine EvC.block ?_
            refine EvC.seq ?_
            refine EvC.region [Item.look 0, Item.look 1] (by kernel_rfl) ?_
            obtain ⟨e23, e24, hS⟩ := hS
            refine R.look rfl rfl rfl (Lk.elemSel Sl.v ([v32_0, v32_1, v32_2, v32_3] : List Sl) rfl Tryd.underlying145 Tryd.underlying144 rfl T144 rfl rfl e23 e24 rfl) fun _ => ?_
            refine R.look rfl rfl rfl (Lk.assign rfl rfl) fun _ => ?_
            refine R.nil ?_
            refine EvC.region [Item.look 0, Item.look 1, Item.look 2, Item.look 3, Item.look 4] (by kernel_rfl) ?_
            refine R.look rfl rfl rfl (Lk.move rfl rfl) fun _ => ?_
            refine R.look rfl rfl rfl (Lk.move rfl rfl) fun _ => ?_
            refine R.look rfl rfl rfl (Lk.len rfl Tryd.underlying144 rfl) fun _ => ?_
            refine R.look rfl rfl rfl (Lk.arith rfl rfl rfl rfl) fun _ => ?_
            refine R.look rfl rfl rfl (Lk.assign rfl rfl) fun _ => ?_
            refine R.nil ?_
            refine EvC.region [Item.look 0, Item.look 1] (by kernel_rfl) ?_
            refine R.look rfl rfl rfl (Lk.arith rfl rfl rfl rfl) fun _ => ?_
            refine R.look rfl rfl rfl (Lk.move rfl rfl) fun _ => ?_
            refine R.nil ?_
            exact hX_2 ((IntKind.wrap .i64 (v3_5 + (((sel ([v32_0, v32_1, v32_2, v32_3] : List Sl) v33).l) : Int))), (IntKind.wrap .i64 (v33 + 1))) _ _ _ hS (ok.sub List.Sublist.slnil) (Env.le_put rfl (Env.le_put rfl (Env.le_put rfl (Env.le_put rfl (Env.le_put rfl (Env.le_put rfl (Env.le_put rfl (Env.le_emp _)))))))) (H.add_sub ok List.Sublist.slnil)
          · rw [if_neg e22] at hS
            replace e22 := eq_false_of_ne_true e22
            refine EvC.condF rfl e22 ?_
            refine EvC.exit ?_
            exact hIh_5 v3_5 _ _ _ (Env.le_put rfl (Env.le_put rfl (Env.le_put rfl (Env.le_put rfl (Env.le_put rfl (Env.le_emp _)))))) (ok.sub List.Sublist.slnil) (H.add_sub ok List.Sublist.slnil) hS
        · rw [if_neg e15] at hS
          replace e15 := eq_false_of_ne_true e15
          refine EvC.condF rfl e15 ?_
          refine EvC.skip ?_
          exact hIh_5 (IntKind.wrap .i64 (v3_3 + 1)) _ _ _ (Env.le_put rfl (Env.le_put rfl (Env.le_put rfl (Env.le_put rfl (Env.le_put rfl (Env.le_emp _)))))) (ok.sub List.Sublist.slnil) (H.add_sub ok List.Sublist.slnil) hS
    · rw [if_neg e10] at hS
      replace e10 := eq_false_of_ne_true e10
      refine EvC.condF rfl e10 ?_
      refine EvC.exit ?_
      exact hIh_1 v3_3 _ _ _ (Env.le_put rfl (Env.le_put rfl (Env.le_emp _))) (ok.sub List.Sublist.slnil) (H.add_sub ok List.Sublist.slnil) hS
end Go.Proofs.YtimadnngfhbfiaaDoor
end

section
/- PRINTED by wip/gen.py: the machine's call of math/bits.Mul64 does what S106 says. -/
namespace Go.Proofs.YtimadnngfhbfiaaDoor
open Go Go.Mu
set_option maxHeartbeats 4000000
set_option maxRecDepth 100000
theorem f106_ok {p0 : Int} {p1 : Int} {h : H} {K : Int → Int → H → Prop} (hS : S106 p0 p1 h K) : ACall Tryd.prog 106 ([(.int .u64 p0), (.int .u64 p1)] : List Value).toArray h (fun r h' => ∃ r0 : Int, ∃ r1 : Int, r = tup [(.int .u64 r0), (.int .u64 r1)] ∧ K r0 r1 h') := by
  refine ACall.enter (fn := Tryd.f106) Tryd.func106 rfl (Nat.le_of_ble_eq_true rfl) ?_
  unfold S106 at hS
  have ok := Lok.nil h
  change EvC _ _ _ _ (H.add h []) _
  refine EvC.seq ?_
  refine EvC.region [Item.look 0, Item.look 1] (by kernel_rfl) ?_
  refine R.look rfl rfl rfl (Lk.assign rfl rfl) fun _ => ?_
  refine R.look rfl rfl rfl (Lk.assign rfl rfl) fun _ => ?_
  refine R.nil ?_
  refine EvC.seq ?_
  refine EvC.region [Item.look 0, Item.look 1, Item.look 2] (by kernel_rfl) ?_
  refine R.look rfl rfl rfl (Lk.move rfl rfl) fun _ => ?_
  refine R.look rfl rfl rfl (Lk.arith rfl rfl rfl rfl) fun _ => ?_
  refine R.look rfl rfl rfl (Lk.assign rfl rfl) fun _ => ?_
  refine R.nil ?_
  refine EvC.seq ?_
  refine EvC.region [Item.look 0, Item.look 1, Item.look 2] (by kernel_rfl) ?_
  refine R.look rfl rfl rfl (Lk.move rfl rfl) fun _ => ?_
  refine R.look rfl rfl rfl (Lk.shr (j := 32) rfl rfl rfl (by decide)) fun _ => ?_
  refine R.look rfl rfl rfl (Lk.assign rfl rfl) fun _ => ?_
  refine R.nil ?_
  refine EvC.seq ?_
  refine EvC.region [Item.look 0, Item.look 1, Item.look 2] (by kernel_rfl) ?_
  refine R.look rfl rfl rfl (Lk.move rfl rfl) fun _ => ?_
  refine R.look rfl rfl rfl (Lk.arith rfl rfl rfl rfl) fun _ => ?_
  refine R.look rfl rfl rfl (Lk.assign rfl rfl) fun _ => ?_
  refine R.nil ?_
  refine EvC.seq ?_
  refine EvC.region [Item.look 0, Item.look 1, Item.look 2] (by kernel_rfl) ?_
  refine R.look rfl rfl rfl (Lk.move rfl rfl) fun _ => ?_
  refine R.look rfl rfl rfl (Lk.shr (j := 32) rfl rfl rfl (by decide)) fun _ => ?_
  refine R.look rfl rfl rfl (Lk.assign rfl rfl) fun _ => ?_
  refine R.nil ?_
  refine EvC.seq ?_
  refine EvC.region [Item.look 0, Item.look 1, Item.look 2, Item.look 3] (by kernel_rfl) ?_
  refine R.look rfl rfl rfl (Lk.move rfl rfl) fun _ => ?_
  refine R.look rfl rfl rfl (Lk.move rfl rfl) fun _ => ?_
  refine R.look rfl rfl rfl (Lk.arith rfl rfl rfl rfl) fun _ => ?_
  refine R.look rfl rfl rfl (Lk.assign rfl rfl) fun _ => ?_
  refine R.nil ?_
  refine EvC.seq ?_
  refine EvC.region [Item.look 0, Item.look 1, Item.look 2, Item.look 3, Item.look 4, Item.look 5, Item.look 6] (by kernel_rfl) ?_
  refine R.look rfl rfl rfl (Lk.move rfl rfl) fun _ => ?_
  refine R.look rfl rfl rfl (Lk.move rfl rfl) fun _ => ?_
  refine R.look rfl rfl rfl (Lk.arith rfl rfl rfl rfl) fun _ => ?_
  refine R.look rfl rfl rfl (Lk.move rfl rfl) fun _ => ?_
  refine R.look rfl rfl rfl (Lk.shr (j := 32) rfl rfl rfl (by decide)) fun _ => ?_
  refine R.look rfl rfl rfl (Lk.arith rfl rfl rfl rfl) fun _ => ?_
  refine R.look rfl rfl rfl (Lk.assign rfl rfl) fun _ => ?_
  refine R.nil ?_
  refine EvC.seq ?_
  refine EvC.region [Item.look 0, Item.look 1, Item.look 2] (by kernel_rfl) ?_
  refine R.look rfl rfl rfl (Lk.move rfl rfl) fun _ => ?_
  refine R.look rfl rfl rfl (Lk.arith rfl rfl rfl rfl) fun _ => ?_
  refine R.look rfl rfl rfl (Lk.assign rfl rfl) fun _ => ?_
  refine R.nil ?_
  refine EvC.seq ?_
  refine EvC.region [Item.look 0, Item.look 1, Item.look 2] (by kernel_rfl) ?_
  refine R.look rfl rfl rfl (Lk.move rfl rfl) fun _ => ?_
  refine R.look rfl rfl rfl (Lk.shr (j := 32) rfl rfl rfl (by decide)) fun _ => ?_
  refine R.look rfl rfl rfl (Lk.assign rfl rfl) fun _ => ?_
  refine R.nil ?_
  refine EvC.seq ?_
  refine EvC.region [Item.look 0, Item.look 1, Item.look 2, Item.look 3, Item.look 4, Item.look 5] (by kernel_rfl) ?_
  refine R.look rfl rfl rfl (Lk.move rfl rfl) fun _ => ?_
  refine R.look rfl rfl rfl (Lk.move rfl rfl) fun _ => ?_
  refine R.look rfl rfl rfl (Lk.move rfl rfl) fun _ => ?_
  refine R.look rfl rfl rfl (Lk.arith rfl rfl rfl rfl) fun _ => ?_
  refine R.look rfl rfl rfl (Lk.arith rfl rfl rfl rfl) fun _ => ?_
  refine R.look rfl rfl rfl (Lk.assign rfl rfl) fun _ => ?_
  refine R.nil ?_
  refine EvC.seq ?_
  refine EvC.region [Item.look 0, Item.look 1, Item.look 2, Item.look 3, Item.look 4, Item.look 5, Item.look 6, Item.look 7, Item.look 8] (by kernel_rfl) ?_
  refine R.look rfl rfl rfl (Lk.move rfl rfl) fun _ => ?_
  refine R.look rfl rfl rfl (Lk.move rfl rfl) fun _ => ?_
  refine R.look rfl rfl rfl (Lk.arith rfl rfl rfl rfl) fun _ => ?_
  refine R.look rfl rfl rfl (Lk.move rfl rfl) fun _ => ?_
  refine R.look rfl rfl rfl (Lk.arith rfl rfl rfl rfl) fun _ => ?_
  refine R.look rfl rfl rfl (Lk.move rfl rfl) fun _ => ?_
  refine R.look rfl rfl rfl (Lk.shr (j := 32) rfl rfl rfl (by decide)) fun _ => ?_
  refine R.look rfl rfl rfl (Lk.arith rfl rfl rfl rfl) fun _ => ?_
  refine R.look rfl rfl rfl (Lk.assign rfl rfl) fun _ => ?_
  refine R.nil ?_
  refine EvC.seq ?_
  refine EvC.region [Item.look 0, Item.look 1, Item.look 2, Item.look 3] (by kernel_rfl) ?_
  refine R.look rfl rfl rfl (Lk.move rfl rfl) fun _ => ?_
  refine R.look rfl rfl rfl (Lk.move rfl rfl) fun _ => ?_
  refine R.look rfl rfl rfl (Lk.arith rfl rfl rfl rfl) fun _ => ?_
  refine R.look rfl rfl rfl (Lk.assign rfl rfl) fun _ => ?_
  refine R.nil ?_
  refine EvC.ret ?_
  exact ⟨.inr rfl, _, _, (.cons (.tmp rfl) (.cons (.tmp rfl) .nil)), ok.le, _, _, rfl, hS⟩
end Go.Proofs.YtimadnngfhbfiaaDoor
end

section
/- PRINTED by wip/gen.py: the machine's call of math/bits.Mul does what S94 says. -/
namespace Go.Proofs.YtimadnngfhbfiaaDoor
open Go Go.Mu
set_option maxHeartbeats 4000000
set_option maxRecDepth 100000
theorem f94_ok {p0 : Int} {p1 : Int} {h : H} {K : Int → Int → H → Prop} (hS : S94 p0 p1 h K) : ACall Tryd.prog 94 ([(.int .u64 p0), (.int .u64 p1)] : List Value).toArray h (fun r h' => ∃ r0 : Int, ∃ r1 : Int, r = tup [(.int .u64 r0), (.int .u64 r1)] ∧ K r0 r1 h') := by
  refine ACall.enter (fn := Tryd.f94) Tryd.func94 rfl (Nat.le_of_ble_eq_true rfl) ?_
  unfold S94 at hS
  have ok := Lok.nil h
  change EvC _ _ _ _ (H.add h []) _
  refine EvC.seq ?_
  refine EvC.region [Item.look 0, Item.look 1] (by kernel_rfl) ?_
  refine R.look rfl rfl rfl (Lk.assign rfl rfl) fun _ => ?_
  refine R.look rfl rfl rfl (Lk.assign rfl rfl) fun _ => ?_
  refine R.nil ?_
  refine EvC.seq ?_
  refine EvC.condF rfl rfl ?_
  refine EvC.skip ?_
  refine EvC.seq ?_
  refine EvC.region [Item.look 0, Item.look 1, Item.eff 2 [], Item.look 3, Item.look 4, Item.look 5, Item.look 6, Item.look 7] (by kernel_rfl) ?_
  refine R.look rfl rfl rfl (Lk.move rfl rfl) fun _ => ?_
  refine R.look rfl rfl rfl (Lk.move rfl rfl) fun _ => ?_
  refine R.eff rfl rfl rfl (Eff.loc ok (Ef.call rfl CB106 rfl ((f106_ok hS).mono ?_)))
  rintro _ h_1 ⟨v25_0, v25_1, rfl, hS⟩
  refine fun ok => ⟨noChk, ?_⟩
  refine R.look rfl rfl rfl (Lk.move rfl rfl) fun _ => ?_
  refine R.look rfl rfl rfl (Lk.extract rfl rfl rfl) fun _ => ?_
  refine R.look rfl rfl rfl (Lk.extract rfl rfl rfl) fun _ => ?_
  refine R.look rfl rfl rfl (Lk.assign rfl rfl) fun _ => ?_
  refine R.look rfl rfl rfl (Lk.assign rfl rfl) fun _ => ?_
  refine R.nil ?_
  refine EvC.seq ?_
  refine EvC.region [Item.look 0, Item.look 1, Item.look 2, Item.look 3] (by kernel_rfl) ?_
  refine R.look rfl rfl rfl (Lk.move rfl rfl) fun _ => ?_
  refine R.look rfl rfl rfl (Lk.move rfl rfl) fun _ => ?_
  refine R.look rfl rfl rfl (Lk.assign rfl rfl) fun _ => ?_
  refine R.look rfl rfl rfl (Lk.assign rfl rfl) fun _ => ?_
  refine R.nil ?_
  refine EvC.ret ?_
  exact ⟨.inr rfl, _, _, (.cons (.tmp rfl) (.cons (.tmp rfl) .nil)), ok.le, _, _, rfl, hS⟩
end Go.Proofs.YtimadnngfhbfiaaDoor
end

section
/- PRINTED by wip/gen.py: the machine's call of slices.Repeat[[]muntin/api.Cell,muntin/api.Cell] does what S72 says. -/
namespace Go.Proofs.YtimadnngfhbfiaaDoor
open Go Go.Mu
set_option maxHeartbeats 4000000
set_option maxRecDepth 100000
theorem f72_ok {p0 : Sl} {p1 : Int} {h : H} {K : Sl → H → Prop} (hS : S72 p0 p1 h K) : ACall Tryd.prog 72 ([(.slice p0.a p0.l p0.c), (.int .i64 p1)] : List Value).toArray h (fun r h' => ∃ r0 : Sl, r = tup [(.slice r0.a r0.l r0.c)] ∧ K r0 h') := by
  refine ACall.enter (fn := Tryd.f72) Tryd.func72 rfl (Nat.le_of_ble_eq_true rfl) ?_
  unfold S72 at hS
  have ok := Lok.nil h
  change EvC _ _ _ _ (H.add h []) _
  refine EvC.seq ?_
  refine EvC.region [Item.look 0] (by kernel_rfl) ?_
  refine R.look rfl rfl rfl (Lk.assign rfl rfl) fun _ => ?_
  refine R.nil ?_
  refine EvC.join (σ := Unit) (fun s => (Env.put (Env.put Env.emp 1 (.int .i64 p1)) 0 (.slice p0.a p0.l p0.c))) (fun s => []) (fun s h_1 => S72_j5 p0 p1 K h_1) ?_ (fun Ih_1 hIh_1 => ?_)
  · rintro ⟨⟩ h_1 ok hS
    replace hS : S72_j5 p0 p1 K h_1 := hS
    change EvC _ _ _ (Env.put (Env.put Env.emp 1 (.int .i64 p1)) 0 (.slice p0.a p0.l p0.c)) (H.add h_1 []) _
    unfold S72_j5 at hS
    refine EvC.seq ?_
    refine EvC.region [Item.look 0, Item.look 1, Item.look 2, Item.look 3, Item.look 4, Item.eff 5 [], Item.look 6, Item.look 7, Item.look 8, Item.look 9, Item.look 10] (by kernel_rfl) ?_
    refine R.look rfl rfl rfl (Lk.move rfl rfl) fun _ => ?_
    refine R.look rfl rfl rfl (Lk.len rfl Tryd.underlying31 rfl) fun _ => ?_
    refine R.look rfl rfl rfl (Lk.conv rfl Tryd.underlying3 Tryd.underlying166 rfl) fun _ => ?_
    refine R.look rfl rfl rfl (Lk.move rfl rfl) fun _ => ?_
    refine R.look rfl rfl rfl (Lk.conv rfl Tryd.underlying3 Tryd.underlying166 rfl) fun _ => ?_
    refine R.eff rfl rfl rfl (Eff.loc ok (Ef.call rfl CB94 rfl ((f94_ok hS).mono ?_)))
    rintro _ h_2 ⟨v18_0, v18_1, rfl, hS⟩
    refine fun ok => ⟨noChk, ?_⟩
    refine R.look rfl rfl rfl (Lk.move rfl rfl) fun _ => ?_
    refine R.look rfl rfl rfl (Lk.extract rfl rfl rfl) fun _ => ?_
    refine R.look rfl rfl rfl (Lk.extract rfl rfl rfl) fun _ => ?_
    refine R.look rfl rfl rfl (Lk.assign rfl rfl) fun _ => ?_
    refine R.look rfl rfl rfl (Lk.assign rfl rfl) fun _ => ?_
    refine R.nil ?_
    refine EvC.join (σ := Unit) (fun s => (Env.put (Env.put Env.emp 6 (.int .u64 v18_1)) 0 (.slice p0.a p0.l p0.c))) (fun s => []) (fun s h_3 => S72_j3 K v18_1 h_3) ?_ (fun Ih_3 hIh_3 => ?_)
    · rintro ⟨⟩ h_3 ok hS
      replace hS : S72_j3 K v18_1 h_3 := hS
      change EvC _ _ _ (Env.put (Env.put Env.emp 6 (.int .u64 v18_1)) 0 (.slice p0.a p0.l p0.c)) (H.add h_3 []) _
      unfold S72_j3 at hS
      refine EvC.seq ?_
      refine EvC.region [Item.look 0, Item.look 1, Item.alc 2, Item.look 3] (by kernel_rfl) ?_
      refine R.look rfl rfl rfl (Lk.move rfl rfl) fun _ => ?_
      refine R.look rfl rfl rfl (Lk.conv rfl Tryd.underlying166 Tryd.underlying3 rfl) fun _ => ?_
      obtain ⟨e1, e2, e3, e4, hS⟩ := hS
      refine R.new (blk := (.row ⟨zeros (.agg #[(.int .i64 0), (.int .i64 0), (.int .i64 0), (.int .i64 0), (.int .i64 0), (.int .i64 0), (.int .i64 0), (.int .i64 0)]) (Int.toNat (IntKind.wrap .i64 v18_1) * 8), (zeros (.agg #[(.int .i64 0), (.int .i64 0), (.int .i64 0), (.int .i64 0), (.int .i64 0), (.int .i64 0), (.int .i64 0), (.int .i64 0)]) (Int.toNat (IntKind.wrap .i64 v18_1) * 8)).length, 51, true, true⟩)) ok rfl rfl rfl (Ac.makeSlice rfl Tryd.underlying31 T51 rfl rfl e1 e2 e3 e4) rfl rfl fun b30 e5 ok => ?_
      replace hS := hS b30 _ e5 rfl
      refine R.look rfl rfl rfl (Lk.assign rfl rfl) fun _ => ?_
      refine R.nil ?_
      refine EvC.seq ?_
      refine EvC.region [Item.look 0, Item.look 1, Item.eff 2 [], Item.look 3] (by kernel_rfl) ?_
      refine R.look rfl rfl rfl (Lk.move rfl rfl) fun _ => ?_
      refine R.look rfl rfl rfl (Lk.move rfl rfl) fun _ => ?_
      obtain ⟨e6, hS⟩ := hS
      refine R.eff rfl rfl rfl (Eff.loc ok (Ef.copy0 rfl Tryd.underlying31 T51 rfl e6 rfl fun ok => ⟨noChk, ?_⟩))
      refine R.look rfl rfl rfl (Lk.assign rfl rfl) fun _ => ?_
      refine R.nil ?_
      refine EvC.join (σ := Unit) (fun s => (Env.put Env.emp 7 (.slice (some ⟨b30, 0, none⟩) (Int.toNat (IntKind.wrap .i64 v18_1)) (Int.toNat (IntKind.wrap .i64 v18_1))))) (fun s => []) (fun s h_5 => S72_j1 K v18_1 b30 h_5) ?_ (fun Ih_5 hIh_5 => ?_)
      · rintro ⟨⟩ h_5 ok hS
        replace hS : S72_j1 K v18_1 b30 h_5 := hS
        change EvC _ _ _ (Env.put Env.emp 7 (.slice (some ⟨b30, 0, none⟩) (Int.toNat (IntKind.wrap .i64 v18_1)) (Int.toNat (IntKind.wrap .i64 v18_1)))) (H.add h_5 []) _
        unfold S72_j1 at hS
        refine EvC.seq ?_
        refine EvC.region [Item.look 0, Item.look 1] (by kernel_rfl) ?_
        refine R.look rfl rfl rfl (Lk.move rfl rfl) fun _ => ?_
        refine R.look rfl rfl rfl (Lk.assign rfl rfl) fun _ => ?_
        refine R.nil ?_
        refine EvC.ret ?_
        exact ⟨.inr rfl, _, _, (.cons (.tmp rfl) .nil), ok.le, _, rfl, hS⟩
      · refine EvC.block ?_
        refine EvC.loop ?_
        refine LoopC.lfp (σ := Int) (fun s => (Env.put (Env.put Env.emp 8 (.int .i64 s)) 7 (.slice (some ⟨b30, 0, none⟩) (Int.toNat (IntKind.wrap .i64 v18_1)) (Int.toNat (IntKind.wrap .i64 v18_1))))) (fun s => []) (fun X hX => ?_) hS (ok.sub List.Sublist.slnil) (Env.le_put rfl (Env.le_put rfl (Env.le_emp _))) (H.add_sub ok List.Sublist.slnil)
        intro v8 h_6 hS ok
        replace hS : S72_l2 K v18_1 b30 X v8 h_6 := hS
        change EvC _ _ _ (Env.put (Env.put Env.emp 8 (.int .i64 v8)) 7 (.slice (some ⟨b30, 0, none⟩) (Int.toNat (IntKind.wrap .i64 v18_1)) (Int.toNat (IntKind.wrap .i64 v18_1)))) (H.add h_6 []) _
        unfold S72_l2 at hS
        refine EvC.seq ?_
        refine EvC.seq ?_
        refine EvC.region [Item.look 0, Item.look 1, Item.look 2, Item.look 3] (by kernel_rfl) ?_
        refine R.look rfl rfl rfl (Lk.move rfl rfl) fun _ => ?_
        refine R.look rfl rfl rfl (Lk.move rfl rfl) fun _ => ?_
        refine R.look rfl rfl rfl (Lk.len rfl Tryd.underlying31 rfl) fun _ => ?_
        refine R.look rfl rfl rfl (Lk.arith rfl rfl rfl rfl) fun _ => ?_
        refine R.nil ?_
        by_cases e7 : (decide (v8 < ((Int.toNat (IntKind.wrap .i64 v18_1)) : Int))) = true
        · rw [if_pos e7] at hS
          refine EvC.condT rfl e7 ?_
          refine EvC.skip ?_
          refine EvC.block ?_
          refine EvC.draw [0, 0, 0, 6, 0, 0, 48, 126, 255, 511] [Item.look 0, Item.look 1, Item.look 2, Item.look 3, Item.look 4, Item.look 5, Item.look 6, Item.eff 7 [0], Item.look 8, Item.look 9] MO (by kernel_rfl) ?_
          refine R.lookL rfl rfl rfl (Lk.move rfl rfl) ?_
          refine R.lookL rfl rfl rfl (Lk.move rfl rfl) ?_
          refine R.lookL rfl rfl rfl (Lk.move rfl rfl) ?_
          obtain ⟨e8, e9, e10, e11, hS⟩ := hS
          refine R.lookL (v := (.slice (if Int.toNat (IntKind.wrap .i64 v18_1) = Int.toNat v8 then some ⟨b30, 0, none⟩ else Option.map (fun x => Addr.add x (Int.toNat v8 * 8)) (some ⟨b30, 0, none⟩)) (Int.toNat ((Int.toNat (IntKind.wrap .i64 v18_1)) : Int) - Int.toNat v8) (Int.toNat (IntKind.wrap .i64 v18_1) - Int.toNat v8))) rfl rfl rfl (Lk.subSlice (i := v8) (j := ((Int.toNat (IntKind.wrap .i64 v18_1)) : Int)) rfl Tryd.underlying31 T51 rfl ⟨_, rfl⟩ rfl e8 e9 e10 e11) ?_
          refine R.lookL rfl rfl rfl (Lk.move rfl rfl) ?_
          refine R.lookL rfl rfl rfl (Lk.move rfl rfl) ?_
          obtain ⟨e12, e13, e14, e15, hS⟩ := hS
          refine R.lookL (v := (.slice (if Int.toNat (IntKind.wrap .i64 v18_1) = Int.toNat 0 then some ⟨b30, 0, none⟩ else Option.map (fun x => Addr.add x (Int.toNat 0 * 8)) (some ⟨b30, 0, none⟩)) (Int.toNat v8 - Int.toNat 0) (Int.toNat (IntKind.wrap .i64 v18_1) - Int.toNat 0))) rfl rfl rfl (Lk.subSlice (i := 0) (j := v8) rfl Tryd.underlying31 T51 rfl rfl ⟨_, rfl⟩ e12 e13 e14 e15) ?_
          obtain ⟨e16, hS⟩ := hS
          refine R.eff rfl rfl rfl (Eff.loc ok (Ef.copy0 rfl Tryd.underlying31 T51 rfl e16 rfl fun ok => ⟨(List.forall_mem_cons.2 ⟨(Log.past (by decide) (Log.past (by decide) (Log.past (by decide) (Log.past (by decide) (Log.past (by decide) (Log.past (by decide) (Log.at_ (LookG.of rfl (Lk.move rfl rfl))))))))), noChk⟩), ?_⟩))
          refine R.lookL rfl rfl rfl (Lk.arith rfl rfl rfl rfl) ?_
          refine R.lookL rfl rfl rfl (Lk.assign rfl rfl) ?_
          refine R.nil ?_
          exact hX (IntKind.wrap .i64 (v8 + 0)) _ _ _ hS (ok.sub List.Sublist.slnil) (Env.le_put rfl (Env.le_put rfl (Env.le_emp _))) (H.add_sub ok List.Sublist.slnil)
        · rw [if_neg e7] at hS
          replace e7 := eq_false_of_ne_true e7
          refine EvC.condF rfl e7 ?_
          refine EvC.exit ?_
          exact hIh_5 () _ _ _ (Env.le_put rfl (Env.le_emp _)) (ok.sub List.Sublist.slnil) (H.add_sub ok List.Sublist.slnil) hS
    · refine EvC.join (σ := Bool) (fun s => (Env.put (Env.put (Env.put Env.emp 26 (.bool s)) 6 (.int .u64 v18_1)) 0 (.slice p0.a p0.l p0.c))) (fun s => []) (fun s h_7 => S72_j4 K v18_1 s h_7) ?_ (fun Ih_7 hIh_7 => ?_)
      · intro v26 h_7 ok hS
        replace hS : S72_j4 K v18_1 v26 h_7 := hS
        change EvC _ _ _ (Env.put (Env.put (Env.put Env.emp 26 (.bool v26)) 6 (.int .u64 v18_1)) 0 (.slice p0.a p0.l p0.c)) (H.add h_7 []) _
        unfold S72_j4 at hS
        by_cases e17 : v26 = true
        · rw [if_pos e17] at hS
          refine EvC.condT rfl e17 ?_
          refine EvC.region [Item.look 0, Item.eff 1 []] (by kernel_rfl) ?_
          exact hS.elim
        · rw [if_neg e17] at hS
          replace e17 := eq_false_of_ne_true e17
          refine EvC.condF rfl e17 ?_
          refine EvC.skip ?_
          exact hIh_3 () _ _ _ (Env.le_put rfl (Env.le_put rfl (Env.le_emp _))) (ok.sub List.Sublist.slnil) (H.add_sub ok List.Sublist.slnil) hS
      · refine EvC.region [Item.look 0, Item.look 1, Item.look 2, Item.look 3, Item.look 4, Item.look 5] (by kernel_rfl) ?_
        refine R.look rfl rfl rfl (Lk.move rfl rfl) fun _ => ?_
        refine R.look rfl rfl rfl (Lk.arith rfl rfl rfl rfl) fun _ => ?_
        refine R.look rfl rfl rfl (Lk.move rfl rfl) fun _ => ?_
        by_cases e18 : (decide (v18_0 > 0)) = true
        · refine R.lookF rfl rfl rfl rfl e18 rfl fun _ => ?_
          refine R.lookF rfl rfl rfl rfl e18 rfl fun _ => ?_
          refine R.look rfl rfl rfl (Lk.pick rfl rfl (fun _ => rfl) (fun e => by rw [e18] at e; cases e)) fun _ => ?_
          refine R.nil ?_
          exact hIh_7 ((decide (v18_0 > 0)) || (decide (v18_1 > 9223372036854775807))) _ _ _ (Env.le_put rfl (Env.le_put rfl (Env.le_put (by rw [e18]; rfl) (Env.le_emp _)))) (ok.sub List.Sublist.slnil) (H.add_sub ok List.Sublist.slnil) hS
        · replace e18 := eq_false_of_ne_true e18
          refine R.lookT rfl rfl rfl rfl e18 rfl (Lk.move rfl rfl) fun _ => ?_
          refine R.lookT rfl rfl rfl rfl e18 rfl (Lk.arith rfl rfl rfl rfl) fun _ => ?_
          refine R.look rfl rfl rfl (Lk.pick rfl rfl (fun e => by rw [e18] at e; cases e) (fun _ => rfl)) fun _ => ?_
          refine R.nil ?_
          exact hIh_7 ((decide (v18_0 > 0)) || (decide (v18_1 > 9223372036854775807))) _ _ _ (Env.le_put rfl (Env.le_put rfl (Env.le_put (by rw [e18]; rfl) (Env.le_emp _)))) (ok.sub List.Sublist.slnil) (H.add_sub ok List.Sublist.slnil) hS
  · refine EvC.seq ?_
    refine EvC.region [Item.look 0, Item.look 1] (by kernel_rfl) ?_
    refine R.look rfl rfl rfl (Lk.move rfl rfl) fun _ => ?_
    refine R.look rfl rfl rfl (Lk.arith rfl rfl rfl rfl) fun _ => ?_
    refine R.nil ?_
    by_cases e19 : (decide (p1 < 0)) = true
    · rw [if_pos e19] at hS
      refine EvC.condT rfl e19 ?_
      refine EvC.region [Item.look 0, Item.eff 1 []] (by kernel_rfl) ?_
      exact hS.elim
    · rw [if_neg e19] at hS
      replace e19 := eq_false_of_ne_true e19
      refine EvC.condF rfl e19 ?_
      refine EvC.skip ?_
      exact hIh_1 () _ _ _ (Env.le_put rfl (Env.le_put rfl (Env.le_emp _))) (ok.sub List.Sublist.slnil) (H.add_sub ok List.Sublist.slnil) hS
end Go.Proofs.YtimadnngfhbfiaaDoor
end

section
/- PRINTED by wip/gen.py: the machine's call of muntin/grid.empty does what S73 says. -/
namespace Go.Proofs.YtimadnngfhbfiaaDoor
open Go Go.Mu
set_option maxHeartbeats 4000000
set_option maxRecDepth 100000
theorem f73_ok {h : H} {K : Int → Int → Int → Int → Int → Int → Int → Int → H → Prop} (hS : S73  h K) : ACall Tryd.prog 73 ([] : List Value).toArray h (fun r h' => ∃ r0_0 : Int, ∃ r0_1 : Int, ∃ r0_2 : Int, ∃ r0_3 : Int, ∃ r0_4 : Int, ∃ r0_5 : Int, ∃ r0_6 : Int, ∃ r0_7 : Int, r = tup [(.agg ([(.int .i64 r0_0), (.int .i64 r0_1), (.int .i64 r0_2), (.int .i64 r0_3), (.int .i64 r0_4), (.int .i64 r0_5), (.int .i64 r0_6), (.int .i64 r0_7)] : List Value).toArray)] ∧ K r0_0 r0_1 r0_2 r0_3 r0_4 r0_5 r0_6 r0_7 h') := by
  refine ACall.enter (fn := Tryd.f73) Tryd.func73 rfl (Nat.le_of_ble_eq_true rfl) ?_
  unfold S73 at hS
  have ok := Lok.nil h
  change EvC _ _ _ _ (H.add h []) _
  refine EvC.seq ?_
  refine EvC.region [Item.alc 0] (by kernel_rfl) ?_
  refine R.var (blk := .row ⟨[(.int .i64 0), (.int .i64 0), (.int .i64 0), (.int .i64 0), (.int .i64 0), (.int .i64 0), (.int .i64 0), (.int .i64 0)], 8, 51, true, true⟩) ok rfl rfl rfl (Ac.alloc rfl T51) rfl rfl fun b0 ok => ?_
  refine R.nil ?_
  refine EvC.seq ?_
  refine EvC.region [Item.look 0, Item.look 1, Item.eff 2 []] (by kernel_rfl) ?_
  refine R.look rfl rfl rfl (Lk.buildA (cs := [(.int .i64 (-1)), (.int .i64 (-1)), (.int .i64 (-1)), (.int .i64 (-1))]) rfl Tryd.underlying49 T49 T3 rfl rfl) fun _ => ?_
  refine R.look rfl rfl rfl (Lk.build (cs := [(.int .i64 (-1)), (.int .i64 (-1)), (.int .i64 (-1)), (.int .i64 (-1)), (.int .i64 0), (.int .i64 0), (.int .i64 0), (.int .i64 0)]) (pl := [(0, 4), (4, 4)]) rfl Tryd.underlying51 T51 (PlacesL.places (.cons T49 (.cons T49 PlacesL.nil))) rfl rfl) fun _ => ?_
  refine R.effN rfl rfl rfl (Ef.storeLoc (i := 0) (vs := [(.int .i64 (-1)), (.int .i64 (-1)), (.int .i64 (-1)), (.int .i64 (-1)), (.int .i64 0), (.int .i64 0), (.int .i64 0), (.int .i64 0)]) (cs := [(.int .i64 (-1)), (.int .i64 (-1)), (.int .i64 (-1)), (.int .i64 (-1)), (.int .i64 0), (.int .i64 0), (.int .i64 0), (.int .i64 0)]) (l' := [(b0, .row ⟨[(.int .i64 (-1)), (.int .i64 (-1)), (.int .i64 (-1)), (.int .i64 (-1)), (.int .i64 0), (.int .i64 0), (.int .i64 0), (.int .i64 0)], 8, 51, true, true⟩)]) ok rfl T51 rfl rfl rfl rfl rfl rfl rfl rfl rfl rfl fun ok => ⟨noChk, ?_⟩)
  refine R.nil ?_
  refine EvC.ret ?_
  exact ⟨.inr rfl, _, _, (.cons (.cells rfl (fun w => Und.agg Tryd.underlying51 w) (fun w => T51.size_ w) (H.rdn_loc ok (i := 0) rfl rfl rfl)) .nil), ok.le, _, _, _, _, _, _, _, _, rfl, hS⟩
end Go.Proofs.YtimadnngfhbfiaaDoor
end

section
/- PRINTED by wip/gen.py: the machine's call of muntin/grid.New does what S42 says. -/
namespace Go.Proofs.YtimadnngfhbfiaaDoor
open Go Go.Mu
set_option maxHeartbeats 4000000
set_option maxRecDepth 100000
theorem f42_ok {p0 : Int} {h : H} {K : Option Addr → Int → H → Prop} (hS : S42 p0 h K) : ACall Tryd.prog 42 ([(.int .i64 p0)] : List Value).toArray h (fun r h' => ∃ r0 : Option Addr, ∃ r1 : Int, r = tup [(.pointer r0), (.int .i64 r1)] ∧ K r0 r1 h') := by
  refine ACall.enter (fn := Tryd.f42) Tryd.func42 rfl (Nat.le_of_ble_eq_true rfl) ?_
  unfold S42 at hS
  have ok := Lok.nil h
  change EvC _ _ _ _ (H.add h []) _
  refine EvC.seq ?_
  refine EvC.region [Item.look 0, Item.look 1] (by kernel_rfl) ?_
  refine R.look rfl rfl rfl (Lk.assign rfl rfl) fun _ => ?_
  refine R.look rfl rfl rfl (Lk.assign rfl rfl) fun _ => ?_
  refine R.nil ?_
  refine EvC.seq ?_
  refine EvC.block ?_
  refine EvC.seq ?_
  refine EvC.region [Item.look 0, Item.look 1, Item.look 2] (by kernel_rfl) ?_
  refine R.look rfl rfl rfl (Lk.move rfl rfl) fun _ => ?_
  refine R.look rfl rfl rfl (Lk.arith rfl rfl rfl rfl) fun _ => ?_
  refine R.look rfl rfl rfl (Lk.assign rfl rfl) fun _ => ?_
  refine R.nil ?_
  by_cases e1 : (decide (p0 < 0)) = true
  · rw [if_pos e1] at hS
    refine EvC.condT rfl e1 ?_
    refine EvC.seq ?_
    refine EvC.region [Item.look 0, Item.look 1] (by kernel_rfl) ?_
    refine R.look rfl rfl rfl (Lk.assign rfl rfl) fun _ => ?_
    refine R.look rfl rfl rfl (Lk.assign rfl rfl) fun _ => ?_
    refine R.nil ?_
    refine EvC.ret ?_
    exact ⟨.inr rfl, _, _, (.cons (.tmp rfl) (.cons (.tmp rfl) .nil)), ok.le, _, _, rfl, hS⟩
  · rw [if_neg e1] at hS
    replace e1 := eq_false_of_ne_true e1
    refine EvC.condF rfl e1 ?_
    refine EvC.seq ?_
    refine EvC.region [Item.look 0, Item.look 1, Item.look 2] (by kernel_rfl) ?_
    refine R.look rfl rfl rfl (Lk.move rfl rfl) fun _ => ?_
    refine R.look rfl rfl rfl (Lk.arith rfl rfl rfl rfl) fun _ => ?_
    refine R.look rfl rfl rfl (Lk.assign rfl rfl) fun _ => ?_
    refine R.nil ?_
    by_cases e2 : (decide (p0 > 4096)) = true
    · rw [if_pos e2] at hS
      refine EvC.condT rfl e2 ?_
      refine EvC.seq ?_
      refine EvC.region [Item.look 0, Item.look 1] (by kernel_rfl) ?_
      refine R.look rfl rfl rfl (Lk.assign rfl rfl) fun _ => ?_
      refine R.look rfl rfl rfl (Lk.assign rfl rfl) fun _ => ?_
      refine R.nil ?_
      refine EvC.ret ?_
      exact ⟨.inr rfl, _, _, (.cons (.tmp rfl) (.cons (.tmp rfl) .nil)), ok.le, _, _, rfl, hS⟩
    · rw [if_neg e2] at hS
      replace e2 := eq_false_of_ne_true e2
      refine EvC.condF rfl e2 ?_
      refine EvC.skip ?_
      refine EvC.seq ?_
      refine EvC.region [Item.eff 0 [], Item.alc 1, Item.look 2, Item.eff 3 [], Item.look 4, Item.alc 5, Item.look 6, Item.look 7] (by kernel_rfl) ?_
      refine R.eff rfl rfl rfl (Eff.loc ok (Ef.call rfl CB73 rfl ((f73_ok hS).mono ?_)))
      rintro _ h_1 ⟨v10_0, v10_1, v10_2, v10_3, v10_4, v10_5, v10_6, v10_7, rfl, hS⟩
      refine fun ok => ⟨noChk, ?_⟩
      refine R.new (blk := (.row ⟨[(.int .i64 v10_0), (.int .i64 v10_1), (.int .i64 v10_2), (.int .i64 v10_3), (.int .i64 v10_4), (.int .i64 v10_5), (.int .i64 v10_6), (.int .i64 v10_7)], 8, 51, true, true⟩)) ok rfl rfl rfl (Ac.buildSlice (cs := [(.int .i64 v10_0), (.int .i64 v10_1), (.int .i64 v10_2), (.int .i64 v10_3), (.int .i64 v10_4), (.int .i64 v10_5), (.int .i64 v10_6), (.int .i64 v10_7)]) rfl Tryd.underlying31 T51 (by decide) (by decide) rfl rfl) rfl rfl fun b11 e3 ok => ?_
      replace hS := hS b11 _ e3 rfl
      refine R.look rfl rfl rfl (Lk.move rfl rfl) fun _ => ?_
      refine R.eff rfl rfl rfl (Eff.loc ok (Ef.call rfl CB72 rfl ((f72_ok hS).mono ?_)))
      rintro _ h_3 ⟨v13, rfl, hS⟩
      refine fun ok => ⟨noChk, ?_⟩
      refine R.look rfl rfl rfl (Lk.build (cs := [(.slice v13.a v13.l v13.c)]) (pl := [(0, 1)]) rfl Tryd.underlying151 T151 (PlacesL.places (.cons T31 PlacesL.nil)) rfl rfl) fun _ => ?_
      refine R.new (blk := (.row ⟨[(.slice v13.a v13.l v13.c)], 1, 151, true, true⟩)) ok rfl rfl rfl (Ac.box rfl rfl) rfl rfl fun b15 e4 ok => ?_
      replace hS := hS b15 _ e4 rfl
      refine R.look rfl rfl rfl (Lk.assign rfl rfl) fun _ => ?_
      refine R.look rfl rfl rfl (Lk.assign rfl rfl) fun _ => ?_
      refine R.nil ?_
      refine EvC.ret ?_
      exact ⟨.inr rfl, _, _, (.cons (.tmp rfl) (.cons (.tmp rfl) .nil)), ok.le, _, _, rfl, hS⟩
end Go.Proofs.YtimadnngfhbfiaaDoor
end

section
/- PRINTED by wip/gen.py: the machine's call of (*muntin/grid.Grid).Len does what S43 says. -/
namespace Go.Proofs.YtimadnngfhbfiaaDoor
open Go Go.Mu
set_option maxHeartbeats 4000000
set_option maxRecDepth 100000
theorem f43_ok {p0 : Option Addr} {h : H} {K : Int → H → Prop} (hS : S43 p0 h K) : ACall Tryd.prog 43 ([(.pointer p0)] : List Value).toArray h (fun r h' => ∃ r0 : Int, r = tup [(.int .i64 r0)] ∧ K r0 h') := by
  refine ACall.enter (fn := Tryd.f43) Tryd.func43 rfl (Nat.le_of_ble_eq_true rfl) ?_
  unfold S43 at hS
  have ok := Lok.nil h
  change EvC _ _ _ _ (H.add h []) _
  refine EvC.seq ?_
  refine EvC.region [Item.look 0] (by kernel_rfl) ?_
  refine R.look rfl rfl rfl (Lk.assign rfl rfl) fun _ => ?_
  refine R.nil ?_
  refine EvC.seq ?_
  refine EvC.seq ?_
  refine EvC.region [Item.look 0, Item.look 1] (by kernel_rfl) ?_
  refine R.look rfl rfl rfl (Lk.move rfl rfl) fun _ => ?_
  refine R.look rfl rfl rfl (Lk.ptrNil rfl Tryd.underlying103 rfl) fun _ => ?_
  refine R.nil ?_
  by_cases e1 : (Option.isNone p0) = true
  · rw [if_pos e1] at hS
    refine EvC.condT rfl e1 ?_
    refine EvC.seq ?_
    refine EvC.region [Item.look 0] (by kernel_rfl) ?_
    refine R.look rfl rfl rfl (Lk.assign rfl rfl) fun _ => ?_
    refine R.nil ?_
    refine EvC.ret ?_
    exact ⟨.inr rfl, _, _, (.cons (.tmp rfl) .nil), ok.le, _, rfl, hS⟩
  · rw [if_neg e1] at hS
    replace e1 := eq_false_of_ne_true e1
    refine EvC.condF rfl e1 ?_
    refine EvC.skip ?_
    refine EvC.seq ?_
    refine EvC.region [Item.look 0, Item.look 1, Item.look 2, Item.look 3, Item.look 4, Item.look 5] (by kernel_rfl) ?_
    refine R.look rfl rfl rfl (Lk.move rfl rfl) fun _ => ?_
    obtain ⟨a6, e2, hS⟩ := hS
    refine R.look (v := (.pointer (some a6))) rfl rfl rfl (Lk.nilChk rfl rfl e2) fun _ => ?_
    refine R.look (v := (.pointer (some a6))) rfl rfl rfl (Lk.fldAddr rfl Tryd.underlying151 rfl rfl T31 rfl rfl rfl) fun _ => ?_
    obtain ⟨v8, e3, hS⟩ := hS
    refine R.look rfl rfl rfl (Look.loc ok (Lk.load1 rfl Tryd.underlying31 rfl rfl e3)) fun _ => ?_
    refine R.look rfl rfl rfl (Lk.len rfl Tryd.underlying31 rfl) fun _ => ?_
    refine R.look rfl rfl rfl (Lk.assign rfl rfl) fun _ => ?_
    refine R.nil ?_
    refine EvC.ret ?_
    exact ⟨.inr rfl, _, _, (.cons (.tmp rfl) .nil), ok.le, _, rfl, hS⟩
end Go.Proofs.YtimadnngfhbfiaaDoor
end

section
/- PRINTED by wip/gen.py: the machine's call of (*muntin/grid.Grid).Add does what S95 says. -/
namespace Go.Proofs.YtimadnngfhbfiaaDoor
open Go Go.Mu
set_option maxHeartbeats 4000000
set_option maxRecDepth 100000
theorem f95_ok {p0 : Option Addr} {h : H} {K : Int → Int → H → Prop} (hS : S95 p0 h K) : ACall Tryd.prog 95 ([(.pointer p0)] : List Value).toArray h (fun r h' => ∃ r0 : Int, ∃ r1 : Int, r = tup [(.int .i64 r0), (.int .i64 r1)] ∧ K r0 r1 h') := by
  refine ACall.enter (fn := Tryd.f95) Tryd.func95 rfl (Nat.le_of_ble_eq_true rfl) ?_
  unfold S95 at hS
  have ok := Lok.nil h
  change EvC _ _ _ _ (H.add h []) _
  refine EvC.seq ?_
  refine EvC.region [Item.look 0, Item.look 1] (by kernel_rfl) ?_
  refine R.look rfl rfl rfl (Lk.assign rfl rfl) fun _ => ?_
  refine R.look rfl rfl rfl (Lk.assign rfl rfl) fun _ => ?_
  refine R.nil ?_
  refine EvC.seq ?_
  refine EvC.block ?_
  refine EvC.seq ?_
  refine EvC.region [Item.look 0, Item.look 1, Item.look 2] (by kernel_rfl) ?_
  refine R.look rfl rfl rfl (Lk.move rfl rfl) fun _ => ?_
  refine R.look rfl rfl rfl (Lk.ptrNil rfl Tryd.underlying103 rfl) fun _ => ?_
  refine R.look rfl rfl rfl (Lk.assign rfl rfl) fun _ => ?_
  refine R.nil ?_
  by_cases e1 : (Option.isNone p0) = true
  · rw [if_pos e1] at hS
    refine EvC.condT rfl e1 ?_
    refine EvC.seq ?_
    refine EvC.region [Item.look 0, Item.look 1] (by kernel_rfl) ?_
    refine R.look rfl rfl rfl (Lk.assign rfl rfl) fun _ => ?_
    refine R.look rfl rfl rfl (Lk.assign rfl rfl) fun _ => ?_
    refine R.nil ?_
    refine EvC.ret ?_
    exact ⟨.inr rfl, _, _, (.cons (.tmp rfl) (.cons (.tmp rfl) .nil)), ok.le, _, _, rfl, hS⟩
  · rw [if_neg e1] at hS
    replace e1 := eq_false_of_ne_true e1
    refine EvC.condF rfl e1 ?_
    refine EvC.seq ?_
    refine EvC.region [Item.look 0, Item.eff 1 [], Item.look 2, Item.look 3] (by kernel_rfl) ?_
    refine R.look rfl rfl rfl (Lk.move rfl rfl) fun _ => ?_
    refine R.eff rfl rfl rfl (Eff.loc ok (Ef.call rfl CB43 rfl ((f43_ok hS).mono ?_)))
    rintro _ h_1 ⟨v9, rfl, hS⟩
    refine fun ok => ⟨noChk, ?_⟩
    refine R.look rfl rfl rfl (Lk.arith rfl rfl rfl rfl) fun _ => ?_
    refine R.look rfl rfl rfl (Lk.assign rfl rfl) fun _ => ?_
    refine R.nil ?_
    by_cases e2 : (v9 == 4096) = true
    · rw [if_pos e2] at hS
      refine EvC.condT rfl e2 ?_
      refine EvC.seq ?_
      refine EvC.region [Item.look 0, Item.look 1] (by kernel_rfl) ?_
      refine R.look rfl rfl rfl (Lk.assign rfl rfl) fun _ => ?_
      refine R.look rfl rfl rfl (Lk.assign rfl rfl) fun _ => ?_
      refine R.nil ?_
      refine EvC.ret ?_
      exact ⟨.inr rfl, _, _, (.cons (.tmp rfl) (.cons (.tmp rfl) .nil)), ok.le, _, _, rfl, hS⟩
    · rw [if_neg e2] at hS
      replace e2 := eq_false_of_ne_true e2
      refine EvC.condF rfl e2 ?_
      refine EvC.skip ?_
      refine EvC.seq ?_
      refine EvC.draw [0, 0, 2, 6, 14, 0, 32, 126, 255, 511, 1023] [Item.look 0, Item.look 1, Item.look 2, Item.look 3, Item.look 4, Item.eff 5 [0, 1, 2, 3, 4], Item.alc 6, Item.eff 7 [0], Item.look 8, Item.look 9, Item.eff 10 []] MO (by kernel_rfl) ?_
      refine R.lookL rfl rfl rfl (Lk.move rfl rfl) ?_
      refine R.lookL rfl rfl rfl (Lk.move rfl rfl) ?_
      obtain ⟨a13, e3, hS⟩ := hS
      refine R.lookL (v := (.pointer (some a13))) rfl rfl rfl (Lk.nilChk rfl rfl e3) ?_
      refine R.lookL (v := (.pointer (some a13))) rfl rfl rfl (Lk.fldAddr rfl Tryd.underlying151 rfl rfl T31 rfl rfl rfl) ?_
      obtain ⟨v15, e4, hS⟩ := hS
      refine R.lookL rfl rfl rfl (Look.loc ok (Lk.load1 rfl Tryd.underlying31 rfl rfl e4)) ?_
      refine R.eff rfl rfl rfl (Eff.loc ok (Ef.call rfl CB73 rfl ((f73_ok hS).mono ?_)))
      rintro _ h_2 ⟨v16_0, v16_1, v16_2, v16_3, v16_4, v16_5, v16_6, v16_7, rfl, hS⟩
      obtain ⟨e5, hS⟩ := hS
      refine fun ok => ⟨(List.forall_mem_cons.2 ⟨(Log.past (by decide) (Log.past (by decide) (Log.past (by decide) (Log.past (by decide) (Log.at_ (LookG.of rfl (Lk.move rfl rfl))))))), (List.forall_mem_cons.2 ⟨(Log.past (by decide) (Log.past (by decide) (Log.past (by decide) (Log.at_ (LookG.of rfl (Lk.move rfl rfl)))))), (List.forall_mem_cons.2 ⟨(Log.past (by decide) (Log.past (by decide) (Log.at_ (LookG.of rfl (Lk.nilChk rfl rfl e3))))), (List.forall_mem_cons.2 ⟨(Log.past (by decide) (Log.at_ (LookG.of rfl (Lk.fldAddr rfl Tryd.underlying151 rfl rfl T31 rfl rfl rfl)))), (List.forall_mem_cons.2 ⟨(Log.at_ (LookG.of rfl (Look.loc ok (Lk.load1 rfl Tryd.underlying31 rfl rfl e5)))), noChk⟩)⟩)⟩)⟩)⟩), ?_⟩
      refine R.appL (cs := [(.int .i64 v16_0), (.int .i64 v16_1), (.int .i64 v16_2), (.int .i64 v16_3), (.int .i64 v16_4), (.int .i64 v16_5), (.int .i64 v16_6), (.int .i64 v16_7)]) ok rfl rfl rfl rfl rfl rfl rfl rfl Tryd.underlying31 T51 rfl (by decide) (by decide) rfl rfl rfl rfl rfl (fun _ => rfl) hS ?_
      intro bb17 v18 h_3 hS ok
      refine ⟨(List.forall_mem_cons.2 ⟨(Log.past (by decide) (Log.past (by decide) (Log.past (by decide) (Log.past (by decide) (Log.at_ (LookG.of rfl (Lk.move rfl rfl))))))), noChk⟩), ?_⟩
      obtain ⟨a19, e6, hS⟩ := hS
      refine R.lookL (v := (.pointer (some a19))) rfl rfl rfl (Lk.nilChk rfl rfl e6) ?_
      refine R.lookL (v := (.pointer (some a19))) rfl rfl rfl (Lk.fldAddr rfl Tryd.underlying151 rfl rfl T31 rfl rfl rfl) ?_
      obtain ⟨h_4, e7, hS⟩ := hS
      refine R.effN rfl rfl rfl (Eff.loc ok (Ef.store rfl T31 rfl rfl rfl rfl rfl e7 fun ok => ⟨noChk, ?_⟩))
      refine R.nil ?_
      refine EvC.seq ?_
      refine EvC.region [Item.look 0, Item.eff 1 [], Item.look 2, Item.look 3, Item.look 4] (by kernel_rfl) ?_
      refine R.look rfl rfl rfl (Lk.move rfl rfl) fun _ => ?_
      refine R.eff rfl rfl rfl (Eff.loc ok (Ef.call rfl CB43 rfl ((f43_ok hS).mono ?_)))
      rintro _ h_5 ⟨v22, rfl, hS⟩
      refine fun ok => ⟨noChk, ?_⟩
      refine R.look rfl rfl rfl (Lk.arith rfl rfl rfl rfl) fun _ => ?_
      refine R.look rfl rfl rfl (Lk.assign rfl rfl) fun _ => ?_
      refine R.look rfl rfl rfl (Lk.assign rfl rfl) fun _ => ?_
      refine R.nil ?_
      refine EvC.ret ?_
      exact ⟨.inr rfl, _, _, (.cons (.tmp rfl) (.cons (.tmp rfl) .nil)), ok.le, _, _, rfl, hS⟩
end Go.Proofs.YtimadnngfhbfiaaDoor
end

section
/- PRINTED by wip/gen.py: the machine's call of (*muntin/norm.maker).add does what S74 says. -/
namespace Go.Proofs.YtimadnngfhbfiaaDoor
open Go Go.Mu
set_option maxHeartbeats 4000000
set_option maxRecDepth 100000
theorem f74_ok {p0 : Option Addr} {h : H} {K : Int → H → Prop} (hS : S74 p0 h K) : ACall Tryd.prog 74 ([(.pointer p0)] : List Value).toArray h (fun r h' => ∃ r0 : Int, r = tup [(.int .i64 r0)] ∧ K r0 h') := by
  refine ACall.enter (fn := Tryd.f74) Tryd.func74 rfl (Nat.le_of_ble_eq_true rfl) ?_
  unfold S74 at hS
  have ok := Lok.nil h
  change EvC _ _ _ _ (H.add h []) _
  refine EvC.seq ?_
  refine EvC.region [Item.look 0] (by kernel_rfl) ?_
  refine R.look rfl rfl rfl (Lk.assign rfl rfl) fun _ => ?_
  refine R.nil ?_
  refine EvC.seq ?_
  refine EvC.region [Item.look 0, Item.look 1, Item.look 2, Item.look 3, Item.eff 4 [], Item.look 5, Item.look 6, Item.look 7, Item.look 8, Item.look 9] (by kernel_rfl) ?_
  refine R.look rfl rfl rfl (Lk.move rfl rfl) fun _ => ?_
  obtain ⟨a7, e1, hS⟩ := hS
  refine R.look (v := (.pointer (some a7))) rfl rfl rfl (Lk.nilChk rfl rfl e1) fun _ => ?_
  refine R.look (v := (.pointer (some (Addr.add a7 2)))) rfl rfl rfl (Lk.fldAddr rfl Tryd.underlying106 rfl rfl T103 rfl rfl rfl) fun _ => ?_
  obtain ⟨v9, e2, hS⟩ := hS
  refine R.look rfl rfl rfl (Look.loc ok (Lk.load1 rfl Tryd.underlying103 rfl rfl e2)) fun _ => ?_
  refine R.eff rfl rfl rfl (Eff.loc ok (Ef.call rfl CB95 rfl ((f95_ok hS).mono ?_)))
  rintro _ h_1 ⟨v10_0, v10_1, rfl, hS⟩
  refine fun ok => ⟨noChk, ?_⟩
  refine R.look rfl rfl rfl (Lk.move rfl rfl) fun _ => ?_
  refine R.look rfl rfl rfl (Lk.extract rfl rfl rfl) fun _ => ?_
  refine R.look rfl rfl rfl (Lk.extract rfl rfl rfl) fun _ => ?_
  refine R.look rfl rfl rfl (Lk.assign rfl rfl) fun _ => ?_
  refine R.look rfl rfl rfl (Lk.assign rfl rfl) fun _ => ?_
  refine R.nil ?_
  refine EvC.seq ?_
  refine EvC.region [Item.look 0, Item.look 1] (by kernel_rfl) ?_
  refine R.look rfl rfl rfl (Lk.move rfl rfl) fun _ => ?_
  refine R.look rfl rfl rfl (Lk.assign rfl rfl) fun _ => ?_
  refine R.nil ?_
  refine EvC.ret ?_
  exact ⟨.inr rfl, _, _, (.cons (.tmp rfl) .nil), ok.le, _, rfl, hS⟩
end Go.Proofs.YtimadnngfhbfiaaDoor
end

section
/- PRINTED by wip/gen.py: the machine's call of (*muntin/grid.Grid).is does what S96 says. -/
namespace Go.Proofs.YtimadnngfhbfiaaDoor
open Go Go.Mu
set_option maxHeartbeats 4000000
set_option maxRecDepth 100000
theorem f96_ok {p0 : Option Addr} {p1 : Int} {p2 : Int} {h : H} {K : Bool → H → Prop} (hS : S96 p0 p1 p2 h K) : ACall Tryd.prog 96 ([(.pointer p0), (.int .i64 p1), (.int .i64 p2)] : List Value).toArray h (fun r h' => ∃ r0 : Bool, r = tup [(.bool r0)] ∧ K r0 h') := by
  refine ACall.enter (fn := Tryd.f96) Tryd.func96 rfl (Nat.le_of_ble_eq_true rfl) ?_
  unfold S96 at hS
  have ok := Lok.nil h
  change EvC _ _ _ _ (H.add h []) _
  refine EvC.seq ?_
  refine EvC.region [Item.look 0] (by kernel_rfl) ?_
  refine R.look rfl rfl rfl (Lk.assign rfl rfl) fun _ => ?_
  refine R.nil ?_
  refine EvC.join (σ := Bool) (fun s => (Env.put Env.emp 6 (.bool s))) (fun s => []) (fun s h_1 => S96_j1 K s h_1) ?_ (fun Ih_1 hIh_1 => ?_)
  · intro v6 h_1 ok hS
    replace hS : S96_j1 K v6 h_1 := hS
    change EvC _ _ _ (Env.put Env.emp 6 (.bool v6)) (H.add h_1 []) _
    unfold S96_j1 at hS
    refine EvC.ret ?_
    exact ⟨.inr rfl, _, _, (.cons (.tmp rfl) .nil), ok.le, _, rfl, hS⟩
  · refine EvC.region [Item.look 0, Item.look 1, Item.look 2, Item.look 3, Item.look 4, Item.eff 5 [], Item.look 6, Item.look 7, Item.look 8, Item.look 9, Item.eff 10 [], Item.look 11, Item.look 12] (by kernel_rfl) ?_
    refine R.look rfl rfl rfl (Lk.move rfl rfl) fun _ => ?_
    refine R.look rfl rfl rfl (Lk.arith rfl rfl rfl rfl) fun _ => ?_
    refine R.look rfl rfl rfl (Lk.move rfl rfl) fun _ => ?_
    by_cases e1 : (decide (p1 ≥ 0)) = true
    · rw [if_pos e1] at hS
      refine R.lookT rfl rfl rfl rfl e1 rfl (Lk.move rfl rfl) fun _ => ?_
      refine R.lookT rfl rfl rfl rfl e1 rfl (Lk.move rfl rfl) fun _ => ?_
      refine R.effT rfl rfl rfl rfl e1 rfl (Eff.loc ok (Ef.call rfl CB43 rfl ((f43_ok hS).mono ?_)))
      rintro _ h_2 ⟨v12, rfl, hS⟩
      refine fun ok => ⟨noChk, ?_⟩
      refine R.lookT rfl rfl rfl rfl e1 rfl (Lk.arith rfl rfl rfl rfl) fun _ => ?_
      refine R.look rfl rfl rfl (Lk.pick rfl rfl (fun _ => rfl) (fun e => by rw [e1] at e; cases e)) fun _ => ?_
      refine R.look rfl rfl rfl (Lk.move rfl rfl) fun _ => ?_
      by_cases e2 : (decide (p1 < v12)) = true
      · rw [if_pos e2] at hS
        refine R.lookT rfl rfl rfl rfl e2 rfl (Lk.move rfl rfl) fun _ => ?_
        refine R.effT rfl rfl rfl rfl e2 rfl (Eff.loc ok (Ef.call rfl CB54 rfl ((f54_ok hS).mono ?_)))
        rintro _ h_3 ⟨v17, rfl, hS⟩
        refine fun ok => ⟨noChk, ?_⟩
        refine R.look rfl rfl rfl (Lk.pick rfl rfl (fun _ => rfl) (fun e => by rw [e2] at e; cases e)) fun _ => ?_
        refine R.look rfl rfl rfl (Lk.assign rfl rfl) fun _ => ?_
        refine R.nil ?_
        exact hIh_1 v17 _ _ _ (Env.le_put rfl (Env.le_emp _)) (ok.sub List.Sublist.slnil) (H.add_sub ok List.Sublist.slnil) hS
      · rw [if_neg e2] at hS
        replace e2 := eq_false_of_ne_true e2
        refine R.lookF rfl rfl rfl rfl e2 rfl fun _ => ?_
        refine R.effF rfl rfl rfl rfl e2 rfl ?_
        refine R.look rfl rfl rfl (Lk.pick rfl rfl (fun e => by rw [e2] at e; cases e) (fun _ => rfl)) fun _ => ?_
        refine R.look rfl rfl rfl (Lk.assign rfl rfl) fun _ => ?_
        refine R.nil ?_
        exact hIh_1 false _ _ _ (Env.le_put rfl (Env.le_emp _)) (ok.sub List.Sublist.slnil) (H.add_sub ok List.Sublist.slnil) hS
    · rw [if_neg e1] at hS
      replace e1 := eq_false_of_ne_true e1
      refine R.lookF rfl rfl rfl rfl e1 rfl fun _ => ?_
      refine R.lookF rfl rfl rfl rfl e1 rfl fun _ => ?_
      refine R.effF rfl rfl rfl rfl e1 rfl ?_
      refine R.lookF rfl rfl rfl rfl e1 rfl fun _ => ?_
      refine R.look rfl rfl rfl (Lk.pick rfl rfl (fun e => by rw [e1] at e; cases e) (fun _ => rfl)) fun _ => ?_
      refine R.look rfl rfl rfl (Lk.move rfl rfl) fun _ => ?_
      refine R.lookF rfl rfl rfl rfl rfl rfl fun _ => ?_
      refine R.effF rfl rfl rfl rfl rfl rfl ?_
      refine R.look rfl rfl rfl (Lk.pick rfl rfl (fun e => by cases e) (fun _ => rfl)) fun _ => ?_
      refine R.look rfl rfl rfl (Lk.assign rfl rfl) fun _ => ?_
      refine R.nil ?_
      exact hIh_1 false _ _ _ (Env.le_put rfl (Env.le_emp _)) (ok.sub List.Sublist.slnil) (H.add_sub ok List.Sublist.slnil) hS
end Go.Proofs.YtimadnngfhbfiaaDoor
end

section
/- PRINTED by wip/gen.py: the machine's call of (*muntin/grid.Grid).lay does what S97 says. -/
namespace Go.Proofs.YtimadnngfhbfiaaDoor
open Go Go.Mu
set_option maxHeartbeats 4000000
set_option maxRecDepth 100000
theorem f97_ok {p0 : Option Addr} {p1 : Int} {p2 : Int} {p3 : Int} {p4 : Int} {h : H} {K : H → Prop} (hS : S97 p0 p1 p2 p3 p4 h K) : ACall Tryd.prog 97 ([(.pointer p0), (.int .i64 p1), (.int .i64 p2), (.int .i64 p3), (.int .i64 p4)] : List Value).toArray h (fun r h' => r = tup [] ∧ K  h') := by
  refine ACall.enter (fn := Tryd.f97) Tryd.func97 rfl (Nat.le_of_ble_eq_true rfl) ?_
  unfold S97 at hS
  have ok := Lok.nil h
  change EvC _ _ _ _ (H.add h []) _
  refine EvC.seq ?_
  refine EvC.region [Item.look 0, Item.eff 1 [], Item.look 2] (by kernel_rfl) ?_
  refine R.look rfl rfl rfl (Lk.move rfl rfl) fun _ => ?_
  refine R.eff rfl rfl rfl (Eff.loc ok (Ef.call rfl CB56 rfl ((f56_ok hS).mono ?_)))
  rintro _ h_1 ⟨v12, rfl, hS⟩
  refine fun ok => ⟨noChk, ?_⟩
  refine R.look rfl rfl rfl (Lk.assign rfl rfl) fun _ => ?_
  refine R.nil ?_
  refine EvC.seq ?_
  refine EvC.draw [0, 1, 3, 7, 0, 0, 0, 64, 192, 448, 0, 0, 0, 0, 31, 16415, 54271, 119807, 1984, 264128, 1048575, 2097151] [Item.look 0, Item.look 1, Item.look 2, Item.look 3, Item.look 4, Item.look 5, Item.look 6, Item.look 7, Item.look 8, Item.look 9, Item.look 10, Item.look 11, Item.look 12, Item.look 13, Item.look 14, Item.look 15, Item.look 16, Item.look 18, Item.look 19, Item.eff 17 [10, 11, 13, 18, 19], Item.look 20, Item.eff 21 []] MO (by kernel_rfl) ?_
  refine R.lookL rfl rfl rfl (Lk.move rfl rfl) ?_
  obtain ⟨a14, e1, hS⟩ := hS
  refine R.lookL (v := (.pointer (some a14))) rfl rfl rfl (Lk.nilChk rfl rfl e1) ?_
  refine R.lookL (v := (.pointer (some a14))) rfl rfl rfl (Lk.fldAddr rfl Tryd.underlying151 rfl rfl T31 rfl rfl rfl) ?_
  obtain ⟨v16, e2, hS⟩ := hS
  refine R.lookL rfl rfl rfl (Look.loc ok (Lk.load1 rfl Tryd.underlying31 rfl rfl e2)) ?_
  refine R.lookL rfl rfl rfl (Lk.move rfl rfl) ?_
  refine R.lookL rfl rfl rfl (Lk.move rfl rfl) ?_
  refine R.lookL rfl rfl rfl (Lk.move rfl rfl) ?_
  obtain ⟨a20, e3, hS⟩ := hS
  refine R.lookL (v := (.pointer (some a20))) rfl rfl rfl (Lk.nilChk rfl rfl e3) ?_
  refine R.lookL (v := (.pointer (some a20))) rfl rfl rfl (Lk.fldAddr rfl Tryd.underlying151 rfl rfl T31 rfl rfl rfl) ?_
  obtain ⟨v22, e4, hS⟩ := hS
  refine R.lookL rfl rfl rfl (Look.loc ok (Lk.load1 rfl Tryd.underlying31 rfl rfl e4)) ?_
  refine R.lookL rfl rfl rfl (Lk.move rfl rfl) ?_
  refine R.lookL rfl rfl rfl (Lk.move rfl rfl) ?_
  refine R.lookL rfl rfl rfl (Lk.move rfl rfl) ?_
  refine R.lookL rfl rfl rfl (Lk.move rfl rfl) ?_
  obtain ⟨a27, e5, e6, e7, hS⟩ := hS
  refine R.lookL rfl rfl rfl (Lk.ixAddr rfl Tryd.underlying31 T51 rfl e5 rfl e6 e7) ?_
  refine R.lookL (v := (.pointer (some (Addr.add a27 (Int.toNat p1 * 8))))) rfl rfl rfl (Lk.fldAddr rfl Tryd.underlying51 rfl rfl T49 rfl rfl rfl) ?_
  obtain ⟨e8, e9, hS⟩ := hS
  refine R.lookL rfl rfl rfl (Lk.indexAddrA rfl Tryd.underlying49 T3 rfl rfl e8 e9) ?_
  obtain ⟨a30, e10, e11, e12, hS⟩ := hS
  refine R.lookL rfl rfl rfl (Lk.ixAddr rfl Tryd.underlying31 T51 rfl e10 rfl e11 e12) ?_
  refine R.lookL (v := (.pointer (some (Addr.add (Addr.add a30 (Int.toNat p1 * 8)) 4)))) rfl rfl rfl (Lk.fldAddr rfl Tryd.underlying51 rfl rfl T49 rfl rfl rfl) ?_
  obtain ⟨h_2, e13, hS⟩ := hS
  refine R.effN rfl rfl rfl (Eff.loc ok (Ef.store rfl T3 rfl rfl rfl rfl rfl e13 fun ok => ⟨(List.forall_mem_cons.2 ⟨(Log.past (by decide) (Log.past (by decide) (Log.past (by decide) (Log.past (by decide) (Log.past (by decide) (Log.past (by decide) (Log.past (by decide) (Log.past (by decide) (Log.at_ (LookG.of rfl (Lk.move rfl rfl))))))))))), (List.forall_mem_cons.2 ⟨(Log.past (by decide) (Log.past (by decide) (Log.past (by decide) (Log.past (by decide) (Log.past (by decide) (Log.past (by decide) (Log.past (by decide) (Log.at_ (LookG.of rfl (Lk.move rfl rfl)))))))))), (List.forall_mem_cons.2 ⟨(Log.past (by decide) (Log.past (by decide) (Log.past (by decide) (Log.past (by decide) (Log.past (by decide) (Log.at_ (LookG.of rfl (Lk.move rfl rfl)))))))), (List.forall_mem_cons.2 ⟨(Log.past (by decide) (Log.at_ (LookG.of rfl (Lk.ixAddr rfl Tryd.underlying31 T51 rfl e10 rfl e11 e12)))), (List.forall_mem_cons.2 ⟨(Log.at_ (LookG.of rfl (Lk.fldAddr rfl Tryd.underlying51 rfl rfl T49 rfl rfl rfl))), noChk⟩)⟩)⟩)⟩)⟩), ?_⟩))
  obtain ⟨e14, e15, hS⟩ := hS
  refine R.lookL rfl rfl rfl (Lk.indexAddrA rfl Tryd.underlying49 T3 rfl rfl e14 e15) ?_
  obtain ⟨h_3, e16, hS⟩ := hS
  refine R.effN rfl rfl rfl (Eff.loc ok (Ef.store rfl T3 rfl rfl rfl rfl rfl e16 fun ok => ⟨noChk, ?_⟩))
  refine R.nil ?_
  refine EvC.draw [0, 1, 3, 7, 0, 0, 0, 64, 192, 448, 0, 0, 0, 0, 31, 16415, 54271, 119807, 1984, 264128, 1048575, 2097151] [Item.look 0, Item.look 1, Item.look 2, Item.look 3, Item.look 4, Item.look 5, Item.look 6, Item.look 7, Item.look 8, Item.look 9, Item.look 10, Item.look 11, Item.look 12, Item.look 13, Item.look 14, Item.look 15, Item.look 16, Item.look 18, Item.look 19, Item.eff 17 [10, 11, 13, 18, 19], Item.look 20, Item.eff 21 []] MO (by kernel_rfl) ?_
  refine R.lookL rfl rfl rfl (Lk.move rfl rfl) ?_
  obtain ⟨a34, e17, hS⟩ := hS
  refine R.lookL (v := (.pointer (some a34))) rfl rfl rfl (Lk.nilChk rfl rfl e17) ?_
  refine R.lookL (v := (.pointer (some a34))) rfl rfl rfl (Lk.fldAddr rfl Tryd.underlying151 rfl rfl T31 rfl rfl rfl) ?_
  obtain ⟨v36, e18, hS⟩ := hS
  refine R.lookL rfl rfl rfl (Look.loc ok (Lk.load1 rfl Tryd.underlying31 rfl rfl e18)) ?_
  refine R.lookL rfl rfl rfl (Lk.move rfl rfl) ?_
  refine R.lookL rfl rfl rfl (Lk.move rfl rfl) ?_
  refine R.lookL rfl rfl rfl (Lk.move rfl rfl) ?_
  obtain ⟨a40, e19, hS⟩ := hS
  refine R.lookL (v := (.pointer (some a40))) rfl rfl rfl (Lk.nilChk rfl rfl e19) ?_
  refine R.lookL (v := (.pointer (some a40))) rfl rfl rfl (Lk.fldAddr rfl Tryd.underlying151 rfl rfl T31 rfl rfl rfl) ?_
  obtain ⟨v42, e20, hS⟩ := hS
  refine R.lookL rfl rfl rfl (Look.loc ok (Lk.load1 rfl Tryd.underlying31 rfl rfl e20)) ?_
  refine R.lookL rfl rfl rfl (Lk.move rfl rfl) ?_
  refine R.lookL rfl rfl rfl (Lk.move rfl rfl) ?_
  refine R.lookL rfl rfl rfl (Lk.move rfl rfl) ?_
  refine R.lookL rfl rfl rfl (Lk.move rfl rfl) ?_
  obtain ⟨a47, e21, e22, e23, hS⟩ := hS
  refine R.lookL rfl rfl rfl (Lk.ixAddr rfl Tryd.underlying31 T51 rfl e21 rfl e22 e23) ?_
  refine R.lookL (v := (.pointer (some (Addr.add a47 (Int.toNat p3 * 8))))) rfl rfl rfl (Lk.fldAddr rfl Tryd.underlying51 rfl rfl T49 rfl rfl rfl) ?_
  obtain ⟨e24, e25, hS⟩ := hS
  refine R.lookL rfl rfl rfl (Lk.indexAddrA rfl Tryd.underlying49 T3 rfl rfl e24 e25) ?_
  obtain ⟨a50, e26, e27, e28, hS⟩ := hS
  refine R.lookL rfl rfl rfl (Lk.ixAddr rfl Tryd.underlying31 T51 rfl e26 rfl e27 e28) ?_
  refine R.lookL (v := (.pointer (some (Addr.add (Addr.add a50 (Int.toNat p3 * 8)) 4)))) rfl rfl rfl (Lk.fldAddr rfl Tryd.underlying51 rfl rfl T49 rfl rfl rfl) ?_
  obtain ⟨h_4, e29, hS⟩ := hS
  refine R.effN rfl rfl rfl (Eff.loc ok (Ef.store rfl T3 rfl rfl rfl rfl rfl e29 fun ok => ⟨(List.forall_mem_cons.2 ⟨(Log.past (by decide) (Log.past (by decide) (Log.past (by decide) (Log.past (by decide) (Log.past (by decide) (Log.past (by decide) (Log.past (by decide) (Log.past (by decide) (Log.at_ (LookG.of rfl (Lk.move rfl rfl))))))))))), (List.forall_mem_cons.2 ⟨(Log.past (by decide) (Log.past (by decide) (Log.past (by decide) (Log.past (by decide) (Log.past (by decide) (Log.past (by decide) (Log.past (by decide) (Log.at_ (LookG.of rfl (Lk.move rfl rfl)))))))))), (List.forall_mem_cons.2 ⟨(Log.past (by decide) (Log.past (by decide) (Log.past (by decide) (Log.past (by decide) (Log.past (by decide) (Log.at_ (LookG.of rfl (Lk.move rfl rfl)))))))), (List.forall_mem_cons.2 ⟨(Log.past (by decide) (Log.at_ (LookG.of rfl (Lk.ixAddr rfl Tryd.underlying31 T51 rfl e26 rfl e27 e28)))), (List.forall_mem_cons.2 ⟨(Log.at_ (LookG.of rfl (Lk.fldAddr rfl Tryd.underlying51 rfl rfl T49 rfl rfl rfl))), noChk⟩)⟩)⟩)⟩)⟩), ?_⟩))
  obtain ⟨e30, e31, hS⟩ := hS
  refine R.lookL rfl rfl rfl (Lk.indexAddrA rfl Tryd.underlying49 T3 rfl rfl e30 e31) ?_
  obtain ⟨h_5, e32, hS⟩ := hS
  refine R.effN rfl rfl rfl (Eff.loc ok (Ef.store rfl T3 rfl rfl rfl rfl rfl e32 fun ok => ⟨noChk, ?_⟩))
  refine R.nil ?_
  exact ⟨.inl rfl, _, _, .nil, ok.le, rfl, hS⟩
end Go.Proofs.YtimadnngfhbfiaaDoor
end

section
/- PRINTED by wip/gen.py: the machine's call of (*muntin/grid.Grid).Join does what S75 says. -/
namespace Go.Proofs.YtimadnngfhbfiaaDoor
open Go Go.Mu
set_option maxHeartbeats 4000000
set_option maxRecDepth 100000
theorem f75_ok {p0 : Option Addr} {p1 : Int} {p2 : Int} {p3 : Int} {p4 : Int} {h : H} {K : Int → H → Prop} (hS : S75 p0 p1 p2 p3 p4 h K) : ACall Tryd.prog 75 ([(.pointer p0), (.int .i64 p1), (.int .i64 p2), (.int .i64 p3), (.int .i64 p4)] : List Value).toArray h (fun r h' => ∃ r0 : Int, r = tup [(.int .i64 r0)] ∧ K r0 h') := by
  refine ACall.enter (fn := Tryd.f75) Tryd.func75 rfl (Nat.le_of_ble_eq_true rfl) ?_
  unfold S75 at hS
  have ok := Lok.nil h
  change EvC _ _ _ _ (H.add h []) _
  refine EvC.seq ?_
  refine EvC.region [Item.look 0] (by kernel_rfl) ?_
  refine R.look rfl rfl rfl (Lk.assign rfl rfl) fun _ => ?_
  refine R.nil ?_
  refine EvC.seq ?_
  refine EvC.block ?_
  refine EvC.seq ?_
  refine EvC.region [Item.look 0, Item.look 1, Item.look 2] (by kernel_rfl) ?_
  refine R.look rfl rfl rfl (Lk.move rfl rfl) fun _ => ?_
  refine R.look rfl rfl rfl (Lk.ptrNil rfl Tryd.underlying103 rfl) fun _ => ?_
  refine R.look rfl rfl rfl (Lk.assign rfl rfl) fun _ => ?_
  refine R.nil ?_
  by_cases e1 : (Option.isNone p0) = true
  · rw [if_pos e1] at hS
    refine EvC.condT rfl e1 ?_
    refine EvC.seq ?_
    refine EvC.region [Item.look 0] (by kernel_rfl) ?_
    refine R.look rfl rfl rfl (Lk.assign rfl rfl) fun _ => ?_
    refine R.nil ?_
    refine EvC.ret ?_
    exact ⟨.inr rfl, _, _, (.cons (.tmp rfl) .nil), ok.le, _, rfl, hS⟩
  · rw [if_neg e1] at hS
    replace e1 := eq_false_of_ne_true e1
    refine EvC.condF rfl e1 ?_
    refine EvC.join (σ := Bool) (fun s => (Env.put (Env.put (Env.put (Env.put (Env.put (Env.put Env.emp 14 (.bool s)) 4 (.int .i64 p4)) 3 (.int .i64 p3)) 2 (.int .i64 p2)) 1 (.int .i64 p1)) 0 (.pointer p0))) (fun s => []) (fun s h_1 => S75_j2 p0 p1 p2 p3 p4 K s h_1) ?_ (fun Ih_1 hIh_1 => ?_)
    · intro v14 h_1 ok hS
      replace hS : S75_j2 p0 p1 p2 p3 p4 K v14 h_1 := hS
      change EvC _ _ _ (Env.put (Env.put (Env.put (Env.put (Env.put (Env.put Env.emp 14 (.bool v14)) 4 (.int .i64 p4)) 3 (.int .i64 p3)) 2 (.int .i64 p2)) 1 (.int .i64 p1)) 0 (.pointer p0)) (H.add h_1 []) _
      unfold S75_j2 at hS
      by_cases e2 : v14 = true
      · rw [if_pos e2] at hS
        refine EvC.condT rfl e2 ?_
        refine EvC.seq ?_
        refine EvC.region [Item.look 0] (by kernel_rfl) ?_
        refine R.look rfl rfl rfl (Lk.assign rfl rfl) fun _ => ?_
        refine R.nil ?_
        refine EvC.ret ?_
        exact ⟨.inr rfl, _, _, (.cons (.tmp rfl) .nil), ok.le, _, rfl, hS⟩
      · rw [if_neg e2] at hS
        replace e2 := eq_false_of_ne_true e2
        refine EvC.condF rfl e2 ?_
        refine EvC.join (σ := Bool) (fun s => (Env.put (Env.put (Env.put (Env.put (Env.put (Env.put Env.emp 36 (.bool s)) 4 (.int .i64 p4)) 3 (.int .i64 p3)) 2 (.int .i64 p2)) 1 (.int .i64 p1)) 0 (.pointer p0))) (fun s => []) (fun s h_2 => S75_j1 p0 p1 p2 p3 p4 K s h_2) ?_ (fun Ih_2 hIh_2 => ?_)
        · intro v36 h_2 ok hS
          replace hS : S75_j1 p0 p1 p2 p3 p4 K v36 h_2 := hS
          change EvC _ _ _ (Env.put (Env.put (Env.put (Env.put (Env.put (Env.put Env.emp 36 (.bool v36)) 4 (.int .i64 p4)) 3 (.int .i64 p3)) 2 (.int .i64 p2)) 1 (.int .i64 p1)) 0 (.pointer p0)) (H.add h_2 []) _
          unfold S75_j1 at hS
          by_cases e3 : v36 = true
          · rw [if_pos e3] at hS
            refine EvC.condT rfl e3 ?_
            refine EvC.seq ?_
            refine EvC.region [Item.look 0] (by kernel_rfl) ?_
            refine R.look rfl rfl rfl (Lk.assign rfl rfl) fun _ => ?_
            refine R.nil ?_
            refine EvC.ret ?_
            exact ⟨.inr rfl, _, _, (.cons (.tmp rfl) .nil), ok.le, _, rfl, hS⟩
          · rw [if_neg e3] at hS
            replace e3 := eq_false_of_ne_true e3
            refine EvC.condF rfl e3 ?_
            refine EvC.skip ?_
            refine EvC.seq ?_
            refine EvC.region [Item.look 0, Item.look 1, Item.look 2, Item.look 3, Item.look 4, Item.eff 5 []] (by kernel_rfl) ?_
            refine R.look rfl rfl rfl (Lk.move rfl rfl) fun _ => ?_
            refine R.look rfl rfl rfl (Lk.move rfl rfl) fun _ => ?_
            refine R.look rfl rfl rfl (Lk.move rfl rfl) fun _ => ?_
            refine R.look rfl rfl rfl (Lk.move rfl rfl) fun _ => ?_
            refine R.look rfl rfl rfl (Lk.move rfl rfl) fun _ => ?_
            refine R.eff rfl rfl rfl (Eff.loc ok (Ef.call rfl CB97 rfl ((f97_ok hS).mono ?_)))
            rintro _ h_3 ⟨rfl, hS⟩
            refine fun ok => ⟨noChk, ?_⟩
            refine R.nil ?_
            refine EvC.seq ?_
            refine EvC.region [Item.look 0] (by kernel_rfl) ?_
            refine R.look rfl rfl rfl (Lk.assign rfl rfl) fun _ => ?_
            refine R.nil ?_
            refine EvC.ret ?_
            exact ⟨.inr rfl, _, _, (.cons (.tmp rfl) .nil), ok.le, _, rfl, hS⟩
        · refine EvC.draw [0, 1, 3, 7, 0, 0, 31, 95, 255, 511, 1023, 2047, 4095, 8191, 16383, 32767, 4095, 4095, 135167, 131071, 655359, 2097151, 4194303, 8388607, 16777215, 33554431] [Item.look 0, Item.look 1, Item.look 2, Item.look 3, Item.look 4, Item.look 5, Item.look 6, Item.look 7, Item.look 8, Item.look 9, Item.look 10, Item.look 11, Item.look 12, Item.look 13, Item.look 14, Item.look 15, Item.look 16, Item.look 17, Item.look 19, Item.look 20, Item.eff 18 [12, 13, 14, 15, 16, 19, 20], Item.look 21, Item.look 22, Item.look 23, Item.look 24, Item.look 25] MO (by kernel_rfl) ?_
          refine R.lookL rfl rfl rfl (Lk.move rfl rfl) ?_
          obtain ⟨a38, e4, hS⟩ := hS
          refine R.lookL (v := (.pointer (some a38))) rfl rfl rfl (Lk.nilChk rfl rfl e4) ?_
          refine R.lookL (v := (.pointer (some a38))) rfl rfl rfl (Lk.fldAddr rfl Tryd.underlying151 rfl rfl T31 rfl rfl rfl) ?_
          obtain ⟨v40, e5, hS⟩ := hS
          refine R.lookL rfl rfl rfl (Look.loc ok (Lk.load1 rfl Tryd.underlying31 rfl rfl e5)) ?_
          refine R.lookL rfl rfl rfl (Lk.move rfl rfl) ?_
          refine R.lookL rfl rfl rfl (Lk.move rfl rfl) ?_
          obtain ⟨a43, e6, e7, e8, hS⟩ := hS
          refine R.lookL rfl rfl rfl (Lk.ixAddr rfl Tryd.underlying31 T51 rfl e6 rfl e7 e8) ?_
          refine R.lookL (v := (.pointer (some (Addr.add a43 (Int.toNat p1 * 8))))) rfl rfl rfl (Lk.fldAddr rfl Tryd.underlying51 rfl rfl T49 rfl rfl rfl) ?_
          obtain ⟨e9, e10, hS⟩ := hS
          refine R.lookL rfl rfl rfl (Lk.indexAddrA rfl Tryd.underlying49 T3 rfl rfl e9 e10) ?_
          obtain ⟨v46, e11, hS⟩ := hS
          refine R.lookL rfl rfl rfl (Look.loc ok (Lk.load1 rfl Tryd.underlying3 rfl rfl e11)) ?_
          refine R.lookL rfl rfl rfl (Lk.arith rfl rfl rfl rfl) ?_
          refine R.lookL rfl rfl rfl (Lk.move rfl rfl) ?_
          by_cases e12 : (v46 != (-1)) = true
          · rw [if_pos e12] at hS
            refine R.lookFL rfl rfl rfl rfl e12 rfl ?_
            refine R.lookFL rfl rfl rfl rfl e12 rfl ?_
            refine R.lookFL rfl rfl rfl rfl e12 rfl ?_
            refine R.lookFL rfl rfl rfl rfl e12 rfl ?_
            refine R.lookFL rfl rfl rfl rfl e12 rfl ?_
            refine R.lookFL rfl rfl rfl rfl e12 rfl ?_
            refine R.lookFL rfl rfl rfl rfl e12 rfl ?_
            refine R.lookFL rfl rfl rfl rfl e12 rfl ?_
            refine R.effF rfl rfl rfl rfl e12 rfl ?_
            refine R.lookFL rfl rfl rfl rfl e12 rfl ?_
            refine R.lookFL rfl rfl rfl rfl e12 rfl ?_
            refine R.lookFL rfl rfl rfl rfl e12 rfl ?_
            refine R.lookL rfl rfl rfl (Lk.pick rfl rfl (fun _ => rfl) (fun e => by rw [e12] at e; cases e)) ?_
            refine R.lookL rfl rfl rfl (Lk.assign rfl rfl) ?_
            refine R.nil ?_
            exact hIh_2 true _ _ _ (Env.le_put rfl (Env.le_put rfl (Env.le_put rfl (Env.le_put rfl (Env.le_put rfl (Env.le_put rfl (Env.le_emp _))))))) (ok.sub List.Sublist.slnil) (H.add_sub ok List.Sublist.slnil) hS
          · rw [if_neg e12] at hS
            replace e12 := eq_false_of_ne_true e12
            refine R.lookTL rfl rfl rfl rfl e12 rfl (Lk.move rfl rfl) ?_
            obtain ⟨a50, e13, hS⟩ := hS
            refine R.lookTL (v := (.pointer (some a50))) rfl rfl rfl rfl e12 rfl (Lk.nilChk rfl rfl e13) ?_
            refine R.lookTL (v := (.pointer (some a50))) rfl rfl rfl rfl e12 rfl (Lk.fldAddr rfl Tryd.underlying151 rfl rfl T31 rfl rfl rfl) ?_
            obtain ⟨v52, e14, hS⟩ := hS
            refine R.lookTL rfl rfl rfl rfl e12 rfl (Look.loc ok (Lk.load1 rfl Tryd.underlying31 rfl rfl e14)) ?_
            refine R.lookTL rfl rfl rfl rfl e12 rfl (Lk.move rfl rfl) ?_
            refine R.lookTL rfl rfl rfl rfl e12 rfl (Lk.move rfl rfl) ?_
            obtain ⟨a56, e15, e16, e17, hS⟩ := hS
            refine R.lookTL rfl rfl rfl rfl e12 rfl (Lk.ixAddr rfl Tryd.underlying31 T51 rfl e15 rfl e16 e17) ?_
            refine R.lookTL (v := (.pointer (some (Addr.add a56 (Int.toNat p3 * 8))))) rfl rfl rfl rfl e12 rfl (Lk.fldAddr rfl Tryd.underlying51 rfl rfl T49 rfl rfl rfl) ?_
            refine R.effT rfl rfl rfl rfl e12 rfl (Eff.loc ok (Ef.call rfl CB56 rfl ((f56_ok hS).mono ?_)))
            rintro _ h_4 ⟨v55, rfl, hS⟩
            obtain ⟨e18, hS⟩ := hS
            refine fun ok => ⟨(List.forall_mem_cons.2 ⟨(Log.past (by decide) (Log.past (by decide) (Log.past (by decide) (Log.past (by decide) (Log.past (by decide) (Log.past (by decide) (Log.past (by decide) (Log.at_ (LookG.ofT rfl rfl rfl e12 (Lk.move rfl rfl)))))))))), (List.forall_mem_cons.2 ⟨(Log.past (by decide) (Log.past (by decide) (Log.past (by decide) (Log.past (by decide) (Log.past (by decide) (Log.past (by decide) (Log.at_ (LookG.ofT rfl rfl rfl e12 (Lk.nilChk rfl rfl e13))))))))), (List.forall_mem_cons.2 ⟨(Log.past (by decide) (Log.past (by decide) (Log.past (by decide) (Log.past (by decide) (Log.past (by decide) (Log.at_ (LookG.ofT rfl rfl rfl e12 (Lk.fldAddr rfl Tryd.underlying151 rfl rfl T31 rfl rfl rfl)))))))), (List.forall_mem_cons.2 ⟨(Log.past (by decide) (Log.past (by decide) (Log.past (by decide) (Log.past (by decide) (Log.at_ (LookG.ofT rfl rfl rfl e12 (Look.loc ok (Lk.load1 rfl Tryd.underlying31 rfl rfl e18)))))))), (List.forall_mem_cons.2 ⟨(Log.past (by decide) (Log.past (by decide) (Log.past (by decide) (Log.at_ (LookG.ofT rfl rfl rfl e12 (Lk.move rfl rfl)))))), (List.forall_mem_cons.2 ⟨(Log.past (by decide) (Log.at_ (LookG.ofT rfl rfl rfl e12 (Lk.ixAddr rfl Tryd.underlying31 T51 rfl e15 rfl e16 e17)))), (List.forall_mem_cons.2 ⟨(Log.at_ (LookG.ofT rfl rfl rfl e12 (Lk.fldAddr rfl Tryd.underlying51 rfl rfl T49 rfl rfl rfl))), noChk⟩)⟩)⟩)⟩)⟩)⟩)⟩), ?_⟩
            obtain ⟨e19, e20, hS⟩ := hS
            refine R.lookTL rfl rfl rfl rfl e12 rfl (Lk.indexAddrA rfl Tryd.underlying49 T3 rfl rfl e19 e20) ?_
            obtain ⟨v59, e21, hS⟩ := hS
            refine R.lookTL rfl rfl rfl rfl e12 rfl (Look.loc ok (Lk.load1 rfl Tryd.underlying3 rfl rfl e21)) ?_
            refine R.lookTL rfl rfl rfl rfl e12 rfl (Lk.arith rfl rfl rfl rfl) ?_
            refine R.lookL rfl rfl rfl (Lk.pick rfl rfl (fun e => by rw [e12] at e; cases e) (fun _ => rfl)) ?_
            refine R.lookL rfl rfl rfl (Lk.assign rfl rfl) ?_
            refine R.nil ?_
            exact hIh_2 (v59 != (-1)) _ _ _ (Env.le_put rfl (Env.le_put rfl (Env.le_put rfl (Env.le_put rfl (Env.le_put rfl (Env.le_put rfl (Env.le_emp _))))))) (ok.sub List.Sublist.slnil) (H.add_sub ok List.Sublist.slnil) hS
    · refine EvC.region [Item.look 0, Item.look 1, Item.look 2, Item.eff 3 [], Item.look 4, Item.look 5, Item.look 6, Item.look 7, Item.look 8, Item.eff 9 [], Item.look 10, Item.look 11, Item.look 12, Item.look 13, Item.look 14, Item.look 15, Item.look 16, Item.look 17, Item.look 18, Item.look 19, Item.look 20, Item.look 21] (by kernel_rfl) ?_
      refine R.look rfl rfl rfl (Lk.move rfl rfl) fun _ => ?_
      refine R.look rfl rfl rfl (Lk.move rfl rfl) fun _ => ?_
      refine R.look rfl rfl rfl (Lk.move rfl rfl) fun _ => ?_
      refine R.eff rfl rfl rfl (Eff.loc ok (Ef.call rfl CB96 rfl ((f96_ok hS).mono ?_)))
      rintro _ h_5 ⟨v18, rfl, hS⟩
      refine fun ok => ⟨noChk, ?_⟩
      refine R.look rfl rfl rfl (Lk.not rfl rfl) fun _ => ?_
      refine R.look rfl rfl rfl (Lk.move rfl rfl) fun _ => ?_
      by_cases e22 : (!v18) = true
      · rw [if_pos e22] at hS
        refine R.lookF rfl rfl rfl rfl e22 rfl fun _ => ?_
        refine R.lookF rfl rfl rfl rfl e22 rfl fun _ => ?_
        refine R.lookF rfl rfl rfl rfl e22 rfl fun _ => ?_
        refine R.effF rfl rfl rfl rfl e22 rfl ?_
        refine R.lookF rfl rfl rfl rfl e22 rfl fun _ => ?_
        refine R.look rfl rfl rfl (Lk.pick rfl rfl (fun _ => rfl) (fun e => by rw [e22] at e; cases e)) fun _ => ?_
        refine R.look rfl rfl rfl (Lk.move rfl rfl) fun _ => ?_
        refine R.lookF rfl rfl rfl rfl rfl rfl fun _ => ?_
        refine R.lookF rfl rfl rfl rfl rfl rfl fun _ => ?_
        refine R.lookF rfl rfl rfl rfl rfl rfl fun _ => ?_
        refine R.look rfl rfl rfl (Lk.pick rfl rfl (fun _ => rfl) (fun e => by cases e)) fun _ => ?_
        refine R.look rfl rfl rfl (Lk.move rfl rfl) fun _ => ?_
        refine R.lookF rfl rfl rfl rfl rfl rfl fun _ => ?_
        refine R.lookF rfl rfl rfl rfl rfl rfl fun _ => ?_
        refine R.look rfl rfl rfl (Lk.pick rfl rfl (fun _ => rfl) (fun e => by cases e)) fun _ => ?_
        refine R.look rfl rfl rfl (Lk.assign rfl rfl) fun _ => ?_
        refine R.nil ?_
        exact hIh_1 true _ _ _ (Env.le_put rfl (Env.le_put rfl (Env.le_put rfl (Env.le_put rfl (Env.le_put rfl (Env.le_put rfl (Env.le_emp _))))))) (ok.sub List.Sublist.slnil) (H.add_sub ok List.Sublist.slnil) hS
      · rw [if_neg e22] at hS
        replace e22 := eq_false_of_ne_true e22
        refine R.lookT rfl rfl rfl rfl e22 rfl (Lk.move rfl rfl) fun _ => ?_
        refine R.lookT rfl rfl rfl rfl e22 rfl (Lk.move rfl rfl) fun _ => ?_
        refine R.lookT rfl rfl rfl rfl e22 rfl (Lk.move rfl rfl) fun _ => ?_
        refine R.effT rfl rfl rfl rfl e22 rfl (Eff.loc ok (Ef.call rfl CB96 rfl ((f96_ok hS).mono ?_)))
        rintro _ h_6 ⟨v24, rfl, hS⟩
        refine fun ok => ⟨noChk, ?_⟩
        refine R.lookT rfl rfl rfl rfl e22 rfl (Lk.not rfl rfl) fun _ => ?_
        refine R.look rfl rfl rfl (Lk.pick rfl rfl (fun e => by rw [e22] at e; cases e) (fun _ => rfl)) fun _ => ?_
        refine R.look rfl rfl rfl (Lk.move rfl rfl) fun _ => ?_
        by_cases e23 : (!v24) = true
        · rw [if_pos e23] at hS
          refine R.lookF rfl rfl rfl rfl e23 rfl fun _ => ?_
          refine R.lookF rfl rfl rfl rfl e23 rfl fun _ => ?_
          refine R.lookF rfl rfl rfl rfl e23 rfl fun _ => ?_
          refine R.look rfl rfl rfl (Lk.pick rfl rfl (fun _ => rfl) (fun e => by rw [e23] at e; cases e)) fun _ => ?_
          refine R.look rfl rfl rfl (Lk.move rfl rfl) fun _ => ?_
          refine R.lookF rfl rfl rfl rfl rfl rfl fun _ => ?_
          refine R.lookF rfl rfl rfl rfl rfl rfl fun _ => ?_
          refine R.look rfl rfl rfl (Lk.pick rfl rfl (fun _ => rfl) (fun e => by cases e)) fun _ => ?_
          refine R.look rfl rfl rfl (Lk.assign rfl rfl) fun _ => ?_
          refine R.nil ?_
          exact hIh_1 true _ _ _ (Env.le_put rfl (Env.le_put rfl (Env.le_put rfl (Env.le_put rfl (Env.le_put rfl (Env.le_put rfl (Env.le_emp _))))))) (ok.sub List.Sublist.slnil) (H.add_sub ok List.Sublist.slnil) hS
        · rw [if_neg e23] at hS
          replace e23 := eq_false_of_ne_true e23
          refine R.lookT rfl rfl rfl rfl e23 rfl (Lk.move rfl rfl) fun _ => ?_
          refine R.lookT rfl rfl rfl rfl e23 rfl (Lk.move rfl rfl) fun _ => ?_
          refine R.lookT rfl rfl rfl rfl e23 rfl (Lk.arith rfl rfl rfl rfl) fun _ => ?_
          refine R.look rfl rfl rfl (Lk.pick rfl rfl (fun e => by rw [e23] at e; cases e) (fun _ => rfl)) fun _ => ?_
          refine R.look rfl rfl rfl (Lk.move rfl rfl) fun _ => ?_
          by_cases e24 : (p1 == p3) = true
          · rw [if_pos e24] at hS
            refine R.lookF rfl rfl rfl rfl e24 rfl fun _ => ?_
            refine R.lookF rfl rfl rfl rfl e24 rfl fun _ => ?_
            refine R.look rfl rfl rfl (Lk.pick rfl rfl (fun _ => rfl) (fun e => by rw [e24] at e; cases e)) fun _ => ?_
            refine R.look rfl rfl rfl (Lk.assign rfl rfl) fun _ => ?_
            refine R.nil ?_
            exact hIh_1 true _ _ _ (Env.le_put rfl (Env.le_put rfl (Env.le_put rfl (Env.le_put rfl (Env.le_put rfl (Env.le_put rfl (Env.le_emp _))))))) (ok.sub List.Sublist.slnil) (H.add_sub ok List.Sublist.slnil) hS
          · rw [if_neg e24] at hS
            replace e24 := eq_false_of_ne_true e24
            refine R.lookT rfl rfl rfl rfl e24 rfl (Lk.move rfl rfl) fun _ => ?_
            refine R.lookT rfl rfl rfl rfl e24 rfl (Lk.arith rfl rfl rfl rfl) fun _ => ?_
            refine R.look rfl rfl rfl (Lk.pick rfl rfl (fun e => by rw [e24] at e; cases e) (fun _ => rfl)) fun _ => ?_
            refine R.look rfl rfl rfl (Lk.assign rfl rfl) fun _ => ?_
            refine R.nil ?_
            exact hIh_1 (decide (p4 < (-2))) _ _ _ (Env.le_put rfl (Env.le_put rfl (Env.le_put rfl (Env.le_put rfl (Env.le_put rfl (Env.le_put rfl (Env.le_emp _))))))) (ok.sub List.Sublist.slnil) (H.add_sub ok List.Sublist.slnil) hS
end Go.Proofs.YtimadnngfhbfiaaDoor
end
