/-
  PROVED HERE: 'muntinlaw25.DrawCounts' answers true whatever the boxes, the routes and the turn, and what was handed in reads as it did. Conditions: the package variables that the row lists hold what the program's text lays.
  Part 4 of 5.
-/
import Derived.Test.YtimadnngfhbfiaaDoorDcC
import Derived.Shelf.Sort.Plain
import Derived.Shelf.Slices.In.SortNone
import Derived.Shelf.LaysM
import Derived.Ground.Names2Prog
import Derived.Shelf.Slices.CompactI
import Derived.Shelf.Slices.SearchI
import Derived.Shelf.Slices.Cells
import Derived.Shelf.Slices.Empties
import Derived.Test.YtimadnngfhbfiaaDoorProg
import Derived.RangeFuncBox
import Derived.RangeFuncLeaves
import Derived.Shelf.Abstract
import Derived.WalkKit
import Derived.OwnWalkIn
import Derived.TacticsInMore
import Derived.LoopNIn
import Derived.LoopIn
import Derived.Maps.AppendAt
import Derived.Lib.SlKeysI
import Derived.RowKit

section
namespace Go.Proofs.YtimadnngfhbfiaaDoor
open Go Go.Mu
set_option maxHeartbeats 4000000
set_option maxRecDepth 100000
theorem f41_ok {p0 : Option Addr} {h : H} {K : Int → H → Prop} (hS : S41 p0 h K) : ACall Tryd.prog 41 ([(.pointer p0)] : List Value).toArray h (fun r h' => ∃ r0 : Int, r = tup [(i6 r0)] ∧ K r0 h') := by
  refine ACall.enter (fn := Tryd.f41) Tryd.func41 rfl (Nat.le_of_ble_eq_true rfl) ?_; unfold S41 at hS; have ok := Lok.nil h; refine EvC.seq (Xr [.look 0] (Xa rfl rfl rfl rfl fun _ => ?_)); refine R.nil (EvC.seq (Xr [.look 0] (Xa rfl rfl rfl rfl fun _ => R.nil (EvC.join (σ := Int) (fun s => (Ep (Ep E0 3 (i6 s)) 0 (.pointer p0))) (fun s => []) (fun s h_1 => S41_j3 p0 K s h_1) ?_ (fun Ih_1 hIh_1 => ?_)))))
  · intro v3 h_1 ok hS; replace hS : S41_j3 p0 K v3 h_1 := hS; unfold S41_j3 at hS; refine EvC.join (σ := Int) (fun s => (Ep E0 3 (i6 s))) (fun s => []) (fun s h_2 => S41_j1 K s h_2) ?_ (fun Ih_2 hIh_2 => ?_)
    · intro v3_1 h_2 ok hS; replace hS : S41_j1 K v3_1 h_2 := hS; unfold S41_j1 at hS; refine EvC.seq (Xr [.look 0, .look 1] (Xm rfl rfl rfl rfl fun _ => ?_)); refine Xa rfl rfl rfl rfl fun _ => ?_; refine R.nil (EvC.ret ?_); exact ⟨.inr rfl, _, _, (.cons (.tmp rfl) .nil), ok.le, _, rfl, hS⟩
    · refine EvC.seq (Xr [.look 0, .look 1, .look 2, .look 3, .look 4, .look 5, .look 6] (Xm rfl rfl rfl rfl fun _ => ?_))
      obtain ⟨a43, e1, hS⟩ := hS
      refine Xk (v := (.pointer (some a43))) rfl rfl (Lk.nilChk rfl rfl e1) fun _ => ?_; refine Xk (v := (.pointer (some a43))) rfl rfl (Lk.fldAddr rfl Tryd.underlying106 rfl rfl T29 rfl rfl rfl) fun _ => ?_; refine Xk (v := (.pointer (some (Addr.add a43 1)))) rfl rfl (Lk.fldAddr rfl Tryd.underlying29 rfl rfl T27 rfl rfl rfl) fun _ => ?_
      obtain ⟨v46, e2, hS⟩ := hS
      refine Xk rfl rfl (Look.loc ok (Lk.load1 rfl Tryd.underlying27 rfl rfl e2)) fun _ => ?_; refine Xk rfl rfl (Lk.len rfl Tryd.underlying27 rfl) fun _ => ?_; refine Xm rfl rfl rfl rfl fun _ => ?_; refine R.nil (EvC.block (EvC.loop (LoopC.lfp (σ := Int × Int) (fun s => (Ep (Ep (Ep (Ep E0 48 (i6 s.2)) 47 (i6 (v46.l : Int))) 46 (.slice v46.a v46.l v46.c)) 3 (i6 s.1))) (fun s => []) (fun X hX => ?_) hS (ok.sub sl0) (lq rfl (lq rfl (lq rfl (lq rfl (lz _))))) (H.add_sub ok sl0)))); rintro ⟨v3_2, v48⟩ h_3 hS ok; replace hS : S41_l2 K v46 X v3_2 v48 h_3 := hS; unfold S41_l2 at hS; refine EvC.seq (Xr [.look 0] (Xk rfl rfl (Lk.arith rfl rfl rfl rfl) fun _ => ?_)); refine R.nil (EvC.seq ?_)
      by_cases e3 : (decide (v48 < (v46.l : Int))) = true
      · rw [if_pos e3] at hS; refine EvC.condT rfl e3 (EvC.skip (EvC.seq (EvC.block (EvC.seq (Xr [.look 0, .look 1, .alc 2, .eff 3 []] ?_)))))
        obtain ⟨a50, e4, e5, e6, hS⟩ := hS
        refine Xk rfl rfl (Lk.ixAddr rfl Tryd.underlying27 T54 rfl e4 rfl e5 e6) fun _ => ?_
        obtain ⟨v51_0, v51_1, v51_2, v51_3, e7, hS⟩ := hS
        refine Xk rfl rfl (Look.loc ok (Lk.loadN rfl Tryd.underlying54 rfl T54 rfl e7)) fun _ => ?_; refine R.var (blk := .row ⟨[(i6 0), (i6 0), (i6 0), (.string ⟨#[]⟩)], 4, 54, true, true⟩) ok rfl rfl rfl (Ac.alloc rfl T54) rfl rfl fun b9 ok => ?_; refine R.effN rfl rfl rfl (Ef.storeLoc (i := 0) (vs := [(i6 v51_0), (i6 v51_1), (i6 v51_2), (.string v51_3)]) (cs := [(i6 v51_0), (i6 v51_1), (i6 v51_2), (.string v51_3)]) (l' := [(b9, .row ⟨[(i6 v51_0), (i6 v51_1), (i6 v51_2), (.string v51_3)], 4, 54, true, true⟩)]) ok rfl T54 rfl rfl rfl rfl rfl rfl rfl rfl rfl rfl fun ok => ⟨noChk, ?_⟩); refine R.nil (Xr [.look 0, .look 1, .look 2, .look 3, .look 4, .look 5] (Xm rfl rfl rfl rfl fun _ => Xk (v := (.pointer (some ⟨b9, 3, none⟩))) rfl rfl (Lk.fldAddr rfl Tryd.underlying54 rfl rfl T9 rfl rfl rfl) fun _ => Xk rfl rfl (Lk.load1 (v := (.string v51_3)) rfl Tryd.underlying9 rfl rfl (H.rd_loc ok (i := 0) rfl rfl)) fun _ => Xk rfl rfl (Lk.lenS rfl Tryd.underlying9 rfl) fun _ => Xk rfl rfl (Lk.arith rfl rfl rfl rfl) fun _ => Xa rfl rfl rfl rfl fun _ => R.nil (Xr [.look 0, .look 1] (Xk rfl rfl (Lk.arith rfl rfl rfl rfl) fun _ => Xm rfl rfl rfl rfl fun _ => R.nil ?_)))); exact hX ((IntKind.wrap .i64 (v3_2 + (ByteArray.size v51_3 : Int))), (IntKind.wrap .i64 (v48 + 1))) _ _ _ hS (ok.sub (.cons _ sl0)) (lq rfl (lq rfl (lq rfl (lq rfl (lz _))))) (H.add_sub ok (.cons _ sl0))
      · rw [if_neg e3] at hS; replace e3 := eq_false_of_ne_true e3; refine EvC.condF rfl e3 (EvC.exit ?_); exact hIh_2 v3_2 _ _ _ (lq rfl (lz _)) (ok.sub sl0) (H.add_sub ok sl0) hS
  · refine EvC.seq (Xr [.look 0, .look 1, .look 2, .look 3, .look 4, .look 5, .look 6] (Xm rfl rfl rfl rfl fun _ => ?_))
    obtain ⟨a11, e8, hS⟩ := hS
    refine Xk (v := (.pointer (some a11))) rfl rfl (Lk.nilChk rfl rfl e8) fun _ => ?_; refine Xk (v := (.pointer (some a11))) rfl rfl (Lk.fldAddr rfl Tryd.underlying106 rfl rfl T29 rfl rfl rfl) fun _ => ?_; refine Xk (v := (.pointer (some a11))) rfl rfl (Lk.fldAddr rfl Tryd.underlying29 rfl rfl T22 rfl rfl rfl) fun _ => ?_
    obtain ⟨v14, e9, hS⟩ := hS
    refine Xk rfl rfl (Look.loc ok (Lk.load1 rfl Tryd.underlying22 rfl rfl e9)) fun _ => ?_; refine Xk rfl rfl (Lk.len rfl Tryd.underlying22 rfl) fun _ => ?_; refine Xm rfl rfl rfl rfl fun _ => ?_; refine R.nil (EvC.block (EvC.loop (LoopC.lfp (σ := Int × Int) (fun s => (Ep (Ep (Ep (Ep (Ep E0 16 (i6 s.2)) 15 (i6 (v14.l : Int))) 14 (.slice v14.a v14.l v14.c)) 3 (i6 s.1)) 0 (.pointer p0))) (fun s => []) (fun X_1 hX_1 => ?_) hS (ok.sub sl0) (lq rfl (lq rfl (lq rfl (lq rfl (lq rfl (lz _)))))) (H.add_sub ok sl0)))); rintro ⟨v3_3, v16⟩ h_4 hS ok; replace hS : S41_l6 p0 K v14 X_1 v3_3 v16 h_4 := hS; unfold S41_l6 at hS; refine EvC.seq (Xr [.look 0] (Xk rfl rfl (Lk.arith rfl rfl rfl rfl) fun _ => ?_)); refine R.nil (EvC.seq ?_)
    by_cases e10 : (decide (v16 < (v14.l : Int))) = true
    · rw [if_pos e10] at hS; refine EvC.condT rfl e10 (EvC.skip (EvC.join (σ := Int) (fun s => (Ep (Ep (Ep (Ep (Ep E0 16 (i6 v16)) 15 (i6 (v14.l : Int))) 14 (.slice v14.a v14.l v14.c)) 3 (i6 s)) 0 (.pointer p0))) (fun s => []) (fun s h_5 => S41_j4 v16 X_1 s h_5) ?_ (fun Ih_5 hIh_5 => ?_)))
      · intro v3_4 h_5 ok hS; replace hS : S41_j4 v16 X_1 v3_4 h_5 := hS; unfold S41_j4 at hS; refine Xr [.look 0, .look 1] (Xk rfl rfl (Lk.arith rfl rfl rfl rfl) fun _ => ?_); refine Xm rfl rfl rfl rfl fun _ => ?_; refine R.nil ?_; exact hX_1 (v3_4, (IntKind.wrap .i64 (v16 + 1))) _ _ _ hS (ok.sub sl0) (lq rfl (lq rfl (lq rfl (lq rfl (lq rfl (lz _)))))) (H.add_sub ok sl0)
      · refine EvC.block (EvC.seq (Xr [.look 0, .look 1, .look 2, .look 3, .look 4] (Xm rfl rfl rfl rfl fun _ => ?_)))
        obtain ⟨a19, e11, e12, e13, hS⟩ := hS
        refine Xk rfl rfl (Lk.ixAddr rfl Tryd.underlying22 T4 rfl e11 rfl e12 e13) fun _ => ?_
        obtain ⟨v20, e14, hS⟩ := hS
        refine Xk rfl rfl (Look.loc ok (Lk.load1 rfl Tryd.underlying4 rfl rfl e14)) fun _ => ?_; refine Xa rfl rfl rfl rfl fun _ => ?_; refine Xa rfl rfl rfl rfl fun _ => ?_; refine R.nil (EvC.seq (Xr [.look 0, .look 1, .look 2] (Xm rfl rfl rfl rfl fun _ => Xk rfl rfl (Lk.arith rfl rfl rfl rfl) fun _ => Xa rfl rfl rfl rfl fun _ => R.nil (EvC.seq (Xr [.look 0] (Xm rfl rfl rfl rfl fun _ => R.nil ?_))))))
        by_cases e15 : v20 = true
        · rw [if_pos e15] at hS; refine EvC.condT rfl e15 (EvC.seq (Xr [.look 0, .look 1, .look 2] (Xm rfl rfl rfl rfl fun _ => ?_))); refine Xk rfl rfl (Lk.arith rfl rfl rfl rfl) fun _ => ?_; refine Xa rfl rfl rfl rfl fun _ => ?_; refine R.nil (EvC.seq (Xr [.look 0, .look 1, .look 2, .look 3, .look 4, .look 5, .look 6, .look 7] (Xm rfl rfl rfl rfl fun _ => ?_)))
          obtain ⟨a27, e16, hS⟩ := hS
          refine Xk (v := (.pointer (some a27))) rfl rfl (Lk.nilChk rfl rfl e16) fun _ => ?_; refine Xk (v := (.pointer (some (Addr.add a27 3)))) rfl rfl (Lk.fldAddr rfl Tryd.underlying106 rfl rfl T104 rfl rfl rfl) fun _ => ?_
          obtain ⟨v29, e17, hS⟩ := hS
          refine Xk rfl rfl (Look.loc ok (Lk.load1 rfl Tryd.underlying104 rfl rfl e17)) fun _ => ?_; refine Xm rfl rfl rfl rfl fun _ => ?_
          obtain ⟨a31, e18, e19, e20, hS⟩ := hS
          refine Xk rfl rfl (Lk.ixAddr rfl Tryd.underlying104 T145 rfl e18 rfl e19 e20) fun _ => ?_
          obtain ⟨v32_0, v32_1, v32_2, v32_3, e21, hS⟩ := hS
          refine Xk rfl rfl (Look.loc ok (Lk.loadN rfl Tryd.underlying145 rfl T145 rfl e21)) fun _ => ?_; refine Xm rfl rfl rfl rfl fun _ => ?_; refine R.nil (EvC.block (EvC.loop (LoopC.lfp (σ := Int × Int) (fun s => (Ep (Ep (Ep (Ep (Ep (Ep (Ep E0 33 (i6 s.2)) 32 (.agg ([(.slice v32_0.a v32_0.l v32_0.c), (.slice v32_1.a v32_1.l v32_1.c), (.slice v32_2.a v32_2.l v32_2.c), (.slice v32_3.a v32_3.l v32_3.c)] : List Value).toArray)) 16 (i6 v16)) 15 (i6 (v14.l : Int))) 14 (.slice v14.a v14.l v14.c)) 3 (i6 s.1)) 0 (.pointer p0))) (fun s => []) (fun X_2 hX_2 => ?_) hS (ok.sub sl0) (lq rfl (lq rfl (lq rfl (lq rfl (lq rfl (lq rfl (lq rfl (lz _)))))))) (H.add_sub ok sl0)))); rintro ⟨v3_5, v33⟩ h_6 hS ok; replace hS : S41_l5 v16 X_1 v32_0 v32_1 v32_2 v32_3 X_2 v3_5 v33 h_6 := hS; unfold S41_l5 at hS; refine EvC.seq (Xr [.look 0] (Xk rfl rfl (Lk.arith rfl rfl rfl rfl) fun _ => ?_)); refine R.nil (EvC.seq ?_)
          by_cases e22 : (decide (v33 < 4)) = true
          · rw [if_pos e22] at hS; refine EvC.condT rfl e22 (EvC.skip (EvC.seq (EvC.block (EvC.seq (Xr [.look 0, .look 1] ?_)))))
            obtain ⟨e23, e24, hS⟩ := hS
            refine Xk rfl rfl (Lk.elemSel Sl.v ([v32_0, v32_1, v32_2, v32_3] : List Sl) rfl Tryd.underlying145 Tryd.underlying144 rfl T144 rfl rfl e23 e24 rfl) fun _ => ?_; refine Xa rfl rfl rfl rfl fun _ => ?_; refine R.nil (Xr [.look 0, .look 1, .look 2, .look 3, .look 4] (Xm rfl rfl rfl rfl fun _ => Xm rfl rfl rfl rfl fun _ => Xk rfl rfl (Lk.len rfl Tryd.underlying144 rfl) fun _ => Xk rfl rfl (Lk.arith rfl rfl rfl rfl) fun _ => Xa rfl rfl rfl rfl fun _ => R.nil (Xr [.look 0, .look 1] (Xk rfl rfl (Lk.arith rfl rfl rfl rfl) fun _ => Xm rfl rfl rfl rfl fun _ => R.nil ?_)))); exact hX_2 ((IntKind.wrap .i64 (v3_5 + (((sel ([v32_0, v32_1, v32_2, v32_3] : List Sl) v33).l) : Int))), (IntKind.wrap .i64 (v33 + 1))) _ _ _ hS (ok.sub sl0) (lq rfl (lq rfl (lq rfl (lq rfl (lq rfl (lq rfl (lq rfl (lz _)))))))) (H.add_sub ok sl0)
          · rw [if_neg e22] at hS; replace e22 := eq_false_of_ne_true e22; refine EvC.condF rfl e22 (EvC.exit ?_); exact hIh_5 v3_5 _ _ _ (lq rfl (lq rfl (lq rfl (lq rfl (lq rfl (lz _)))))) (ok.sub sl0) (H.add_sub ok sl0) hS
        · rw [if_neg e15] at hS; replace e15 := eq_false_of_ne_true e15; refine EvC.condF rfl e15 (EvC.skip ?_); exact hIh_5 (IntKind.wrap .i64 (v3_3 + 1)) _ _ _ (lq rfl (lq rfl (lq rfl (lq rfl (lq rfl (lz _)))))) (ok.sub sl0) (H.add_sub ok sl0) hS
    · rw [if_neg e10] at hS; replace e10 := eq_false_of_ne_true e10; refine EvC.condF rfl e10 (EvC.exit ?_); exact hIh_1 v3_3 _ _ _ (lq rfl (lq rfl (lz _))) (ok.sub sl0) (H.add_sub ok sl0) hS

theorem f106_ok {p0 : Int} {p1 : Int} {h : H} {K : Int → Int → H → Prop} (hS : S106 p0 p1 h K) : ACall Tryd.prog 106 ([(.int .u64 p0), (.int .u64 p1)] : List Value).toArray h (fun r h' => ∃ r0 : Int, ∃ r1 : Int, r = tup [(.int .u64 r0), (.int .u64 r1)] ∧ K r0 r1 h') := by
  refine ACall.enter (fn := Tryd.f106) Tryd.func106 rfl (Nat.le_of_ble_eq_true rfl) ?_; unfold S106 at hS; have ok := Lok.nil h; refine EvC.seq (Xr [.look 0, .look 1] (Xa rfl rfl rfl rfl fun _ => ?_)); refine Xa rfl rfl rfl rfl fun _ => ?_; refine R.nil (EvC.seq (Xr [.look 0, .look 1, .look 2] (Xm rfl rfl rfl rfl fun _ => Xk rfl rfl (Lk.arith rfl rfl rfl rfl) fun _ => Xa rfl rfl rfl rfl fun _ => R.nil (EvC.seq (Xr [.look 0, .look 1, .look 2] (Xm rfl rfl rfl rfl fun _ => Xk rfl rfl (Lk.shr (j := 32) rfl rfl rfl (by decide)) fun _ => Xa rfl rfl rfl rfl fun _ => R.nil ?_)))))); refine EvC.seq (Xr [.look 0, .look 1, .look 2] (Xm rfl rfl rfl rfl fun _ => ?_)); refine Xk rfl rfl (Lk.arith rfl rfl rfl rfl) fun _ => ?_; refine Xa rfl rfl rfl rfl fun _ => ?_; refine R.nil (EvC.seq (Xr [.look 0, .look 1, .look 2] (Xm rfl rfl rfl rfl fun _ => Xk rfl rfl (Lk.shr (j := 32) rfl rfl rfl (by decide)) fun _ => Xa rfl rfl rfl rfl fun _ => R.nil (EvC.seq (Xr [.look 0, .look 1, .look 2, .look 3] (Xm rfl rfl rfl rfl fun _ => Xm rfl rfl rfl rfl fun _ => Xk rfl rfl (Lk.arith rfl rfl rfl rfl) fun _ => Xa rfl rfl rfl rfl fun _ => ?_)))))); refine R.nil (EvC.seq (Xr [.look 0, .look 1, .look 2, .look 3, .look 4, .look 5, .look 6] (Xm rfl rfl rfl rfl fun _ => Xm rfl rfl rfl rfl fun _ => Xk rfl rfl (Lk.arith rfl rfl rfl rfl) fun _ => Xm rfl rfl rfl rfl fun _ => Xk rfl rfl (Lk.shr (j := 32) rfl rfl rfl (by decide)) fun _ => Xk rfl rfl (Lk.arith rfl rfl rfl rfl) fun _ => Xa rfl rfl rfl rfl fun _ => R.nil (EvC.seq (Xr [.look 0, .look 1, .look 2] ?_))))); refine Xm rfl rfl rfl rfl fun _ => ?_; refine Xk rfl rfl (Lk.arith rfl rfl rfl rfl) fun _ => ?_; refine Xa rfl rfl rfl rfl fun _ => ?_; refine R.nil (EvC.seq (Xr [.look 0, .look 1, .look 2] (Xm rfl rfl rfl rfl fun _ => Xk rfl rfl (Lk.shr (j := 32) rfl rfl rfl (by decide)) fun _ => Xa rfl rfl rfl rfl fun _ => R.nil (EvC.seq (Xr [.look 0, .look 1, .look 2, .look 3, .look 4, .look 5] (Xm rfl rfl rfl rfl fun _ => Xm rfl rfl rfl rfl fun _ => Xm rfl rfl rfl rfl fun _ => Xk rfl rfl (Lk.arith rfl rfl rfl rfl) fun _ => ?_)))))); refine Xk rfl rfl (Lk.arith rfl rfl rfl rfl) fun _ => ?_; refine Xa rfl rfl rfl rfl fun _ => ?_; refine R.nil (EvC.seq (Xr [.look 0, .look 1, .look 2, .look 3, .look 4, .look 5, .look 6, .look 7, .look 8] (Xm rfl rfl rfl rfl fun _ => Xm rfl rfl rfl rfl fun _ => Xk rfl rfl (Lk.arith rfl rfl rfl rfl) fun _ => ?_)))
  refine Xm rfl rfl rfl rfl fun _ => ?_; refine Xk rfl rfl (Lk.arith rfl rfl rfl rfl) fun _ => ?_; refine Xm rfl rfl rfl rfl fun _ => ?_; refine Xk rfl rfl (Lk.shr (j := 32) rfl rfl rfl (by decide)) fun _ => ?_; refine Xk rfl rfl (Lk.arith rfl rfl rfl rfl) fun _ => ?_; refine Xa rfl rfl rfl rfl fun _ => ?_; refine R.nil (EvC.seq (Xr [.look 0, .look 1, .look 2, .look 3] (Xm rfl rfl rfl rfl fun _ => Xm rfl rfl rfl rfl fun _ => Xk rfl rfl (Lk.arith rfl rfl rfl rfl) fun _ => Xa rfl rfl rfl rfl fun _ => R.nil (EvC.ret ?_)))); exact ⟨.inr rfl, _, _, (.cons (.tmp rfl) (.cons (.tmp rfl) .nil)), ok.le, _, _, rfl, hS⟩

theorem f94_ok {p0 : Int} {p1 : Int} {h : H} {K : Int → Int → H → Prop} (hS : S94 p0 p1 h K) : ACall Tryd.prog 94 ([(.int .u64 p0), (.int .u64 p1)] : List Value).toArray h (fun r h' => ∃ r0 : Int, ∃ r1 : Int, r = tup [(.int .u64 r0), (.int .u64 r1)] ∧ K r0 r1 h') := by
  refine ACall.enter (fn := Tryd.f94) Tryd.func94 rfl (Nat.le_of_ble_eq_true rfl) ?_; unfold S94 at hS; have ok := Lok.nil h; refine EvC.seq (Xr [.look 0, .look 1] (Xa rfl rfl rfl rfl fun _ => ?_)); refine Xa rfl rfl rfl rfl fun _ => ?_; refine R.nil (EvC.seq (EvC.condF rfl rfl (EvC.skip (EvC.seq (Xr [.look 0, .look 1, .eff 2 [], .look 3, .look 4, .look 5, .look 6, .look 7] (Xm rfl rfl rfl rfl fun _ => Xm rfl rfl rfl rfl fun _ => R.eff rfl rfl rfl (Eff.loc ok (Ef.call rfl CB106 rfl ((f106_ok hS).mono ?_))))))))); rintro _ h_1 ⟨v25_0, v25_1, rfl, hS⟩; refine fun ok => ⟨noChk, ?_⟩; refine Xm rfl rfl rfl rfl fun _ => ?_; refine Xk rfl rfl (Lk.extract rfl rfl rfl) fun _ => ?_; refine Xk rfl rfl (Lk.extract rfl rfl rfl) fun _ => ?_; refine Xa rfl rfl rfl rfl fun _ => ?_; refine Xa rfl rfl rfl rfl fun _ => ?_; refine R.nil (EvC.seq (Xr [.look 0, .look 1, .look 2, .look 3] (Xm rfl rfl rfl rfl fun _ => Xm rfl rfl rfl rfl fun _ => Xa rfl rfl rfl rfl fun _ => Xa rfl rfl rfl rfl fun _ => R.nil (EvC.ret ?_)))); exact ⟨.inr rfl, _, _, (.cons (.tmp rfl) (.cons (.tmp rfl) .nil)), ok.le, _, _, rfl, hS⟩

theorem f72_ok {p0 : Sl} {p1 : Int} {h : H} {K : Sl → H → Prop} (hS : S72 p0 p1 h K) : ACall Tryd.prog 72 ([(.slice p0.a p0.l p0.c), (i6 p1)] : List Value).toArray h (fun r h' => ∃ r0 : Sl, r = tup [(.slice r0.a r0.l r0.c)] ∧ K r0 h') := by
  refine ACall.enter (fn := Tryd.f72) Tryd.func72 rfl (Nat.le_of_ble_eq_true rfl) ?_; unfold S72 at hS; have ok := Lok.nil h; refine EvC.seq (Xr [.look 0] (Xa rfl rfl rfl rfl fun _ => ?_)); refine R.nil (EvC.join (σ := Unit) (fun s => (Ep (Ep E0 1 (i6 p1)) 0 (.slice p0.a p0.l p0.c))) (fun s => []) (fun s h_1 => S72_j5 p0 p1 K h_1) ?_ (fun Ih_1 hIh_1 => ?_))
  · rintro ⟨⟩ h_1 ok hS; replace hS : S72_j5 p0 p1 K h_1 := hS; unfold S72_j5 at hS; refine EvC.seq (Xr [.look 0, .look 1, .look 2, .look 3, .look 4, .eff 5 [], .look 6, .look 7, .look 8, .look 9, .look 10] (Xm rfl rfl rfl rfl fun _ => ?_)); refine Xk rfl rfl (Lk.len rfl Tryd.underlying31 rfl) fun _ => ?_; refine Xk rfl rfl (Lk.conv rfl Tryd.underlying3 Tryd.underlying166 rfl) fun _ => ?_; refine Xm rfl rfl rfl rfl fun _ => ?_; refine Xk rfl rfl (Lk.conv rfl Tryd.underlying3 Tryd.underlying166 rfl) fun _ => ?_; refine R.eff rfl rfl rfl (Eff.loc ok (Ef.call rfl CB94 rfl ((f94_ok hS).mono ?_))); rintro _ h_2 ⟨v18_0, v18_1, rfl, hS⟩; refine fun ok => ⟨noChk, ?_⟩; refine Xm rfl rfl rfl rfl fun _ => ?_; refine Xk rfl rfl (Lk.extract rfl rfl rfl) fun _ => ?_; refine Xk rfl rfl (Lk.extract rfl rfl rfl) fun _ => ?_; refine Xa rfl rfl rfl rfl fun _ => ?_; refine Xa rfl rfl rfl rfl fun _ => ?_; refine R.nil (EvC.join (σ := Unit) (fun s => (Ep (Ep E0 6 (.int .u64 v18_1)) 0 (.slice p0.a p0.l p0.c))) (fun s => []) (fun s h_3 => S72_j3 K v18_1 h_3) ?_ (fun Ih_3 hIh_3 => ?_))
    · rintro ⟨⟩ h_3 ok hS; replace hS : S72_j3 K v18_1 h_3 := hS; unfold S72_j3 at hS; refine EvC.seq (Xr [.look 0, .look 1, .alc 2, .look 3] (Xm rfl rfl rfl rfl fun _ => ?_)); refine Xk rfl rfl (Lk.conv rfl Tryd.underlying166 Tryd.underlying3 rfl) fun _ => ?_
      obtain ⟨e1, e2, e3, e4, hS⟩ := hS
      refine R.new (blk := (.row ⟨zeros (.agg #[(i6 0), (i6 0), (i6 0), (i6 0), (i6 0), (i6 0), (i6 0), (i6 0)]) (Int.toNat (IntKind.wrap .i64 v18_1) * 8), (zeros (.agg #[(i6 0), (i6 0), (i6 0), (i6 0), (i6 0), (i6 0), (i6 0), (i6 0)]) (Int.toNat (IntKind.wrap .i64 v18_1) * 8)).length, 51, true, true⟩)) ok rfl rfl rfl (Ac.makeSlice rfl Tryd.underlying31 T51 rfl rfl e1 e2 e3 e4) rfl rfl fun b30 e5 ok => ?_; replace hS := hS b30 _ e5 rfl; refine Xa rfl rfl rfl rfl fun _ => ?_; refine R.nil (EvC.seq (Xr [.look 0, .look 1, .eff 2 [], .look 3] (Xm rfl rfl rfl rfl fun _ => Xm rfl rfl rfl rfl fun _ => ?_)))
      obtain ⟨e6, hS⟩ := hS
      refine R.eff rfl rfl rfl (Eff.loc ok (Ef.copy0 rfl Tryd.underlying31 T51 rfl e6 rfl fun ok => ⟨noChk, ?_⟩)); refine Xa rfl rfl rfl rfl fun _ => ?_; refine R.nil (EvC.join (σ := Unit) (fun s => (Ep E0 7 (.slice (some ⟨b30, 0, none⟩) (Int.toNat (IntKind.wrap .i64 v18_1)) (Int.toNat (IntKind.wrap .i64 v18_1))))) (fun s => []) (fun s h_5 => S72_j1 K v18_1 b30 h_5) ?_ (fun Ih_5 hIh_5 => ?_))
      · rintro ⟨⟩ h_5 ok hS; replace hS : S72_j1 K v18_1 b30 h_5 := hS; unfold S72_j1 at hS; refine EvC.seq (Xr [.look 0, .look 1] (Xm rfl rfl rfl rfl fun _ => ?_)); refine Xa rfl rfl rfl rfl fun _ => ?_; refine R.nil (EvC.ret ?_); exact ⟨.inr rfl, _, _, (.cons (.tmp rfl) .nil), ok.le, _, rfl, hS⟩
      · refine EvC.block (EvC.loop (LoopC.lfp (σ := Int) (fun s => (Ep (Ep E0 8 (i6 s)) 7 (.slice (some ⟨b30, 0, none⟩) (Int.toNat (IntKind.wrap .i64 v18_1)) (Int.toNat (IntKind.wrap .i64 v18_1))))) (fun s => []) (fun X hX => ?_) hS (ok.sub sl0) (lq rfl (lq rfl (lz _))) (H.add_sub ok sl0))); intro v8 h_6 hS ok; replace hS : S72_l2 K v18_1 b30 X v8 h_6 := hS; unfold S72_l2 at hS; refine EvC.seq (EvC.seq (Xr [.look 0, .look 1, .look 2, .look 3] (Xm rfl rfl rfl rfl fun _ => ?_))); refine Xm rfl rfl rfl rfl fun _ => ?_; refine Xk rfl rfl (Lk.len rfl Tryd.underlying31 rfl) fun _ => ?_; refine Xk rfl rfl (Lk.arith rfl rfl rfl rfl) fun _ => ?_; refine R.nil ?_
        by_cases e7 : (decide (v8 < ((Int.toNat (IntKind.wrap .i64 v18_1)) : Int))) = true
        · rw [if_pos e7] at hS; refine EvC.condT rfl e7 (EvC.skip (EvC.block (EvC.draw [0, 0, 0, 6, 0, 0, 48, 126, 255, 511] [Item.look 0, Item.look 1, Item.look 2, Item.look 3, Item.look 4, Item.look 5, Item.look 6, Item.eff 7 [0], Item.look 8, Item.look 9] MO (by kernel_rfl) ?_))); refine R.lookL rfl rfl rfl (Lk.move rfl rfl) ?_; refine R.lookL rfl rfl rfl (Lk.move rfl rfl) ?_; refine R.lookL rfl rfl rfl (Lk.move rfl rfl) ?_
          obtain ⟨e8, e9, e10, e11, hS⟩ := hS
          refine R.lookL (v := (.slice (if Int.toNat (IntKind.wrap .i64 v18_1) = Int.toNat v8 then some ⟨b30, 0, none⟩ else Option.map (fun x => Addr.add x (Int.toNat v8 * 8)) (some ⟨b30, 0, none⟩)) (Int.toNat ((Int.toNat (IntKind.wrap .i64 v18_1)) : Int) - Int.toNat v8) (Int.toNat (IntKind.wrap .i64 v18_1) - Int.toNat v8))) rfl rfl rfl (Lk.subSlice (i := v8) (j := ((Int.toNat (IntKind.wrap .i64 v18_1)) : Int)) rfl Tryd.underlying31 T51 rfl ⟨_, rfl⟩ rfl e8 e9 e10 e11) ?_; refine R.lookL rfl rfl rfl (Lk.move rfl rfl) ?_; refine R.lookL rfl rfl rfl (Lk.move rfl rfl) ?_
          obtain ⟨e12, e13, e14, e15, hS⟩ := hS
          refine R.lookL (v := (.slice (if Int.toNat (IntKind.wrap .i64 v18_1) = Int.toNat 0 then some ⟨b30, 0, none⟩ else Option.map (fun x => Addr.add x (Int.toNat 0 * 8)) (some ⟨b30, 0, none⟩)) (Int.toNat v8 - Int.toNat 0) (Int.toNat (IntKind.wrap .i64 v18_1) - Int.toNat 0))) rfl rfl rfl (Lk.subSlice (i := 0) (j := v8) rfl Tryd.underlying31 T51 rfl rfl ⟨_, rfl⟩ e12 e13 e14 e15) ?_
          obtain ⟨e16, hS⟩ := hS
          refine R.eff rfl rfl rfl (Eff.loc ok (Ef.copy0 rfl Tryd.underlying31 T51 rfl e16 rfl fun ok => ⟨(List.forall_mem_cons.2 ⟨(XP (XP (XP (XP (XP (XP (Log.at_ (LookG.of rfl (Lk.move rfl rfl))))))))), noChk⟩), ?_⟩)); refine R.lookL rfl rfl rfl (Lk.arith rfl rfl rfl rfl) ?_; refine R.lookL rfl rfl rfl (Lk.assign rfl rfl) ?_; refine R.nil ?_; exact hX (IntKind.wrap .i64 (v8 + 0)) _ _ _ hS (ok.sub sl0) (lq rfl (lq rfl (lz _))) (H.add_sub ok sl0)
        · rw [if_neg e7] at hS; replace e7 := eq_false_of_ne_true e7; refine EvC.condF rfl e7 (EvC.exit ?_); exact hIh_5 () _ _ _ (lq rfl (lz _)) (ok.sub sl0) (H.add_sub ok sl0) hS
    · refine EvC.join (σ := Bool) (fun s => (Ep (Ep (Ep E0 26 (.bool s)) 6 (.int .u64 v18_1)) 0 (.slice p0.a p0.l p0.c))) (fun s => []) (fun s h_7 => S72_j4 K v18_1 s h_7) ?_ (fun Ih_7 hIh_7 => ?_)
      · intro v26 h_7 ok hS; replace hS : S72_j4 K v18_1 v26 h_7 := hS; unfold S72_j4 at hS
        by_cases e17 : v26 = true
        · rw [if_pos e17] at hS; refine EvC.condT rfl e17 (Xr [.look 0, .eff 1 []] ?_); exact hS.elim
        · rw [if_neg e17] at hS; replace e17 := eq_false_of_ne_true e17; refine EvC.condF rfl e17 (EvC.skip ?_); exact hIh_3 () _ _ _ (lq rfl (lq rfl (lz _))) (ok.sub sl0) (H.add_sub ok sl0) hS
      · refine Xr [.look 0, .look 1, .look 2, .look 3, .look 4, .look 5] (Xm rfl rfl rfl rfl fun _ => ?_); refine Xk rfl rfl (Lk.arith rfl rfl rfl rfl) fun _ => ?_; refine Xm rfl rfl rfl rfl fun _ => ?_
        by_cases e18 : (decide (v18_0 > 0)) = true
        · refine R.lookF rfl rfl rfl rfl e18 rfl fun _ => R.lookF rfl rfl rfl rfl e18 rfl fun _ => Xk rfl rfl (Lk.pick rfl rfl (fun _ => rfl) (fun e => by rw [e18] at e; cases e)) fun _ => R.nil ?_; exact hIh_7 ((decide (v18_0 > 0)) || (decide (v18_1 > 9223372036854775807))) _ _ _ (lq rfl (lq rfl (lq (by rw [e18]; rfl) (lz _)))) (ok.sub sl0) (H.add_sub ok sl0) hS
        · replace e18 := eq_false_of_ne_true e18; refine R.lookT rfl rfl rfl rfl e18 rfl (Lk.move rfl rfl) fun _ => R.lookT rfl rfl rfl rfl e18 rfl (Lk.arith rfl rfl rfl rfl) fun _ => Xk rfl rfl (Lk.pick rfl rfl (fun e => by rw [e18] at e; cases e) (fun _ => rfl)) fun _ => R.nil ?_; exact hIh_7 ((decide (v18_0 > 0)) || (decide (v18_1 > 9223372036854775807))) _ _ _ (lq rfl (lq rfl (lq (by rw [e18]; rfl) (lz _)))) (ok.sub sl0) (H.add_sub ok sl0) hS
  · refine EvC.seq (Xr [.look 0, .look 1] (Xm rfl rfl rfl rfl fun _ => ?_)); refine Xk rfl rfl (Lk.arith rfl rfl rfl rfl) fun _ => ?_; refine R.nil ?_
    by_cases e19 : (decide (p1 < 0)) = true
    · rw [if_pos e19] at hS; refine EvC.condT rfl e19 (Xr [.look 0, .eff 1 []] ?_); exact hS.elim
    · rw [if_neg e19] at hS; replace e19 := eq_false_of_ne_true e19; refine EvC.condF rfl e19 (EvC.skip ?_); exact hIh_1 () _ _ _ (lq rfl (lq rfl (lz _))) (ok.sub sl0) (H.add_sub ok sl0) hS

theorem f73_ok {h : H} {K : Int → Int → Int → Int → Int → Int → Int → Int → H → Prop} (hS : S73  h K) : ACall Tryd.prog 73 ([] : List Value).toArray h (fun r h' => ∃ r0_0 : Int, ∃ r0_1 : Int, ∃ r0_2 : Int, ∃ r0_3 : Int, ∃ r0_4 : Int, ∃ r0_5 : Int, ∃ r0_6 : Int, ∃ r0_7 : Int, r = tup [(.agg ([(i6 r0_0), (i6 r0_1), (i6 r0_2), (i6 r0_3), (i6 r0_4), (i6 r0_5), (i6 r0_6), (i6 r0_7)] : List Value).toArray)] ∧ K r0_0 r0_1 r0_2 r0_3 r0_4 r0_5 r0_6 r0_7 h') := by
  refine ACall.enter (fn := Tryd.f73) Tryd.func73 rfl (Nat.le_of_ble_eq_true rfl) ?_; unfold S73 at hS; have ok := Lok.nil h; refine EvC.seq (Xr [.alc 0] (R.var (blk := .row ⟨[(i6 0), (i6 0), (i6 0), (i6 0), (i6 0), (i6 0), (i6 0), (i6 0)], 8, 51, true, true⟩) ok rfl rfl rfl (Ac.alloc rfl T51) rfl rfl fun b0 ok => ?_)); refine R.nil (EvC.seq (Xr [.look 0, .look 1, .eff 2 []] (Xk rfl rfl (Lk.buildA (cs := [(i6 (-1)), (i6 (-1)), (i6 (-1)), (i6 (-1))]) rfl Tryd.underlying49 T49 T3 rfl rfl) fun _ => Xk rfl rfl (Lk.build (cs := [(i6 (-1)), (i6 (-1)), (i6 (-1)), (i6 (-1)), (i6 0), (i6 0), (i6 0), (i6 0)]) (pl := [(0, 4), (4, 4)]) rfl Tryd.underlying51 T51 (PlacesL.places (.cons T49 (.cons T49 PlacesL.nil))) rfl rfl) fun _ => R.effN rfl rfl rfl (Ef.storeLoc (i := 0) (vs := [(i6 (-1)), (i6 (-1)), (i6 (-1)), (i6 (-1)), (i6 0), (i6 0), (i6 0), (i6 0)]) (cs := [(i6 (-1)), (i6 (-1)), (i6 (-1)), (i6 (-1)), (i6 0), (i6 0), (i6 0), (i6 0)]) (l' := [(b0, .row ⟨[(i6 (-1)), (i6 (-1)), (i6 (-1)), (i6 (-1)), (i6 0), (i6 0), (i6 0), (i6 0)], 8, 51, true, true⟩)]) ok rfl T51 rfl rfl rfl rfl rfl rfl rfl rfl rfl rfl fun ok => ⟨noChk, ?_⟩)))); refine R.nil (EvC.ret ?_); exact ⟨.inr rfl, _, _, (.cons (.cells rfl (fun w => Und.agg Tryd.underlying51 w) (fun w => T51.size_ w) (H.rdn_loc ok (i := 0) rfl rfl rfl)) .nil), ok.le, _, _, _, _, _, _, _, _, rfl, hS⟩

theorem f42_ok {p0 : Int} {h : H} {K : Option Addr → Int → H → Prop} (hS : S42 p0 h K) : ACall Tryd.prog 42 ([(i6 p0)] : List Value).toArray h (fun r h' => ∃ r0 : Option Addr, ∃ r1 : Int, r = tup [(.pointer r0), (i6 r1)] ∧ K r0 r1 h') := by
  refine ACall.enter (fn := Tryd.f42) Tryd.func42 rfl (Nat.le_of_ble_eq_true rfl) ?_; unfold S42 at hS; have ok := Lok.nil h; refine EvC.seq (Xr [.look 0, .look 1] (Xa rfl rfl rfl rfl fun _ => ?_)); refine Xa rfl rfl rfl rfl fun _ => ?_; refine R.nil (EvC.seq (EvC.block (EvC.seq (Xr [.look 0, .look 1, .look 2] (Xm rfl rfl rfl rfl fun _ => Xk rfl rfl (Lk.arith rfl rfl rfl rfl) fun _ => Xa rfl rfl rfl rfl fun _ => R.nil ?_)))))
  by_cases e1 : (decide (p0 < 0)) = true
  · rw [if_pos e1] at hS; refine EvC.condT rfl e1 (EvC.seq (Xr [.look 0, .look 1] (Xa rfl rfl rfl rfl fun _ => ?_))); refine Xa rfl rfl rfl rfl fun _ => ?_; refine R.nil (EvC.ret ?_); exact ⟨.inr rfl, _, _, (.cons (.tmp rfl) (.cons (.tmp rfl) .nil)), ok.le, _, _, rfl, hS⟩
  · rw [if_neg e1] at hS; replace e1 := eq_false_of_ne_true e1; refine EvC.condF rfl e1 (EvC.seq (Xr [.look 0, .look 1, .look 2] (Xm rfl rfl rfl rfl fun _ => ?_))); refine Xk rfl rfl (Lk.arith rfl rfl rfl rfl) fun _ => ?_; refine Xa rfl rfl rfl rfl fun _ => ?_; refine R.nil ?_
    by_cases e2 : (decide (p0 > 4096)) = true
    · rw [if_pos e2] at hS; refine EvC.condT rfl e2 (EvC.seq (Xr [.look 0, .look 1] (Xa rfl rfl rfl rfl fun _ => ?_))); refine Xa rfl rfl rfl rfl fun _ => ?_; refine R.nil (EvC.ret ?_); exact ⟨.inr rfl, _, _, (.cons (.tmp rfl) (.cons (.tmp rfl) .nil)), ok.le, _, _, rfl, hS⟩
    · rw [if_neg e2] at hS; replace e2 := eq_false_of_ne_true e2; refine EvC.condF rfl e2 (EvC.skip (EvC.seq (Xr [.eff 0 [], .alc 1, .look 2, .eff 3 [], .look 4, .alc 5, .look 6, .look 7] (R.eff rfl rfl rfl (Eff.loc ok (Ef.call rfl CB73 rfl ((f73_ok hS).mono ?_))))))); rintro _ h_1 ⟨v10_0, v10_1, v10_2, v10_3, v10_4, v10_5, v10_6, v10_7, rfl, hS⟩; refine fun ok => ⟨noChk, ?_⟩; refine R.new (blk := (.row ⟨[(i6 v10_0), (i6 v10_1), (i6 v10_2), (i6 v10_3), (i6 v10_4), (i6 v10_5), (i6 v10_6), (i6 v10_7)], 8, 51, true, true⟩)) ok rfl rfl rfl (Ac.buildSlice (cs := [(i6 v10_0), (i6 v10_1), (i6 v10_2), (i6 v10_3), (i6 v10_4), (i6 v10_5), (i6 v10_6), (i6 v10_7)]) rfl Tryd.underlying31 T51 (by decide) (by decide) rfl rfl) rfl rfl fun b11 e3 ok => ?_; replace hS := hS b11 _ e3 rfl; refine Xm rfl rfl rfl rfl fun _ => ?_; refine R.eff rfl rfl rfl (Eff.loc ok (Ef.call rfl CB72 rfl ((f72_ok hS).mono ?_))); rintro _ h_3 ⟨v13, rfl, hS⟩; refine fun ok => ⟨noChk, ?_⟩; refine Xk rfl rfl (Lk.build (cs := [(.slice v13.a v13.l v13.c)]) (pl := [(0, 1)]) rfl Tryd.underlying151 T151 (PlacesL.places (.cons T31 PlacesL.nil)) rfl rfl) fun _ => ?_; refine R.new (blk := (.row ⟨[(.slice v13.a v13.l v13.c)], 1, 151, true, true⟩)) ok rfl rfl rfl (Ac.box rfl rfl) rfl rfl fun b15 e4 ok => ?_; replace hS := hS b15 _ e4 rfl; refine Xa rfl rfl rfl rfl fun _ => ?_; refine Xa rfl rfl rfl rfl fun _ => ?_; refine R.nil (EvC.ret ?_); exact ⟨.inr rfl, _, _, (.cons (.tmp rfl) (.cons (.tmp rfl) .nil)), ok.le, _, _, rfl, hS⟩

theorem f43_ok {p0 : Option Addr} {h : H} {K : Int → H → Prop} (hS : S43 p0 h K) : ACall Tryd.prog 43 ([(.pointer p0)] : List Value).toArray h (fun r h' => ∃ r0 : Int, r = tup [(i6 r0)] ∧ K r0 h') := by
  refine ACall.enter (fn := Tryd.f43) Tryd.func43 rfl (Nat.le_of_ble_eq_true rfl) ?_; unfold S43 at hS; have ok := Lok.nil h; refine EvC.seq (Xr [.look 0] (Xa rfl rfl rfl rfl fun _ => ?_)); refine R.nil (EvC.seq (EvC.seq (Xr [.look 0, .look 1] (Xm rfl rfl rfl rfl fun _ => Xk rfl rfl (Lk.ptrNil rfl Tryd.underlying103 rfl) fun _ => R.nil ?_))))
  by_cases e1 : (Option.isNone p0) = true
  · rw [if_pos e1] at hS; refine EvC.condT rfl e1 (EvC.seq (Xr [.look 0] (Xa rfl rfl rfl rfl fun _ => ?_))); refine R.nil (EvC.ret ?_); exact ⟨.inr rfl, _, _, (.cons (.tmp rfl) .nil), ok.le, _, rfl, hS⟩
  · rw [if_neg e1] at hS; replace e1 := eq_false_of_ne_true e1; refine EvC.condF rfl e1 (EvC.skip (EvC.seq (Xr [.look 0, .look 1, .look 2, .look 3, .look 4, .look 5] (Xm rfl rfl rfl rfl fun _ => ?_))))
    obtain ⟨a6, e2, hS⟩ := hS
    refine Xk (v := (.pointer (some a6))) rfl rfl (Lk.nilChk rfl rfl e2) fun _ => ?_; refine Xk (v := (.pointer (some a6))) rfl rfl (Lk.fldAddr rfl Tryd.underlying151 rfl rfl T31 rfl rfl rfl) fun _ => ?_
    obtain ⟨v8, e3, hS⟩ := hS
    refine Xk rfl rfl (Look.loc ok (Lk.load1 rfl Tryd.underlying31 rfl rfl e3)) fun _ => ?_; refine Xk rfl rfl (Lk.len rfl Tryd.underlying31 rfl) fun _ => ?_; refine Xa rfl rfl rfl rfl fun _ => ?_; refine R.nil (EvC.ret ?_); exact ⟨.inr rfl, _, _, (.cons (.tmp rfl) .nil), ok.le, _, rfl, hS⟩

theorem f95_ok {p0 : Option Addr} {h : H} {K : Int → Int → H → Prop} (hS : S95 p0 h K) : ACall Tryd.prog 95 ([(.pointer p0)] : List Value).toArray h (fun r h' => ∃ r0 : Int, ∃ r1 : Int, r = tup [(i6 r0), (i6 r1)] ∧ K r0 r1 h') := by
  refine ACall.enter (fn := Tryd.f95) Tryd.func95 rfl (Nat.le_of_ble_eq_true rfl) ?_; unfold S95 at hS; have ok := Lok.nil h; refine EvC.seq (Xr [.look 0, .look 1] (Xa rfl rfl rfl rfl fun _ => ?_)); refine Xa rfl rfl rfl rfl fun _ => ?_; refine R.nil (EvC.seq (EvC.block (EvC.seq (Xr [.look 0, .look 1, .look 2] (Xm rfl rfl rfl rfl fun _ => Xk rfl rfl (Lk.ptrNil rfl Tryd.underlying103 rfl) fun _ => Xa rfl rfl rfl rfl fun _ => R.nil ?_)))))
  by_cases e1 : (Option.isNone p0) = true
  · rw [if_pos e1] at hS; refine EvC.condT rfl e1 (EvC.seq (Xr [.look 0, .look 1] (Xa rfl rfl rfl rfl fun _ => ?_))); refine Xa rfl rfl rfl rfl fun _ => ?_; refine R.nil (EvC.ret ?_); exact ⟨.inr rfl, _, _, (.cons (.tmp rfl) (.cons (.tmp rfl) .nil)), ok.le, _, _, rfl, hS⟩
  · rw [if_neg e1] at hS; replace e1 := eq_false_of_ne_true e1; refine EvC.condF rfl e1 (EvC.seq (Xr [.look 0, .eff 1 [], .look 2, .look 3] (Xm rfl rfl rfl rfl fun _ => ?_))); refine R.eff rfl rfl rfl (Eff.loc ok (Ef.call rfl CB43 rfl ((f43_ok hS).mono ?_))); rintro _ h_1 ⟨v9, rfl, hS⟩; refine fun ok => ⟨noChk, ?_⟩; refine Xk rfl rfl (Lk.arith rfl rfl rfl rfl) fun _ => ?_; refine Xa rfl rfl rfl rfl fun _ => ?_; refine R.nil ?_
    by_cases e2 : (v9 == 4096) = true
    · rw [if_pos e2] at hS; refine EvC.condT rfl e2 (EvC.seq (Xr [.look 0, .look 1] (Xa rfl rfl rfl rfl fun _ => ?_))); refine Xa rfl rfl rfl rfl fun _ => ?_; refine R.nil (EvC.ret ?_); exact ⟨.inr rfl, _, _, (.cons (.tmp rfl) (.cons (.tmp rfl) .nil)), ok.le, _, _, rfl, hS⟩
    · rw [if_neg e2] at hS; replace e2 := eq_false_of_ne_true e2; refine EvC.condF rfl e2 (EvC.skip (EvC.seq (EvC.draw [0, 0, 2, 6, 14, 0, 32, 126, 255, 511, 1023] [Item.look 0, Item.look 1, Item.look 2, Item.look 3, Item.look 4, Item.eff 5 [0, 1, 2, 3, 4], Item.alc 6, Item.eff 7 [0], Item.look 8, Item.look 9, Item.eff 10 []] MO (by kernel_rfl) ?_))); refine R.lookL rfl rfl rfl (Lk.move rfl rfl) ?_; refine R.lookL rfl rfl rfl (Lk.move rfl rfl) ?_
      obtain ⟨a13, e3, hS⟩ := hS
      refine R.lookL (v := (.pointer (some a13))) rfl rfl rfl (Lk.nilChk rfl rfl e3) ?_; refine R.lookL (v := (.pointer (some a13))) rfl rfl rfl (Lk.fldAddr rfl Tryd.underlying151 rfl rfl T31 rfl rfl rfl) ?_
      obtain ⟨v15, e4, hS⟩ := hS
      refine R.lookL rfl rfl rfl (Look.loc ok (Lk.load1 rfl Tryd.underlying31 rfl rfl e4)) ?_; refine R.eff rfl rfl rfl (Eff.loc ok (Ef.call rfl CB73 rfl ((f73_ok hS).mono ?_))); rintro _ h_2 ⟨v16_0, v16_1, v16_2, v16_3, v16_4, v16_5, v16_6, v16_7, rfl, hS⟩
      obtain ⟨e5, hS⟩ := hS
      refine fun ok => ⟨(List.forall_mem_cons.2 ⟨(XP (XP (XP (XP (Log.at_ (LookG.of rfl (Lk.move rfl rfl))))))), (List.forall_mem_cons.2 ⟨(XP (XP (XP (Log.at_ (LookG.of rfl (Lk.move rfl rfl)))))), (List.forall_mem_cons.2 ⟨(XP (XP (Log.at_ (LookG.of rfl (Lk.nilChk rfl rfl e3))))), (List.forall_mem_cons.2 ⟨(XP (Log.at_ (LookG.of rfl (Lk.fldAddr rfl Tryd.underlying151 rfl rfl T31 rfl rfl rfl)))), (List.forall_mem_cons.2 ⟨(Log.at_ (LookG.of rfl (Look.loc ok (Lk.load1 rfl Tryd.underlying31 rfl rfl e5)))), noChk⟩)⟩)⟩)⟩)⟩), ?_⟩; refine R.appL (cs := [(i6 v16_0), (i6 v16_1), (i6 v16_2), (i6 v16_3), (i6 v16_4), (i6 v16_5), (i6 v16_6), (i6 v16_7)]) ok rfl rfl rfl rfl rfl rfl rfl rfl Tryd.underlying31 T51 rfl (by decide) (by decide) rfl rfl rfl rfl rfl (fun _ => rfl) hS ?_; intro bb17 v18 h_3 hS ok; refine ⟨(List.forall_mem_cons.2 ⟨(XP (XP (XP (XP (Log.at_ (LookG.of rfl (Lk.move rfl rfl))))))), noChk⟩), ?_⟩
      obtain ⟨a19, e6, hS⟩ := hS
      refine R.lookL (v := (.pointer (some a19))) rfl rfl rfl (Lk.nilChk rfl rfl e6) ?_; refine R.lookL (v := (.pointer (some a19))) rfl rfl rfl (Lk.fldAddr rfl Tryd.underlying151 rfl rfl T31 rfl rfl rfl) ?_
      obtain ⟨h_4, e7, hS⟩ := hS
      refine R.effN rfl rfl rfl (Eff.loc ok (Ef.store rfl T31 rfl rfl rfl rfl rfl e7 fun ok => ⟨noChk, ?_⟩)); refine R.nil (EvC.seq (Xr [.look 0, .eff 1 [], .look 2, .look 3, .look 4] (Xm rfl rfl rfl rfl fun _ => R.eff rfl rfl rfl (Eff.loc ok (Ef.call rfl CB43 rfl ((f43_ok hS).mono ?_)))))); rintro _ h_5 ⟨v22, rfl, hS⟩; refine fun ok => ⟨noChk, ?_⟩; refine Xk rfl rfl (Lk.arith rfl rfl rfl rfl) fun _ => ?_; refine Xa rfl rfl rfl rfl fun _ => ?_; refine Xa rfl rfl rfl rfl fun _ => ?_; refine R.nil (EvC.ret ?_); exact ⟨.inr rfl, _, _, (.cons (.tmp rfl) (.cons (.tmp rfl) .nil)), ok.le, _, _, rfl, hS⟩

theorem f74_ok {p0 : Option Addr} {h : H} {K : Int → H → Prop} (hS : S74 p0 h K) : ACall Tryd.prog 74 ([(.pointer p0)] : List Value).toArray h (fun r h' => ∃ r0 : Int, r = tup [(i6 r0)] ∧ K r0 h') := by
  refine ACall.enter (fn := Tryd.f74) Tryd.func74 rfl (Nat.le_of_ble_eq_true rfl) ?_; unfold S74 at hS; have ok := Lok.nil h; refine EvC.seq (Xr [.look 0] (Xa rfl rfl rfl rfl fun _ => ?_)); refine R.nil (EvC.seq (Xr [.look 0, .look 1, .look 2, .look 3, .eff 4 [], .look 5, .look 6, .look 7, .look 8, .look 9] (Xm rfl rfl rfl rfl fun _ => ?_)))
  obtain ⟨a7, e1, hS⟩ := hS
  refine Xk (v := (.pointer (some a7))) rfl rfl (Lk.nilChk rfl rfl e1) fun _ => ?_; refine Xk (v := (.pointer (some (Addr.add a7 2)))) rfl rfl (Lk.fldAddr rfl Tryd.underlying106 rfl rfl T103 rfl rfl rfl) fun _ => ?_
  obtain ⟨v9, e2, hS⟩ := hS
  refine Xk rfl rfl (Look.loc ok (Lk.load1 rfl Tryd.underlying103 rfl rfl e2)) fun _ => ?_; refine R.eff rfl rfl rfl (Eff.loc ok (Ef.call rfl CB95 rfl ((f95_ok hS).mono ?_))); rintro _ h_1 ⟨v10_0, v10_1, rfl, hS⟩; refine fun ok => ⟨noChk, ?_⟩; refine Xm rfl rfl rfl rfl fun _ => ?_; refine Xk rfl rfl (Lk.extract rfl rfl rfl) fun _ => ?_; refine Xk rfl rfl (Lk.extract rfl rfl rfl) fun _ => ?_; refine Xa rfl rfl rfl rfl fun _ => ?_; refine Xa rfl rfl rfl rfl fun _ => ?_; refine R.nil (EvC.seq (Xr [.look 0, .look 1] (Xm rfl rfl rfl rfl fun _ => Xa rfl rfl rfl rfl fun _ => R.nil (EvC.ret ?_)))); exact ⟨.inr rfl, _, _, (.cons (.tmp rfl) .nil), ok.le, _, rfl, hS⟩

theorem f96_ok {p0 : Option Addr} {p1 : Int} {p2 : Int} {h : H} {K : Bool → H → Prop} (hS : S96 p0 p1 p2 h K) : ACall Tryd.prog 96 ([(.pointer p0), (i6 p1), (i6 p2)] : List Value).toArray h (fun r h' => ∃ r0 : Bool, r = tup [(.bool r0)] ∧ K r0 h') := by
  refine ACall.enter (fn := Tryd.f96) Tryd.func96 rfl (Nat.le_of_ble_eq_true rfl) ?_; unfold S96 at hS; have ok := Lok.nil h; refine EvC.seq (Xr [.look 0] (Xa rfl rfl rfl rfl fun _ => ?_)); refine R.nil (EvC.join (σ := Bool) (fun s => (Ep E0 6 (.bool s))) (fun s => []) (fun s h_1 => S96_j1 K s h_1) ?_ (fun Ih_1 hIh_1 => ?_))
  · intro v6 h_1 ok hS; replace hS : S96_j1 K v6 h_1 := hS; unfold S96_j1 at hS; refine EvC.ret ?_; exact ⟨.inr rfl, _, _, (.cons (.tmp rfl) .nil), ok.le, _, rfl, hS⟩
  · refine Xr [.look 0, .look 1, .look 2, .look 3, .look 4, .eff 5 [], .look 6, .look 7, .look 8, .look 9, .eff 10 [], .look 11, .look 12] (Xm rfl rfl rfl rfl fun _ => ?_); refine Xk rfl rfl (Lk.arith rfl rfl rfl rfl) fun _ => ?_; refine Xm rfl rfl rfl rfl fun _ => ?_
    by_cases e1 : (decide (p1 ≥ 0)) = true
    · rw [if_pos e1] at hS; refine R.lookT rfl rfl rfl rfl e1 rfl (Lk.move rfl rfl) fun _ => R.lookT rfl rfl rfl rfl e1 rfl (Lk.move rfl rfl) fun _ => R.effT rfl rfl rfl rfl e1 rfl (Eff.loc ok (Ef.call rfl CB43 rfl ((f43_ok hS).mono ?_))); rintro _ h_2 ⟨v12, rfl, hS⟩; refine fun ok => ⟨noChk, ?_⟩; refine R.lookT rfl rfl rfl rfl e1 rfl (Lk.arith rfl rfl rfl rfl) fun _ => Xk rfl rfl (Lk.pick rfl rfl (fun _ => rfl) (fun e => by rw [e1] at e; cases e)) fun _ => Xm rfl rfl rfl rfl fun _ => ?_
      by_cases e2 : (decide (p1 < v12)) = true
      · rw [if_pos e2] at hS; refine R.lookT rfl rfl rfl rfl e2 rfl (Lk.move rfl rfl) fun _ => R.effT rfl rfl rfl rfl e2 rfl (Eff.loc ok (Ef.call rfl CB54 rfl ((f54_ok hS).mono ?_))); rintro _ h_3 ⟨v17, rfl, hS⟩; refine fun ok => ⟨noChk, ?_⟩; refine Xk rfl rfl (Lk.pick rfl rfl (fun _ => rfl) (fun e => by rw [e2] at e; cases e)) fun _ => ?_; refine Xa rfl rfl rfl rfl fun _ => ?_; refine R.nil ?_; exact hIh_1 v17 _ _ _ (lq rfl (lz _)) (ok.sub sl0) (H.add_sub ok sl0) hS
      · rw [if_neg e2] at hS; replace e2 := eq_false_of_ne_true e2; refine R.lookF rfl rfl rfl rfl e2 rfl fun _ => R.effF rfl rfl rfl rfl e2 rfl ?_; refine Xk rfl rfl (Lk.pick rfl rfl (fun e => by rw [e2] at e; cases e) (fun _ => rfl)) fun _ => ?_; refine Xa rfl rfl rfl rfl fun _ => ?_; refine R.nil ?_; exact hIh_1 false _ _ _ (lq rfl (lz _)) (ok.sub sl0) (H.add_sub ok sl0) hS
    · rw [if_neg e1] at hS; replace e1 := eq_false_of_ne_true e1; refine R.lookF rfl rfl rfl rfl e1 rfl fun _ => R.lookF rfl rfl rfl rfl e1 rfl fun _ => R.effF rfl rfl rfl rfl e1 rfl ?_; refine R.lookF rfl rfl rfl rfl e1 rfl fun _ => Xk rfl rfl (Lk.pick rfl rfl (fun e => by rw [e1] at e; cases e) (fun _ => rfl)) fun _ => Xm rfl rfl rfl rfl fun _ => R.lookF rfl rfl rfl rfl rfl rfl fun _ => R.effF rfl rfl rfl rfl rfl rfl ?_; refine Xk rfl rfl (Lk.pick rfl rfl (fun e => by cases e) (fun _ => rfl)) fun _ => ?_; refine Xa rfl rfl rfl rfl fun _ => ?_; refine R.nil ?_; exact hIh_1 false _ _ _ (lq rfl (lz _)) (ok.sub sl0) (H.add_sub ok sl0) hS

theorem f97_ok {p0 : Option Addr} {p1 : Int} {p2 : Int} {p3 : Int} {p4 : Int} {h : H} {K : H → Prop} (hS : S97 p0 p1 p2 p3 p4 h K) : ACall Tryd.prog 97 ([(.pointer p0), (i6 p1), (i6 p2), (i6 p3), (i6 p4)] : List Value).toArray h (fun r h' => r = tup [] ∧ K  h') := by
  refine ACall.enter (fn := Tryd.f97) Tryd.func97 rfl (Nat.le_of_ble_eq_true rfl) ?_; unfold S97 at hS; have ok := Lok.nil h; refine EvC.seq (Xr [.look 0, .eff 1 [], .look 2] (Xm rfl rfl rfl rfl fun _ => ?_)); refine R.eff rfl rfl rfl (Eff.loc ok (Ef.call rfl CB56 rfl ((f56_ok hS).mono ?_))); rintro _ h_1 ⟨v12, rfl, hS⟩; refine fun ok => ⟨noChk, ?_⟩; refine Xa rfl rfl rfl rfl fun _ => ?_; refine R.nil (EvC.seq (EvC.draw [0, 1, 3, 7, 0, 0, 0, 64, 192, 448, 0, 0, 0, 0, 31, 16415, 54271, 119807, 1984, 264128, 1048575, 2097151] [Item.look 0, Item.look 1, Item.look 2, Item.look 3, Item.look 4, Item.look 5, Item.look 6, Item.look 7, Item.look 8, Item.look 9, Item.look 10, Item.look 11, Item.look 12, Item.look 13, Item.look 14, Item.look 15, Item.look 16, Item.look 18, Item.look 19, Item.eff 17 [10, 11, 13, 18, 19], Item.look 20, Item.eff 21 []] MO (by kernel_rfl) ?_)); refine R.lookL rfl rfl rfl (Lk.move rfl rfl) ?_
  obtain ⟨a14, e1, hS⟩ := hS
  refine R.lookL (v := (.pointer (some a14))) rfl rfl rfl (Lk.nilChk rfl rfl e1) ?_; refine R.lookL (v := (.pointer (some a14))) rfl rfl rfl (Lk.fldAddr rfl Tryd.underlying151 rfl rfl T31 rfl rfl rfl) ?_
  obtain ⟨v16, e2, hS⟩ := hS
  refine R.lookL rfl rfl rfl (Look.loc ok (Lk.load1 rfl Tryd.underlying31 rfl rfl e2)) ?_; refine R.lookL rfl rfl rfl (Lk.move rfl rfl) ?_; refine R.lookL rfl rfl rfl (Lk.move rfl rfl) ?_; refine R.lookL rfl rfl rfl (Lk.move rfl rfl) ?_
  obtain ⟨a20, e3, hS⟩ := hS
  refine R.lookL (v := (.pointer (some a20))) rfl rfl rfl (Lk.nilChk rfl rfl e3) ?_; refine R.lookL (v := (.pointer (some a20))) rfl rfl rfl (Lk.fldAddr rfl Tryd.underlying151 rfl rfl T31 rfl rfl rfl) ?_
  obtain ⟨v22, e4, hS⟩ := hS
  refine R.lookL rfl rfl rfl (Look.loc ok (Lk.load1 rfl Tryd.underlying31 rfl rfl e4)) ?_; refine R.lookL rfl rfl rfl (Lk.move rfl rfl) ?_; refine R.lookL rfl rfl rfl (Lk.move rfl rfl) ?_; refine R.lookL rfl rfl rfl (Lk.move rfl rfl) ?_; refine R.lookL rfl rfl rfl (Lk.move rfl rfl) ?_
  obtain ⟨a27, e5, e6, e7, hS⟩ := hS
  refine R.lookL rfl rfl rfl (Lk.ixAddr rfl Tryd.underlying31 T51 rfl e5 rfl e6 e7) ?_; refine R.lookL (v := (.pointer (some (Addr.add a27 (Int.toNat p1 * 8))))) rfl rfl rfl (Lk.fldAddr rfl Tryd.underlying51 rfl rfl T49 rfl rfl rfl) ?_
  obtain ⟨e8, e9, hS⟩ := hS
  refine R.lookL rfl rfl rfl (Lk.indexAddrA rfl Tryd.underlying49 T3 rfl rfl e8 e9) ?_
  obtain ⟨a30, e10, e11, e12, hS⟩ := hS
  refine R.lookL rfl rfl rfl (Lk.ixAddr rfl Tryd.underlying31 T51 rfl e10 rfl e11 e12) ?_; refine R.lookL (v := (.pointer (some (Addr.add (Addr.add a30 (Int.toNat p1 * 8)) 4)))) rfl rfl rfl (Lk.fldAddr rfl Tryd.underlying51 rfl rfl T49 rfl rfl rfl) ?_
  obtain ⟨h_2, e13, hS⟩ := hS
  refine R.effN rfl rfl rfl (Eff.loc ok (Ef.store rfl T3 rfl rfl rfl rfl rfl e13 fun ok => ⟨(List.forall_mem_cons.2 ⟨(XP (XP (XP (XP (XP (XP (XP (XP (Log.at_ (LookG.of rfl (Lk.move rfl rfl))))))))))), (List.forall_mem_cons.2 ⟨(XP (XP (XP (XP (XP (XP (XP (Log.at_ (LookG.of rfl (Lk.move rfl rfl)))))))))), (List.forall_mem_cons.2 ⟨(XP (XP (XP (XP (XP (Log.at_ (LookG.of rfl (Lk.move rfl rfl)))))))), (List.forall_mem_cons.2 ⟨(XP (Log.at_ (LookG.of rfl (Lk.ixAddr rfl Tryd.underlying31 T51 rfl e10 rfl e11 e12)))), (List.forall_mem_cons.2 ⟨(Log.at_ (LookG.of rfl (Lk.fldAddr rfl Tryd.underlying51 rfl rfl T49 rfl rfl rfl))), noChk⟩)⟩)⟩)⟩)⟩), ?_⟩))
  obtain ⟨e14, e15, hS⟩ := hS
  refine R.lookL rfl rfl rfl (Lk.indexAddrA rfl Tryd.underlying49 T3 rfl rfl e14 e15) ?_
  obtain ⟨h_3, e16, hS⟩ := hS
  refine R.effN rfl rfl rfl (Eff.loc ok (Ef.store rfl T3 rfl rfl rfl rfl rfl e16 fun ok => ⟨noChk, ?_⟩)); refine R.nil (EvC.draw [0, 1, 3, 7, 0, 0, 0, 64, 192, 448, 0, 0, 0, 0, 31, 16415, 54271, 119807, 1984, 264128, 1048575, 2097151] [Item.look 0, Item.look 1, Item.look 2, Item.look 3, Item.look 4, Item.look 5, Item.look 6, Item.look 7, Item.look 8, Item.look 9, Item.look 10, Item.look 11, Item.look 12, Item.look 13, Item.look 14, Item.look 15, Item.look 16, Item.look 18, Item.look 19, Item.eff 17 [10, 11, 13, 18, 19], Item.look 20, Item.eff 21 []] MO (by kernel_rfl) ?_); refine R.lookL rfl rfl rfl (Lk.move rfl rfl) ?_
  obtain ⟨a34, e17, hS⟩ := hS
  refine R.lookL (v := (.pointer (some a34))) rfl rfl rfl (Lk.nilChk rfl rfl e17) ?_; refine R.lookL (v := (.pointer (some a34))) rfl rfl rfl (Lk.fldAddr rfl Tryd.underlying151 rfl rfl T31 rfl rfl rfl) ?_
  obtain ⟨v36, e18, hS⟩ := hS
  refine R.lookL rfl rfl rfl (Look.loc ok (Lk.load1 rfl Tryd.underlying31 rfl rfl e18)) ?_; refine R.lookL rfl rfl rfl (Lk.move rfl rfl) ?_; refine R.lookL rfl rfl rfl (Lk.move rfl rfl) ?_; refine R.lookL rfl rfl rfl (Lk.move rfl rfl) ?_
  obtain ⟨a40, e19, hS⟩ := hS
  refine R.lookL (v := (.pointer (some a40))) rfl rfl rfl (Lk.nilChk rfl rfl e19) ?_; refine R.lookL (v := (.pointer (some a40))) rfl rfl rfl (Lk.fldAddr rfl Tryd.underlying151 rfl rfl T31 rfl rfl rfl) ?_
  obtain ⟨v42, e20, hS⟩ := hS
  refine R.lookL rfl rfl rfl (Look.loc ok (Lk.load1 rfl Tryd.underlying31 rfl rfl e20)) ?_; refine R.lookL rfl rfl rfl (Lk.move rfl rfl) ?_; refine R.lookL rfl rfl rfl (Lk.move rfl rfl) ?_; refine R.lookL rfl rfl rfl (Lk.move rfl rfl) ?_; refine R.lookL rfl rfl rfl (Lk.move rfl rfl) ?_
  obtain ⟨a47, e21, e22, e23, hS⟩ := hS
  refine R.lookL rfl rfl rfl (Lk.ixAddr rfl Tryd.underlying31 T51 rfl e21 rfl e22 e23) ?_; refine R.lookL (v := (.pointer (some (Addr.add a47 (Int.toNat p3 * 8))))) rfl rfl rfl (Lk.fldAddr rfl Tryd.underlying51 rfl rfl T49 rfl rfl rfl) ?_
  obtain ⟨e24, e25, hS⟩ := hS
  refine R.lookL rfl rfl rfl (Lk.indexAddrA rfl Tryd.underlying49 T3 rfl rfl e24 e25) ?_
  obtain ⟨a50, e26, e27, e28, hS⟩ := hS
  refine R.lookL rfl rfl rfl (Lk.ixAddr rfl Tryd.underlying31 T51 rfl e26 rfl e27 e28) ?_; refine R.lookL (v := (.pointer (some (Addr.add (Addr.add a50 (Int.toNat p3 * 8)) 4)))) rfl rfl rfl (Lk.fldAddr rfl Tryd.underlying51 rfl rfl T49 rfl rfl rfl) ?_
  obtain ⟨h_4, e29, hS⟩ := hS
  refine R.effN rfl rfl rfl (Eff.loc ok (Ef.store rfl T3 rfl rfl rfl rfl rfl e29 fun ok => ⟨(List.forall_mem_cons.2 ⟨(XP (XP (XP (XP (XP (XP (XP (XP (Log.at_ (LookG.of rfl (Lk.move rfl rfl))))))))))), (List.forall_mem_cons.2 ⟨(XP (XP (XP (XP (XP (XP (XP (Log.at_ (LookG.of rfl (Lk.move rfl rfl)))))))))), (List.forall_mem_cons.2 ⟨(XP (XP (XP (XP (XP (Log.at_ (LookG.of rfl (Lk.move rfl rfl)))))))), (List.forall_mem_cons.2 ⟨(XP (Log.at_ (LookG.of rfl (Lk.ixAddr rfl Tryd.underlying31 T51 rfl e26 rfl e27 e28)))), (List.forall_mem_cons.2 ⟨(Log.at_ (LookG.of rfl (Lk.fldAddr rfl Tryd.underlying51 rfl rfl T49 rfl rfl rfl))), noChk⟩)⟩)⟩)⟩)⟩), ?_⟩))
  obtain ⟨e30, e31, hS⟩ := hS
  refine R.lookL rfl rfl rfl (Lk.indexAddrA rfl Tryd.underlying49 T3 rfl rfl e30 e31) ?_
  obtain ⟨h_5, e32, hS⟩ := hS
  refine R.effN rfl rfl rfl (Eff.loc ok (Ef.store rfl T3 rfl rfl rfl rfl rfl e32 fun ok => ⟨noChk, ?_⟩)); refine R.nil ?_; exact ⟨.inl rfl, _, _, .nil, ok.le, rfl, hS⟩

theorem f75_ok {p0 : Option Addr} {p1 : Int} {p2 : Int} {p3 : Int} {p4 : Int} {h : H} {K : Int → H → Prop} (hS : S75 p0 p1 p2 p3 p4 h K) : ACall Tryd.prog 75 ([(.pointer p0), (i6 p1), (i6 p2), (i6 p3), (i6 p4)] : List Value).toArray h (fun r h' => ∃ r0 : Int, r = tup [(i6 r0)] ∧ K r0 h') := by
  refine ACall.enter (fn := Tryd.f75) Tryd.func75 rfl (Nat.le_of_ble_eq_true rfl) ?_; unfold S75 at hS; have ok := Lok.nil h; refine EvC.seq (Xr [.look 0] (Xa rfl rfl rfl rfl fun _ => ?_)); refine R.nil (EvC.seq (EvC.block (EvC.seq (Xr [.look 0, .look 1, .look 2] (Xm rfl rfl rfl rfl fun _ => Xk rfl rfl (Lk.ptrNil rfl Tryd.underlying103 rfl) fun _ => Xa rfl rfl rfl rfl fun _ => R.nil ?_)))))
  by_cases e1 : (Option.isNone p0) = true
  · rw [if_pos e1] at hS; refine EvC.condT rfl e1 (EvC.seq (Xr [.look 0] (Xa rfl rfl rfl rfl fun _ => ?_))); refine R.nil (EvC.ret ?_); exact ⟨.inr rfl, _, _, (.cons (.tmp rfl) .nil), ok.le, _, rfl, hS⟩
  · rw [if_neg e1] at hS; replace e1 := eq_false_of_ne_true e1; refine EvC.condF rfl e1 (EvC.join (σ := Bool) (fun s => (Ep (Ep (Ep (Ep (Ep (Ep E0 14 (.bool s)) 4 (i6 p4)) 3 (i6 p3)) 2 (i6 p2)) 1 (i6 p1)) 0 (.pointer p0))) (fun s => []) (fun s h_1 => S75_j2 p0 p1 p2 p3 p4 K s h_1) ?_ (fun Ih_1 hIh_1 => ?_))
    · intro v14 h_1 ok hS; replace hS : S75_j2 p0 p1 p2 p3 p4 K v14 h_1 := hS; unfold S75_j2 at hS
      by_cases e2 : v14 = true
      · rw [if_pos e2] at hS; refine EvC.condT rfl e2 (EvC.seq (Xr [.look 0] (Xa rfl rfl rfl rfl fun _ => ?_))); refine R.nil (EvC.ret ?_); exact ⟨.inr rfl, _, _, (.cons (.tmp rfl) .nil), ok.le, _, rfl, hS⟩
      · rw [if_neg e2] at hS; replace e2 := eq_false_of_ne_true e2; refine EvC.condF rfl e2 (EvC.join (σ := Bool) (fun s => (Ep (Ep (Ep (Ep (Ep (Ep E0 36 (.bool s)) 4 (i6 p4)) 3 (i6 p3)) 2 (i6 p2)) 1 (i6 p1)) 0 (.pointer p0))) (fun s => []) (fun s h_2 => S75_j1 p0 p1 p2 p3 p4 K s h_2) ?_ (fun Ih_2 hIh_2 => ?_))
        · intro v36 h_2 ok hS; replace hS : S75_j1 p0 p1 p2 p3 p4 K v36 h_2 := hS; unfold S75_j1 at hS
          by_cases e3 : v36 = true
          · rw [if_pos e3] at hS; refine EvC.condT rfl e3 (EvC.seq (Xr [.look 0] (Xa rfl rfl rfl rfl fun _ => ?_))); refine R.nil (EvC.ret ?_); exact ⟨.inr rfl, _, _, (.cons (.tmp rfl) .nil), ok.le, _, rfl, hS⟩
          · rw [if_neg e3] at hS; replace e3 := eq_false_of_ne_true e3; refine EvC.condF rfl e3 (EvC.skip (EvC.seq (Xr [.look 0, .look 1, .look 2, .look 3, .look 4, .eff 5 []] (Xm rfl rfl rfl rfl fun _ => ?_)))); refine Xm rfl rfl rfl rfl fun _ => ?_; refine Xm rfl rfl rfl rfl fun _ => ?_; refine Xm rfl rfl rfl rfl fun _ => ?_; refine Xm rfl rfl rfl rfl fun _ => ?_; refine R.eff rfl rfl rfl (Eff.loc ok (Ef.call rfl CB97 rfl ((f97_ok hS).mono ?_))); rintro _ h_3 ⟨rfl, hS⟩; refine fun ok => ⟨noChk, ?_⟩; refine R.nil (EvC.seq (Xr [.look 0] (Xa rfl rfl rfl rfl fun _ => R.nil (EvC.ret ?_)))); exact ⟨.inr rfl, _, _, (.cons (.tmp rfl) .nil), ok.le, _, rfl, hS⟩
        · refine EvC.draw [0, 1, 3, 7, 0, 0, 31, 95, 255, 511, 1023, 2047, 4095, 8191, 16383, 32767, 4095, 4095, 135167, 131071, 655359, 2097151, 4194303, 8388607, 16777215, 33554431] [Item.look 0, Item.look 1, Item.look 2, Item.look 3, Item.look 4, Item.look 5, Item.look 6, Item.look 7, Item.look 8, Item.look 9, Item.look 10, Item.look 11, Item.look 12, Item.look 13, Item.look 14, Item.look 15, Item.look 16, Item.look 17, Item.look 19, Item.look 20, Item.eff 18 [12, 13, 14, 15, 16, 19, 20], Item.look 21, Item.look 22, Item.look 23, Item.look 24, Item.look 25] MO (by kernel_rfl) ?_; refine R.lookL rfl rfl rfl (Lk.move rfl rfl) ?_
          obtain ⟨a38, e4, hS⟩ := hS
          refine R.lookL (v := (.pointer (some a38))) rfl rfl rfl (Lk.nilChk rfl rfl e4) ?_; refine R.lookL (v := (.pointer (some a38))) rfl rfl rfl (Lk.fldAddr rfl Tryd.underlying151 rfl rfl T31 rfl rfl rfl) ?_
          obtain ⟨v40, e5, hS⟩ := hS
          refine R.lookL rfl rfl rfl (Look.loc ok (Lk.load1 rfl Tryd.underlying31 rfl rfl e5)) ?_; refine R.lookL rfl rfl rfl (Lk.move rfl rfl) ?_; refine R.lookL rfl rfl rfl (Lk.move rfl rfl) ?_
          obtain ⟨a43, e6, e7, e8, hS⟩ := hS
          refine R.lookL rfl rfl rfl (Lk.ixAddr rfl Tryd.underlying31 T51 rfl e6 rfl e7 e8) ?_; refine R.lookL (v := (.pointer (some (Addr.add a43 (Int.toNat p1 * 8))))) rfl rfl rfl (Lk.fldAddr rfl Tryd.underlying51 rfl rfl T49 rfl rfl rfl) ?_
          obtain ⟨e9, e10, hS⟩ := hS
          refine R.lookL rfl rfl rfl (Lk.indexAddrA rfl Tryd.underlying49 T3 rfl rfl e9 e10) ?_
          obtain ⟨v46, e11, hS⟩ := hS
          refine R.lookL rfl rfl rfl (Look.loc ok (Lk.load1 rfl Tryd.underlying3 rfl rfl e11)) ?_; refine R.lookL rfl rfl rfl (Lk.arith rfl rfl rfl rfl) ?_; refine R.lookL rfl rfl rfl (Lk.move rfl rfl) ?_
          by_cases e12 : (v46 != (-1)) = true
          · rw [if_pos e12] at hS; refine R.lookFL rfl rfl rfl rfl e12 rfl ?_; refine R.lookFL rfl rfl rfl rfl e12 rfl ?_; refine R.lookFL rfl rfl rfl rfl e12 rfl ?_; refine R.lookFL rfl rfl rfl rfl e12 rfl ?_; refine R.lookFL rfl rfl rfl rfl e12 rfl ?_; refine R.lookFL rfl rfl rfl rfl e12 rfl ?_; refine R.lookFL rfl rfl rfl rfl e12 rfl ?_; refine R.lookFL rfl rfl rfl rfl e12 rfl ?_; refine R.effF rfl rfl rfl rfl e12 rfl ?_; refine R.lookFL rfl rfl rfl rfl e12 rfl ?_; refine R.lookFL rfl rfl rfl rfl e12 rfl ?_; refine R.lookFL rfl rfl rfl rfl e12 rfl ?_; refine R.lookL rfl rfl rfl (Lk.pick rfl rfl (fun _ => rfl) (fun e => by rw [e12] at e; cases e)) ?_; refine R.lookL rfl rfl rfl (Lk.assign rfl rfl) ?_; refine R.nil ?_; exact hIh_2 true _ _ _ (lq rfl (lq rfl (lq rfl (lq rfl (lq rfl (lq rfl (lz _))))))) (ok.sub sl0) (H.add_sub ok sl0) hS
          · rw [if_neg e12] at hS; replace e12 := eq_false_of_ne_true e12; refine R.lookTL rfl rfl rfl rfl e12 rfl (Lk.move rfl rfl) ?_
            obtain ⟨a50, e13, hS⟩ := hS
            refine R.lookTL (v := (.pointer (some a50))) rfl rfl rfl rfl e12 rfl (Lk.nilChk rfl rfl e13) ?_; refine R.lookTL (v := (.pointer (some a50))) rfl rfl rfl rfl e12 rfl (Lk.fldAddr rfl Tryd.underlying151 rfl rfl T31 rfl rfl rfl) ?_
            obtain ⟨v52, e14, hS⟩ := hS
            refine R.lookTL rfl rfl rfl rfl e12 rfl (Look.loc ok (Lk.load1 rfl Tryd.underlying31 rfl rfl e14)) ?_; refine R.lookTL rfl rfl rfl rfl e12 rfl (Lk.move rfl rfl) ?_; refine R.lookTL rfl rfl rfl rfl e12 rfl (Lk.move rfl rfl) ?_
            obtain ⟨a56, e15, e16, e17, hS⟩ := hS
            refine R.lookTL rfl rfl rfl rfl e12 rfl (Lk.ixAddr rfl Tryd.underlying31 T51 rfl e15 rfl e16 e17) ?_; refine R.lookTL (v := (.pointer (some (Addr.add a56 (Int.toNat p3 * 8))))) rfl rfl rfl rfl e12 rfl (Lk.fldAddr rfl Tryd.underlying51 rfl rfl T49 rfl rfl rfl) ?_; refine R.effT rfl rfl rfl rfl e12 rfl (Eff.loc ok (Ef.call rfl CB56 rfl ((f56_ok hS).mono ?_))); rintro _ h_4 ⟨v55, rfl, hS⟩
            obtain ⟨e18, hS⟩ := hS
            refine fun ok => ⟨(List.forall_mem_cons.2 ⟨(XP (XP (XP (XP (XP (XP (XP (Log.at_ (LookG.ofT rfl rfl rfl e12 (Lk.move rfl rfl)))))))))), (List.forall_mem_cons.2 ⟨(XP (XP (XP (XP (XP (XP (Log.at_ (LookG.ofT rfl rfl rfl e12 (Lk.nilChk rfl rfl e13))))))))), (List.forall_mem_cons.2 ⟨(XP (XP (XP (XP (XP (Log.at_ (LookG.ofT rfl rfl rfl e12 (Lk.fldAddr rfl Tryd.underlying151 rfl rfl T31 rfl rfl rfl)))))))), (List.forall_mem_cons.2 ⟨(XP (XP (XP (XP (Log.at_ (LookG.ofT rfl rfl rfl e12 (Look.loc ok (Lk.load1 rfl Tryd.underlying31 rfl rfl e18)))))))), (List.forall_mem_cons.2 ⟨(XP (XP (XP (Log.at_ (LookG.ofT rfl rfl rfl e12 (Lk.move rfl rfl)))))), (List.forall_mem_cons.2 ⟨(XP (Log.at_ (LookG.ofT rfl rfl rfl e12 (Lk.ixAddr rfl Tryd.underlying31 T51 rfl e15 rfl e16 e17)))), (List.forall_mem_cons.2 ⟨(Log.at_ (LookG.ofT rfl rfl rfl e12 (Lk.fldAddr rfl Tryd.underlying51 rfl rfl T49 rfl rfl rfl))), noChk⟩)⟩)⟩)⟩)⟩)⟩)⟩), ?_⟩
            obtain ⟨e19, e20, hS⟩ := hS
            refine R.lookTL rfl rfl rfl rfl e12 rfl (Lk.indexAddrA rfl Tryd.underlying49 T3 rfl rfl e19 e20) ?_
            obtain ⟨v59, e21, hS⟩ := hS
            refine R.lookTL rfl rfl rfl rfl e12 rfl (Look.loc ok (Lk.load1 rfl Tryd.underlying3 rfl rfl e21)) ?_; refine R.lookTL rfl rfl rfl rfl e12 rfl (Lk.arith rfl rfl rfl rfl) ?_; refine R.lookL rfl rfl rfl (Lk.pick rfl rfl (fun e => by rw [e12] at e; cases e) (fun _ => rfl)) ?_; refine R.lookL rfl rfl rfl (Lk.assign rfl rfl) ?_; refine R.nil ?_; exact hIh_2 (v59 != (-1)) _ _ _ (lq rfl (lq rfl (lq rfl (lq rfl (lq rfl (lq rfl (lz _))))))) (ok.sub sl0) (H.add_sub ok sl0) hS
    · refine Xr [.look 0, .look 1, .look 2, .eff 3 [], .look 4, .look 5, .look 6, .look 7, .look 8, .eff 9 [], .look 10, .look 11, .look 12, .look 13, .look 14, .look 15, .look 16, .look 17, .look 18, .look 19, .look 20, .look 21] (Xm rfl rfl rfl rfl fun _ => ?_); refine Xm rfl rfl rfl rfl fun _ => ?_; refine Xm rfl rfl rfl rfl fun _ => ?_; refine R.eff rfl rfl rfl (Eff.loc ok (Ef.call rfl CB96 rfl ((f96_ok hS).mono ?_))); rintro _ h_5 ⟨v18, rfl, hS⟩; refine fun ok => ⟨noChk, ?_⟩; refine Xk rfl rfl (Lk.not rfl rfl) fun _ => ?_; refine Xm rfl rfl rfl rfl fun _ => ?_
      by_cases e22 : (!v18) = true
      · rw [if_pos e22] at hS; refine R.lookF rfl rfl rfl rfl e22 rfl fun _ => R.lookF rfl rfl rfl rfl e22 rfl fun _ => R.lookF rfl rfl rfl rfl e22 rfl fun _ => R.effF rfl rfl rfl rfl e22 rfl ?_; refine R.lookF rfl rfl rfl rfl e22 rfl fun _ => Xk rfl rfl (Lk.pick rfl rfl (fun _ => rfl) (fun e => by rw [e22] at e; cases e)) fun _ => Xm rfl rfl rfl rfl fun _ => R.lookF rfl rfl rfl rfl rfl rfl fun _ => R.lookF rfl rfl rfl rfl rfl rfl fun _ => R.lookF rfl rfl rfl rfl rfl rfl fun _ => Xk rfl rfl (Lk.pick rfl rfl (fun _ => rfl) (fun e => by cases e)) fun _ => Xm rfl rfl rfl rfl fun _ => R.lookF rfl rfl rfl rfl rfl rfl fun _ => R.lookF rfl rfl rfl rfl rfl rfl fun _ => Xk rfl rfl (Lk.pick rfl rfl (fun _ => rfl) (fun e => by cases e)) fun _ => Xa rfl rfl rfl rfl fun _ => R.nil ?_; exact hIh_1 true _ _ _ (lq rfl (lq rfl (lq rfl (lq rfl (lq rfl (lq rfl (lz _))))))) (ok.sub sl0) (H.add_sub ok sl0) hS
      · rw [if_neg e22] at hS; replace e22 := eq_false_of_ne_true e22; refine R.lookT rfl rfl rfl rfl e22 rfl (Lk.move rfl rfl) fun _ => R.lookT rfl rfl rfl rfl e22 rfl (Lk.move rfl rfl) fun _ => R.lookT rfl rfl rfl rfl e22 rfl (Lk.move rfl rfl) fun _ => R.effT rfl rfl rfl rfl e22 rfl (Eff.loc ok (Ef.call rfl CB96 rfl ((f96_ok hS).mono ?_))); rintro _ h_6 ⟨v24, rfl, hS⟩; refine fun ok => ⟨noChk, ?_⟩; refine R.lookT rfl rfl rfl rfl e22 rfl (Lk.not rfl rfl) fun _ => Xk rfl rfl (Lk.pick rfl rfl (fun e => by rw [e22] at e; cases e) (fun _ => rfl)) fun _ => Xm rfl rfl rfl rfl fun _ => ?_
        by_cases e23 : (!v24) = true
        · rw [if_pos e23] at hS; refine R.lookF rfl rfl rfl rfl e23 rfl fun _ => R.lookF rfl rfl rfl rfl e23 rfl fun _ => R.lookF rfl rfl rfl rfl e23 rfl fun _ => Xk rfl rfl (Lk.pick rfl rfl (fun _ => rfl) (fun e => by rw [e23] at e; cases e)) fun _ => Xm rfl rfl rfl rfl fun _ => R.lookF rfl rfl rfl rfl rfl rfl fun _ => R.lookF rfl rfl rfl rfl rfl rfl fun _ => Xk rfl rfl (Lk.pick rfl rfl (fun _ => rfl) (fun e => by cases e)) fun _ => Xa rfl rfl rfl rfl fun _ => R.nil ?_; exact hIh_1 true _ _ _ (lq rfl (lq rfl (lq rfl (lq rfl (lq rfl (lq rfl (lz _))))))) (ok.sub sl0) (H.add_sub ok sl0) hS
        · rw [if_neg e23] at hS; replace e23 := eq_false_of_ne_true e23; refine R.lookT rfl rfl rfl rfl e23 rfl (Lk.move rfl rfl) fun _ => R.lookT rfl rfl rfl rfl e23 rfl (Lk.move rfl rfl) fun _ => R.lookT rfl rfl rfl rfl e23 rfl (Lk.arith rfl rfl rfl rfl) fun _ => Xk rfl rfl (Lk.pick rfl rfl (fun e => by rw [e23] at e; cases e) (fun _ => rfl)) fun _ => Xm rfl rfl rfl rfl fun _ => ?_
          by_cases e24 : (p1 == p3) = true
          · rw [if_pos e24] at hS; refine R.lookF rfl rfl rfl rfl e24 rfl fun _ => R.lookF rfl rfl rfl rfl e24 rfl fun _ => Xk rfl rfl (Lk.pick rfl rfl (fun _ => rfl) (fun e => by rw [e24] at e; cases e)) fun _ => Xa rfl rfl rfl rfl fun _ => R.nil ?_; exact hIh_1 true _ _ _ (lq rfl (lq rfl (lq rfl (lq rfl (lq rfl (lq rfl (lz _))))))) (ok.sub sl0) (H.add_sub ok sl0) hS
          · rw [if_neg e24] at hS; replace e24 := eq_false_of_ne_true e24; refine R.lookT rfl rfl rfl rfl e24 rfl (Lk.move rfl rfl) fun _ => R.lookT rfl rfl rfl rfl e24 rfl (Lk.arith rfl rfl rfl rfl) fun _ => Xk rfl rfl (Lk.pick rfl rfl (fun e => by rw [e24] at e; cases e) (fun _ => rfl)) fun _ => Xa rfl rfl rfl rfl fun _ => R.nil ?_; exact hIh_1 (decide (p4 < (-2))) _ _ _ (lq rfl (lq rfl (lq rfl (lq rfl (lq rfl (lq rfl (lz _))))))) (ok.sub sl0) (H.add_sub ok sl0) hS

theorem f44_ok {p0 : Option Addr} {p1 : Int} {h : H} {K : H → Prop} (hS : S44 p0 p1 h K) : ACall Tryd.prog 44 ([(.pointer p0), (i6 p1)] : List Value).toArray h (fun r h' => r = tup [] ∧ K  h') := by
  refine ACall.enter (fn := Tryd.f44) Tryd.func44 rfl (Nat.le_of_ble_eq_true rfl) ?_; unfold S44 at hS; have ok := Lok.nil h; refine EvC.seq (Xr [.look 0, .eff 1 [], .look 2, .eff 3 [], .look 4, .eff 5 [], .look 6, .eff 7 [], .look 8, .alc 9, .eff 10 []] (Xm rfl rfl rfl rfl fun _ => ?_)); refine R.eff rfl rfl rfl (Eff.loc ok (Ef.call rfl CB74 rfl ((f74_ok hS).mono ?_))); rintro _ h_1 ⟨v15, rfl, hS⟩; refine fun ok => ⟨noChk, ?_⟩; refine Xm rfl rfl rfl rfl fun _ => ?_; refine R.eff rfl rfl rfl (Eff.loc ok (Ef.call rfl CB74 rfl ((f74_ok hS).mono ?_))); rintro _ h_2 ⟨v17, rfl, hS⟩; refine fun ok => ⟨noChk, ?_⟩; refine Xm rfl rfl rfl rfl fun _ => ?_; refine R.eff rfl rfl rfl (Eff.loc ok (Ef.call rfl CB74 rfl ((f74_ok hS).mono ?_))); rintro _ h_3 ⟨v19, rfl, hS⟩; refine fun ok => ⟨noChk, ?_⟩; refine Xm rfl rfl rfl rfl fun _ => ?_; refine R.eff rfl rfl rfl (Eff.loc ok (Ef.call rfl CB74 rfl ((f74_ok hS).mono ?_))); rintro _ h_4 ⟨v21, rfl, hS⟩; refine fun ok => ⟨noChk, ?_⟩; refine Xk rfl rfl (Lk.buildA (cs := [(i6 v15), (i6 v17), (i6 v19), (i6 v21)]) rfl Tryd.underlying49 T49 T3 rfl rfl) fun _ => ?_; refine R.var (blk := .row ⟨[(i6 0), (i6 0), (i6 0), (i6 0)], 4, 49, true, true⟩) ok rfl rfl rfl (Ac.alloc rfl T49) rfl rfl fun b4 ok => ?_; refine R.effN rfl rfl rfl (Ef.storeLoc (i := 0) (vs := [(i6 v15), (i6 v17), (i6 v19), (i6 v21)]) (cs := [(i6 v15), (i6 v17), (i6 v19), (i6 v21)]) (l' := [(b4, .row ⟨[(i6 v15), (i6 v17), (i6 v19), (i6 v21)], 4, 49, true, true⟩)]) ok rfl T49 rfl rfl rfl rfl rfl rfl rfl rfl rfl rfl fun ok => ⟨noChk, ?_⟩); refine R.nil (EvC.seq (EvC.draw [0, 1, 0, 4, 0, 16, 0, 64, 255, 0, 512, 0, 2048, 0, 8192, 0, 32768, 130560, 0, 0, 0, 0, 3670527, 8126463, 16777215] [Item.look 0, Item.look 1, Item.look 2, Item.look 3, Item.look 4, Item.look 5, Item.look 6, Item.look 7, Item.look 8, Item.look 9, Item.look 10, Item.look 11, Item.look 12, Item.look 13, Item.look 14, Item.look 15, Item.look 16, Item.look 17, Item.look 18, Item.alc 19, Item.alc 20, Item.alc 21, Item.eff 22 [9, 10, 11, 12, 13, 14, 15, 16, 17, 18], Item.eff 23 [18], Item.eff 24 []] MO (by kernel_rfl) ?_)); refine R.lookL (v := (.pointer (some ⟨b4, 1, none⟩))) rfl rfl rfl (Lk.ixConst rfl Tryd.underlying49 T3 rfl rfl rfl rfl) ?_; refine R.lookL rfl rfl rfl (Lk.load1 (v := (i6 v17)) rfl Tryd.underlying3 rfl rfl (H.rd_loc ok (i := 0) rfl rfl)) ?_; refine R.lookL (v := (.pointer (some ⟨b4, 3, none⟩))) rfl rfl rfl (Lk.ixConst rfl Tryd.underlying49 T3 rfl rfl rfl rfl) ?_; refine R.lookL rfl rfl rfl (Lk.load1 (v := (i6 v21)) rfl Tryd.underlying3 rfl rfl (H.rd_loc ok (i := 0) rfl rfl)) ?_; refine R.lookL (v := (.pointer (some ⟨b4, 0, none⟩))) rfl rfl rfl (Lk.ixConst rfl Tryd.underlying49 T3 rfl rfl rfl rfl) ?_; refine R.lookL rfl rfl rfl (Lk.load1 (v := (i6 v15)) rfl Tryd.underlying3 rfl rfl (H.rd_loc ok (i := 0) rfl rfl)) ?_
  refine R.lookL (v := (.pointer (some ⟨b4, 0, none⟩))) rfl rfl rfl (Lk.ixConst rfl Tryd.underlying49 T3 rfl rfl rfl rfl) ?_; refine R.lookL rfl rfl rfl (Lk.load1 (v := (i6 v15)) rfl Tryd.underlying3 rfl rfl (H.rd_loc ok (i := 0) rfl rfl)) ?_; refine R.lookL rfl rfl rfl (Lk.buildA (cs := [(i6 v17), (i6 v21), (i6 v15), (i6 v15)]) rfl Tryd.underlying49 T49 T3 rfl rfl) ?_; refine R.lookL (v := (.pointer (some ⟨b4, 2, none⟩))) rfl rfl rfl (Lk.ixConst rfl Tryd.underlying49 T3 rfl rfl rfl rfl) ?_; refine R.lookL rfl rfl rfl (Lk.load1 (v := (i6 v19)) rfl Tryd.underlying3 rfl rfl (H.rd_loc ok (i := 0) rfl rfl)) ?_; refine R.lookL (v := (.pointer (some ⟨b4, 2, none⟩))) rfl rfl rfl (Lk.ixConst rfl Tryd.underlying49 T3 rfl rfl rfl rfl) ?_; refine R.lookL rfl rfl rfl (Lk.load1 (v := (i6 v19)) rfl Tryd.underlying3 rfl rfl (H.rd_loc ok (i := 0) rfl rfl)) ?_; refine R.lookL (v := (.pointer (some ⟨b4, 3, none⟩))) rfl rfl rfl (Lk.ixConst rfl Tryd.underlying49 T3 rfl rfl rfl rfl) ?_; refine R.lookL rfl rfl rfl (Lk.load1 (v := (i6 v21)) rfl Tryd.underlying3 rfl rfl (H.rd_loc ok (i := 0) rfl rfl)) ?_; refine R.lookL (v := (.pointer (some ⟨b4, 1, none⟩))) rfl rfl rfl (Lk.ixConst rfl Tryd.underlying49 T3 rfl rfl rfl rfl) ?_; refine R.lookL rfl rfl rfl (Lk.load1 (v := (i6 v17)) rfl Tryd.underlying3 rfl rfl (H.rd_loc ok (i := 0) rfl rfl)) ?_; refine R.lookL rfl rfl rfl (Lk.buildA (cs := [(i6 v19), (i6 v19), (i6 v21), (i6 v17)]) rfl Tryd.underlying49 T49 T3 rfl rfl) ?_; refine R.lookL rfl rfl rfl (Lk.buildA (cs := [(i6 1), (i6 0), (i6 1), (i6 0)]) rfl Tryd.underlying49 T49 T3 rfl rfl) ?_; refine R.var (blk := .row ⟨[(i6 0), (i6 0), (i6 0), (i6 0)], 4, 49, true, true⟩) ok rfl rfl rfl (Ac.alloc rfl T49) rfl rfl fun b5 ok => ?_; refine R.var (blk := .row ⟨[(i6 0), (i6 0), (i6 0), (i6 0)], 4, 49, true, true⟩) ok rfl rfl rfl (Ac.alloc rfl T49) rfl rfl fun b6 ok => ?_; refine R.var (blk := .row ⟨[(i6 0), (i6 0), (i6 0), (i6 0)], 4, 49, true, true⟩) ok rfl rfl rfl (Ac.alloc rfl T49) rfl rfl fun b7 ok => ?_
  refine R.effN rfl rfl rfl (Ef.storeLoc (i := 2) (vs := [(i6 v17), (i6 v21), (i6 v15), (i6 v15)]) (cs := [(i6 v17), (i6 v21), (i6 v15), (i6 v15)]) (l' := [(b7, .row ⟨[(i6 0), (i6 0), (i6 0), (i6 0)], 4, 49, true, true⟩), (b6, .row ⟨[(i6 0), (i6 0), (i6 0), (i6 0)], 4, 49, true, true⟩), (b5, .row ⟨[(i6 v17), (i6 v21), (i6 v15), (i6 v15)], 4, 49, true, true⟩), (b4, .row ⟨[(i6 v15), (i6 v17), (i6 v19), (i6 v21)], 4, 49, true, true⟩)]) ok rfl T49 rfl rfl rfl rfl rfl rfl rfl rfl rfl rfl fun ok => ⟨(List.forall_mem_cons.2 ⟨(XP (XP (XP (XP (XP (XP (XP (XP (XP (Log.at_ (LookG.of rfl (Lk.ixConst rfl Tryd.underlying49 T3 rfl rfl rfl rfl)))))))))))), (List.forall_mem_cons.2 ⟨(XP (XP (XP (XP (XP (XP (XP (XP (Log.at_ (LookG.of rfl (Lk.load1 (v := (i6 v19)) rfl Tryd.underlying3 rfl rfl (H.rd_loc ok (i := 3) rfl rfl)))))))))))), (List.forall_mem_cons.2 ⟨(XP (XP (XP (XP (XP (XP (XP (Log.at_ (LookG.of rfl (Lk.ixConst rfl Tryd.underlying49 T3 rfl rfl rfl rfl)))))))))), (List.forall_mem_cons.2 ⟨(XP (XP (XP (XP (XP (XP (Log.at_ (LookG.of rfl (Lk.load1 (v := (i6 v19)) rfl Tryd.underlying3 rfl rfl (H.rd_loc ok (i := 3) rfl rfl)))))))))), (List.forall_mem_cons.2 ⟨(XP (XP (XP (XP (XP (Log.at_ (LookG.of rfl (Lk.ixConst rfl Tryd.underlying49 T3 rfl rfl rfl rfl)))))))), (List.forall_mem_cons.2 ⟨(XP (XP (XP (XP (Log.at_ (LookG.of rfl (Lk.load1 (v := (i6 v21)) rfl Tryd.underlying3 rfl rfl (H.rd_loc ok (i := 3) rfl rfl)))))))), (List.forall_mem_cons.2 ⟨(XP (XP (XP (Log.at_ (LookG.of rfl (Lk.ixConst rfl Tryd.underlying49 T3 rfl rfl rfl rfl)))))), (List.forall_mem_cons.2 ⟨(XP (XP (Log.at_ (LookG.of rfl (Lk.load1 (v := (i6 v17)) rfl Tryd.underlying3 rfl rfl (H.rd_loc ok (i := 3) rfl rfl)))))), (List.forall_mem_cons.2 ⟨(XP (Log.at_ (LookG.of rfl (Lk.buildA (cs := [(i6 v19), (i6 v19), (i6 v21), (i6 v17)]) rfl Tryd.underlying49 T49 T3 rfl rfl)))), (List.forall_mem_cons.2 ⟨(Log.at_ (LookG.of rfl (Lk.buildA (cs := [(i6 1), (i6 0), (i6 1), (i6 0)]) rfl Tryd.underlying49 T49 T3 rfl rfl))), noChk⟩)⟩)⟩)⟩)⟩)⟩)⟩)⟩)⟩)⟩), ?_⟩); refine R.effN rfl rfl rfl (Ef.storeLoc (i := 1) (vs := [(i6 v19), (i6 v19), (i6 v21), (i6 v17)]) (cs := [(i6 v19), (i6 v19), (i6 v21), (i6 v17)]) (l' := [(b7, .row ⟨[(i6 0), (i6 0), (i6 0), (i6 0)], 4, 49, true, true⟩), (b6, .row ⟨[(i6 v19), (i6 v19), (i6 v21), (i6 v17)], 4, 49, true, true⟩), (b5, .row ⟨[(i6 v17), (i6 v21), (i6 v15), (i6 v15)], 4, 49, true, true⟩), (b4, .row ⟨[(i6 v15), (i6 v17), (i6 v19), (i6 v21)], 4, 49, true, true⟩)]) ok rfl T49 rfl rfl rfl rfl rfl rfl rfl rfl rfl rfl fun ok => ⟨(List.forall_mem_cons.2 ⟨(Log.at_ (LookG.of rfl (Lk.buildA (cs := [(i6 1), (i6 0), (i6 1), (i6 0)]) rfl Tryd.underlying49 T49 T3 rfl rfl))), noChk⟩), ?_⟩)
  refine R.effN rfl rfl rfl (Ef.storeLoc (i := 0) (vs := [(i6 1), (i6 0), (i6 1), (i6 0)]) (cs := [(i6 1), (i6 0), (i6 1), (i6 0)]) (l' := [(b7, .row ⟨[(i6 1), (i6 0), (i6 1), (i6 0)], 4, 49, true, true⟩), (b6, .row ⟨[(i6 v19), (i6 v19), (i6 v21), (i6 v17)], 4, 49, true, true⟩), (b5, .row ⟨[(i6 v17), (i6 v21), (i6 v15), (i6 v15)], 4, 49, true, true⟩), (b4, .row ⟨[(i6 v15), (i6 v17), (i6 v19), (i6 v21)], 4, 49, true, true⟩)]) ok rfl T49 rfl rfl rfl rfl rfl rfl rfl rfl rfl rfl fun ok => ⟨noChk, ?_⟩); refine R.nil (EvC.seq (Xr [.look 0, .look 1, .look 2, .look 3, .look 4, .look 5, .look 6, .look 7] (Xm rfl rfl rfl rfl fun _ => ?_)))
  obtain ⟨a43, e1, hS⟩ := hS
  refine Xk (v := (.pointer (some a43))) rfl rfl (Lk.nilChk rfl rfl e1) fun _ => ?_; refine Xk (v := (.pointer (some (Addr.add a43 3)))) rfl rfl (Lk.fldAddr rfl Tryd.underlying106 rfl rfl T104 rfl rfl rfl) fun _ => ?_
  obtain ⟨v45, e2, hS⟩ := hS
  refine Xk rfl rfl (Look.loc ok (Lk.load1 rfl Tryd.underlying104 rfl rfl e2)) fun _ => ?_; refine Xm rfl rfl rfl rfl fun _ => ?_
  obtain ⟨a47, e3, e4, e5, hS⟩ := hS
  refine Xk rfl rfl (Lk.ixAddr rfl Tryd.underlying104 T145 rfl e3 rfl e4 e5) fun _ => ?_
  obtain ⟨v48_0, v48_1, v48_2, v48_3, e6, hS⟩ := hS
  refine Xk rfl rfl (Look.loc ok (Lk.loadN rfl Tryd.underlying145 rfl T145 rfl e6)) fun _ => ?_; refine Xm rfl rfl rfl rfl fun _ => ?_; refine R.nil (EvC.block (EvC.loop (LoopC.lfp (σ := Int) (fun s => (Ep (Ep (Ep (Ep (Ep (Ep E0 49 (i6 s)) 48 (.agg ([(.slice v48_0.a v48_0.l v48_0.c), (.slice v48_1.a v48_1.l v48_1.c), (.slice v48_2.a v48_2.l v48_2.c), (.slice v48_3.a v48_3.l v48_3.c)] : List Value).toArray)) 7 (.pointer (some ⟨b7, 0, none⟩))) 6 (.pointer (some ⟨b6, 0, none⟩))) 5 (.pointer (some ⟨b5, 0, none⟩))) 0 (.pointer p0))) (fun s => [(b7, .row ⟨[(i6 1), (i6 0), (i6 1), (i6 0)], 4, 49, true, true⟩), (b6, .row ⟨[(i6 v19), (i6 v19), (i6 v21), (i6 v17)], 4, 49, true, true⟩), (b5, .row ⟨[(i6 v17), (i6 v21), (i6 v15), (i6 v15)], 4, 49, true, true⟩)]) (fun X hX => ?_) hS (ok.sub (.cons_cons _ (.cons_cons _ (.cons_cons _ (.cons _ sl0))))) (lq rfl (lq rfl (lq rfl (lq rfl (lq rfl (lq rfl (lz _))))))) (H.add_sub ok (.cons_cons _ (.cons_cons _ (.cons_cons _ (.cons _ sl0)))))))); intro v49 h_5 hS ok; replace hS : S44_l3 p0 K v15 v17 v19 v21 v48_0 v48_1 v48_2 v48_3 X v49 h_5 := hS; unfold S44_l3 at hS; refine EvC.seq (Xr [.look 0] (Xk rfl rfl (Lk.arith rfl rfl rfl rfl) fun _ => ?_)); refine R.nil (EvC.seq ?_)
  by_cases e7 : (decide (v49 < 4)) = true
  · rw [if_pos e7] at hS; refine EvC.condT rfl e7 (EvC.skip (EvC.seq (EvC.block (EvC.seq (Xr [.look 0, .look 1, .look 2, .look 3] (Xm rfl rfl rfl rfl fun _ => ?_))))))
    obtain ⟨e8, e9, hS⟩ := hS
    refine Xk rfl rfl (Lk.elemSel Sl.v ([v48_0, v48_1, v48_2, v48_3] : List Sl) rfl Tryd.underlying145 Tryd.underlying144 rfl T144 rfl rfl e8 e9 rfl) fun _ => ?_; refine Xa rfl rfl rfl rfl fun _ => ?_; refine Xa rfl rfl rfl rfl fun _ => ?_; refine R.nil (EvC.seq (Xr [.look 0, .look 1, .look 2, .look 3] (Xm rfl rfl rfl rfl fun _ => ?_)))
    obtain ⟨e10, e11, hS⟩ := hS
    refine Xk (v := (.pointer (some ⟨b5, 0 + Int.toNat v49, none⟩))) rfl rfl (Lk.ixLoc rfl Tryd.underlying49 T3 rfl rfl e10 e11) fun _ => ?_; refine Xk (v := (i6 (sel ([v17, v21, v15, v15] : List Int) v49))) rfl rfl (Lk.load1 rfl Tryd.underlying3 rfl rfl (H.rd_loc ok (i := 2) rfl (sel_at (fun x => Value.int .i64 x) ([v17, v21, v15, v15] : List Int) [] [] rfl (by have h1 := e10; have h2 := e11; simp only [List.length_cons, List.length_nil]; omega)))) fun _ => ?_; refine Xk (v := (i6 (sel ([v17, v21, v15, v15] : List Int) v49))) rfl rfl (Lk.assign rfl rfl) fun _ => ?_; refine R.nil (EvC.join (σ := Int) (fun s => (Ep (Ep (Ep (Ep (Ep (Ep (Ep (Ep E0 49 (i6 v49)) 48 (.agg ([(.slice v48_0.a v48_0.l v48_0.c), (.slice v48_1.a v48_1.l v48_1.c), (.slice v48_2.a v48_2.l v48_2.c), (.slice v48_3.a v48_3.l v48_3.c)] : List Value).toArray)) 10 (i6 s)) 8 (i6 v49)) 7 (.pointer (some ⟨b7, 0, none⟩))) 6 (.pointer (some ⟨b6, 0, none⟩))) 5 (.pointer (some ⟨b5, 0, none⟩))) 0 (.pointer p0))) (fun s => [(b7, .row ⟨[(i6 1), (i6 0), (i6 1), (i6 0)], 4, 49, true, true⟩), (b6, .row ⟨[(i6 v19), (i6 v19), (i6 v21), (i6 v17)], 4, 49, true, true⟩), (b5, .row ⟨[(i6 v17), (i6 v21), (i6 v15), (i6 v15)], 4, 49, true, true⟩)]) (fun s h_6 => S44_j1 p0 v17 v19 v21 v49 X s h_6) ?_ (fun Ih_6 hIh_6 => ?_))
    · intro v10 h_6 ok hS; replace hS : S44_j1 p0 v17 v19 v21 v49 X v10 h_6 := hS; unfold S44_j1 at hS; refine EvC.draw [0, 1, 3, 7, 0, 0, 32, 96, 0, 256, 768, 2047] [Item.look 0, Item.look 1, Item.look 2, Item.look 3, Item.look 4, Item.look 5, Item.look 6, Item.look 7, Item.look 8, Item.look 9, Item.look 10, Item.eff 11 []] MO (by kernel_rfl) ?_; refine Xm rfl rfl rfl rfl fun _ => ?_
      obtain ⟨a88, e12, hS⟩ := hS
      refine Xk (v := (.pointer (some a88))) rfl rfl (Lk.nilChk rfl rfl e12) fun _ => ?_; refine Xk (v := (.pointer (some (Addr.add a88 2)))) rfl rfl (Lk.fldAddr rfl Tryd.underlying106 rfl rfl T103 rfl rfl rfl) fun _ => ?_
      obtain ⟨v90, e13, hS⟩ := hS
      refine Xk rfl rfl (Look.loc ok (Lk.load1 rfl Tryd.underlying103 rfl rfl e13)) fun _ => ?_; refine Xm rfl rfl rfl rfl fun _ => ?_; refine Xm rfl rfl rfl rfl fun _ => ?_
      obtain ⟨e14, e15, hS⟩ := hS
      refine Xk (v := (.pointer (some ⟨b7, 0 + Int.toNat v49, none⟩))) rfl rfl (Lk.ixLoc rfl Tryd.underlying49 T3 rfl rfl e14 e15) fun _ => ?_; refine Xk (v := (i6 (sel ([1, 0, 1, 0] : List Int) v49))) rfl rfl (Lk.load1 rfl Tryd.underlying3 rfl rfl (H.rd_loc ok (i := 0) rfl (sel_at (fun x => Value.int .i64 x) ([1, 0, 1, 0] : List Int) [] [] rfl (by have h1 := e14; have h2 := e15; simp only [List.length_cons, List.length_nil]; omega)))) fun _ => ?_; refine Xm rfl rfl rfl rfl fun _ => ?_
      obtain ⟨e16, e17, hS⟩ := hS
      refine Xk (v := (.pointer (some ⟨b6, 0 + Int.toNat v49, none⟩))) rfl rfl (Lk.ixLoc rfl Tryd.underlying49 T3 rfl rfl e16 e17) fun _ => ?_; refine Xk (v := (i6 (sel ([v19, v19, v21, v17] : List Int) v49))) rfl rfl (Lk.load1 rfl Tryd.underlying3 rfl rfl (H.rd_loc ok (i := 1) rfl (sel_at (fun x => Value.int .i64 x) ([v19, v19, v21, v17] : List Int) [] [] rfl (by have h1 := e16; have h2 := e17; simp only [List.length_cons, List.length_nil]; omega)))) fun _ => ?_; refine R.eff rfl rfl rfl (Eff.loc ok (Ef.call rfl CB75 rfl ((f75_ok hS).mono ?_))); rintro _ h_7 ⟨v98, rfl, hS⟩; refine fun ok => ⟨noChk, ?_⟩; refine R.nil (Xr [.look 0, .look 1] (Xk rfl rfl (Lk.arith rfl rfl rfl rfl) fun _ => Xm rfl rfl rfl rfl fun _ => R.nil ?_)); exact hX (IntKind.wrap .i64 (v49 + 1)) _ _ _ hS (ok.sub (.cons_cons _ (.cons_cons _ (.cons_cons _ sl0)))) (lq rfl (lq rfl (lq rfl (lq rfl (lq rfl (lq rfl (lz _))))))) (H.add_sub ok (.cons_cons _ (.cons_cons _ (.cons_cons _ sl0))))
    · refine EvC.seq (Xr [.look 0, .look 1, .look 2] (Xm rfl rfl rfl rfl fun _ => ?_)); refine Xk rfl rfl (Lk.len rfl Tryd.underlying144 rfl) fun _ => ?_; refine Xm rfl rfl rfl rfl fun _ => ?_; refine R.nil (EvC.block (EvC.loop (LoopC.lfp (σ := Int × Int) (fun s => (Ep (Ep (Ep (Ep (Ep (Ep (Ep (Ep (Ep (Ep (Ep E0 58 (i6 s.2)) 57 (i6 (((sel ([v48_0, v48_1, v48_2, v48_3] : List Sl) v49).l) : Int))) 56 (.slice ((sel ([v48_0, v48_1, v48_2, v48_3] : List Sl) v49).a) ((sel ([v48_0, v48_1, v48_2, v48_3] : List Sl) v49).l) ((sel ([v48_0, v48_1, v48_2, v48_3] : List Sl) v49).c))) 49 (i6 v49)) 48 (.agg ([(.slice v48_0.a v48_0.l v48_0.c), (.slice v48_1.a v48_1.l v48_1.c), (.slice v48_2.a v48_2.l v48_2.c), (.slice v48_3.a v48_3.l v48_3.c)] : List Value).toArray)) 10 (i6 s.1)) 8 (i6 v49)) 7 (.pointer (some ⟨b7, 0, none⟩))) 6 (.pointer (some ⟨b6, 0, none⟩))) 5 (.pointer (some ⟨b5, 0, none⟩))) 0 (.pointer p0))) (fun s => [(b7, .row ⟨[(i6 1), (i6 0), (i6 1), (i6 0)], 4, 49, true, true⟩), (b6, .row ⟨[(i6 v19), (i6 v19), (i6 v21), (i6 v17)], 4, 49, true, true⟩), (b5, .row ⟨[(i6 v17), (i6 v21), (i6 v15), (i6 v15)], 4, 49, true, true⟩)]) (fun X_1 hX_1 => ?_) hS (ok.sub (.cons_cons _ (.cons_cons _ (.cons_cons _ sl0)))) (lq rfl (lq rfl (lq rfl (lq rfl (lq rfl (lq rfl (lq rfl (lq rfl (lq rfl (lq rfl (lq rfl (lz _)))))))))))) (H.add_sub ok (.cons_cons _ (.cons_cons _ (.cons_cons _ sl0))))))); rintro ⟨v10_1, v58⟩ h_8 hS ok; replace hS : S44_l2 p0 v17 v19 v21 v48_0 v48_1 v48_2 v48_3 v49 X X_1 v10_1 v58 h_8 := hS; unfold S44_l2 at hS; refine EvC.seq (Xr [.look 0] (Xk rfl rfl (Lk.arith rfl rfl rfl rfl) fun _ => ?_)); refine R.nil (EvC.seq ?_)
      by_cases e18 : (decide (v58 < (((sel ([v48_0, v48_1, v48_2, v48_3] : List Sl) v49).l) : Int))) = true
      · rw [if_pos e18] at hS; refine EvC.condT rfl e18 (EvC.skip (EvC.seq (EvC.block (EvC.seq (Xr [.look 0, .look 1, .alc 2, .eff 3 []] ?_)))))
        obtain ⟨a60, e19, e20, e21, hS⟩ := hS
        refine Xk rfl rfl (Lk.ixAddr rfl Tryd.underlying144 T147 rfl e19 rfl e20 e21) fun _ => ?_
        obtain ⟨v61_0, v61_1, e22, hS⟩ := hS
        refine Xk rfl rfl (Look.loc ok (Lk.loadN rfl Tryd.underlying147 rfl T147 rfl e22)) fun _ => ?_; refine R.var (blk := .row ⟨[(i6 0), (i6 0)], 2, 147, true, true⟩) ok rfl rfl rfl (Ac.alloc rfl T147) rfl rfl fun b12 ok => ?_; refine R.effN rfl rfl rfl (Ef.storeLoc (i := 0) (vs := [(i6 v61_0), (i6 v61_1)]) (cs := [(i6 v61_0), (i6 v61_1)]) (l' := [(b12, .row ⟨[(i6 v61_0), (i6 v61_1)], 2, 147, true, true⟩), (b7, .row ⟨[(i6 1), (i6 0), (i6 1), (i6 0)], 4, 49, true, true⟩), (b6, .row ⟨[(i6 v19), (i6 v19), (i6 v21), (i6 v17)], 4, 49, true, true⟩), (b5, .row ⟨[(i6 v17), (i6 v21), (i6 v15), (i6 v15)], 4, 49, true, true⟩)]) ok rfl T147 rfl rfl rfl rfl rfl rfl rfl rfl rfl rfl fun ok => ⟨noChk, ?_⟩); refine R.nil (EvC.seq (Xr [.look 0, .eff 1 [], .look 2] (Xm rfl rfl rfl rfl fun _ => R.eff rfl rfl rfl (Eff.loc ok (Ef.call rfl CB74 rfl ((f74_ok hS).mono ?_)))))); rintro _ h_9 ⟨v63, rfl, hS⟩; refine fun ok => ⟨noChk, ?_⟩; refine Xa rfl rfl rfl rfl fun _ => ?_; refine R.nil (EvC.seq (EvC.draw [0, 1, 3, 7, 0, 16, 0, 64, 0, 63, 1023, 2047] [Item.look 0, Item.look 1, Item.look 2, Item.look 3, Item.look 4, Item.look 5, Item.look 6, Item.look 7, Item.look 8, Item.look 9, Item.look 10, Item.eff 11 []] MO (by kernel_rfl) ?_)); refine Xm rfl rfl rfl rfl fun _ => ?_
        obtain ⟨a65, e23, hS⟩ := hS
        refine Xk (v := (.pointer (some a65))) rfl rfl (Lk.nilChk rfl rfl e23) fun _ => ?_; refine Xk (v := (.pointer (some (Addr.add a65 4)))) rfl rfl (Lk.fldAddr rfl Tryd.underlying106 rfl rfl T41 rfl rfl rfl) fun _ => ?_
        obtain ⟨v67, e24, hS⟩ := hS
        refine Xk rfl rfl (Look.loc ok (Lk.load1 rfl Tryd.underlying41 rfl rfl e24)) fun _ => ?_; refine Xk (v := (.pointer (some ⟨b12, 0, none⟩))) rfl rfl (Lk.fldAddr rfl Tryd.underlying147 rfl rfl T3 rfl rfl rfl) fun _ => ?_; refine Xk rfl rfl (Lk.load1 (v := (i6 v61_0)) rfl Tryd.underlying3 rfl rfl (H.rd_loc ok (i := 0) rfl rfl)) fun _ => ?_; refine Xk (v := (.pointer (some ⟨b12, 1, none⟩))) rfl rfl (Lk.fldAddr rfl Tryd.underlying147 rfl rfl T3 rfl rfl rfl) fun _ => ?_; refine Xk rfl rfl (Lk.load1 (v := (i6 v61_1)) rfl Tryd.underlying3 rfl rfl (H.rd_loc ok (i := 0) rfl rfl)) fun _ => ?_; refine Xm rfl rfl rfl rfl fun _ => ?_
        obtain ⟨a73, e25, e26, e27, hS⟩ := hS
        refine Xk rfl rfl (Lk.ixAddr rfl Tryd.underlying41 T116 rfl e25 rfl e26 e27) fun _ => ?_
        obtain ⟨e28, e29, hS⟩ := hS
        refine Xk rfl rfl (Lk.indexAddrA rfl Tryd.underlying116 T3 rfl rfl e28 e29) fun _ => ?_
        obtain ⟨h_10, e30, hS⟩ := hS
        refine R.effN rfl rfl rfl (Eff.loc ok (Ef.store rfl T3 rfl rfl rfl rfl rfl e30 fun ok => ⟨noChk, ?_⟩)); refine R.nil (EvC.seq (EvC.draw [0, 1, 3, 7, 0, 0, 32, 96, 0, 511] [Item.look 0, Item.look 1, Item.look 2, Item.look 3, Item.look 4, Item.look 5, Item.look 6, Item.look 7, Item.look 8, Item.eff 9 []] MO (by kernel_rfl) ?_)); refine Xm rfl rfl rfl rfl fun _ => ?_
        obtain ⟨a76, e31, hS⟩ := hS
        refine Xk (v := (.pointer (some a76))) rfl rfl (Lk.nilChk rfl rfl e31) fun _ => ?_; refine Xk (v := (.pointer (some (Addr.add a76 2)))) rfl rfl (Lk.fldAddr rfl Tryd.underlying106 rfl rfl T103 rfl rfl rfl) fun _ => ?_
        obtain ⟨v78, e32, hS⟩ := hS
        refine Xk rfl rfl (Look.loc ok (Lk.load1 rfl Tryd.underlying103 rfl rfl e32)) fun _ => ?_; refine Xm rfl rfl rfl rfl fun _ => ?_; refine Xm rfl rfl rfl rfl fun _ => ?_
        obtain ⟨e33, e34, hS⟩ := hS
        refine Xk (v := (.pointer (some ⟨b7, 0 + Int.toNat v49, none⟩))) rfl rfl (Lk.ixLoc rfl Tryd.underlying49 T3 rfl rfl e33 e34) fun _ => ?_; refine Xk (v := (i6 (sel ([1, 0, 1, 0] : List Int) v49))) rfl rfl (Lk.load1 rfl Tryd.underlying3 rfl rfl (H.rd_loc ok (i := 1) rfl (sel_at (fun x => Value.int .i64 x) ([1, 0, 1, 0] : List Int) [] [] rfl (by have h1 := e33; have h2 := e34; simp only [List.length_cons, List.length_nil]; omega)))) fun _ => ?_; refine Xm rfl rfl rfl rfl fun _ => ?_; refine R.eff rfl rfl rfl (Eff.loc ok (Ef.call rfl CB75 rfl ((f75_ok hS).mono ?_))); rintro _ h_11 ⟨v84, rfl, hS⟩; refine fun ok => ⟨noChk, ?_⟩; refine R.nil (Xr [.look 0, .look 1] (Xm rfl rfl rfl rfl fun _ => Xa rfl rfl rfl rfl fun _ => R.nil (Xr [.look 0, .look 1] (Xk rfl rfl (Lk.arith rfl rfl rfl rfl) fun _ => Xm rfl rfl rfl rfl fun _ => R.nil ?_)))); exact hX_1 (v63, (IntKind.wrap .i64 (v58 + 1))) _ _ _ hS (ok.sub (.cons _ (.cons_cons _ (.cons_cons _ (.cons_cons _ sl0))))) (lq rfl (lq rfl (lq rfl (lq rfl (lq rfl (lq rfl (lq rfl (lq rfl (lq rfl (lq rfl (lq rfl (lz _)))))))))))) (H.add_sub ok (.cons _ (.cons_cons _ (.cons_cons _ (.cons_cons _ sl0)))))
      · rw [if_neg e18] at hS; replace e18 := eq_false_of_ne_true e18; refine EvC.condF rfl e18 (EvC.exit ?_); exact hIh_6 v10_1 _ _ _ (lq rfl (lq rfl (lq rfl (lq rfl (lq rfl (lq rfl (lq rfl (lq rfl (lz _))))))))) (ok.sub (.cons_cons _ (.cons_cons _ (.cons_cons _ sl0)))) (H.add_sub ok (.cons_cons _ (.cons_cons _ (.cons_cons _ sl0)))) hS
  · rw [if_neg e7] at hS; replace e7 := eq_false_of_ne_true e7; refine EvC.condF rfl e7 (EvC.exit ?_); exact ⟨.inl rfl, _, _, .nil, ok.le, rfl, hS⟩

theorem f45_ok {p0 : Option Addr} {p1 : Int} {h : H} {K : Int → H → Prop} (hS : S45 p0 p1 h K) : ACall Tryd.prog 45 ([(.pointer p0), (i6 p1)] : List Value).toArray h (fun r h' => ∃ r0 : Int, r = tup [(i6 r0)] ∧ K r0 h') := by
  refine ACall.enter (fn := Tryd.f45) Tryd.func45 rfl (Nat.le_of_ble_eq_true rfl) ?_; unfold S45 at hS; have ok := Lok.nil h; refine EvC.seq (Xr [.look 0] (Xa rfl rfl rfl rfl fun _ => ?_)); refine R.nil (EvC.seq (Xr [.look 0, .eff 1 [], .look 2] (Xm rfl rfl rfl rfl fun _ => R.eff rfl rfl rfl (Eff.loc ok (Ef.call rfl CB74 rfl ((f74_ok hS).mono ?_)))))); rintro _ h_1 ⟨v11, rfl, hS⟩; refine fun ok => ⟨noChk, ?_⟩; refine Xa rfl rfl rfl rfl fun _ => ?_; refine R.nil (EvC.join (σ := Unit) (fun s => E0) (fun s => []) (fun s h_2 => S45_j1 K h_2) ?_ (fun Ih_2 hIh_2 => ?_))
  · rintro ⟨⟩ h_2 ok hS; replace hS : S45_j1 K h_2 := hS; unfold S45_j1 at hS; refine EvC.seq (Xr [.look 0] (Xa rfl rfl rfl rfl fun _ => ?_)); refine R.nil (EvC.ret ?_); exact ⟨.inr rfl, _, _, (.cons (.tmp rfl) .nil), ok.le, _, rfl, hS⟩
  · refine EvC.seq (Xr [.look 0, .look 1, .look 2, .look 3, .look 4, .look 5, .look 6, .look 7] (Xm rfl rfl rfl rfl fun _ => ?_))
    obtain ⟨a13, e1, hS⟩ := hS
    refine Xk (v := (.pointer (some a13))) rfl rfl (Lk.nilChk rfl rfl e1) fun _ => ?_; refine Xk (v := (.pointer (some (Addr.add a13 3)))) rfl rfl (Lk.fldAddr rfl Tryd.underlying106 rfl rfl T104 rfl rfl rfl) fun _ => ?_
    obtain ⟨v15, e2, hS⟩ := hS
    refine Xk rfl rfl (Look.loc ok (Lk.load1 rfl Tryd.underlying104 rfl rfl e2)) fun _ => ?_; refine Xm rfl rfl rfl rfl fun _ => ?_
    obtain ⟨a17, e3, e4, e5, hS⟩ := hS
    refine Xk rfl rfl (Lk.ixAddr rfl Tryd.underlying104 T145 rfl e3 rfl e4 e5) fun _ => ?_
    obtain ⟨v18_0, v18_1, v18_2, v18_3, e6, hS⟩ := hS
    refine Xk rfl rfl (Look.loc ok (Lk.loadN rfl Tryd.underlying145 rfl T145 rfl e6)) fun _ => ?_; refine Xm rfl rfl rfl rfl fun _ => ?_; refine R.nil (EvC.block (EvC.loop (LoopC.lfp (σ := Int) (fun s => (Ep (Ep (Ep (Ep E0 19 (i6 s)) 18 (.agg ([(.slice v18_0.a v18_0.l v18_0.c), (.slice v18_1.a v18_1.l v18_1.c), (.slice v18_2.a v18_2.l v18_2.c), (.slice v18_3.a v18_3.l v18_3.c)] : List Value).toArray)) 5 (i6 v11)) 0 (.pointer p0))) (fun s => []) (fun X hX => ?_) hS (ok.sub sl0) (lq rfl (lq rfl (lq rfl (lq rfl (lz _))))) (H.add_sub ok sl0)))); intro v19 h_3 hS ok; replace hS : S45_l4 p0 K v11 v18_0 v18_1 v18_2 v18_3 X v19 h_3 := hS; unfold S45_l4 at hS; refine EvC.seq (Xr [.look 0] (Xk rfl rfl (Lk.arith rfl rfl rfl rfl) fun _ => ?_)); refine R.nil (EvC.seq ?_)
    by_cases e7 : (decide (v19 < 4)) = true
    · rw [if_pos e7] at hS; refine EvC.condT rfl e7 (EvC.skip (EvC.join (σ := Unit) (fun s => (Ep (Ep (Ep (Ep E0 19 (i6 v19)) 18 (.agg ([(.slice v18_0.a v18_0.l v18_0.c), (.slice v18_1.a v18_1.l v18_1.c), (.slice v18_2.a v18_2.l v18_2.c), (.slice v18_3.a v18_3.l v18_3.c)] : List Value).toArray)) 5 (i6 v11)) 0 (.pointer p0))) (fun s => []) (fun s h_4 => S45_j2 v19 X h_4) ?_ (fun Ih_4 hIh_4 => ?_)))
      · rintro ⟨⟩ h_4 ok hS; replace hS : S45_j2 v19 X h_4 := hS; unfold S45_j2 at hS; refine Xr [.look 0, .look 1] (Xk rfl rfl (Lk.arith rfl rfl rfl rfl) fun _ => ?_); refine Xm rfl rfl rfl rfl fun _ => ?_; refine R.nil ?_; exact hX (IntKind.wrap .i64 (v19 + 1)) _ _ _ hS (ok.sub sl0) (lq rfl (lq rfl (lq rfl (lq rfl (lz _))))) (H.add_sub ok sl0)
      · refine EvC.block (EvC.seq (Xr [.look 0, .look 1] ?_))
        obtain ⟨e8, e9, hS⟩ := hS
        refine Xk rfl rfl (Lk.elemSel Sl.v ([v18_0, v18_1, v18_2, v18_3] : List Sl) rfl Tryd.underlying145 Tryd.underlying144 rfl T144 rfl rfl e8 e9 rfl) fun _ => ?_; refine Xa rfl rfl rfl rfl fun _ => ?_; refine R.nil (EvC.seq (EvC.seq (Xr [.look 0, .look 1, .look 2] (Xm rfl rfl rfl rfl fun _ => Xk rfl rfl (Lk.len rfl Tryd.underlying144 rfl) fun _ => Xk rfl rfl (Lk.arith rfl rfl rfl rfl) fun _ => R.nil ?_))))
        by_cases e10 : (decide ((((sel ([v18_0, v18_1, v18_2, v18_3] : List Sl) v19).l) : Int) > 1)) = true
        · rw [if_pos e10] at hS; refine EvC.condT rfl e10 (EvC.seq (Xr [.look 0] (Xa rfl rfl rfl rfl fun _ => ?_))); refine R.nil (EvC.ret ?_); exact ⟨.inr rfl, _, _, (.cons (.tmp rfl) .nil), ok.le, _, rfl, hS⟩
        · rw [if_neg e10] at hS; replace e10 := eq_false_of_ne_true e10; refine EvC.condF rfl e10 (EvC.skip (EvC.seq (Xr [.look 0, .look 1, .look 2] (Xm rfl rfl rfl rfl fun _ => ?_)))); refine Xk rfl rfl (Lk.len rfl Tryd.underlying144 rfl) fun _ => ?_; refine Xm rfl rfl rfl rfl fun _ => ?_; refine R.nil (EvC.block (EvC.loop (LoopC.lfp (σ := Int) (fun s => (Ep (Ep (Ep (Ep (Ep (Ep (Ep E0 27 (i6 s)) 26 (i6 (((sel ([v18_0, v18_1, v18_2, v18_3] : List Sl) v19).l) : Int))) 25 (.slice ((sel ([v18_0, v18_1, v18_2, v18_3] : List Sl) v19).a) ((sel ([v18_0, v18_1, v18_2, v18_3] : List Sl) v19).l) ((sel ([v18_0, v18_1, v18_2, v18_3] : List Sl) v19).c))) 19 (i6 v19)) 18 (.agg ([(.slice v18_0.a v18_0.l v18_0.c), (.slice v18_1.a v18_1.l v18_1.c), (.slice v18_2.a v18_2.l v18_2.c), (.slice v18_3.a v18_3.l v18_3.c)] : List Value).toArray)) 5 (i6 v11)) 0 (.pointer p0))) (fun s => []) (fun X_1 hX_1 => ?_) hS (ok.sub sl0) (lq rfl (lq rfl (lq rfl (lq rfl (lq rfl (lq rfl (lq rfl (lz _)))))))) (H.add_sub ok sl0)))); intro v27 h_5 hS ok; replace hS : S45_l3 p0 v11 v18_0 v18_1 v18_2 v18_3 v19 X X_1 v27 h_5 := hS; unfold S45_l3 at hS; refine EvC.seq (Xr [.look 0] (Xk rfl rfl (Lk.arith rfl rfl rfl rfl) fun _ => ?_)); refine R.nil (EvC.seq ?_)
          by_cases e11 : (decide (v27 < (((sel ([v18_0, v18_1, v18_2, v18_3] : List Sl) v19).l) : Int))) = true
          · rw [if_pos e11] at hS; refine EvC.condT rfl e11 (EvC.skip (EvC.seq (EvC.block (EvC.seq (Xr [.look 0, .look 1, .alc 2, .eff 3 []] ?_)))))
            obtain ⟨a29, e12, e13, e14, hS⟩ := hS
            refine Xk rfl rfl (Lk.ixAddr rfl Tryd.underlying144 T147 rfl e12 rfl e13 e14) fun _ => ?_
            obtain ⟨v30_0, v30_1, e15, hS⟩ := hS
            refine Xk rfl rfl (Look.loc ok (Lk.loadN rfl Tryd.underlying147 rfl T147 rfl e15)) fun _ => ?_; refine R.var (blk := .row ⟨[(i6 0), (i6 0)], 2, 147, true, true⟩) ok rfl rfl rfl (Ac.alloc rfl T147) rfl rfl fun b9 ok => ?_; refine R.effN rfl rfl rfl (Ef.storeLoc (i := 0) (vs := [(i6 v30_0), (i6 v30_1)]) (cs := [(i6 v30_0), (i6 v30_1)]) (l' := [(b9, .row ⟨[(i6 v30_0), (i6 v30_1)], 2, 147, true, true⟩)]) ok rfl T147 rfl rfl rfl rfl rfl rfl rfl rfl rfl rfl fun ok => ⟨noChk, ?_⟩); refine R.nil (EvC.draw [0, 1, 3, 7, 0, 16, 0, 64, 0, 63, 1023, 2047] [Item.look 0, Item.look 1, Item.look 2, Item.look 3, Item.look 4, Item.look 5, Item.look 6, Item.look 7, Item.look 8, Item.look 9, Item.look 10, Item.eff 11 []] MO (by kernel_rfl) ?_); refine Xm rfl rfl rfl rfl fun _ => ?_
            obtain ⟨a32, e16, hS⟩ := hS
            refine Xk (v := (.pointer (some a32))) rfl rfl (Lk.nilChk rfl rfl e16) fun _ => ?_; refine Xk (v := (.pointer (some (Addr.add a32 4)))) rfl rfl (Lk.fldAddr rfl Tryd.underlying106 rfl rfl T41 rfl rfl rfl) fun _ => ?_
            obtain ⟨v34, e17, hS⟩ := hS
            refine Xk rfl rfl (Look.loc ok (Lk.load1 rfl Tryd.underlying41 rfl rfl e17)) fun _ => ?_; refine Xk (v := (.pointer (some ⟨b9, 0, none⟩))) rfl rfl (Lk.fldAddr rfl Tryd.underlying147 rfl rfl T3 rfl rfl rfl) fun _ => ?_; refine Xk rfl rfl (Lk.load1 (v := (i6 v30_0)) rfl Tryd.underlying3 rfl rfl (H.rd_loc ok (i := 0) rfl rfl)) fun _ => ?_; refine Xk (v := (.pointer (some ⟨b9, 1, none⟩))) rfl rfl (Lk.fldAddr rfl Tryd.underlying147 rfl rfl T3 rfl rfl rfl) fun _ => ?_; refine Xk rfl rfl (Lk.load1 (v := (i6 v30_1)) rfl Tryd.underlying3 rfl rfl (H.rd_loc ok (i := 0) rfl rfl)) fun _ => ?_; refine Xm rfl rfl rfl rfl fun _ => ?_
            obtain ⟨a40, e18, e19, e20, hS⟩ := hS
            refine Xk rfl rfl (Lk.ixAddr rfl Tryd.underlying41 T116 rfl e18 rfl e19 e20) fun _ => ?_
            obtain ⟨e21, e22, hS⟩ := hS
            refine Xk rfl rfl (Lk.indexAddrA rfl Tryd.underlying116 T3 rfl rfl e21 e22) fun _ => ?_
            obtain ⟨h_6, e23, hS⟩ := hS
            refine R.effN rfl rfl rfl (Eff.loc ok (Ef.store rfl T3 rfl rfl rfl rfl rfl e23 fun ok => ⟨noChk, ?_⟩)); refine R.nil (Xr [.look 0, .look 1] (Xk rfl rfl (Lk.arith rfl rfl rfl rfl) fun _ => Xm rfl rfl rfl rfl fun _ => R.nil ?_)); exact hX_1 (IntKind.wrap .i64 (v27 + 1)) _ _ _ hS (ok.sub (.cons _ sl0)) (lq rfl (lq rfl (lq rfl (lq rfl (lq rfl (lq rfl (lq rfl (lz _)))))))) (H.add_sub ok (.cons _ sl0))
          · rw [if_neg e11] at hS; replace e11 := eq_false_of_ne_true e11; refine EvC.condF rfl e11 (EvC.exit ?_); exact hIh_4 () _ _ _ (lq rfl (lq rfl (lq rfl (lq rfl (lz _))))) (ok.sub sl0) (H.add_sub ok sl0) hS
    · rw [if_neg e7] at hS; replace e7 := eq_false_of_ne_true e7; refine EvC.condF rfl e7 (EvC.exit ?_); exact hIh_2 () _ _ _ (lz _) (ok.sub sl0) (H.add_sub ok sl0) hS

theorem f46_ok {p0 : Option Addr} {p1 : Int} {h : H} {K : Int → H → Prop} (hS : S46 p0 p1 h K) : ACall Tryd.prog 46 ([(.pointer p0), (i6 p1)] : List Value).toArray h (fun r h' => ∃ r0 : Int, r = tup [(i6 r0)] ∧ K r0 h') := by
  refine ACall.enter (fn := Tryd.f46) Tryd.func46 rfl (Nat.le_of_ble_eq_true rfl) ?_; unfold S46 at hS; have ok := Lok.nil h; refine EvC.seq (Xr [.look 0] (Xa rfl rfl rfl rfl fun _ => ?_)); refine R.nil (EvC.seq (Xr [.look 0, .look 1, .look 2, .look 3, .look 4, .look 5, .look 6, .look 7, .alc 8, .eff 9 []] (Xm rfl rfl rfl rfl fun _ => ?_)))
  obtain ⟨a13, e1, hS⟩ := hS
  refine Xk (v := (.pointer (some a13))) rfl rfl (Lk.nilChk rfl rfl e1) fun _ => ?_; refine Xk (v := (.pointer (some a13))) rfl rfl (Lk.fldAddr rfl Tryd.underlying106 rfl rfl T29 rfl rfl rfl) fun _ => ?_; refine Xk (v := (.pointer (some (Addr.add a13 1)))) rfl rfl (Lk.fldAddr rfl Tryd.underlying29 rfl rfl T27 rfl rfl rfl) fun _ => ?_
  obtain ⟨v16, e2, hS⟩ := hS
  refine Xk rfl rfl (Look.loc ok (Lk.load1 rfl Tryd.underlying27 rfl rfl e2)) fun _ => ?_; refine Xm rfl rfl rfl rfl fun _ => ?_
  obtain ⟨a18, e3, e4, e5, hS⟩ := hS
  refine Xk rfl rfl (Lk.ixAddr rfl Tryd.underlying27 T54 rfl e3 rfl e4 e5) fun _ => ?_
  obtain ⟨v19_0, v19_1, v19_2, v19_3, e6, hS⟩ := hS
  refine Xk rfl rfl (Look.loc ok (Lk.loadN rfl Tryd.underlying54 rfl T54 rfl e6)) fun _ => ?_; refine R.var (blk := .row ⟨[(i6 0), (i6 0), (i6 0), (.string ⟨#[]⟩)], 4, 54, true, true⟩) ok rfl rfl rfl (Ac.alloc rfl T54) rfl rfl fun b5 ok => ?_; refine R.effN rfl rfl rfl (Ef.storeLoc (i := 0) (vs := [(i6 v19_0), (i6 v19_1), (i6 v19_2), (.string v19_3)]) (cs := [(i6 v19_0), (i6 v19_1), (i6 v19_2), (.string v19_3)]) (l' := [(b5, .row ⟨[(i6 v19_0), (i6 v19_1), (i6 v19_2), (.string v19_3)], 4, 54, true, true⟩)]) ok rfl T54 rfl rfl rfl rfl rfl rfl rfl rfl rfl rfl fun ok => ⟨noChk, ?_⟩); refine R.nil (EvC.seq (EvC.draw [0, 1, 3, 7, 0, 31, 63, 127, 0, 256, 255, 2047] [Item.look 0, Item.look 1, Item.look 2, Item.look 3, Item.look 4, Item.look 5, Item.look 6, Item.look 7, Item.look 8, Item.look 9, Item.look 10, Item.look 11] MO (by kernel_rfl) ?_)); refine Xm rfl rfl rfl rfl fun _ => ?_
  obtain ⟨a21, e7, hS⟩ := hS
  refine Xk (v := (.pointer (some a21))) rfl rfl (Lk.nilChk rfl rfl e7) fun _ => ?_; refine Xk (v := (.pointer (some (Addr.add a21 4)))) rfl rfl (Lk.fldAddr rfl Tryd.underlying106 rfl rfl T41 rfl rfl rfl) fun _ => ?_
  obtain ⟨v23, e8, hS⟩ := hS
  refine Xk rfl rfl (Look.loc ok (Lk.load1 rfl Tryd.underlying41 rfl rfl e8)) fun _ => ?_; refine Xm rfl rfl rfl rfl fun _ => ?_
  obtain ⟨a25, e9, e10, e11, hS⟩ := hS
  refine Xk rfl rfl (Lk.ixAddr rfl Tryd.underlying41 T116 rfl e9 rfl e10 e11) fun _ => ?_; refine R.look (v := (.pointer (some (Addr.add a25 (Int.toNat p1 * 2))))) rfl rfl rfl (Lk.ixConst rfl Tryd.underlying116 T3 rfl rfl rfl rfl) fun _ => ?_
  obtain ⟨v27, e12, hS⟩ := hS
  refine Xk rfl rfl (Look.loc ok (Lk.load1 rfl Tryd.underlying3 rfl rfl e12)) fun _ => ?_; refine Xk (v := (.pointer (some ⟨b5, 2, none⟩))) rfl rfl (Lk.fldAddr rfl Tryd.underlying54 rfl rfl T3 rfl rfl rfl) fun _ => ?_; refine Xk rfl rfl (Lk.load1 (v := (i6 v19_2)) rfl Tryd.underlying3 rfl rfl (H.rd_loc ok (i := 0) rfl rfl)) fun _ => ?_; refine Xa rfl rfl rfl rfl fun _ => ?_; refine Xa rfl rfl rfl rfl fun _ => ?_; refine R.nil (EvC.seq (Xr [.look 0, .alc 1, .look 2] (Xm rfl rfl rfl rfl fun _ => R.new (blk := (.row ⟨[(i6 v27)], 1, 3, true, true⟩)) ok rfl rfl rfl (Ac.buildSlice (cs := [(i6 v27)]) rfl Tryd.underlying32 T3 (by decide) (by decide) rfl rfl) rfl rfl fun b31 e13 ok => ?_))); replace hS := hS b31 _ e13 rfl; refine Xa rfl rfl rfl rfl fun _ => ?_; refine R.nil (EvC.join (σ := Int × Int × Sl) (fun s => (Ep (Ep (Ep (Ep (Ep E0 8 (.slice s.2.2.a s.2.2.l s.2.2.c)) 7 (i6 s.2.1)) 6 (i6 s.1)) 1 (i6 p1)) 0 (.pointer p0))) (fun s => []) (fun s h_2 => S46_j1 p0 p1 K s.1 s.2.1 s.2.2 h_2) ?_ (fun Ih_2 hIh_2 => ?_))
  · rintro ⟨v6, v7, v8⟩ h_2 ok hS; replace hS : S46_j1 p0 p1 K v6 v7 v8 h_2 := hS; unfold S46_j1 at hS; refine EvC.seq (EvC.seq (Xr [.look 0, .look 1, .look 2, .look 3, .look 4, .look 5, .look 6, .look 7, .look 8, .look 9] (Xm rfl rfl rfl rfl fun _ => ?_))); refine Xm rfl rfl rfl rfl fun _ => ?_
    obtain ⟨a59, e14, hS⟩ := hS
    refine Xk (v := (.pointer (some a59))) rfl rfl (Lk.nilChk rfl rfl e14) fun _ => ?_; refine Xk (v := (.pointer (some (Addr.add a59 4)))) rfl rfl (Lk.fldAddr rfl Tryd.underlying106 rfl rfl T41 rfl rfl rfl) fun _ => ?_
    obtain ⟨v61, e15, hS⟩ := hS
    refine Xk rfl rfl (Look.loc ok (Lk.load1 rfl Tryd.underlying41 rfl rfl e15)) fun _ => ?_; refine Xm rfl rfl rfl rfl fun _ => ?_
    obtain ⟨a63, e16, e17, e18, hS⟩ := hS
    refine Xk rfl rfl (Lk.ixAddr rfl Tryd.underlying41 T116 rfl e16 rfl e17 e18) fun _ => ?_; refine R.look (v := (.pointer (some (Addr.add (Addr.add a63 (Int.toNat p1 * 2)) 1)))) rfl rfl rfl (Lk.ixConst rfl Tryd.underlying116 T3 rfl rfl rfl rfl) fun _ => ?_
    obtain ⟨v65, e19, hS⟩ := hS
    refine Xk rfl rfl (Look.loc ok (Lk.load1 rfl Tryd.underlying3 rfl rfl e19)) fun _ => ?_; refine Xk rfl rfl (Lk.arith rfl rfl rfl rfl) fun _ => ?_; refine R.nil ?_
    by_cases e20 : (v6 == v65) = true
    · rw [if_pos e20] at hS; refine EvC.condT rfl e20 (EvC.seq (Xr [.look 0] (Xa rfl rfl rfl rfl fun _ => ?_))); refine R.nil (EvC.ret ?_); exact ⟨.inr rfl, _, _, (.cons (.tmp rfl) .nil), ok.le, _, rfl, hS⟩
    · rw [if_neg e20] at hS; replace e20 := eq_false_of_ne_true e20; refine EvC.condF rfl e20 (EvC.skip (EvC.seq (EvC.draw [0, 1, 3, 7, 0, 0, 0, 64, 192, 448, 0, 1984, 4032, 8128, 0, 32767] [Item.look 0, Item.look 1, Item.look 2, Item.look 3, Item.look 4, Item.look 5, Item.look 6, Item.look 7, Item.look 8, Item.look 9, Item.look 10, Item.look 11, Item.look 12, Item.look 13, Item.look 14, Item.eff 15 []] MO (by kernel_rfl) ?_))); refine Xm rfl rfl rfl rfl fun _ => ?_
      obtain ⟨a68, e21, hS⟩ := hS
      refine Xk (v := (.pointer (some a68))) rfl rfl (Lk.nilChk rfl rfl e21) fun _ => ?_; refine Xk (v := (.pointer (some (Addr.add a68 2)))) rfl rfl (Lk.fldAddr rfl Tryd.underlying106 rfl rfl T103 rfl rfl rfl) fun _ => ?_
      obtain ⟨v70, e22, hS⟩ := hS
      refine Xk rfl rfl (Look.loc ok (Lk.load1 rfl Tryd.underlying103 rfl rfl e22)) fun _ => ?_; refine Xm rfl rfl rfl rfl fun _ => ?_; refine Xm rfl rfl rfl rfl fun _ => ?_; refine Xm rfl rfl rfl rfl fun _ => ?_
      obtain ⟨a74, e23, hS⟩ := hS
      refine Xk (v := (.pointer (some a74))) rfl rfl (Lk.nilChk rfl rfl e23) fun _ => ?_; refine Xk (v := (.pointer (some (Addr.add a74 4)))) rfl rfl (Lk.fldAddr rfl Tryd.underlying106 rfl rfl T41 rfl rfl rfl) fun _ => ?_
      obtain ⟨v76, e24, hS⟩ := hS
      refine Xk rfl rfl (Look.loc ok (Lk.load1 rfl Tryd.underlying41 rfl rfl e24)) fun _ => ?_; refine Xm rfl rfl rfl rfl fun _ => ?_
      obtain ⟨a78, e25, e26, e27, hS⟩ := hS
      refine Xk rfl rfl (Lk.ixAddr rfl Tryd.underlying41 T116 rfl e25 rfl e26 e27) fun _ => ?_; refine R.look (v := (.pointer (some (Addr.add (Addr.add a78 (Int.toNat p1 * 2)) 1)))) rfl rfl rfl (Lk.ixConst rfl Tryd.underlying116 T3 rfl rfl rfl rfl) fun _ => ?_
      obtain ⟨v80, e28, hS⟩ := hS
      refine Xk rfl rfl (Look.loc ok (Lk.load1 rfl Tryd.underlying3 rfl rfl e28)) fun _ => ?_; refine Xm rfl rfl rfl rfl fun _ => ?_; refine R.eff rfl rfl rfl (Eff.loc ok (Ef.call rfl CB75 rfl ((f75_ok hS).mono ?_))); rintro _ h_3 ⟨v82, rfl, hS⟩; refine fun ok => ⟨noChk, ?_⟩; refine R.nil (EvC.seq (EvC.draw [0, 0, 2, 6, 14, 30, 0, 0, 128, 384, 896, 0, 3968, 8064, 16256, 32640, 65472, 131008, 262142, 524287, 1048575, 2097151, 4194303] [Item.look 0, Item.look 1, Item.look 2, Item.look 3, Item.look 4, Item.look 5, Item.look 6, Item.look 7, Item.look 8, Item.look 9, Item.look 10, Item.look 11, Item.look 12, Item.look 13, Item.look 14, Item.alc 15, Item.eff 16 [0, 1, 2, 3, 4, 5], Item.alc 17, Item.eff 18 [0], Item.look 19, Item.look 20, Item.look 21, Item.eff 22 []] MO (by kernel_rfl) ?_)); refine R.lookL rfl rfl rfl (Lk.move rfl rfl) ?_; refine R.lookL rfl rfl rfl (Lk.move rfl rfl) ?_
      obtain ⟨a85, e29, hS⟩ := hS
      refine R.lookL (v := (.pointer (some a85))) rfl rfl rfl (Lk.nilChk rfl rfl e29) ?_; refine R.lookL (v := (.pointer (some (Addr.add a85 5)))) rfl rfl rfl (Lk.fldAddr rfl Tryd.underlying106 rfl rfl T35 rfl rfl rfl) ?_; refine R.lookL (v := (.pointer (some (Addr.add (Addr.add a85 5) 2)))) rfl rfl rfl (Lk.fldAddr rfl Tryd.underlying35 rfl rfl T33 rfl rfl rfl) ?_
      obtain ⟨v88, e30, hS⟩ := hS
      refine R.lookL rfl rfl rfl (Look.loc ok (Lk.load1 rfl Tryd.underlying33 rfl rfl e30)) ?_; refine R.lookL rfl rfl rfl (Lk.move rfl rfl) ?_; refine R.lookL rfl rfl rfl (Lk.move rfl rfl) ?_
      obtain ⟨a91, e31, hS⟩ := hS
      refine R.lookL (v := (.pointer (some a91))) rfl rfl rfl (Lk.nilChk rfl rfl e31) ?_; refine R.lookL (v := (.pointer (some (Addr.add a91 4)))) rfl rfl rfl (Lk.fldAddr rfl Tryd.underlying106 rfl rfl T41 rfl rfl rfl) ?_
      obtain ⟨v93, e32, hS⟩ := hS
      refine R.lookL rfl rfl rfl (Look.loc ok (Lk.load1 rfl Tryd.underlying41 rfl rfl e32)) ?_; refine R.lookL rfl rfl rfl (Lk.move rfl rfl) ?_
      obtain ⟨a95, e33, e34, e35, hS⟩ := hS
      refine R.lookL rfl rfl rfl (Lk.ixAddr rfl Tryd.underlying41 T116 rfl e33 rfl e34 e35) ?_; refine R.lookL (v := (.pointer (some (Addr.add (Addr.add a95 (Int.toNat p1 * 2)) 1)))) rfl rfl rfl (Lk.ixConst rfl Tryd.underlying116 T3 rfl rfl rfl rfl) ?_
      obtain ⟨v97, e36, hS⟩ := hS
      refine R.lookL rfl rfl rfl (Look.loc ok (Lk.load1 rfl Tryd.underlying3 rfl rfl e36)) ?_; refine R.appL (cs := [(i6 v97)]) ok rfl rfl rfl rfl rfl rfl rfl rfl Tryd.underlying32 T3 rfl (by decide) (by decide) rfl rfl rfl rfl rfl (fun _ => rfl) hS ?_; intro bb98 v99 h_4 hS ok
      obtain ⟨e37, hS⟩ := hS
      refine ⟨(List.forall_mem_cons.2 ⟨(XP (XP (XP (XP (XP (XP (XP (XP (XP (XP (XP (XP (XP (XP (Log.at_ (LookG.of rfl (Lk.move rfl rfl))))))))))))))))), (List.forall_mem_cons.2 ⟨(XP (XP (XP (XP (XP (XP (XP (XP (XP (XP (XP (XP (XP (Log.at_ (LookG.of rfl (Lk.move rfl rfl)))))))))))))))), (List.forall_mem_cons.2 ⟨(XP (XP (XP (XP (XP (XP (XP (XP (XP (XP (XP (XP (Log.at_ (LookG.of rfl (Lk.nilChk rfl rfl e29))))))))))))))), (List.forall_mem_cons.2 ⟨(XP (XP (XP (XP (XP (XP (XP (XP (XP (XP (XP (Log.at_ (LookG.of rfl (Lk.fldAddr rfl Tryd.underlying106 rfl rfl T35 rfl rfl rfl)))))))))))))), (List.forall_mem_cons.2 ⟨(XP (XP (XP (XP (XP (XP (XP (XP (XP (XP (Log.at_ (LookG.of rfl (Lk.fldAddr rfl Tryd.underlying35 rfl rfl T33 rfl rfl rfl))))))))))))), (List.forall_mem_cons.2 ⟨(XP (XP (XP (XP (XP (XP (XP (XP (XP (Log.at_ (LookG.of rfl (Look.loc ok (Lk.load1 rfl Tryd.underlying33 rfl rfl e37))))))))))))), noChk⟩)⟩)⟩)⟩)⟩)⟩), ?_⟩; refine R.appL (cs := [(.slice v99.a v99.l v99.c)]) ok rfl rfl rfl rfl rfl rfl rfl rfl Tryd.underlying33 T32 rfl (by decide) (by decide) rfl rfl rfl rfl rfl (fun _ => rfl) hS ?_; intro bb100 v101 h_5 hS ok; refine ⟨(List.forall_mem_cons.2 ⟨(XP (XP (XP (XP (XP (XP (XP (XP (XP (XP (XP (XP (XP (XP (Log.at_ (LookG.of rfl (Lk.move rfl rfl))))))))))))))))), noChk⟩), ?_⟩
      obtain ⟨a102, e38, hS⟩ := hS
      refine R.lookL (v := (.pointer (some a102))) rfl rfl rfl (Lk.nilChk rfl rfl e38) ?_; refine R.lookL (v := (.pointer (some (Addr.add a102 5)))) rfl rfl rfl (Lk.fldAddr rfl Tryd.underlying106 rfl rfl T35 rfl rfl rfl) ?_; refine R.lookL (v := (.pointer (some (Addr.add (Addr.add a102 5) 2)))) rfl rfl rfl (Lk.fldAddr rfl Tryd.underlying35 rfl rfl T33 rfl rfl rfl) ?_
      obtain ⟨h_6, e39, hS⟩ := hS
      refine R.effN rfl rfl rfl (Eff.loc ok (Ef.store rfl T33 rfl rfl rfl rfl rfl e39 fun ok => ⟨noChk, ?_⟩)); refine R.nil (EvC.seq (Xr [.look 0] (Xa rfl rfl rfl rfl fun _ => R.nil (EvC.ret ?_)))); exact ⟨.inr rfl, _, _, (.cons (.tmp rfl) .nil), ok.le, _, rfl, hS⟩
  · refine EvC.seq (Xr [.look 0, .look 1, .alc 2] (Xk (v := (.pointer (some ⟨b5, 3, none⟩))) rfl rfl (Lk.fldAddr rfl Tryd.underlying54 rfl rfl T9 rfl rfl rfl) fun _ => ?_)); refine Xk rfl rfl (Lk.load1 (v := (.string v19_3)) rfl Tryd.underlying9 rfl rfl (H.rd_loc ok (i := 0) rfl rfl)) fun _ => ?_; refine R.var (blk := .obj (.stringIter v19_3 0)) ok rfl rfl rfl (Ac.range rfl Tryd.underlying9 rfl) trivial rfl fun b34 ok => ?_; refine R.nil (EvC.block (EvC.loop (LoopC.lfp (σ := Int × Int × Sl × Nat) (fun s => (Ep (Ep (Ep (Ep (Ep (Ep E0 34 (.pointer (some ⟨b34, 0, none⟩))) 8 (.slice s.2.2.1.a s.2.2.1.l s.2.2.1.c)) 7 (i6 s.2.1)) 6 (i6 s.1)) 1 (i6 p1)) 0 (.pointer p0))) (fun s => [(b34, .obj (.stringIter v19_3 s.2.2.2))]) (fun X hX => ?_) hS (ok.sub (.cons_cons _ (.cons _ sl0))) (lq rfl (lq rfl (lq rfl (lq rfl (lq rfl (lq rfl (lz _))))))) (H.add_sub ok (.cons_cons _ (.cons _ sl0)))))); rintro ⟨v6_1, v7_1, v8_1, c34_1⟩ h_7 hS ok; replace hS : S46_l2 p0 p1 K v19_3 X v6_1 v7_1 v8_1 c34_1 h_7 := hS; unfold S46_l2 at hS; refine EvC.seq (Xr [.eff 0 [], .look 1] ?_)
    by_cases e40 : c34_1 < ByteArray.size v19_3
    · rw [if_pos e40] at hS; refine R.eff rfl rfl rfl (Ef.nextLoc (i := 0) (l' := [(b34, .obj (.stringIter v19_3 (c34_1 + (Utf8.decode v19_3 c34_1).2)))]) ok rfl rfl rfl e40 rfl fun ok => ⟨noChk, ?_⟩); refine Xk rfl rfl (Lk.extract rfl rfl rfl) fun _ => ?_; refine R.nil (EvC.seq (EvC.condT rfl rfl (EvC.skip (EvC.block (EvC.seq (Xr [.look 0, .look 1] (Xk rfl rfl (Lk.extract rfl rfl rfl) fun _ => Xa rfl rfl rfl rfl fun _ => R.nil (EvC.seq (Xr [.look 0, .eff 1 [], .look 2] (Xm rfl rfl rfl rfl fun _ => ?_)))))))))); refine R.eff rfl rfl rfl (Eff.loc ok (Ef.call rfl CB74 rfl ((f74_ok hS).mono ?_))); rintro _ h_8 ⟨v39, rfl, hS⟩; refine fun ok => ⟨noChk, ?_⟩; refine Xa rfl rfl rfl rfl fun _ => ?_; refine R.nil (EvC.seq (Xr [.look 0, .look 1, .look 2, .look 3, .look 4, .look 5, .look 6, .look 7, .eff 8 []] (Xm rfl rfl rfl rfl fun _ => ?_)))
      obtain ⟨a41, e41, hS⟩ := hS
      refine Xk (v := (.pointer (some a41))) rfl rfl (Lk.nilChk rfl rfl e41) fun _ => ?_; refine Xk (v := (.pointer (some (Addr.add a41 2)))) rfl rfl (Lk.fldAddr rfl Tryd.underlying106 rfl rfl T103 rfl rfl rfl) fun _ => ?_
      obtain ⟨v43, e42, hS⟩ := hS
      refine Xk rfl rfl (Look.loc ok (Lk.load1 rfl Tryd.underlying103 rfl rfl e42)) fun _ => ?_; refine Xm rfl rfl rfl rfl fun _ => ?_; refine Xm rfl rfl rfl rfl fun _ => ?_; refine Xm rfl rfl rfl rfl fun _ => ?_; refine Xm rfl rfl rfl rfl fun _ => ?_; refine R.eff rfl rfl rfl (Eff.loc ok (Ef.call rfl CB75 rfl ((f75_ok hS).mono ?_))); rintro _ h_9 ⟨v48, rfl, hS⟩; refine fun ok => ⟨noChk, ?_⟩; refine R.nil (EvC.seq (Xr [.look 0, .look 1, .look 2, .eff 3 [], .look 4, .look 5] (Xm rfl rfl rfl rfl fun _ => Xm rfl rfl rfl rfl fun _ => Xm rfl rfl rfl rfl fun _ => R.eff rfl rfl rfl (Eff.loc ok (Ef.call rfl CB76 rfl ((f76_ok hS).mono ?_)))))); rintro _ h_10 ⟨v52, rfl, hS⟩; refine fun ok => ⟨noChk, ?_⟩; refine Xa rfl rfl rfl rfl fun _ => ?_; refine Xa rfl rfl rfl rfl fun _ => ?_; refine R.nil (Xr [.look 0, .look 1, .alc 2, .eff 3 [], .look 4] (Xm rfl rfl rfl rfl fun _ => Xm rfl rfl rfl rfl fun _ => R.appL (cs := [(i6 v39)]) ok rfl rfl rfl rfl rfl rfl rfl rfl Tryd.underlying32 T3 rfl (by decide) (by decide) rfl rfl rfl rfl rfl (fun _ => rfl) hS ?_)); intro bb55 v56 h_11 hS ok; refine ⟨noChk, ?_⟩; refine Xa rfl rfl rfl rfl fun _ => ?_; refine R.nil ?_; exact hX (v39, v52, v56, (c34_1 + (Utf8.decode v19_3 c34_1).2)) _ _ _ hS (ok.sub (.cons_cons _ sl0)) (lq rfl (lq rfl (lq rfl (lq rfl (lq rfl (lq rfl (lz _))))))) (H.add_sub ok (.cons_cons _ sl0))
    · rw [if_neg e40] at hS; refine R.eff rfl rfl rfl (Ef.nextEnd (i := 0) ok rfl rfl rfl e40 ⟨noChk, ?_⟩); refine Xk rfl rfl (Lk.extract rfl rfl rfl) fun _ => ?_; refine R.nil (EvC.seq (EvC.condF rfl rfl (EvC.exit ?_))); exact hIh_2 (v6_1, v7_1, v8_1) _ _ _ (lq rfl (lq rfl (lq rfl (lq rfl (lq rfl (lz _)))))) (ok.sub (.cons _ sl0)) (H.add_sub ok (.cons _ sl0)) hS

theorem f77_ok {p0 : Sl} {h : H} {K : Sl → H → Prop} (hS : S77 p0 h K) : ACall Tryd.prog 77 ([(.slice p0.a p0.l p0.c)] : List Value).toArray h (fun r h' => ∃ r0 : Sl, r = tup [(.slice r0.a r0.l r0.c)] ∧ K r0 h') := by
  refine ACall.enter (fn := Tryd.f77) Tryd.func77 rfl (Nat.le_of_ble_eq_true rfl) ?_; unfold S77 at hS; have ok := Lok.nil h; refine EvC.seq (Xr [.look 0] (Xa rfl rfl rfl rfl fun _ => ?_)); refine R.nil (EvC.seq (EvC.seq (Xr [.look 0, .look 1] (Xm rfl rfl rfl rfl fun _ => Xk rfl rfl (Lk.sliceNil rfl Tryd.underlying31 rfl) fun _ => R.nil ?_))))
  by_cases e1 : (Option.isNone p0.a) = true
  · rw [if_pos e1] at hS; refine EvC.condT rfl e1 (EvC.seq (Xr [.look 0] (Xa rfl rfl rfl rfl fun _ => ?_))); refine R.nil (EvC.ret ?_); exact ⟨.inr rfl, _, _, (.cons (.tmp rfl) .nil), ok.le, _, rfl, hS⟩
  · rw [if_neg e1] at hS; replace e1 := eq_false_of_ne_true e1; refine EvC.condF rfl e1 (EvC.skip (EvC.seq (Xr [.alc 0, .look 1, .eff 2 [], .look 3] (R.new (blk := (.row ⟨[], 0, 51, true, true⟩)) ok rfl rfl rfl (Ac.buildSlice0 rfl Tryd.underlying31 T51) rfl rfl fun b5 e2 ok => ?_)))); replace hS := hS b5 _ e2 rfl; refine Xm rfl rfl rfl rfl fun _ => ?_
    obtain ⟨e3, hS⟩ := hS
    refine R.appS ok rfl rfl rfl rfl Tryd.underlying31 T51 rfl rfl rfl rfl e3 hS ?_; intro v7 h_2 hS ok; refine ⟨noChk, ?_⟩; refine Xa rfl rfl rfl rfl fun _ => ?_; refine R.nil (EvC.ret ?_); exact ⟨.inr rfl, _, _, (.cons (.tmp rfl) .nil), ok.le, _, rfl, hS⟩

theorem f47_ok {p0 : Option Addr} {h : H} {K : Sl → H → Prop} (hS : S47 p0 h K) : ACall Tryd.prog 47 ([(.pointer p0)] : List Value).toArray h (fun r h' => ∃ r0 : Sl, r = tup [(.slice r0.a r0.l r0.c)] ∧ K r0 h') := by
  refine ACall.enter (fn := Tryd.f47) Tryd.func47 rfl (Nat.le_of_ble_eq_true rfl) ?_; unfold S47 at hS; have ok := Lok.nil h; refine EvC.seq (Xr [.look 0] (Xa rfl rfl rfl rfl fun _ => ?_)); refine R.nil (EvC.seq (EvC.seq (Xr [.look 0, .look 1] (Xm rfl rfl rfl rfl fun _ => Xk rfl rfl (Lk.ptrNil rfl Tryd.underlying103 rfl) fun _ => R.nil ?_))))
  by_cases e1 : (Option.isNone p0) = true
  · rw [if_pos e1] at hS; refine EvC.condT rfl e1 (EvC.seq (Xr [.look 0] (Xa rfl rfl rfl rfl fun _ => ?_))); refine R.nil (EvC.ret ?_); exact ⟨.inr rfl, _, _, (.cons (.tmp rfl) .nil), ok.le, _, rfl, hS⟩
  · rw [if_neg e1] at hS; replace e1 := eq_false_of_ne_true e1; refine EvC.condF rfl e1 (EvC.skip (EvC.seq (Xr [.look 0, .look 1, .look 2, .look 3, .eff 4 [], .look 5] (Xm rfl rfl rfl rfl fun _ => ?_))))
    obtain ⟨a6, e2, hS⟩ := hS
    refine Xk (v := (.pointer (some a6))) rfl rfl (Lk.nilChk rfl rfl e2) fun _ => ?_; refine Xk (v := (.pointer (some a6))) rfl rfl (Lk.fldAddr rfl Tryd.underlying151 rfl rfl T31 rfl rfl rfl) fun _ => ?_
    obtain ⟨v8, e3, hS⟩ := hS
    refine Xk rfl rfl (Look.loc ok (Lk.load1 rfl Tryd.underlying31 rfl rfl e3)) fun _ => ?_; refine R.eff rfl rfl rfl (Eff.loc ok (Ef.call rfl CB77 rfl ((f77_ok hS).mono ?_))); rintro _ h_1 ⟨v9, rfl, hS⟩; refine fun ok => ⟨noChk, ?_⟩; refine Xa rfl rfl rfl rfl fun _ => ?_; refine R.nil (EvC.ret ?_); exact ⟨.inr rfl, _, _, (.cons (.tmp rfl) .nil), ok.le, _, rfl, hS⟩

theorem f12_ok {p0_0 : Sl} {p0_1 : Sl} {h : H} {K : Sl → Sl → Sl → Int → H → Prop} (hS : S12 p0_0 p0_1 h K) : ACall Tryd.prog 12 ([(.agg ([(.slice p0_0.a p0_0.l p0_0.c), (.slice p0_1.a p0_1.l p0_1.c)] : List Value).toArray)] : List Value).toArray h (fun r h' => ∃ r0_0 : Sl, ∃ r0_1 : Sl, ∃ r0_2 : Sl, ∃ r1 : Int, r = tup [(.agg ([(.slice r0_0.a r0_0.l r0_0.c), (.slice r0_1.a r0_1.l r0_1.c), (.slice r0_2.a r0_2.l r0_2.c)] : List Value).toArray), (i6 r1)] ∧ K r0_0 r0_1 r0_2 r1 h') := by
  refine ACall.enter (fn := Tryd.f12) Tryd.func12 rfl (Nat.le_of_ble_eq_true rfl) ?_; unfold S12 at hS; have ok := Lok.nil h; refine EvC.seq (Xr [.alc 0, .alc 1, .look 2] (R.var (blk := .row ⟨[(.slice p0_0.a p0_0.l p0_0.c), (.slice p0_1.a p0_1.l p0_1.c)], 2, 29, true, true⟩) ok rfl rfl rfl (Ac.box rfl rfl) rfl rfl fun b1 ok => ?_)); refine R.var (blk := .row ⟨[(.slice none 0 0), (.slice none 0 0), (.slice none 0 0)], 3, 35, true, true⟩) ok rfl rfl rfl (Ac.alloc rfl T35) rfl rfl fun b2 ok => ?_; refine Xa rfl rfl rfl rfl fun _ => ?_; refine R.nil (EvC.seq (EvC.seq (Xr [.look 0, .eff 1 [], .look 2] (Xk rfl rfl (Lk.loadN (vs := [(.slice p0_0.a p0_0.l p0_0.c), (.slice p0_1.a p0_1.l p0_1.c)]) rfl Tryd.underlying29 rfl T29 rfl (H.rdn_loc ok (i := 1) rfl rfl rfl)) fun _ => R.eff rfl rfl rfl (Eff.loc ok (Ef.call rfl CB39 rfl ((f39_ok hS).mono ?_))))))); rintro _ h_1 ⟨v12, rfl, hS⟩; refine fun ok => ⟨noChk, ?_⟩; refine Xa rfl rfl rfl rfl fun _ => ?_; refine R.nil (EvC.seq (Xr [.look 0, .look 1] (Xm rfl rfl rfl rfl fun _ => Xk rfl rfl (Lk.arith rfl rfl rfl rfl) fun _ => R.nil ?_)))
  by_cases e1 : (v12 != 0) = true
  · rw [if_pos e1] at hS; refine EvC.condT rfl e1 (EvC.seq (Xr [.look 0, .look 1, .eff 2 [], .look 3] (Xk rfl rfl (Lk.build (cs := [(.slice none 0 0), (.slice none 0 0), (.slice none 0 0)]) (pl := [(0, 1), (1, 1), (2, 1)]) rfl Tryd.underlying35 T35 (PlacesL.places (.cons T31 (.cons T32 (.cons T33 PlacesL.nil)))) rfl rfl) fun _ => ?_))); refine Xm rfl rfl rfl rfl fun _ => ?_; refine R.effN rfl rfl rfl (Ef.storeLoc (i := 0) (vs := [(.slice none 0 0), (.slice none 0 0), (.slice none 0 0)]) (cs := [(.slice none 0 0), (.slice none 0 0), (.slice none 0 0)]) (l' := [(b2, .row ⟨[(.slice none 0 0), (.slice none 0 0), (.slice none 0 0)], 3, 35, true, true⟩), (b1, .row ⟨[(.slice p0_0.a p0_0.l p0_0.c), (.slice p0_1.a p0_1.l p0_1.c)], 2, 29, true, true⟩)]) ok rfl T35 rfl rfl rfl rfl rfl rfl rfl rfl rfl rfl fun ok => ⟨noChk, ?_⟩); refine Xa rfl rfl rfl rfl fun _ => ?_; refine R.nil (EvC.ret ?_); exact ⟨.inr rfl, _, _, (.cons (.cells rfl (fun w => Und.agg Tryd.underlying35 w) (fun w => T35.size_ w) (H.rdn_loc ok (i := 0) rfl rfl rfl)) (.cons (.tmp rfl) .nil)), ok.le, _, _, _, _, rfl, hS⟩
  · rw [if_neg e1] at hS; replace e1 := eq_false_of_ne_true e1; refine EvC.condF rfl e1 (EvC.skip (EvC.seq (EvC.draw [0, 0, 2, 6, 14, 31, 63, 127] [Item.look 0, Item.look 1, Item.look 2, Item.look 3, Item.alc 4, Item.look 5, Item.alc 6, Item.look 7] MO (by kernel_rfl) ?_))); refine Xk rfl rfl (Lk.loadN (vs := [(.slice p0_0.a p0_0.l p0_0.c), (.slice p0_1.a p0_1.l p0_1.c)]) rfl Tryd.underlying29 rfl T29 rfl (H.rdn_loc ok (i := 1) rfl rfl rfl)) fun _ => ?_; refine Xk (v := (.pointer (some ⟨b1, 1, none⟩))) rfl rfl (Lk.fldAddr rfl Tryd.underlying29 rfl rfl T27 rfl rfl rfl) fun _ => ?_; refine Xk rfl rfl (Lk.load1 (v := (.slice p0_1.a p0_1.l p0_1.c)) rfl Tryd.underlying27 rfl rfl (H.rd_loc ok (i := 1) rfl rfl)) fun _ => ?_; refine Xk rfl rfl (Lk.len rfl Tryd.underlying27 rfl) fun _ => ?_
    obtain ⟨e2, e3, e4, e5, hS⟩ := hS
    refine R.new (blk := (.row ⟨zeros (.agg #[(i6 0), (i6 0)]) (Int.toNat (p0_1.l : Int) * 2), (zeros (.agg #[(i6 0), (i6 0)]) (Int.toNat (p0_1.l : Int) * 2)).length, 116, true, true⟩)) ok rfl rfl rfl (Ac.makeSlice rfl Tryd.underlying41 T116 rfl rfl e2 e3 e4 e5) rfl rfl fun b21 e6 ok => ?_; replace hS := hS b21 _ e6 rfl; refine Xk rfl rfl (Lk.build (cs := [(.slice p0_0.a p0_0.l p0_0.c), (.slice p0_1.a p0_1.l p0_1.c), (.pointer none), (.slice none 0 0), (.slice (some ⟨b21, 0, none⟩) (Int.toNat (p0_1.l : Int)) (Int.toNat (p0_1.l : Int))), (.slice none 0 0), (.slice none 0 0), (.slice none 0 0)]) (pl := [(0, 2), (2, 1), (3, 1), (4, 1), (5, 3)]) rfl Tryd.underlying106 T106 (PlacesL.places (.cons T29 (.cons T103 (.cons T104 (.cons T41 (.cons T35 PlacesL.nil)))))) rfl rfl) fun _ => ?_; refine R.new (blk := (.row ⟨[(.slice p0_0.a p0_0.l p0_0.c), (.slice p0_1.a p0_1.l p0_1.c), (.pointer none), (.slice none 0 0), (.slice (some ⟨b21, 0, none⟩) (Int.toNat (p0_1.l : Int)) (Int.toNat (p0_1.l : Int))), (.slice none 0 0), (.slice none 0 0), (.slice none 0 0)], 8, 106, true, true⟩)) ok rfl rfl rfl (Ac.box rfl rfl) rfl rfl fun b23 e7 ok => ?_; replace hS := hS b23 _ e7 rfl; refine Xa rfl rfl rfl rfl fun _ => ?_; refine R.nil (EvC.seq (Xr [.look 0, .eff 1 []] (Xm rfl rfl rfl rfl fun _ => R.eff rfl rfl rfl (Eff.loc ok (Ef.call rfl CB40 rfl ((f40_ok hS).mono ?_)))))); rintro _ h_4 ⟨rfl, hS⟩; refine fun ok => ⟨noChk, ?_⟩; refine R.nil (EvC.seq (EvC.seq (Xr [.look 0, .eff 1 [], .look 2] (Xm rfl rfl rfl rfl fun _ => R.eff rfl rfl rfl (Eff.loc ok (Ef.call rfl CB41 rfl ((f41_ok hS).mono ?_))))))); rintro _ h_5 ⟨v27, rfl, hS⟩; refine fun ok => ⟨noChk, ?_⟩; refine Xk rfl rfl (Lk.arith rfl rfl rfl rfl) fun _ => ?_; refine R.nil ?_
    by_cases e8 : (decide (v27 > 4096)) = true
    · rw [if_pos e8] at hS; refine EvC.condT rfl e8 (EvC.seq (Xr [.look 0, .eff 1 [], .look 2] (Xk rfl rfl (Lk.build (cs := [(.slice none 0 0), (.slice none 0 0), (.slice none 0 0)]) (pl := [(0, 1), (1, 1), (2, 1)]) rfl Tryd.underlying35 T35 (PlacesL.places (.cons T31 (.cons T32 (.cons T33 PlacesL.nil)))) rfl rfl) fun _ => ?_))); refine R.effN rfl rfl rfl (Ef.storeLoc (i := 0) (vs := [(.slice none 0 0), (.slice none 0 0), (.slice none 0 0)]) (cs := [(.slice none 0 0), (.slice none 0 0), (.slice none 0 0)]) (l' := [(b2, .row ⟨[(.slice none 0 0), (.slice none 0 0), (.slice none 0 0)], 3, 35, true, true⟩), (b1, .row ⟨[(.slice p0_0.a p0_0.l p0_0.c), (.slice p0_1.a p0_1.l p0_1.c)], 2, 29, true, true⟩)]) ok rfl T35 rfl rfl rfl rfl rfl rfl rfl rfl rfl rfl fun ok => ⟨noChk, ?_⟩); refine Xa rfl rfl rfl rfl fun _ => ?_; refine R.nil (EvC.ret ?_); exact ⟨.inr rfl, _, _, (.cons (.cells rfl (fun w => Und.agg Tryd.underlying35 w) (fun w => T35.size_ w) (H.rdn_loc ok (i := 0) rfl rfl rfl)) (.cons (.tmp rfl) .nil)), ok.le, _, _, _, _, rfl, hS⟩
    · rw [if_neg e8] at hS; replace e8 := eq_false_of_ne_true e8; refine EvC.condF rfl e8 (EvC.skip (EvC.seq (Xr [.look 0, .eff 1 [], .look 2, .look 3, .look 4, .look 5, .look 6, .eff 7 []] (Xm rfl rfl rfl rfl fun _ => ?_)))); refine R.eff rfl rfl rfl (Eff.loc ok (Ef.call rfl CB42 rfl ((f42_ok hS).mono ?_))); rintro _ h_6 ⟨v32_0, v32_1, rfl, hS⟩; refine fun ok => ⟨noChk, ?_⟩; refine Xm rfl rfl rfl rfl fun _ => ?_; refine Xk rfl rfl (Lk.extract rfl rfl rfl) fun _ => ?_; refine Xk rfl rfl (Lk.extract rfl rfl rfl) fun _ => ?_; refine Xk rfl rfl (Lk.nilCheck rfl rfl) fun _ => ?_; refine Xk (v := (.pointer (some ⟨b23, 2, none⟩))) rfl rfl (Lk.fldAddr rfl Tryd.underlying106 rfl rfl T103 rfl rfl rfl) fun _ => ?_
      obtain ⟨h_7, e9, hS⟩ := hS
      refine R.effN rfl rfl rfl (Eff.loc ok (Ef.store rfl T103 rfl rfl rfl rfl rfl e9 fun ok => ⟨noChk, ?_⟩)); refine R.nil (EvC.join (σ := Sl × Sl × Sl) (fun s => (Ep (Ep (Ep E0 5 (.pointer (some ⟨b23, 0, none⟩))) 2 (.pointer (some ⟨b2, 0, none⟩))) 1 (.pointer (some ⟨b1, 0, none⟩)))) (fun s => [(b2, .row ⟨[(.slice s.1.a s.1.l s.1.c), (.slice s.2.1.a s.2.1.l s.2.1.c), (.slice s.2.2.a s.2.2.l s.2.2.c)], 3, 35, true, true⟩), (b1, .row ⟨[(.slice p0_0.a p0_0.l p0_0.c), (.slice p0_1.a p0_1.l p0_1.c)], 2, 29, true, true⟩)]) (fun s h_8 => S12_j3 p0_1 K b23 s.1 s.2.1 s.2.2 h_8) ?_ (fun Ih_8 hIh_8 => ?_))
      · rintro ⟨c2_0, c2_1, c2_2⟩ h_8 ok hS; replace hS : S12_j3 p0_1 K b23 c2_0 c2_1 c2_2 h_8 := hS; unfold S12_j3 at hS; refine EvC.join (σ := Sl × Sl × Sl) (fun s => (Ep (Ep E0 5 (.pointer (some ⟨b23, 0, none⟩))) 2 (.pointer (some ⟨b2, 0, none⟩)))) (fun s => [(b2, .row ⟨[(.slice s.1.a s.1.l s.1.c), (.slice s.2.1.a s.2.1.l s.2.1.c), (.slice s.2.2.a s.2.2.l s.2.2.c)], 3, 35, true, true⟩)]) (fun s h_9 => S12_j1 K b23 s.1 s.2.1 s.2.2 h_9) ?_ (fun Ih_9 hIh_9 => ?_)
        · rintro ⟨c2_0_1, c2_1_1, c2_2_1⟩ h_9 ok hS; replace hS : S12_j1 K b23 c2_0_1 c2_1_1 c2_2_1 h_9 := hS; unfold S12_j1 at hS; refine EvC.seq (Xr [.look 0, .look 1, .look 2, .look 3, .look 4, .eff 5 [], .look 6, .look 7, .look 8, .eff 9 []] (Xm rfl rfl rfl rfl fun _ => ?_)); refine Xm rfl rfl rfl rfl fun _ => ?_; refine Xk rfl rfl (Lk.nilCheck rfl rfl) fun _ => ?_; refine Xk (v := (.pointer (some ⟨b23, 2, none⟩))) rfl rfl (Lk.fldAddr rfl Tryd.underlying106 rfl rfl T103 rfl rfl rfl) fun _ => ?_
          obtain ⟨v91, e10, hS⟩ := hS
          refine Xk rfl rfl (Look.loc ok (Lk.load1 rfl Tryd.underlying103 rfl rfl e10)) fun _ => ?_; refine R.eff rfl rfl rfl (Eff.loc ok (Ef.call rfl CB47 rfl ((f47_ok hS).mono ?_))); rintro _ h_10 ⟨v92, rfl, hS⟩; refine fun ok => ⟨noChk, ?_⟩; refine Xk rfl rfl (Lk.nilCheck rfl rfl) fun _ => ?_; refine Xk (v := (.pointer (some ⟨b23, 5, none⟩))) rfl rfl (Lk.fldAddr rfl Tryd.underlying106 rfl rfl T35 rfl rfl rfl) fun _ => ?_; refine Xk (v := (.pointer (some ⟨b23, 5, none⟩))) rfl rfl (Lk.fldAddr rfl Tryd.underlying35 rfl rfl T31 rfl rfl rfl) fun _ => ?_
          obtain ⟨h_11, e11, hS⟩ := hS
          refine R.effN rfl rfl rfl (Eff.loc ok (Ef.store rfl T31 rfl rfl rfl rfl rfl e11 fun ok => ⟨noChk, ?_⟩)); refine R.nil (EvC.seq (Xr [.look 0, .look 1, .look 2, .look 3, .eff 4 [], .look 5] (Xm rfl rfl rfl rfl fun _ => Xk rfl rfl (Lk.nilCheck rfl rfl) fun _ => Xk (v := (.pointer (some ⟨b23, 5, none⟩))) rfl rfl (Lk.fldAddr rfl Tryd.underlying106 rfl rfl T35 rfl rfl rfl) fun _ => ?_)))
          obtain ⟨v99_0, v99_1, v99_2, e12, hS⟩ := hS
          refine Xk rfl rfl (Look.loc ok (Lk.loadN rfl Tryd.underlying35 rfl T35 rfl e12)) fun _ => ?_; refine R.effN rfl rfl rfl (Ef.storeLoc (i := 0) (vs := [(.slice v99_0.a v99_0.l v99_0.c), (.slice v99_1.a v99_1.l v99_1.c), (.slice v99_2.a v99_2.l v99_2.c)]) (cs := [(.slice v99_0.a v99_0.l v99_0.c), (.slice v99_1.a v99_1.l v99_1.c), (.slice v99_2.a v99_2.l v99_2.c)]) (l' := [(b2, .row ⟨[(.slice v99_0.a v99_0.l v99_0.c), (.slice v99_1.a v99_1.l v99_1.c), (.slice v99_2.a v99_2.l v99_2.c)], 3, 35, true, true⟩)]) ok rfl T35 rfl rfl rfl rfl rfl rfl rfl rfl rfl rfl fun ok => ⟨noChk, ?_⟩); refine Xa rfl rfl rfl rfl fun _ => ?_; refine R.nil (EvC.ret ?_); exact ⟨.inr rfl, _, _, (.cons (.cells rfl (fun w => Und.agg Tryd.underlying35 w) (fun w => T35.size_ w) (H.rdn_loc ok (i := 0) rfl rfl rfl)) (.cons (.tmp rfl) .nil)), ok.le, _, _, _, _, rfl, hS⟩
        · refine EvC.seq (Xr [.look 0, .look 1, .look 2, .look 3] (Xk (v := (.pointer (some ⟨b1, 1, none⟩))) rfl rfl (Lk.fldAddr rfl Tryd.underlying29 rfl rfl T27 rfl rfl rfl) fun _ => ?_)); refine Xk rfl rfl (Lk.load1 (v := (.slice p0_1.a p0_1.l p0_1.c)) rfl Tryd.underlying27 rfl rfl (H.rd_loc ok (i := 1) rfl rfl)) fun _ => ?_; refine Xk rfl rfl (Lk.len rfl Tryd.underlying27 rfl) fun _ => ?_; refine Xm rfl rfl rfl rfl fun _ => ?_; refine R.nil (EvC.block (EvC.loop (LoopC.lfp (σ := Int × Sl × Sl × Sl) (fun s => (Ep (Ep (Ep (Ep E0 76 (i6 s.1)) 75 (i6 (p0_1.l : Int))) 5 (.pointer (some ⟨b23, 0, none⟩))) 2 (.pointer (some ⟨b2, 0, none⟩)))) (fun s => [(b2, .row ⟨[(.slice s.2.1.a s.2.1.l s.2.1.c), (.slice s.2.2.1.a s.2.2.1.l s.2.2.1.c), (.slice s.2.2.2.a s.2.2.2.l s.2.2.2.c)], 3, 35, true, true⟩)]) (fun X hX => ?_) hS (ok.sub (.cons_cons _ (.cons _ sl0))) (lq rfl (lq rfl (lq rfl (lq rfl (lz _))))) (H.add_sub ok (.cons_cons _ (.cons _ sl0)))))); rintro ⟨v76, c2_0_2, c2_1_2, c2_2_2⟩ h_12 hS ok; replace hS : S12_l2 p0_1 K b23 X v76 c2_0_2 c2_1_2 c2_2_2 h_12 := hS; unfold S12_l2 at hS; refine EvC.seq (Xr [.look 0] (Xk rfl rfl (Lk.arith rfl rfl rfl rfl) fun _ => ?_)); refine R.nil (EvC.seq ?_)
          by_cases e13 : (decide (v76 < (p0_1.l : Int))) = true
          · rw [if_pos e13] at hS; refine EvC.condT rfl e13 (EvC.skip (EvC.seq (EvC.block (EvC.seq (Xr [.look 0, .look 1] (Xm rfl rfl rfl rfl fun _ => ?_)))))); refine Xa rfl rfl rfl rfl fun _ => ?_; refine R.nil (EvC.seq (Xr [.look 0, .look 1, .eff 2 [], .look 3] (Xm rfl rfl rfl rfl fun _ => Xm rfl rfl rfl rfl fun _ => R.eff rfl rfl rfl (Eff.loc ok (Ef.call rfl CB46 rfl ((f46_ok hS).mono ?_)))))); rintro _ h_13 ⟨v81, rfl, hS⟩; refine fun ok => ⟨noChk, ?_⟩; refine Xa rfl rfl rfl rfl fun _ => ?_; refine R.nil (EvC.seq (Xr [.look 0, .look 1] (Xm rfl rfl rfl rfl fun _ => Xk rfl rfl (Lk.arith rfl rfl rfl rfl) fun _ => R.nil ?_)))
            by_cases e14 : (v81 != 0) = true
            · rw [if_pos e14] at hS; refine EvC.condT rfl e14 (EvC.seq (Xr [.look 0, .look 1, .eff 2 [], .look 3] (Xk rfl rfl (Lk.build (cs := [(.slice none 0 0), (.slice none 0 0), (.slice none 0 0)]) (pl := [(0, 1), (1, 1), (2, 1)]) rfl Tryd.underlying35 T35 (PlacesL.places (.cons T31 (.cons T32 (.cons T33 PlacesL.nil)))) rfl rfl) fun _ => ?_))); refine Xm rfl rfl rfl rfl fun _ => ?_; refine R.effN rfl rfl rfl (Ef.storeLoc (i := 0) (vs := [(.slice none 0 0), (.slice none 0 0), (.slice none 0 0)]) (cs := [(.slice none 0 0), (.slice none 0 0), (.slice none 0 0)]) (l' := [(b2, .row ⟨[(.slice none 0 0), (.slice none 0 0), (.slice none 0 0)], 3, 35, true, true⟩)]) ok rfl T35 rfl rfl rfl rfl rfl rfl rfl rfl rfl rfl fun ok => ⟨noChk, ?_⟩); refine Xa rfl rfl rfl rfl fun _ => ?_; refine R.nil (EvC.ret ?_); exact ⟨.inr rfl, _, _, (.cons (.cells rfl (fun w => Und.agg Tryd.underlying35 w) (fun w => T35.size_ w) (H.rdn_loc ok (i := 0) rfl rfl rfl)) (.cons (.tmp rfl) .nil)), ok.le, _, _, _, _, rfl, hS⟩
            · rw [if_neg e14] at hS; replace e14 := eq_false_of_ne_true e14; refine EvC.condF rfl e14 (EvC.skip (Xr [.look 0, .look 1] (Xk rfl rfl (Lk.arith rfl rfl rfl rfl) fun _ => ?_))); refine Xm rfl rfl rfl rfl fun _ => ?_; refine R.nil ?_; exact hX ((IntKind.wrap .i64 (v76 + 1)), c2_0_2, c2_1_2, c2_2_2) _ _ _ hS (ok.sub (.cons_cons _ sl0)) (lq rfl (lq rfl (lq rfl (lq rfl (lz _))))) (H.add_sub ok (.cons_cons _ sl0))
          · rw [if_neg e13] at hS; replace e13 := eq_false_of_ne_true e13; refine EvC.condF rfl e13 (EvC.exit ?_); exact hIh_9 (c2_0_2, c2_1_2, c2_2_2) _ _ _ (lq rfl (lq rfl (lz _))) (ok.sub (.cons_cons _ sl0)) (H.add_sub ok (.cons_cons _ sl0)) hS
      · refine EvC.seq (Xr [.look 0, .look 1, .look 2, .look 3] (Xk (v := (.pointer (some ⟨b1, 0, none⟩))) rfl rfl (Lk.fldAddr rfl Tryd.underlying29 rfl rfl T22 rfl rfl rfl) fun _ => ?_)); refine Xk rfl rfl (Lk.load1 (v := (.slice p0_0.a p0_0.l p0_0.c)) rfl Tryd.underlying22 rfl rfl (H.rd_loc ok (i := 1) rfl rfl)) fun _ => ?_; refine Xk rfl rfl (Lk.len rfl Tryd.underlying22 rfl) fun _ => ?_; refine Xm rfl rfl rfl rfl fun _ => ?_; refine R.nil (EvC.block (EvC.loop (LoopC.lfp (σ := Int × Sl × Sl × Sl) (fun s => (Ep (Ep (Ep (Ep (Ep (Ep E0 40 (i6 s.1)) 39 (i6 (p0_0.l : Int))) 38 (.slice p0_0.a p0_0.l p0_0.c)) 5 (.pointer (some ⟨b23, 0, none⟩))) 2 (.pointer (some ⟨b2, 0, none⟩))) 1 (.pointer (some ⟨b1, 0, none⟩)))) (fun s => [(b2, .row ⟨[(.slice s.2.1.a s.2.1.l s.2.1.c), (.slice s.2.2.1.a s.2.2.1.l s.2.2.1.c), (.slice s.2.2.2.a s.2.2.2.l s.2.2.2.c)], 3, 35, true, true⟩), (b1, .row ⟨[(.slice p0_0.a p0_0.l p0_0.c), (.slice p0_1.a p0_1.l p0_1.c)], 2, 29, true, true⟩)]) (fun X_1 hX_1 => ?_) hS (ok.sub (.cons_cons _ (.cons_cons _ sl0))) (lq rfl (lq rfl (lq rfl (lq rfl (lq rfl (lq rfl (lz _))))))) (H.add_sub ok (.cons_cons _ (.cons_cons _ sl0)))))); rintro ⟨v40, c2_0_3, c2_1_3, c2_2_3⟩ h_14 hS ok; replace hS : S12_l5 p0_0 p0_1 K b23 X_1 v40 c2_0_3 c2_1_3 c2_2_3 h_14 := hS; unfold S12_l5 at hS; refine EvC.seq (Xr [.look 0] (Xk rfl rfl (Lk.arith rfl rfl rfl rfl) fun _ => ?_)); refine R.nil (EvC.seq ?_)
        by_cases e15 : (decide (v40 < (p0_0.l : Int))) = true
        · rw [if_pos e15] at hS; refine EvC.condT rfl e15 (EvC.skip (EvC.join (σ := Sl × Sl × Sl) (fun s => (Ep (Ep (Ep (Ep (Ep (Ep E0 40 (i6 v40)) 39 (i6 (p0_0.l : Int))) 38 (.slice p0_0.a p0_0.l p0_0.c)) 5 (.pointer (some ⟨b23, 0, none⟩))) 2 (.pointer (some ⟨b2, 0, none⟩))) 1 (.pointer (some ⟨b1, 0, none⟩)))) (fun s => [(b2, .row ⟨[(.slice s.1.a s.1.l s.1.c), (.slice s.2.1.a s.2.1.l s.2.1.c), (.slice s.2.2.a s.2.2.l s.2.2.c)], 3, 35, true, true⟩), (b1, .row ⟨[(.slice p0_0.a p0_0.l p0_0.c), (.slice p0_1.a p0_1.l p0_1.c)], 2, 29, true, true⟩)]) (fun s h_15 => S12_j4 v40 X_1 s.1 s.2.1 s.2.2 h_15) ?_ (fun Ih_15 hIh_15 => ?_)))
          · rintro ⟨c2_0_4, c2_1_4, c2_2_4⟩ h_15 ok hS; replace hS : S12_j4 v40 X_1 c2_0_4 c2_1_4 c2_2_4 h_15 := hS; unfold S12_j4 at hS; refine Xr [.look 0, .look 1] (Xk rfl rfl (Lk.arith rfl rfl rfl rfl) fun _ => ?_); refine Xm rfl rfl rfl rfl fun _ => ?_; refine R.nil ?_; exact hX_1 ((IntKind.wrap .i64 (v40 + 1)), c2_0_4, c2_1_4, c2_2_4) _ _ _ hS (ok.sub (.cons_cons _ (.cons_cons _ sl0))) (lq rfl (lq rfl (lq rfl (lq rfl (lq rfl (lq rfl (lz _))))))) (H.add_sub ok (.cons_cons _ (.cons_cons _ sl0)))
          · refine EvC.block (EvC.seq (Xr [.look 0, .look 1, .look 2, .look 3, .look 4] (Xm rfl rfl rfl rfl fun _ => ?_)))
            obtain ⟨a43, e16, e17, e18, hS⟩ := hS
            refine Xk rfl rfl (Lk.ixAddr rfl Tryd.underlying22 T4 rfl e16 rfl e17 e18) fun _ => ?_
            obtain ⟨v44, e19, hS⟩ := hS
            refine Xk rfl rfl (Look.loc ok (Lk.load1 rfl Tryd.underlying4 rfl rfl e19)) fun _ => ?_; refine Xa rfl rfl rfl rfl fun _ => ?_; refine Xa rfl rfl rfl rfl fun _ => ?_; refine R.nil (EvC.seq (EvC.draw [0, 0, 2, 6, 14, 30, 0, 64, 192, 448, 960, 1984, 4094, 8191, 16383, 32767, 65535] [Item.look 0, Item.look 1, Item.look 2, Item.look 3, Item.look 4, Item.look 5, Item.look 6, Item.look 7, Item.look 8, Item.look 9, Item.eff 10 [0, 1, 2, 3, 4, 5], Item.alc 11, Item.eff 12 [0], Item.look 13, Item.look 14, Item.look 15, Item.eff 16 []] MO (by kernel_rfl) ?_)); refine R.lookL rfl rfl rfl (Lk.move rfl rfl) ?_; refine R.lookL rfl rfl rfl (Lk.move rfl rfl) ?_; refine R.lookL rfl rfl rfl (Lk.nilCheck rfl rfl) ?_; refine R.lookL (v := (.pointer (some ⟨b23, 5, none⟩))) rfl rfl rfl (Lk.fldAddr rfl Tryd.underlying106 rfl rfl T35 rfl rfl rfl) ?_; refine R.lookL (v := (.pointer (some ⟨b23, 6, none⟩))) rfl rfl rfl (Lk.fldAddr rfl Tryd.underlying35 rfl rfl T32 rfl rfl rfl) ?_
            obtain ⟨v50, e20, hS⟩ := hS
            refine R.lookL rfl rfl rfl (Look.loc ok (Lk.load1 rfl Tryd.underlying32 rfl rfl e20)) ?_; refine R.lookL rfl rfl rfl (Lk.move rfl rfl) ?_; refine R.lookL rfl rfl rfl (Lk.nilCheck rfl rfl) ?_; refine R.lookL (v := (.pointer (some ⟨b23, 2, none⟩))) rfl rfl rfl (Lk.fldAddr rfl Tryd.underlying106 rfl rfl T103 rfl rfl rfl) ?_
            obtain ⟨v54, e21, hS⟩ := hS
            refine R.lookL rfl rfl rfl (Look.loc ok (Lk.load1 rfl Tryd.underlying103 rfl rfl e21)) ?_; refine R.eff rfl rfl rfl (Eff.loc ok (Ef.call rfl CB43 rfl ((f43_ok hS).mono ?_))); rintro _ h_16 ⟨v55, rfl, hS⟩
            obtain ⟨e22, hS⟩ := hS
            refine fun ok => ⟨(List.forall_mem_cons.2 ⟨(XP (XP (XP (XP (XP (XP (XP (XP (XP (Log.at_ (LookG.of rfl (Lk.move rfl rfl)))))))))))), (List.forall_mem_cons.2 ⟨(XP (XP (XP (XP (XP (XP (XP (XP (Log.at_ (LookG.of rfl (Lk.move rfl rfl))))))))))), (List.forall_mem_cons.2 ⟨(XP (XP (XP (XP (XP (XP (XP (Log.at_ (LookG.of rfl (Lk.nilCheck rfl rfl)))))))))), (List.forall_mem_cons.2 ⟨(XP (XP (XP (XP (XP (XP (Log.at_ (LookG.of rfl (Lk.fldAddr rfl Tryd.underlying106 rfl rfl T35 rfl rfl rfl))))))))), (List.forall_mem_cons.2 ⟨(XP (XP (XP (XP (XP (Log.at_ (LookG.of rfl (Lk.fldAddr rfl Tryd.underlying35 rfl rfl T32 rfl rfl rfl)))))))), (List.forall_mem_cons.2 ⟨(XP (XP (XP (XP (Log.at_ (LookG.of rfl (Look.loc ok (Lk.load1 rfl Tryd.underlying32 rfl rfl e22)))))))), noChk⟩)⟩)⟩)⟩)⟩)⟩), ?_⟩; refine R.appL (cs := [(i6 v55)]) ok rfl rfl rfl rfl rfl rfl rfl rfl Tryd.underlying32 T3 rfl (by decide) (by decide) rfl rfl rfl rfl rfl (fun _ => rfl) hS ?_; intro bb56 v57 h_17 hS ok; refine ⟨(List.forall_mem_cons.2 ⟨(XP (XP (XP (XP (XP (XP (XP (XP (XP (Log.at_ (LookG.of rfl (Lk.move rfl rfl)))))))))))), noChk⟩), ?_⟩; refine R.lookL rfl rfl rfl (Lk.nilCheck rfl rfl) ?_; refine R.lookL (v := (.pointer (some ⟨b23, 5, none⟩))) rfl rfl rfl (Lk.fldAddr rfl Tryd.underlying106 rfl rfl T35 rfl rfl rfl) ?_; refine R.lookL (v := (.pointer (some ⟨b23, 6, none⟩))) rfl rfl rfl (Lk.fldAddr rfl Tryd.underlying35 rfl rfl T32 rfl rfl rfl) ?_
            obtain ⟨h_18, e23, hS⟩ := hS
            refine R.effN rfl rfl rfl (Eff.loc ok (Ef.store rfl T32 rfl rfl rfl rfl rfl e23 fun ok => ⟨noChk, ?_⟩)); refine R.nil (EvC.seq (Xr [.look 0] (Xm rfl rfl rfl rfl fun _ => R.nil ?_)))
            by_cases e24 : v44 = true
            · rw [if_pos e24] at hS; refine EvC.condT rfl e24 (Xr [.look 0, .look 1, .eff 2 []] (Xm rfl rfl rfl rfl fun _ => ?_)); refine Xm rfl rfl rfl rfl fun _ => ?_; refine R.eff rfl rfl rfl (Eff.loc ok (Ef.call rfl CB44 rfl ((f44_ok hS).mono ?_))); rintro _ h_19 ⟨rfl, hS⟩; refine fun ok => ⟨noChk, ?_⟩; refine R.nil ?_; exact hIh_15 (c2_0_3, c2_1_3, c2_2_3) _ _ _ (lq rfl (lq rfl (lq rfl (lq rfl (lq rfl (lq rfl (lz _))))))) (ok.sub (.cons_cons _ (.cons_cons _ sl0))) (H.add_sub ok (.cons_cons _ (.cons_cons _ sl0))) hS
            · rw [if_neg e24] at hS; replace e24 := eq_false_of_ne_true e24; refine EvC.condF rfl e24 (EvC.seq (Xr [.look 0, .look 1, .eff 2 [], .look 3] (Xm rfl rfl rfl rfl fun _ => ?_))); refine Xm rfl rfl rfl rfl fun _ => ?_; refine R.eff rfl rfl rfl (Eff.loc ok (Ef.call rfl CB45 rfl ((f45_ok hS).mono ?_))); rintro _ h_20 ⟨v67, rfl, hS⟩; refine fun ok => ⟨noChk, ?_⟩; refine Xa rfl rfl rfl rfl fun _ => ?_; refine R.nil (EvC.seq (Xr [.look 0, .look 1] (Xm rfl rfl rfl rfl fun _ => Xk rfl rfl (Lk.arith rfl rfl rfl rfl) fun _ => R.nil ?_)))
              by_cases e25 : (v67 != 0) = true
              · rw [if_pos e25] at hS; refine EvC.condT rfl e25 (EvC.seq (Xr [.look 0, .look 1, .eff 2 [], .look 3] (Xk rfl rfl (Lk.build (cs := [(.slice none 0 0), (.slice none 0 0), (.slice none 0 0)]) (pl := [(0, 1), (1, 1), (2, 1)]) rfl Tryd.underlying35 T35 (PlacesL.places (.cons T31 (.cons T32 (.cons T33 PlacesL.nil)))) rfl rfl) fun _ => ?_))); refine Xm rfl rfl rfl rfl fun _ => ?_; refine R.effN rfl rfl rfl (Ef.storeLoc (i := 0) (vs := [(.slice none 0 0), (.slice none 0 0), (.slice none 0 0)]) (cs := [(.slice none 0 0), (.slice none 0 0), (.slice none 0 0)]) (l' := [(b2, .row ⟨[(.slice none 0 0), (.slice none 0 0), (.slice none 0 0)], 3, 35, true, true⟩), (b1, .row ⟨[(.slice p0_0.a p0_0.l p0_0.c), (.slice p0_1.a p0_1.l p0_1.c)], 2, 29, true, true⟩)]) ok rfl T35 rfl rfl rfl rfl rfl rfl rfl rfl rfl rfl fun ok => ⟨noChk, ?_⟩); refine Xa rfl rfl rfl rfl fun _ => ?_; refine R.nil (EvC.ret ?_); exact ⟨.inr rfl, _, _, (.cons (.cells rfl (fun w => Und.agg Tryd.underlying35 w) (fun w => T35.size_ w) (H.rdn_loc ok (i := 0) rfl rfl rfl)) (.cons (.tmp rfl) .nil)), ok.le, _, _, _, _, rfl, hS⟩
              · rw [if_neg e25] at hS; replace e25 := eq_false_of_ne_true e25; refine EvC.condF rfl e25 (EvC.skip ?_); exact hIh_15 (c2_0_3, c2_1_3, c2_2_3) _ _ _ (lq rfl (lq rfl (lq rfl (lq rfl (lq rfl (lq rfl (lz _))))))) (ok.sub (.cons_cons _ (.cons_cons _ sl0))) (H.add_sub ok (.cons_cons _ (.cons_cons _ sl0))) hS
        · rw [if_neg e15] at hS; replace e15 := eq_false_of_ne_true e15; refine EvC.condF rfl e15 (EvC.exit ?_); exact hIh_8 (c2_0_3, c2_1_3, c2_2_3) _ _ _ (lq rfl (lq rfl (lq rfl (lz _)))) (ok.sub (.cons_cons _ (.cons_cons _ sl0))) (H.add_sub ok (.cons_cons _ (.cons_cons _ sl0))) hS

end Go.Proofs.YtimadnngfhbfiaaDoor
end

section
/-
  The library's Sort, Compact and BinarySearch at []int, as the kit's shelf lays them.
-/
namespace Go.Proofs
open Go.Shelf
def Tryd.lays189_ren : Go.Shelf.Ren := ⟨fun | 189 => 124 | 125 => 136 | 257 => 135 | 128 => 149 | 129 => 130 | 294 => 141 | 295 => 142 | 296 => 143 | 297 => 144 | 298 => 145 | 299 => 146 | 216 => 126 | 300 => 147 | 301 => 148 | 328 => 150 | 329 => 151 | 330 => 152 | 331 => 153 | 332 => 154 | 215 => 137 | 343 => 155 | n => n, fun | 28 => 32 | 3 => 3 | 46 => 166 | 0 => 0 | 51 => 179 | 53 => 182 | 4 => 4 | 183 => 215 | 182 => 214 | 131 => 191 | 5 => 5 | 9 => 9 | 218 => 222 | 222 => 226 | 228 => 228 | 229 => 88 | n => n, fun | n => n⟩
theorem Tryd.lays189 : Go.Proofs.Lays.n189 Tryd.prog Tryd.lays189_ren := {
  mixed := by kernel_rfl
  f125 := Tryd.func136.trans (congrArg some (by kernel_rfl))
  f128 := Tryd.func149.trans (congrArg some (by kernel_rfl))
  f129 := Tryd.func130.trans (congrArg some (by kernel_rfl))
  f189 := Tryd.func124.trans (congrArg some (by kernel_rfl))
  f215 := Tryd.func137.trans (congrArg some (by kernel_rfl))
  f216 := Tryd.func126.trans (congrArg some (by kernel_rfl))
  f257 := Tryd.func135.trans (congrArg some (by kernel_rfl))
  f294 := Tryd.func141.trans (congrArg some (by kernel_rfl))
  f295 := Tryd.func142.trans (congrArg some (by kernel_rfl))
  f296 := Tryd.func143.trans (congrArg some (by kernel_rfl))
  f297 := Tryd.func144.trans (congrArg some (by kernel_rfl))
  f298 := Tryd.func145.trans (congrArg some (by kernel_rfl))
  f299 := Tryd.func146.trans (congrArg some (by kernel_rfl))
  f300 := Tryd.func147.trans (congrArg some (by kernel_rfl))
  f301 := Tryd.func148.trans (congrArg some (by kernel_rfl))
  f328 := Tryd.func150.trans (congrArg some (by kernel_rfl))
  f329 := Tryd.func151.trans (congrArg some (by kernel_rfl))
  f330 := Tryd.func152.trans (congrArg some (by kernel_rfl))
  f331 := Tryd.func153.trans (congrArg some (by kernel_rfl))
  f332 := Tryd.func154.trans (congrArg some (by kernel_rfl))
  f343 := Tryd.func155.trans (congrArg some (by kernel_rfl))
  t0 := Tryd.underlying0
  a0 := Tryd.isAgg0
  z0 := Tryd.sizeOf0
  v0 := Tryd.zeroValue0
  t3 := Tryd.underlying3
  a3 := Tryd.isAgg3
  z3 := Tryd.sizeOf3
  v3 := Tryd.zeroValue3
  t4 := Tryd.underlying4
  a4 := Tryd.isAgg4
  z4 := Tryd.sizeOf4
  v4 := Tryd.zeroValue4
  t5 := Tryd.underlying5
  a5 := Tryd.isAgg5
  z5 := Tryd.sizeOf5
  v5 := Tryd.zeroValue5
  t9 := Tryd.underlying9
  a9 := Tryd.isAgg9
  z9 := Tryd.sizeOf9
  v9 := Tryd.zeroValue9
  t28 := Tryd.underlying32
  a28 := Tryd.isAgg32
  z28 := Tryd.sizeOf32
  v28 := Tryd.zeroValue32
  t46 := Tryd.underlying166
  a46 := Tryd.isAgg166
  z46 := Tryd.sizeOf166
  v46 := Tryd.zeroValue166
  t51 := Tryd.underlying179
  a51 := Tryd.isAgg179
  z51 := Tryd.sizeOf179
  v51 := Tryd.zeroValue179
  t53 := Tryd.underlying182
  a53 := Tryd.isAgg182
  z53 := Tryd.sizeOf182
  v53 := Tryd.zeroValue182
  t131 := Tryd.underlying191
  a131 := Tryd.isAgg191
  z131 := Tryd.sizeOf191
  v131 := Tryd.zeroValue191
  t182 := Tryd.underlying214
  a182 := Tryd.isAgg214
  z182 := Tryd.sizeOf214
  v182 := Tryd.zeroValue214
  t183 := Tryd.underlying215
  a183 := Tryd.isAgg215
  z183 := Tryd.sizeOf215
  v183 := Tryd.zeroValue215
  t218 := Tryd.underlying222
  a218 := Tryd.isAgg222
  z218 := Tryd.sizeOf222
  v218 := Tryd.zeroValue222
  t222 := Tryd.underlying226
  a222 := Tryd.isAgg226
  z222 := Tryd.sizeOf226
  v222 := Tryd.zeroValue226
  t228 := Tryd.underlying228
  a228 := Tryd.isAgg228
  z228 := Tryd.sizeOf228
  v228 := Tryd.zeroValue228
  t229 := Tryd.underlying88
  a229 := Tryd.isAgg88
  z229 := Tryd.sizeOf88
  v229 := Tryd.zeroValue88 }
open Go.Sort Go.RowKit in
theorem Tryd.slices_Sort_int (blk off cap : Nat) (zs : List Int) (w : World) (hH : Holds (Value.int .i64) w blk off zs.toArray) (hblk : blk < w.heap.size) (hsz : zs.length < 4611686018427387904) :
    Calls Tryd.prog 124 #[.slice (some ⟨blk, off, none⟩) zs.length cap] w fun e w' =>
      e = .returned (.tuple #[]) ∧ ∃ n os, w' = grow (putRow (Value.int .i64) (Sort.ahead w n) blk off (zs.mergeSort fun x y => decide (x ≤ y)).toArray) os := Any.slices_Sort_int Tryd.lays189 blk off cap zs w hH hblk hsz
def Tryd.laysNm220_ren : Go.Shelf.Ren := ⟨fun | 20 => 111 | n => n, fun | 22 => 32 | 3 => 3 | 4 => 4 | 0 => 0 | n => n, fun | n => n⟩
theorem Tryd.laysNm220 : Go.Proofs.Lays2.n20 Tryd.prog Tryd.laysNm220_ren := {
  mixed := by kernel_rfl
  f20 := Tryd.func111.trans (congrArg some (by kernel_rfl))
  t0 := Tryd.underlying0
  a0 := Tryd.isAgg0
  z0 := Tryd.sizeOf0
  v0 := Tryd.zeroValue0
  t3 := Tryd.underlying3
  a3 := Tryd.isAgg3
  z3 := Tryd.sizeOf3
  v3 := Tryd.zeroValue3
  t4 := Tryd.underlying4
  a4 := Tryd.isAgg4
  z4 := Tryd.sizeOf4
  v4 := Tryd.zeroValue4
  t22 := Tryd.underlying32
  a22 := Tryd.isAgg32
  z22 := Tryd.sizeOf32
  v22 := Tryd.zeroValue32
  i3 := by kernel_rfl }
open Go.RowKit Go.Lib Go.Sort in
theorem Tryd.slices_Compact_int (blk off cap : Nat) (zs : List Int) (w : World) (hH : Holds (Value.int .i64) w blk off zs.toArray) (hsz : zs.length ≤ 9223372036854775807) (hcap : zs.length ≤ cap) :
    Calls Tryd.prog 111 #[.slice (some ⟨blk, off, none⟩) zs.length cap] w fun e w' => e = .returned (.slice (some ⟨blk, off, none⟩) (Lib.compact zs).length cap) ∧ ∃ q, w' = putRow (Value.int .i64) (Sort.ahead w q) blk off (Lib.compact zs ++ List.replicate (zs.length - (Lib.compact zs).length) 0).toArray := Any.slices_Compact_int Tryd.laysNm220 blk off cap zs w hH hsz hcap
def Tryd.laysNm225_ren : Go.Shelf.Ren := ⟨fun | 25 => 114 | 31 => 126 | 32 => 127 | 37 => 137 | n => n, fun | 22 => 32 | 3 => 3 | 4 => 4 | 40 => 166 | 0 => 0 | n => n, fun | n => n⟩
theorem Tryd.laysNm225 : Go.Proofs.Lays2.n25 Tryd.prog Tryd.laysNm225_ren := {
  mixed := by kernel_rfl
  f25 := Tryd.func114.trans (congrArg some (by kernel_rfl))
  f31 := Tryd.func126.trans (congrArg some (by kernel_rfl))
  f32 := Tryd.func127.trans (congrArg some (by kernel_rfl))
  f37 := Tryd.func137.trans (congrArg some (by kernel_rfl))
  t0 := Tryd.underlying0
  a0 := Tryd.isAgg0
  z0 := Tryd.sizeOf0
  v0 := Tryd.zeroValue0
  t3 := Tryd.underlying3
  a3 := Tryd.isAgg3
  z3 := Tryd.sizeOf3
  v3 := Tryd.zeroValue3
  t4 := Tryd.underlying4
  a4 := Tryd.isAgg4
  z4 := Tryd.sizeOf4
  v4 := Tryd.zeroValue4
  t22 := Tryd.underlying32
  a22 := Tryd.isAgg32
  z22 := Tryd.sizeOf32
  v22 := Tryd.zeroValue32
  t40 := Tryd.underlying166
  a40 := Tryd.isAgg166
  z40 := Tryd.sizeOf166
  v40 := Tryd.zeroValue166 }
open Go.RowKit Go.Lib in
theorem Tryd.slices_BinarySearch_int (b off n c : Nat) (zs : List Int) (x : Int) (w : World) (hz : n ≤ zs.length) (hbig : n < 4611686018427387904) (hc : ∀ j, j < zs.length → w.cell? ⟨b, off + j, none⟩ = some (.int .i64 (zs.getD j 0))) (hs : (zs.take n).Pairwise (· ≤ ·)) :
    Calls Tryd.prog 114 #[.slice (some ⟨b, off, none⟩) n c, .int .i64 x] w fun e w' => e = .returned (.tuple #[.int .i64 ((zs.take n).countP (· < x) : Nat), .bool ((zs.take n).contains x)]) ∧ ∃ q, w' = w.drewN q := Any.slices_BinarySearch_int Tryd.laysNm225 b off n c zs x w hz hbig hc hs
open Go.RowKit Go.Lib Go.Sort in
theorem Tryd.slices_Compact_int_cells (b off n c : Nat) (zs : List Int) (w : World) (hz : n ≤ zs.length) (hbig : n ≤ 9223372036854775807) (hcap : n ≤ c) (hc : ∀ j, j < zs.length → w.cell? ⟨b, off + j, none⟩ = some (.int .i64 (zs.getD j 0))) (hf : ∀ j, j < n → w.frozen? ⟨b, off + j, none⟩ = false) :
    Calls Tryd.prog 111 #[.slice (some ⟨b, off, none⟩) n c] w fun e w' => e = .returned (.slice (some ⟨b, off, none⟩) (Lib.compact (zs.take n)).length c) ∧ ∃ q, w' = (w.drewN q).setCells b off ((Lib.compact (zs.take n) ++ List.replicate (n - (Lib.compact (zs.take n)).length) 0).map (Value.int .i64)) := Any.slices_Compact_int_cells Tryd.laysNm220 b off n c zs w hz hbig hcap hc hf
open Go.RowKit Go.Lib Go.Sort in
theorem Tryd.slices_Compact_int_empty (a : Option Addr) (cap : Nat) (w : World) :
    Calls Tryd.prog 111 #[.slice a 0 cap] w fun e w' => e = .returned (.slice a 0 cap) ∧ w' = w := Any.slices_Compact_int_empty Tryd.laysNm220 a cap w
open Go.RowKit Go.Lib in
theorem Tryd.slices_BinarySearch_int_empty (a : Option Addr) (c : Nat) (x : Int) (w : World) :
    Calls Tryd.prog 114 #[.slice a 0 c, .int .i64 x] w fun e w' => e = .returned (.tuple #[.int .i64 0, .bool false]) ∧ w' = w := Any.slices_BinarySearch_int_empty Tryd.laysNm225 a c x w
theorem Tryd.slices_Sort_int_none (p : Option Addr) (cap : Nat) (w : World) :
    Calls Tryd.prog 124 #[.slice p 0 cap] w fun e w' => e = .returned (.tuple #[]) ∧ w' = w := Any.slices_Sort_int_none Tryd.lays189 p cap w
end Go.Proofs
end

section
/-
  slices.Sorted(slices.Values(xs)): the walk of the two iterators, after the kit's worked texts; the sort's contract off the shelf.
-/
namespace Go.Proofs.Tryd
open Go.RowKit Go.Shelf Go.Sort

attribute [local go_sem] Oper.semAt_some

def uptoR {α : Type} (f : Nat → α) (k : Nat) : List α := (List.range k).map f
theorem uptoR_succ {α : Type} (f : Nat → α) (k : Nat) : uptoR f (k + 1) = uptoR f k ++ [f k] := by simp [uptoR, List.range_succ]
theorem uptoR_length {α : Type} (f : Nat → α) (k : Nat) : (uptoR f k).length = k := by simp [uptoR]
theorem uptoR_all (zs : List Int) : uptoR (fun j => zs[j]?.getD 0) zs.length = zs := by
  apply List.ext_getElem
  · simp [uptoR]
  · intro i h1 h2
    simp [uptoR, h2]
theorem uptoR_take (zs : List Int) {k : Nat} (hk : k ≤ zs.length) : uptoR (fun j => zs[j]?.getD 0) k = zs.take k := by
  apply List.ext_getElem
  · simp [uptoR, hk]
  · intro i h1 h2
    have : i < zs.length := by simp [uptoR] at h1; omega
    simp [uptoR, this]

set_option maxRecDepth 100000 in
set_option maxHeartbeats 2000000 in
theorem values1_in (F : Fence) (n : Nat) (h7 : F.fn 125) (hro : F.round = none) (hn : 1 ≤ n) (l Bs n₀ b off len cap : Nat) (zs : List Int) (hreach : len * 8 ≤ 140737488351232) (hb : b < n₀) (J Jx : List Int → World → Prop)
    (hY : ∀ pre x W, J pre W → pre.length < len → YieldAt F (n - 1) Tryd.prog l #[.int .i64 x] W fun e W' =>
      (e = .returned (.bool true) ∧ J (pre ++ [x]) W' ∧ Below n₀ W W') ∨ (e = .returned (.bool false) ∧ Jx (pre ++ [x]) W'))
    (W : World) (hBs : W.cell? ⟨Bs, 0, none⟩ = some (.slice (some ⟨b, off, none⟩) len cap)) (hc : ∀ j, j < len → W.cell? ⟨b, off + j, none⟩ = some (.int .i64 (zs[j]?.getD 0))) (h0 : J [] W) :
    CallsIn F n Tryd.prog 125 #[.func (.yield l) #[] #[], .pointer (some ⟨Bs, 0, none⟩)] W fun e W' => (∃ v, e = .returned v) ∧
      ((∃ ys, ys = uptoR (fun j => zs[j]?.getD 0) len ∧ J ys W') ∨ (∃ pre, (∃ k, k ≤ len ∧ pre = uptoR (fun j => zs[j]?.getD 0) k) ∧ Jx pre W')) := by
  refine callsIn_of_wp Tryd.func125 rfl h7 ?_ hro
  simp only [Tryd.ntmps125, List.size_toArray, List.length_cons, List.length_nil, Nat.reduceAdd, Nat.reduceSub, Array.replicate_succ, Array.replicate_zero, List.push_toArray, List.append_toArray, List.nil_append, List.cons_append]
  gi_wp2
  gi_loopw [7] (fun i wr => ∃ k : Nat, k ≤ len ∧ i = .int .i64 k ∧ J (uptoR (fun j => zs[j]?.getD 0) k) wr ∧ Below n₀ W wr)
    (fun i _ => len - (intOf i).toNat)
  case atStart => exact ⟨0, Nat.zero_le _, rfl, h0, Below.refl _ _⟩
  case round =>
    obtain ⟨k, hk, rfl, hJs, hnx⟩ := hrel
    have hcx : k < len → wr.cell? ⟨b, off + k, none⟩ = some (.int .i64 (zs[k]?.getD 0)) := fun h => (hnx.cell (p := ⟨b, off + k, none⟩) hb).trans (hc k h)
    by_cases hlt : k < len
    · obtain ⟨fn, tmps, assign, body, hy, hR⟩ := hY _ (zs[k]?.getD 0) wr hJs (by rw [uptoR_length]; exact hlt)
      have hcx' := hcx hlt
      gi_wp2
      refine hR.mono ?_
      rintro e W3 (⟨rfl, hJ3, hk3⟩ | ⟨rfl, hJx3⟩)
      · gi_wp2
        go_roundw
        case rel => exact ⟨k + 1, by omega, by simp, by rw [uptoR_succ]; exact hJ3, hnx.trans hk3⟩
        case measure => simp [intOf]; omega
      · gi_wp2
        refine bodyPost_ret (results_none rfl _ _ _) rfl ?_
        exact ⟨⟨_, rfl⟩, .inr ⟨_, ⟨k + 1, by omega, (uptoR_succ _ _).symm⟩, hJx3⟩⟩
    · obtain rfl : k = len := by omega
      gi_wp2
      go_end0
      exact ⟨⟨_, rfl⟩, .inl ⟨_, rfl, hJs⟩⟩

/-- The slice value sv holds the ints zs, in a block below n₀; or it is nil and there are none. -/
def IntsR (n₀ : Nat) (W : World) (sv : Value) (zs : List Int) : Prop :=
  (sv = .slice none 0 0 ∧ zs = []) ∨ ∃ b off cap, sv = .slice (some ⟨b, off, none⟩) zs.length cap ∧ b < n₀ ∧ ∀ j, j < zs.length → W.cell? ⟨b, off + j, none⟩ = some (.int .i64 (zs[j]?.getD 0))
theorem IntsR.below {n₀ : Nat} {A B : World} (h : Below n₀ A B) {sv : Value} {zs : List Int} : IntsR n₀ A sv zs → IntsR n₀ B sv zs
  | .inl e => .inl e
  | .inr ⟨b, off, cap, e, hb, hc⟩ => .inr ⟨b, off, cap, e, hb, fun j hj => (h.cell (p := ⟨b, off + j, none⟩) hb).trans (hc j hj)⟩

set_option maxRecDepth 100000 in
set_option maxHeartbeats 1000000 in
theorem values1_nil_in (F : Fence) (n : Nat) (h7 : F.fn 125) (hro : F.round = none) (l Bs : Nat) (J : List Int → World → Prop) (W : World) (hBs : W.cell? ⟨Bs, 0, none⟩ = some (.slice none 0 0)) (h0 : J [] W) :
    CallsIn F n Tryd.prog 125 #[.func (.yield l) #[] #[], .pointer (some ⟨Bs, 0, none⟩)] W fun e W' => (∃ v, e = .returned v) ∧ J [] W' := by
  refine callsIn_of_wp Tryd.func125 rfl h7 ?_ hro
  simp only [Tryd.ntmps125, List.size_toArray, List.length_cons, List.length_nil, Nat.reduceAdd, Nat.reduceSub, Array.replicate_succ, Array.replicate_zero, List.push_toArray, List.append_toArray, List.nil_append, List.cons_append]
  gi_wp2
  gi_loopw [7] (fun i wr => i = .int .i64 0 ∧ J [] wr) (fun _ _ => 0)
  case atStart => exact ⟨rfl, h0⟩
  case round =>
    obtain ⟨rfl, hJs⟩ := hrel
    gi_wp2
    go_end0
    exact ⟨⟨_, rfl⟩, hJs⟩

theorem values_stops (F : Fence) (n : Nat) (h7 : F.fn 125) (hro : F.round = none) (hn : 1 ≤ n) (Bs n₀ : Nat) (sv : Value) (zs : List Int) (hreach : zs.length * 8 ≤ 140737488351232) (w : World) (hBs : Bs < w.heap.size) (hn₀ : n₀ ≤ w.heap.size)
    (hc : w.cell? ⟨Bs, 0, none⟩ = some sv) (hI : IntsR n₀ w sv zs) :
    SeqStopsK F n Tryd.prog 125 #[.pointer (some ⟨Bs, 0, none⟩)] (fun x : Int => #[Value.int .i64 x]) (Below n₀) (fun ys => ys = zs) (fun pre => pre <+: zs) zs.length w := fun l J Jx W hW _ _ hY h0 => by
  have hc' := (hW.cell (p := ⟨Bs, 0, none⟩) hBs).trans hc
  rcases hI.below (hW.mono hn₀) with ⟨rfl, rfl⟩ | ⟨b, off, cap, rfl, hb, hcs⟩
  · exact (values1_nil_in F n h7 hro l Bs J W hc' h0).mono fun e W' ⟨he, hj⟩ => ⟨he, .inl ⟨_, rfl, hj⟩⟩
  · refine (values1_in F n h7 hro hn l Bs n₀ b off zs.length cap zs hreach hb J Jx hY W hc' hcs h0).mono ?_
    rintro e W' ⟨he, ⟨ys, rfl, hj⟩ | ⟨pre, ⟨k, hk, rfl⟩, hj⟩⟩
    · exact ⟨he, .inl ⟨_, uptoR_all zs, hj⟩⟩
    · exact ⟨he, .inr ⟨_, by rw [uptoR_take zs hk]; exact List.take_prefix _ _, hj⟩⟩

theorem infoR3 : (Tryd.prog.info? 3).map (fun i => (i.zero, i.size, i.bytes)) = some (some (.int .i64 0), 1, 8) := by kernel_rfl

set_option maxRecDepth 100000 in
set_option maxHeartbeats 2000000 in
/-- slices.AppendSeq(nil, slices.Values(zs)): a new row with zs. -/
theorem appendSeq_in (F : Fence) (n : Nat) (h3 : F.fn 134) (h5 : F.fn 125) (hro : F.round = none) (hn : 3 ≤ n) (Bs : Nat) (sv : Value) (zs : List Int) (hlen : zs.length ≤ maxLen) (hbytes : zs.length * 8 ≤ 140737488351232) (w : World) (hBs : Bs < w.heap.size)
    (hcs : w.cell? ⟨Bs, 0, none⟩ = some sv) (hI : IntsR w.heap.size w sv zs) :
    CallsIn F n Tryd.prog 134 #[.slice none 0 0, .func (.func 125) #[] #[.pointer (some ⟨Bs, 0, none⟩)]] w fun e W' => ∃ v, e = .returned v ∧ W'.ownsRow w.heap.size 3 1 v zs.length (zs.map (Value.int .i64)) ∧ (v = .slice none 0 0 ↔ zs = []) ∧ Below w.heap.size w W' := by
  have h1 : 1 ≤ n := by omega
  obtain ⟨i0, hi, hz0, hz1, hz2⟩ := info_parts infoR3
  refine callsIn_of_wp_marks Tryd.func134 rfl h3 ?_ hro
  simp only [Tryd.ntmps134, List.size_toArray, List.length_cons, List.length_nil, Nat.reduceAdd, Nat.reduceSub, Array.replicate_succ, Array.replicate_zero, List.push_toArray, List.append_toArray, List.nil_append, List.cons_append]
  gi_wp2
  have bO := Boxed.new w 32 (.slice none 0 0)
  have hB0 : Below w.heap.size w (w.alloc (.cells #[.slice none 0 0] 32)) := (Below.refl _ w).alloc (Nat.le_refl _) _
  refine wpIn_rangeFunc_ownG hro h1 (gf := 125) (lb := #[.pointer (some ⟨Bs, 0, none⟩)]) rfl h5 (enters_of Tryd.func125 (by kernel_rfl) rfl)
    (values_stops F (n - 1) h5 hro (by omega) Bs w.heap.size sv zs hbytes (w.alloc (.cells #[.slice none 0 0] 32)) (by simp; omega) (by simp) ((hB0.cell (p := ⟨Bs, 0, none⟩) hBs).trans hcs) (hI.below hB0)) belowK_t (belowK_b (by simp)) (Below.refl _ _) (fun _ => rfl)
    (fun pre W => (∃ v, Boxed W w.heap.size 32 v ∧ W.ownsRow w.heap.size 3 1 v pre.length (pre.map (Value.int .i64)) ∧ (v = .slice none 0 0 ↔ pre = [])) ∧ Below w.heap.size w W)
    (fun _ _ _ => False)
    (OwnFrom.and (Own.from (holdsRow_own w.heap.size w.heap.size 32 3 1 (fun pre : List Int => pre.length) (fun pre : List Int => pre.map (Value.int .i64)) (fun (pre : List Int) v => v = .slice none 0 0 ↔ pre = [])) _) (ownFrom_below (Nat.le_refl _) (by simp)))
    (fun _ _ _ _ _ hs _ _ => hs)
    ⟨⟨_, bO, World.ownsRow_nil _ _ _ _, by simp⟩, hB0⟩
    (fun x => { tmps := #[.slice none 0 0, .func (.func 125) #[] #[.pointer (some ⟨Bs, 0, none⟩)], .pointer (some ⟨w.heap.size, 0, none⟩), undef, .slice none 0 0, .int .i64 x, .func (.func 125) #[] #[.pointer (some ⟨Bs, 0, none⟩)], .int .i64 x, undef, undef, undef, undef, undef], defers := [] }) ?assign ?body ?done ?stop
  case assign =>
    intro l x W K hK
    gi_wp2
    exact hK
  case body =>
    rintro l pre x W ⟨⟨v, hv, hrow, hnil⟩, hB⟩ hlt
    have hc := hv.cell
    gi_wp2_with (gi_at_builtin; refine wpListIn_append_own _ rfl _ _ 32 rfl w.heap.size 3 i0 (.int .i64 0) 1 8 Tryd.underlying32 hi hz0 hz1 hz2 rfl (by decide) _ _ _ rfl (hrow.alloc _) ⟨W.heap.size, 0, none⟩ 1 1 [.int .i64 x] rfl rfl (cell_one_new _ _ _) (by simp [Value.oneCell']) (by omega) (by omega) (by have := hB.size; simp; omega) ?_; intro v' w1 hown' hgrow _; obtain ⟨g', cap', rfl⟩ := ownsRow_succ hown'; obtain ⟨hv1, hv2, hr2, hk2, hb2⟩ := hv.appended (by decide) hrow hB.size (Nat.le_refl _) hown' hgrow; have hc1 := hv1.cell; have hf1 := hv1.frozen)
    exact ⟨hk2.from _, hb2, ⟨_, hv2, by simpa using hr2, by simp⟩, hB.trans hb2⟩
  case done =>
    rintro D ys W hD rfl ⟨⟨v, hv, hrow, hnil⟩, hB⟩ hK
    have hc := hv.cell
    gi_wp2
    refine ⟨by simp, .inl ⟨_, _, rfl, run_takeDeferred hK, ?_⟩⟩
    exact ⟨_, results_tmp rfl _ _ _, v, rfl, ownsRow_putObj hrow _ hK rfl, hnil, hB.trans (belowK_b (w := w) (Nat.le_refl _) W D _ _ (by simp at hD; omega) hK rfl rfl)⟩
  case stop =>
    rintro D c pre W _ _ h _
    exact h.elim

set_option maxHeartbeats 1000000 in
/-- slices.Values(s): the slice value is boxed. -/
theorem values_in (F : Fence) (n : Nat) (h5 : F.fn 113) (hro : F.round = none) (a : Option Addr) (len cap : Nat) (w : World) :
    CallsIn F n Tryd.prog 113 #[.slice a len cap] w fun e w' => e = .returned (.func (.func 125) #[] #[.pointer (some ⟨w.heap.size, 0, none⟩)]) ∧ w' = w.alloc (.cells #[.slice a len cap] 32) := by
  refine callsIn_of_wp Tryd.func113 rfl h5 ?_ hro
  simp only [Tryd.ntmps113, List.size_toArray, List.length_cons, List.length_nil, Nat.reduceAdd, Nat.reduceSub, Array.replicate_succ, Array.replicate_zero, List.push_toArray, List.append_toArray, List.nil_append, List.cons_append]
  gi_wp2
  go_ret
  exact ⟨rfl, rfl⟩

theorem ownsRow_sliceR {W : World} {base : Nat} {e : TypeId} {size : Nat} {v : Value} {k : Nat} {xs : List Value} (h : W.ownsRow base e size v k xs) : ∃ a l c, v = .slice a l c := by
  rcases h.2 with ⟨rfl, _⟩ | ⟨g, cap, _, rfl, _⟩
  · exact ⟨_, _, _, rfl⟩
  · exact ⟨_, _, _, rfl⟩

set_option maxRecDepth 100000 in
set_option maxHeartbeats 1000000 in
/-- slices.Collect. -/
theorem collect_in (F : Fence) (n : Nat) (h2 : F.fn 123) (h3 : F.fn 134) (h5 : F.fn 125) (hro : F.round = none) (hn : 4 ≤ n) (Bs : Nat) (sv : Value) (zs : List Int) (hlen : zs.length ≤ maxLen) (hbytes : zs.length * 8 ≤ 140737488351232) (w : World) (hBs : Bs < w.heap.size)
    (hcs : w.cell? ⟨Bs, 0, none⟩ = some sv) (hI : IntsR w.heap.size w sv zs) :
    CallsIn F n Tryd.prog 123 #[.func (.func 125) #[] #[.pointer (some ⟨Bs, 0, none⟩)]] w fun e W' => ∃ v, e = .returned v ∧ W'.ownsRow w.heap.size 3 1 v zs.length (zs.map (Value.int .i64)) ∧ (v = .slice none 0 0 ↔ zs = []) ∧ Below w.heap.size w W' := by
  have h1 : 1 ≤ n := by omega
  refine callsIn_of_wp Tryd.func123 rfl h2 ?_ hro
  simp only [Tryd.ntmps123, List.size_toArray, List.length_cons, List.length_nil, Nat.reduceAdd, Nat.reduceSub, Array.replicate_succ, Array.replicate_zero, List.push_toArray, List.append_toArray, List.nil_append, List.cons_append]
  gi_wp2_with (gi_at_call 134; refine (appendSeq_in F (n - 1) h3 h5 hro (by omega) Bs sv zs hlen hbytes w hBs hcs hI).mono ?_; rintro e W ⟨v, rfl, hrow, hnil, hb⟩; obtain ⟨a9, l9, c9, rfl⟩ := ownsRow_sliceR hrow)
  go_ret
  exact ⟨_, rfl, hrow, hnil, hb⟩


theorem ownsRow_sortedR {w : World} {base g cap n : Nat} {e : TypeId} {os : Array Obj} {cur : Array Value} {ss ts : List Int} (hl : ts.length = ss.length) (hbase : base ≤ g) (hb : w.heap[g]? = some (.cells cur e (0, 0)))
    (h1 : ss.length ≤ cap) (h2 : cap ≤ maxLen) (h3 : cur.size = cap * 1) :
    (grow (putRow (Value.int .i64) (Sort.ahead w n) g 0 ts.toArray) os).ownsRow base e 1 (.slice (some ⟨g, 0, none⟩) ss.length cap) ss.length (ts.map (Value.int .i64)) := ownsRow_sorted_i hl hbase hb h1 h2 h3

set_option maxRecDepth 100000 in
set_option maxHeartbeats 1000000 in
/-- slices.Sorted(slices.Values(zs)). -/
theorem sorted_in (n : Nat) (hn : 5 ≤ n) (Bs : Nat) (sv : Value) (zs : List Int) (hlen : zs.length ≤ 1000000) (w : World) (hBs : Bs < w.heap.size)
    (hcs : w.cell? ⟨Bs, 0, none⟩ = some sv) (hI : IntsR w.heap.size w sv zs) :
    CallsIn Fence.wide n Tryd.prog 112 #[.func (.func 125) #[] #[.pointer (some ⟨Bs, 0, none⟩)]] w fun e W' => ∃ v, e = .returned v ∧ W'.ownsRow w.heap.size 3 1 v zs.length ((zs.mergeSort fun x y => decide (x ≤ y)).map (Value.int .i64)) ∧ (v = .slice none 0 0 ↔ zs = []) ∧ Below w.heap.size w W' := by
  have h1 : 1 ≤ n := by omega
  refine callsIn_of_wp Tryd.func112 rfl trivial ?_ rfl
  simp only [Tryd.ntmps112, List.size_toArray, List.length_cons, List.length_nil, Nat.reduceAdd, Nat.reduceSub, Array.replicate_succ, Array.replicate_zero, List.push_toArray, List.append_toArray, List.nil_append, List.cons_append]
  have cC := collect_in Fence.wide (n - 1) trivial trivial trivial rfl (by omega) Bs sv zs (Nat.le_trans hlen (by decide)) (by omega) w hBs hcs hI
  gi_wp2_with (refine ⟨trivial, ?_⟩; gi_at_call 123; refine cC.mono ?_; rintro e W ⟨v, rfl, hrow, hnil, hb⟩; obtain ⟨a9, l9, c9, rfl⟩ := ownsRow_sliceR hrow)
  rcases hrow.2 with ⟨hs, hz⟩ | ⟨gb, cap, cur, hs, hbase, hgb, r1, r2, r3, r4⟩
  · have hss : zs = [] := List.eq_nil_of_length_eq_zero hz
    subst hss
    cases hs
    have cS := callsIn_wide (n := n - 1) |>.2 (Tryd.slices_Sort_int_none none 0 W)
    gi_wp2_with (refine ⟨trivial, ?_⟩; gi_at_call 124; refine cS.mono ?_; rintro e w' ⟨rfl, rfl⟩)
    go_ret
    exact ⟨.slice none 0 0, rfl, by simpa using hrow, by simp, hb⟩
  · cases hs
    have hH : Holds (Value.int .i64) W gb 0 zs.toArray := holds_of_block_i hgb (by simpa using r4)
    have hgl : gb < W.heap.size := (Array.getElem?_eq_some_iff.1 hgb).1
    have cS := callsIn_wide (n := n - 1) |>.2 (Tryd.slices_Sort_int gb 0 c9 zs W hH hgl (by omega))
    gi_wp2_with (refine ⟨trivial, ?_⟩; gi_at_call 124; refine cS.mono ?_; rintro e w' ⟨rfl, nn, os, rfl⟩)
    go_ret
    exact ⟨_, rfl, ownsRow_sortedR (by simp) hbase hgb r1 r2 r3, hnil, hb.grown (grownBy_sorted_i _) hb.size (fun j hj => by cases hj; exact hbase)⟩

end Go.Proofs.Tryd
end

section
/- BY HAND: slices.Values. -/
namespace Go.Proofs.YtimadnngfhbfiaaDoor
open Go Go.Mu
theorem fr_of_below {h : H} {w w' : World} (b : Go.RowKit.Below w.heap.size w w') (s : Sat h w) : Sat h w' ∧ Fr h w h w' := by
  obtain ⟨h1, h2, h3, h4, h5⟩ := b
  exact ⟨fun c x e => by rw [h5 c (s.lt e)]; exact s c x e, ⟨h4, h1, h2, h3, fun c hc ho => ⟨h5 c hc, id, ho⟩⟩⟩
theorem Sat.none_of_ge {h : H} {w : World} (s : Sat h w) {g : Nat} (hg : w.heap.size ≤ g) : h g = none := by
  cases e : h g with
  | none => rfl
  | some x => exact absurd (s.lt e) (by omega)
/-- A call that lays one new row of its own, or none. -/
theorem acall_row {P : Program} {f : FuncId} {args : Array Value} {h : H} {K : Value → H → Prop}
    (c : ∀ w, Sat h w → Calls P f args w fun e w' => ∃ v, e = .returned v ∧ RowKit.Below w.heap.size w w' ∧
      (K v h ∨ ∃ g cur e vs, w.heap.size ≤ g ∧ w'.heap[g]? = some (.cells cur e (0, 0)) ∧ vs <+: cur.toList ∧ K v (h.set g (.row ⟨vs, cur.size, e, true, true⟩)))) : ACall P f args h K := by
  intro w s
  refine (c w s).mono ?_
  rintro e w' ⟨v, rfl, b, hk | ⟨g, cur, t, vs, hg, hc, hp, hk⟩⟩
  · exact ⟨v, h, rfl, (fr_of_below b s).1, (fr_of_below b s).2, hk⟩
  · obtain ⟨s', fr⟩ := fr_of_below b s
    refine ⟨v, _, rfl, ?_, ?_, hk⟩
    · intro b' x e
      by_cases hb : b' = g
      · subst hb
        rw [H.set_eq] at e; cases e
        exact ⟨cur, (0, 0), hc, rfl, hp, fun _ i _ _ => Nat.not_lt_zero _, fun _ => rfl⟩
      · rw [H.set_ne _ _ hb] at e
        exact s' _ _ e
    · refine ⟨fr.size, fr.os, fr.tape, fr.output, fun b' hb' ho => ?_⟩
      have hb : b' ≠ g := by omega
      rw [H.set_ne _ _ hb]
      exact fr.keep b' hb' ho
theorem f113_ok {p0 : Sl} {h : H} {K : Value → H → Prop} (hS : S113 p0 h K) : ACall Tryd.prog 113 ([(.slice p0.a p0.l p0.c)] : List Value).toArray h (fun r h' => ∃ r0 : Value, r = tup [r0] ∧ K r0 h') := by
  refine acall_row fun w s => (callsIn_wide.1 (Tryd.values_in Fence.wide 1 trivial rfl p0.a p0.l p0.c w)).mono ?_
  rintro e w' ⟨rfl, rfl⟩
  refine ⟨_, rfl, (RowKit.Below.refl _ w).alloc (Nat.le_refl _) _, .inr ⟨w.heap.size, #[p0.v], 32, [p0.v], Nat.le_refl _, World.alloc_heap_new w _, List.prefix_refl _, _, rfl, hS _ _ (Sat.none_of_ge s (Nat.le_refl _)) rfl⟩⟩
end Go.Proofs.YtimadnngfhbfiaaDoor
end

section
/- BY HAND: slices.Compact. -/
namespace Go.Proofs.YtimadnngfhbfiaaDoor
open Go Go.Mu
theorem setL_all : ∀ (vs l : List Value), vs.length = l.length → setL l 0 vs = vs := by
  have key : ∀ (vs : List Value) (l : List Value) (i : Nat), i + vs.length = l.length → setL l i vs = l.take i ++ vs := by
    intro vs
    induction vs with
    | nil => intro l i hl; simp [setL, List.take_of_length_le (show l.length ≤ i by simpa using Nat.le_of_eq hl.symm)]
    | cons v vs ih =>
      intro l i hl
      rw [setL, ih _ _ (by simp at hl ⊢; omega)]
      simp at hl
      rw [List.take_set, List.take_succ_eq_append_getElem (show i < l.length by omega), List.set_append_right _ _ (by simp; omega)]
      simp [Nat.min_eq_left (show i ≤ l.length by omega)]
  intro vs l hl
  rw [key vs l 0 (by omega)]; rfl
theorem f111_ok {p0 : Sl} {h : H} {K : Sl → H → Prop} (hS : S111 p0 h K) : ACall Tryd.prog 111 ([(.slice p0.a p0.l p0.c)] : List Value).toArray h (fun r h' => ∃ r0 : Sl, r = tup [(.slice r0.a r0.l r0.c)] ∧ K r0 h') := by
  rcases hS with ⟨rfl, hk⟩ | ⟨g, c, r, zs, rfl, hc, hlen, hg, hw, hcells, hk⟩
  · intro w s
    refine (Tryd.slices_Compact_int_empty none 0 w).mono ?_
    rintro e w' ⟨rfl, rfl⟩
    exact ⟨_, h, rfl, s, Fr.refl h _, Sl.nil, rfl, hk⟩
  · intro w s
    have hz : ∀ j, j < zs.length → w.cell? ⟨g, 0 + j, none⟩ = some (.int .i64 (zs.getD j 0)) := fun j hj => by
      refine s.rd ?_
      simp [H.rd, hg, hcells, hj]
    obtain ⟨ca, fz, hcell, htot, hp, hfz, _⟩ := s _ _ hg
    have hl : zs.length ≤ r.total := by
      rw [← htot, ← Array.length_toList]
      have := hp.length_le
      rw [hcells] at this
      simpa using this
    have hf : ∀ j, j < zs.length → w.frozen? ⟨g, 0 + j, none⟩ = false := fun j hj => by
      have h2 := hfz hw j (by omega)
      obtain ⟨lo, hi⟩ := fz
      simp only [World.frozen?, hcell]
      simp only at h2
      by_cases hlo : lo ≤ 0 + j
      · have := h2 (by omega)
        simpa [Nat.zero_add] using fun _ => Nat.le_of_not_lt this
      · simp [Nat.zero_add] at hlo ⊢
        intro hh
        omega
    refine (Tryd.slices_Compact_int_cells g 0 zs.length c zs w (Nat.le_refl _) (by omega) hc hz hf).mono ?_
    rintro e w' ⟨rfl, q, rfl⟩
    rw [List.take_length]
    have hle : (Lib.compact zs).length ≤ zs.length := Lib.compact_length_le zs
    have hlen2 : ((Lib.compact zs ++ List.replicate (zs.length - (Lib.compact zs).length) 0).map (Value.int .i64)).length = zs.length := by
      simp; omega
    have hlen1 : r.cells.length = zs.length := by rw [hcells]; simp
    obtain ⟨s1, f1⟩ := Sat.setCells ((Lib.compact zs ++ List.replicate (zs.length - (Lib.compact zs).length) 0).map (Value.int .i64)) (o := 0) (s.drew (w.drawn + q)) hg hw (by omega)
    refine ⟨_, _, rfl, s1, (Fr.drew0 h w (w.drawn + q)).trans f1, ⟨_, _, _⟩, rfl, hk _ ?_⟩
    congr 1
    exact setL_all _ _ (by omega)
end Go.Proofs.YtimadnngfhbfiaaDoor
end

section
/- BY HAND: slices.Sorted of slices.Values. -/
namespace Go.Proofs.YtimadnngfhbfiaaDoor
open Go Go.Mu
theorem intsR_of {h : H} {w : World} (s : Sat h w) {xs : List Int} {b o c : Nat} (hne : xs ≠ []) (hr : h.rdn ⟨b, o, none⟩ xs.length (xs.map (.int .i64))) : Tryd.IntsR w.heap.size w (.slice (some ⟨b, o, none⟩) xs.length c) xs := by
  have key : ∀ j, j < xs.length → w.cell? ⟨b, o + j, none⟩ = some (.int .i64 (xs[j]?.getD 0)) := fun j hj => by
    have := s.rd (hr.2 j (.int .i64 (xs[j]?.getD 0)) (by simp [hj]))
    rwa [Addr.add_n] at this
  refine .inr ⟨b, o, c, rfl, ?_, key⟩
  have h0 := key 0 (List.length_pos_iff.2 hne)
  rcases Nat.lt_or_ge b w.heap.size with hl | hl
  · exact hl
  · simp [World.cell?, Array.getElem?_eq_none hl] at h0
theorem f112_ok {p0 : Value} {h : H} {K : Sl → H → Prop} (hS : S112 p0 h K) : ACall Tryd.prog 112 ([p0] : List Value).toArray h (fun r h' => ∃ r0 : Sl, r = tup [(.slice r0.a r0.l r0.c)] ∧ K r0 h') := by
  obtain ⟨b, s, xs, rfl, hb, hlen, hS⟩ := hS
  refine acall_row fun w sw => ?_
  have hcb := sw.rd hb
  have hlt : b < w.heap.size := by
    rcases Nat.lt_or_ge b w.heap.size with hl | hl
    · exact hl
    · simp [World.cell?, Array.getElem?_eq_none hl] at hcb
  have hI : Tryd.IntsR w.heap.size w s.v xs := by
    rcases hS with ⟨rfl, rfl, _⟩ | ⟨hne, hl, ⟨⟨b', o, sp⟩, ha, hr⟩, _⟩
    · exact .inl ⟨rfl, rfl⟩
    · obtain rfl : sp = none := by
        have := hr.2 0 (.int .i64 (xs[0]?.getD 0)) (by simp [List.length_pos_iff.2 hne])
        cases sp with
        | none => rfl
        | some q => simp [H.rd, Addr.add] at this
      have := intsR_of sw (c := s.c) hne hr
      simpa only [Sl.v, ha, hl] using this
  refine (callsIn_wide.1 (Tryd.sorted_in 5 (Nat.le_refl _) b s.v xs hlen w hlt hcb hI)).mono ?_
  rintro e w' ⟨v, rfl, hrow, hnil, hB⟩
  refine ⟨v, rfl, hB, ?_⟩
  rcases hS with ⟨rfl, rfl, hk⟩ | ⟨hne, hl, _, hk⟩
  · obtain rfl := hnil.2 rfl
    exact .inl ⟨Sl.nil, rfl, hk⟩
  · rcases hrow.2 with ⟨hv, _⟩ | ⟨g, cap, cur, rfl, hg, hc, h1, h2, h3, h4⟩
    · exact absurd (hnil.1 hv) hne
    · refine .inr ⟨g, cur, 3, (sorted xs).map (.int .i64), hg, hc, ?_, ⟨some ⟨g, 0, none⟩, xs.length, cap⟩, rfl, hk g cap _ (Sat.none_of_ge sw hg) h1 ?_⟩
      · rw [show (sorted xs).map (Value.int .i64) = cur.toList.take (xs.length * 1) from h4.symm]; exact List.take_prefix _ _
      · rw [h3, Nat.mul_one]
end Go.Proofs.YtimadnngfhbfiaaDoor
end

section
/- BY HAND: slices.BinarySearch. -/
namespace Go.Proofs.YtimadnngfhbfiaaDoor
open Go Go.Mu
theorem f114_ok {p0 : Sl} {p1 : Int} {h : H} {K : Int → Bool → H → Prop} (hS : S114 p0 p1 h K) : ACall Tryd.prog 114 ([(.slice p0.a p0.l p0.c), (.int .i64 p1)] : List Value).toArray h (fun r h' => ∃ (r0 : Int) (r1 : Bool), r = tup [(.int .i64 r0), (.bool r1)] ∧ K r0 r1 h') := by
  obtain ⟨zs, hl, hlen, hpw, hz, hk⟩ := hS
  intro w s
  rcases hz with rfl | ⟨b, o, ha, hr⟩
  · have := Tryd.slices_BinarySearch_int_empty p0.a p0.c p1 w
    rw [hl]
    refine this.mono ?_
    rintro e w' ⟨rfl, rfl⟩
    exact ⟨_, h, rfl, s, Fr.refl h _, _, _, rfl, hk⟩
  · have hz : ∀ j, j < zs.length → w.cell? ⟨b, o + j, none⟩ = some (.int .i64 (zs.getD j 0)) := fun j hj => by
      have := s.rd (hr.2 j (.int .i64 (zs.getD j 0)) (by simp [hj]))
      rwa [Addr.add_n] at this
    rw [ha, hl]
    refine (Tryd.slices_BinarySearch_int b o zs.length p0.c zs p1 w (Nat.le_refl _) (by omega) hz (by rw [List.take_length]; exact hpw)).mono ?_
    rintro e w' ⟨rfl, q, rfl⟩
    rw [List.take_length]
    exact ⟨_, h, rfl, s.drew _, Fr.drew0 h w _, _, _, rfl, hk⟩
end Go.Proofs.YtimadnngfhbfiaaDoor
end

section
namespace Go.Proofs.YtimadnngfhbfiaaDoor
open Go Go.Mu
set_option maxHeartbeats 4000000
set_option maxRecDepth 100000
theorem f104_ok {p0 : Sl} {h : H} {K : Sl → H → Prop} (hS : S104 p0 h K) : ACall Tryd.prog 104 ([(.slice p0.a p0.l p0.c)] : List Value).toArray h (fun r h' => ∃ r0 : Sl, r = tup [(.slice r0.a r0.l r0.c)] ∧ K r0 h') := by
  refine ACall.enter (fn := Tryd.f104) Tryd.func104 rfl (Nat.le_of_ble_eq_true rfl) ?_; unfold S104 at hS; have ok := Lok.nil h; refine EvC.seq (Xr [.look 0] (Xa rfl rfl rfl rfl fun _ => ?_)); refine R.nil (EvC.seq (Xr [.look 0, .eff 1 [], .eff 2 [], .eff 3 [], .look 4] (Xm rfl rfl rfl rfl fun _ => R.eff rfl rfl rfl (Eff.loc ok (Ef.call rfl CB113 rfl ((f113_ok hS).mono ?_)))))); rintro _ h_1 ⟨v8, rfl, hS⟩; refine fun ok => ⟨noChk, ?_⟩; refine R.eff rfl rfl rfl (Eff.loc ok (Ef.call rfl CB112 rfl ((f112_ok hS).mono ?_))); rintro _ h_2 ⟨v9, rfl, hS⟩; refine fun ok => ⟨noChk, ?_⟩; refine R.eff rfl rfl rfl (Eff.loc ok (Ef.call rfl CB111 rfl ((f111_ok hS).mono ?_))); rintro _ h_3 ⟨v10, rfl, hS⟩; refine fun ok => ⟨noChk, ?_⟩; refine Xa rfl rfl rfl rfl fun _ => ?_; refine R.nil (EvC.seq (Xr [.look 0, .look 1, .alc 2, .look 3] (Xm rfl rfl rfl rfl fun _ => Xk rfl rfl (Lk.len rfl Tryd.underlying32 rfl) fun _ => ?_)))
  obtain ⟨e1, e2, e3, e4, hS⟩ := hS
  refine R.new (blk := (.row ⟨zeros (i6 0) (Int.toNat (p0.l : Int) * 1), (zeros (i6 0) (Int.toNat (p0.l : Int) * 1)).length, 3, true, true⟩)) ok rfl rfl rfl (Ac.makeSlice rfl Tryd.underlying32 T3 rfl rfl e1 e2 e3 e4) rfl rfl fun b13 e5 ok => ?_; replace hS := hS b13 _ e5 rfl; refine Xa rfl rfl rfl rfl fun _ => ?_; refine R.nil (EvC.join (σ := Unit) (fun s => (Ep E0 4 (.slice (some ⟨b13, 0, none⟩) (Int.toNat (p0.l : Int)) (Int.toNat (p0.l : Int))))) (fun s => []) (fun s h_5 => S104_j1 p0 K b13 h_5) ?_ (fun Ih_5 hIh_5 => ?_))
  · rintro ⟨⟩ h_5 ok hS; replace hS : S104_j1 p0 K b13 h_5 := hS; unfold S104_j1 at hS; refine EvC.seq (Xr [.look 0, .look 1] (Xm rfl rfl rfl rfl fun _ => ?_)); refine Xa rfl rfl rfl rfl fun _ => ?_; refine R.nil (EvC.ret ?_); exact ⟨.inr rfl, _, _, (.cons (.tmp rfl) .nil), ok.le, _, rfl, hS⟩
  · refine EvC.seq (Xr [.look 0, .look 1, .look 2] (Xm rfl rfl rfl rfl fun _ => ?_)); refine Xk rfl rfl (Lk.len rfl Tryd.underlying32 rfl) fun _ => ?_; refine Xm rfl rfl rfl rfl fun _ => ?_; refine R.nil (EvC.block (EvC.loop (LoopC.lfp (σ := Int) (fun s => (Ep (Ep (Ep (Ep (Ep E0 16 (i6 s)) 15 (i6 (p0.l : Int))) 14 (.slice p0.a p0.l p0.c)) 4 (.slice (some ⟨b13, 0, none⟩) (Int.toNat (p0.l : Int)) (Int.toNat (p0.l : Int)))) 3 (.slice v10.a v10.l v10.c))) (fun s => []) (fun X hX => ?_) hS (ok.sub sl0) (lq rfl (lq rfl (lq rfl (lq rfl (lq rfl (lz _)))))) (H.add_sub ok sl0)))); intro v16 h_6 hS ok; replace hS : S104_l2 p0 K v10 b13 X v16 h_6 := hS; unfold S104_l2 at hS; refine EvC.seq (Xr [.look 0] (Xk rfl rfl (Lk.arith rfl rfl rfl rfl) fun _ => ?_)); refine R.nil (EvC.seq ?_)
    by_cases e6 : (decide (v16 < (p0.l : Int))) = true
    · rw [if_pos e6] at hS; refine EvC.condT rfl e6 (EvC.skip (EvC.seq (EvC.block (EvC.seq (Xr [.look 0, .look 1, .look 2, .look 3, .look 4] (Xm rfl rfl rfl rfl fun _ => ?_))))))
      obtain ⟨a19, e7, e8, e9, hS⟩ := hS
      refine Xk rfl rfl (Lk.ixAddr rfl Tryd.underlying32 T3 rfl e7 rfl e8 e9) fun _ => ?_
      obtain ⟨v20, e10, hS⟩ := hS
      refine Xk rfl rfl (Look.loc ok (Lk.load1 rfl Tryd.underlying3 rfl rfl e10)) fun _ => ?_; refine Xa rfl rfl rfl rfl fun _ => ?_; refine Xa rfl rfl rfl rfl fun _ => ?_; refine R.nil (Xr [.look 0, .look 1, .look 2, .look 3, .eff 4 [], .look 5, .look 6, .look 7, .look 8, .eff 9 []] (Xm rfl rfl rfl rfl fun _ => Xm rfl rfl rfl rfl fun _ => Xm rfl rfl rfl rfl fun _ => Xm rfl rfl rfl rfl fun _ => R.eff rfl rfl rfl (Eff.loc ok (Ef.call rfl CB114 rfl ((f114_ok hS).mono ?_))))); rintro _ h_7 ⟨v26_0, v26_1, rfl, hS⟩; refine fun ok => ⟨noChk, ?_⟩; refine Xm rfl rfl rfl rfl fun _ => ?_; refine Xk rfl rfl (Lk.extract rfl rfl rfl) fun _ => ?_; refine Xk rfl rfl (Lk.extract rfl rfl rfl) fun _ => ?_
      obtain ⟨a29, e11, e12, e13, hS⟩ := hS
      refine Xk rfl rfl (Lk.ixAddr rfl Tryd.underlying32 T3 rfl e11 rfl e12 e13) fun _ => ?_
      obtain ⟨h_8, e14, hS⟩ := hS
      refine R.effN rfl rfl rfl (Eff.loc ok (Ef.store rfl T3 rfl rfl rfl rfl rfl e14 fun ok => ⟨noChk, ?_⟩)); refine R.nil (Xr [.look 0, .look 1] (Xk rfl rfl (Lk.arith rfl rfl rfl rfl) fun _ => Xm rfl rfl rfl rfl fun _ => R.nil ?_)); exact hX (IntKind.wrap .i64 (v16 + 1)) _ _ _ hS (ok.sub sl0) (lq rfl (lq rfl (lq rfl (lq rfl (lq rfl (lz _)))))) (H.add_sub ok sl0)
    · rw [if_neg e6] at hS; replace e6 := eq_false_of_ne_true e6; refine EvC.condF rfl e6 (EvC.exit ?_); exact hIh_5 () _ _ _ (lq rfl (lz _)) (ok.sub sl0) (H.add_sub ok sl0) hS

theorem f89_ok {p0 : Sl} {h : H} {K : Sl → H → Prop} (hS : S89 p0 h K) : ACall Tryd.prog 89 ([(.slice p0.a p0.l p0.c)] : List Value).toArray h (fun r h' => ∃ r0 : Sl, r = tup [(.slice r0.a r0.l r0.c)] ∧ K r0 h') := by
  refine ACall.enter (fn := Tryd.f89) Tryd.func89 rfl (Nat.le_of_ble_eq_true rfl) ?_; unfold S89 at hS; have ok := Lok.nil h; refine EvC.seq (Xr [.look 0] (Xa rfl rfl rfl rfl fun _ => ?_)); refine R.nil (EvC.seq (Xr [.look 0, .eff 1 [], .look 2] (Xm rfl rfl rfl rfl fun _ => R.eff rfl rfl rfl (Eff.loc ok (Ef.call rfl CB104 rfl ((f104_ok hS).mono ?_)))))); rintro _ h_1 ⟨v4, rfl, hS⟩; refine fun ok => ⟨noChk, ?_⟩; refine Xa rfl rfl rfl rfl fun _ => ?_; refine R.nil (EvC.ret ?_); exact ⟨.inr rfl, _, _, (.cons (.tmp rfl) .nil), ok.le, _, rfl, hS⟩

theorem f63_ok {p0 : Sl} {h : H} {K : Sl → H → Prop} (hS : S63 p0 h K) : ACall Tryd.prog 63 ([(.slice p0.a p0.l p0.c)] : List Value).toArray h (fun r h' => ∃ r0 : Sl, r = tup [(.slice r0.a r0.l r0.c)] ∧ K r0 h') := by
  refine ACall.enter (fn := Tryd.f63) Tryd.func63 rfl (Nat.le_of_ble_eq_true rfl) ?_; unfold S63 at hS; have ok := Lok.nil h; refine EvC.seq (Xr [.look 0] (Xa rfl rfl rfl rfl fun _ => ?_)); refine R.nil (EvC.seq (Xr [.look 0, .look 1] (Xa rfl rfl rfl rfl fun _ => Xa rfl rfl rfl rfl fun _ => R.nil (EvC.join (σ := Sl × Sl) (fun s => (Ep (Ep (Ep E0 4 (.slice s.2.a s.2.l s.2.c)) 3 (.slice s.1.a s.1.l s.1.c)) 0 (.slice p0.a p0.l p0.c))) (fun s => []) (fun s h_1 => S63_j3 p0 K s.1 s.2 h_1) ?_ (fun Ih_1 hIh_1 => ?_)))))
  · rintro ⟨v3, v4⟩ h_1 ok hS; replace hS : S63_j3 p0 K v3 v4 h_1 := hS; unfold S63_j3 at hS; refine EvC.seq (Xr [.look 0, .eff 1 [], .look 2, .eff 3 [], .look 4, .look 5] (Xm rfl rfl rfl rfl fun _ => ?_)); refine R.eff rfl rfl rfl (Eff.loc ok (Ef.call rfl CB89 rfl ((f89_ok hS).mono ?_))); rintro _ h_2 ⟨v27, rfl, hS⟩; refine fun ok => ⟨noChk, ?_⟩; refine Xm rfl rfl rfl rfl fun _ => ?_; refine R.eff rfl rfl rfl (Eff.loc ok (Ef.call rfl CB89 rfl ((f89_ok hS).mono ?_))); rintro _ h_3 ⟨v29, rfl, hS⟩; refine fun ok => ⟨noChk, ?_⟩; refine Xa rfl rfl rfl rfl fun _ => ?_; refine Xa rfl rfl rfl rfl fun _ => ?_; refine R.nil (EvC.seq (Xr [.look 0, .look 1, .alc 2, .look 3] (Xm rfl rfl rfl rfl fun _ => Xk rfl rfl (Lk.len rfl Tryd.underlying65 rfl) fun _ => ?_)))
    obtain ⟨e1, e2, e3, e4, hS⟩ := hS
    refine R.new (blk := (.row ⟨zeros (.agg #[(i6 0), (i6 0)]) (Int.toNat (p0.l : Int) * 2), (zeros (.agg #[(i6 0), (i6 0)]) (Int.toNat (p0.l : Int) * 2)).length, 67, true, true⟩)) ok rfl rfl rfl (Ac.makeSlice rfl Tryd.underlying65 T67 rfl rfl e1 e2 e3 e4) rfl rfl fun b32 e5 ok => ?_; replace hS := hS b32 _ e5 rfl; refine Xa rfl rfl rfl rfl fun _ => ?_; refine R.nil (EvC.join (σ := Unit) (fun s => (Ep E0 7 (.slice (some ⟨b32, 0, none⟩) (Int.toNat (p0.l : Int)) (Int.toNat (p0.l : Int))))) (fun s => []) (fun s h_5 => S63_j1 p0 K b32 h_5) ?_ (fun Ih_5 hIh_5 => ?_))
    · rintro ⟨⟩ h_5 ok hS; replace hS : S63_j1 p0 K b32 h_5 := hS; unfold S63_j1 at hS; refine EvC.seq (Xr [.look 0, .look 1] (Xm rfl rfl rfl rfl fun _ => ?_)); refine Xa rfl rfl rfl rfl fun _ => ?_; refine R.nil (EvC.ret ?_); exact ⟨.inr rfl, _, _, (.cons (.tmp rfl) .nil), ok.le, _, rfl, hS⟩
    · refine EvC.seq (Xr [.look 0, .look 1, .look 2] (Xm rfl rfl rfl rfl fun _ => ?_)); refine Xk rfl rfl (Lk.len rfl Tryd.underlying65 rfl) fun _ => ?_; refine Xm rfl rfl rfl rfl fun _ => ?_; refine R.nil (EvC.block (EvC.loop (LoopC.lfp (σ := Int) (fun s => (Ep (Ep (Ep (Ep (Ep E0 35 (i6 s)) 34 (i6 ((Int.toNat (p0.l : Int)) : Int))) 7 (.slice (some ⟨b32, 0, none⟩) (Int.toNat (p0.l : Int)) (Int.toNat (p0.l : Int)))) 4 (.slice v29.a v29.l v29.c)) 3 (.slice v27.a v27.l v27.c))) (fun s => []) (fun X hX => ?_) hS (ok.sub sl0) (lq rfl (lq rfl (lq rfl (lq rfl (lq rfl (lz _)))))) (H.add_sub ok sl0)))); intro v35 h_6 hS ok; replace hS : S63_l2 p0 K v27 v29 b32 X v35 h_6 := hS; unfold S63_l2 at hS; refine EvC.seq (Xr [.look 0] (Xk rfl rfl (Lk.arith rfl rfl rfl rfl) fun _ => ?_)); refine R.nil (EvC.seq ?_)
      by_cases e6 : (decide (v35 < ((Int.toNat (p0.l : Int)) : Int))) = true
      · rw [if_pos e6] at hS; refine EvC.condT rfl e6 (EvC.skip (EvC.seq (EvC.block (EvC.seq (Xr [.look 0, .look 1] (Xm rfl rfl rfl rfl fun _ => ?_)))))); refine Xa rfl rfl rfl rfl fun _ => ?_; refine R.nil (EvC.draw [0, 0, 0, 0, 12, 28, 0, 0, 192, 448, 1020, 2047, 4095] [Item.look 0, Item.look 1, Item.look 2, Item.look 3, Item.look 4, Item.look 5, Item.look 6, Item.look 7, Item.look 8, Item.look 9, Item.look 10, Item.look 11, Item.eff 12 []] MO (by kernel_rfl) ?_); refine Xm rfl rfl rfl rfl fun _ => ?_; refine Xm rfl rfl rfl rfl fun _ => ?_; refine Xm rfl rfl rfl rfl fun _ => ?_; refine Xm rfl rfl rfl rfl fun _ => ?_
        obtain ⟨a42, e7, e8, e9, hS⟩ := hS
        refine Xk rfl rfl (Lk.ixAddr rfl Tryd.underlying32 T3 rfl e7 rfl e8 e9) fun _ => ?_
        obtain ⟨v43, e10, hS⟩ := hS
        refine Xk rfl rfl (Look.loc ok (Lk.load1 rfl Tryd.underlying3 rfl rfl e10)) fun _ => ?_; refine Xm rfl rfl rfl rfl fun _ => ?_; refine Xm rfl rfl rfl rfl fun _ => ?_
        obtain ⟨a46, e11, e12, e13, hS⟩ := hS
        refine Xk rfl rfl (Lk.ixAddr rfl Tryd.underlying32 T3 rfl e11 rfl e12 e13) fun _ => ?_
        obtain ⟨v47, e14, hS⟩ := hS
        refine Xk rfl rfl (Look.loc ok (Lk.load1 rfl Tryd.underlying3 rfl rfl e14)) fun _ => ?_; refine Xk rfl rfl (Lk.build (cs := [(i6 v43), (i6 v47)]) (pl := [(0, 1), (1, 1)]) rfl Tryd.underlying67 T67 (PlacesL.places (.cons T3 (.cons T3 PlacesL.nil))) rfl rfl) fun _ => ?_
        obtain ⟨a49, e15, e16, e17, hS⟩ := hS
        refine Xk rfl rfl (Lk.ixAddr rfl Tryd.underlying65 T67 rfl e15 rfl e16 e17) fun _ => ?_
        obtain ⟨h_7, e18, hS⟩ := hS
        refine R.effN rfl rfl rfl (Eff.loc ok (Ef.store rfl T67 rfl rfl rfl rfl rfl e18 fun ok => ⟨noChk, ?_⟩)); refine R.nil (Xr [.look 0, .look 1] (Xk rfl rfl (Lk.arith rfl rfl rfl rfl) fun _ => Xm rfl rfl rfl rfl fun _ => R.nil ?_)); exact hX (IntKind.wrap .i64 (v35 + 1)) _ _ _ hS (ok.sub sl0) (lq rfl (lq rfl (lq rfl (lq rfl (lq rfl (lz _)))))) (H.add_sub ok sl0)
      · rw [if_neg e6] at hS; replace e6 := eq_false_of_ne_true e6; refine EvC.condF rfl e6 (EvC.exit ?_); exact hIh_5 () _ _ _ (lq rfl (lz _)) (ok.sub sl0) (H.add_sub ok sl0) hS
  · refine EvC.seq (Xr [.look 0, .look 1, .look 2] (Xm rfl rfl rfl rfl fun _ => ?_)); refine Xk rfl rfl (Lk.len rfl Tryd.underlying65 rfl) fun _ => ?_; refine Xm rfl rfl rfl rfl fun _ => ?_; refine R.nil (EvC.block (EvC.loop (LoopC.lfp (σ := Sl × Sl × Int) (fun s => (Ep (Ep (Ep (Ep (Ep (Ep E0 11 (i6 s.2.2)) 10 (i6 (p0.l : Int))) 9 (.slice p0.a p0.l p0.c)) 4 (.slice s.2.1.a s.2.1.l s.2.1.c)) 3 (.slice s.1.a s.1.l s.1.c)) 0 (.slice p0.a p0.l p0.c))) (fun s => []) (fun X_1 hX_1 => ?_) hS (ok.sub sl0) (lq rfl (lq rfl (lq rfl (lq rfl (lq rfl (lq rfl (lz _))))))) (H.add_sub ok sl0)))); rintro ⟨v3_1, v4_1, v11⟩ h_8 hS ok; replace hS : S63_l4 p0 K X_1 v3_1 v4_1 v11 h_8 := hS; unfold S63_l4 at hS; refine EvC.seq (Xr [.look 0] (Xk rfl rfl (Lk.arith rfl rfl rfl rfl) fun _ => ?_)); refine R.nil (EvC.seq ?_)
    by_cases e19 : (decide (v11 < (p0.l : Int))) = true
    · rw [if_pos e19] at hS; refine EvC.condT rfl e19 (EvC.skip (EvC.seq (EvC.block (EvC.seq (Xr [.look 0, .look 1, .alc 2, .eff 3 []] ?_)))))
      obtain ⟨a13, e20, e21, e22, hS⟩ := hS
      refine Xk rfl rfl (Lk.ixAddr rfl Tryd.underlying65 T67 rfl e20 rfl e21 e22) fun _ => ?_
      obtain ⟨v14_0, v14_1, e23, hS⟩ := hS
      refine Xk rfl rfl (Look.loc ok (Lk.loadN rfl Tryd.underlying67 rfl T67 rfl e23)) fun _ => ?_; refine R.var (blk := .row ⟨[(i6 0), (i6 0)], 2, 67, true, true⟩) ok rfl rfl rfl (Ac.alloc rfl T67) rfl rfl fun b6 ok => ?_; refine R.effN rfl rfl rfl (Ef.storeLoc (i := 0) (vs := [(i6 v14_0), (i6 v14_1)]) (cs := [(i6 v14_0), (i6 v14_1)]) (l' := [(b6, .row ⟨[(i6 v14_0), (i6 v14_1)], 2, 67, true, true⟩)]) ok rfl T67 rfl rfl rfl rfl rfl rfl rfl rfl rfl rfl fun ok => ⟨noChk, ?_⟩); refine R.nil (EvC.draw [0, 0, 2, 6, 15, 0, 0, 64, 192, 511, 1023, 2047] [Item.look 0, Item.look 1, Item.look 2, Item.look 5, Item.look 6, Item.look 7, Item.alc 3, Item.eff 4 [5, 6, 7], Item.alc 8, Item.eff 9 [], Item.look 10, Item.look 11] MO (by kernel_rfl) ?_); refine R.lookL rfl rfl rfl (Lk.move rfl rfl) ?_; refine R.lookL (v := (.pointer (some ⟨b6, 0, none⟩))) rfl rfl rfl (Lk.fldAddr rfl Tryd.underlying67 rfl rfl T3 rfl rfl rfl) ?_; refine R.lookL rfl rfl rfl (Lk.load1 (v := (i6 v14_0)) rfl Tryd.underlying3 rfl rfl (H.rd_loc ok (i := 0) rfl rfl)) ?_; refine R.lookL rfl rfl rfl (Lk.move rfl rfl) ?_; refine R.lookL (v := (.pointer (some ⟨b6, 1, none⟩))) rfl rfl rfl (Lk.fldAddr rfl Tryd.underlying67 rfl rfl T3 rfl rfl rfl) ?_; refine R.lookL rfl rfl rfl (Lk.load1 (v := (i6 v14_1)) rfl Tryd.underlying3 rfl rfl (H.rd_loc ok (i := 0) rfl rfl)) ?_; refine R.appL (cs := [(i6 v14_0)]) ok rfl rfl rfl rfl rfl rfl rfl rfl Tryd.underlying32 T3 rfl (by decide) (by decide) rfl rfl rfl rfl rfl (fun _ => rfl) hS ?_; intro bb18 v19 h_9 hS ok; refine ⟨(List.forall_mem_cons.2 ⟨(XP (XP (Log.at_ (LookG.of rfl (Lk.move rfl rfl))))), (List.forall_mem_cons.2 ⟨(XP (Log.at_ (LookG.of rfl (Lk.fldAddr rfl Tryd.underlying67 rfl rfl T3 rfl rfl rfl)))), (List.forall_mem_cons.2 ⟨(Log.at_ (LookG.of rfl (Lk.load1 (v := (i6 v14_1)) rfl Tryd.underlying3 rfl rfl (H.rd_loc ok (i := 0) rfl rfl)))), noChk⟩)⟩)⟩), ?_⟩; refine R.appL (cs := [(i6 v14_1)]) ok rfl rfl rfl rfl rfl rfl rfl rfl Tryd.underlying32 T3 rfl (by decide) (by decide) rfl rfl rfl rfl rfl (fun _ => rfl) hS ?_; intro bb23 v24 h_10 hS ok; refine ⟨noChk, ?_⟩; refine R.lookL rfl rfl rfl (Lk.assign rfl rfl) ?_; refine R.lookL rfl rfl rfl (Lk.assign rfl rfl) ?_; refine R.nil (Xr [.look 0, .look 1] (Xk rfl rfl (Lk.arith rfl rfl rfl rfl) fun _ => Xm rfl rfl rfl rfl fun _ => R.nil ?_)); exact hX_1 (v19, v24, (IntKind.wrap .i64 (v11 + 1))) _ _ _ hS (ok.sub (.cons _ sl0)) (lq rfl (lq rfl (lq rfl (lq rfl (lq rfl (lq rfl (lz _))))))) (H.add_sub ok (.cons _ sl0))
    · rw [if_neg e19] at hS; replace e19 := eq_false_of_ne_true e19; refine EvC.condF rfl e19 (EvC.exit ?_); exact hIh_1 (v3_1, v4_1) _ _ _ (lq rfl (lq rfl (lq rfl (lz _)))) (ok.sub sl0) (H.add_sub ok sl0) hS

theorem f27_ok {p0_0 : Sl} {p0_1 : Sl} {p1 : Sl} {h : H} {K : Sl → Sl → Int → H → Prop} (hS : S27 p0_0 p0_1 p1 h K) : ACall Tryd.prog 27 ([(.agg ([(.slice p0_0.a p0_0.l p0_0.c), (.slice p0_1.a p0_1.l p0_1.c)] : List Value).toArray), (.slice p1.a p1.l p1.c)] : List Value).toArray h (fun r h' => ∃ r0_0 : Sl, ∃ r0_1 : Sl, ∃ r1 : Int, r = tup [(.agg ([(.slice r0_0.a r0_0.l r0_0.c), (.slice r0_1.a r0_1.l r0_1.c)] : List Value).toArray), (i6 r1)] ∧ K r0_0 r0_1 r1 h') := by
  refine ACall.enter (fn := Tryd.f27) Tryd.func27 rfl (Nat.le_of_ble_eq_true rfl) ?_; unfold S27 at hS; have ok := Lok.nil h; refine EvC.seq (Xr [.alc 0, .alc 1, .look 2] (R.var (blk := .row ⟨[(.slice p0_0.a p0_0.l p0_0.c), (.slice p0_1.a p0_1.l p0_1.c)], 2, 29, true, true⟩) ok rfl rfl rfl (Ac.box rfl rfl) rfl rfl fun b2 ok => ?_)); refine R.var (blk := .row ⟨[(.slice none 0 0), (.slice none 0 0)], 2, 71, true, true⟩) ok rfl rfl rfl (Ac.alloc rfl T71) rfl rfl fun b4 ok => ?_; refine Xa rfl rfl rfl rfl fun _ => ?_; refine R.nil (EvC.seq (Xr [.look 0, .eff 1 [], .look 2, .look 3, .look 4, .alc 5, .eff 6 [], .look 7] (Xk rfl rfl (Lk.loadN (vs := [(.slice p0_0.a p0_0.l p0_0.c), (.slice p0_1.a p0_1.l p0_1.c)]) rfl Tryd.underlying29 rfl T29 rfl (H.rdn_loc ok (i := 1) rfl rfl rfl)) fun _ => R.eff rfl rfl rfl (Eff.loc ok (Ef.call rfl CB12 rfl ((f12_ok hS).mono ?_)))))); rintro _ h_1 ⟨v19_0_0, v19_0_1, v19_0_2, v19_1, rfl, hS⟩; refine fun ok => ⟨noChk, ?_⟩; refine Xm rfl rfl rfl rfl fun _ => ?_; refine Xk rfl rfl (Lk.extract rfl rfl rfl) fun _ => ?_; refine Xk rfl rfl (Lk.extract rfl rfl rfl) fun _ => ?_; refine R.var (blk := .row ⟨[(.slice none 0 0), (.slice none 0 0), (.slice none 0 0)], 3, 35, true, true⟩) ok rfl rfl rfl (Ac.alloc rfl T35) rfl rfl fun b6 ok => ?_; refine R.effN rfl rfl rfl (Ef.storeLoc (i := 0) (vs := [(.slice v19_0_0.a v19_0_0.l v19_0_0.c), (.slice v19_0_1.a v19_0_1.l v19_0_1.c), (.slice v19_0_2.a v19_0_2.l v19_0_2.c)]) (cs := [(.slice v19_0_0.a v19_0_0.l v19_0_0.c), (.slice v19_0_1.a v19_0_1.l v19_0_1.c), (.slice v19_0_2.a v19_0_2.l v19_0_2.c)]) (l' := [(b6, .row ⟨[(.slice v19_0_0.a v19_0_0.l v19_0_0.c), (.slice v19_0_1.a v19_0_1.l v19_0_1.c), (.slice v19_0_2.a v19_0_2.l v19_0_2.c)], 3, 35, true, true⟩), (b4, .row ⟨[(.slice none 0 0), (.slice none 0 0)], 2, 71, true, true⟩), (b2, .row ⟨[(.slice p0_0.a p0_0.l p0_0.c), (.slice p0_1.a p0_1.l p0_1.c)], 2, 29, true, true⟩)]) ok rfl T35 rfl rfl rfl rfl rfl rfl rfl rfl rfl rfl fun ok => ⟨noChk, ?_⟩); refine Xa rfl rfl rfl rfl fun _ => ?_; refine R.nil (EvC.seq (EvC.seq (Xr [.look 0, .look 1] (Xm rfl rfl rfl rfl fun _ => Xk rfl rfl (Lk.arith rfl rfl rfl rfl) fun _ => R.nil ?_))))
  by_cases e1 : (v19_1 != 0) = true
  · rw [if_pos e1] at hS; refine EvC.condT rfl e1 (EvC.seq (Xr [.look 0, .look 1, .eff 2 [], .look 3] (Xk rfl rfl (Lk.build (cs := [(.slice none 0 0), (.slice none 0 0)]) (pl := [(0, 1), (1, 1)]) rfl Tryd.underlying71 T71 (PlacesL.places (.cons T68 (.cons T69 PlacesL.nil))) rfl rfl) fun _ => ?_))); refine Xm rfl rfl rfl rfl fun _ => ?_; refine R.effN rfl rfl rfl (Ef.storeLoc (i := 1) (vs := [(.slice none 0 0), (.slice none 0 0)]) (cs := [(.slice none 0 0), (.slice none 0 0)]) (l' := [(b6, .row ⟨[(.slice v19_0_0.a v19_0_0.l v19_0_0.c), (.slice v19_0_1.a v19_0_1.l v19_0_1.c), (.slice v19_0_2.a v19_0_2.l v19_0_2.c)], 3, 35, true, true⟩), (b4, .row ⟨[(.slice none 0 0), (.slice none 0 0)], 2, 71, true, true⟩), (b2, .row ⟨[(.slice p0_0.a p0_0.l p0_0.c), (.slice p0_1.a p0_1.l p0_1.c)], 2, 29, true, true⟩)]) ok rfl T71 rfl rfl rfl rfl rfl rfl rfl rfl rfl rfl fun ok => ⟨noChk, ?_⟩); refine Xa rfl rfl rfl rfl fun _ => ?_; refine R.nil (EvC.ret ?_); exact ⟨.inr rfl, _, _, (.cons (.cells rfl (fun w => Und.agg Tryd.underlying71 w) (fun w => T71.size_ w) (H.rdn_loc ok (i := 1) rfl rfl rfl)) (.cons (.tmp rfl) .nil)), ok.le, _, _, _, rfl, hS⟩
  · rw [if_neg e1] at hS; replace e1 := eq_false_of_ne_true e1; refine EvC.condF rfl e1 (EvC.skip (EvC.seq (EvC.seq (Xr [.look 0, .look 1, .look 2, .look 3, .look 4, .look 5] (Xm rfl rfl rfl rfl fun _ => ?_))))); refine Xk rfl rfl (Lk.len rfl Tryd.underlying65 rfl) fun _ => ?_; refine Xk (v := (.pointer (some ⟨b6, 0, none⟩))) rfl rfl (Lk.fldAddr rfl Tryd.underlying35 rfl rfl T31 rfl rfl rfl) fun _ => ?_; refine Xk rfl rfl (Lk.load1 (v := (.slice v19_0_0.a v19_0_0.l v19_0_0.c)) rfl Tryd.underlying31 rfl rfl (H.rd_loc ok (i := 0) rfl rfl)) fun _ => ?_; refine Xk rfl rfl (Lk.len rfl Tryd.underlying31 rfl) fun _ => ?_; refine Xk rfl rfl (Lk.arith rfl rfl rfl rfl) fun _ => ?_; refine R.nil ?_
    by_cases e2 : ((p1.l : Int) != (v19_0_0.l : Int)) = true
    · rw [if_pos e2] at hS; refine EvC.condT rfl e2 (EvC.seq (Xr [.look 0, .eff 1 [], .look 2] (Xk rfl rfl (Lk.build (cs := [(.slice none 0 0), (.slice none 0 0)]) (pl := [(0, 1), (1, 1)]) rfl Tryd.underlying71 T71 (PlacesL.places (.cons T68 (.cons T69 PlacesL.nil))) rfl rfl) fun _ => ?_))); refine R.effN rfl rfl rfl (Ef.storeLoc (i := 1) (vs := [(.slice none 0 0), (.slice none 0 0)]) (cs := [(.slice none 0 0), (.slice none 0 0)]) (l' := [(b6, .row ⟨[(.slice v19_0_0.a v19_0_0.l v19_0_0.c), (.slice v19_0_1.a v19_0_1.l v19_0_1.c), (.slice v19_0_2.a v19_0_2.l v19_0_2.c)], 3, 35, true, true⟩), (b4, .row ⟨[(.slice none 0 0), (.slice none 0 0)], 2, 71, true, true⟩), (b2, .row ⟨[(.slice p0_0.a p0_0.l p0_0.c), (.slice p0_1.a p0_1.l p0_1.c)], 2, 29, true, true⟩)]) ok rfl T71 rfl rfl rfl rfl rfl rfl rfl rfl rfl rfl fun ok => ⟨noChk, ?_⟩); refine Xa rfl rfl rfl rfl fun _ => ?_; refine R.nil (EvC.ret ?_); exact ⟨.inr rfl, _, _, (.cons (.cells rfl (fun w => Und.agg Tryd.underlying71 w) (fun w => T71.size_ w) (H.rdn_loc ok (i := 1) rfl rfl rfl)) (.cons (.tmp rfl) .nil)), ok.le, _, _, _, rfl, hS⟩
    · rw [if_neg e2] at hS; replace e2 := eq_false_of_ne_true e2; refine EvC.condF rfl e2 (EvC.skip (EvC.seq (Xr [.look 0, .eff 1 [], .look 2] (Xm rfl rfl rfl rfl fun _ => ?_)))); refine R.eff rfl rfl rfl (Eff.loc ok (Ef.call rfl CB63 rfl ((f63_ok hS).mono ?_))); rintro _ h_2 ⟨v34, rfl, hS⟩; refine fun ok => ⟨noChk, ?_⟩; refine Xa rfl rfl rfl rfl fun _ => ?_; refine R.nil (EvC.seq (Xr [.alc 0] (R.var (blk := .row ⟨[(.slice none 0 0), (.slice none 0 0)], 2, 71, true, true⟩) ok rfl rfl rfl (Ac.alloc rfl T71) rfl rfl fun b8 ok => ?_))); refine R.nil (EvC.join (σ := Sl × Sl) (fun s => (Ep (Ep (Ep (Ep (Ep E0 8 (.pointer (some ⟨b8, 0, none⟩))) 6 (.pointer (some ⟨b6, 0, none⟩))) 4 (.pointer (some ⟨b4, 0, none⟩))) 2 (.pointer (some ⟨b2, 0, none⟩))) 1 (.slice v34.a v34.l v34.c))) (fun s => [(b8, .row ⟨[(.slice s.1.a s.1.l s.1.c), (.slice s.2.a s.2.l s.2.c)], 2, 71, true, true⟩), (b6, .row ⟨[(.slice v19_0_0.a v19_0_0.l v19_0_0.c), (.slice v19_0_1.a v19_0_1.l v19_0_1.c), (.slice v19_0_2.a v19_0_2.l v19_0_2.c)], 3, 35, true, true⟩), (b4, .row ⟨[(.slice none 0 0), (.slice none 0 0)], 2, 71, true, true⟩), (b2, .row ⟨[(.slice p0_0.a p0_0.l p0_0.c), (.slice p0_1.a p0_1.l p0_1.c)], 2, 29, true, true⟩)]) (fun s h_3 => S27_j5 p0_1 K v19_0_2 v34 s.1 s.2 h_3) ?_ (fun Ih_3 hIh_3 => ?_))
      · rintro ⟨c8_0, c8_1⟩ h_3 ok hS; replace hS : S27_j5 p0_1 K v19_0_2 v34 c8_0 c8_1 h_3 := hS; unfold S27_j5 at hS; refine EvC.join (σ := Sl × Sl) (fun s => (Ep (Ep E0 8 (.pointer (some ⟨b8, 0, none⟩))) 4 (.pointer (some ⟨b4, 0, none⟩)))) (fun s => [(b8, .row ⟨[(.slice s.1.a s.1.l s.1.c), (.slice s.2.a s.2.l s.2.c)], 2, 71, true, true⟩), (b4, .row ⟨[(.slice none 0 0), (.slice none 0 0)], 2, 71, true, true⟩)]) (fun s h_4 => S27_j1 K s.1 s.2 h_4) ?_ (fun Ih_4 hIh_4 => ?_)
        · rintro ⟨c8_0_1, c8_1_1⟩ h_4 ok hS; replace hS : S27_j1 K c8_0_1 c8_1_1 h_4 := hS; unfold S27_j1 at hS; refine EvC.seq (Xr [.look 0, .eff 1 [], .look 2] (Xk rfl rfl (Lk.loadN (vs := [(.slice c8_0_1.a c8_0_1.l c8_0_1.c), (.slice c8_1_1.a c8_1_1.l c8_1_1.c)]) rfl Tryd.underlying71 rfl T71 rfl (H.rdn_loc ok (i := 0) rfl rfl rfl)) fun _ => ?_)); refine R.effN rfl rfl rfl (Ef.storeLoc (i := 1) (vs := [(.slice c8_0_1.a c8_0_1.l c8_0_1.c), (.slice c8_1_1.a c8_1_1.l c8_1_1.c)]) (cs := [(.slice c8_0_1.a c8_0_1.l c8_0_1.c), (.slice c8_1_1.a c8_1_1.l c8_1_1.c)]) (l' := [(b8, .row ⟨[(.slice c8_0_1.a c8_0_1.l c8_0_1.c), (.slice c8_1_1.a c8_1_1.l c8_1_1.c)], 2, 71, true, true⟩), (b4, .row ⟨[(.slice c8_0_1.a c8_0_1.l c8_0_1.c), (.slice c8_1_1.a c8_1_1.l c8_1_1.c)], 2, 71, true, true⟩)]) ok rfl T71 rfl rfl rfl rfl rfl rfl rfl rfl rfl rfl fun ok => ⟨noChk, ?_⟩); refine Xa rfl rfl rfl rfl fun _ => ?_; refine R.nil (EvC.ret ?_); exact ⟨.inr rfl, _, _, (.cons (.cells rfl (fun w => Und.agg Tryd.underlying71 w) (fun w => T71.size_ w) (H.rdn_loc ok (i := 1) rfl rfl rfl)) (.cons (.tmp rfl) .nil)), ok.le, _, _, _, rfl, hS⟩
        · refine EvC.seq (Xr [.look 0, .look 1, .look 2, .look 3] (Xk (v := (.pointer (some ⟨b2, 1, none⟩))) rfl rfl (Lk.fldAddr rfl Tryd.underlying29 rfl rfl T27 rfl rfl rfl) fun _ => ?_)); refine Xk rfl rfl (Lk.load1 (v := (.slice p0_1.a p0_1.l p0_1.c)) rfl Tryd.underlying27 rfl rfl (H.rd_loc ok (i := 3) rfl rfl)) fun _ => ?_; refine Xk rfl rfl (Lk.len rfl Tryd.underlying27 rfl) fun _ => ?_; refine Xm rfl rfl rfl rfl fun _ => ?_; refine R.nil (EvC.block (EvC.loop (LoopC.lfp (σ := Int × Sl × Sl) (fun s => (Ep (Ep (Ep (Ep (Ep (Ep (Ep E0 81 (i6 s.1)) 80 (i6 (p0_1.l : Int))) 79 (.slice p0_1.a p0_1.l p0_1.c)) 8 (.pointer (some ⟨b8, 0, none⟩))) 6 (.pointer (some ⟨b6, 0, none⟩))) 4 (.pointer (some ⟨b4, 0, none⟩))) 1 (.slice v34.a v34.l v34.c))) (fun s => [(b8, .row ⟨[(.slice s.2.1.a s.2.1.l s.2.1.c), (.slice s.2.2.a s.2.2.l s.2.2.c)], 2, 71, true, true⟩), (b6, .row ⟨[(.slice v19_0_0.a v19_0_0.l v19_0_0.c), (.slice v19_0_1.a v19_0_1.l v19_0_1.c), (.slice v19_0_2.a v19_0_2.l v19_0_2.c)], 3, 35, true, true⟩), (b4, .row ⟨[(.slice none 0 0), (.slice none 0 0)], 2, 71, true, true⟩)]) (fun X hX => ?_) hS (ok.sub (.cons_cons _ (.cons_cons _ (.cons_cons _ (.cons _ sl0))))) (lq rfl (lq rfl (lq rfl (lq rfl (lq rfl (lq rfl (lq rfl (lz _)))))))) (H.add_sub ok (.cons_cons _ (.cons_cons _ (.cons_cons _ (.cons _ sl0)))))))); rintro ⟨v81, c8_0_2, c8_1_2⟩ h_5 hS ok; replace hS : S27_l4 p0_1 K v19_0_2 v34 X v81 c8_0_2 c8_1_2 h_5 := hS; unfold S27_l4 at hS; refine EvC.seq (Xr [.look 0] (Xk rfl rfl (Lk.arith rfl rfl rfl rfl) fun _ => ?_)); refine R.nil (EvC.seq ?_)
          by_cases e3 : (decide (v81 < (p0_1.l : Int))) = true
          · rw [if_pos e3] at hS; refine EvC.condT rfl e3 (EvC.skip (EvC.seq (EvC.block (EvC.seq (Xr [.look 0, .look 1, .look 2, .alc 3, .look 4, .eff 5 []] (Xm rfl rfl rfl rfl fun _ => ?_))))))
            obtain ⟨a84, e4, e5, e6, hS⟩ := hS
            refine Xk rfl rfl (Lk.ixAddr rfl Tryd.underlying27 T54 rfl e4 rfl e5 e6) fun _ => ?_
            obtain ⟨v85_0, v85_1, v85_2, v85_3, e7, hS⟩ := hS
            refine Xk rfl rfl (Look.loc ok (Lk.loadN rfl Tryd.underlying54 rfl T54 rfl e7)) fun _ => ?_; refine R.var (blk := .row ⟨[(i6 0), (i6 0), (i6 0), (.string ⟨#[]⟩)], 4, 54, true, true⟩) ok rfl rfl rfl (Ac.alloc rfl T54) rfl rfl fun b13 ok => ?_; refine Xa rfl rfl rfl rfl fun _ => ?_; refine R.effN rfl rfl rfl (Ef.storeLoc (i := 0) (vs := [(i6 v85_0), (i6 v85_1), (i6 v85_2), (.string v85_3)]) (cs := [(i6 v85_0), (i6 v85_1), (i6 v85_2), (.string v85_3)]) (l' := [(b13, .row ⟨[(i6 v85_0), (i6 v85_1), (i6 v85_2), (.string v85_3)], 4, 54, true, true⟩), (b8, .row ⟨[(.slice c8_0_2.a c8_0_2.l c8_0_2.c), (.slice c8_1_2.a c8_1_2.l c8_1_2.c)], 2, 71, true, true⟩), (b6, .row ⟨[(.slice v19_0_0.a v19_0_0.l v19_0_0.c), (.slice v19_0_1.a v19_0_1.l v19_0_1.c), (.slice v19_0_2.a v19_0_2.l v19_0_2.c)], 3, 35, true, true⟩), (b4, .row ⟨[(.slice none 0 0), (.slice none 0 0)], 2, 71, true, true⟩)]) ok rfl T54 rfl rfl rfl rfl rfl rfl rfl rfl rfl rfl fun ok => ⟨noChk, ?_⟩); refine R.nil (EvC.seq (Xr [.look 0, .look 1, .look 2, .look 3, .look 4, .alc 5, .eff 6 []] (Xk (v := (.pointer (some ⟨b13, 0, none⟩))) rfl rfl (Lk.fldAddr rfl Tryd.underlying54 rfl rfl T3 rfl rfl rfl) fun _ => Xk rfl rfl (Lk.load1 (v := (i6 v85_0)) rfl Tryd.underlying3 rfl rfl (H.rd_loc ok (i := 0) rfl rfl)) fun _ => Xk (v := (.pointer (some ⟨b13, 1, none⟩))) rfl rfl (Lk.fldAddr rfl Tryd.underlying54 rfl rfl T3 rfl rfl rfl) fun _ => Xk rfl rfl (Lk.load1 (v := (i6 v85_1)) rfl Tryd.underlying3 rfl rfl (H.rd_loc ok (i := 0) rfl rfl)) fun _ => Xk rfl rfl (Lk.build (cs := [(i6 v85_0), (i6 v85_1), (.slice none 0 0)]) (pl := [(0, 1), (1, 1), (2, 1)]) rfl Tryd.underlying84 T84 (PlacesL.places (.cons T3 (.cons T3 (.cons T65 PlacesL.nil)))) rfl rfl) fun _ => R.var (blk := .row ⟨[(i6 0), (i6 0), (.slice none 0 0)], 3, 84, true, true⟩) ok rfl rfl rfl (Ac.alloc rfl T84) rfl rfl fun b14 ok => ?_))); refine R.effN rfl rfl rfl (Ef.storeLoc (i := 0) (vs := [(i6 v85_0), (i6 v85_1), (.slice none 0 0)]) (cs := [(i6 v85_0), (i6 v85_1), (.slice none 0 0)]) (l' := [(b14, .row ⟨[(i6 v85_0), (i6 v85_1), (.slice none 0 0)], 3, 84, true, true⟩), (b13, .row ⟨[(i6 v85_0), (i6 v85_1), (i6 v85_2), (.string v85_3)], 4, 54, true, true⟩), (b8, .row ⟨[(.slice c8_0_2.a c8_0_2.l c8_0_2.c), (.slice c8_1_2.a c8_1_2.l c8_1_2.c)], 2, 71, true, true⟩), (b6, .row ⟨[(.slice v19_0_0.a v19_0_0.l v19_0_0.c), (.slice v19_0_1.a v19_0_1.l v19_0_1.c), (.slice v19_0_2.a v19_0_2.l v19_0_2.c)], 3, 35, true, true⟩), (b4, .row ⟨[(.slice none 0 0), (.slice none 0 0)], 2, 71, true, true⟩)]) ok rfl T84 rfl rfl rfl rfl rfl rfl rfl rfl rfl rfl fun ok => ⟨noChk, ?_⟩); refine R.nil ?_
            refine EvC.join (σ := Int × Int × Sl) (fun s => (Ep (Ep (Ep (Ep (Ep (Ep (Ep (Ep E0 81 (i6 v81)) 80 (i6 (p0_1.l : Int))) 79 (.slice p0_1.a p0_1.l p0_1.c)) 14 (.pointer (some ⟨b14, 0, none⟩))) 8 (.pointer (some ⟨b8, 0, none⟩))) 6 (.pointer (some ⟨b6, 0, none⟩))) 4 (.pointer (some ⟨b4, 0, none⟩))) 1 (.slice v34.a v34.l v34.c))) (fun s => [(b14, .row ⟨[(i6 s.1), (i6 s.2.1), (.slice s.2.2.a s.2.2.l s.2.2.c)], 3, 84, true, true⟩), (b8, .row ⟨[(.slice c8_0_2.a c8_0_2.l c8_0_2.c), (.slice c8_1_2.a c8_1_2.l c8_1_2.c)], 2, 71, true, true⟩), (b6, .row ⟨[(.slice v19_0_0.a v19_0_0.l v19_0_0.c), (.slice v19_0_1.a v19_0_1.l v19_0_1.c), (.slice v19_0_2.a v19_0_2.l v19_0_2.c)], 3, 35, true, true⟩), (b4, .row ⟨[(.slice none 0 0), (.slice none 0 0)], 2, 71, true, true⟩)]) (fun s h_6 => S27_j2 v81 c8_0_2 c8_1_2 X s.1 s.2.1 s.2.2 h_6) ?_ (fun Ih_6 hIh_6 => ?_)
            · rintro ⟨c14_0, c14_1, c14_2⟩ h_6 ok hS; replace hS : S27_j2 v81 c8_0_2 c8_1_2 X c14_0 c14_1 c14_2 h_6 := hS; unfold S27_j2 at hS; refine Xr [.look 0, .look 1, .look 2, .alc 3, .eff 4 [], .look 5, .eff 6 []] (Xk (v := (.pointer (some ⟨b8, 1, none⟩))) rfl rfl (Lk.fldAddr rfl Tryd.underlying71 rfl rfl T69 rfl rfl rfl) fun _ => ?_); refine Xk rfl rfl (Lk.load1 (v := (.slice c8_1_2.a c8_1_2.l c8_1_2.c)) rfl Tryd.underlying69 rfl rfl (H.rd_loc ok (i := 1) rfl rfl)) fun _ => ?_; refine Xk rfl rfl (Lk.loadN (vs := [(i6 c14_0), (i6 c14_1), (.slice c14_2.a c14_2.l c14_2.c)]) rfl Tryd.underlying84 rfl T84 rfl (H.rdn_loc ok (i := 0) rfl rfl rfl)) fun _ => ?_; refine R.appL (cs := [(i6 c14_0), (i6 c14_1), (.slice c14_2.a c14_2.l c14_2.c)]) ok rfl rfl rfl rfl rfl rfl rfl rfl Tryd.underlying69 T84 rfl (by decide) (by decide) rfl rfl rfl rfl rfl (fun _ => rfl) hS ?_; intro bb114 v115 h_7 hS ok; refine ⟨noChk, ?_⟩; refine Xk (v := (.pointer (some ⟨b8, 1, none⟩))) rfl rfl (Lk.fldAddr rfl Tryd.underlying71 rfl rfl T69 rfl rfl rfl) fun _ => ?_; refine R.effN rfl rfl rfl (Ef.storeLoc (i := 1) (vs := [(.slice v115.a v115.l v115.c)]) (cs := [(.slice c8_0_2.a c8_0_2.l c8_0_2.c), (.slice v115.a v115.l v115.c)]) (l' := [(b14, .row ⟨[(i6 c14_0), (i6 c14_1), (.slice c14_2.a c14_2.l c14_2.c)], 3, 84, true, true⟩), (b8, .row ⟨[(.slice c8_0_2.a c8_0_2.l c8_0_2.c), (.slice v115.a v115.l v115.c)], 2, 71, true, true⟩), (b6, .row ⟨[(.slice v19_0_0.a v19_0_0.l v19_0_0.c), (.slice v19_0_1.a v19_0_1.l v19_0_1.c), (.slice v19_0_2.a v19_0_2.l v19_0_2.c)], 3, 35, true, true⟩), (b4, .row ⟨[(.slice none 0 0), (.slice none 0 0)], 2, 71, true, true⟩)]) ok rfl T69 rfl rfl rfl rfl rfl rfl rfl rfl rfl rfl fun ok => ⟨noChk, ?_⟩); refine R.nil (Xr [.look 0, .look 1] (Xk rfl rfl (Lk.arith rfl rfl rfl rfl) fun _ => Xm rfl rfl rfl rfl fun _ => R.nil ?_)); exact hX ((IntKind.wrap .i64 (v81 + 1)), c8_0_2, v115) _ _ _ hS (ok.sub (.cons _ (.cons_cons _ (.cons_cons _ (.cons_cons _ sl0))))) (lq rfl (lq rfl (lq rfl (lq rfl (lq rfl (lq rfl (lq rfl (lz _)))))))) (H.add_sub ok (.cons _ (.cons_cons _ (.cons_cons _ (.cons_cons _ sl0)))))
            · refine EvC.seq (Xr [.look 0, .look 1, .look 2, .look 3, .look 4, .look 5, .look 6] (Xk (v := (.pointer (some ⟨b6, 2, none⟩))) rfl rfl (Lk.fldAddr rfl Tryd.underlying35 rfl rfl T33 rfl rfl rfl) fun _ => ?_)); refine Xk rfl rfl (Lk.load1 (v := (.slice v19_0_2.a v19_0_2.l v19_0_2.c)) rfl Tryd.underlying33 rfl rfl (H.rd_loc ok (i := 3) rfl rfl)) fun _ => ?_; refine Xm rfl rfl rfl rfl fun _ => ?_
              obtain ⟨a94, e8, e9, e10, hS⟩ := hS
              refine Xk rfl rfl (Lk.ixAddr rfl Tryd.underlying33 T32 rfl e8 rfl e9 e10) fun _ => ?_
              obtain ⟨v95, e11, hS⟩ := hS
              refine Xk rfl rfl (Look.loc ok (Lk.load1 rfl Tryd.underlying32 rfl rfl e11)) fun _ => ?_; refine Xk rfl rfl (Lk.len rfl Tryd.underlying32 rfl) fun _ => ?_; refine Xm rfl rfl rfl rfl fun _ => ?_; refine R.nil (EvC.block (EvC.loop (LoopC.lfp (σ := Int × Int × Int × Sl) (fun s => (Ep (Ep (Ep (Ep (Ep (Ep (Ep (Ep (Ep (Ep (Ep E0 97 (i6 s.1)) 96 (i6 (v95.l : Int))) 95 (.slice v95.a v95.l v95.c)) 81 (i6 v81)) 80 (i6 (p0_1.l : Int))) 79 (.slice p0_1.a p0_1.l p0_1.c)) 14 (.pointer (some ⟨b14, 0, none⟩))) 8 (.pointer (some ⟨b8, 0, none⟩))) 6 (.pointer (some ⟨b6, 0, none⟩))) 4 (.pointer (some ⟨b4, 0, none⟩))) 1 (.slice v34.a v34.l v34.c))) (fun s => [(b14, .row ⟨[(i6 s.2.1), (i6 s.2.2.1), (.slice s.2.2.2.a s.2.2.2.l s.2.2.2.c)], 3, 84, true, true⟩), (b8, .row ⟨[(.slice c8_0_2.a c8_0_2.l c8_0_2.c), (.slice c8_1_2.a c8_1_2.l c8_1_2.c)], 2, 71, true, true⟩), (b6, .row ⟨[(.slice v19_0_0.a v19_0_0.l v19_0_0.c), (.slice v19_0_1.a v19_0_1.l v19_0_1.c), (.slice v19_0_2.a v19_0_2.l v19_0_2.c)], 3, 35, true, true⟩), (b4, .row ⟨[(.slice none 0 0), (.slice none 0 0)], 2, 71, true, true⟩)]) (fun X_1 hX_1 => ?_) hS (ok.sub (.cons_cons _ (.cons _ (.cons_cons _ (.cons_cons _ (.cons_cons _ sl0)))))) (lq rfl (lq rfl (lq rfl (lq rfl (lq rfl (lq rfl (lq rfl (lq rfl (lq rfl (lq rfl (lq rfl (lz _)))))))))))) (H.add_sub ok (.cons_cons _ (.cons _ (.cons_cons _ (.cons_cons _ (.cons_cons _ sl0))))))))); rintro ⟨v97, c14_0_1, c14_1_1, c14_2_1⟩ h_8 hS ok; replace hS : S27_l3 v34 v81 c8_0_2 c8_1_2 X v95 X_1 v97 c14_0_1 c14_1_1 c14_2_1 h_8 := hS; unfold S27_l3 at hS; refine EvC.seq (Xr [.look 0] (Xk rfl rfl (Lk.arith rfl rfl rfl rfl) fun _ => ?_)); refine R.nil (EvC.seq ?_)
              by_cases e12 : (decide (v97 < (v95.l : Int))) = true
              · rw [if_pos e12] at hS; refine EvC.condT rfl e12 (EvC.skip (EvC.seq (EvC.block (EvC.seq (Xr [.look 0, .look 1, .look 2] ?_)))))
                obtain ⟨a99, e13, e14, e15, hS⟩ := hS
                refine Xk rfl rfl (Lk.ixAddr rfl Tryd.underlying32 T3 rfl e13 rfl e14 e15) fun _ => ?_
                obtain ⟨v100, e16, hS⟩ := hS
                refine Xk rfl rfl (Look.loc ok (Lk.load1 rfl Tryd.underlying3 rfl rfl e16)) fun _ => ?_; refine Xa rfl rfl rfl rfl fun _ => ?_; refine R.nil (EvC.draw [0, 1, 0, 0, 12, 28, 60, 127, 255, 511] [Item.look 0, Item.look 1, Item.look 2, Item.look 3, Item.look 4, Item.look 5, Item.alc 6, Item.eff 7 [], Item.look 8, Item.eff 9 []] MO (by kernel_rfl) ?_); refine Xk (v := (.pointer (some ⟨b14, 2, none⟩))) rfl rfl (Lk.fldAddr rfl Tryd.underlying84 rfl rfl T65 rfl rfl rfl) fun _ => ?_; refine Xk rfl rfl (Lk.load1 (v := (.slice c14_2_1.a c14_2_1.l c14_2_1.c)) rfl Tryd.underlying65 rfl rfl (H.rd_loc ok (i := 0) rfl rfl)) fun _ => ?_; refine Xm rfl rfl rfl rfl fun _ => ?_; refine Xm rfl rfl rfl rfl fun _ => ?_
                obtain ⟨a105, e17, e18, e19, hS⟩ := hS
                refine Xk rfl rfl (Lk.ixAddr rfl Tryd.underlying65 T67 rfl e17 rfl e18 e19) fun _ => ?_
                obtain ⟨v106_0, v106_1, e20, hS⟩ := hS
                refine Xk rfl rfl (Look.loc ok (Lk.loadN rfl Tryd.underlying67 rfl T67 rfl e20)) fun _ => ?_; refine R.appL (cs := [(i6 v106_0), (i6 v106_1)]) ok rfl rfl rfl rfl rfl rfl rfl rfl Tryd.underlying65 T67 rfl (by decide) (by decide) rfl rfl rfl rfl rfl (fun _ => rfl) hS ?_; intro bb107 v108 h_9 hS ok; refine ⟨noChk, ?_⟩; refine Xk (v := (.pointer (some ⟨b14, 2, none⟩))) rfl rfl (Lk.fldAddr rfl Tryd.underlying84 rfl rfl T65 rfl rfl rfl) fun _ => ?_; refine R.effN rfl rfl rfl (Ef.storeLoc (i := 0) (vs := [(.slice v108.a v108.l v108.c)]) (cs := [(i6 c14_0_1), (i6 c14_1_1), (.slice v108.a v108.l v108.c)]) (l' := [(b14, .row ⟨[(i6 c14_0_1), (i6 c14_1_1), (.slice v108.a v108.l v108.c)], 3, 84, true, true⟩), (b8, .row ⟨[(.slice c8_0_2.a c8_0_2.l c8_0_2.c), (.slice c8_1_2.a c8_1_2.l c8_1_2.c)], 2, 71, true, true⟩), (b6, .row ⟨[(.slice v19_0_0.a v19_0_0.l v19_0_0.c), (.slice v19_0_1.a v19_0_1.l v19_0_1.c), (.slice v19_0_2.a v19_0_2.l v19_0_2.c)], 3, 35, true, true⟩), (b4, .row ⟨[(.slice none 0 0), (.slice none 0 0)], 2, 71, true, true⟩)]) ok rfl T65 rfl rfl rfl rfl rfl rfl rfl rfl rfl rfl fun ok => ⟨noChk, ?_⟩); refine R.nil (Xr [.look 0, .look 1] (Xk rfl rfl (Lk.arith rfl rfl rfl rfl) fun _ => Xm rfl rfl rfl rfl fun _ => R.nil ?_)); exact hX_1 ((IntKind.wrap .i64 (v97 + 1)), c14_0_1, c14_1_1, v108) _ _ _ hS (ok.sub (.cons_cons _ (.cons_cons _ (.cons_cons _ (.cons_cons _ sl0))))) (lq rfl (lq rfl (lq rfl (lq rfl (lq rfl (lq rfl (lq rfl (lq rfl (lq rfl (lq rfl (lq rfl (lz _)))))))))))) (H.add_sub ok (.cons_cons _ (.cons_cons _ (.cons_cons _ (.cons_cons _ sl0)))))
              · rw [if_neg e12] at hS; replace e12 := eq_false_of_ne_true e12; refine EvC.condF rfl e12 (EvC.exit ?_); exact hIh_6 (c14_0_1, c14_1_1, c14_2_1) _ _ _ (lq rfl (lq rfl (lq rfl (lq rfl (lq rfl (lq rfl (lq rfl (lq rfl (lz _))))))))) (ok.sub (.cons_cons _ (.cons_cons _ (.cons_cons _ (.cons_cons _ sl0))))) (H.add_sub ok (.cons_cons _ (.cons_cons _ (.cons_cons _ (.cons_cons _ sl0))))) hS
          · rw [if_neg e3] at hS; replace e3 := eq_false_of_ne_true e3; refine EvC.condF rfl e3 (EvC.exit ?_); exact hIh_4 (c8_0_2, c8_1_2) _ _ _ (lq rfl (lq rfl (lz _))) (ok.sub (.cons_cons _ (.cons _ (.cons_cons _ sl0)))) (H.add_sub ok (.cons_cons _ (.cons _ (.cons_cons _ sl0)))) hS
      · refine EvC.seq (Xr [.look 0, .look 1, .look 2, .look 3] (Xk (v := (.pointer (some ⟨b2, 0, none⟩))) rfl rfl (Lk.fldAddr rfl Tryd.underlying29 rfl rfl T22 rfl rfl rfl) fun _ => ?_)); refine Xk rfl rfl (Lk.load1 (v := (.slice p0_0.a p0_0.l p0_0.c)) rfl Tryd.underlying22 rfl rfl (H.rd_loc ok (i := 3) rfl rfl)) fun _ => ?_; refine Xk rfl rfl (Lk.len rfl Tryd.underlying22 rfl) fun _ => ?_; refine Xm rfl rfl rfl rfl fun _ => ?_; refine R.nil (EvC.block (EvC.loop (LoopC.lfp (σ := Int × Sl × Sl) (fun s => (Ep (Ep (Ep (Ep (Ep (Ep (Ep (Ep E0 38 (i6 s.1)) 37 (i6 (p0_0.l : Int))) 36 (.slice p0_0.a p0_0.l p0_0.c)) 8 (.pointer (some ⟨b8, 0, none⟩))) 6 (.pointer (some ⟨b6, 0, none⟩))) 4 (.pointer (some ⟨b4, 0, none⟩))) 2 (.pointer (some ⟨b2, 0, none⟩))) 1 (.slice v34.a v34.l v34.c))) (fun s => [(b8, .row ⟨[(.slice s.2.1.a s.2.1.l s.2.1.c), (.slice s.2.2.a s.2.2.l s.2.2.c)], 2, 71, true, true⟩), (b6, .row ⟨[(.slice v19_0_0.a v19_0_0.l v19_0_0.c), (.slice v19_0_1.a v19_0_1.l v19_0_1.c), (.slice v19_0_2.a v19_0_2.l v19_0_2.c)], 3, 35, true, true⟩), (b4, .row ⟨[(.slice none 0 0), (.slice none 0 0)], 2, 71, true, true⟩), (b2, .row ⟨[(.slice p0_0.a p0_0.l p0_0.c), (.slice p0_1.a p0_1.l p0_1.c)], 2, 29, true, true⟩)]) (fun X_2 hX_2 => ?_) hS (ok.sub (.cons_cons _ (.cons_cons _ (.cons_cons _ (.cons_cons _ sl0))))) (lq rfl (lq rfl (lq rfl (lq rfl (lq rfl (lq rfl (lq rfl (lq rfl (lz _))))))))) (H.add_sub ok (.cons_cons _ (.cons_cons _ (.cons_cons _ (.cons_cons _ sl0)))))))); rintro ⟨v38, c8_0_3, c8_1_3⟩ h_10 hS ok; replace hS : S27_l7 p0_0 p0_1 K v19_0_1 v19_0_2 v34 X_2 v38 c8_0_3 c8_1_3 h_10 := hS; unfold S27_l7 at hS; refine EvC.seq (Xr [.look 0] (Xk rfl rfl (Lk.arith rfl rfl rfl rfl) fun _ => ?_)); refine R.nil (EvC.seq ?_)
        by_cases e21 : (decide (v38 < (p0_0.l : Int))) = true
        · rw [if_pos e21] at hS; refine EvC.condT rfl e21 (EvC.skip (EvC.seq (EvC.block (EvC.seq (Xr [.look 0, .look 1, .look 2, .look 3, .look 4] (Xm rfl rfl rfl rfl fun _ => ?_))))))
          obtain ⟨a41, e22, e23, e24, hS⟩ := hS
          refine Xk rfl rfl (Lk.ixAddr rfl Tryd.underlying22 T4 rfl e22 rfl e23 e24) fun _ => ?_
          obtain ⟨v42, e25, hS⟩ := hS
          refine Xk rfl rfl (Look.loc ok (Lk.load1 rfl Tryd.underlying4 rfl rfl e25)) fun _ => ?_; refine Xa rfl rfl rfl rfl fun _ => ?_; refine Xa rfl rfl rfl rfl fun _ => ?_; refine R.nil (EvC.seq (EvC.draw [0, 0, 2, 0, 14, 30, 63, 127, 0, 0, 512, 0, 3584, 7680, 16128, 32512, 65535, 0, 262143] [Item.look 0, Item.look 1, Item.look 2, Item.look 3, Item.look 4, Item.look 5, Item.look 6, Item.look 7, Item.look 8, Item.look 9, Item.look 10, Item.look 11, Item.look 12, Item.look 13, Item.look 14, Item.look 15, Item.look 16, Item.alc 17, Item.eff 18 []] MO (by kernel_rfl) ?_)); refine Xm rfl rfl rfl rfl fun _ => ?_; refine Xk (v := (.pointer (some ⟨b6, 1, none⟩))) rfl rfl (Lk.fldAddr rfl Tryd.underlying35 rfl rfl T32 rfl rfl rfl) fun _ => ?_; refine Xk rfl rfl (Lk.load1 (v := (.slice v19_0_1.a v19_0_1.l v19_0_1.c)) rfl Tryd.underlying32 rfl rfl (H.rd_loc ok (i := 1) rfl rfl)) fun _ => ?_; refine Xm rfl rfl rfl rfl fun _ => ?_
          obtain ⟨a47, e26, e27, e28, hS⟩ := hS
          refine Xk rfl rfl (Lk.ixAddr rfl Tryd.underlying32 T3 rfl e26 rfl e27 e28) fun _ => ?_
          obtain ⟨v48, e29, hS⟩ := hS
          refine Xk rfl rfl (Look.loc ok (Lk.load1 rfl Tryd.underlying3 rfl rfl e29)) fun _ => ?_
          obtain ⟨a49, e30, e31, e32, hS⟩ := hS
          refine Xk rfl rfl (Lk.ixAddr rfl Tryd.underlying65 T67 rfl e30 rfl e31 e32) fun _ => ?_
          obtain ⟨v50_0, v50_1, e33, hS⟩ := hS
          refine Xk rfl rfl (Look.loc ok (Lk.loadN rfl Tryd.underlying67 rfl T67 rfl e33)) fun _ => ?_; refine Xm rfl rfl rfl rfl fun _ => ?_; refine Xk (v := (.pointer (some ⟨b6, 1, none⟩))) rfl rfl (Lk.fldAddr rfl Tryd.underlying35 rfl rfl T32 rfl rfl rfl) fun _ => ?_; refine Xk rfl rfl (Lk.load1 (v := (.slice v19_0_1.a v19_0_1.l v19_0_1.c)) rfl Tryd.underlying32 rfl rfl (H.rd_loc ok (i := 1) rfl rfl)) fun _ => ?_; refine Xm rfl rfl rfl rfl fun _ => ?_
          obtain ⟨a55, e34, e35, e36, hS⟩ := hS
          refine Xk rfl rfl (Lk.ixAddr rfl Tryd.underlying32 T3 rfl e34 rfl e35 e36) fun _ => ?_
          obtain ⟨v56, e37, hS⟩ := hS
          refine Xk rfl rfl (Look.loc ok (Lk.load1 rfl Tryd.underlying3 rfl rfl e37)) fun _ => ?_
          obtain ⟨a57, e38, e39, e40, hS⟩ := hS
          refine Xk rfl rfl (Lk.ixAddr rfl Tryd.underlying65 T67 rfl e38 rfl e39 e40) fun _ => ?_
          obtain ⟨v58_0, v58_1, e41, hS⟩ := hS
          refine Xk rfl rfl (Look.loc ok (Lk.loadN rfl Tryd.underlying67 rfl T67 rfl e41)) fun _ => ?_; refine Xk rfl rfl (Lk.build (cs := [(i6 v50_0), (i6 v50_1), (i6 v58_0), (i6 v58_1)]) (pl := [(0, 2), (2, 2)]) rfl Tryd.underlying86 T86 (PlacesL.places (.cons T67 (.cons T67 PlacesL.nil))) rfl rfl) fun _ => ?_; refine R.var (blk := .row ⟨[(i6 0), (i6 0), (i6 0), (i6 0)], 4, 86, true, true⟩) ok rfl rfl rfl (Ac.alloc rfl T86) rfl rfl fun b11 ok => ?_; refine R.effN rfl rfl rfl (Ef.storeLoc (i := 0) (vs := [(i6 v50_0), (i6 v50_1), (i6 v58_0), (i6 v58_1)]) (cs := [(i6 v50_0), (i6 v50_1), (i6 v58_0), (i6 v58_1)]) (l' := [(b11, .row ⟨[(i6 v50_0), (i6 v50_1), (i6 v58_0), (i6 v58_1)], 4, 86, true, true⟩), (b8, .row ⟨[(.slice c8_0_3.a c8_0_3.l c8_0_3.c), (.slice c8_1_3.a c8_1_3.l c8_1_3.c)], 2, 71, true, true⟩), (b6, .row ⟨[(.slice v19_0_0.a v19_0_0.l v19_0_0.c), (.slice v19_0_1.a v19_0_1.l v19_0_1.c), (.slice v19_0_2.a v19_0_2.l v19_0_2.c)], 3, 35, true, true⟩), (b4, .row ⟨[(.slice none 0 0), (.slice none 0 0)], 2, 71, true, true⟩), (b2, .row ⟨[(.slice p0_0.a p0_0.l p0_0.c), (.slice p0_1.a p0_1.l p0_1.c)], 2, 29, true, true⟩)]) ok rfl T86 rfl rfl rfl rfl rfl rfl rfl rfl rfl rfl fun ok => ⟨noChk, ?_⟩); refine R.nil (EvC.join (σ := Int × Int × Int × Int) (fun s => (Ep (Ep (Ep (Ep (Ep (Ep (Ep (Ep (Ep E0 38 (i6 v38)) 37 (i6 (p0_0.l : Int))) 36 (.slice p0_0.a p0_0.l p0_0.c)) 11 (.pointer (some ⟨b11, 0, none⟩))) 8 (.pointer (some ⟨b8, 0, none⟩))) 6 (.pointer (some ⟨b6, 0, none⟩))) 4 (.pointer (some ⟨b4, 0, none⟩))) 2 (.pointer (some ⟨b2, 0, none⟩))) 1 (.slice v34.a v34.l v34.c))) (fun s => [(b11, .row ⟨[(i6 s.1), (i6 s.2.1), (i6 s.2.2.1), (i6 s.2.2.2)], 4, 86, true, true⟩), (b8, .row ⟨[(.slice c8_0_3.a c8_0_3.l c8_0_3.c), (.slice c8_1_3.a c8_1_3.l c8_1_3.c)], 2, 71, true, true⟩), (b6, .row ⟨[(.slice v19_0_0.a v19_0_0.l v19_0_0.c), (.slice v19_0_1.a v19_0_1.l v19_0_1.c), (.slice v19_0_2.a v19_0_2.l v19_0_2.c)], 3, 35, true, true⟩), (b4, .row ⟨[(.slice none 0 0), (.slice none 0 0)], 2, 71, true, true⟩), (b2, .row ⟨[(.slice p0_0.a p0_0.l p0_0.c), (.slice p0_1.a p0_1.l p0_1.c)], 2, 29, true, true⟩)]) (fun s h_11 => S27_j6 v38 c8_0_3 c8_1_3 X_2 s.1 s.2.1 s.2.2.1 s.2.2.2 h_11) ?_ (fun Ih_11 hIh_11 => ?_))
          · rintro ⟨c11_0, c11_1, c11_2, c11_3⟩ h_11 ok hS; replace hS : S27_j6 v38 c8_0_3 c8_1_3 X_2 c11_0 c11_1 c11_2 c11_3 h_11 := hS; unfold S27_j6 at hS; refine Xr [.look 0, .look 1, .look 2, .alc 3, .eff 4 [], .look 5, .eff 6 []] (Xk (v := (.pointer (some ⟨b8, 0, none⟩))) rfl rfl (Lk.fldAddr rfl Tryd.underlying71 rfl rfl T68 rfl rfl rfl) fun _ => ?_); refine Xk rfl rfl (Lk.load1 (v := (.slice c8_0_3.a c8_0_3.l c8_0_3.c)) rfl Tryd.underlying68 rfl rfl (H.rd_loc ok (i := 1) rfl rfl)) fun _ => ?_; refine Xk rfl rfl (Lk.loadN (vs := [(i6 c11_0), (i6 c11_1), (i6 c11_2), (i6 c11_3)]) rfl Tryd.underlying86 rfl T86 rfl (H.rdn_loc ok (i := 0) rfl rfl rfl)) fun _ => ?_; refine R.appL (cs := [(i6 c11_0), (i6 c11_1), (i6 c11_2), (i6 c11_3)]) ok rfl rfl rfl rfl rfl rfl rfl rfl Tryd.underlying68 T86 rfl (by decide) (by decide) rfl rfl rfl rfl rfl (fun _ => rfl) hS ?_; intro bb74 v75 h_12 hS ok; refine ⟨noChk, ?_⟩; refine Xk (v := (.pointer (some ⟨b8, 0, none⟩))) rfl rfl (Lk.fldAddr rfl Tryd.underlying71 rfl rfl T68 rfl rfl rfl) fun _ => ?_; refine R.effN rfl rfl rfl (Ef.storeLoc (i := 1) (vs := [(.slice v75.a v75.l v75.c)]) (cs := [(.slice v75.a v75.l v75.c), (.slice c8_1_3.a c8_1_3.l c8_1_3.c)]) (l' := [(b11, .row ⟨[(i6 c11_0), (i6 c11_1), (i6 c11_2), (i6 c11_3)], 4, 86, true, true⟩), (b8, .row ⟨[(.slice v75.a v75.l v75.c), (.slice c8_1_3.a c8_1_3.l c8_1_3.c)], 2, 71, true, true⟩), (b6, .row ⟨[(.slice v19_0_0.a v19_0_0.l v19_0_0.c), (.slice v19_0_1.a v19_0_1.l v19_0_1.c), (.slice v19_0_2.a v19_0_2.l v19_0_2.c)], 3, 35, true, true⟩), (b4, .row ⟨[(.slice none 0 0), (.slice none 0 0)], 2, 71, true, true⟩), (b2, .row ⟨[(.slice p0_0.a p0_0.l p0_0.c), (.slice p0_1.a p0_1.l p0_1.c)], 2, 29, true, true⟩)]) ok rfl T68 rfl rfl rfl rfl rfl rfl rfl rfl rfl rfl fun ok => ⟨noChk, ?_⟩); refine R.nil (Xr [.look 0, .look 1] (Xk rfl rfl (Lk.arith rfl rfl rfl rfl) fun _ => Xm rfl rfl rfl rfl fun _ => R.nil ?_))
            exact hX_2 ((IntKind.wrap .i64 (v38 + 1)), v75, c8_1_3) _ _ _ hS (ok.sub (.cons _ (.cons_cons _ (.cons_cons _ (.cons_cons _ (.cons_cons _ sl0)))))) (lq rfl (lq rfl (lq rfl (lq rfl (lq rfl (lq rfl (lq rfl (lq rfl (lz _))))))))) (H.add_sub ok (.cons _ (.cons_cons _ (.cons_cons _ (.cons_cons _ (.cons_cons _ sl0))))))
          · refine EvC.seq (Xr [.look 0] (Xm rfl rfl rfl rfl fun _ => ?_)); refine R.nil ?_
            by_cases e42 : v42 = true
            · rw [if_pos e42] at hS; refine EvC.condT rfl e42 (Xr [.look 0, .look 1, .look 2, .look 3, .look 4, .look 5, .look 6, .look 7, .look 8, .look 9, .eff 10 []] (Xm rfl rfl rfl rfl fun _ => ?_)); refine Xk (v := (.pointer (some ⟨b6, 1, none⟩))) rfl rfl (Lk.fldAddr rfl Tryd.underlying35 rfl rfl T32 rfl rfl rfl) fun _ => ?_; refine Xk rfl rfl (Lk.load1 (v := (.slice v19_0_1.a v19_0_1.l v19_0_1.c)) rfl Tryd.underlying32 rfl rfl (H.rd_loc ok (i := 2) rfl rfl)) fun _ => ?_; refine Xm rfl rfl rfl rfl fun _ => ?_
              obtain ⟨a65, e43, e44, e45, hS⟩ := hS
              refine Xk rfl rfl (Lk.ixAddr rfl Tryd.underlying32 T3 rfl e43 rfl e44 e45) fun _ => ?_
              obtain ⟨v66, e46, hS⟩ := hS
              refine Xk rfl rfl (Look.loc ok (Lk.load1 rfl Tryd.underlying3 rfl rfl e46)) fun _ => ?_; refine Xk rfl rfl (Lk.arith rfl rfl rfl rfl) fun _ => ?_
              obtain ⟨a68, e47, e48, e49, hS⟩ := hS
              refine Xk rfl rfl (Lk.ixAddr rfl Tryd.underlying65 T67 rfl e47 rfl e48 e49) fun _ => ?_
              obtain ⟨v69_0, v69_1, e50, hS⟩ := hS
              refine Xk rfl rfl (Look.loc ok (Lk.loadN rfl Tryd.underlying67 rfl T67 rfl e50)) fun _ => ?_; refine Xk (v := (.pointer (some ⟨b11, 2, none⟩))) rfl rfl (Lk.fldAddr rfl Tryd.underlying86 rfl rfl T67 rfl rfl rfl) fun _ => ?_; refine R.effN rfl rfl rfl (Ef.storeLoc (i := 0) (vs := [(i6 v69_0), (i6 v69_1)]) (cs := [(i6 v50_0), (i6 v50_1), (i6 v69_0), (i6 v69_1)]) (l' := [(b11, .row ⟨[(i6 v50_0), (i6 v50_1), (i6 v69_0), (i6 v69_1)], 4, 86, true, true⟩), (b8, .row ⟨[(.slice c8_0_3.a c8_0_3.l c8_0_3.c), (.slice c8_1_3.a c8_1_3.l c8_1_3.c)], 2, 71, true, true⟩), (b6, .row ⟨[(.slice v19_0_0.a v19_0_0.l v19_0_0.c), (.slice v19_0_1.a v19_0_1.l v19_0_1.c), (.slice v19_0_2.a v19_0_2.l v19_0_2.c)], 3, 35, true, true⟩), (b4, .row ⟨[(.slice none 0 0), (.slice none 0 0)], 2, 71, true, true⟩), (b2, .row ⟨[(.slice p0_0.a p0_0.l p0_0.c), (.slice p0_1.a p0_1.l p0_1.c)], 2, 29, true, true⟩)]) ok rfl T67 rfl rfl rfl rfl rfl rfl rfl rfl rfl rfl fun ok => ⟨noChk, ?_⟩); refine R.nil ?_; exact hIh_11 (v50_0, v50_1, v69_0, v69_1) _ _ _ (lq rfl (lq rfl (lq rfl (lq rfl (lq rfl (lq rfl (lq rfl (lq rfl (lq rfl (lz _)))))))))) (ok.sub (.cons_cons _ (.cons_cons _ (.cons_cons _ (.cons_cons _ (.cons_cons _ sl0)))))) (H.add_sub ok (.cons_cons _ (.cons_cons _ (.cons_cons _ (.cons_cons _ (.cons_cons _ sl0)))))) hS
            · rw [if_neg e42] at hS; replace e42 := eq_false_of_ne_true e42; refine EvC.condF rfl e42 (EvC.skip ?_); exact hIh_11 (v50_0, v50_1, v58_0, v58_1) _ _ _ (lq rfl (lq rfl (lq rfl (lq rfl (lq rfl (lq rfl (lq rfl (lq rfl (lq rfl (lz _)))))))))) (ok.sub (.cons_cons _ (.cons_cons _ (.cons_cons _ (.cons_cons _ (.cons_cons _ sl0)))))) (H.add_sub ok (.cons_cons _ (.cons_cons _ (.cons_cons _ (.cons_cons _ (.cons_cons _ sl0)))))) hS
        · rw [if_neg e21] at hS; replace e21 := eq_false_of_ne_true e21; refine EvC.condF rfl e21 (EvC.exit ?_); exact hIh_3 (c8_0_3, c8_1_3) _ _ _ (lq rfl (lq rfl (lq rfl (lq rfl (lq rfl (lz _)))))) (ok.sub (.cons_cons _ (.cons_cons _ (.cons_cons _ (.cons_cons _ sl0))))) (H.add_sub ok (.cons_cons _ (.cons_cons _ (.cons_cons _ (.cons_cons _ sl0))))) hS

theorem f34_ok {p0_0 : Sl} {p0_1 : Sl} {h : H} {K : Int → Int → H → Prop} (hS : S34 p0_0 p0_1 h K) : ACall Tryd.prog 34 ([(.agg ([(.slice p0_0.a p0_0.l p0_0.c), (.slice p0_1.a p0_1.l p0_1.c)] : List Value).toArray)] : List Value).toArray h (fun r h' => ∃ r0 : Int, ∃ r1 : Int, r = tup [(i6 r0), (i6 r1)] ∧ K r0 r1 h') := by
  refine ACall.enter (fn := Tryd.f34) Tryd.func34 rfl (Nat.le_of_ble_eq_true rfl) ?_; unfold S34 at hS; have ok := Lok.nil h; refine EvC.seq (Xr [.alc 0, .look 1, .look 2] (R.var (blk := .row ⟨[(.slice p0_0.a p0_0.l p0_0.c), (.slice p0_1.a p0_1.l p0_1.c)], 2, 71, true, true⟩) ok rfl rfl rfl (Ac.box rfl rfl) rfl rfl fun b1 ok => ?_)); refine Xa rfl rfl rfl rfl fun _ => ?_; refine Xa rfl rfl rfl rfl fun _ => ?_; refine R.nil (EvC.seq (Xr [.look 0] (Xa rfl rfl rfl rfl fun _ => R.nil (EvC.join (σ := Sl) (fun s => (Ep (Ep E0 4 (.slice s.a s.l s.c)) 1 (.pointer (some ⟨b1, 0, none⟩)))) (fun s => [(b1, .row ⟨[(.slice p0_0.a p0_0.l p0_0.c), (.slice p0_1.a p0_1.l p0_1.c)], 2, 71, true, true⟩)]) (fun s h_1 => S34_j5 p0_1 K s h_1) ?_ (fun Ih_1 hIh_1 => ?_)))))
  · intro v4 h_1 ok hS; replace hS : S34_j5 p0_1 K v4 h_1 := hS; unfold S34_j5 at hS; refine EvC.join (σ := Sl) (fun s => (Ep E0 4 (.slice s.a s.l s.c))) (fun s => []) (fun s h_2 => S34_j3 K s h_2) ?_ (fun Ih_2 hIh_2 => ?_)
    · intro v4_1 h_2 ok hS; replace hS : S34_j3 K v4_1 h_2 := hS; unfold S34_j3 at hS; refine EvC.seq (EvC.seq (Xr [.look 0, .look 1, .look 2] (Xm rfl rfl rfl rfl fun _ => ?_))); refine Xk rfl rfl (Lk.len rfl Tryd.underlying65 rfl) fun _ => ?_; refine Xk rfl rfl (Lk.arith rfl rfl rfl rfl) fun _ => ?_; refine R.nil ?_
      by_cases e1 : ((v4_1.l : Int) == 0) = true
      · rw [if_pos e1] at hS; refine EvC.condT rfl e1 (EvC.seq (Xr [.look 0, .look 1] (Xa rfl rfl rfl rfl fun _ => ?_))); refine Xa rfl rfl rfl rfl fun _ => ?_; refine R.nil (EvC.ret ?_); exact ⟨.inr rfl, _, _, (.cons (.tmp rfl) (.cons (.tmp rfl) .nil)), ok.le, _, _, rfl, hS⟩
      · rw [if_neg e1] at hS; replace e1 := eq_false_of_ne_true e1; refine EvC.condF rfl e1 (EvC.skip (EvC.seq (EvC.draw [0, 1, 3, 0, 8, 24, 0, 0, 199, 511] [Item.look 0, Item.look 1, Item.look 2, Item.look 3, Item.look 4, Item.look 5, Item.alc 6, Item.alc 7, Item.eff 8 [3, 4, 5], Item.eff 9 []] MO (by kernel_rfl) ?_))); refine R.lookL rfl rfl rfl (Lk.move rfl rfl) ?_
        obtain ⟨a44, e2, e3, e4, hS⟩ := hS
        refine R.lookL rfl rfl rfl (Lk.ixAddr rfl Tryd.underlying65 T67 rfl e2 rfl e3 e4) ?_
        obtain ⟨v45_0, v45_1, e5, hS⟩ := hS
        refine R.lookL rfl rfl rfl (Look.loc ok (Lk.loadN rfl Tryd.underlying67 rfl T67 rfl e5)) ?_; refine R.lookL rfl rfl rfl (Lk.move rfl rfl) ?_
        obtain ⟨a47, e6, e7, e8, hS⟩ := hS
        refine R.lookL rfl rfl rfl (Lk.ixAddr rfl Tryd.underlying65 T67 rfl e6 rfl e7 e8) ?_
        obtain ⟨v48_0, v48_1, e9, hS⟩ := hS
        refine R.lookL rfl rfl rfl (Look.loc ok (Lk.loadN rfl Tryd.underlying67 rfl T67 rfl e9)) ?_; refine R.var (blk := .row ⟨[(i6 0), (i6 0)], 2, 67, true, true⟩) ok rfl rfl rfl (Ac.alloc rfl T67) rfl rfl fun b9 ok => ?_; refine R.var (blk := .row ⟨[(i6 0), (i6 0)], 2, 67, true, true⟩) ok rfl rfl rfl (Ac.alloc rfl T67) rfl rfl fun b10 ok => ?_
        obtain ⟨e10, hS⟩ := hS
        refine R.effN rfl rfl rfl (Ef.storeLoc (i := 1) (vs := [(i6 v45_0), (i6 v45_1)]) (cs := [(i6 v45_0), (i6 v45_1)]) (l' := [(b10, .row ⟨[(i6 0), (i6 0)], 2, 67, true, true⟩), (b9, .row ⟨[(i6 v45_0), (i6 v45_1)], 2, 67, true, true⟩)]) ok rfl T67 rfl rfl rfl rfl rfl rfl rfl rfl rfl rfl fun ok => ⟨(List.forall_mem_cons.2 ⟨(XP (XP (Log.at_ (LookG.of rfl (Lk.move rfl rfl))))), (List.forall_mem_cons.2 ⟨(XP (Log.at_ (LookG.of rfl (Lk.ixAddr rfl Tryd.underlying65 T67 rfl e6 rfl e7 e8)))), (List.forall_mem_cons.2 ⟨(Log.at_ (LookG.of rfl (Look.loc ok (Lk.loadN rfl Tryd.underlying67 rfl T67 rfl e10)))), noChk⟩)⟩)⟩), ?_⟩); refine R.effN rfl rfl rfl (Ef.storeLoc (i := 0) (vs := [(i6 v48_0), (i6 v48_1)]) (cs := [(i6 v48_0), (i6 v48_1)]) (l' := [(b10, .row ⟨[(i6 v48_0), (i6 v48_1)], 2, 67, true, true⟩), (b9, .row ⟨[(i6 v45_0), (i6 v45_1)], 2, 67, true, true⟩)]) ok rfl T67 rfl rfl rfl rfl rfl rfl rfl rfl rfl rfl fun ok => ⟨noChk, ?_⟩); refine R.nil (EvC.join (σ := Int × Int × Int × Int) (fun s => (Ep (Ep E0 10 (.pointer (some ⟨b10, 0, none⟩))) 9 (.pointer (some ⟨b9, 0, none⟩)))) (fun s => [(b10, .row ⟨[(i6 s.1), (i6 s.2.1)], 2, 67, true, true⟩), (b9, .row ⟨[(i6 s.2.2.1), (i6 s.2.2.2)], 2, 67, true, true⟩)]) (fun s h_3 => S34_j1 K s.1 s.2.1 s.2.2.1 s.2.2.2 h_3) ?_ (fun Ih_3 hIh_3 => ?_))
        · rintro ⟨c10_0, c10_1, c9_0, c9_1⟩ h_3 ok hS; replace hS : S34_j1 K c10_0 c10_1 c9_0 c9_1 h_3 := hS; unfold S34_j1 at hS; refine EvC.seq (EvC.draw [0, 1, 0, 4, 15, 0, 32, 0, 128, 480, 31, 2047] [Item.look 0, Item.look 1, Item.look 2, Item.look 3, Item.look 4, Item.look 5, Item.look 6, Item.look 7, Item.look 8, Item.look 9, Item.look 10, Item.look 11] MO (by kernel_rfl) ?_); refine Xk (v := (.pointer (some ⟨b10, 0, none⟩))) rfl rfl (Lk.fldAddr rfl Tryd.underlying67 rfl rfl T3 rfl rfl rfl) fun _ => ?_; refine Xk rfl rfl (Lk.load1 (v := (i6 c10_0)) rfl Tryd.underlying3 rfl rfl (H.rd_loc ok (i := 0) rfl rfl)) fun _ => ?_; refine Xk (v := (.pointer (some ⟨b9, 0, none⟩))) rfl rfl (Lk.fldAddr rfl Tryd.underlying67 rfl rfl T3 rfl rfl rfl) fun _ => ?_; refine Xk rfl rfl (Lk.load1 (v := (i6 c9_0)) rfl Tryd.underlying3 rfl rfl (H.rd_loc ok (i := 1) rfl rfl)) fun _ => ?_; refine Xk rfl rfl (Lk.arith rfl rfl rfl rfl) fun _ => ?_; refine Xk (v := (.pointer (some ⟨b10, 1, none⟩))) rfl rfl (Lk.fldAddr rfl Tryd.underlying67 rfl rfl T3 rfl rfl rfl) fun _ => ?_; refine Xk rfl rfl (Lk.load1 (v := (i6 c10_1)) rfl Tryd.underlying3 rfl rfl (H.rd_loc ok (i := 0) rfl rfl)) fun _ => ?_; refine Xk (v := (.pointer (some ⟨b9, 1, none⟩))) rfl rfl (Lk.fldAddr rfl Tryd.underlying67 rfl rfl T3 rfl rfl rfl) fun _ => ?_; refine Xk rfl rfl (Lk.load1 (v := (i6 c9_1)) rfl Tryd.underlying3 rfl rfl (H.rd_loc ok (i := 1) rfl rfl)) fun _ => ?_; refine Xk rfl rfl (Lk.arith rfl rfl rfl rfl) fun _ => ?_; refine Xa rfl rfl rfl rfl fun _ => ?_; refine Xa rfl rfl rfl rfl fun _ => ?_; refine R.nil (EvC.ret ?_); exact ⟨.inr rfl, _, _, (.cons (.tmp rfl) (.cons (.tmp rfl) .nil)), ok.le, _, _, rfl, hS⟩
        · refine EvC.seq (Xr [.look 0, .look 1, .look 2] (Xm rfl rfl rfl rfl fun _ => ?_)); refine Xk rfl rfl (Lk.len rfl Tryd.underlying65 rfl) fun _ => ?_; refine Xm rfl rfl rfl rfl fun _ => ?_; refine R.nil (EvC.block (EvC.loop (LoopC.lfp (σ := Int × Int × Int × Int × Int) (fun s => (Ep (Ep (Ep (Ep (Ep E0 51 (i6 s.1)) 50 (i6 (v4_1.l : Int))) 49 (.slice v4_1.a v4_1.l v4_1.c)) 10 (.pointer (some ⟨b10, 0, none⟩))) 9 (.pointer (some ⟨b9, 0, none⟩)))) (fun s => [(b10, .row ⟨[(i6 s.2.1), (i6 s.2.2.1)], 2, 67, true, true⟩), (b9, .row ⟨[(i6 s.2.2.2.1), (i6 s.2.2.2.2)], 2, 67, true, true⟩)]) (fun X hX => ?_) hS (ok.sub (.cons_cons _ (.cons_cons _ sl0))) (lq rfl (lq rfl (lq rfl (lq rfl (lq rfl (lz _)))))) (H.add_sub ok (.cons_cons _ (.cons_cons _ sl0)))))); rintro ⟨v51, c10_0_1, c10_1_1, c9_0_1, c9_1_1⟩ h_4 hS ok; replace hS : S34_l2 K v4_1 X v51 c10_0_1 c10_1_1 c9_0_1 c9_1_1 h_4 := hS; unfold S34_l2 at hS; refine EvC.seq (Xr [.look 0] (Xk rfl rfl (Lk.arith rfl rfl rfl rfl) fun _ => ?_)); refine R.nil (EvC.seq ?_)
          by_cases e11 : (decide (v51 < (v4_1.l : Int))) = true
          · rw [if_pos e11] at hS; refine EvC.condT rfl e11 (EvC.skip (EvC.seq (EvC.block (EvC.seq (Xr [.look 0, .look 1, .alc 2, .eff 3 []] ?_)))))
            obtain ⟨a53, e12, e13, e14, hS⟩ := hS
            refine Xk rfl rfl (Lk.ixAddr rfl Tryd.underlying65 T67 rfl e12 rfl e13 e14) fun _ => ?_
            obtain ⟨v54_0, v54_1, e15, hS⟩ := hS
            refine Xk rfl rfl (Look.loc ok (Lk.loadN rfl Tryd.underlying67 rfl T67 rfl e15)) fun _ => ?_; refine R.var (blk := .row ⟨[(i6 0), (i6 0)], 2, 67, true, true⟩) ok rfl rfl rfl (Ac.alloc rfl T67) rfl rfl fun b12 ok => ?_; refine R.effN rfl rfl rfl (Ef.storeLoc (i := 0) (vs := [(i6 v54_0), (i6 v54_1)]) (cs := [(i6 v54_0), (i6 v54_1)]) (l' := [(b12, .row ⟨[(i6 v54_0), (i6 v54_1)], 2, 67, true, true⟩), (b10, .row ⟨[(i6 c10_0_1), (i6 c10_1_1)], 2, 67, true, true⟩), (b9, .row ⟨[(i6 c9_0_1), (i6 c9_1_1)], 2, 67, true, true⟩)]) ok rfl T67 rfl rfl rfl rfl rfl rfl rfl rfl rfl rfl fun ok => ⟨noChk, ?_⟩); refine R.nil (EvC.seq (Xr [.look 0, .look 1, .look 2, .look 3, .look 4, .look 5, .look 6, .look 7, .look 8, .look 9, .look 10, .eff 11 []] (Xk (v := (.pointer (some ⟨b9, 0, none⟩))) rfl rfl (Lk.fldAddr rfl Tryd.underlying67 rfl rfl T3 rfl rfl rfl) fun _ => Xk rfl rfl (Lk.load1 (v := (i6 c9_0_1)) rfl Tryd.underlying3 rfl rfl (H.rd_loc ok (i := 2) rfl rfl)) fun _ => Xk (v := (.pointer (some ⟨b12, 0, none⟩))) rfl rfl (Lk.fldAddr rfl Tryd.underlying67 rfl rfl T3 rfl rfl rfl) fun _ => Xk rfl rfl (Lk.load1 (v := (i6 v54_0)) rfl Tryd.underlying3 rfl rfl (H.rd_loc ok (i := 0) rfl rfl)) fun _ => Xk rfl rfl (Lk.min2 rfl rfl rfl) fun _ => Xk (v := (.pointer (some ⟨b9, 1, none⟩))) rfl rfl (Lk.fldAddr rfl Tryd.underlying67 rfl rfl T3 rfl rfl rfl) fun _ => Xk rfl rfl (Lk.load1 (v := (i6 c9_1_1)) rfl Tryd.underlying3 rfl rfl (H.rd_loc ok (i := 2) rfl rfl)) fun _ => Xk (v := (.pointer (some ⟨b12, 1, none⟩))) rfl rfl (Lk.fldAddr rfl Tryd.underlying67 rfl rfl T3 rfl rfl rfl) fun _ => Xk rfl rfl (Lk.load1 (v := (i6 v54_1)) rfl Tryd.underlying3 rfl rfl (H.rd_loc ok (i := 0) rfl rfl)) fun _ => Xk rfl rfl (Lk.min2 rfl rfl rfl) fun _ => ?_))); refine Xk rfl rfl (Lk.build (cs := [(i6 (if v54_0 < c9_0_1 then v54_0 else c9_0_1)), (i6 (if v54_1 < c9_1_1 then v54_1 else c9_1_1))]) (pl := [(0, 1), (1, 1)]) rfl Tryd.underlying67 T67 (PlacesL.places (.cons T3 (.cons T3 PlacesL.nil))) rfl rfl) fun _ => ?_; refine R.effN rfl rfl rfl (Ef.storeLoc (i := 2) (vs := [(i6 (if v54_0 < c9_0_1 then v54_0 else c9_0_1)), (i6 (if v54_1 < c9_1_1 then v54_1 else c9_1_1))]) (cs := [(i6 (if v54_0 < c9_0_1 then v54_0 else c9_0_1)), (i6 (if v54_1 < c9_1_1 then v54_1 else c9_1_1))]) (l' := [(b12, .row ⟨[(i6 v54_0), (i6 v54_1)], 2, 67, true, true⟩), (b10, .row ⟨[(i6 c10_0_1), (i6 c10_1_1)], 2, 67, true, true⟩), (b9, .row ⟨[(i6 (if v54_0 < c9_0_1 then v54_0 else c9_0_1)), (i6 (if v54_1 < c9_1_1 then v54_1 else c9_1_1))], 2, 67, true, true⟩)]) ok rfl T67 rfl rfl rfl rfl rfl rfl rfl rfl rfl rfl fun ok => ⟨noChk, ?_⟩); refine R.nil (Xr [.look 0, .look 1, .look 2, .look 3, .look 4, .look 5, .look 6, .look 7, .look 8, .look 9, .look 10, .eff 11 []] (Xk (v := (.pointer (some ⟨b10, 0, none⟩))) rfl rfl (Lk.fldAddr rfl Tryd.underlying67 rfl rfl T3 rfl rfl rfl) fun _ => ?_))
            refine Xk rfl rfl (Lk.load1 (v := (i6 c10_0_1)) rfl Tryd.underlying3 rfl rfl (H.rd_loc ok (i := 1) rfl rfl)) fun _ => ?_; refine Xk (v := (.pointer (some ⟨b12, 0, none⟩))) rfl rfl (Lk.fldAddr rfl Tryd.underlying67 rfl rfl T3 rfl rfl rfl) fun _ => ?_; refine Xk rfl rfl (Lk.load1 (v := (i6 v54_0)) rfl Tryd.underlying3 rfl rfl (H.rd_loc ok (i := 0) rfl rfl)) fun _ => ?_; refine Xk rfl rfl (Lk.max2 rfl rfl rfl) fun _ => ?_; refine Xk (v := (.pointer (some ⟨b10, 1, none⟩))) rfl rfl (Lk.fldAddr rfl Tryd.underlying67 rfl rfl T3 rfl rfl rfl) fun _ => ?_; refine Xk rfl rfl (Lk.load1 (v := (i6 c10_1_1)) rfl Tryd.underlying3 rfl rfl (H.rd_loc ok (i := 1) rfl rfl)) fun _ => ?_; refine Xk (v := (.pointer (some ⟨b12, 1, none⟩))) rfl rfl (Lk.fldAddr rfl Tryd.underlying67 rfl rfl T3 rfl rfl rfl) fun _ => ?_; refine Xk rfl rfl (Lk.load1 (v := (i6 v54_1)) rfl Tryd.underlying3 rfl rfl (H.rd_loc ok (i := 0) rfl rfl)) fun _ => ?_; refine Xk rfl rfl (Lk.max2 rfl rfl rfl) fun _ => ?_; refine Xk rfl rfl (Lk.build (cs := [(i6 (if v54_0 > c10_0_1 then v54_0 else c10_0_1)), (i6 (if v54_1 > c10_1_1 then v54_1 else c10_1_1))]) (pl := [(0, 1), (1, 1)]) rfl Tryd.underlying67 T67 (PlacesL.places (.cons T3 (.cons T3 PlacesL.nil))) rfl rfl) fun _ => ?_; refine R.effN rfl rfl rfl (Ef.storeLoc (i := 1) (vs := [(i6 (if v54_0 > c10_0_1 then v54_0 else c10_0_1)), (i6 (if v54_1 > c10_1_1 then v54_1 else c10_1_1))]) (cs := [(i6 (if v54_0 > c10_0_1 then v54_0 else c10_0_1)), (i6 (if v54_1 > c10_1_1 then v54_1 else c10_1_1))]) (l' := [(b12, .row ⟨[(i6 v54_0), (i6 v54_1)], 2, 67, true, true⟩), (b10, .row ⟨[(i6 (if v54_0 > c10_0_1 then v54_0 else c10_0_1)), (i6 (if v54_1 > c10_1_1 then v54_1 else c10_1_1))], 2, 67, true, true⟩), (b9, .row ⟨[(i6 (if v54_0 < c9_0_1 then v54_0 else c9_0_1)), (i6 (if v54_1 < c9_1_1 then v54_1 else c9_1_1))], 2, 67, true, true⟩)]) ok rfl T67 rfl rfl rfl rfl rfl rfl rfl rfl rfl rfl fun ok => ⟨noChk, ?_⟩); refine R.nil (Xr [.look 0, .look 1] (Xk rfl rfl (Lk.arith rfl rfl rfl rfl) fun _ => Xm rfl rfl rfl rfl fun _ => R.nil ?_)); exact hX ((IntKind.wrap .i64 (v51 + 1)), (if v54_0 > c10_0_1 then v54_0 else c10_0_1), (if v54_1 > c10_1_1 then v54_1 else c10_1_1), (if v54_0 < c9_0_1 then v54_0 else c9_0_1), (if v54_1 < c9_1_1 then v54_1 else c9_1_1)) _ _ _ hS (ok.sub (.cons _ (.cons_cons _ (.cons_cons _ sl0)))) (lq rfl (lq rfl (lq rfl (lq rfl (lq rfl (lz _)))))) (H.add_sub ok (.cons _ (.cons_cons _ (.cons_cons _ sl0))))
          · rw [if_neg e11] at hS; replace e11 := eq_false_of_ne_true e11; refine EvC.condF rfl e11 (EvC.exit ?_); exact hIh_3 (c10_0_1, c10_1_1, c9_0_1, c9_1_1) _ _ _ (lq rfl (lq rfl (lz _))) (ok.sub (.cons_cons _ (.cons_cons _ sl0))) (H.add_sub ok (.cons_cons _ (.cons_cons _ sl0))) hS
    · refine EvC.seq (Xr [.look 0, .look 1, .look 2, .look 3] (Xk (v := (.pointer (some ⟨b1, 1, none⟩))) rfl rfl (Lk.fldAddr rfl Tryd.underlying71 rfl rfl T69 rfl rfl rfl) fun _ => ?_)); refine Xk rfl rfl (Lk.load1 (v := (.slice p0_1.a p0_1.l p0_1.c)) rfl Tryd.underlying69 rfl rfl (H.rd_loc ok (i := 0) rfl rfl)) fun _ => ?_; refine Xk rfl rfl (Lk.len rfl Tryd.underlying69 rfl) fun _ => ?_; refine Xm rfl rfl rfl rfl fun _ => ?_; refine R.nil (EvC.block (EvC.loop (LoopC.lfp (σ := Sl × Int) (fun s => (Ep (Ep (Ep (Ep E0 31 (i6 s.2)) 30 (i6 (p0_1.l : Int))) 29 (.slice p0_1.a p0_1.l p0_1.c)) 4 (.slice s.1.a s.1.l s.1.c))) (fun s => []) (fun X_1 hX_1 => ?_) hS (ok.sub (.cons _ sl0)) (lq rfl (lq rfl (lq rfl (lq rfl (lz _))))) (H.add_sub ok (.cons _ sl0))))); rintro ⟨v4_2, v31⟩ h_5 hS ok; replace hS : S34_l4 p0_1 K X_1 v4_2 v31 h_5 := hS; unfold S34_l4 at hS; refine EvC.seq (Xr [.look 0] (Xk rfl rfl (Lk.arith rfl rfl rfl rfl) fun _ => ?_)); refine R.nil (EvC.seq ?_)
      by_cases e16 : (decide (v31 < (p0_1.l : Int))) = true
      · rw [if_pos e16] at hS; refine EvC.condT rfl e16 (EvC.skip (EvC.seq (EvC.block (EvC.seq (Xr [.look 0, .look 1, .alc 2, .eff 3 []] ?_)))))
        obtain ⟨a33, e17, e18, e19, hS⟩ := hS
        refine Xk rfl rfl (Lk.ixAddr rfl Tryd.underlying69 T84 rfl e17 rfl e18 e19) fun _ => ?_
        obtain ⟨v34_0, v34_1, v34_2, e20, hS⟩ := hS
        refine Xk rfl rfl (Look.loc ok (Lk.loadN rfl Tryd.underlying84 rfl T84 rfl e20)) fun _ => ?_; refine R.var (blk := .row ⟨[(i6 0), (i6 0), (.slice none 0 0)], 3, 84, true, true⟩) ok rfl rfl rfl (Ac.alloc rfl T84) rfl rfl fun b8 ok => ?_; refine R.effN rfl rfl rfl (Ef.storeLoc (i := 0) (vs := [(i6 v34_0), (i6 v34_1), (.slice v34_2.a v34_2.l v34_2.c)]) (cs := [(i6 v34_0), (i6 v34_1), (.slice v34_2.a v34_2.l v34_2.c)]) (l' := [(b8, .row ⟨[(i6 v34_0), (i6 v34_1), (.slice v34_2.a v34_2.l v34_2.c)], 3, 84, true, true⟩)]) ok rfl T84 rfl rfl rfl rfl rfl rfl rfl rfl rfl rfl fun ok => ⟨noChk, ?_⟩); refine R.nil (Xr [.look 0, .look 1, .look 2, .eff 3 [], .look 4] (Xm rfl rfl rfl rfl fun _ => Xk (v := (.pointer (some ⟨b8, 2, none⟩))) rfl rfl (Lk.fldAddr rfl Tryd.underlying84 rfl rfl T65 rfl rfl rfl) fun _ => Xk rfl rfl (Lk.load1 (v := (.slice v34_2.a v34_2.l v34_2.c)) rfl Tryd.underlying65 rfl rfl (H.rd_loc ok (i := 0) rfl rfl)) fun _ => ?_))
        obtain ⟨e21, hS⟩ := hS
        refine R.appS ok rfl rfl rfl rfl Tryd.underlying65 T67 rfl rfl rfl rfl e21 hS ?_; intro v38 h_6 hS ok; refine ⟨noChk, ?_⟩; refine Xa rfl rfl rfl rfl fun _ => ?_; refine R.nil (Xr [.look 0, .look 1] (Xk rfl rfl (Lk.arith rfl rfl rfl rfl) fun _ => Xm rfl rfl rfl rfl fun _ => R.nil ?_)); exact hX_1 (v38, (IntKind.wrap .i64 (v31 + 1))) _ _ _ hS (ok.sub (.cons _ sl0)) (lq rfl (lq rfl (lq rfl (lq rfl (lz _))))) (H.add_sub ok (.cons _ sl0))
      · rw [if_neg e16] at hS; replace e16 := eq_false_of_ne_true e16; refine EvC.condF rfl e16 (EvC.exit ?_); exact hIh_2 v4_2 _ _ _ (lq rfl (lz _)) (ok.sub sl0) (H.add_sub ok sl0) hS
  · refine EvC.seq (Xr [.look 0, .look 1, .look 2, .look 3] (Xk (v := (.pointer (some ⟨b1, 0, none⟩))) rfl rfl (Lk.fldAddr rfl Tryd.underlying71 rfl rfl T68 rfl rfl rfl) fun _ => ?_)); refine Xk rfl rfl (Lk.load1 (v := (.slice p0_0.a p0_0.l p0_0.c)) rfl Tryd.underlying68 rfl rfl (H.rd_loc ok (i := 0) rfl rfl)) fun _ => ?_; refine Xk rfl rfl (Lk.len rfl Tryd.underlying68 rfl) fun _ => ?_; refine Xm rfl rfl rfl rfl fun _ => ?_; refine R.nil (EvC.block (EvC.loop (LoopC.lfp (σ := Sl × Int) (fun s => (Ep (Ep (Ep (Ep (Ep E0 16 (i6 s.2)) 15 (i6 (p0_0.l : Int))) 14 (.slice p0_0.a p0_0.l p0_0.c)) 4 (.slice s.1.a s.1.l s.1.c)) 1 (.pointer (some ⟨b1, 0, none⟩)))) (fun s => [(b1, .row ⟨[(.slice p0_0.a p0_0.l p0_0.c), (.slice p0_1.a p0_1.l p0_1.c)], 2, 71, true, true⟩)]) (fun X_2 hX_2 => ?_) hS (ok.sub (.cons_cons _ sl0)) (lq rfl (lq rfl (lq rfl (lq rfl (lq rfl (lz _)))))) (H.add_sub ok (.cons_cons _ sl0))))); rintro ⟨v4_3, v16⟩ h_7 hS ok; replace hS : S34_l6 p0_0 p0_1 K X_2 v4_3 v16 h_7 := hS; unfold S34_l6 at hS; refine EvC.seq (Xr [.look 0] (Xk rfl rfl (Lk.arith rfl rfl rfl rfl) fun _ => ?_)); refine R.nil (EvC.seq ?_)
    by_cases e22 : (decide (v16 < (p0_0.l : Int))) = true
    · rw [if_pos e22] at hS; refine EvC.condT rfl e22 (EvC.skip (EvC.seq (EvC.block (EvC.seq (Xr [.look 0, .look 1, .alc 2, .eff 3 []] ?_)))))
      obtain ⟨a18, e23, e24, e25, hS⟩ := hS
      refine Xk rfl rfl (Lk.ixAddr rfl Tryd.underlying68 T86 rfl e23 rfl e24 e25) fun _ => ?_
      obtain ⟨v19_0, v19_1, v19_2, v19_3, e26, hS⟩ := hS
      refine Xk rfl rfl (Look.loc ok (Lk.loadN rfl Tryd.underlying86 rfl T86 rfl e26)) fun _ => ?_; refine R.var (blk := .row ⟨[(i6 0), (i6 0), (i6 0), (i6 0)], 4, 86, true, true⟩) ok rfl rfl rfl (Ac.alloc rfl T86) rfl rfl fun b6 ok => ?_; refine R.effN rfl rfl rfl (Ef.storeLoc (i := 0) (vs := [(i6 v19_0), (i6 v19_1), (i6 v19_2), (i6 v19_3)]) (cs := [(i6 v19_0), (i6 v19_1), (i6 v19_2), (i6 v19_3)]) (l' := [(b6, .row ⟨[(i6 v19_0), (i6 v19_1), (i6 v19_2), (i6 v19_3)], 4, 86, true, true⟩), (b1, .row ⟨[(.slice p0_0.a p0_0.l p0_0.c), (.slice p0_1.a p0_1.l p0_1.c)], 2, 71, true, true⟩)]) ok rfl T86 rfl rfl rfl rfl rfl rfl rfl rfl rfl rfl fun ok => ⟨noChk, ?_⟩); refine R.nil (Xr [.look 0, .look 1, .look 2, .look 3, .look 4, .alc 5, .eff 6 [], .look 7] (Xm rfl rfl rfl rfl fun _ => Xk (v := (.pointer (some ⟨b6, 0, none⟩))) rfl rfl (Lk.fldAddr rfl Tryd.underlying86 rfl rfl T67 rfl rfl rfl) fun _ => Xk rfl rfl (Lk.loadN (vs := [(i6 v19_0), (i6 v19_1)]) rfl Tryd.underlying67 rfl T67 rfl (H.rdn_loc ok (i := 0) rfl rfl rfl)) fun _ => Xk (v := (.pointer (some ⟨b6, 2, none⟩))) rfl rfl (Lk.fldAddr rfl Tryd.underlying86 rfl rfl T67 rfl rfl rfl) fun _ => Xk rfl rfl (Lk.loadN (vs := [(i6 v19_2), (i6 v19_3)]) rfl Tryd.underlying67 rfl T67 rfl (H.rdn_loc ok (i := 0) rfl rfl rfl)) fun _ => R.appL (cs := [(i6 v19_0), (i6 v19_1), (i6 v19_2), (i6 v19_3)]) ok rfl rfl rfl rfl rfl rfl rfl rfl Tryd.underlying65 T67 rfl (by decide) (by decide) rfl rfl rfl rfl rfl (fun _ => rfl) hS ?_)); intro bb25 v26 h_8 hS ok; refine ⟨noChk, ?_⟩; refine Xa rfl rfl rfl rfl fun _ => ?_; refine R.nil (Xr [.look 0, .look 1] (Xk rfl rfl (Lk.arith rfl rfl rfl rfl) fun _ => Xm rfl rfl rfl rfl fun _ => R.nil ?_)); exact hX_2 (v26, (IntKind.wrap .i64 (v16 + 1))) _ _ _ hS (ok.sub (.cons _ (.cons_cons _ sl0))) (lq rfl (lq rfl (lq rfl (lq rfl (lq rfl (lz _)))))) (H.add_sub ok (.cons _ (.cons_cons _ sl0)))
    · rw [if_neg e22] at hS; replace e22 := eq_false_of_ne_true e22; refine EvC.condF rfl e22 (EvC.exit ?_); exact hIh_1 v4_3 _ _ _ (lq rfl (lq rfl (lz _))) (ok.sub (.cons_cons _ sl0)) (H.add_sub ok (.cons_cons _ sl0)) hS

theorem f65_ok {p0 : Sl} {p1 : Sl} {h : H} {K : Bool → H → Prop} (hS : S65 p0 p1 h K) : ACall Tryd.prog 65 ([(.slice p0.a p0.l p0.c), (.slice p1.a p1.l p1.c)] : List Value).toArray h (fun r h' => ∃ r0 : Bool, r = tup [(.bool r0)] ∧ K r0 h') := by
  refine ACall.enter (fn := Tryd.f65) Tryd.func65 rfl (Nat.le_of_ble_eq_true rfl) ?_; unfold S65 at hS; have ok := Lok.nil h; refine EvC.seq (Xr [.look 0] (Xa rfl rfl rfl rfl fun _ => ?_)); refine R.nil (EvC.seq (EvC.seq (Xr [.look 0, .look 1, .look 2, .look 3, .look 4] (Xm rfl rfl rfl rfl fun _ => Xk rfl rfl (Lk.len rfl Tryd.underlying68 rfl) fun _ => Xm rfl rfl rfl rfl fun _ => Xk rfl rfl (Lk.len rfl Tryd.underlying68 rfl) fun _ => Xk rfl rfl (Lk.arith rfl rfl rfl rfl) fun _ => R.nil ?_))))
  by_cases e1 : ((p0.l : Int) != (p1.l : Int)) = true
  · rw [if_pos e1] at hS; refine EvC.condT rfl e1 (EvC.seq (Xr [.look 0] (Xa rfl rfl rfl rfl fun _ => ?_))); refine R.nil (EvC.ret ?_); exact ⟨.inr rfl, _, _, (.cons (.tmp rfl) .nil), ok.le, _, rfl, hS⟩
  · rw [if_neg e1] at hS; replace e1 := eq_false_of_ne_true e1; refine EvC.condF rfl e1 (EvC.skip (EvC.join (σ := Unit) (fun s => E0) (fun s => []) (fun s h_1 => S65_j1 K h_1) ?_ (fun Ih_1 hIh_1 => ?_)))
    · rintro ⟨⟩ h_1 ok hS; replace hS : S65_j1 K h_1 := hS; unfold S65_j1 at hS; refine EvC.seq (Xr [.look 0] (Xa rfl rfl rfl rfl fun _ => ?_)); refine R.nil (EvC.ret ?_); exact ⟨.inr rfl, _, _, (.cons (.tmp rfl) .nil), ok.le, _, rfl, hS⟩
    · refine EvC.seq (Xr [.look 0, .look 1, .look 2] (Xm rfl rfl rfl rfl fun _ => ?_)); refine Xk rfl rfl (Lk.len rfl Tryd.underlying68 rfl) fun _ => ?_; refine Xm rfl rfl rfl rfl fun _ => ?_; refine R.nil (EvC.block (EvC.loop (LoopC.lfp (σ := Int) (fun s => (Ep (Ep (Ep (Ep E0 13 (i6 s)) 12 (i6 (p0.l : Int))) 1 (.slice p1.a p1.l p1.c)) 0 (.slice p0.a p0.l p0.c))) (fun s => []) (fun X hX => ?_) hS (ok.sub sl0) (lq rfl (lq rfl (lq rfl (lq rfl (lz _))))) (H.add_sub ok sl0)))); intro v13 h_2 hS ok; replace hS : S65_l2 p0 p1 K X v13 h_2 := hS; unfold S65_l2 at hS; refine EvC.seq (Xr [.look 0] (Xk rfl rfl (Lk.arith rfl rfl rfl rfl) fun _ => ?_)); refine R.nil (EvC.seq ?_)
      by_cases e2 : (decide (v13 < (p0.l : Int))) = true
      · rw [if_pos e2] at hS; refine EvC.condT rfl e2 (EvC.skip (EvC.seq (EvC.block (EvC.seq (Xr [.look 0, .look 1] (Xm rfl rfl rfl rfl fun _ => ?_)))))); refine Xa rfl rfl rfl rfl fun _ => ?_; refine R.nil (EvC.seq (EvC.draw [0, 0, 3, 7, 0, 0, 48, 112, 255] [Item.look 0, Item.look 1, Item.look 2, Item.look 3, Item.look 4, Item.look 5, Item.look 6, Item.look 7, Item.look 8] MO (by kernel_rfl) ?_)); refine Xm rfl rfl rfl rfl fun _ => ?_; refine Xm rfl rfl rfl rfl fun _ => ?_
        obtain ⟨a18, e3, e4, e5, hS⟩ := hS
        refine Xk rfl rfl (Lk.ixAddr rfl Tryd.underlying68 T86 rfl e3 rfl e4 e5) fun _ => ?_
        obtain ⟨v19_0, v19_1, v19_2, v19_3, e6, hS⟩ := hS
        refine Xk rfl rfl (Look.loc ok (Lk.loadN rfl Tryd.underlying86 rfl T86 rfl e6)) fun _ => ?_; refine Xm rfl rfl rfl rfl fun _ => ?_; refine Xm rfl rfl rfl rfl fun _ => ?_
        obtain ⟨a22, e7, e8, e9, hS⟩ := hS
        refine Xk rfl rfl (Lk.ixAddr rfl Tryd.underlying68 T86 rfl e7 rfl e8 e9) fun _ => ?_
        obtain ⟨v23_0, v23_1, v23_2, v23_3, e10, hS⟩ := hS
        refine Xk rfl rfl (Look.loc ok (Lk.loadN rfl Tryd.underlying86 rfl T86 rfl e10)) fun _ => ?_; refine R.look (v := (.bool (!(((v19_0 == v23_0) && ((v19_1 == v23_1) && true)) && (((v19_2 == v23_2) && ((v19_3 == v23_3) && true)) && true))))) rfl rfl rfl (Lk.neS rfl EG86 rfl rfl (EqR.struct Tryd.underlying86 SH86 (EqF.cons (a := (.agg ([(i6 v19_0), (i6 v19_1)] : List Value).toArray)) (b := (.agg ([(i6 v23_0), (i6 v23_1)] : List Value).toArray)) (by decide) Tryd.underlying67 T67 rfl rfl (EqR.struct Tryd.underlying67 SH67 (EqF.cons (a := (i6 v19_0)) (b := (i6 v23_0)) (by decide) Tryd.underlying3 T3 rfl rfl (EqR.int Tryd.underlying3) (EqF.cons (a := (i6 v19_1)) (b := (i6 v23_1)) (by decide) Tryd.underlying3 T3 rfl rfl (EqR.int Tryd.underlying3) EqF.nil))) (EqF.cons (a := (.agg ([(i6 v19_2), (i6 v19_3)] : List Value).toArray)) (b := (.agg ([(i6 v23_2), (i6 v23_3)] : List Value).toArray)) (by decide) Tryd.underlying67 T67 rfl rfl (EqR.struct Tryd.underlying67 SH67 (EqF.cons (a := (i6 v19_2)) (b := (i6 v23_2)) (by decide) Tryd.underlying3 T3 rfl rfl (EqR.int Tryd.underlying3) (EqF.cons (a := (i6 v19_3)) (b := (i6 v23_3)) (by decide) Tryd.underlying3 T3 rfl rfl (EqR.int Tryd.underlying3) EqF.nil))) EqF.nil)))) fun _ => R.nil ?_
        by_cases e11 : (!(((v19_0 == v23_0) && ((v19_1 == v23_1) && true)) && (((v19_2 == v23_2) && ((v19_3 == v23_3) && true)) && true))) = true
        · rw [if_pos e11] at hS; refine EvC.condT rfl e11 (EvC.seq (Xr [.look 0] (Xa rfl rfl rfl rfl fun _ => ?_))); refine R.nil (EvC.ret ?_); exact ⟨.inr rfl, _, _, (.cons (.tmp rfl) .nil), ok.le, _, rfl, hS⟩
        · rw [if_neg e11] at hS; replace e11 := eq_false_of_ne_true e11; refine EvC.condF rfl e11 (EvC.skip (Xr [.look 0, .look 1] (Xk rfl rfl (Lk.arith rfl rfl rfl rfl) fun _ => ?_))); refine Xm rfl rfl rfl rfl fun _ => ?_; refine R.nil ?_; exact hX (IntKind.wrap .i64 (v13 + 1)) _ _ _ hS (ok.sub sl0) (lq rfl (lq rfl (lq rfl (lq rfl (lz _))))) (H.add_sub ok sl0)
      · rw [if_neg e2] at hS; replace e2 := eq_false_of_ne_true e2; refine EvC.condF rfl e2 (EvC.exit ?_); exact hIh_1 () _ _ _ (lz _) (ok.sub sl0) (H.add_sub ok sl0) hS

theorem f91_ok {p0 : Sl} {p1 : Sl} {h : H} {K : Bool → H → Prop} (hS : S91 p0 p1 h K) : ACall Tryd.prog 91 ([(.slice p0.a p0.l p0.c), (.slice p1.a p1.l p1.c)] : List Value).toArray h (fun r h' => ∃ r0 : Bool, r = tup [(.bool r0)] ∧ K r0 h') := by
  refine ACall.enter (fn := Tryd.f91) Tryd.func91 rfl (Nat.le_of_ble_eq_true rfl) ?_; unfold S91 at hS; have ok := Lok.nil h; refine EvC.seq (Xr [.look 0] (Xa rfl rfl rfl rfl fun _ => ?_)); refine R.nil (EvC.seq (EvC.seq (Xr [.look 0, .look 1, .look 2, .look 3, .look 4] (Xm rfl rfl rfl rfl fun _ => Xk rfl rfl (Lk.len rfl Tryd.underlying65 rfl) fun _ => Xm rfl rfl rfl rfl fun _ => Xk rfl rfl (Lk.len rfl Tryd.underlying65 rfl) fun _ => Xk rfl rfl (Lk.arith rfl rfl rfl rfl) fun _ => R.nil ?_))))
  by_cases e1 : ((p0.l : Int) != (p1.l : Int)) = true
  · rw [if_pos e1] at hS; refine EvC.condT rfl e1 (EvC.seq (Xr [.look 0] (Xa rfl rfl rfl rfl fun _ => ?_))); refine R.nil (EvC.ret ?_); exact ⟨.inr rfl, _, _, (.cons (.tmp rfl) .nil), ok.le, _, rfl, hS⟩
  · rw [if_neg e1] at hS; replace e1 := eq_false_of_ne_true e1; refine EvC.condF rfl e1 (EvC.skip (EvC.join (σ := Unit) (fun s => E0) (fun s => []) (fun s h_1 => S91_j1 K h_1) ?_ (fun Ih_1 hIh_1 => ?_)))
    · rintro ⟨⟩ h_1 ok hS; replace hS : S91_j1 K h_1 := hS; unfold S91_j1 at hS; refine EvC.seq (Xr [.look 0] (Xa rfl rfl rfl rfl fun _ => ?_)); refine R.nil (EvC.ret ?_); exact ⟨.inr rfl, _, _, (.cons (.tmp rfl) .nil), ok.le, _, rfl, hS⟩
    · refine EvC.seq (Xr [.look 0, .look 1, .look 2] (Xm rfl rfl rfl rfl fun _ => ?_)); refine Xk rfl rfl (Lk.len rfl Tryd.underlying65 rfl) fun _ => ?_; refine Xm rfl rfl rfl rfl fun _ => ?_; refine R.nil (EvC.block (EvC.loop (LoopC.lfp (σ := Int) (fun s => (Ep (Ep (Ep (Ep E0 13 (i6 s)) 12 (i6 (p0.l : Int))) 1 (.slice p1.a p1.l p1.c)) 0 (.slice p0.a p0.l p0.c))) (fun s => []) (fun X hX => ?_) hS (ok.sub sl0) (lq rfl (lq rfl (lq rfl (lq rfl (lz _))))) (H.add_sub ok sl0)))); intro v13 h_2 hS ok; replace hS : S91_l2 p0 p1 K X v13 h_2 := hS; unfold S91_l2 at hS; refine EvC.seq (Xr [.look 0] (Xk rfl rfl (Lk.arith rfl rfl rfl rfl) fun _ => ?_)); refine R.nil (EvC.seq ?_)
      by_cases e2 : (decide (v13 < (p0.l : Int))) = true
      · rw [if_pos e2] at hS; refine EvC.condT rfl e2 (EvC.skip (EvC.seq (EvC.block (EvC.seq (Xr [.look 0, .look 1] (Xm rfl rfl rfl rfl fun _ => ?_)))))); refine Xa rfl rfl rfl rfl fun _ => ?_; refine R.nil (EvC.seq (EvC.draw [0, 0, 3, 7, 0, 0, 48, 112, 255] [Item.look 0, Item.look 1, Item.look 2, Item.look 3, Item.look 4, Item.look 5, Item.look 6, Item.look 7, Item.look 8] MO (by kernel_rfl) ?_)); refine Xm rfl rfl rfl rfl fun _ => ?_; refine Xm rfl rfl rfl rfl fun _ => ?_
        obtain ⟨a18, e3, e4, e5, hS⟩ := hS
        refine Xk rfl rfl (Lk.ixAddr rfl Tryd.underlying65 T67 rfl e3 rfl e4 e5) fun _ => ?_
        obtain ⟨v19_0, v19_1, e6, hS⟩ := hS
        refine Xk rfl rfl (Look.loc ok (Lk.loadN rfl Tryd.underlying67 rfl T67 rfl e6)) fun _ => ?_; refine Xm rfl rfl rfl rfl fun _ => ?_; refine Xm rfl rfl rfl rfl fun _ => ?_
        obtain ⟨a22, e7, e8, e9, hS⟩ := hS
        refine Xk rfl rfl (Lk.ixAddr rfl Tryd.underlying65 T67 rfl e7 rfl e8 e9) fun _ => ?_
        obtain ⟨v23_0, v23_1, e10, hS⟩ := hS
        refine Xk rfl rfl (Look.loc ok (Lk.loadN rfl Tryd.underlying67 rfl T67 rfl e10)) fun _ => ?_; refine R.look (v := (.bool (!((v19_0 == v23_0) && ((v19_1 == v23_1) && true))))) rfl rfl rfl (Lk.neS rfl EG67 rfl rfl (EqR.struct Tryd.underlying67 SH67 (EqF.cons (a := (i6 v19_0)) (b := (i6 v23_0)) (by decide) Tryd.underlying3 T3 rfl rfl (EqR.int Tryd.underlying3) (EqF.cons (a := (i6 v19_1)) (b := (i6 v23_1)) (by decide) Tryd.underlying3 T3 rfl rfl (EqR.int Tryd.underlying3) EqF.nil)))) fun _ => R.nil ?_
        by_cases e11 : (!((v19_0 == v23_0) && ((v19_1 == v23_1) && true))) = true
        · rw [if_pos e11] at hS; refine EvC.condT rfl e11 (EvC.seq (Xr [.look 0] (Xa rfl rfl rfl rfl fun _ => ?_))); refine R.nil (EvC.ret ?_); exact ⟨.inr rfl, _, _, (.cons (.tmp rfl) .nil), ok.le, _, rfl, hS⟩
        · rw [if_neg e11] at hS; replace e11 := eq_false_of_ne_true e11; refine EvC.condF rfl e11 (EvC.skip (Xr [.look 0, .look 1] (Xk rfl rfl (Lk.arith rfl rfl rfl rfl) fun _ => ?_))); refine Xm rfl rfl rfl rfl fun _ => ?_; refine R.nil ?_; exact hX (IntKind.wrap .i64 (v13 + 1)) _ _ _ hS (ok.sub sl0) (lq rfl (lq rfl (lq rfl (lq rfl (lz _))))) (H.add_sub ok sl0)
      · rw [if_neg e2] at hS; replace e2 := eq_false_of_ne_true e2; refine EvC.condF rfl e2 (EvC.exit ?_); exact hIh_1 () _ _ _ (lz _) (ok.sub sl0) (H.add_sub ok sl0) hS

theorem f67_ok {p0_0 : Int} {p0_1 : Int} {p0_2 : Sl} {p1_0 : Int} {p1_1 : Int} {p1_2 : Sl} {h : H} {K : Bool → H → Prop} (hS : S67 p0_0 p0_1 p0_2 p1_0 p1_1 p1_2 h K) : ACall Tryd.prog 67 ([(.agg ([(i6 p0_0), (i6 p0_1), (.slice p0_2.a p0_2.l p0_2.c)] : List Value).toArray), (.agg ([(i6 p1_0), (i6 p1_1), (.slice p1_2.a p1_2.l p1_2.c)] : List Value).toArray)] : List Value).toArray h (fun r h' => ∃ r0 : Bool, r = tup [(.bool r0)] ∧ K r0 h') := by
  refine ACall.enter (fn := Tryd.f67) Tryd.func67 rfl (Nat.le_of_ble_eq_true rfl) ?_; unfold S67 at hS; have ok := Lok.nil h; refine EvC.seq (Xr [.alc 0, .alc 1, .look 2] (R.var (blk := .row ⟨[(i6 p0_0), (i6 p0_1), (.slice p0_2.a p0_2.l p0_2.c)], 3, 84, true, true⟩) ok rfl rfl rfl (Ac.box rfl rfl) rfl rfl fun b2 ok => ?_)); refine R.var (blk := .row ⟨[(i6 p1_0), (i6 p1_1), (.slice p1_2.a p1_2.l p1_2.c)], 3, 84, true, true⟩) ok rfl rfl rfl (Ac.box rfl rfl) rfl rfl fun b3 ok => ?_; refine Xa rfl rfl rfl rfl fun _ => ?_; refine R.nil (EvC.join (σ := Bool) (fun s => (Ep E0 4 (.bool s))) (fun s => []) (fun s h_1 => S67_j1 K s h_1) ?_ (fun Ih_1 hIh_1 => ?_))
  · intro v4 h_1 ok hS; replace hS : S67_j1 K v4 h_1 := hS; unfold S67_j1 at hS; refine EvC.ret ?_; exact ⟨.inr rfl, _, _, (.cons (.tmp rfl) .nil), ok.le, _, rfl, hS⟩
  · refine Xr [.look 0, .look 1, .look 2, .look 3, .look 4, .look 5, .look 6, .look 7, .look 8, .look 9, .look 10, .look 11, .look 12, .look 13, .look 14, .look 15, .look 16, .eff 17 [], .look 18, .look 19] (Xk (v := (.pointer (some ⟨b2, 0, none⟩))) rfl rfl (Lk.fldAddr rfl Tryd.underlying84 rfl rfl T3 rfl rfl rfl) fun _ => ?_); refine Xk rfl rfl (Lk.load1 (v := (i6 p0_0)) rfl Tryd.underlying3 rfl rfl (H.rd_loc ok (i := 1) rfl rfl)) fun _ => ?_; refine Xk (v := (.pointer (some ⟨b3, 0, none⟩))) rfl rfl (Lk.fldAddr rfl Tryd.underlying84 rfl rfl T3 rfl rfl rfl) fun _ => ?_; refine Xk rfl rfl (Lk.load1 (v := (i6 p1_0)) rfl Tryd.underlying3 rfl rfl (H.rd_loc ok (i := 0) rfl rfl)) fun _ => ?_; refine Xk rfl rfl (Lk.arith rfl rfl rfl rfl) fun _ => ?_; refine Xm rfl rfl rfl rfl fun _ => ?_
    by_cases e1 : (p0_0 == p1_0) = true
    · rw [if_pos e1] at hS; refine R.lookT (v := (.pointer (some ⟨b2, 1, none⟩))) rfl rfl rfl rfl e1 rfl (Lk.fldAddr rfl Tryd.underlying84 rfl rfl T3 rfl rfl rfl) fun _ => R.lookT rfl rfl rfl rfl e1 rfl (Lk.load1 (v := (i6 p0_1)) rfl Tryd.underlying3 rfl rfl (H.rd_loc ok (i := 1) rfl rfl)) fun _ => R.lookT (v := (.pointer (some ⟨b3, 1, none⟩))) rfl rfl rfl rfl e1 rfl (Lk.fldAddr rfl Tryd.underlying84 rfl rfl T3 rfl rfl rfl) fun _ => R.lookT rfl rfl rfl rfl e1 rfl (Lk.load1 (v := (i6 p1_1)) rfl Tryd.underlying3 rfl rfl (H.rd_loc ok (i := 0) rfl rfl)) fun _ => R.lookT rfl rfl rfl rfl e1 rfl (Lk.arith rfl rfl rfl rfl) fun _ => Xk rfl rfl (Lk.pick rfl rfl (fun _ => rfl) (fun e => by rw [e1] at e; cases e)) fun _ => Xm rfl rfl rfl rfl fun _ => ?_
      by_cases e2 : (p0_1 == p1_1) = true
      · rw [if_pos e2] at hS; refine R.lookT (v := (.pointer (some ⟨b2, 2, none⟩))) rfl rfl rfl rfl e2 rfl (Lk.fldAddr rfl Tryd.underlying84 rfl rfl T65 rfl rfl rfl) fun _ => R.lookT rfl rfl rfl rfl e2 rfl (Lk.load1 (v := (.slice p0_2.a p0_2.l p0_2.c)) rfl Tryd.underlying65 rfl rfl (H.rd_loc ok (i := 1) rfl rfl)) fun _ => R.lookT (v := (.pointer (some ⟨b3, 2, none⟩))) rfl rfl rfl rfl e2 rfl (Lk.fldAddr rfl Tryd.underlying84 rfl rfl T65 rfl rfl rfl) fun _ => R.lookT rfl rfl rfl rfl e2 rfl (Lk.load1 (v := (.slice p1_2.a p1_2.l p1_2.c)) rfl Tryd.underlying65 rfl rfl (H.rd_loc ok (i := 0) rfl rfl)) fun _ => R.effT rfl rfl rfl rfl e2 rfl (Eff.loc ok (Ef.call rfl CB91 rfl ((f91_ok hS).mono ?_))); rintro _ h_2 ⟨v22, rfl, hS⟩; refine fun ok => ⟨noChk, ?_⟩; refine Xk rfl rfl (Lk.pick rfl rfl (fun _ => rfl) (fun e => by rw [e2] at e; cases e)) fun _ => ?_; refine Xa rfl rfl rfl rfl fun _ => ?_; refine R.nil ?_; exact hIh_1 v22 _ _ _ (lq rfl (lz _)) (ok.sub (.cons _ (.cons _ sl0))) (H.add_sub ok (.cons _ (.cons _ sl0))) hS
      · rw [if_neg e2] at hS; replace e2 := eq_false_of_ne_true e2; refine R.lookF rfl rfl rfl rfl e2 rfl fun _ => R.lookF rfl rfl rfl rfl e2 rfl fun _ => R.lookF rfl rfl rfl rfl e2 rfl fun _ => R.lookF rfl rfl rfl rfl e2 rfl fun _ => R.effF rfl rfl rfl rfl e2 rfl ?_; refine Xk rfl rfl (Lk.pick rfl rfl (fun e => by rw [e2] at e; cases e) (fun _ => rfl)) fun _ => ?_; refine Xa rfl rfl rfl rfl fun _ => ?_; refine R.nil ?_; exact hIh_1 false _ _ _ (lq rfl (lz _)) (ok.sub (.cons _ (.cons _ sl0))) (H.add_sub ok (.cons _ (.cons _ sl0))) hS
    · rw [if_neg e1] at hS; replace e1 := eq_false_of_ne_true e1; refine R.lookF rfl rfl rfl rfl e1 rfl fun _ => R.lookF rfl rfl rfl rfl e1 rfl fun _ => R.lookF rfl rfl rfl rfl e1 rfl fun _ => R.lookF rfl rfl rfl rfl e1 rfl fun _ => R.lookF rfl rfl rfl rfl e1 rfl fun _ => Xk rfl rfl (Lk.pick rfl rfl (fun e => by rw [e1] at e; cases e) (fun _ => rfl)) fun _ => Xm rfl rfl rfl rfl fun _ => R.lookF rfl rfl rfl rfl rfl rfl fun _ => R.lookF rfl rfl rfl rfl rfl rfl fun _ => R.lookF rfl rfl rfl rfl rfl rfl fun _ => R.lookF rfl rfl rfl rfl rfl rfl fun _ => R.effF rfl rfl rfl rfl rfl rfl ?_; refine Xk rfl rfl (Lk.pick rfl rfl (fun e => by cases e) (fun _ => rfl)) fun _ => ?_; refine Xa rfl rfl rfl rfl fun _ => ?_; refine R.nil ?_; exact hIh_1 false _ _ _ (lq rfl (lz _)) (ok.sub (.cons _ (.cons _ sl0))) (H.add_sub ok (.cons _ (.cons _ sl0))) hS

theorem f66_ok {p0 : Sl} {p1 : Sl} {h : H} {K : Bool → H → Prop} (hS : S66 p0 p1 h K) : ACall Tryd.prog 66 ([(.slice p0.a p0.l p0.c), (.slice p1.a p1.l p1.c), (.func (.func 67) ([] : List Value).toArray ([] : List Value).toArray)] : List Value).toArray h (fun r h' => ∃ r0 : Bool, r = tup [(.bool r0)] ∧ K r0 h') := by
  refine ACall.enter (fn := Tryd.f66) Tryd.func66 rfl (Nat.le_of_ble_eq_true rfl) ?_; unfold S66 at hS; have ok := Lok.nil h; refine EvC.seq (Xr [.look 0] (Xa rfl rfl rfl rfl fun _ => ?_)); refine R.nil (EvC.seq (EvC.seq (Xr [.look 0, .look 1, .look 2, .look 3, .look 4] (Xm rfl rfl rfl rfl fun _ => Xk rfl rfl (Lk.len rfl Tryd.underlying69 rfl) fun _ => Xm rfl rfl rfl rfl fun _ => Xk rfl rfl (Lk.len rfl Tryd.underlying69 rfl) fun _ => Xk rfl rfl (Lk.arith rfl rfl rfl rfl) fun _ => R.nil ?_))))
  by_cases e1 : ((p0.l : Int) != (p1.l : Int)) = true
  · rw [if_pos e1] at hS; refine EvC.condT rfl e1 (EvC.seq (Xr [.look 0] (Xa rfl rfl rfl rfl fun _ => ?_))); refine R.nil (EvC.ret ?_); exact ⟨.inr rfl, _, _, (.cons (.tmp rfl) .nil), ok.le, _, rfl, hS⟩
  · rw [if_neg e1] at hS; replace e1 := eq_false_of_ne_true e1; refine EvC.condF rfl e1 (EvC.skip (EvC.join (σ := Unit) (fun s => E0) (fun s => []) (fun s h_1 => S66_j1 K h_1) ?_ (fun Ih_1 hIh_1 => ?_)))
    · rintro ⟨⟩ h_1 ok hS; replace hS : S66_j1 K h_1 := hS; unfold S66_j1 at hS; refine EvC.seq (Xr [.look 0] (Xa rfl rfl rfl rfl fun _ => ?_)); refine R.nil (EvC.ret ?_); exact ⟨.inr rfl, _, _, (.cons (.tmp rfl) .nil), ok.le, _, rfl, hS⟩
    · refine EvC.seq (Xr [.look 0, .look 1, .look 2] (Xm rfl rfl rfl rfl fun _ => ?_)); refine Xk rfl rfl (Lk.len rfl Tryd.underlying69 rfl) fun _ => ?_; refine Xm rfl rfl rfl rfl fun _ => ?_; refine R.nil (EvC.block (EvC.loop (LoopC.lfp (σ := Int) (fun s => (Ep (Ep (Ep (Ep (Ep E0 17 (i6 s)) 16 (i6 (p0.l : Int))) 15 (.slice p0.a p0.l p0.c)) 2 (.func (.func 67) ([] : List Value).toArray ([] : List Value).toArray)) 1 (.slice p1.a p1.l p1.c))) (fun s => []) (fun X hX => ?_) hS (ok.sub sl0) (lq rfl (lq rfl (lq rfl (lq rfl (lq rfl (lz _)))))) (H.add_sub ok sl0)))); intro v17 h_2 hS ok; replace hS : S66_l2 p0 p1 K X v17 h_2 := hS; unfold S66_l2 at hS; refine EvC.seq (Xr [.look 0] (Xk rfl rfl (Lk.arith rfl rfl rfl rfl) fun _ => ?_)); refine R.nil (EvC.seq ?_)
      by_cases e2 : (decide (v17 < (p0.l : Int))) = true
      · rw [if_pos e2] at hS; refine EvC.condT rfl e2 (EvC.skip (EvC.seq (EvC.block (EvC.seq (Xr [.look 0, .look 1, .look 2, .alc 3, .look 4, .eff 5 []] (Xm rfl rfl rfl rfl fun _ => ?_))))))
        obtain ⟨a20, e3, e4, e5, hS⟩ := hS
        refine Xk rfl rfl (Lk.ixAddr rfl Tryd.underlying69 T84 rfl e3 rfl e4 e5) fun _ => ?_
        obtain ⟨v21_0, v21_1, v21_2, e6, hS⟩ := hS
        refine Xk rfl rfl (Look.loc ok (Lk.loadN rfl Tryd.underlying84 rfl T84 rfl e6)) fun _ => ?_; refine R.var (blk := .row ⟨[(i6 0), (i6 0), (.slice none 0 0)], 3, 84, true, true⟩) ok rfl rfl rfl (Ac.alloc rfl T84) rfl rfl fun b8 ok => ?_; refine Xa rfl rfl rfl rfl fun _ => ?_; refine R.effN rfl rfl rfl (Ef.storeLoc (i := 0) (vs := [(i6 v21_0), (i6 v21_1), (.slice v21_2.a v21_2.l v21_2.c)]) (cs := [(i6 v21_0), (i6 v21_1), (.slice v21_2.a v21_2.l v21_2.c)]) (l' := [(b8, .row ⟨[(i6 v21_0), (i6 v21_1), (.slice v21_2.a v21_2.l v21_2.c)], 3, 84, true, true⟩)]) ok rfl T84 rfl rfl rfl rfl rfl rfl rfl rfl rfl rfl fun ok => ⟨noChk, ?_⟩); refine R.nil (EvC.seq (Xr [.look 0, .look 1, .look 2, .look 3, .alc 4, .eff 5 []] (Xm rfl rfl rfl rfl fun _ => Xm rfl rfl rfl rfl fun _ => ?_)))
        obtain ⟨a24, e7, e8, e9, hS⟩ := hS
        refine Xk rfl rfl (Lk.ixAddr rfl Tryd.underlying69 T84 rfl e7 rfl e8 e9) fun _ => ?_
        obtain ⟨v25_0, v25_1, v25_2, e10, hS⟩ := hS
        refine Xk rfl rfl (Look.loc ok (Lk.loadN rfl Tryd.underlying84 rfl T84 rfl e10)) fun _ => ?_; refine R.var (blk := .row ⟨[(i6 0), (i6 0), (.slice none 0 0)], 3, 84, true, true⟩) ok rfl rfl rfl (Ac.alloc rfl T84) rfl rfl fun b9 ok => ?_; refine R.effN rfl rfl rfl (Ef.storeLoc (i := 0) (vs := [(i6 v25_0), (i6 v25_1), (.slice v25_2.a v25_2.l v25_2.c)]) (cs := [(i6 v25_0), (i6 v25_1), (.slice v25_2.a v25_2.l v25_2.c)]) (l' := [(b9, .row ⟨[(i6 v25_0), (i6 v25_1), (.slice v25_2.a v25_2.l v25_2.c)], 3, 84, true, true⟩), (b8, .row ⟨[(i6 v21_0), (i6 v21_1), (.slice v21_2.a v21_2.l v21_2.c)], 3, 84, true, true⟩)]) ok rfl T84 rfl rfl rfl rfl rfl rfl rfl rfl rfl rfl fun ok => ⟨noChk, ?_⟩); refine R.nil (EvC.seq (Xr [.look 0, .look 1, .look 2, .eff 3 [], .look 4] (Xm rfl rfl rfl rfl fun _ => Xk rfl rfl (Lk.loadN (vs := [(i6 v21_0), (i6 v21_1), (.slice v21_2.a v21_2.l v21_2.c)]) rfl Tryd.underlying84 rfl T84 rfl (H.rdn_loc ok (i := 1) rfl rfl rfl)) fun _ => Xk rfl rfl (Lk.loadN (vs := [(i6 v25_0), (i6 v25_1), (.slice v25_2.a v25_2.l v25_2.c)]) rfl Tryd.underlying84 rfl T84 rfl (H.rdn_loc ok (i := 0) rfl rfl rfl)) fun _ => R.eff rfl rfl rfl (Eff.loc ok (Ef.callV (first := []) rfl rfl CB67 rfl ((f67_ok hS).mono ?_)))))); rintro _ h_3 ⟨v29, rfl, hS⟩; refine fun ok => ⟨noChk, ?_⟩; refine Xk rfl rfl (Lk.not rfl rfl) fun _ => ?_; refine R.nil ?_
        by_cases e11 : (!v29) = true
        · rw [if_pos e11] at hS; refine EvC.condT rfl e11 (EvC.seq (Xr [.look 0] (Xa rfl rfl rfl rfl fun _ => ?_))); refine R.nil (EvC.ret ?_); exact ⟨.inr rfl, _, _, (.cons (.tmp rfl) .nil), ok.le, _, rfl, hS⟩
        · rw [if_neg e11] at hS; replace e11 := eq_false_of_ne_true e11; refine EvC.condF rfl e11 (EvC.skip (Xr [.look 0, .look 1] (Xk rfl rfl (Lk.arith rfl rfl rfl rfl) fun _ => ?_))); refine Xm rfl rfl rfl rfl fun _ => ?_; refine R.nil ?_; exact hX (IntKind.wrap .i64 (v17 + 1)) _ _ _ hS (ok.sub (.cons _ (.cons _ sl0))) (lq rfl (lq rfl (lq rfl (lq rfl (lq rfl (lz _)))))) (H.add_sub ok (.cons _ (.cons _ sl0)))
      · rw [if_neg e2] at hS; replace e2 := eq_false_of_ne_true e2; refine EvC.condF rfl e2 (EvC.exit ?_); exact hIh_1 () _ _ _ (lz _) (ok.sub sl0) (H.add_sub ok sl0) hS

end Go.Proofs.YtimadnngfhbfiaaDoor
end
