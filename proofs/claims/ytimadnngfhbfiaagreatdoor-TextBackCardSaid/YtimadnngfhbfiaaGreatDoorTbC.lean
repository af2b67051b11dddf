/-
  PROVED HERE: 'muntinlaw09.TextBack' answers true whatever the text, and what was handed in reads as it did. Conditions: the package variables that the row lists hold what the program's text lays.
  Part 3 of 3.
-/
import Derived.Test.YtimadnngfhbfiaaGreatDoorTbB
import Derived.Test.YtimadnngfhbfiaaGreatDoorProg
import Derived.Lib.IndexBytes
import Derived.Lib.SplitLaws
import Derived.Lib.TrimAscii
import Derived.Shelf.Strings.SlTrimAscii
import Derived.Shelf.Strings.OnBuilder
import Derived.WalkKit
import Derived.Laws.Externs
import Derived.Lib.Builder
import Derived.Shelf.Strconv.Itoa3
import Derived.Shelf.LaysM
import Derived.Test.YtimadnngfhbfiaaGreatDoorTie
import Derived.Test.YtimadnngfhbfiaaGreatDoorCards
import Derived.Test.YtimadnngfhbfiaaGreatDoorChecked
import Derived.Deep.Grids
import Derived.Deep.Slices
import Derived.Lib.SmallJoins
import Derived.Laws.IdiomArrays
import Derived.Carry
import Derived.ChangeMaps5
import Derived.OpenShut
import Derived.LaidMore
import Derived.Lay
import Derived.SevenTiedAt
import Derived.Stop.Joined

section
/- PRINTED by wip/gen.py: facts of the program's types and calls. -/
namespace Go.Proofs.YtimadnngfhbfiaaGreatDoor
open Go Go.Mu
set_option maxRecDepth 100000
theorem MO : Tryz.prog.follows .mixedOrders = true := by kernel_rfl
theorem CB12 : callB Tryz.prog 12 = true := by kernel_rfl
theorem CB18 : callB Tryz.prog 18 = true := by kernel_rfl
theorem CB22 : callB Tryz.prog 22 = true := by kernel_rfl
theorem CB23 : callB Tryz.prog 23 = true := by kernel_rfl
theorem CB25 : callB Tryz.prog 25 = true := by kernel_rfl
theorem CB26 : callB Tryz.prog 26 = true := by kernel_rfl
theorem CB37 : callB Tryz.prog 37 = true := by kernel_rfl
theorem CB38 : callB Tryz.prog 38 = true := by kernel_rfl
theorem CB39 : callB Tryz.prog 39 = true := by kernel_rfl
theorem CB47 : callB Tryz.prog 47 = true := by kernel_rfl
theorem CB48 : callB Tryz.prog 48 = true := by kernel_rfl
theorem CB49 : callB Tryz.prog 49 = true := by kernel_rfl
theorem CB52 : callB Tryz.prog 52 = true := by kernel_rfl
theorem CB53 : callB Tryz.prog 53 = true := by kernel_rfl
theorem CB55 : callB Tryz.prog 55 = true := by kernel_rfl
theorem CB56 : callB Tryz.prog 56 = true := by kernel_rfl
theorem CB58 : callB Tryz.prog 58 = true := by kernel_rfl
theorem CB59 : callB Tryz.prog 59 = true := by kernel_rfl
theorem CB60 : callB Tryz.prog 60 = true := by kernel_rfl
theorem CB85 : callB Tryz.prog 85 = true := by kernel_rfl
theorem CB86 : callB Tryz.prog 86 = true := by kernel_rfl
theorem CB87 : callB Tryz.prog 87 = true := by kernel_rfl
theorem CB88 : callB Tryz.prog 88 = true := by kernel_rfl
theorem CB89 : callB Tryz.prog 89 = true := by kernel_rfl
theorem CB90 : callB Tryz.prog 90 = true := by kernel_rfl
theorem CB96 : callB Tryz.prog 96 = true := by kernel_rfl
theorem CB97 : callB Tryz.prog 97 = true := by kernel_rfl
theorem CB100 : callB Tryz.prog 100 = true := by kernel_rfl
theorem CB101 : callB Tryz.prog 101 = true := by kernel_rfl
theorem CB104 : callB Tryz.prog 104 = true := by kernel_rfl
theorem CB105 : callB Tryz.prog 105 = true := by kernel_rfl
theorem CB106 : callB Tryz.prog 106 = true := by kernel_rfl
theorem CB125 : callB Tryz.prog 125 = true := by kernel_rfl
theorem CB133 : callB Tryz.prog 133 = true := by kernel_rfl
theorem CB134 : callB Tryz.prog 134 = true := by kernel_rfl
theorem CB139 : callB Tryz.prog 139 = true := by kernel_rfl
theorem CB160 : callB Tryz.prog 160 = true := by kernel_rfl
theorem CB163 : callB Tryz.prog 163 = true := by kernel_rfl
theorem CB164 : callB Tryz.prog 164 = true := by kernel_rfl
theorem CB165 : callB Tryz.prog 165 = true := by kernel_rfl
theorem CB166 : callB Tryz.prog 166 = true := by kernel_rfl
theorem CB184 : callB Tryz.prog 184 = true := by kernel_rfl
theorem CB199 : callB Tryz.prog 199 = true := by kernel_rfl
theorem EG61 : Program.eqGuardType Tryz.prog (Program.depth Tryz.prog) 61 = false := by kernel_rfl
theorem SH61 : Program.stoodInHeld Tryz.prog 61 = false := by kernel_rfl
theorem CS5 : Tryz.prog.cellsOf 5 = 1 := by kernel_rfl
theorem T3 : TI Tryz.prog 3 (.int .i64 0) 1 8 := by unfold TI; kernel_rfl
theorem T4 : TI Tryz.prog 4 (.bool false) 1 1 := by unfold TI; kernel_rfl
theorem T5 : TI Tryz.prog 5 (.int .u8 0) 1 1 := by unfold TI; kernel_rfl
theorem T9 : TI Tryz.prog 9 (.string ⟨#[]⟩) 1 16 := by unfold TI; kernel_rfl
theorem T30 : TI Tryz.prog 30 (.slice none 0 0) 1 24 := by unfold TI; kernel_rfl
theorem T31 : TI Tryz.prog 31 (.slice none 0 0) 1 24 := by unfold TI; kernel_rfl
theorem T33 : TI Tryz.prog 33 (.agg #[(.slice none 0 0), (.slice none 0 0)]) 2 48 := by unfold TI; kernel_rfl
theorem T50 : TI Tryz.prog 50 (.slice none 0 0) 1 24 := by unfold TI; kernel_rfl
theorem T61 : TI Tryz.prog 61 (.agg #[(.int .i64 0), (.int .i64 0), (.int .i64 0), (.string ⟨#[]⟩)]) 4 40 := by unfold TI; kernel_rfl
theorem T109 : TI Tryz.prog 109 (.agg #[(.pointer none), (.slice none 0 0)]) 2 32 := by unfold TI; kernel_rfl
end Go.Proofs.YtimadnngfhbfiaaGreatDoor
end

section
namespace Go.Proofs.YtimadnngfhbfiaaGreatDoor
open Go Go.Mu
set_option maxHeartbeats 4000000
set_option maxRecDepth 100000
theorem f100_ok {p0 : ByteArray} {p1 : ByteArray} {h : H} {K : Bool → H → Prop} (hS : S100 p0 p1 h K) : ACall Tryz.prog 100 ([(.string p0), (.string p1)] : List Value).toArray h (fun r h' => ∃ r0 : Bool, r = tup [(.bool r0)] ∧ K r0 h') := by
  refine ACall.enter (fn := Tryz.f100) Tryz.func100 rfl (Nat.le_of_ble_eq_true rfl) ?_; unfold S100 at hS; have ok := Lok.nil h; refine EvC.seq (Xr [.look 0] (Xa rfl rfl rfl rfl fun _ => ?_)); refine R.nil (EvC.join (σ := Bool) (fun s => (Ep E0 4 (.bool s))) (fun s => []) (fun s h_1 => S100_j1 K s h_1) ?_ (fun Ih_1 hIh_1 => ?_))
  · intro v4 h_1 ok hS; replace hS : S100_j1 K v4 h_1 := hS; unfold S100_j1 at hS; refine EvC.ret ?_; exact ⟨.inr rfl, _, _, (.cons (.tmp rfl) .nil), ok.le, _, rfl, hS⟩
  · refine Xr [.look 0, .look 1, .look 2, .look 3, .look 4, .look 5, .look 6, .look 7, .look 8, .look 9, .look 10, .look 11, .look 12, .look 13, .look 14, .look 15, .look 16] (Xm rfl rfl rfl rfl fun _ => ?_); refine Xk rfl rfl (Lk.lenS rfl Tryz.underlying9 rfl) fun _ => ?_; refine Xm rfl rfl rfl rfl fun _ => ?_; refine Xk rfl rfl (Lk.lenS rfl Tryz.underlying9 rfl) fun _ => ?_; refine Xk rfl rfl (Lk.arith rfl rfl rfl rfl) fun _ => ?_; refine Xm rfl rfl rfl rfl fun _ => ?_
    by_cases e1 : (decide ((ByteArray.size p0 : Int) ≥ (ByteArray.size p1 : Int))) = true
    · rw [if_pos e1] at hS; refine R.lookT rfl rfl rfl rfl e1 rfl (Lk.move rfl rfl) fun _ => R.lookT rfl rfl rfl rfl e1 rfl (Lk.move rfl rfl) fun _ => R.lookT rfl rfl rfl rfl e1 rfl (Lk.lenS rfl Tryz.underlying9 rfl) fun _ => R.lookT rfl rfl rfl rfl e1 rfl (Lk.move rfl rfl) fun _ => R.lookT rfl rfl rfl rfl e1 rfl (Lk.lenS rfl Tryz.underlying9 rfl) fun _ => R.lookT rfl rfl rfl rfl e1 rfl (Lk.arith rfl rfl rfl rfl) fun _ => ?_
      obtain ⟨e2, e3, hS⟩ := hS
      refine R.lookT rfl rfl rfl rfl e1 rfl (Lk.subStrFrom rfl Tryz.underlying9 rfl rfl e2 e3) fun _ => R.lookT rfl rfl rfl rfl e1 rfl (Lk.move rfl rfl) fun _ => R.lookT rfl rfl rfl rfl e1 rfl (Lk.strEq rfl rfl rfl) fun _ => Xk rfl rfl (Lk.pick rfl rfl (fun _ => rfl) (fun e => by rw [e1] at e; cases e)) fun _ => Xa rfl rfl rfl rfl fun _ => R.nil ?_; exact hIh_1 (ByteArray.toList (ByteArray.extract p0 (Int.toNat (IntKind.wrap .i64 ((ByteArray.size p0 : Int) - (ByteArray.size p1 : Int)))) (ByteArray.size p0)) == ByteArray.toList p1) _ _ _ (lq rfl (lz _)) (ok.sub sl0) (H.add_sub ok sl0) hS
    · rw [if_neg e1] at hS; replace e1 := eq_false_of_ne_true e1; refine R.lookF rfl rfl rfl rfl e1 rfl fun _ => R.lookF rfl rfl rfl rfl e1 rfl fun _ => R.lookF rfl rfl rfl rfl e1 rfl fun _ => R.lookF rfl rfl rfl rfl e1 rfl fun _ => R.lookF rfl rfl rfl rfl e1 rfl fun _ => R.lookF rfl rfl rfl rfl e1 rfl fun _ => R.lookF rfl rfl rfl rfl e1 rfl fun _ => R.lookF rfl rfl rfl rfl e1 rfl fun _ => R.lookF rfl rfl rfl rfl e1 rfl fun _ => Xk rfl rfl (Lk.pick rfl rfl (fun e => by rw [e1] at e; cases e) (fun _ => rfl)) fun _ => Xa rfl rfl rfl rfl fun _ => R.nil ?_; exact hIh_1 false _ _ _ (lq rfl (lz _)) (ok.sub sl0) (H.add_sub ok sl0) hS

theorem f53_ok {p0 : ByteArray} {p1 : ByteArray} {h : H} {K : ByteArray → H → Prop} (hS : S53 p0 p1 h K) : ACall Tryz.prog 53 ([(.string p0), (.string p1)] : List Value).toArray h (fun r h' => ∃ r0 : ByteArray, r = tup [(.string r0)] ∧ K r0 h') := by
  refine ACall.enter (fn := Tryz.f53) Tryz.func53 rfl (Nat.le_of_ble_eq_true rfl) ?_; unfold S53 at hS; have ok := Lok.nil h; refine EvC.seq (Xr [.look 0] (Xa rfl rfl rfl rfl fun _ => ?_)); refine R.nil (EvC.seq (EvC.seq (Xr [.look 0, .look 1, .eff 2 []] (Xm rfl rfl rfl rfl fun _ => Xm rfl rfl rfl rfl fun _ => R.eff rfl rfl rfl (Eff.loc ok (Ef.call rfl CB100 rfl ((f100_ok hS).mono ?_))))))); rintro _ h_1 ⟨v7, rfl, hS⟩; refine fun ok => ⟨noChk, ?_⟩; refine R.nil ?_
  by_cases e1 : v7 = true
  · rw [if_pos e1] at hS; refine EvC.condT rfl e1 (EvC.seq (Xr [.look 0, .look 1, .look 2, .look 3, .look 4, .look 5, .look 6, .look 7] (Xm rfl rfl rfl rfl fun _ => ?_))); refine Xm rfl rfl rfl rfl fun _ => ?_; refine Xk rfl rfl (Lk.lenS rfl Tryz.underlying9 rfl) fun _ => ?_; refine Xm rfl rfl rfl rfl fun _ => ?_; refine Xk rfl rfl (Lk.lenS rfl Tryz.underlying9 rfl) fun _ => ?_; refine Xk rfl rfl (Lk.arith rfl rfl rfl rfl) fun _ => ?_
    obtain ⟨e2, e3, hS⟩ := hS
    refine Xk rfl rfl (Lk.subStrTo rfl Tryz.underlying9 rfl rfl e2 e3) fun _ => ?_; refine Xa rfl rfl rfl rfl fun _ => ?_; refine R.nil (EvC.ret ?_); exact ⟨.inr rfl, _, _, (.cons (.tmp rfl) .nil), ok.le, _, rfl, hS⟩
  · rw [if_neg e1] at hS; replace e1 := eq_false_of_ne_true e1; refine EvC.condF rfl e1 (EvC.skip (EvC.seq (Xr [.look 0, .look 1] (Xm rfl rfl rfl rfl fun _ => ?_)))); refine Xa rfl rfl rfl rfl fun _ => ?_; refine R.nil (EvC.ret ?_); exact ⟨.inr rfl, _, _, (.cons (.tmp rfl) .nil), ok.le, _, rfl, hS⟩

theorem f22_ok {p0 : ByteArray} {p1 : ByteArray} {h : H} {K : ByteArray → H → Prop} (hS : S22 p0 p1 h K) : ACall Tryz.prog 22 ([(.string p0), (.string p1)] : List Value).toArray h (fun r h' => ∃ r0 : ByteArray, r = tup [(.string r0)] ∧ K r0 h') := by
  refine ACall.enter (fn := Tryz.f22) Tryz.func22 rfl (Nat.le_of_ble_eq_true rfl) ?_; unfold S22 at hS; have ok := Lok.nil h; refine EvC.seq (Xr [.look 0] (Xa rfl rfl rfl rfl fun _ => ?_)); refine R.nil (EvC.seq (Xr [.look 0, .look 1, .eff 2 [], .look 3] (Xm rfl rfl rfl rfl fun _ => Xm rfl rfl rfl rfl fun _ => R.eff rfl rfl rfl (Eff.loc ok (Ef.call rfl CB53 rfl ((f53_ok hS).mono ?_)))))); rintro _ h_1 ⟨v7, rfl, hS⟩; refine fun ok => ⟨noChk, ?_⟩; refine Xa rfl rfl rfl rfl fun _ => ?_; refine R.nil (EvC.ret ?_); exact ⟨.inr rfl, _, _, (.cons (.tmp rfl) .nil), ok.le, _, rfl, hS⟩

theorem f85_ok {p0 : ByteArray} {p1 : ByteArray} {h : H} {K : Bool → H → Prop} (hS : S85 p0 p1 h K) : ACall Tryz.prog 85 ([(.string p0), (.string p1)] : List Value).toArray h (fun r h' => ∃ r0 : Bool, r = tup [(.bool r0)] ∧ K r0 h') := by
  refine ACall.enter (fn := Tryz.f85) Tryz.func85 rfl (Nat.le_of_ble_eq_true rfl) ?_; unfold S85 at hS; have ok := Lok.nil h; refine EvC.seq (Xr [.look 0] (Xa rfl rfl rfl rfl fun _ => ?_)); refine R.nil (EvC.seq (Xr [.look 0, .look 1, .eff 2 [], .look 3] (Xm rfl rfl rfl rfl fun _ => Xm rfl rfl rfl rfl fun _ => R.eff rfl rfl rfl (Eff.loc ok (Ef.call rfl CB100 rfl ((f100_ok hS).mono ?_)))))); rintro _ h_1 ⟨v7, rfl, hS⟩; refine fun ok => ⟨noChk, ?_⟩; refine Xa rfl rfl rfl rfl fun _ => ?_; refine R.nil (EvC.ret ?_); exact ⟨.inr rfl, _, _, (.cons (.tmp rfl) .nil), ok.le, _, rfl, hS⟩

end Go.Proofs.YtimadnngfhbfiaaGreatDoor
end

section
/- BY HAND: strings.genSplit at a separator of one byte. -/
namespace Go.Proofs.YtimadnngfhbfiaaGreatDoor
open Go Go.Mu
theorem f52_ok {p0 p1 : ByteArray} {p2 p3 : Int} {h : H} {K : Sl → H → Prop} (hS : S52 p0 p1 p2 p3 h K) : ACall Tryz.prog 52 ([(.string p0), (.string p1), (.int .i64 p2), (.int .i64 p3)] : List Value).toArray h (fun r h' => ∃ r0 : Sl, r = tup [(.slice r0.a r0.l r0.c)] ∧ K r0 h') := by
  obtain ⟨c, sv, rfl, rfl, hsv, rfl, hn, hk⟩ := hS
  refine acall_row fun w s => ?_
  have h1 : 1 ≤ ByteArray.size ⟨#[c]⟩ := Nat.le_refl 1
  have hle := Lib.countB_le ⟨#[c]⟩ h1 p0.size p0 (Nat.le_refl _)
  have hlen := Lib.splitB_all ⟨#[c]⟩ h1 sv _ p0 rfl
  have hI : ∀ (x : ByteArray) (cs : Array Value), x.size ≤ p0.size → Calls Tryz.prog 47 #[.string x, .string ⟨#[c]⟩] (w.alloc (.cells cs 9)) fun e w' => e = .returned (.int .i64 (Lib.indexB x ⟨#[c]⟩)) ∧ w' = w.alloc (.cells cs 9) := fun x cs _ =>
    (Any.strings_Index_one Tryz.lays143 x c _).mono fun e w' ⟨he, hw⟩ => ⟨by rw [he]; show _ = Ending.returned (Value.int .i64 (Lib.index x.data.toList [c])); rw [Lib.index_one], hw⟩
  have hC : Calls Tryz.prog 17 #[.string p0, .string ⟨#[c]⟩] w fun e w' => e = .returned (.int .i64 (Lib.countB p0 ⟨#[c]⟩)) ∧ w' = w :=
    (Any.strings_Count_one Tryz.lays138 p0 c w).mono fun e w' ⟨he, hw⟩ => ⟨by rw [he]; show _ = Ending.returned (Value.int .i64 ((Lib.count p0.data.toList [c] : Nat) : Int)); rw [Lib.count_one]; rfl, hw⟩
  have cc := Any.strings_genSplit_core Tryz.lays221 (by kernel_rfl) p0 ⟨#[c]⟩ sv (-1) (Lib.countB p0 ⟨#[c]⟩ + 1) w (by omega) h1 hsv hI hC (by decide) (by decide) (by rw [if_pos (by decide)]; omega)
  rw [Nat.add_sub_cancel, hlen] at cc
  have e2 : Lib.cellsOf (Lib.splitB ⟨#[c]⟩ sv (Lib.countB p0 ⟨#[c]⟩) p0) (Lib.countB p0 ⟨#[c]⟩ + 1) = ((Lib.splitB ⟨#[c]⟩ sv (Lib.countB p0 ⟨#[c]⟩) p0).map Value.string).toArray := by rw [← hlen]; exact Lib.cellsOf_full _
  rw [e2] at cc
  refine cc.mono ?_
  rintro e w' ⟨rfl, rfl⟩
  refine ⟨_, rfl, (RowKit.Below.refl _ w).alloc (Nat.le_refl _) _, .inr ⟨w.heap.size, _, 9, _, Nat.le_refl _, heap_alloc_new w _, List.prefix_refl _, _, rfl, hk w.heap.size _ _ (Sat.none_of_ge s (Nat.le_refl _)) hlen.symm ?_⟩⟩
  simp [hlen]
end Go.Proofs.YtimadnngfhbfiaaGreatDoor
end

section
namespace Go.Proofs.YtimadnngfhbfiaaGreatDoor
open Go Go.Mu
set_option maxHeartbeats 4000000
set_option maxRecDepth 100000
theorem f86_ok {p0 : ByteArray} {p1 : ByteArray} {h : H} {K : Sl → H → Prop} (hS : S86 p0 p1 h K) : ACall Tryz.prog 86 ([(.string p0), (.string p1)] : List Value).toArray h (fun r h' => ∃ r0 : Sl, r = tup [(.slice r0.a r0.l r0.c)] ∧ K r0 h') := by
  refine ACall.enter (fn := Tryz.f86) Tryz.func86 rfl (Nat.le_of_ble_eq_true rfl) ?_; unfold S86 at hS; have ok := Lok.nil h; refine EvC.seq (Xr [.look 0] (Xa rfl rfl rfl rfl fun _ => ?_)); refine R.nil (EvC.seq (Xr [.look 0, .look 1, .eff 2 [], .look 3] (Xm rfl rfl rfl rfl fun _ => Xm rfl rfl rfl rfl fun _ => R.eff rfl rfl rfl (Eff.loc ok (Ef.call rfl CB52 rfl ((f52_ok hS).mono ?_)))))); rintro _ h_1 ⟨v7, rfl, hS⟩; refine fun ok => ⟨noChk, ?_⟩; refine Xa rfl rfl rfl rfl fun _ => ?_; refine R.nil (EvC.ret ?_); exact ⟨.inr rfl, _, _, (.cons (.tmp rfl) .nil), ok.le, _, rfl, hS⟩

theorem f37_ok {p0 : ByteArray} {h : H} {K : Sl → Int → H → Prop} (hS : S37 p0 h K) : ACall Tryz.prog 37 ([(.string p0)] : List Value).toArray h (fun r h' => ∃ r0 : Sl, ∃ r1 : Int, r = tup [(.slice r0.a r0.l r0.c), (i6 r1)] ∧ K r0 r1 h') := by
  refine ACall.enter (fn := Tryz.f37) Tryz.func37 rfl (Nat.le_of_ble_eq_true rfl) ?_; unfold S37 at hS; have ok := Lok.nil h; refine EvC.seq (Xr [.look 0, .look 1] (Xa rfl rfl rfl rfl fun _ => ?_)); refine Xa rfl rfl rfl rfl fun _ => ?_; refine R.nil (EvC.seq (EvC.block (EvC.seq (Xr [.look 0, .look 1, .look 2, .look 3] (Xm rfl rfl rfl rfl fun _ => Xk rfl rfl (Lk.lenS rfl Tryz.underlying9 rfl) fun _ => Xk rfl rfl (Lk.arith rfl rfl rfl rfl) fun _ => Xa rfl rfl rfl rfl fun _ => R.nil ?_)))))
  by_cases e1 : (decide ((ByteArray.size p0 : Int) > 1048576)) = true
  · rw [if_pos e1] at hS; refine EvC.condT rfl e1 (EvC.seq (Xr [.look 0, .look 1] (Xa rfl rfl rfl rfl fun _ => ?_))); refine Xa rfl rfl rfl rfl fun _ => ?_; refine R.nil (EvC.ret ?_); exact ⟨.inr rfl, _, _, (.cons (.tmp rfl) (.cons (.tmp rfl) .nil)), ok.le, _, _, rfl, hS⟩
  · rw [if_neg e1] at hS; replace e1 := eq_false_of_ne_true e1; refine EvC.condF rfl e1 (EvC.seq (Xr [.look 0, .look 1, .look 2] (Xm rfl rfl rfl rfl fun _ => ?_))); refine Xk rfl rfl (Lk.strEq rfl rfl rfl) fun _ => ?_; refine Xa rfl rfl rfl rfl fun _ => ?_; refine R.nil ?_
    by_cases e2 : (ByteArray.toList p0 == ByteArray.toList ⟨#[]⟩) = true
    · rw [if_pos e2] at hS; refine EvC.condT rfl e2 (EvC.seq (Xr [.look 0, .look 1] (Xa rfl rfl rfl rfl fun _ => ?_))); refine Xa rfl rfl rfl rfl fun _ => ?_; refine R.nil (EvC.ret ?_); exact ⟨.inr rfl, _, _, (.cons (.tmp rfl) (.cons (.tmp rfl) .nil)), ok.le, _, _, rfl, hS⟩
    · rw [if_neg e2] at hS; replace e2 := eq_false_of_ne_true e2; refine EvC.condF rfl e2 (EvC.seq (Xr [.look 0, .eff 1 [], .look 2, .look 3] (Xm rfl rfl rfl rfl fun _ => ?_))); refine R.eff rfl rfl rfl (Eff.loc ok (Ef.call rfl CB85 rfl ((f85_ok hS).mono ?_))); rintro _ h_1 ⟨v13, rfl, hS⟩; refine fun ok => ⟨noChk, ?_⟩; refine Xk rfl rfl (Lk.not rfl rfl) fun _ => ?_; refine Xa rfl rfl rfl rfl fun _ => ?_; refine R.nil ?_
      by_cases e3 : (!v13) = true
      · rw [if_pos e3] at hS; refine EvC.condT rfl e3 (EvC.seq (Xr [.look 0, .look 1] (Xa rfl rfl rfl rfl fun _ => ?_))); refine Xa rfl rfl rfl rfl fun _ => ?_; refine R.nil (EvC.ret ?_); exact ⟨.inr rfl, _, _, (.cons (.tmp rfl) (.cons (.tmp rfl) .nil)), ok.le, _, _, rfl, hS⟩
      · rw [if_neg e3] at hS; replace e3 := eq_false_of_ne_true e3; refine EvC.condF rfl e3 (EvC.skip (EvC.seq (Xr [.look 0, .eff 1 [], .eff 2 [], .look 3, .look 4] (Xm rfl rfl rfl rfl fun _ => ?_)))); refine R.eff rfl rfl rfl (Eff.loc ok (Ef.call rfl CB22 rfl ((f22_ok hS).mono ?_))); rintro _ h_2 ⟨v16, rfl, hS⟩; refine fun ok => ⟨noChk, ?_⟩; refine R.eff rfl rfl rfl (Eff.loc ok (Ef.call rfl CB86 rfl ((f86_ok hS).mono ?_))); rintro _ h_3 ⟨v17, rfl, hS⟩; refine fun ok => ⟨noChk, ?_⟩; refine Xa rfl rfl rfl rfl fun _ => ?_; refine Xa rfl rfl rfl rfl fun _ => ?_; refine R.nil (EvC.ret ?_); exact ⟨.inr rfl, _, _, (.cons (.tmp rfl) (.cons (.tmp rfl) .nil)), ok.le, _, _, rfl, hS⟩

end Go.Proofs.YtimadnngfhbfiaaGreatDoor
end

section
/- BY HAND: utf8.DecodeLastRuneInString. -/
namespace Go.Proofs.YtimadnngfhbfiaaGreatDoor
open Go Go.Mu
theorem f139_ok {p0 : ByteArray} {h : H} {K : Int → Int → H → Prop} (hS : S139 p0 h K) : ACall Tryz.prog 139 ([(.string p0)] : List Value).toArray h (fun r h' => ∃ (r0 : Int) (r1 : Int), r = tup [(.int .i32 r0), (.int .i64 r1)] ∧ K r0 r1 h') := by
  obtain ⟨h0, h1, tb, k1, k2⟩ := hS
  refine ACall.below (r := .tuple #[.int .i32 (Lib.decodeLastL p0.data.toList).1, .int .i64 (Lib.decodeLastL p0.data.toList).2]) (fun w s => Any.utf8_DecodeLastRuneInString Tryz.lays271 p0 w h1 (tb w s)) ⟨_, _, rfl, ?_⟩
  rcases Nat.lt_or_ge (p0.get! (p0.size - 1)).toNat 128 with hlt | hge
  · have e : Lib.decodeLastL p0.data.toList = ((p0.get! (p0.size - 1)).toNat, 1) := by
      have hne : p0.data.toList ≠ [] := fun q => by
        have : p0.size = p0.data.toList.length := Lib.size_eq p0
        rw [q] at this
        have : p0.size = 0 := this
        omega
      have hl : p0.data.toList.getLast hne = p0.get! (p0.size - 1) := by
        rw [List.getLast_eq_getElem]
        show _ = p0.data[p0.size - 1]!
        rw [getElem!_pos p0.data (p0.size - 1) (by show p0.size - 1 < p0.size; omega), Array.getElem_toList]
        rfl
      conv => lhs; rw [← List.dropLast_concat_getLast hne, hl]
      exact Lib.decodeLastL_ascii _ _ hlt
    rw [e]
    exact k1 hlt
  · exact k2 hge _ _ (last_high p0 h0 hge)
end Go.Proofs.YtimadnngfhbfiaaGreatDoor
end

section
namespace Go.Proofs.YtimadnngfhbfiaaGreatDoor
open Go Go.Mu
set_option maxHeartbeats 4000000
set_option maxRecDepth 100000
theorem f96_ok {p0 : ByteArray} {p1 : ByteArray} {h : H} {K : ByteArray → H → Prop} (hS : S96 p0 p1 h K) : ACall Tryz.prog 96 ([(.string p0), (.string p1)] : List Value).toArray h (fun r h' => ∃ r0 : ByteArray, r = tup [(.string r0)] ∧ K r0 h') := by
  refine ACall.enter (fn := Tryz.f96) Tryz.func96 rfl (Nat.le_of_ble_eq_true rfl) ?_; unfold S96 at hS; have ok := Lok.nil h; refine EvC.seq (Xr [.look 0] (Xa rfl rfl rfl rfl fun _ => ?_)); refine R.nil (EvC.join (σ := ByteArray) (fun s => (Ep E0 0 (.string s))) (fun s => []) (fun s h_1 => S96_j1 K s h_1) ?_ (fun Ih_1 hIh_1 => ?_))
  · intro v0 h_1 ok hS; replace hS : S96_j1 K v0 h_1 := hS; unfold S96_j1 at hS; refine EvC.seq (Xr [.look 0, .look 1] (Xm rfl rfl rfl rfl fun _ => ?_)); refine Xa rfl rfl rfl rfl fun _ => ?_; refine R.nil (EvC.ret ?_); exact ⟨.inr rfl, _, _, (.cons (.tmp rfl) .nil), ok.le, _, rfl, hS⟩
  · refine EvC.block (EvC.loop (LoopC.lfp (σ := ByteArray) (fun s => (Ep (Ep E0 1 (.string p1)) 0 (.string s))) (fun s => []) (fun X hX => ?_) hS (ok.sub sl0) (lq rfl (lq rfl (lz _))) (H.add_sub ok sl0))); intro v0_1 h_2 hS ok; replace hS : S96_l4 p1 K X v0_1 h_2 := hS; unfold S96_l4 at hS; refine EvC.seq (EvC.seq (Xr [.look 0, .look 1, .look 2] (Xm rfl rfl rfl rfl fun _ => ?_))); refine Xk rfl rfl (Lk.lenS rfl Tryz.underlying9 rfl) fun _ => ?_; refine Xk rfl rfl (Lk.arith rfl rfl rfl rfl) fun _ => ?_; refine R.nil ?_
    by_cases e1 : (decide ((ByteArray.size v0_1 : Int) > 0)) = true
    · rw [if_pos e1] at hS; refine EvC.condT rfl e1 (EvC.skip (EvC.block (EvC.seq (Xr [.look 0, .eff 1 [], .look 2, .look 3, .look 4, .look 5, .look 6] (Xm rfl rfl rfl rfl fun _ => ?_))))); refine R.eff rfl rfl rfl (Eff.loc ok (Ef.call rfl CB139 rfl ((f139_ok hS).mono ?_))); rintro _ h_3 ⟨v15_0, v15_1, rfl, hS⟩; refine fun ok => ⟨noChk, ?_⟩; refine Xm rfl rfl rfl rfl fun _ => ?_; refine Xk rfl rfl (Lk.extract rfl rfl rfl) fun _ => ?_; refine Xk rfl rfl (Lk.extract rfl rfl rfl) fun _ => ?_; refine Xa rfl rfl rfl rfl fun _ => ?_; refine Xa rfl rfl rfl rfl fun _ => ?_; refine R.nil (EvC.seq (Xr [.look 0] (Xa rfl rfl rfl rfl fun _ => R.nil (EvC.join (σ := Bool) (fun s => (Ep (Ep (Ep (Ep E0 7 (.bool s)) 6 (i6 v15_1)) 1 (.string p1)) 0 (.string v0_1))) (fun s => []) (fun s h_4 => S96_j2 K v0_1 X v15_1 s h_4) ?_ (fun Ih_4 hIh_4 => ?_)))))
      · intro v7 h_4 ok hS; replace hS : S96_j2 K v0_1 X v15_1 v7 h_4 := hS; unfold S96_j2 at hS; refine EvC.seq (EvC.seq (Xr [.look 0, .look 1] (Xm rfl rfl rfl rfl fun _ => ?_))); refine Xk rfl rfl (Lk.not rfl rfl) fun _ => ?_; refine R.nil ?_
        by_cases e2 : (!v7) = true
        · rw [if_pos e2] at hS; refine EvC.condT rfl e2 (EvC.seq (Xr [.look 0, .look 1] (Xm rfl rfl rfl rfl fun _ => ?_))); refine Xa rfl rfl rfl rfl fun _ => ?_; refine R.nil (EvC.ret ?_); exact ⟨.inr rfl, _, _, (.cons (.tmp rfl) .nil), ok.le, _, rfl, hS⟩
        · rw [if_neg e2] at hS; replace e2 := eq_false_of_ne_true e2; refine EvC.condF rfl e2 (EvC.skip (Xr [.look 0, .look 1, .look 2, .look 3, .look 4, .look 5, .look 6] (Xm rfl rfl rfl rfl fun _ => ?_))); refine Xm rfl rfl rfl rfl fun _ => ?_; refine Xk rfl rfl (Lk.lenS rfl Tryz.underlying9 rfl) fun _ => ?_; refine Xm rfl rfl rfl rfl fun _ => ?_; refine Xk rfl rfl (Lk.arith rfl rfl rfl rfl) fun _ => ?_
          obtain ⟨e3, e4, hS⟩ := hS
          refine Xk rfl rfl (Lk.subStrTo rfl Tryz.underlying9 rfl rfl e3 e4) fun _ => ?_; refine Xa rfl rfl rfl rfl fun _ => ?_; refine R.nil ?_; exact hX (ByteArray.extract v0_1 0 (Int.toNat (IntKind.wrap .i64 ((ByteArray.size v0_1 : Int) - v15_1)))) _ _ _ hS (ok.sub sl0) (lq rfl (lq rfl (lz _))) (H.add_sub ok sl0)
      · refine EvC.seq (Xr [.look 0, .alc 1] (Xm rfl rfl rfl rfl fun _ => ?_)); refine R.var (blk := .obj (.stringIter p1 0)) ok rfl rfl rfl (Ac.range rfl Tryz.underlying9 rfl) trivial rfl fun b19 ok => ?_; refine R.nil (EvC.block (EvC.loop (LoopC.lfp (σ := Bool × Nat) (fun s => (Ep (Ep (Ep (Ep (Ep (Ep E0 19 (.pointer (some ⟨b19, 0, none⟩))) 7 (.bool s.1)) 6 (i6 v15_1)) 5 (.int .i32 v15_0)) 1 (.string p1)) 0 (.string v0_1))) (fun s => [(b19, .obj (.stringIter p1 s.2))]) (fun X_1 hX_1 => ?_) hS (ok.sub (.cons_cons _ sl0)) (lq rfl (lq rfl (lq rfl (lq rfl (lq rfl (lq rfl (lz _))))))) (H.add_sub ok (.cons_cons _ sl0))))); rintro ⟨v7_1, c19_1⟩ h_5 hS ok; replace hS : S96_l3 p1 K v0_1 X v15_0 v15_1 X_1 v7_1 c19_1 h_5 := hS; unfold S96_l3 at hS; refine EvC.seq (Xr [.eff 0 [], .look 1] ?_)
        by_cases e5 : c19_1 < ByteArray.size p1
        · rw [if_pos e5] at hS; refine R.eff rfl rfl rfl (Ef.nextLoc (i := 0) (l' := [(b19, .obj (.stringIter p1 (c19_1 + (Utf8.decode p1 c19_1).2)))]) ok rfl rfl rfl e5 rfl fun ok => ⟨noChk, ?_⟩); refine Xk rfl rfl (Lk.extract rfl rfl rfl) fun _ => ?_; refine R.nil (EvC.seq (EvC.condT rfl rfl (EvC.skip (EvC.block (EvC.seq (Xr [.look 0, .look 1] (Xk rfl rfl (Lk.extract rfl rfl rfl) fun _ => Xa rfl rfl rfl rfl fun _ => R.nil (Xr [.look 0, .look 1, .look 2, .look 3, .look 4, .look 5, .look 6] (Xm rfl rfl rfl rfl fun _ => Xm rfl rfl rfl rfl fun _ => ?_)))))))))
          by_cases e6 : v7_1 = true
          · refine R.lookF rfl rfl rfl rfl e6 rfl fun _ => R.lookF rfl rfl rfl rfl e6 rfl fun _ => R.lookF rfl rfl rfl rfl e6 rfl fun _ => Xk rfl rfl (Lk.pick rfl rfl (fun _ => rfl) (fun e => by rw [e6] at e; cases e)) fun _ => Xa rfl rfl rfl rfl fun _ => R.nil ?_; exact hX_1 ((v7_1 || (v15_0 == ((Utf8.decode p1 c19_1).1 : Int))), (c19_1 + (Utf8.decode p1 c19_1).2)) _ _ _ hS (ok.sub (.cons_cons _ sl0)) (lq rfl (lq rfl (lq rfl (lq rfl (lq (by rw [e6]; rfl) (lq rfl (lz _))))))) (H.add_sub ok (.cons_cons _ sl0))
          · replace e6 := eq_false_of_ne_true e6; refine R.lookT rfl rfl rfl rfl e6 rfl (Lk.move rfl rfl) fun _ => R.lookT rfl rfl rfl rfl e6 rfl (Lk.move rfl rfl) fun _ => R.lookT rfl rfl rfl rfl e6 rfl (Lk.arith rfl rfl rfl rfl) fun _ => Xk rfl rfl (Lk.pick rfl rfl (fun e => by rw [e6] at e; cases e) (fun _ => rfl)) fun _ => Xa rfl rfl rfl rfl fun _ => R.nil ?_; exact hX_1 ((v7_1 || (v15_0 == ((Utf8.decode p1 c19_1).1 : Int))), (c19_1 + (Utf8.decode p1 c19_1).2)) _ _ _ hS (ok.sub (.cons_cons _ sl0)) (lq rfl (lq rfl (lq rfl (lq rfl (lq (by rw [e6]; rfl) (lq rfl (lz _))))))) (H.add_sub ok (.cons_cons _ sl0))
        · rw [if_neg e5] at hS; refine R.eff rfl rfl rfl (Ef.nextEnd (i := 0) ok rfl rfl rfl e5 ⟨noChk, ?_⟩); refine Xk rfl rfl (Lk.extract rfl rfl rfl) fun _ => ?_; refine R.nil (EvC.seq (EvC.condF rfl rfl (EvC.exit ?_))); exact hIh_4 v7_1 _ _ _ (lq rfl (lq rfl (lq rfl (lq rfl (lz _))))) (ok.sub (.cons _ sl0)) (H.add_sub ok (.cons _ sl0)) hS
    · rw [if_neg e1] at hS; replace e1 := eq_false_of_ne_true e1; refine EvC.condF rfl e1 (EvC.exit ?_); exact hIh_1 v0_1 _ _ _ (lq rfl (lz _)) (ok.sub sl0) (H.add_sub ok sl0) hS

theorem f97_ok {p0 : ByteArray} {p1 : ByteArray} {h : H} {K : ByteArray → H → Prop} (hS : S97 p0 p1 h K) : ACall Tryz.prog 97 ([(.string p0), (.string p1)] : List Value).toArray h (fun r h' => ∃ r0 : ByteArray, r = tup [(.string r0)] ∧ K r0 h') := by
  refine ACall.enter (fn := Tryz.f97) Tryz.func97 rfl (Nat.le_of_ble_eq_true rfl) ?_; unfold S97 at hS; have ok := Lok.nil h; refine EvC.seq (Xr [.look 0] (Xa rfl rfl rfl rfl fun _ => ?_)); refine R.nil (EvC.join (σ := Unit) (fun s => E0) (fun s => []) (fun s h_1 => S97_j1 K h_1) ?_ (fun Ih_1 hIh_1 => ?_))
  · rintro ⟨⟩ h_1 ok hS; replace hS : S97_j1 K h_1 := hS; unfold S97_j1 at hS; refine EvC.seq (Xr [.look 0] (Xa rfl rfl rfl rfl fun _ => ?_)); refine R.nil (EvC.ret ?_); exact ⟨.inr rfl, _, _, (.cons (.tmp rfl) .nil), ok.le, _, rfl, hS⟩
  · refine EvC.seq (Xr [.look 0, .alc 1] (Xm rfl rfl rfl rfl fun _ => ?_)); refine R.var (blk := .obj (.stringIter p0 0)) ok rfl rfl rfl (Ac.range rfl Tryz.underlying9 rfl) trivial rfl fun b11 ok => ?_; refine R.nil (EvC.block (EvC.loop (LoopC.lfp (σ := Nat) (fun s => (Ep (Ep (Ep E0 11 (.pointer (some ⟨b11, 0, none⟩))) 1 (.string p1)) 0 (.string p0))) (fun s => [(b11, .obj (.stringIter p0 s))]) (fun X hX => ?_) hS (ok.sub (.cons_cons _ sl0)) (lq rfl (lq rfl (lq rfl (lz _)))) (H.add_sub ok (.cons_cons _ sl0))))); intro c11_1 h_2 hS ok; replace hS : S97_l4 p0 p1 K X c11_1 h_2 := hS; unfold S97_l4 at hS; refine EvC.seq (Xr [.eff 0 [], .look 1] ?_)
    by_cases e1 : c11_1 < ByteArray.size p0
    · rw [if_pos e1] at hS; refine R.eff rfl rfl rfl (Ef.nextLoc (i := 0) (l' := [(b11, .obj (.stringIter p0 (c11_1 + (Utf8.decode p0 c11_1).2)))]) ok rfl rfl rfl e1 rfl fun ok => ⟨noChk, ?_⟩); refine Xk rfl rfl (Lk.extract rfl rfl rfl) fun _ => ?_; refine R.nil (EvC.seq (EvC.condT rfl rfl (EvC.skip (EvC.block (EvC.seq (Xr [.look 0, .look 1, .look 2, .look 3] (Xk rfl rfl (Lk.extract rfl rfl rfl) fun _ => Xk rfl rfl (Lk.extract rfl rfl rfl) fun _ => Xa rfl rfl rfl rfl fun _ => Xa rfl rfl rfl rfl fun _ => R.nil (EvC.seq ?_)))))))); refine Xr [.look 0] (Xa rfl rfl rfl rfl fun _ => ?_); refine R.nil (EvC.join (σ := Bool) (fun s => (Ep (Ep (Ep (Ep (Ep E0 11 (.pointer (some ⟨b11, 0, none⟩))) 7 (.bool s)) 5 (i6 (c11_1 : Int))) 1 (.string p1)) 0 (.string p0))) (fun s => [(b11, .obj (.stringIter p0 (c11_1 + (Utf8.decode p0 c11_1).2)))]) (fun s h_3 => S97_j2 p0 K c11_1 X s h_3) ?_ (fun Ih_3 hIh_3 => ?_))
      · intro v7 h_3 ok hS; replace hS : S97_j2 p0 K c11_1 X v7 h_3 := hS; unfold S97_j2 at hS; refine EvC.seq (Xr [.look 0, .look 1] (Xm rfl rfl rfl rfl fun _ => ?_)); refine Xk rfl rfl (Lk.not rfl rfl) fun _ => ?_; refine R.nil ?_
        by_cases e2 : (!v7) = true
        · rw [if_pos e2] at hS; refine EvC.condT rfl e2 (EvC.seq (Xr [.look 0, .look 1, .look 2, .look 3] (Xm rfl rfl rfl rfl fun _ => ?_))); refine Xm rfl rfl rfl rfl fun _ => ?_
          obtain ⟨e3, e4, hS⟩ := hS
          refine Xk rfl rfl (Lk.subStrFrom rfl Tryz.underlying9 rfl rfl e3 e4) fun _ => ?_; refine Xa rfl rfl rfl rfl fun _ => ?_; refine R.nil (EvC.ret ?_); exact ⟨.inr rfl, _, _, (.cons (.tmp rfl) .nil), ok.le, _, rfl, hS⟩
        · rw [if_neg e2] at hS; replace e2 := eq_false_of_ne_true e2; refine EvC.condF rfl e2 (EvC.skip ?_); exact hX (c11_1 + (Utf8.decode p0 c11_1).2) _ _ _ hS (ok.sub (.cons_cons _ sl0)) (lq rfl (lq rfl (lq rfl (lz _)))) (H.add_sub ok (.cons_cons _ sl0))
      · refine EvC.seq (Xr [.look 0, .alc 1] (Xm rfl rfl rfl rfl fun _ => ?_)); refine R.var (blk := .obj (.stringIter p1 0)) ok rfl rfl rfl (Ac.range rfl Tryz.underlying9 rfl) trivial rfl fun b17 ok => ?_; refine R.nil (EvC.block (EvC.loop (LoopC.lfp (σ := Bool × Nat) (fun s => (Ep (Ep (Ep (Ep (Ep (Ep (Ep E0 17 (.pointer (some ⟨b17, 0, none⟩))) 11 (.pointer (some ⟨b11, 0, none⟩))) 7 (.bool s.1)) 6 (.int .i32 ((Utf8.decode p0 c11_1).1 : Int))) 5 (i6 (c11_1 : Int))) 1 (.string p1)) 0 (.string p0))) (fun s => [(b17, .obj (.stringIter p1 s.2)), (b11, .obj (.stringIter p0 (c11_1 + (Utf8.decode p0 c11_1).2)))]) (fun X_1 hX_1 => ?_) hS (ok.sub (.cons_cons _ (.cons_cons _ sl0))) (lq rfl (lq rfl (lq rfl (lq rfl (lq rfl (lq rfl (lq rfl (lz _)))))))) (H.add_sub ok (.cons_cons _ (.cons_cons _ sl0)))))); rintro ⟨v7_1, c17_1⟩ h_4 hS ok; replace hS : S97_l3 p0 p1 K c11_1 X X_1 v7_1 c17_1 h_4 := hS; unfold S97_l3 at hS; refine EvC.seq (Xr [.eff 0 [], .look 1] ?_)
        by_cases e5 : c17_1 < ByteArray.size p1
        · rw [if_pos e5] at hS; refine R.eff rfl rfl rfl (Ef.nextLoc (i := 0) (l' := [(b17, .obj (.stringIter p1 (c17_1 + (Utf8.decode p1 c17_1).2))), (b11, .obj (.stringIter p0 (c11_1 + (Utf8.decode p0 c11_1).2)))]) ok rfl rfl rfl e5 rfl fun ok => ⟨noChk, ?_⟩); refine Xk rfl rfl (Lk.extract rfl rfl rfl) fun _ => ?_; refine R.nil (EvC.seq (EvC.condT rfl rfl (EvC.skip (EvC.block (EvC.seq (Xr [.look 0, .look 1] (Xk rfl rfl (Lk.extract rfl rfl rfl) fun _ => Xa rfl rfl rfl rfl fun _ => R.nil (Xr [.look 0, .look 1, .look 2, .look 3, .look 4, .look 5, .look 6] (Xm rfl rfl rfl rfl fun _ => Xm rfl rfl rfl rfl fun _ => ?_)))))))))
          by_cases e6 : v7_1 = true
          · refine R.lookF rfl rfl rfl rfl e6 rfl fun _ => R.lookF rfl rfl rfl rfl e6 rfl fun _ => R.lookF rfl rfl rfl rfl e6 rfl fun _ => Xk rfl rfl (Lk.pick rfl rfl (fun _ => rfl) (fun e => by rw [e6] at e; cases e)) fun _ => Xa rfl rfl rfl rfl fun _ => R.nil ?_; exact hX_1 ((v7_1 || (((Utf8.decode p0 c11_1).1 : Int) == ((Utf8.decode p1 c17_1).1 : Int))), (c17_1 + (Utf8.decode p1 c17_1).2)) _ _ _ hS (ok.sub (.cons_cons _ (.cons_cons _ sl0))) (lq rfl (lq rfl (lq rfl (lq rfl (lq (by rw [e6]; rfl) (lq rfl (lq rfl (lz _)))))))) (H.add_sub ok (.cons_cons _ (.cons_cons _ sl0)))
          · replace e6 := eq_false_of_ne_true e6; refine R.lookT rfl rfl rfl rfl e6 rfl (Lk.move rfl rfl) fun _ => R.lookT rfl rfl rfl rfl e6 rfl (Lk.move rfl rfl) fun _ => R.lookT rfl rfl rfl rfl e6 rfl (Lk.arith rfl rfl rfl rfl) fun _ => Xk rfl rfl (Lk.pick rfl rfl (fun e => by rw [e6] at e; cases e) (fun _ => rfl)) fun _ => Xa rfl rfl rfl rfl fun _ => R.nil ?_; exact hX_1 ((v7_1 || (((Utf8.decode p0 c11_1).1 : Int) == ((Utf8.decode p1 c17_1).1 : Int))), (c17_1 + (Utf8.decode p1 c17_1).2)) _ _ _ hS (ok.sub (.cons_cons _ (.cons_cons _ sl0))) (lq rfl (lq rfl (lq rfl (lq rfl (lq (by rw [e6]; rfl) (lq rfl (lq rfl (lz _)))))))) (H.add_sub ok (.cons_cons _ (.cons_cons _ sl0)))
        · rw [if_neg e5] at hS; refine R.eff rfl rfl rfl (Ef.nextEnd (i := 0) ok rfl rfl rfl e5 ⟨noChk, ?_⟩); refine Xk rfl rfl (Lk.extract rfl rfl rfl) fun _ => ?_; refine R.nil (EvC.seq (EvC.condF rfl rfl (EvC.exit ?_))); exact hIh_3 v7_1 _ _ _ (lq rfl (lq rfl (lq rfl (lq rfl (lq rfl (lz _)))))) (ok.sub (.cons _ (.cons_cons _ sl0))) (H.add_sub ok (.cons _ (.cons_cons _ sl0))) hS
    · rw [if_neg e1] at hS; refine R.eff rfl rfl rfl (Ef.nextEnd (i := 0) ok rfl rfl rfl e1 ⟨noChk, ?_⟩); refine Xk rfl rfl (Lk.extract rfl rfl rfl) fun _ => ?_; refine R.nil (EvC.seq (EvC.condF rfl rfl (EvC.exit ?_))); exact hIh_1 () _ _ _ (lz _) (ok.sub (.cons _ sl0)) (H.add_sub ok (.cons _ sl0)) hS

theorem f49_ok {p0 : ByteArray} {p1 : ByteArray} {h : H} {K : Bool → H → Prop} (hS : S49 p0 p1 h K) : ACall Tryz.prog 49 ([(.string p0), (.string p1)] : List Value).toArray h (fun r h' => ∃ r0 : Bool, r = tup [(.bool r0)] ∧ K r0 h') := by
  refine ACall.enter (fn := Tryz.f49) Tryz.func49 rfl (Nat.le_of_ble_eq_true rfl) ?_; unfold S49 at hS; have ok := Lok.nil h; refine EvC.seq (Xr [.look 0] (Xa rfl rfl rfl rfl fun _ => ?_)); refine R.nil (EvC.seq (Xr [.look 0, .look 1, .eff 2 [], .look 3, .eff 4 [], .look 5, .look 6] (Xm rfl rfl rfl rfl fun _ => Xm rfl rfl rfl rfl fun _ => R.eff rfl rfl rfl (Eff.loc ok (Ef.call rfl CB97 rfl ((f97_ok hS).mono ?_)))))); rintro _ h_1 ⟨v7, rfl, hS⟩; refine fun ok => ⟨noChk, ?_⟩; refine Xm rfl rfl rfl rfl fun _ => ?_; refine R.eff rfl rfl rfl (Eff.loc ok (Ef.call rfl CB96 rfl ((f96_ok hS).mono ?_))); rintro _ h_2 ⟨v9, rfl, hS⟩; refine fun ok => ⟨noChk, ?_⟩; refine Xk rfl rfl (Lk.strEq rfl rfl rfl) fun _ => ?_; refine Xa rfl rfl rfl rfl fun _ => ?_; refine R.nil (EvC.ret ?_); exact ⟨.inr rfl, _, _, (.cons (.tmp rfl) .nil), ok.le, _, rfl, hS⟩

theorem f160_ok {p0 : Sl} {p1 : ByteArray} {h : H} {K : Int → H → Prop} (hS : S160 p0 p1 h K) : ACall Tryz.prog 160 ([(.slice p0.a p0.l p0.c), (.string p1)] : List Value).toArray h (fun r h' => ∃ r0 : Int, r = tup [(i6 r0)] ∧ K r0 h') := by
  refine ACall.enter (fn := Tryz.f160) Tryz.func160 rfl (Nat.le_of_ble_eq_true rfl) ?_; unfold S160 at hS; have ok := Lok.nil h; refine EvC.seq (Xr [.look 0] (Xa rfl rfl rfl rfl fun _ => ?_)); refine R.nil (EvC.join (σ := Unit) (fun s => E0) (fun s => []) (fun s h_1 => S160_j1 K h_1) ?_ (fun Ih_1 hIh_1 => ?_))
  · rintro ⟨⟩ h_1 ok hS; replace hS : S160_j1 K h_1 := hS; unfold S160_j1 at hS; refine EvC.seq (Xr [.look 0] (Xa rfl rfl rfl rfl fun _ => ?_)); refine R.nil (EvC.ret ?_); exact ⟨.inr rfl, _, _, (.cons (.tmp rfl) .nil), ok.le, _, rfl, hS⟩
  · refine EvC.seq (Xr [.look 0, .look 1, .look 2] (Xm rfl rfl rfl rfl fun _ => ?_)); refine Xk rfl rfl (Lk.len rfl Tryz.underlying55 rfl) fun _ => ?_; refine Xm rfl rfl rfl rfl fun _ => ?_; refine R.nil (EvC.block (EvC.loop (LoopC.lfp (σ := Int) (fun s => (Ep (Ep (Ep (Ep E0 8 (i6 s)) 7 (i6 (p0.l : Int))) 1 (.string p1)) 0 (.slice p0.a p0.l p0.c))) (fun s => []) (fun X hX => ?_) hS (ok.sub sl0) (lq rfl (lq rfl (lq rfl (lq rfl (lz _))))) (H.add_sub ok sl0)))); intro v8 h_2 hS ok; replace hS : S160_l2 p0 p1 K X v8 h_2 := hS; unfold S160_l2 at hS; refine EvC.seq (Xr [.look 0] (Xk rfl rfl (Lk.arith rfl rfl rfl rfl) fun _ => ?_)); refine R.nil (EvC.seq ?_)
    by_cases e1 : (decide (v8 < (p0.l : Int))) = true
    · rw [if_pos e1] at hS; refine EvC.condT rfl e1 (EvC.skip (EvC.seq (EvC.block (EvC.seq (Xr [.look 0, .look 1] (Xm rfl rfl rfl rfl fun _ => ?_)))))); refine Xa rfl rfl rfl rfl fun _ => ?_; refine R.nil (EvC.seq (Xr [.look 0, .look 1, .look 2, .look 3, .look 4, .look 5] (Xm rfl rfl rfl rfl fun _ => Xm rfl rfl rfl rfl fun _ => Xm rfl rfl rfl rfl fun _ => ?_)))
      obtain ⟨a14, e2, e3, e4, hS⟩ := hS
      refine Xk rfl rfl (Lk.ixAddr rfl Tryz.underlying55 T9 rfl e2 rfl e3 e4) fun _ => ?_
      obtain ⟨v15, e5, hS⟩ := hS
      refine Xk rfl rfl (Look.loc ok (Lk.load1 rfl Tryz.underlying9 rfl rfl e5)) fun _ => ?_; refine Xk rfl rfl (Lk.strEq rfl rfl rfl) fun _ => ?_; refine R.nil ?_
      by_cases e6 : (ByteArray.toList p1 == ByteArray.toList v15) = true
      · rw [if_pos e6] at hS; refine EvC.condT rfl e6 (EvC.seq (Xr [.look 0, .look 1] (Xm rfl rfl rfl rfl fun _ => ?_))); refine Xa rfl rfl rfl rfl fun _ => ?_; refine R.nil (EvC.ret ?_); exact ⟨.inr rfl, _, _, (.cons (.tmp rfl) .nil), ok.le, _, rfl, hS⟩
      · rw [if_neg e6] at hS; replace e6 := eq_false_of_ne_true e6; refine EvC.condF rfl e6 (EvC.skip (Xr [.look 0, .look 1] (Xk rfl rfl (Lk.arith rfl rfl rfl rfl) fun _ => ?_))); refine Xm rfl rfl rfl rfl fun _ => ?_; refine R.nil ?_; exact hX (IntKind.wrap .i64 (v8 + 1)) _ _ _ hS (ok.sub sl0) (lq rfl (lq rfl (lq rfl (lq rfl (lz _))))) (H.add_sub ok sl0)
    · rw [if_neg e1] at hS; replace e1 := eq_false_of_ne_true e1; refine EvC.condF rfl e1 (EvC.exit ?_); exact hIh_1 () _ _ _ (lz _) (ok.sub sl0) (H.add_sub ok sl0) hS

theorem f125_ok {p0 : Sl} {p1 : ByteArray} {h : H} {K : Bool → H → Prop} (hS : S125 p0 p1 h K) : ACall Tryz.prog 125 ([(.slice p0.a p0.l p0.c), (.string p1)] : List Value).toArray h (fun r h' => ∃ r0 : Bool, r = tup [(.bool r0)] ∧ K r0 h') := by
  refine ACall.enter (fn := Tryz.f125) Tryz.func125 rfl (Nat.le_of_ble_eq_true rfl) ?_; unfold S125 at hS; have ok := Lok.nil h; refine EvC.seq (Xr [.look 0] (Xa rfl rfl rfl rfl fun _ => ?_)); refine R.nil (EvC.seq (Xr [.look 0, .look 1, .eff 2 [], .look 3, .look 4] (Xm rfl rfl rfl rfl fun _ => Xm rfl rfl rfl rfl fun _ => R.eff rfl rfl rfl (Eff.loc ok (Ef.call rfl CB160 rfl ((f160_ok hS).mono ?_)))))); rintro _ h_1 ⟨v7, rfl, hS⟩; refine fun ok => ⟨noChk, ?_⟩; refine Xk rfl rfl (Lk.arith rfl rfl rfl rfl) fun _ => ?_; refine Xa rfl rfl rfl rfl fun _ => ?_; refine R.nil (EvC.ret ?_); exact ⟨.inr rfl, _, _, (.cons (.tmp rfl) .nil), ok.le, _, rfl, hS⟩

theorem f87_ok {p0 : ByteArray} {h : H} {K : Sl → Bool → H → Prop} (hS : S87 p0 h K) : ACall Tryz.prog 87 ([(.string p0)] : List Value).toArray h (fun r h' => ∃ r0 : Sl, ∃ r1 : Bool, r = tup [(.slice r0.a r0.l r0.c), (.bool r1)] ∧ K r0 r1 h') := by
  refine ACall.enter (fn := Tryz.f87) Tryz.func87 rfl (Nat.le_of_ble_eq_true rfl) ?_; unfold S87 at hS; have ok := Lok.nil h; refine EvC.seq (Xr [.look 0, .look 1] (Xa rfl rfl rfl rfl fun _ => ?_)); refine Xa rfl rfl rfl rfl fun _ => ?_; refine R.nil (EvC.seq (Xr [.look 0, .eff 1 [], .look 2] (Xm rfl rfl rfl rfl fun _ => R.eff rfl rfl rfl (Eff.loc ok (Ef.call rfl CB86 rfl ((f86_ok hS).mono ?_)))))); rintro _ h_1 ⟨v6, rfl, hS⟩; refine fun ok => ⟨noChk, ?_⟩; refine Xa rfl rfl rfl rfl fun _ => ?_; refine R.nil (EvC.seq (EvC.seq (Xr [.look 0, .eff 1 []] (Xm rfl rfl rfl rfl fun _ => R.eff rfl rfl rfl (Eff.loc ok (Ef.call rfl CB125 rfl ((f125_ok hS).mono ?_))))))); rintro _ h_2 ⟨v8, rfl, hS⟩; refine fun ok => ⟨noChk, ?_⟩; refine R.nil ?_
  by_cases e1 : v8 = true
  · rw [if_pos e1] at hS; refine EvC.condT rfl e1 (EvC.seq (Xr [.look 0, .look 1] (Xa rfl rfl rfl rfl fun _ => ?_))); refine Xa rfl rfl rfl rfl fun _ => ?_; refine R.nil (EvC.ret ?_); exact ⟨.inr rfl, _, _, (.cons (.tmp rfl) (.cons (.tmp rfl) .nil)), ok.le, _, _, rfl, hS⟩
  · rw [if_neg e1] at hS; replace e1 := eq_false_of_ne_true e1; refine EvC.condF rfl e1 (EvC.skip (EvC.seq (Xr [.look 0, .look 1, .look 2] (Xm rfl rfl rfl rfl fun _ => ?_)))); refine Xa rfl rfl rfl rfl fun _ => ?_; refine Xa rfl rfl rfl rfl fun _ => ?_; refine R.nil (EvC.ret ?_); exact ⟨.inr rfl, _, _, (.cons (.tmp rfl) (.cons (.tmp rfl) .nil)), ok.le, _, _, rfl, hS⟩

end Go.Proofs.YtimadnngfhbfiaaGreatDoor
end

section
/- BY HAND: strings.Trim at a cutset of one byte, and at "LR". -/
namespace Go.Proofs.YtimadnngfhbfiaaGreatDoor
open Go Go.Mu
theorem trim_set : (Tryz.prog.info? 188).map (fun i => (i.zero, i.size)) = some (some (.agg (Array.replicate 256 (.bool false))), 256) := by kernel_rfl
theorem f88_ok {p0 p1 : ByteArray} {h : H} {K : ByteArray → H → Prop} (hS : S88 p0 p1 h K) : ACall Tryz.prog 88 ([(.string p0), (.string p1)] : List Value).toArray h (fun r h' => ∃ r0 : ByteArray, r = tup [(.string r0)] ∧ K r0 h') := by
  rcases hS with ⟨c, hc, h1, rfl, k⟩ | ⟨h1, rfl, k⟩
  · refine ACall.below (fun w _ => (Any.strings_Trim_one Tryz.lays160 p0 c hc w h1).mono fun e w' ⟨he, hw⟩ => ⟨he, ?_⟩) ⟨_, rfl, k⟩
    rcases hw with rfl | rfl
    · exact RowKit.Below.refl _ _
    · exact (RowKit.Below.refl _ _).drew
  · exact ACall.below (fun w _ => Any.strings_Trim_laid Tryz.lays160 trim_set p0 ⟨#[76, 82]⟩ w h1 (by decide) (ascii_of_all (by decide))) ⟨_, rfl, k⟩
end Go.Proofs.YtimadnngfhbfiaaGreatDoor
end

section
namespace Go.Proofs.YtimadnngfhbfiaaGreatDoor
open Go Go.Mu
set_option maxHeartbeats 4000000
set_option maxRecDepth 100000
theorem f38_ok {p0 : ByteArray} {h : H} {K : Sl → Int → H → Prop} (hS : S38 p0 h K) : ACall Tryz.prog 38 ([(.string p0)] : List Value).toArray h (fun r h' => ∃ r0 : Sl, ∃ r1 : Int, r = tup [(.slice r0.a r0.l r0.c), (i6 r1)] ∧ K r0 r1 h') := by
  refine ACall.enter (fn := Tryz.f38) Tryz.func38 rfl (Nat.le_of_ble_eq_true rfl) ?_; unfold S38 at hS; have ok := Lok.nil h; refine EvC.seq (Xr [.look 0, .look 1] (Xa rfl rfl rfl rfl fun _ => ?_)); refine Xa rfl rfl rfl rfl fun _ => ?_; refine R.nil (EvC.seq (Xr [.look 0, .eff 1 [], .look 2, .look 3, .look 4, .look 5, .look 6] (Xm rfl rfl rfl rfl fun _ => R.eff rfl rfl rfl (Eff.loc ok (Ef.call rfl CB87 rfl ((f87_ok hS).mono ?_)))))); rintro _ h_1 ⟨v11_0, v11_1, rfl, hS⟩; refine fun ok => ⟨noChk, ?_⟩; refine Xm rfl rfl rfl rfl fun _ => ?_; refine Xk rfl rfl (Lk.extract rfl rfl rfl) fun _ => ?_; refine Xk rfl rfl (Lk.extract rfl rfl rfl) fun _ => ?_; refine Xa rfl rfl rfl rfl fun _ => ?_; refine Xa rfl rfl rfl rfl fun _ => ?_; refine R.nil (EvC.seq (EvC.block (EvC.join (σ := Bool) (fun s => (Ep (Ep E0 14 (.bool s)) 4 (.slice v11_0.a v11_0.l v11_0.c))) (fun s => []) (fun s h_2 => S38_j3 K v11_0 s h_2) ?_ (fun Ih_2 hIh_2 => ?_))))
  · intro v14 h_2 ok hS; replace hS : S38_j3 K v11_0 v14 h_2 := hS; unfold S38_j3 at hS
    by_cases e1 : v14 = true
    · rw [if_pos e1] at hS; refine EvC.condT rfl e1 (EvC.seq (Xr [.look 0, .look 1] (Xa rfl rfl rfl rfl fun _ => ?_))); refine Xa rfl rfl rfl rfl fun _ => ?_; refine R.nil (EvC.ret ?_); exact ⟨.inr rfl, _, _, (.cons (.tmp rfl) (.cons (.tmp rfl) .nil)), ok.le, _, _, rfl, hS⟩
    · rw [if_neg e1] at hS; replace e1 := eq_false_of_ne_true e1; refine EvC.condF rfl e1 (EvC.seq (Xr [.look 0, .look 1, .look 2, .look 3, .look 4, .look 5] (Xm rfl rfl rfl rfl fun _ => ?_)))
      obtain ⟨a43, e2, e3, e4, hS⟩ := hS
      refine Xk rfl rfl (Lk.ixAddr rfl Tryz.underlying55 T9 rfl e2 rfl e3 e4) fun _ => ?_
      obtain ⟨v44, e5, hS⟩ := hS
      refine Xk rfl rfl (Look.loc ok (Lk.load1 rfl Tryz.underlying9 rfl rfl e5)) fun _ => ?_; refine Xk rfl rfl (Lk.lenS rfl Tryz.underlying9 rfl) fun _ => ?_; refine Xk rfl rfl (Lk.arith rfl rfl rfl rfl) fun _ => ?_; refine Xa rfl rfl rfl rfl fun _ => ?_; refine R.nil ?_
      by_cases e6 : (decide ((ByteArray.size v44 : Int) > 4096)) = true
      · rw [if_pos e6] at hS; refine EvC.condT rfl e6 (EvC.seq (Xr [.look 0, .look 1] (Xa rfl rfl rfl rfl fun _ => ?_))); refine Xa rfl rfl rfl rfl fun _ => ?_; refine R.nil (EvC.ret ?_); exact ⟨.inr rfl, _, _, (.cons (.tmp rfl) (.cons (.tmp rfl) .nil)), ok.le, _, _, rfl, hS⟩
      · rw [if_neg e6] at hS; replace e6 := eq_false_of_ne_true e6; refine EvC.condF rfl e6 (EvC.skip (EvC.seq (Xr [.look 0] (Xa rfl rfl rfl rfl fun _ => ?_)))); refine R.nil (EvC.join (σ := Sl) (fun s => (Ep E0 6 (.slice s.a s.l s.c))) (fun s => []) (fun s h_3 => S38_j1 K s h_3) ?_ (fun Ih_3 hIh_3 => ?_))
        · intro v6 h_3 ok hS; replace hS : S38_j1 K v6 h_3 := hS; unfold S38_j1 at hS; refine EvC.seq (Xr [.look 0, .look 1, .look 2] (Xm rfl rfl rfl rfl fun _ => ?_)); refine Xa rfl rfl rfl rfl fun _ => ?_; refine Xa rfl rfl rfl rfl fun _ => ?_; refine R.nil (EvC.ret ?_); exact ⟨.inr rfl, _, _, (.cons (.tmp rfl) (.cons (.tmp rfl) .nil)), ok.le, _, _, rfl, hS⟩
        · refine EvC.seq (Xr [.look 0, .look 1, .look 2, .eff 3 [], .alc 4] (Xm rfl rfl rfl rfl fun _ => ?_))
          obtain ⟨a48, e7, e8, e9, hS⟩ := hS
          refine Xk rfl rfl (Lk.ixAddr rfl Tryz.underlying55 T9 rfl e7 rfl e8 e9) fun _ => ?_
          obtain ⟨v49, e10, hS⟩ := hS
          refine Xk rfl rfl (Look.loc ok (Lk.load1 rfl Tryz.underlying9 rfl rfl e10)) fun _ => ?_; refine R.eff rfl rfl rfl (Eff.loc ok (Ef.call rfl CB88 rfl ((f88_ok hS).mono ?_))); rintro _ h_4 ⟨v50, rfl, hS⟩; refine fun ok => ⟨noChk, ?_⟩; refine R.var (blk := .obj (.stringIter v50 0)) ok rfl rfl rfl (Ac.range rfl Tryz.underlying9 rfl) trivial rfl fun b51 ok => ?_; refine R.nil (EvC.block (EvC.loop (LoopC.lfp (σ := Sl × Nat) (fun s => (Ep (Ep E0 51 (.pointer (some ⟨b51, 0, none⟩))) 6 (.slice s.1.a s.1.l s.1.c))) (fun s => [(b51, .obj (.stringIter v50 s.2))]) (fun X hX => ?_) hS (ok.sub (.cons_cons _ sl0)) (lq rfl (lq rfl (lz _))) (H.add_sub ok (.cons_cons _ sl0))))); rintro ⟨v6_1, c51_1⟩ h_5 hS ok; replace hS : S38_l2 K v50 X v6_1 c51_1 h_5 := hS; unfold S38_l2 at hS; refine EvC.seq (Xr [.eff 0 [], .look 1] ?_)
          by_cases e11 : c51_1 < ByteArray.size v50
          · rw [if_pos e11] at hS; refine R.eff rfl rfl rfl (Ef.nextLoc (i := 0) (l' := [(b51, .obj (.stringIter v50 (c51_1 + (Utf8.decode v50 c51_1).2)))]) ok rfl rfl rfl e11 rfl fun ok => ⟨noChk, ?_⟩); refine Xk rfl rfl (Lk.extract rfl rfl rfl) fun _ => ?_; refine R.nil (EvC.seq (EvC.condT rfl rfl (EvC.skip (EvC.block (EvC.seq (Xr [.look 0, .look 1] (Xk rfl rfl (Lk.extract rfl rfl rfl) fun _ => Xa rfl rfl rfl rfl fun _ => R.nil (Xr [.look 0, .look 1, .look 2, .alc 3, .eff 4 [], .look 5] (Xm rfl rfl rfl rfl fun _ => Xm rfl rfl rfl rfl fun _ => ?_))))))))); refine Xk rfl rfl (Lk.arith rfl rfl rfl rfl) fun _ => ?_; refine R.appL (cs := [(.bool (((Utf8.decode v50 c51_1).1 : Int) == 98))]) ok rfl rfl rfl rfl rfl rfl rfl rfl Tryz.underlying30 T4 rfl (by decide) (by decide) rfl rfl rfl rfl rfl (fun _ => rfl) hS ?_; intro bb58 v59 h_6 hS ok; refine ⟨noChk, ?_⟩; refine Xa rfl rfl rfl rfl fun _ => ?_; refine R.nil ?_; exact hX (v59, (c51_1 + (Utf8.decode v50 c51_1).2)) _ _ _ hS (ok.sub (.cons_cons _ sl0)) (lq rfl (lq rfl (lz _))) (H.add_sub ok (.cons_cons _ sl0))
          · rw [if_neg e11] at hS; refine R.eff rfl rfl rfl (Ef.nextEnd (i := 0) ok rfl rfl rfl e11 ⟨noChk, ?_⟩); refine Xk rfl rfl (Lk.extract rfl rfl rfl) fun _ => ?_; refine R.nil (EvC.seq (EvC.condF rfl rfl (EvC.exit ?_))); exact hIh_3 v6_1 _ _ _ (lq rfl (lz _)) (ok.sub (.cons _ sl0)) (H.add_sub ok (.cons _ sl0)) hS
  · refine Xr [.look 0, .look 1, .look 2, .look 3, .look 4, .look 5, .look 6, .look 7, .look 8, .look 9, .look 10, .look 11, .look 12, .look 13, .look 14, .look 15, .look 16, .look 17, .look 18, .look 19, .look 20, .look 21, .eff 22 [], .look 23, .look 24, .look 25, .look 26] (Xm rfl rfl rfl rfl fun _ => ?_); refine Xk rfl rfl (Lk.not rfl rfl) fun _ => ?_; refine Xm rfl rfl rfl rfl fun _ => ?_
    by_cases e12 : (!v11_1) = true
    · rw [if_pos e12] at hS; refine R.lookF rfl rfl rfl rfl e12 rfl fun _ => R.lookF rfl rfl rfl rfl e12 rfl fun _ => R.lookF rfl rfl rfl rfl e12 rfl fun _ => Xk rfl rfl (Lk.pick rfl rfl (fun _ => rfl) (fun e => by rw [e12] at e; cases e)) fun _ => Xm rfl rfl rfl rfl fun _ => R.lookF rfl rfl rfl rfl rfl rfl fun _ => R.lookF rfl rfl rfl rfl rfl rfl fun _ => R.lookF rfl rfl rfl rfl rfl rfl fun _ => R.lookF rfl rfl rfl rfl rfl rfl fun _ => Xk rfl rfl (Lk.pick rfl rfl (fun _ => rfl) (fun e => by cases e)) fun _ => Xm rfl rfl rfl rfl fun _ => R.lookF rfl rfl rfl rfl rfl rfl fun _ => R.lookF rfl rfl rfl rfl rfl rfl fun _ => ?_; refine R.lookF rfl rfl rfl rfl rfl rfl fun _ => R.lookF rfl rfl rfl rfl rfl rfl fun _ => R.lookF rfl rfl rfl rfl rfl rfl fun _ => R.lookU rfl rfl rfl rfl rfl fun _ => R.lookU rfl rfl rfl rfl rfl fun _ => R.lookU rfl rfl rfl rfl rfl fun _ => R.effU rfl rfl rfl rfl rfl ?_; refine R.lookU rfl rfl rfl rfl rfl fun _ => R.lookF rfl rfl rfl rfl rfl rfl fun _ => Xk rfl rfl (Lk.pick rfl rfl (fun _ => rfl) (fun e => by cases e)) fun _ => Xa rfl rfl rfl rfl fun _ => R.nil ?_; exact hIh_2 true _ _ _ (lq rfl (lq rfl (lz _))) (ok.sub sl0) (H.add_sub ok sl0) hS
    · rw [if_neg e12] at hS; replace e12 := eq_false_of_ne_true e12; refine R.lookT rfl rfl rfl rfl e12 rfl (Lk.move rfl rfl) fun _ => R.lookT rfl rfl rfl rfl e12 rfl (Lk.len rfl Tryz.underlying55 rfl) fun _ => R.lookT rfl rfl rfl rfl e12 rfl (Lk.arith rfl rfl rfl rfl) fun _ => Xk rfl rfl (Lk.pick rfl rfl (fun e => by rw [e12] at e; cases e) (fun _ => rfl)) fun _ => Xm rfl rfl rfl rfl fun _ => ?_
      by_cases e13 : ((v11_0.l : Int) != 2) = true
      · rw [if_pos e13] at hS; refine R.lookF rfl rfl rfl rfl e13 rfl fun _ => R.lookF rfl rfl rfl rfl e13 rfl fun _ => R.lookF rfl rfl rfl rfl e13 rfl fun _ => R.lookF rfl rfl rfl rfl e13 rfl fun _ => Xk rfl rfl (Lk.pick rfl rfl (fun _ => rfl) (fun e => by rw [e13] at e; cases e)) fun _ => Xm rfl rfl rfl rfl fun _ => R.lookF rfl rfl rfl rfl rfl rfl fun _ => R.lookF rfl rfl rfl rfl rfl rfl fun _ => R.lookF rfl rfl rfl rfl rfl rfl fun _ => R.lookF rfl rfl rfl rfl rfl rfl fun _ => R.lookF rfl rfl rfl rfl rfl rfl fun _ => R.lookU rfl rfl rfl rfl rfl fun _ => R.lookU rfl rfl rfl rfl rfl fun _ => ?_; refine R.lookU rfl rfl rfl rfl rfl fun _ => R.effU rfl rfl rfl rfl rfl ?_; refine R.lookU rfl rfl rfl rfl rfl fun _ => R.lookF rfl rfl rfl rfl rfl rfl fun _ => Xk rfl rfl (Lk.pick rfl rfl (fun _ => rfl) (fun e => by cases e)) fun _ => Xa rfl rfl rfl rfl fun _ => R.nil ?_; exact hIh_2 true _ _ _ (lq rfl (lq rfl (lz _))) (ok.sub sl0) (H.add_sub ok sl0) hS
      · rw [if_neg e13] at hS; replace e13 := eq_false_of_ne_true e13; refine R.lookT rfl rfl rfl rfl e13 rfl (Lk.move rfl rfl) fun _ => ?_
        obtain ⟨a24, e14, e15, e16, hS⟩ := hS
        refine R.lookT rfl rfl rfl rfl e13 rfl (Lk.ixAddr rfl Tryz.underlying55 T9 rfl e14 rfl e15 e16) fun _ => ?_
        obtain ⟨v25, e17, hS⟩ := hS
        refine R.lookT rfl rfl rfl rfl e13 rfl (Look.loc ok (Lk.load1 rfl Tryz.underlying9 rfl rfl e17)) fun _ => R.lookT rfl rfl rfl rfl e13 rfl (Lk.strNe rfl rfl rfl) fun _ => Xk rfl rfl (Lk.pick rfl rfl (fun e => by rw [e13] at e; cases e) (fun _ => rfl)) fun _ => Xm rfl rfl rfl rfl fun _ => ?_
        by_cases e18 : (!(ByteArray.toList v25 == ByteArray.toList ⟨#[115, 104, 97, 112, 101]⟩)) = true
        · rw [if_pos e18] at hS; refine R.lookF rfl rfl rfl rfl e18 rfl fun _ => R.lookF rfl rfl rfl rfl e18 rfl fun _ => R.lookF rfl rfl rfl rfl e18 rfl fun _ => R.lookF rfl rfl rfl rfl e18 rfl fun _ => R.lookF rfl rfl rfl rfl e18 rfl fun _ => R.lookU rfl rfl rfl rfl rfl fun _ => R.lookU rfl rfl rfl rfl rfl fun _ => R.lookU rfl rfl rfl rfl rfl fun _ => R.effU rfl rfl rfl rfl rfl ?_; refine R.lookU rfl rfl rfl rfl rfl fun _ => R.lookF rfl rfl rfl rfl e18 rfl fun _ => Xk rfl rfl (Lk.pick rfl rfl (fun _ => rfl) (fun e => by rw [e18] at e; cases e)) fun _ => Xa rfl rfl rfl rfl fun _ => R.nil ?_; exact hIh_2 true _ _ _ (lq rfl (lq rfl (lz _))) (ok.sub sl0) (H.add_sub ok sl0) hS
        · rw [if_neg e18] at hS; replace e18 := eq_false_of_ne_true e18; refine R.lookT rfl rfl rfl rfl e18 rfl (Lk.move rfl rfl) fun _ => ?_
          obtain ⟨a30, e19, e20, e21, hS⟩ := hS
          refine R.lookT rfl rfl rfl rfl e18 rfl (Lk.ixAddr rfl Tryz.underlying55 T9 rfl e19 rfl e20 e21) fun _ => ?_
          obtain ⟨v31, e22, hS⟩ := hS
          refine R.lookT rfl rfl rfl rfl e18 rfl (Look.loc ok (Lk.load1 rfl Tryz.underlying9 rfl rfl e22)) fun _ => R.lookT rfl rfl rfl rfl e18 rfl (Lk.strNe rfl rfl rfl) fun _ => R.lookT rfl rfl rfl rfl e18 rfl (Lk.move rfl rfl) fun _ => ?_
          by_cases e23 : (!(ByteArray.toList v31 == ByteArray.toList ⟨#[45]⟩)) = true
          · rw [if_pos e23] at hS; refine R.lookT rfl rfl rfl rfl e23 rfl (Lk.move rfl rfl) fun _ => ?_
            obtain ⟨a35, e24, e25, e26, hS⟩ := hS
            refine R.lookT rfl rfl rfl rfl e23 rfl (Lk.ixAddr rfl Tryz.underlying55 T9 rfl e24 rfl e25 e26) fun _ => ?_
            obtain ⟨v36, e27, hS⟩ := hS
            refine R.lookT rfl rfl rfl rfl e23 rfl (Look.loc ok (Lk.load1 rfl Tryz.underlying9 rfl rfl e27)) fun _ => R.effT rfl rfl rfl rfl e23 rfl (Eff.loc ok (Ef.call rfl CB49 rfl ((f49_ok hS).mono ?_))); rintro _ h_7 ⟨v37, rfl, hS⟩; refine fun ok => ⟨noChk, ?_⟩; refine R.lookT rfl rfl rfl rfl e23 rfl (Lk.not rfl rfl) fun _ => R.lookT rfl rfl rfl rfl e18 rfl (Lk.pick rfl rfl (fun _ => rfl) (fun e => by rw [e23] at e; cases e)) fun _ => Xk rfl rfl (Lk.pick rfl rfl (fun e => by rw [e18] at e; cases e) (fun _ => rfl)) fun _ => Xa rfl rfl rfl rfl fun _ => R.nil ?_; exact hIh_2 (!v37) _ _ _ (lq rfl (lq rfl (lz _))) (ok.sub sl0) (H.add_sub ok sl0) hS
          · rw [if_neg e23] at hS; replace e23 := eq_false_of_ne_true e23; refine R.lookF rfl rfl rfl rfl e23 rfl fun _ => R.lookF rfl rfl rfl rfl e23 rfl fun _ => R.lookF rfl rfl rfl rfl e23 rfl fun _ => R.effF rfl rfl rfl rfl e23 rfl ?_; refine R.lookF rfl rfl rfl rfl e23 rfl fun _ => R.lookT rfl rfl rfl rfl e18 rfl (Lk.pick rfl rfl (fun e => by rw [e23] at e; cases e) (fun _ => rfl)) fun _ => Xk rfl rfl (Lk.pick rfl rfl (fun e => by rw [e18] at e; cases e) (fun _ => rfl)) fun _ => Xa rfl rfl rfl rfl fun _ => R.nil ?_; exact hIh_2 false _ _ _ (lq rfl (lq rfl (lz _))) (ok.sub sl0) (H.add_sub ok sl0) hS

end Go.Proofs.YtimadnngfhbfiaaGreatDoor
end

section
/-
  The library's Join, as the kit's shelf lays it.
-/
namespace Go.Proofs
open Go.Shelf
def Tryz.lays156_ren : Go.Shelf.Ren := ⟨fun | 156 => 23 | 165 => 54 | 166 => 55 | 169 => 56 | 240 => 101 | 241 => 102 | 276 => 140 | 277 => 141 | n => n, fun | 31 => 55 | 9 => 9 | 3 => 3 | 4 => 4 | 0 => 0 | 20 => 20 | 72 => 109 | 76 => 113 | 70 => 107 | 37 => 50 | 75 => 112 | 127 => 154 | 164 => 194 | 5 => 5 | 80 => 115 | n => n, fun | n => n⟩
theorem Tryz.lays156 : Go.Proofs.Lays.n156 Tryz.prog Tryz.lays156_ren := {
  mixed := by kernel_rfl
  f156 := Tryz.func23.trans (congrArg some (by kernel_rfl))
  f165 := Tryz.func54.trans (congrArg some (by kernel_rfl))
  f166 := Tryz.func55.trans (congrArg some (by kernel_rfl))
  f169 := Tryz.func56.trans (congrArg some (by kernel_rfl))
  f240 := Tryz.func101.trans (congrArg some (by kernel_rfl))
  f241 := Tryz.func102.trans (congrArg some (by kernel_rfl))
  f276 := Tryz.func140.trans (congrArg some (by kernel_rfl))
  f277 := Tryz.func141.trans (congrArg some (by kernel_rfl))
  t0 := Tryz.underlying0
  a0 := Tryz.isAgg0
  z0 := Tryz.sizeOf0
  v0 := Tryz.zeroValue0
  t3 := Tryz.underlying3
  a3 := Tryz.isAgg3
  z3 := Tryz.sizeOf3
  v3 := Tryz.zeroValue3
  t4 := Tryz.underlying4
  a4 := Tryz.isAgg4
  z4 := Tryz.sizeOf4
  v4 := Tryz.zeroValue4
  t9 := Tryz.underlying9
  a9 := Tryz.isAgg9
  z9 := Tryz.sizeOf9
  v9 := Tryz.zeroValue9
  t20 := Tryz.underlying20
  a20 := Tryz.isAgg20
  z20 := Tryz.sizeOf20
  v20 := Tryz.zeroValue20
  t31 := Tryz.underlying55
  a31 := Tryz.isAgg55
  z31 := Tryz.sizeOf55
  v31 := Tryz.zeroValue55
  t37 := Tryz.underlying50
  a37 := Tryz.isAgg50
  z37 := Tryz.sizeOf50
  v37 := Tryz.zeroValue50
  t70 := Tryz.underlying107
  a70 := Tryz.isAgg107
  z70 := Tryz.sizeOf107
  v70 := Tryz.zeroValue107
  t72 := Tryz.underlying109
  a72 := Tryz.isAgg109
  z72 := Tryz.sizeOf109
  v72 := Tryz.zeroValue109
  t75 := Tryz.underlying112
  a75 := Tryz.isAgg112
  z75 := Tryz.sizeOf112
  v75 := Tryz.zeroValue112
  t76 := Tryz.underlying113
  a76 := Tryz.isAgg113
  z76 := Tryz.sizeOf113
  v76 := Tryz.zeroValue113
  t127 := Tryz.underlying154
  a127 := Tryz.isAgg154
  z127 := Tryz.sizeOf154
  v127 := Tryz.zeroValue154
  t164 := Tryz.underlying194
  a164 := Tryz.isAgg194
  z164 := Tryz.sizeOf194
  v164 := Tryz.zeroValue194 }
theorem Tryz.Builder_Extra_156 : Builder.Extra Tryz.prog Tryz.lays156_ren := {
  sizeBuilder := by kernel_rfl
  liesBuilder := by kernel_rfl
  t5 := Tryz.underlying5
  a5 := Tryz.isAgg5
  z5 := Tryz.sizeOf5
  v5 := Tryz.zeroValue5
  infoByte := by kernel_rfl
  cellsByte := by kernel_rfl
  sizeByte := by kernel_rfl
  neB5 := by decide }
end Go.Proofs
end

section
/- BY HAND: strings.Join. -/
namespace Go.Proofs.YtimadnngfhbfiaaGreatDoor
open Go Go.Mu
theorem f23_ok {p0 : Sl} {p1 : ByteArray} {h : H} {K : ByteArray → H → Prop} (hS : S23 p0 p1 h K) : ACall Tryz.prog 23 ([(.slice p0.a p0.l p0.c), (.string p1)] : List Value).toArray h (fun r h' => ∃ r0 : ByteArray, r = tup [(.string r0)] ∧ K r0 h') := by
  rcases hS with ⟨h0, k⟩ | ⟨g, o, xs, ha, hl, h0, hc, hN, hlen, hrd, k⟩
  · rw [h0]
    exact ACall.below (fun w _ => (Any.strings_Join_none Tryz.lays156 Tryz.Builder_Extra_156 p0.a p0.c p1 w).mono fun e w' ⟨he, hw⟩ => ⟨he, hw ▸ Go.RowKit.Below.refl _ _⟩) ⟨_, rfl, k⟩
  · rw [ha, hl]
    have cell : ∀ (w : World), Sat h w → ∀ (j : Nat) x, xs[j]? = some x → w.cell? ⟨g, o + j, none⟩ = some (.string x) := fun w s j x hj => by
      have := s.rd (hrd.2 j (.string x) (by simp [hj]))
      rwa [Addr.add_n] at this
    refine ACall.below (fun w s => Any.strings_Join Tryz.lays156 Tryz.Builder_Extra_156 g o p0.c xs p1 w (cell w s) ?_ hN hc hlen) ⟨_, rfl, k⟩
    obtain ⟨x, hx⟩ : ∃ x, xs[0]? = some x := ⟨_, List.getElem?_eq_getElem h0⟩
    have := cell w s 0 x hx
    rcases Nat.lt_or_ge g w.heap.size with hg | hg
    · exact hg
    · simp [World.cell?, Array.getElem?_eq_none hg] at this
end Go.Proofs.YtimadnngfhbfiaaGreatDoor
end

section
namespace Go.Proofs.YtimadnngfhbfiaaGreatDoor
open Go Go.Mu
set_option maxHeartbeats 4000000
set_option maxRecDepth 100000
theorem f165_ok {p0 : Int} {h : H} {K : Bool → H → Prop} (hS : S165 p0 h K) : ACall Tryz.prog 165 ([(.int .i32 p0)] : List Value).toArray h (fun r h' => ∃ r0 : Bool, r = tup [(.bool r0)] ∧ K r0 h') := by
  refine ACall.enter (fn := Tryz.f165) Tryz.func165 rfl (Nat.le_of_ble_eq_true rfl) ?_; unfold S165 at hS; have ok := Lok.nil h; refine EvC.seq (Xr [.look 0] (Xa rfl rfl rfl rfl fun _ => ?_)); refine R.nil (EvC.join (σ := Bool) (fun s => (Ep E0 2 (.bool s))) (fun s => []) (fun s h_1 => S165_j1 K s h_1) ?_ (fun Ih_1 hIh_1 => ?_))
  · intro v2 h_1 ok hS; replace hS : S165_j1 K v2 h_1 := hS; unfold S165_j1 at hS; refine EvC.ret ?_; exact ⟨.inr rfl, _, _, (.cons (.tmp rfl) .nil), ok.le, _, rfl, hS⟩
  · refine Xr [.look 0, .look 1, .look 2, .look 3, .look 4, .look 5, .look 6] (Xm rfl rfl rfl rfl fun _ => ?_); refine Xk rfl rfl (Lk.arith rfl rfl rfl rfl) fun _ => ?_; refine Xm rfl rfl rfl rfl fun _ => ?_
    by_cases e1 : (decide (p0 ≥ 48)) = true
    · refine R.lookT rfl rfl rfl rfl e1 rfl (Lk.move rfl rfl) fun _ => R.lookT rfl rfl rfl rfl e1 rfl (Lk.arith rfl rfl rfl rfl) fun _ => Xk rfl rfl (Lk.pick rfl rfl (fun _ => rfl) (fun e => by rw [e1] at e; cases e)) fun _ => Xa rfl rfl rfl rfl fun _ => R.nil ?_; exact hIh_1 ((decide (p0 ≥ 48)) && (decide (p0 ≤ 57))) _ _ _ (lq (by rw [e1]; rfl) (lz _)) (ok.sub sl0) (H.add_sub ok sl0) hS
    · replace e1 := eq_false_of_ne_true e1; refine R.lookF rfl rfl rfl rfl e1 rfl fun _ => R.lookF rfl rfl rfl rfl e1 rfl fun _ => Xk rfl rfl (Lk.pick rfl rfl (fun e => by rw [e1] at e; cases e) (fun _ => rfl)) fun _ => Xa rfl rfl rfl rfl fun _ => R.nil ?_; exact hIh_1 ((decide (p0 ≥ 48)) && (decide (p0 ≤ 57))) _ _ _ (lq (by rw [e1]; rfl) (lz _)) (ok.sub sl0) (H.add_sub ok sl0) hS

theorem f164_ok {p0 : Int} {h : H} {K : Bool → H → Prop} (hS : S164 p0 h K) : ACall Tryz.prog 164 ([(.int .i32 p0)] : List Value).toArray h (fun r h' => ∃ r0 : Bool, r = tup [(.bool r0)] ∧ K r0 h') := by
  refine ACall.enter (fn := Tryz.f164) Tryz.func164 rfl (Nat.le_of_ble_eq_true rfl) ?_; unfold S164 at hS; have ok := Lok.nil h; refine EvC.seq (Xr [.look 0] (Xa rfl rfl rfl rfl fun _ => ?_)); refine R.nil (EvC.seq (Xr [.look 0, .eff 1 [], .look 2, .look 3] (Xm rfl rfl rfl rfl fun _ => R.eff rfl rfl rfl (Eff.loc ok (Ef.call rfl CB165 rfl ((f165_ok hS).mono ?_)))))); rintro _ h_1 ⟨v4, rfl, hS⟩; refine fun ok => ⟨noChk, ?_⟩; refine Xk rfl rfl (Lk.not rfl rfl) fun _ => ?_; refine Xa rfl rfl rfl rfl fun _ => ?_; refine R.nil (EvC.ret ?_); exact ⟨.inr rfl, _, _, (.cons (.tmp rfl) .nil), ok.le, _, rfl, hS⟩

theorem f199_ok {p0 : ByteArray} {p2 : Bool} {h : H} {K : Int → H → Prop} (hS : S199 p0 p2 h K) : ACall Tryz.prog 199 ([(.string p0), (.func (.func 164) ([] : List Value).toArray ([] : List Value).toArray), (.bool p2)] : List Value).toArray h (fun r h' => ∃ r0 : Int, r = tup [(i6 r0)] ∧ K r0 h') := by
  refine ACall.enter (fn := Tryz.f199) Tryz.func199 rfl (Nat.le_of_ble_eq_true rfl) ?_; unfold S199 at hS; have ok := Lok.nil h; refine EvC.seq (Xr [.look 0] (Xa rfl rfl rfl rfl fun _ => ?_)); refine R.nil (EvC.join (σ := Unit) (fun s => E0) (fun s => []) (fun s h_1 => S199_j1 K h_1) ?_ (fun Ih_1 hIh_1 => ?_))
  · rintro ⟨⟩ h_1 ok hS; replace hS : S199_j1 K h_1 := hS; unfold S199_j1 at hS; refine EvC.seq (Xr [.look 0] (Xa rfl rfl rfl rfl fun _ => ?_)); refine R.nil (EvC.ret ?_); exact ⟨.inr rfl, _, _, (.cons (.tmp rfl) .nil), ok.le, _, rfl, hS⟩
  · refine EvC.seq (Xr [.look 0, .alc 1] (Xm rfl rfl rfl rfl fun _ => ?_)); refine R.var (blk := .obj (.stringIter p0 0)) ok rfl rfl rfl (Ac.range rfl Tryz.underlying9 rfl) trivial rfl fun b10 ok => ?_; refine R.nil (EvC.block (EvC.loop (LoopC.lfp (σ := Nat) (fun s => (Ep (Ep (Ep E0 10 (.pointer (some ⟨b10, 0, none⟩))) 2 (.bool p2)) 1 (.func (.func 164) ([] : List Value).toArray ([] : List Value).toArray))) (fun s => [(b10, .obj (.stringIter p0 s))]) (fun X hX => ?_) hS (ok.sub (.cons_cons _ sl0)) (lq rfl (lq rfl (lq rfl (lz _)))) (H.add_sub ok (.cons_cons _ sl0))))); intro c10_1 h_2 hS ok; replace hS : S199_l2 p0 p2 K X c10_1 h_2 := hS; unfold S199_l2 at hS; refine EvC.seq (Xr [.eff 0 [], .look 1] ?_)
    by_cases e1 : c10_1 < ByteArray.size p0
    · rw [if_pos e1] at hS; refine R.eff rfl rfl rfl (Ef.nextLoc (i := 0) (l' := [(b10, .obj (.stringIter p0 (c10_1 + (Utf8.decode p0 c10_1).2)))]) ok rfl rfl rfl e1 rfl fun ok => ⟨noChk, ?_⟩); refine Xk rfl rfl (Lk.extract rfl rfl rfl) fun _ => ?_; refine R.nil (EvC.seq (EvC.condT rfl rfl (EvC.skip (EvC.block (EvC.seq (Xr [.look 0, .look 1, .look 2, .look 3] (Xk rfl rfl (Lk.extract rfl rfl rfl) fun _ => Xk rfl rfl (Lk.extract rfl rfl rfl) fun _ => Xa rfl rfl rfl rfl fun _ => Xa rfl rfl rfl rfl fun _ => R.nil (EvC.seq ?_)))))))); refine Xr [.look 0, .look 1, .eff 2 [], .look 3, .look 4] (Xm rfl rfl rfl rfl fun _ => ?_); refine Xm rfl rfl rfl rfl fun _ => ?_; refine R.eff rfl rfl rfl (Eff.loc ok (Ef.callV (first := []) rfl rfl CB164 rfl ((f164_ok hS).mono ?_))); rintro _ h_3 ⟨v17, rfl, hS⟩; refine fun ok => ⟨noChk, ?_⟩; refine Xm rfl rfl rfl rfl fun _ => ?_; refine Xk rfl rfl (Lk.boolEq rfl Tryz.underlying4 rfl rfl) fun _ => ?_; refine R.nil ?_
      by_cases e2 : (v17 == p2) = true
      · rw [if_pos e2] at hS; refine EvC.condT rfl e2 (EvC.seq (Xr [.look 0, .look 1] (Xm rfl rfl rfl rfl fun _ => ?_))); refine Xa rfl rfl rfl rfl fun _ => ?_; refine R.nil (EvC.ret ?_); exact ⟨.inr rfl, _, _, (.cons (.tmp rfl) .nil), ok.le, _, rfl, hS⟩
      · rw [if_neg e2] at hS; replace e2 := eq_false_of_ne_true e2; refine EvC.condF rfl e2 (EvC.skip ?_); exact hX (c10_1 + (Utf8.decode p0 c10_1).2) _ _ _ hS (ok.sub (.cons_cons _ sl0)) (lq rfl (lq rfl (lq rfl (lz _)))) (H.add_sub ok (.cons_cons _ sl0))
    · rw [if_neg e1] at hS; refine R.eff rfl rfl rfl (Ef.nextEnd (i := 0) ok rfl rfl rfl e1 ⟨noChk, ?_⟩); refine Xk rfl rfl (Lk.extract rfl rfl rfl) fun _ => ?_; refine R.nil (EvC.seq (EvC.condF rfl rfl (EvC.exit ?_))); exact hIh_1 () _ _ _ (lz _) (ok.sub (.cons _ sl0)) (H.add_sub ok (.cons _ sl0)) hS

theorem f184_ok {p0 : ByteArray} {h : H} {K : Int → H → Prop} (hS : S184 p0 h K) : ACall Tryz.prog 184 ([(.string p0), (.func (.func 164) ([] : List Value).toArray ([] : List Value).toArray)] : List Value).toArray h (fun r h' => ∃ r0 : Int, r = tup [(i6 r0)] ∧ K r0 h') := by
  refine ACall.enter (fn := Tryz.f184) Tryz.func184 rfl (Nat.le_of_ble_eq_true rfl) ?_; unfold S184 at hS; have ok := Lok.nil h; refine EvC.seq (Xr [.look 0] (Xa rfl rfl rfl rfl fun _ => ?_)); refine R.nil (EvC.seq (Xr [.look 0, .look 1, .eff 2 [], .look 3] (Xm rfl rfl rfl rfl fun _ => Xm rfl rfl rfl rfl fun _ => R.eff rfl rfl rfl (Eff.loc ok (Ef.call rfl CB199 rfl ((f199_ok hS).mono ?_)))))); rintro _ h_1 ⟨v7, rfl, hS⟩; refine fun ok => ⟨noChk, ?_⟩; refine Xa rfl rfl rfl rfl fun _ => ?_; refine R.nil (EvC.ret ?_); exact ⟨.inr rfl, _, _, (.cons (.tmp rfl) .nil), ok.le, _, rfl, hS⟩

theorem f163_ok {p0 : ByteArray} {h : H} {K : Bool → H → Prop} (hS : S163 p0 h K) : ACall Tryz.prog 163 ([(.string p0), (.func (.func 164) ([] : List Value).toArray ([] : List Value).toArray)] : List Value).toArray h (fun r h' => ∃ r0 : Bool, r = tup [(.bool r0)] ∧ K r0 h') := by
  refine ACall.enter (fn := Tryz.f163) Tryz.func163 rfl (Nat.le_of_ble_eq_true rfl) ?_; unfold S163 at hS; have ok := Lok.nil h; refine EvC.seq (Xr [.look 0] (Xa rfl rfl rfl rfl fun _ => ?_)); refine R.nil (EvC.seq (Xr [.look 0, .look 1, .eff 2 [], .look 3, .look 4] (Xm rfl rfl rfl rfl fun _ => Xm rfl rfl rfl rfl fun _ => R.eff rfl rfl rfl (Eff.loc ok (Ef.call rfl CB184 rfl ((f184_ok hS).mono ?_)))))); rintro _ h_1 ⟨v7, rfl, hS⟩; refine fun ok => ⟨noChk, ?_⟩; refine Xk rfl rfl (Lk.arith rfl rfl rfl rfl) fun _ => ?_; refine Xa rfl rfl rfl rfl fun _ => ?_; refine R.nil (EvC.ret ?_); exact ⟨.inr rfl, _, _, (.cons (.tmp rfl) .nil), ok.le, _, rfl, hS⟩

end Go.Proofs.YtimadnngfhbfiaaGreatDoor
end

section
/- BY HAND: strconv.Atoi at a short numeral. -/
namespace Go.Proofs.YtimadnngfhbfiaaGreatDoor
open Go Go.Mu
theorem f166_ok {p0 : ByteArray} {h : H} {K : Int → Value → H → Prop} (hS : S166 p0 h K) : ACall Tryz.prog 166 ([(.string p0)] : List Value).toArray h (fun r h' => ∃ (r0 : Int) (r1 : Value), r = tup [(.int .i64 r0), r1] ∧ K r0 r1 h') := by
  obtain ⟨n, h1, h2, k⟩ := hS
  exact ACall.below (fun w _ => (Any.strconv_Atoi Tryz.lays172 p0 n h1 h2 w).mono fun e w' ⟨he, t, hw⟩ => ⟨he, hw ▸ below_bytes⟩) ⟨_, _, rfl, k⟩
end Go.Proofs.YtimadnngfhbfiaaGreatDoor
end

section
namespace Go.Proofs.YtimadnngfhbfiaaGreatDoor
open Go Go.Mu
set_option maxHeartbeats 4000000
set_option maxRecDepth 100000
theorem f133_ok {p0 : ByteArray} {p1 : Int} {h : H} {K : Int → Bool → H → Prop} (hS : S133 p0 p1 h K) : ACall Tryz.prog 133 ([(.string p0), (i6 p1)] : List Value).toArray h (fun r h' => ∃ r0 : Int, ∃ r1 : Bool, r = tup [(i6 r0), (.bool r1)] ∧ K r0 r1 h') := by
  refine ACall.enter (fn := Tryz.f133) Tryz.func133 rfl (Nat.le_of_ble_eq_true rfl) ?_; unfold S133 at hS; have ok := Lok.nil h; refine EvC.seq (Xr [.look 0, .look 1] (Xa rfl rfl rfl rfl fun _ => ?_)); refine Xa rfl rfl rfl rfl fun _ => ?_; refine R.nil (EvC.seq (Xr [.look 0, .eff 1 [], .look 2, .look 3] (Xm rfl rfl rfl rfl fun _ => R.eff rfl rfl rfl (Eff.loc ok (Ef.call rfl CB163 rfl ((f163_ok hS).mono ?_)))))); rintro _ h_1 ⟨v10, rfl, hS⟩; refine fun ok => ⟨noChk, ?_⟩; refine Xk rfl rfl (Lk.not rfl rfl) fun _ => ?_; refine Xa rfl rfl rfl rfl fun _ => ?_; refine R.nil (EvC.seq (EvC.join (σ := Bool) (fun s => (Ep (Ep (Ep E0 32 (.bool s)) 1 (i6 p1)) 0 (.string p0))) (fun s => []) (fun s h_2 => S133_j1 p0 p1 K s h_2) ?_ (fun Ih_2 hIh_2 => ?_)))
  · intro v32 h_2 ok hS; replace hS : S133_j1 p0 p1 K v32 h_2 := hS; unfold S133_j1 at hS
    by_cases e1 : v32 = true
    · rw [if_pos e1] at hS; refine EvC.condT rfl e1 (EvC.seq (Xr [.look 0, .look 1] (Xa rfl rfl rfl rfl fun _ => ?_))); refine Xa rfl rfl rfl rfl fun _ => ?_; refine R.nil (EvC.ret ?_); exact ⟨.inr rfl, _, _, (.cons (.tmp rfl) (.cons (.tmp rfl) .nil)), ok.le, _, _, rfl, hS⟩
    · rw [if_neg e1] at hS; replace e1 := eq_false_of_ne_true e1; refine EvC.condF rfl e1 (EvC.skip (EvC.seq (Xr [.look 0, .eff 1 [], .look 2, .look 3, .look 4, .look 5, .look 6] (Xm rfl rfl rfl rfl fun _ => ?_)))); refine R.eff rfl rfl rfl (Eff.loc ok (Ef.call rfl CB166 rfl ((f166_ok hS).mono ?_))); rintro _ h_3 ⟨v35_0, v35_1, rfl, hS⟩; refine fun ok => ⟨noChk, ?_⟩; refine Xm rfl rfl rfl rfl fun _ => ?_; refine Xk rfl rfl (Lk.extract rfl rfl rfl) fun _ => ?_; refine Xk rfl rfl (Lk.extract rfl rfl rfl) fun _ => ?_; refine Xa rfl rfl rfl rfl fun _ => ?_; refine Xa rfl rfl rfl rfl fun _ => ?_; refine R.nil (EvC.seq (EvC.seq (Xr [.look 0, .look 1, .look 2] (Xm rfl rfl rfl rfl fun _ => Xm rfl rfl rfl rfl fun _ => Xk rfl rfl (Lk.arith rfl rfl rfl rfl) fun _ => R.nil ?_))))
      by_cases e2 : (decide (v35_0 > p1)) = true
      · rw [if_pos e2] at hS; refine EvC.condT rfl e2 (EvC.seq (Xr [.look 0, .look 1] (Xa rfl rfl rfl rfl fun _ => ?_))); refine Xa rfl rfl rfl rfl fun _ => ?_; refine R.nil (EvC.ret ?_); exact ⟨.inr rfl, _, _, (.cons (.tmp rfl) (.cons (.tmp rfl) .nil)), ok.le, _, _, rfl, hS⟩
      · rw [if_neg e2] at hS; replace e2 := eq_false_of_ne_true e2; refine EvC.condF rfl e2 (EvC.skip (EvC.seq (Xr [.look 0, .look 1, .look 2] (Xm rfl rfl rfl rfl fun _ => ?_)))); refine Xa rfl rfl rfl rfl fun _ => ?_; refine Xa rfl rfl rfl rfl fun _ => ?_; refine R.nil (EvC.ret ?_); exact ⟨.inr rfl, _, _, (.cons (.tmp rfl) (.cons (.tmp rfl) .nil)), ok.le, _, _, rfl, hS⟩
  · refine Xr [.look 0, .look 1, .look 2, .look 3, .look 4, .look 5, .look 6, .look 7, .look 8, .look 9, .look 10, .look 11, .look 12, .look 13, .look 14, .look 15, .look 16, .look 17, .look 18, .look 19, .look 20] (Xm rfl rfl rfl rfl fun _ => ?_); refine Xk rfl rfl (Lk.not rfl rfl) fun _ => ?_; refine Xm rfl rfl rfl rfl fun _ => ?_
    by_cases e3 : (!(!v10)) = true
    · rw [if_pos e3] at hS; refine R.lookF rfl rfl rfl rfl e3 rfl fun _ => R.lookF rfl rfl rfl rfl e3 rfl fun _ => Xk rfl rfl (Lk.pick rfl rfl (fun _ => rfl) (fun e => by rw [e3] at e; cases e)) fun _ => Xm rfl rfl rfl rfl fun _ => R.lookF rfl rfl rfl rfl rfl rfl fun _ => R.lookF rfl rfl rfl rfl rfl rfl fun _ => R.lookF rfl rfl rfl rfl rfl rfl fun _ => Xk rfl rfl (Lk.pick rfl rfl (fun _ => rfl) (fun e => by cases e)) fun _ => Xm rfl rfl rfl rfl fun _ => R.lookF rfl rfl rfl rfl rfl rfl fun _ => R.lookF rfl rfl rfl rfl rfl rfl fun _ => R.lookF rfl rfl rfl rfl rfl rfl fun _ => R.lookF rfl rfl rfl rfl rfl rfl fun _ => ?_; refine R.lookU rfl rfl rfl rfl rfl fun _ => R.lookU rfl rfl rfl rfl rfl fun _ => R.lookU rfl rfl rfl rfl rfl fun _ => R.lookF rfl rfl rfl rfl rfl rfl fun _ => Xk rfl rfl (Lk.pick rfl rfl (fun _ => rfl) (fun e => by cases e)) fun _ => R.nil ?_; exact hIh_2 true _ _ _ (lq rfl (lq rfl (lq rfl (lz _)))) (ok.sub sl0) (H.add_sub ok sl0) hS
    · rw [if_neg e3] at hS; replace e3 := eq_false_of_ne_true e3; refine R.lookT rfl rfl rfl rfl e3 rfl (Lk.move rfl rfl) fun _ => R.lookT rfl rfl rfl rfl e3 rfl (Lk.strEq rfl rfl rfl) fun _ => Xk rfl rfl (Lk.pick rfl rfl (fun e => by rw [e3] at e; cases e) (fun _ => rfl)) fun _ => Xm rfl rfl rfl rfl fun _ => ?_
      by_cases e4 : (ByteArray.toList p0 == ByteArray.toList ⟨#[]⟩) = true
      · rw [if_pos e4] at hS; refine R.lookF rfl rfl rfl rfl e4 rfl fun _ => R.lookF rfl rfl rfl rfl e4 rfl fun _ => R.lookF rfl rfl rfl rfl e4 rfl fun _ => Xk rfl rfl (Lk.pick rfl rfl (fun _ => rfl) (fun e => by rw [e4] at e; cases e)) fun _ => Xm rfl rfl rfl rfl fun _ => R.lookF rfl rfl rfl rfl rfl rfl fun _ => R.lookF rfl rfl rfl rfl rfl rfl fun _ => R.lookF rfl rfl rfl rfl rfl rfl fun _ => R.lookF rfl rfl rfl rfl rfl rfl fun _ => R.lookU rfl rfl rfl rfl rfl fun _ => R.lookU rfl rfl rfl rfl rfl fun _ => R.lookU rfl rfl rfl rfl rfl fun _ => R.lookF rfl rfl rfl rfl rfl rfl fun _ => ?_; refine Xk rfl rfl (Lk.pick rfl rfl (fun _ => rfl) (fun e => by cases e)) fun _ => ?_; refine R.nil ?_; exact hIh_2 true _ _ _ (lq rfl (lq rfl (lq rfl (lz _)))) (ok.sub sl0) (H.add_sub ok sl0) hS
      · rw [if_neg e4] at hS; replace e4 := eq_false_of_ne_true e4; refine R.lookT rfl rfl rfl rfl e4 rfl (Lk.move rfl rfl) fun _ => R.lookT rfl rfl rfl rfl e4 rfl (Lk.lenS rfl Tryz.underlying9 rfl) fun _ => R.lookT rfl rfl rfl rfl e4 rfl (Lk.arith rfl rfl rfl rfl) fun _ => Xk rfl rfl (Lk.pick rfl rfl (fun e => by rw [e4] at e; cases e) (fun _ => rfl)) fun _ => Xm rfl rfl rfl rfl fun _ => ?_
        by_cases e5 : (decide ((ByteArray.size p0 : Int) > 7)) = true
        · rw [if_pos e5] at hS; refine R.lookF rfl rfl rfl rfl e5 rfl fun _ => R.lookF rfl rfl rfl rfl e5 rfl fun _ => R.lookF rfl rfl rfl rfl e5 rfl fun _ => R.lookF rfl rfl rfl rfl e5 rfl fun _ => R.lookU rfl rfl rfl rfl rfl fun _ => R.lookU rfl rfl rfl rfl rfl fun _ => R.lookU rfl rfl rfl rfl rfl fun _ => R.lookF rfl rfl rfl rfl e5 rfl fun _ => Xk rfl rfl (Lk.pick rfl rfl (fun _ => rfl) (fun e => by rw [e5] at e; cases e)) fun _ => R.nil ?_; exact hIh_2 true _ _ _ (lq rfl (lq rfl (lq rfl (lz _)))) (ok.sub sl0) (H.add_sub ok sl0) hS
        · rw [if_neg e5] at hS; replace e5 := eq_false_of_ne_true e5; refine R.lookT rfl rfl rfl rfl e5 rfl (Lk.move rfl rfl) fun _ => R.lookT rfl rfl rfl rfl e5 rfl (Lk.lenS rfl Tryz.underlying9 rfl) fun _ => R.lookT rfl rfl rfl rfl e5 rfl (Lk.arith rfl rfl rfl rfl) fun _ => R.lookT rfl rfl rfl rfl e5 rfl (Lk.move rfl rfl) fun _ => ?_
          by_cases e6 : (decide ((ByteArray.size p0 : Int) > 1)) = true
          · rw [if_pos e6] at hS; refine R.lookT rfl rfl rfl rfl e6 rfl (Lk.move rfl rfl) fun _ => ?_
            obtain ⟨e7, e8, hS⟩ := hS
            refine R.lookT rfl rfl rfl rfl e6 rfl (Lk.byte rfl Tryz.underlying9 rfl rfl e7 e8) fun _ => R.lookT rfl rfl rfl rfl e6 rfl (Lk.arith rfl rfl rfl rfl) fun _ => R.lookT rfl rfl rfl rfl e5 rfl (Lk.pick rfl rfl (fun _ => rfl) (fun e => by rw [e6] at e; cases e)) fun _ => Xk rfl rfl (Lk.pick rfl rfl (fun e => by rw [e5] at e; cases e) (fun _ => rfl)) fun _ => R.nil ?_; exact hIh_2 ((byteAt p0 0) == 48) _ _ _ (lq rfl (lq rfl (lq rfl (lz _)))) (ok.sub sl0) (H.add_sub ok sl0) hS
          · rw [if_neg e6] at hS; replace e6 := eq_false_of_ne_true e6; refine R.lookF rfl rfl rfl rfl e6 rfl fun _ => R.lookF rfl rfl rfl rfl e6 rfl fun _ => R.lookF rfl rfl rfl rfl e6 rfl fun _ => R.lookT rfl rfl rfl rfl e5 rfl (Lk.pick rfl rfl (fun e => by rw [e6] at e; cases e) (fun _ => rfl)) fun _ => Xk rfl rfl (Lk.pick rfl rfl (fun e => by rw [e5] at e; cases e) (fun _ => rfl)) fun _ => R.nil ?_; exact hIh_2 false _ _ _ (lq rfl (lq rfl (lq rfl (lz _)))) (ok.sub sl0) (H.add_sub ok sl0) hS

theorem f89_ok {p0 : ByteArray} {p1 : Int} {h : H} {K : Int → Int → H → Prop} (hS : S89 p0 p1 h K) : ACall Tryz.prog 89 ([(.string p0), (i6 p1)] : List Value).toArray h (fun r h' => ∃ r0 : Int, ∃ r1 : Int, r = tup [(i6 r0), (i6 r1)] ∧ K r0 r1 h') := by
  refine ACall.enter (fn := Tryz.f89) Tryz.func89 rfl (Nat.le_of_ble_eq_true rfl) ?_; unfold S89 at hS; have ok := Lok.nil h; refine EvC.seq (Xr [.look 0, .look 1] (Xa rfl rfl rfl rfl fun _ => ?_)); refine Xa rfl rfl rfl rfl fun _ => ?_; refine R.nil (EvC.seq (Xr [.look 0, .eff 1 [], .look 2, .look 3, .look 4, .look 5, .look 6] (Xm rfl rfl rfl rfl fun _ => R.eff rfl rfl rfl (Eff.loc ok (Ef.call rfl CB133 rfl ((f133_ok hS).mono ?_)))))); rintro _ h_1 ⟨v10_0, v10_1, rfl, hS⟩; refine fun ok => ⟨noChk, ?_⟩; refine Xm rfl rfl rfl rfl fun _ => ?_; refine Xk rfl rfl (Lk.extract rfl rfl rfl) fun _ => ?_; refine Xk rfl rfl (Lk.extract rfl rfl rfl) fun _ => ?_; refine Xa rfl rfl rfl rfl fun _ => ?_; refine Xa rfl rfl rfl rfl fun _ => ?_; refine R.nil (EvC.seq (EvC.block (EvC.seq (Xr [.look 0, .look 1, .look 2] (Xm rfl rfl rfl rfl fun _ => Xk rfl rfl (Lk.not rfl rfl) fun _ => Xa rfl rfl rfl rfl fun _ => R.nil ?_)))))
  by_cases e1 : (!v10_1) = true
  · rw [if_pos e1] at hS; refine EvC.condT rfl e1 (EvC.seq (Xr [.look 0, .look 1] (Xa rfl rfl rfl rfl fun _ => ?_))); refine Xa rfl rfl rfl rfl fun _ => ?_; refine R.nil (EvC.ret ?_); exact ⟨.inr rfl, _, _, (.cons (.tmp rfl) (.cons (.tmp rfl) .nil)), ok.le, _, _, rfl, hS⟩
  · rw [if_neg e1] at hS; replace e1 := eq_false_of_ne_true e1; refine EvC.condF rfl e1 (EvC.seq (Xr [.look 0, .look 1, .look 2, .look 3] (Xm rfl rfl rfl rfl fun _ => ?_))); refine Xm rfl rfl rfl rfl fun _ => ?_; refine Xk rfl rfl (Lk.arith rfl rfl rfl rfl) fun _ => ?_; refine Xa rfl rfl rfl rfl fun _ => ?_; refine R.nil ?_
    by_cases e2 : (decide (v10_0 ≥ p1)) = true
    · rw [if_pos e2] at hS; refine EvC.condT rfl e2 (EvC.seq (Xr [.look 0, .look 1] (Xa rfl rfl rfl rfl fun _ => ?_))); refine Xa rfl rfl rfl rfl fun _ => ?_; refine R.nil (EvC.ret ?_); exact ⟨.inr rfl, _, _, (.cons (.tmp rfl) (.cons (.tmp rfl) .nil)), ok.le, _, _, rfl, hS⟩
    · rw [if_neg e2] at hS; replace e2 := eq_false_of_ne_true e2; refine EvC.condF rfl e2 (EvC.skip (EvC.seq (Xr [.look 0, .look 1, .look 2] (Xm rfl rfl rfl rfl fun _ => ?_)))); refine Xa rfl rfl rfl rfl fun _ => ?_; refine Xa rfl rfl rfl rfl fun _ => ?_; refine R.nil (EvC.ret ?_); exact ⟨.inr rfl, _, _, (.cons (.tmp rfl) (.cons (.tmp rfl) .nil)), ok.le, _, _, rfl, hS⟩

end Go.Proofs.YtimadnngfhbfiaaGreatDoor
end

section
/- BY HAND: strings.Index at one byte. -/
namespace Go.Proofs.YtimadnngfhbfiaaGreatDoor
open Go Go.Mu
theorem f47_ok {p0 p1 : ByteArray} {h : H} {K : Int → H → Prop} (hS : S47 p0 p1 h K) : ACall Tryz.prog 47 ([(.string p0), (.string p1)] : List Value).toArray h (fun r h' => ∃ r0 : Int, r = tup [(.int .i64 r0)] ∧ K r0 h') := by
  obtain ⟨c, rfl, k⟩ := hS
  exact ACall.below (fun w _ => (Any.strings_Index_one Tryz.lays143 p0 c w).mono fun e w' ⟨he, hw⟩ => ⟨he, hw ▸ Go.RowKit.Below.refl _ _⟩) ⟨_, rfl, k⟩
end Go.Proofs.YtimadnngfhbfiaaGreatDoor
end

section
/- BY HAND: strings.Contains at one byte. -/
namespace Go.Proofs.YtimadnngfhbfiaaGreatDoor
open Go Go.Mu
theorem f134_ok {p0 p1 : ByteArray} {h : H} {K : Bool → H → Prop} (hS : S134 p0 p1 h K) : ACall Tryz.prog 134 ([(.string p0), (.string p1)] : List Value).toArray h (fun r h' => ∃ r0 : Bool, r = tup [(.bool r0)] ∧ K r0 h') := by
  obtain ⟨c, rfl, k⟩ := hS
  exact ACall.below (fun w _ => (Any.strings_Contains_one Tryz.lays144 p0 c w).mono fun e w' ⟨he, hw⟩ => ⟨he, hw ▸ Go.RowKit.Below.refl _ _⟩) ⟨_, rfl, k⟩
end Go.Proofs.YtimadnngfhbfiaaGreatDoor
end

section
namespace Go.Proofs.YtimadnngfhbfiaaGreatDoor
open Go Go.Mu
set_option maxHeartbeats 4000000
set_option maxRecDepth 100000
theorem f90_ok {p0 : ByteArray} {h : H} {K : Int → Bool → H → Prop} (hS : S90 p0 h K) : ACall Tryz.prog 90 ([(.string p0)] : List Value).toArray h (fun r h' => ∃ r0 : Int, ∃ r1 : Bool, r = tup [(i6 r0), (.bool r1)] ∧ K r0 r1 h') := by
  refine ACall.enter (fn := Tryz.f90) Tryz.func90 rfl (Nat.le_of_ble_eq_true rfl) ?_; unfold S90 at hS; have ok := Lok.nil h; refine EvC.seq (Xr [.look 0, .look 1] (Xa rfl rfl rfl rfl fun _ => ?_)); refine Xa rfl rfl rfl rfl fun _ => ?_; refine R.nil (EvC.seq (EvC.join (σ := Bool) (fun s => (Ep (Ep E0 11 (.bool s)) 0 (.string p0))) (fun s => []) (fun s h_1 => S90_j1 p0 K s h_1) ?_ (fun Ih_1 hIh_1 => ?_)))
  · intro v11 h_1 ok hS; replace hS : S90_j1 p0 K v11 h_1 := hS; unfold S90_j1 at hS
    by_cases e1 : v11 = true
    · rw [if_pos e1] at hS; refine EvC.condT rfl e1 (EvC.seq (Xr [.look 0, .look 1] (Xa rfl rfl rfl rfl fun _ => ?_))); refine Xa rfl rfl rfl rfl fun _ => ?_; refine R.nil (EvC.ret ?_); exact ⟨.inr rfl, _, _, (.cons (.tmp rfl) (.cons (.tmp rfl) .nil)), ok.le, _, _, rfl, hS⟩
    · rw [if_neg e1] at hS; replace e1 := eq_false_of_ne_true e1; refine EvC.condF rfl e1 (EvC.skip (EvC.seq (Xr [.look 0, .eff 1 [], .look 2, .look 3] (Xm rfl rfl rfl rfl fun _ => ?_)))); refine R.eff rfl rfl rfl (Eff.loc ok (Ef.call rfl CB47 rfl ((f47_ok hS).mono ?_))); rintro _ h_2 ⟨v13, rfl, hS⟩; refine fun ok => ⟨noChk, ?_⟩; refine Xa rfl rfl rfl rfl fun _ => ?_; refine Xa rfl rfl rfl rfl fun _ => ?_; refine R.nil (EvC.ret ?_); exact ⟨.inr rfl, _, _, (.cons (.tmp rfl) (.cons (.tmp rfl) .nil)), ok.le, _, _, rfl, hS⟩
  · refine Xr [.look 0, .look 1, .look 2, .look 3, .look 4, .eff 5 [], .look 6, .look 7] (Xm rfl rfl rfl rfl fun _ => ?_); refine Xk rfl rfl (Lk.lenS rfl Tryz.underlying9 rfl) fun _ => ?_; refine Xk rfl rfl (Lk.arith rfl rfl rfl rfl) fun _ => ?_; refine Xm rfl rfl rfl rfl fun _ => ?_
    by_cases e2 : ((ByteArray.size p0 : Int) != 1) = true
    · rw [if_pos e2] at hS; refine R.lookF rfl rfl rfl rfl e2 rfl fun _ => R.effF rfl rfl rfl rfl e2 rfl ?_; refine R.lookF rfl rfl rfl rfl e2 rfl fun _ => Xk rfl rfl (Lk.pick rfl rfl (fun _ => rfl) (fun e => by rw [e2] at e; cases e)) fun _ => R.nil ?_; exact hIh_1 true _ _ _ (lq rfl (lq rfl (lz _))) (ok.sub sl0) (H.add_sub ok sl0) hS
    · rw [if_neg e2] at hS; replace e2 := eq_false_of_ne_true e2; refine R.lookT rfl rfl rfl rfl e2 rfl (Lk.move rfl rfl) fun _ => R.effT rfl rfl rfl rfl e2 rfl (Eff.loc ok (Ef.call rfl CB134 rfl ((f134_ok hS).mono ?_))); rintro _ h_3 ⟨v9, rfl, hS⟩; refine fun ok => ⟨noChk, ?_⟩; refine R.lookT rfl rfl rfl rfl e2 rfl (Lk.not rfl rfl) fun _ => Xk rfl rfl (Lk.pick rfl rfl (fun e => by rw [e2] at e; cases e) (fun _ => rfl)) fun _ => R.nil ?_; exact hIh_1 (!v9) _ _ _ (lq rfl (lq rfl (lz _))) (ok.sub sl0) (H.add_sub ok sl0) hS

theorem f39_ok {p0 : ByteArray} {p1 : Int} {h : H} {K : Int → Int → Int → ByteArray → Int → H → Prop} (hS : S39 p0 p1 h K) : ACall Tryz.prog 39 ([(.string p0), (i6 p1)] : List Value).toArray h (fun r h' => ∃ r0_0 : Int, ∃ r0_1 : Int, ∃ r0_2 : Int, ∃ r0_3 : ByteArray, ∃ r1 : Int, r = tup [(.agg ([(i6 r0_0), (i6 r0_1), (i6 r0_2), (.string r0_3)] : List Value).toArray), (i6 r1)] ∧ K r0_0 r0_1 r0_2 r0_3 r1 h') := by
  refine ACall.enter (fn := Tryz.f39) Tryz.func39 rfl (Nat.le_of_ble_eq_true rfl) ?_; unfold S39 at hS; have ok := Lok.nil h; refine EvC.seq (Xr [.alc 0, .look 1] (R.var (blk := .row ⟨[(i6 0), (i6 0), (i6 0), (.string ⟨#[]⟩)], 4, 61, true, true⟩) ok rfl rfl rfl (Ac.alloc rfl T61) rfl rfl fun b4 ok => ?_)); refine Xa rfl rfl rfl rfl fun _ => ?_; refine R.nil (EvC.seq (Xr [.look 0, .eff 1 [], .look 2, .look 3, .look 4, .look 5, .look 6] (Xm rfl rfl rfl rfl fun _ => R.eff rfl rfl rfl (Eff.loc ok (Ef.call rfl CB87 rfl ((f87_ok hS).mono ?_)))))); rintro _ h_1 ⟨v15_0, v15_1, rfl, hS⟩; refine fun ok => ⟨noChk, ?_⟩; refine Xm rfl rfl rfl rfl fun _ => ?_; refine Xk rfl rfl (Lk.extract rfl rfl rfl) fun _ => ?_; refine Xk rfl rfl (Lk.extract rfl rfl rfl) fun _ => ?_; refine Xa rfl rfl rfl rfl fun _ => ?_; refine Xa rfl rfl rfl rfl fun _ => ?_; refine R.nil (EvC.seq (EvC.join (σ := Bool) (fun s => (Ep (Ep (Ep (Ep E0 29 (.bool s)) 6 (.slice v15_0.a v15_0.l v15_0.c)) 4 (.pointer (some ⟨b4, 0, none⟩))) 1 (i6 p1))) (fun s => [(b4, .row ⟨[(i6 0), (i6 0), (i6 0), (.string ⟨#[]⟩)], 4, 61, true, true⟩)]) (fun s h_2 => S39_j1 p1 K v15_0 s h_2) ?_ (fun Ih_2 hIh_2 => ?_)))
  · intro v29 h_2 ok hS; replace hS : S39_j1 p1 K v15_0 v29 h_2 := hS; unfold S39_j1 at hS
    by_cases e1 : v29 = true
    · rw [if_pos e1] at hS; refine EvC.condT rfl e1 (EvC.seq (Xr [.look 0, .eff 1 [], .look 2] (Xk rfl rfl (Lk.build (cs := [(i6 0), (i6 0), (i6 0), (.string ⟨#[]⟩)]) (pl := [(0, 1), (1, 1), (2, 1), (3, 1)]) rfl Tryz.underlying61 T61 (PlacesL.places (.cons T3 (.cons T3 (.cons T3 (.cons T9 PlacesL.nil))))) rfl rfl) fun _ => ?_))); refine R.effN rfl rfl rfl (Ef.storeLoc (i := 0) (vs := [(i6 0), (i6 0), (i6 0), (.string ⟨#[]⟩)]) (cs := [(i6 0), (i6 0), (i6 0), (.string ⟨#[]⟩)]) (l' := [(b4, .row ⟨[(i6 0), (i6 0), (i6 0), (.string ⟨#[]⟩)], 4, 61, true, true⟩)]) ok rfl T61 rfl rfl rfl rfl rfl rfl rfl rfl rfl rfl fun ok => ⟨noChk, ?_⟩); refine Xa rfl rfl rfl rfl fun _ => ?_; refine R.nil (EvC.ret ?_); exact ⟨.inr rfl, _, _, (.cons (.cells rfl (fun w => Und.agg Tryz.underlying61 w) (fun w => T61.size_ w) (H.rdn_loc ok (i := 0) rfl rfl rfl)) (.cons (.tmp rfl) .nil)), ok.le, _, _, _, _, _, rfl, hS⟩
    · rw [if_neg e1] at hS; replace e1 := eq_false_of_ne_true e1; refine EvC.condF rfl e1 (EvC.skip (EvC.seq (Xr [.look 0, .look 1, .look 2, .look 3, .eff 4 [], .look 5, .look 6, .look 7, .look 8, .look 9] (Xm rfl rfl rfl rfl fun _ => ?_))))
      obtain ⟨a33, e2, e3, e4, hS⟩ := hS
      refine Xk rfl rfl (Lk.ixAddr rfl Tryz.underlying55 T9 rfl e2 rfl e3 e4) fun _ => ?_
      obtain ⟨v34, e5, hS⟩ := hS
      refine Xk rfl rfl (Look.loc ok (Lk.load1 rfl Tryz.underlying9 rfl rfl e5)) fun _ => ?_; refine Xm rfl rfl rfl rfl fun _ => ?_; refine R.eff rfl rfl rfl (Eff.loc ok (Ef.call rfl CB89 rfl ((f89_ok hS).mono ?_))); rintro _ h_3 ⟨v36_0, v36_1, rfl, hS⟩; refine fun ok => ⟨noChk, ?_⟩; refine Xm rfl rfl rfl rfl fun _ => ?_; refine Xk rfl rfl (Lk.extract rfl rfl rfl) fun _ => ?_; refine Xk rfl rfl (Lk.extract rfl rfl rfl) fun _ => ?_; refine Xa rfl rfl rfl rfl fun _ => ?_; refine Xa rfl rfl rfl rfl fun _ => ?_; refine R.nil (EvC.seq (EvC.seq (Xr [.look 0, .look 1] (Xm rfl rfl rfl rfl fun _ => Xk rfl rfl (Lk.arith rfl rfl rfl rfl) fun _ => R.nil ?_))))
      by_cases e6 : (v36_1 != 0) = true
      · rw [if_pos e6] at hS; refine EvC.condT rfl e6 (EvC.seq (Xr [.look 0, .look 1, .eff 2 [], .look 3] (Xk rfl rfl (Lk.build (cs := [(i6 0), (i6 0), (i6 0), (.string ⟨#[]⟩)]) (pl := [(0, 1), (1, 1), (2, 1), (3, 1)]) rfl Tryz.underlying61 T61 (PlacesL.places (.cons T3 (.cons T3 (.cons T3 (.cons T9 PlacesL.nil))))) rfl rfl) fun _ => ?_))); refine Xm rfl rfl rfl rfl fun _ => ?_; refine R.effN rfl rfl rfl (Ef.storeLoc (i := 0) (vs := [(i6 0), (i6 0), (i6 0), (.string ⟨#[]⟩)]) (cs := [(i6 0), (i6 0), (i6 0), (.string ⟨#[]⟩)]) (l' := [(b4, .row ⟨[(i6 0), (i6 0), (i6 0), (.string ⟨#[]⟩)], 4, 61, true, true⟩)]) ok rfl T61 rfl rfl rfl rfl rfl rfl rfl rfl rfl rfl fun ok => ⟨noChk, ?_⟩); refine Xa rfl rfl rfl rfl fun _ => ?_; refine R.nil (EvC.ret ?_); exact ⟨.inr rfl, _, _, (.cons (.cells rfl (fun w => Und.agg Tryz.underlying61 w) (fun w => T61.size_ w) (H.rdn_loc ok (i := 0) rfl rfl rfl)) (.cons (.tmp rfl) .nil)), ok.le, _, _, _, _, _, rfl, hS⟩
      · rw [if_neg e6] at hS; replace e6 := eq_false_of_ne_true e6; refine EvC.condF rfl e6 (EvC.skip (EvC.seq (Xr [.look 0, .look 1, .look 2, .eff 3 [], .look 4, .look 5, .look 6, .look 7, .look 8] (Xm rfl rfl rfl rfl fun _ => ?_))))
        obtain ⟨a45, e7, e8, e9, hS⟩ := hS
        refine Xk rfl rfl (Lk.ixAddr rfl Tryz.underlying55 T9 rfl e7 rfl e8 e9) fun _ => ?_
        obtain ⟨v46, e10, hS⟩ := hS
        refine Xk rfl rfl (Look.loc ok (Lk.load1 rfl Tryz.underlying9 rfl rfl e10)) fun _ => ?_; refine R.eff rfl rfl rfl (Eff.loc ok (Ef.call rfl CB90 rfl ((f90_ok hS).mono ?_))); rintro _ h_4 ⟨v47_0, v47_1, rfl, hS⟩; refine fun ok => ⟨noChk, ?_⟩; refine Xm rfl rfl rfl rfl fun _ => ?_; refine Xk rfl rfl (Lk.extract rfl rfl rfl) fun _ => ?_; refine Xk rfl rfl (Lk.extract rfl rfl rfl) fun _ => ?_; refine Xa rfl rfl rfl rfl fun _ => ?_; refine Xa rfl rfl rfl rfl fun _ => ?_; refine R.nil (EvC.seq (EvC.seq (Xr [.look 0, .look 1] (Xm rfl rfl rfl rfl fun _ => Xk rfl rfl (Lk.not rfl rfl) fun _ => R.nil ?_))))
        by_cases e11 : (!v47_1) = true
        · rw [if_pos e11] at hS; refine EvC.condT rfl e11 (EvC.seq (Xr [.look 0, .eff 1 [], .look 2] (Xk rfl rfl (Lk.build (cs := [(i6 0), (i6 0), (i6 0), (.string ⟨#[]⟩)]) (pl := [(0, 1), (1, 1), (2, 1), (3, 1)]) rfl Tryz.underlying61 T61 (PlacesL.places (.cons T3 (.cons T3 (.cons T3 (.cons T9 PlacesL.nil))))) rfl rfl) fun _ => ?_))); refine R.effN rfl rfl rfl (Ef.storeLoc (i := 0) (vs := [(i6 0), (i6 0), (i6 0), (.string ⟨#[]⟩)]) (cs := [(i6 0), (i6 0), (i6 0), (.string ⟨#[]⟩)]) (l' := [(b4, .row ⟨[(i6 0), (i6 0), (i6 0), (.string ⟨#[]⟩)], 4, 61, true, true⟩)]) ok rfl T61 rfl rfl rfl rfl rfl rfl rfl rfl rfl rfl fun ok => ⟨noChk, ?_⟩); refine Xa rfl rfl rfl rfl fun _ => ?_; refine R.nil (EvC.ret ?_); exact ⟨.inr rfl, _, _, (.cons (.cells rfl (fun w => Und.agg Tryz.underlying61 w) (fun w => T61.size_ w) (H.rdn_loc ok (i := 0) rfl rfl rfl)) (.cons (.tmp rfl) .nil)), ok.le, _, _, _, _, _, rfl, hS⟩
        · rw [if_neg e11] at hS; replace e11 := eq_false_of_ne_true e11; refine EvC.condF rfl e11 (EvC.skip (EvC.seq (Xr [.look 0, .look 1, .look 2, .look 3, .eff 4 [], .look 5, .look 6, .look 7, .look 8, .look 9] (Xm rfl rfl rfl rfl fun _ => ?_))))
          obtain ⟨a55, e12, e13, e14, hS⟩ := hS
          refine Xk rfl rfl (Lk.ixAddr rfl Tryz.underlying55 T9 rfl e12 rfl e13 e14) fun _ => ?_
          obtain ⟨v56, e15, hS⟩ := hS
          refine Xk rfl rfl (Look.loc ok (Lk.load1 rfl Tryz.underlying9 rfl rfl e15)) fun _ => ?_; refine Xm rfl rfl rfl rfl fun _ => ?_; refine R.eff rfl rfl rfl (Eff.loc ok (Ef.call rfl CB89 rfl ((f89_ok hS).mono ?_))); rintro _ h_5 ⟨v58_0, v58_1, rfl, hS⟩; refine fun ok => ⟨noChk, ?_⟩; refine Xm rfl rfl rfl rfl fun _ => ?_; refine Xk rfl rfl (Lk.extract rfl rfl rfl) fun _ => ?_; refine Xk rfl rfl (Lk.extract rfl rfl rfl) fun _ => ?_; refine Xa rfl rfl rfl rfl fun _ => ?_; refine Xa rfl rfl rfl rfl fun _ => ?_; refine R.nil (EvC.seq (EvC.seq (Xr [.look 0, .look 1] (Xm rfl rfl rfl rfl fun _ => Xk rfl rfl (Lk.arith rfl rfl rfl rfl) fun _ => R.nil ?_))))
          by_cases e16 : (v58_1 != 0) = true
          · rw [if_pos e16] at hS; refine EvC.condT rfl e16 (EvC.seq (Xr [.look 0, .look 1, .eff 2 [], .look 3] (Xk rfl rfl (Lk.build (cs := [(i6 0), (i6 0), (i6 0), (.string ⟨#[]⟩)]) (pl := [(0, 1), (1, 1), (2, 1), (3, 1)]) rfl Tryz.underlying61 T61 (PlacesL.places (.cons T3 (.cons T3 (.cons T3 (.cons T9 PlacesL.nil))))) rfl rfl) fun _ => ?_))); refine Xm rfl rfl rfl rfl fun _ => ?_; refine R.effN rfl rfl rfl (Ef.storeLoc (i := 0) (vs := [(i6 0), (i6 0), (i6 0), (.string ⟨#[]⟩)]) (cs := [(i6 0), (i6 0), (i6 0), (.string ⟨#[]⟩)]) (l' := [(b4, .row ⟨[(i6 0), (i6 0), (i6 0), (.string ⟨#[]⟩)], 4, 61, true, true⟩)]) ok rfl T61 rfl rfl rfl rfl rfl rfl rfl rfl rfl rfl fun ok => ⟨noChk, ?_⟩); refine Xa rfl rfl rfl rfl fun _ => ?_; refine R.nil (EvC.ret ?_); exact ⟨.inr rfl, _, _, (.cons (.cells rfl (fun w => Und.agg Tryz.underlying61 w) (fun w => T61.size_ w) (H.rdn_loc ok (i := 0) rfl rfl rfl)) (.cons (.tmp rfl) .nil)), ok.le, _, _, _, _, _, rfl, hS⟩
          · rw [if_neg e16] at hS; replace e16 := eq_false_of_ne_true e16; refine EvC.condF rfl e16 (EvC.skip (EvC.seq (Xr [.look 0, .look 1, .eff 2 [], .look 3] (Xm rfl rfl rfl rfl fun _ => ?_))))
            obtain ⟨e17, e18, e19, e20, hS⟩ := hS
            refine R.look (v := (.slice (if v15_0.c = Int.toNat 3 then v15_0.a else Option.map (fun x => Addr.add x (Int.toNat 3 * 1)) v15_0.a) (Nat.sub (Int.toNat (v15_0.l : Int)) (Int.toNat 3)) (v15_0.c - Int.toNat 3))) rfl rfl rfl (Lk.subSlice (i := 3) (j := (v15_0.l : Int)) rfl Tryz.underlying55 T9 rfl ⟨_, rfl⟩ rfl e17 e18 e19 e20) fun _ => R.eff rfl rfl rfl (Eff.loc ok (Ef.call rfl CB23 rfl ((f23_ok hS).mono ?_))); rintro _ h_6 ⟨v67, rfl, hS⟩; refine fun ok => ⟨noChk, ?_⟩; refine Xa rfl rfl rfl rfl fun _ => ?_; refine R.nil (EvC.seq (EvC.seq (Xr [.look 0, .eff 1 [], .look 2] (Xm rfl rfl rfl rfl fun _ => R.eff rfl rfl rfl (Eff.loc ok (Ef.call rfl CB49 rfl ((f49_ok hS).mono ?_))))))); rintro _ h_7 ⟨v69, rfl, hS⟩; refine fun ok => ⟨noChk, ?_⟩; refine Xk rfl rfl (Lk.not rfl rfl) fun _ => ?_; refine R.nil ?_
            by_cases e21 : (!v69) = true
            · rw [if_pos e21] at hS; refine EvC.condT rfl e21 (EvC.seq (Xr [.look 0, .eff 1 [], .look 2] (Xk rfl rfl (Lk.build (cs := [(i6 0), (i6 0), (i6 0), (.string ⟨#[]⟩)]) (pl := [(0, 1), (1, 1), (2, 1), (3, 1)]) rfl Tryz.underlying61 T61 (PlacesL.places (.cons T3 (.cons T3 (.cons T3 (.cons T9 PlacesL.nil))))) rfl rfl) fun _ => ?_))); refine R.effN rfl rfl rfl (Ef.storeLoc (i := 0) (vs := [(i6 0), (i6 0), (i6 0), (.string ⟨#[]⟩)]) (cs := [(i6 0), (i6 0), (i6 0), (.string ⟨#[]⟩)]) (l' := [(b4, .row ⟨[(i6 0), (i6 0), (i6 0), (.string ⟨#[]⟩)], 4, 61, true, true⟩)]) ok rfl T61 rfl rfl rfl rfl rfl rfl rfl rfl rfl rfl fun ok => ⟨noChk, ?_⟩); refine Xa rfl rfl rfl rfl fun _ => ?_; refine R.nil (EvC.ret ?_); exact ⟨.inr rfl, _, _, (.cons (.cells rfl (fun w => Und.agg Tryz.underlying61 w) (fun w => T61.size_ w) (H.rdn_loc ok (i := 0) rfl rfl rfl)) (.cons (.tmp rfl) .nil)), ok.le, _, _, _, _, _, rfl, hS⟩
            · rw [if_neg e21] at hS; replace e21 := eq_false_of_ne_true e21; refine EvC.condF rfl e21 (EvC.skip (EvC.seq (Xr [.look 0, .look 1, .look 2, .look 3, .look 4, .eff 5 [], .look 6] (Xm rfl rfl rfl rfl fun _ => ?_)))); refine Xm rfl rfl rfl rfl fun _ => ?_; refine Xm rfl rfl rfl rfl fun _ => ?_; refine Xm rfl rfl rfl rfl fun _ => ?_; refine Xk rfl rfl (Lk.build (cs := [(i6 v36_0), (i6 v58_0), (i6 v47_0), (.string v67)]) (pl := [(0, 1), (1, 1), (2, 1), (3, 1)]) rfl Tryz.underlying61 T61 (PlacesL.places (.cons T3 (.cons T3 (.cons T3 (.cons T9 PlacesL.nil))))) rfl rfl) fun _ => ?_; refine R.effN rfl rfl rfl (Ef.storeLoc (i := 0) (vs := [(i6 v36_0), (i6 v58_0), (i6 v47_0), (.string v67)]) (cs := [(i6 v36_0), (i6 v58_0), (i6 v47_0), (.string v67)]) (l' := [(b4, .row ⟨[(i6 v36_0), (i6 v58_0), (i6 v47_0), (.string v67)], 4, 61, true, true⟩)]) ok rfl T61 rfl rfl rfl rfl rfl rfl rfl rfl rfl rfl fun ok => ⟨noChk, ?_⟩); refine Xa rfl rfl rfl rfl fun _ => ?_; refine R.nil (EvC.ret ?_); exact ⟨.inr rfl, _, _, (.cons (.cells rfl (fun w => Und.agg Tryz.underlying61 w) (fun w => T61.size_ w) (H.rdn_loc ok (i := 0) rfl rfl rfl)) (.cons (.tmp rfl) .nil)), ok.le, _, _, _, _, _, rfl, hS⟩
  · refine Xr [.look 0, .look 1, .look 2, .look 3, .look 4, .look 5, .look 6, .look 7, .look 8, .look 9, .look 10, .look 11] (Xm rfl rfl rfl rfl fun _ => ?_); refine Xk rfl rfl (Lk.not rfl rfl) fun _ => ?_; refine Xm rfl rfl rfl rfl fun _ => ?_
    by_cases e22 : (!v15_1) = true
    · refine R.lookF rfl rfl rfl rfl e22 rfl fun _ => R.lookF rfl rfl rfl rfl e22 rfl fun _ => R.lookF rfl rfl rfl rfl e22 rfl fun _ => Xk rfl rfl (Lk.pick rfl rfl (fun _ => rfl) (fun e => by rw [e22] at e; cases e)) fun _ => Xm rfl rfl rfl rfl fun _ => R.lookF rfl rfl rfl rfl rfl rfl fun _ => R.lookF rfl rfl rfl rfl rfl rfl fun _ => R.lookF rfl rfl rfl rfl rfl rfl fun _ => Xk rfl rfl (Lk.pick rfl rfl (fun _ => rfl) (fun e => by cases e)) fun _ => R.nil ?_; exact hIh_2 (((!v15_1) || (decide ((v15_0.l : Int) < 3))) || (decide ((v15_0.l : Int) > 4))) _ _ _ (lq rfl (lq rfl (lq rfl (lq (by rw [e22]; rfl) (lz _))))) (ok.sub (.cons_cons _ sl0)) (H.add_sub ok (.cons_cons _ sl0)) hS
    · replace e22 := eq_false_of_ne_true e22; refine R.lookT rfl rfl rfl rfl e22 rfl (Lk.move rfl rfl) fun _ => R.lookT rfl rfl rfl rfl e22 rfl (Lk.len rfl Tryz.underlying55 rfl) fun _ => R.lookT rfl rfl rfl rfl e22 rfl (Lk.arith rfl rfl rfl rfl) fun _ => Xk rfl rfl (Lk.pick rfl rfl (fun e => by rw [e22] at e; cases e) (fun _ => rfl)) fun _ => Xm rfl rfl rfl rfl fun _ => ?_
      by_cases e23 : (decide ((v15_0.l : Int) < 3)) = true
      · refine R.lookF rfl rfl rfl rfl e23 rfl fun _ => R.lookF rfl rfl rfl rfl e23 rfl fun _ => R.lookF rfl rfl rfl rfl e23 rfl fun _ => Xk rfl rfl (Lk.pick rfl rfl (fun _ => rfl) (fun e => by rw [e23] at e; cases e)) fun _ => R.nil ?_; exact hIh_2 (((!v15_1) || (decide ((v15_0.l : Int) < 3))) || (decide ((v15_0.l : Int) > 4))) _ _ _ (lq rfl (lq rfl (lq rfl (lq (by rw [e22, e23]; rfl) (lz _))))) (ok.sub (.cons_cons _ sl0)) (H.add_sub ok (.cons_cons _ sl0)) hS
      · replace e23 := eq_false_of_ne_true e23; refine R.lookT rfl rfl rfl rfl e23 rfl (Lk.move rfl rfl) fun _ => R.lookT rfl rfl rfl rfl e23 rfl (Lk.len rfl Tryz.underlying55 rfl) fun _ => R.lookT rfl rfl rfl rfl e23 rfl (Lk.arith rfl rfl rfl rfl) fun _ => Xk rfl rfl (Lk.pick rfl rfl (fun e => by rw [e23] at e; cases e) (fun _ => rfl)) fun _ => R.nil ?_; exact hIh_2 (((!v15_1) || (decide ((v15_0.l : Int) < 3))) || (decide ((v15_0.l : Int) > 4))) _ _ _ (lq rfl (lq rfl (lq rfl (lq (by rw [e22, e23]; rfl) (lz _))))) (ok.sub (.cons_cons _ sl0)) (H.add_sub ok (.cons_cons _ sl0)) hS

theorem f12_ok {p0 : ByteArray} {h : H} {K : Sl → Sl → Int → Int → H → Prop} (hS : S12 p0 h K) : ACall Tryz.prog 12 ([(.string p0)] : List Value).toArray h (fun r h' => ∃ r0_0 : Sl, ∃ r0_1 : Sl, ∃ r1 : Int, ∃ r2 : Int, r = tup [(.agg ([(.slice r0_0.a r0_0.l r0_0.c), (.slice r0_1.a r0_1.l r0_1.c)] : List Value).toArray), (i6 r1), (i6 r2)] ∧ K r0_0 r0_1 r1 r2 h') := by
  refine ACall.enter (fn := Tryz.f12) Tryz.func12 rfl (Nat.le_of_ble_eq_true rfl) ?_; unfold S12 at hS; have ok := Lok.nil h; refine EvC.seq (Xr [.alc 0, .look 1, .look 2] (R.var (blk := .row ⟨[(.slice none 0 0), (.slice none 0 0)], 2, 33, true, true⟩) ok rfl rfl rfl (Ac.alloc rfl T33) rfl rfl fun b2 ok => ?_)); refine Xa rfl rfl rfl rfl fun _ => ?_; refine Xa rfl rfl rfl rfl fun _ => ?_; refine R.nil (EvC.seq (Xr [.look 0, .eff 1 [], .look 2, .look 3, .look 4, .look 5, .look 6] (Xm rfl rfl rfl rfl fun _ => R.eff rfl rfl rfl (Eff.loc ok (Ef.call rfl CB37 rfl ((f37_ok hS).mono ?_)))))); rintro _ h_1 ⟨v15_0, v15_1, rfl, hS⟩; refine fun ok => ⟨noChk, ?_⟩; refine Xm rfl rfl rfl rfl fun _ => ?_; refine Xk rfl rfl (Lk.extract rfl rfl rfl) fun _ => ?_; refine Xk rfl rfl (Lk.extract rfl rfl rfl) fun _ => ?_; refine Xa rfl rfl rfl rfl fun _ => ?_; refine Xa rfl rfl rfl rfl fun _ => ?_; refine R.nil (EvC.seq (EvC.block (EvC.seq (Xr [.look 0, .look 1, .look 2] (Xm rfl rfl rfl rfl fun _ => Xk rfl rfl (Lk.arith rfl rfl rfl rfl) fun _ => Xa rfl rfl rfl rfl fun _ => R.nil ?_)))))
  by_cases e1 : (v15_1 != 0) = true
  · rw [if_pos e1] at hS; refine EvC.condT rfl e1 (EvC.seq (Xr [.look 0, .look 1, .eff 2 [], .look 3, .look 4] (Xk rfl rfl (Lk.build (cs := [(.slice none 0 0), (.slice none 0 0)]) (pl := [(0, 1), (1, 1)]) rfl Tryz.underlying33 T33 (PlacesL.places (.cons T30 (.cons T31 PlacesL.nil))) rfl rfl) fun _ => ?_))); refine Xm rfl rfl rfl rfl fun _ => ?_; refine R.effN rfl rfl rfl (Ef.storeLoc (i := 0) (vs := [(.slice none 0 0), (.slice none 0 0)]) (cs := [(.slice none 0 0), (.slice none 0 0)]) (l' := [(b2, .row ⟨[(.slice none 0 0), (.slice none 0 0)], 2, 33, true, true⟩)]) ok rfl T33 rfl rfl rfl rfl rfl rfl rfl rfl rfl rfl fun ok => ⟨noChk, ?_⟩); refine Xa rfl rfl rfl rfl fun _ => ?_; refine Xa rfl rfl rfl rfl fun _ => ?_; refine R.nil (EvC.ret ?_); exact ⟨.inr rfl, _, _, (.cons (.cells rfl (fun w => Und.agg Tryz.underlying33 w) (fun w => T33.size_ w) (H.rdn_loc ok (i := 0) rfl rfl rfl)) (.cons (.tmp rfl) (.cons (.tmp rfl) .nil))), ok.le, _, _, _, _, rfl, hS⟩
  · rw [if_neg e1] at hS; replace e1 := eq_false_of_ne_true e1; refine EvC.condF rfl e1 (EvC.seq (Xr [.look 0, .look 1, .look 2, .look 3] (Xm rfl rfl rfl rfl fun _ => ?_))); refine Xk rfl rfl (Lk.len rfl Tryz.underlying55 rfl) fun _ => ?_; refine Xk rfl rfl (Lk.arith rfl rfl rfl rfl) fun _ => ?_; refine Xa rfl rfl rfl rfl fun _ => ?_; refine R.nil ?_
    by_cases e2 : ((v15_0.l : Int) == 0) = true
    · rw [if_pos e2] at hS; refine EvC.condT rfl e2 (EvC.seq (Xr [.look 0, .eff 1 [], .look 2, .look 3] (Xk rfl rfl (Lk.build (cs := [(.slice none 0 0), (.slice none 0 0)]) (pl := [(0, 1), (1, 1)]) rfl Tryz.underlying33 T33 (PlacesL.places (.cons T30 (.cons T31 PlacesL.nil))) rfl rfl) fun _ => ?_))); refine R.effN rfl rfl rfl (Ef.storeLoc (i := 0) (vs := [(.slice none 0 0), (.slice none 0 0)]) (cs := [(.slice none 0 0), (.slice none 0 0)]) (l' := [(b2, .row ⟨[(.slice none 0 0), (.slice none 0 0)], 2, 33, true, true⟩)]) ok rfl T33 rfl rfl rfl rfl rfl rfl rfl rfl rfl rfl fun ok => ⟨noChk, ?_⟩); refine Xa rfl rfl rfl rfl fun _ => ?_; refine Xa rfl rfl rfl rfl fun _ => ?_; refine R.nil (EvC.ret ?_); exact ⟨.inr rfl, _, _, (.cons (.cells rfl (fun w => Und.agg Tryz.underlying33 w) (fun w => T33.size_ w) (H.rdn_loc ok (i := 0) rfl rfl rfl)) (.cons (.tmp rfl) (.cons (.tmp rfl) .nil))), ok.le, _, _, _, _, rfl, hS⟩
    · rw [if_neg e2] at hS; replace e2 := eq_false_of_ne_true e2; refine EvC.condF rfl e2 (EvC.skip (EvC.seq (Xr [.alc 0] (R.var (blk := .row ⟨[(.slice none 0 0), (.slice none 0 0)], 2, 33, true, true⟩) ok rfl rfl rfl (Ac.alloc rfl T33) rfl rfl fun b7 ok => ?_)))); refine R.nil (EvC.seq (EvC.seq (Xr [.look 0, .look 1, .look 2, .eff 3 [], .look 4, .look 5, .look 6, .look 7, .eff 8 [], .look 9] (Xm rfl rfl rfl rfl fun _ => ?_))))
      obtain ⟨a30, e3, e4, e5, hS⟩ := hS
      refine Xk rfl rfl (Lk.ixAddr rfl Tryz.underlying55 T9 rfl e3 rfl e4 e5) fun _ => ?_
      obtain ⟨v31, e6, hS⟩ := hS
      refine Xk rfl rfl (Look.loc ok (Lk.load1 rfl Tryz.underlying9 rfl rfl e6)) fun _ => ?_; refine R.eff rfl rfl rfl (Eff.loc ok (Ef.call rfl CB38 rfl ((f38_ok hS).mono ?_))); rintro _ h_2 ⟨v32_0, v32_1, rfl, hS⟩; refine fun ok => ⟨noChk, ?_⟩; refine Xm rfl rfl rfl rfl fun _ => ?_; refine Xk rfl rfl (Lk.extract rfl rfl rfl) fun _ => ?_; refine Xk rfl rfl (Lk.extract rfl rfl rfl) fun _ => ?_; refine Xk (v := (.pointer (some ⟨b7, 0, none⟩))) rfl rfl (Lk.fldAddr rfl Tryz.underlying33 rfl rfl T30 rfl rfl rfl) fun _ => ?_; refine R.effN rfl rfl rfl (Ef.storeLoc (i := 0) (vs := [(.slice v32_0.a v32_0.l v32_0.c)]) (cs := [(.slice v32_0.a v32_0.l v32_0.c), (.slice none 0 0)]) (l' := [(b7, .row ⟨[(.slice v32_0.a v32_0.l v32_0.c), (.slice none 0 0)], 2, 33, true, true⟩), (b2, .row ⟨[(.slice none 0 0), (.slice none 0 0)], 2, 33, true, true⟩)]) ok rfl T30 rfl rfl rfl rfl rfl rfl rfl rfl rfl rfl fun ok => ⟨noChk, ?_⟩); refine Xa rfl rfl rfl rfl fun _ => ?_; refine R.nil (EvC.seq (Xr [.look 0, .look 1] (Xm rfl rfl rfl rfl fun _ => Xk rfl rfl (Lk.arith rfl rfl rfl rfl) fun _ => R.nil ?_)))
      by_cases e7 : (v32_1 != 0) = true
      · rw [if_pos e7] at hS; refine EvC.condT rfl e7 (EvC.seq (Xr [.look 0, .look 1, .eff 2 [], .look 3, .look 4] (Xk rfl rfl (Lk.build (cs := [(.slice none 0 0), (.slice none 0 0)]) (pl := [(0, 1), (1, 1)]) rfl Tryz.underlying33 T33 (PlacesL.places (.cons T30 (.cons T31 PlacesL.nil))) rfl rfl) fun _ => ?_))); refine Xm rfl rfl rfl rfl fun _ => ?_; refine R.effN rfl rfl rfl (Ef.storeLoc (i := 1) (vs := [(.slice none 0 0), (.slice none 0 0)]) (cs := [(.slice none 0 0), (.slice none 0 0)]) (l' := [(b7, .row ⟨[(.slice v32_0.a v32_0.l v32_0.c), (.slice none 0 0)], 2, 33, true, true⟩), (b2, .row ⟨[(.slice none 0 0), (.slice none 0 0)], 2, 33, true, true⟩)]) ok rfl T33 rfl rfl rfl rfl rfl rfl rfl rfl rfl rfl fun ok => ⟨noChk, ?_⟩); refine Xa rfl rfl rfl rfl fun _ => ?_; refine Xa rfl rfl rfl rfl fun _ => ?_; refine R.nil (EvC.ret ?_); exact ⟨.inr rfl, _, _, (.cons (.cells rfl (fun w => Und.agg Tryz.underlying33 w) (fun w => T33.size_ w) (H.rdn_loc ok (i := 1) rfl rfl rfl)) (.cons (.tmp rfl) (.cons (.tmp rfl) .nil))), ok.le, _, _, _, _, rfl, hS⟩
      · rw [if_neg e7] at hS; replace e7 := eq_false_of_ne_true e7; refine EvC.condF rfl e7 (EvC.skip (EvC.seq (Xr [.look 0] (Xa rfl rfl rfl rfl fun _ => ?_)))); refine R.nil (EvC.join (σ := Sl × Sl) (fun s => (Ep (Ep E0 5 (.slice v15_0.a v15_0.l v15_0.c)) 2 (.pointer (some ⟨b2, 0, none⟩)))) (fun s => [(b2, .row ⟨[(.slice s.1.a s.1.l s.1.c), (.slice s.2.a s.2.l s.2.c)], 2, 33, true, true⟩)]) (fun s h_3 => S12_j1 K v15_0 s.1 s.2 h_3) ?_ (fun Ih_3 hIh_3 => ?_))
        · rintro ⟨c2_0, c2_1⟩ h_3 ok hS; replace hS : S12_j1 K v15_0 c2_0 c2_1 h_3 := hS; unfold S12_j1 at hS; refine EvC.seq (Xr [.look 0, .look 1, .look 2, .look 3, .eff 4 [], .look 5, .look 6] (Xk rfl rfl (Lk.build (cs := [(.slice none 0 0), (.slice none 0 0)]) (pl := [(0, 1), (1, 1)]) rfl Tryz.underlying33 T33 (PlacesL.places (.cons T30 (.cons T31 PlacesL.nil))) rfl rfl) fun _ => ?_)); refine Xm rfl rfl rfl rfl fun _ => ?_; refine Xk rfl rfl (Lk.len rfl Tryz.underlying55 rfl) fun _ => ?_; refine Xk rfl rfl (Lk.arith rfl rfl rfl rfl) fun _ => ?_; refine R.effN rfl rfl rfl (Ef.storeLoc (i := 0) (vs := [(.slice none 0 0), (.slice none 0 0)]) (cs := [(.slice none 0 0), (.slice none 0 0)]) (l' := [(b2, .row ⟨[(.slice none 0 0), (.slice none 0 0)], 2, 33, true, true⟩)]) ok rfl T33 rfl rfl rfl rfl rfl rfl rfl rfl rfl rfl fun ok => ⟨noChk, ?_⟩); refine Xa rfl rfl rfl rfl fun _ => ?_; refine Xa rfl rfl rfl rfl fun _ => ?_; refine R.nil (EvC.ret ?_); exact ⟨.inr rfl, _, _, (.cons (.cells rfl (fun w => Und.agg Tryz.underlying33 w) (fun w => T33.size_ w) (H.rdn_loc ok (i := 0) rfl rfl rfl)) (.cons (.tmp rfl) (.cons (.tmp rfl) .nil))), ok.le, _, _, _, _, rfl, hS⟩
        · refine EvC.seq (Xr [.look 0, .look 1, .look 2, .look 3] (Xm rfl rfl rfl rfl fun _ => ?_))
          obtain ⟨e8, e9, e10, e11, hS⟩ := hS
          refine R.look (v := (.slice (if v15_0.c = Int.toNat 1 then v15_0.a else Option.map (fun x => Addr.add x (Int.toNat 1 * 1)) v15_0.a) (Nat.sub (Int.toNat (v15_0.l : Int)) (Int.toNat 1)) (v15_0.c - Int.toNat 1))) rfl rfl rfl (Lk.subSlice (i := 1) (j := (v15_0.l : Int)) rfl Tryz.underlying55 T9 rfl ⟨_, rfl⟩ rfl e8 e9 e10 e11) fun _ => Xk rfl rfl (Lk.len rfl Tryz.underlying55 rfl) fun _ => Xm rfl rfl rfl rfl fun _ => R.nil (EvC.block (EvC.loop (LoopC.lfp (σ := Int × Int × Sl × Sl × Sl × Sl) (fun s => (Ep (Ep (Ep (Ep (Ep (Ep (Ep E0 43 (i6 s.2.1)) 42 (i6 ((Nat.sub (Int.toNat (v15_0.l : Int)) (Int.toNat 1)) : Int))) 41 (.slice (if v15_0.c = Int.toNat 1 then v15_0.a else Option.map (fun x => Addr.add x (Int.toNat 1 * 1)) v15_0.a) (Nat.sub (Int.toNat (v15_0.l : Int)) (Int.toNat 1)) (v15_0.c - Int.toNat 1))) 8 (i6 s.1)) 7 (.pointer (some ⟨b7, 0, none⟩))) 5 (.slice v15_0.a v15_0.l v15_0.c)) 2 (.pointer (some ⟨b2, 0, none⟩)))) (fun s => [(b7, .row ⟨[(.slice s.2.2.1.a s.2.2.1.l s.2.2.1.c), (.slice s.2.2.2.1.a s.2.2.2.1.l s.2.2.2.1.c)], 2, 33, true, true⟩), (b2, .row ⟨[(.slice s.2.2.2.2.1.a s.2.2.2.2.1.l s.2.2.2.2.1.c), (.slice s.2.2.2.2.2.a s.2.2.2.2.2.l s.2.2.2.2.2.c)], 2, 33, true, true⟩)]) (fun X hX => ?_) hS (ok.sub (.cons_cons _ (.cons_cons _ sl0))) (lq rfl (lq rfl (lq rfl (lq rfl (lq rfl (lq rfl (lq rfl (lz _)))))))) (H.add_sub ok (.cons_cons _ (.cons_cons _ sl0)))))); rintro ⟨v8, v43, c7_0, c7_1, c2_0_1, c2_1_1⟩ h_4 hS ok; replace hS : S12_l2 K v15_0 X v8 v43 c7_0 c7_1 c2_0_1 c2_1_1 h_4 := hS; unfold S12_l2 at hS; refine EvC.seq (Xr [.look 0] (Xk rfl rfl (Lk.arith rfl rfl rfl rfl) fun _ => ?_)); refine R.nil (EvC.seq ?_)
          by_cases e12 : (decide (v43 < ((Nat.sub (Int.toNat (v15_0.l : Int)) (Int.toNat 1)) : Int))) = true
          · rw [if_pos e12] at hS; refine EvC.condT rfl e12 (EvC.skip (EvC.seq (EvC.block (EvC.seq (Xr [.look 0, .look 1, .look 2, .look 3, .look 4] (Xm rfl rfl rfl rfl fun _ => ?_))))))
            obtain ⟨a46, e13, e14, e15, hS⟩ := hS
            refine Xk rfl rfl (Lk.ixAddr rfl Tryz.underlying55 T9 rfl e13 rfl e14 e15) fun _ => ?_
            obtain ⟨v47, e16, hS⟩ := hS
            refine Xk rfl rfl (Look.loc ok (Lk.load1 rfl Tryz.underlying9 rfl rfl e16)) fun _ => ?_; refine Xa rfl rfl rfl rfl fun _ => ?_; refine Xa rfl rfl rfl rfl fun _ => ?_; refine R.nil (EvC.seq (EvC.seq (Xr [.look 0, .look 1] (Xm rfl rfl rfl rfl fun _ => Xk rfl rfl (Lk.strEq rfl rfl rfl) fun _ => R.nil ?_))))
            by_cases e17 : (ByteArray.toList v47 == ByteArray.toList ⟨#[101, 110, 100]⟩) = true
            · rw [if_pos e17] at hS; refine EvC.condT rfl e17 (EvC.seq (EvC.seq (Xr [.look 0, .look 1, .look 2, .look 3, .look 4] (Xm rfl rfl rfl rfl fun _ => ?_)))); refine Xk rfl rfl (Lk.arith rfl rfl rfl rfl) fun _ => ?_; refine Xm rfl rfl rfl rfl fun _ => ?_; refine Xk rfl rfl (Lk.len rfl Tryz.underlying55 rfl) fun _ => ?_; refine Xk rfl rfl (Lk.arith rfl rfl rfl rfl) fun _ => ?_; refine R.nil ?_
              by_cases e18 : (decide ((IntKind.wrap .i64 (v43 + 2)) < (v15_0.l : Int))) = true
              · rw [if_pos e18] at hS; refine EvC.condT rfl e18 (EvC.seq (Xr [.look 0, .look 1, .look 2, .eff 3 [], .look 4, .look 5] (Xk rfl rfl (Lk.build (cs := [(.slice none 0 0), (.slice none 0 0)]) (pl := [(0, 1), (1, 1)]) rfl Tryz.underlying33 T33 (PlacesL.places (.cons T30 (.cons T31 PlacesL.nil))) rfl rfl) fun _ => ?_))); refine Xm rfl rfl rfl rfl fun _ => ?_; refine Xk rfl rfl (Lk.arith rfl rfl rfl rfl) fun _ => ?_; refine R.effN rfl rfl rfl (Ef.storeLoc (i := 1) (vs := [(.slice none 0 0), (.slice none 0 0)]) (cs := [(.slice none 0 0), (.slice none 0 0)]) (l' := [(b7, .row ⟨[(.slice c7_0.a c7_0.l c7_0.c), (.slice c7_1.a c7_1.l c7_1.c)], 2, 33, true, true⟩), (b2, .row ⟨[(.slice none 0 0), (.slice none 0 0)], 2, 33, true, true⟩)]) ok rfl T33 rfl rfl rfl rfl rfl rfl rfl rfl rfl rfl fun ok => ⟨noChk, ?_⟩); refine Xa rfl rfl rfl rfl fun _ => ?_; refine Xa rfl rfl rfl rfl fun _ => ?_; refine R.nil (EvC.ret ?_); exact ⟨.inr rfl, _, _, (.cons (.cells rfl (fun w => Und.agg Tryz.underlying33 w) (fun w => T33.size_ w) (H.rdn_loc ok (i := 1) rfl rfl rfl)) (.cons (.tmp rfl) (.cons (.tmp rfl) .nil))), ok.le, _, _, _, _, rfl, hS⟩
              · rw [if_neg e18] at hS; replace e18 := eq_false_of_ne_true e18; refine EvC.condF rfl e18 (EvC.skip (EvC.seq (Xr [.look 0, .eff 1 [], .look 2, .look 3] (Xk rfl rfl (Lk.loadN (vs := [(.slice c7_0.a c7_0.l c7_0.c), (.slice c7_1.a c7_1.l c7_1.c)]) rfl Tryz.underlying33 rfl T33 rfl (H.rdn_loc ok (i := 0) rfl rfl rfl)) fun _ => ?_)))); refine R.effN rfl rfl rfl (Ef.storeLoc (i := 1) (vs := [(.slice c7_0.a c7_0.l c7_0.c), (.slice c7_1.a c7_1.l c7_1.c)]) (cs := [(.slice c7_0.a c7_0.l c7_0.c), (.slice c7_1.a c7_1.l c7_1.c)]) (l' := [(b7, .row ⟨[(.slice c7_0.a c7_0.l c7_0.c), (.slice c7_1.a c7_1.l c7_1.c)], 2, 33, true, true⟩), (b2, .row ⟨[(.slice c7_0.a c7_0.l c7_0.c), (.slice c7_1.a c7_1.l c7_1.c)], 2, 33, true, true⟩)]) ok rfl T33 rfl rfl rfl rfl rfl rfl rfl rfl rfl rfl fun ok => ⟨noChk, ?_⟩); refine Xa rfl rfl rfl rfl fun _ => ?_; refine Xa rfl rfl rfl rfl fun _ => ?_; refine R.nil (EvC.ret ?_); exact ⟨.inr rfl, _, _, (.cons (.cells rfl (fun w => Und.agg Tryz.underlying33 w) (fun w => T33.size_ w) (H.rdn_loc ok (i := 1) rfl rfl rfl)) (.cons (.tmp rfl) (.cons (.tmp rfl) .nil))), ok.le, _, _, _, _, rfl, hS⟩
            · rw [if_neg e17] at hS; replace e17 := eq_false_of_ne_true e17; refine EvC.condF rfl e17 (EvC.skip (EvC.seq (Xr [.look 0, .look 1, .look 2, .look 3, .eff 4 [], .look 5, .look 6, .look 7, .alc 8, .eff 9 [], .look 10] (Xm rfl rfl rfl rfl fun _ => ?_)))); refine Xk (v := (.pointer (some ⟨b7, 0, none⟩))) rfl rfl (Lk.fldAddr rfl Tryz.underlying33 rfl rfl T30 rfl rfl rfl) fun _ => ?_; refine Xk rfl rfl (Lk.load1 (v := (.slice c7_0.a c7_0.l c7_0.c)) rfl Tryz.underlying30 rfl rfl (H.rd_loc ok (i := 0) rfl rfl)) fun _ => ?_; refine Xk rfl rfl (Lk.len rfl Tryz.underlying30 rfl) fun _ => ?_; refine R.eff rfl rfl rfl (Eff.loc ok (Ef.call rfl CB39 rfl ((f39_ok hS).mono ?_))); rintro _ h_5 ⟨v64_0_0, v64_0_1, v64_0_2, v64_0_3, v64_1, rfl, hS⟩; refine fun ok => ⟨noChk, ?_⟩; refine Xm rfl rfl rfl rfl fun _ => ?_; refine Xk rfl rfl (Lk.extract rfl rfl rfl) fun _ => ?_; refine Xk rfl rfl (Lk.extract rfl rfl rfl) fun _ => ?_; refine R.var (blk := .row ⟨[(i6 0), (i6 0), (i6 0), (.string ⟨#[]⟩)], 4, 61, true, true⟩) ok rfl rfl rfl (Ac.alloc rfl T61) rfl rfl fun b11 ok => ?_; refine R.effN rfl rfl rfl (Ef.storeLoc (i := 0) (vs := [(i6 v64_0_0), (i6 v64_0_1), (i6 v64_0_2), (.string v64_0_3)]) (cs := [(i6 v64_0_0), (i6 v64_0_1), (i6 v64_0_2), (.string v64_0_3)]) (l' := [(b11, .row ⟨[(i6 v64_0_0), (i6 v64_0_1), (i6 v64_0_2), (.string v64_0_3)], 4, 61, true, true⟩), (b7, .row ⟨[(.slice c7_0.a c7_0.l c7_0.c), (.slice c7_1.a c7_1.l c7_1.c)], 2, 33, true, true⟩), (b2, .row ⟨[(.slice c2_0_1.a c2_0_1.l c2_0_1.c), (.slice c2_1_1.a c2_1_1.l c2_1_1.c)], 2, 33, true, true⟩)]) ok rfl T61 rfl rfl rfl rfl rfl rfl rfl rfl rfl rfl fun ok => ⟨noChk, ?_⟩); refine Xa rfl rfl rfl rfl fun _ => ?_; refine R.nil (EvC.seq (EvC.seq (Xr [.look 0, .look 1] (Xm rfl rfl rfl rfl fun _ => Xk rfl rfl (Lk.arith rfl rfl rfl rfl) fun _ => R.nil ?_))))
              by_cases e19 : (v64_1 != 0) = true
              · rw [if_pos e19] at hS; refine EvC.condT rfl e19 (EvC.seq (Xr [.look 0, .look 1, .look 2, .look 3, .eff 4 [], .look 5, .look 6] (Xk rfl rfl (Lk.build (cs := [(.slice none 0 0), (.slice none 0 0)]) (pl := [(0, 1), (1, 1)]) rfl Tryz.underlying33 T33 (PlacesL.places (.cons T30 (.cons T31 PlacesL.nil))) rfl rfl) fun _ => ?_))); refine Xm rfl rfl rfl rfl fun _ => ?_; refine Xk rfl rfl (Lk.arith rfl rfl rfl rfl) fun _ => ?_; refine Xm rfl rfl rfl rfl fun _ => ?_; refine R.effN rfl rfl rfl (Ef.storeLoc (i := 2) (vs := [(.slice none 0 0), (.slice none 0 0)]) (cs := [(.slice none 0 0), (.slice none 0 0)]) (l' := [(b11, .row ⟨[(i6 v64_0_0), (i6 v64_0_1), (i6 v64_0_2), (.string v64_0_3)], 4, 61, true, true⟩), (b7, .row ⟨[(.slice c7_0.a c7_0.l c7_0.c), (.slice c7_1.a c7_1.l c7_1.c)], 2, 33, true, true⟩), (b2, .row ⟨[(.slice none 0 0), (.slice none 0 0)], 2, 33, true, true⟩)]) ok rfl T33 rfl rfl rfl rfl rfl rfl rfl rfl rfl rfl fun ok => ⟨noChk, ?_⟩); refine Xa rfl rfl rfl rfl fun _ => ?_; refine Xa rfl rfl rfl rfl fun _ => ?_; refine R.nil (EvC.ret ?_); exact ⟨.inr rfl, _, _, (.cons (.cells rfl (fun w => Und.agg Tryz.underlying33 w) (fun w => T33.size_ w) (H.rdn_loc ok (i := 2) rfl rfl rfl)) (.cons (.tmp rfl) (.cons (.tmp rfl) .nil))), ok.le, _, _, _, _, rfl, hS⟩
              · rw [if_neg e19] at hS; replace e19 := eq_false_of_ne_true e19; refine EvC.condF rfl e19 (EvC.skip (EvC.seq (Xr [.look 0, .look 1, .look 2, .look 3, .look 4, .look 5] (Xm rfl rfl rfl rfl fun _ => ?_)))); refine Xk (v := (.pointer (some ⟨b11, 3, none⟩))) rfl rfl (Lk.fldAddr rfl Tryz.underlying61 rfl rfl T9 rfl rfl rfl) fun _ => ?_; refine Xk rfl rfl (Lk.load1 (v := (.string v64_0_3)) rfl Tryz.underlying9 rfl rfl (H.rd_loc ok (i := 0) rfl rfl)) fun _ => ?_; refine Xk rfl rfl (Lk.lenS rfl Tryz.underlying9 rfl) fun _ => ?_; refine Xk rfl rfl (Lk.arith rfl rfl rfl rfl) fun _ => ?_; refine Xa rfl rfl rfl rfl fun _ => ?_; refine R.nil (EvC.seq (Xr [.look 0, .look 1, .look 2, .alc 3, .eff 4 [], .look 5, .eff 6 []] (Xk (v := (.pointer (some ⟨b7, 1, none⟩))) rfl rfl (Lk.fldAddr rfl Tryz.underlying33 rfl rfl T31 rfl rfl rfl) fun _ => Xk rfl rfl (Lk.load1 (v := (.slice c7_1.a c7_1.l c7_1.c)) rfl Tryz.underlying31 rfl rfl (H.rd_loc ok (i := 1) rfl rfl)) fun _ => Xk rfl rfl (Lk.loadN (vs := [(i6 v64_0_0), (i6 v64_0_1), (i6 v64_0_2), (.string v64_0_3)]) rfl Tryz.underlying61 rfl T61 rfl (H.rdn_loc ok (i := 0) rfl rfl rfl)) fun _ => R.appL (cs := [(i6 v64_0_0), (i6 v64_0_1), (i6 v64_0_2), (.string v64_0_3)]) ok rfl rfl rfl rfl rfl rfl rfl rfl Tryz.underlying31 T61 rfl (by decide) (by decide) rfl rfl rfl rfl rfl (fun _ => rfl) hS ?_))); intro bb81 v82 h_6 hS ok; refine ⟨noChk, ?_⟩; refine Xk (v := (.pointer (some ⟨b7, 1, none⟩))) rfl rfl (Lk.fldAddr rfl Tryz.underlying33 rfl rfl T31 rfl rfl rfl) fun _ => ?_; refine R.effN rfl rfl rfl (Ef.storeLoc (i := 1) (vs := [(.slice v82.a v82.l v82.c)]) (cs := [(.slice c7_0.a c7_0.l c7_0.c), (.slice v82.a v82.l v82.c)]) (l' := [(b11, .row ⟨[(i6 v64_0_0), (i6 v64_0_1), (i6 v64_0_2), (.string v64_0_3)], 4, 61, true, true⟩), (b7, .row ⟨[(.slice c7_0.a c7_0.l c7_0.c), (.slice v82.a v82.l v82.c)], 2, 33, true, true⟩), (b2, .row ⟨[(.slice c2_0_1.a c2_0_1.l c2_0_1.c), (.slice c2_1_1.a c2_1_1.l c2_1_1.c)], 2, 33, true, true⟩)]) ok rfl T31 rfl rfl rfl rfl rfl rfl rfl rfl rfl rfl fun ok => ⟨noChk, ?_⟩); refine R.nil (EvC.seq (Xr [.look 0, .look 1, .look 2, .look 3, .look 4, .look 5] (Xk (v := (.pointer (some ⟨b7, 1, none⟩))) rfl rfl (Lk.fldAddr rfl Tryz.underlying33 rfl rfl T31 rfl rfl rfl) fun _ => Xk rfl rfl (Lk.load1 (v := (.slice v82.a v82.l v82.c)) rfl Tryz.underlying31 rfl rfl (H.rd_loc ok (i := 1) rfl rfl)) fun _ => Xk rfl rfl (Lk.len rfl Tryz.underlying31 rfl) fun _ => Xm rfl rfl rfl rfl fun _ => Xk rfl rfl (Lk.max2 rfl rfl rfl) fun _ => Xk rfl rfl (Lk.arith rfl rfl rfl rfl) fun _ => R.nil ?_)))
                by_cases e20 : (decide ((if (IntKind.wrap .i64 (v8 + (ByteArray.size v64_0_3 : Int))) > (v82.l : Int) then (IntKind.wrap .i64 (v8 + (ByteArray.size v64_0_3 : Int))) else (v82.l : Int)) > 4096)) = true
                · rw [if_pos e20] at hS; refine EvC.condT rfl e20 (EvC.seq (Xr [.look 0, .look 1, .look 2, .eff 3 [], .look 4, .look 5] (Xk rfl rfl (Lk.build (cs := [(.slice none 0 0), (.slice none 0 0)]) (pl := [(0, 1), (1, 1)]) rfl Tryz.underlying33 T33 (PlacesL.places (.cons T30 (.cons T31 PlacesL.nil))) rfl rfl) fun _ => ?_))); refine Xm rfl rfl rfl rfl fun _ => ?_; refine Xk rfl rfl (Lk.arith rfl rfl rfl rfl) fun _ => ?_; refine R.effN rfl rfl rfl (Ef.storeLoc (i := 2) (vs := [(.slice none 0 0), (.slice none 0 0)]) (cs := [(.slice none 0 0), (.slice none 0 0)]) (l' := [(b11, .row ⟨[(i6 v64_0_0), (i6 v64_0_1), (i6 v64_0_2), (.string v64_0_3)], 4, 61, true, true⟩), (b7, .row ⟨[(.slice c7_0.a c7_0.l c7_0.c), (.slice v82.a v82.l v82.c)], 2, 33, true, true⟩), (b2, .row ⟨[(.slice none 0 0), (.slice none 0 0)], 2, 33, true, true⟩)]) ok rfl T33 rfl rfl rfl rfl rfl rfl rfl rfl rfl rfl fun ok => ⟨noChk, ?_⟩); refine Xa rfl rfl rfl rfl fun _ => ?_; refine Xa rfl rfl rfl rfl fun _ => ?_; refine R.nil (EvC.ret ?_); exact ⟨.inr rfl, _, _, (.cons (.cells rfl (fun w => Und.agg Tryz.underlying33 w) (fun w => T33.size_ w) (H.rdn_loc ok (i := 2) rfl rfl rfl)) (.cons (.tmp rfl) (.cons (.tmp rfl) .nil))), ok.le, _, _, _, _, rfl, hS⟩
                · rw [if_neg e20] at hS; replace e20 := eq_false_of_ne_true e20; refine EvC.condF rfl e20 (EvC.skip (Xr [.look 0, .look 1] (Xk rfl rfl (Lk.arith rfl rfl rfl rfl) fun _ => ?_))); refine Xm rfl rfl rfl rfl fun _ => ?_; refine R.nil ?_; exact hX ((IntKind.wrap .i64 (v8 + (ByteArray.size v64_0_3 : Int))), (IntKind.wrap .i64 (v43 + 1)), c7_0, v82, c2_0_1, c2_1_1) _ _ _ hS (ok.sub (.cons _ (.cons_cons _ (.cons_cons _ sl0)))) (lq rfl (lq rfl (lq rfl (lq rfl (lq rfl (lq rfl (lq rfl (lz _)))))))) (H.add_sub ok (.cons _ (.cons_cons _ (.cons_cons _ sl0))))
          · rw [if_neg e12] at hS; replace e12 := eq_false_of_ne_true e12; refine EvC.condF rfl e12 (EvC.exit ?_); exact hIh_3 (c2_0_1, c2_1_1) _ _ _ (lq rfl (lq rfl (lz _))) (ok.sub (.cons _ (.cons_cons _ sl0))) (H.add_sub ok (.cons _ (.cons_cons _ sl0))) hS

theorem f48_ok {p0 : Int} {h : H} {K : Bool → H → Prop} (hS : S48 p0 h K) : ACall Tryz.prog 48 ([(i6 p0)] : List Value).toArray h (fun r h' => ∃ r0 : Bool, r = tup [(.bool r0)] ∧ K r0 h') := by
  refine ACall.enter (fn := Tryz.f48) Tryz.func48 rfl (Nat.le_of_ble_eq_true rfl) ?_; unfold S48 at hS; have ok := Lok.nil h; refine EvC.seq (Xr [.look 0] (Xa rfl rfl rfl rfl fun _ => ?_)); refine R.nil (EvC.join (σ := Bool) (fun s => (Ep E0 2 (.bool s))) (fun s => []) (fun s h_1 => S48_j1 K s h_1) ?_ (fun Ih_1 hIh_1 => ?_))
  · intro v2 h_1 ok hS; replace hS : S48_j1 K v2 h_1 := hS; unfold S48_j1 at hS; refine EvC.ret ?_; exact ⟨.inr rfl, _, _, (.cons (.tmp rfl) .nil), ok.le, _, rfl, hS⟩
  · refine Xr [.look 0, .look 1, .look 2, .look 3, .look 4, .look 5, .look 6] (Xm rfl rfl rfl rfl fun _ => ?_); refine Xk rfl rfl (Lk.arith rfl rfl rfl rfl) fun _ => ?_; refine Xm rfl rfl rfl rfl fun _ => ?_
    by_cases e1 : (decide (p0 ≥ 0)) = true
    · refine R.lookT rfl rfl rfl rfl e1 rfl (Lk.move rfl rfl) fun _ => R.lookT rfl rfl rfl rfl e1 rfl (Lk.arith rfl rfl rfl rfl) fun _ => Xk rfl rfl (Lk.pick rfl rfl (fun _ => rfl) (fun e => by rw [e1] at e; cases e)) fun _ => Xa rfl rfl rfl rfl fun _ => R.nil ?_; exact hIh_1 ((decide (p0 ≥ 0)) && (decide (p0 ≤ 3))) _ _ _ (lq (by rw [e1]; rfl) (lz _)) (ok.sub sl0) (H.add_sub ok sl0) hS
    · replace e1 := eq_false_of_ne_true e1; refine R.lookF rfl rfl rfl rfl e1 rfl fun _ => R.lookF rfl rfl rfl rfl e1 rfl fun _ => Xk rfl rfl (Lk.pick rfl rfl (fun e => by rw [e1] at e; cases e) (fun _ => rfl)) fun _ => Xa rfl rfl rfl rfl fun _ => R.nil ?_; exact hIh_1 ((decide (p0 ≥ 0)) && (decide (p0 ≤ 3))) _ _ _ (lq (by rw [e1]; rfl) (lz _)) (ok.sub sl0) (H.add_sub ok sl0) hS

theorem f18_ok {p0_0 : Sl} {p0_1 : Sl} {h : H} {K : Int → H → Prop} (hS : S18 p0_0 p0_1 h K) : ACall Tryz.prog 18 ([(.agg ([(.slice p0_0.a p0_0.l p0_0.c), (.slice p0_1.a p0_1.l p0_1.c)] : List Value).toArray)] : List Value).toArray h (fun r h' => ∃ r0 : Int, r = tup [(i6 r0)] ∧ K r0 h') := by
  refine ACall.enter (fn := Tryz.f18) Tryz.func18 rfl (Nat.le_of_ble_eq_true rfl) ?_; unfold S18 at hS; have ok := Lok.nil h; refine EvC.seq (Xr [.alc 0, .look 1] (R.var (blk := .row ⟨[(.slice p0_0.a p0_0.l p0_0.c), (.slice p0_1.a p0_1.l p0_1.c)], 2, 33, true, true⟩) ok rfl rfl rfl (Ac.box rfl rfl) rfl rfl fun b1 ok => ?_)); refine Xa rfl rfl rfl rfl fun _ => ?_; refine R.nil (EvC.seq (Xr [.look 0] (Xa rfl rfl rfl rfl fun _ => R.nil (EvC.join (σ := Int) (fun s => (Ep (Ep E0 3 (i6 s)) 1 (.pointer (some ⟨b1, 0, none⟩)))) (fun s => [(b1, .row ⟨[(.slice p0_0.a p0_0.l p0_0.c), (.slice p0_1.a p0_1.l p0_1.c)], 2, 33, true, true⟩)]) (fun s h_1 => S18_j5 p0_0 p0_1 K s h_1) ?_ (fun Ih_1 hIh_1 => ?_)))))
  · intro v3 h_1 ok hS; replace hS : S18_j5 p0_0 p0_1 K v3 h_1 := hS; unfold S18_j5 at hS; refine EvC.seq (EvC.seq (Xr [.look 0, .look 1, .look 2, .look 3, .look 4, .look 5, .look 6, .look 7, .look 8] (Xk (v := (.pointer (some ⟨b1, 0, none⟩))) rfl rfl (Lk.fldAddr rfl Tryz.underlying33 rfl rfl T30 rfl rfl rfl) fun _ => ?_))); refine Xk rfl rfl (Lk.load1 (v := (.slice p0_0.a p0_0.l p0_0.c)) rfl Tryz.underlying30 rfl rfl (H.rd_loc ok (i := 0) rfl rfl)) fun _ => ?_; refine Xk rfl rfl (Lk.len rfl Tryz.underlying30 rfl) fun _ => ?_; refine Xk (v := (.pointer (some ⟨b1, 1, none⟩))) rfl rfl (Lk.fldAddr rfl Tryz.underlying33 rfl rfl T31 rfl rfl rfl) fun _ => ?_; refine Xk rfl rfl (Lk.load1 (v := (.slice p0_1.a p0_1.l p0_1.c)) rfl Tryz.underlying31 rfl rfl (H.rd_loc ok (i := 0) rfl rfl)) fun _ => ?_; refine Xk rfl rfl (Lk.len rfl Tryz.underlying31 rfl) fun _ => ?_; refine Xm rfl rfl rfl rfl fun _ => ?_; refine Xk rfl rfl (Lk.max3 rfl rfl rfl rfl) fun _ => ?_; refine Xk rfl rfl (Lk.arith rfl rfl rfl rfl) fun _ => ?_; refine R.nil ?_
    by_cases e1 : (decide ((if v3 > (if (p0_1.l : Int) > (p0_0.l : Int) then (p0_1.l : Int) else (p0_0.l : Int)) then v3 else (if (p0_1.l : Int) > (p0_0.l : Int) then (p0_1.l : Int) else (p0_0.l : Int))) > 4096)) = true
    · rw [if_pos e1] at hS; refine EvC.condT rfl e1 (EvC.seq (Xr [.look 0] (Xa rfl rfl rfl rfl fun _ => ?_))); refine R.nil (EvC.ret ?_); exact ⟨.inr rfl, _, _, (.cons (.tmp rfl) .nil), ok.le, _, rfl, hS⟩
    · rw [if_neg e1] at hS; replace e1 := eq_false_of_ne_true e1; refine EvC.condF rfl e1 (EvC.skip (EvC.join (σ := Unit) (fun s => E0) (fun s => []) (fun s h_2 => S18_j1 K h_2) ?_ (fun Ih_2 hIh_2 => ?_)))
      · rintro ⟨⟩ h_2 ok hS; replace hS : S18_j1 K h_2 := hS; unfold S18_j1 at hS; refine EvC.seq (Xr [.look 0] (Xa rfl rfl rfl rfl fun _ => ?_)); refine R.nil (EvC.ret ?_); exact ⟨.inr rfl, _, _, (.cons (.tmp rfl) .nil), ok.le, _, rfl, hS⟩
      · refine EvC.seq (Xr [.look 0, .look 1, .look 2, .look 3] (Xk (v := (.pointer (some ⟨b1, 1, none⟩))) rfl rfl (Lk.fldAddr rfl Tryz.underlying33 rfl rfl T31 rfl rfl rfl) fun _ => ?_)); refine Xk rfl rfl (Lk.load1 (v := (.slice p0_1.a p0_1.l p0_1.c)) rfl Tryz.underlying31 rfl rfl (H.rd_loc ok (i := 0) rfl rfl)) fun _ => ?_; refine Xk rfl rfl (Lk.len rfl Tryz.underlying31 rfl) fun _ => ?_; refine Xm rfl rfl rfl rfl fun _ => ?_; refine R.nil (EvC.block (EvC.loop (LoopC.lfp (σ := Int) (fun s => (Ep (Ep (Ep (Ep E0 34 (i6 s)) 33 (i6 (p0_1.l : Int))) 32 (.slice p0_1.a p0_1.l p0_1.c)) 1 (.pointer (some ⟨b1, 0, none⟩)))) (fun s => [(b1, .row ⟨[(.slice p0_0.a p0_0.l p0_0.c), (.slice p0_1.a p0_1.l p0_1.c)], 2, 33, true, true⟩)]) (fun X hX => ?_) hS (ok.sub (.cons_cons _ sl0)) (lq rfl (lq rfl (lq rfl (lq rfl (lz _))))) (H.add_sub ok (.cons_cons _ sl0))))); intro v34 h_3 hS ok; replace hS : S18_l4 p0_0 p0_1 K X v34 h_3 := hS; unfold S18_l4 at hS; refine EvC.seq (Xr [.look 0] (Xk rfl rfl (Lk.arith rfl rfl rfl rfl) fun _ => ?_)); refine R.nil (EvC.seq ?_)
        by_cases e2 : (decide (v34 < (p0_1.l : Int))) = true
        · rw [if_pos e2] at hS; refine EvC.condT rfl e2 (EvC.skip (EvC.seq (EvC.block (EvC.seq (Xr [.look 0, .look 1, .alc 2, .eff 3 []] ?_)))))
          obtain ⟨a36, e3, e4, e5, hS⟩ := hS
          refine Xk rfl rfl (Lk.ixAddr rfl Tryz.underlying31 T61 rfl e3 rfl e4 e5) fun _ => ?_
          obtain ⟨v37_0, v37_1, v37_2, v37_3, e6, hS⟩ := hS
          refine Xk rfl rfl (Look.loc ok (Lk.loadN rfl Tryz.underlying61 rfl T61 rfl e6)) fun _ => ?_; refine R.var (blk := .row ⟨[(i6 0), (i6 0), (i6 0), (.string ⟨#[]⟩)], 4, 61, true, true⟩) ok rfl rfl rfl (Ac.alloc rfl T61) rfl rfl fun b7 ok => ?_; refine R.effN rfl rfl rfl (Ef.storeLoc (i := 0) (vs := [(i6 v37_0), (i6 v37_1), (i6 v37_2), (.string v37_3)]) (cs := [(i6 v37_0), (i6 v37_1), (i6 v37_2), (.string v37_3)]) (l' := [(b7, .row ⟨[(i6 v37_0), (i6 v37_1), (i6 v37_2), (.string v37_3)], 4, 61, true, true⟩), (b1, .row ⟨[(.slice p0_0.a p0_0.l p0_0.c), (.slice p0_1.a p0_1.l p0_1.c)], 2, 33, true, true⟩)]) ok rfl T61 rfl rfl rfl rfl rfl rfl rfl rfl rfl rfl fun ok => ⟨noChk, ?_⟩); refine R.nil (EvC.seq (EvC.join (σ := Bool) (fun s => (Ep (Ep (Ep (Ep (Ep (Ep E0 54 (.bool s)) 34 (i6 v34)) 33 (i6 (p0_1.l : Int))) 32 (.slice p0_1.a p0_1.l p0_1.c)) 7 (.pointer (some ⟨b7, 0, none⟩))) 1 (.pointer (some ⟨b1, 0, none⟩)))) (fun s => [(b7, .row ⟨[(i6 v37_0), (i6 v37_1), (i6 v37_2), (.string v37_3)], 4, 61, true, true⟩), (b1, .row ⟨[(.slice p0_0.a p0_0.l p0_0.c), (.slice p0_1.a p0_1.l p0_1.c)], 2, 33, true, true⟩)]) (fun s h_4 => S18_j3 K v34 X v37_2 v37_3 s h_4) ?_ (fun Ih_4 hIh_4 => ?_)))
          · intro v54 h_4 ok hS; replace hS : S18_j3 K v34 X v37_2 v37_3 v54 h_4 := hS; unfold S18_j3 at hS
            by_cases e7 : v54 = true
            · rw [if_pos e7] at hS; refine EvC.condT rfl e7 (EvC.seq (Xr [.look 0] (Xa rfl rfl rfl rfl fun _ => ?_))); refine R.nil (EvC.ret ?_); exact ⟨.inr rfl, _, _, (.cons (.tmp rfl) .nil), ok.le, _, rfl, hS⟩
            · rw [if_neg e7] at hS; replace e7 := eq_false_of_ne_true e7; refine EvC.condF rfl e7 (EvC.skip (EvC.join (σ := Bool) (fun s => (Ep (Ep (Ep (Ep (Ep E0 64 (.bool s)) 34 (i6 v34)) 33 (i6 (p0_1.l : Int))) 32 (.slice p0_1.a p0_1.l p0_1.c)) 1 (.pointer (some ⟨b1, 0, none⟩)))) (fun s => [(b1, .row ⟨[(.slice p0_0.a p0_0.l p0_0.c), (.slice p0_1.a p0_1.l p0_1.c)], 2, 33, true, true⟩)]) (fun s h_5 => S18_j2 K v34 X s h_5) ?_ (fun Ih_5 hIh_5 => ?_)))
              · intro v64 h_5 ok hS; replace hS : S18_j2 K v34 X v64 h_5 := hS; unfold S18_j2 at hS
                by_cases e8 : v64 = true
                · rw [if_pos e8] at hS; refine EvC.condT rfl e8 (EvC.seq (Xr [.look 0] (Xa rfl rfl rfl rfl fun _ => ?_))); refine R.nil (EvC.ret ?_); exact ⟨.inr rfl, _, _, (.cons (.tmp rfl) .nil), ok.le, _, rfl, hS⟩
                · rw [if_neg e8] at hS; replace e8 := eq_false_of_ne_true e8; refine EvC.condF rfl e8 (EvC.skip (Xr [.look 0, .look 1] (Xk rfl rfl (Lk.arith rfl rfl rfl rfl) fun _ => ?_))); refine Xm rfl rfl rfl rfl fun _ => ?_; refine R.nil ?_; exact hX (IntKind.wrap .i64 (v34 + 1)) _ _ _ hS (ok.sub (.cons_cons _ sl0)) (lq rfl (lq rfl (lq rfl (lq rfl (lz _))))) (H.add_sub ok (.cons_cons _ sl0))
              · refine Xr [.look 0, .look 1, .eff 2 [], .look 3, .look 4, .look 5, .look 6, .eff 7 [], .look 8, .look 9] (Xk (v := (.pointer (some ⟨b7, 2, none⟩))) rfl rfl (Lk.fldAddr rfl Tryz.underlying61 rfl rfl T3 rfl rfl rfl) fun _ => ?_); refine Xk rfl rfl (Lk.load1 (v := (i6 v37_2)) rfl Tryz.underlying3 rfl rfl (H.rd_loc ok (i := 0) rfl rfl)) fun _ => ?_; refine R.eff rfl rfl rfl (Eff.loc ok (Ef.call rfl CB48 rfl ((f48_ok hS).mono ?_))); rintro _ h_6 ⟨v57, rfl, hS⟩; refine fun ok => ⟨noChk, ?_⟩; refine Xk rfl rfl (Lk.not rfl rfl) fun _ => ?_; refine Xm rfl rfl rfl rfl fun _ => ?_
                by_cases e9 : (!v57) = true
                · rw [if_pos e9] at hS; refine R.lookF rfl rfl rfl rfl e9 rfl fun _ => R.lookF rfl rfl rfl rfl e9 rfl fun _ => R.effF rfl rfl rfl rfl e9 rfl ?_; refine R.lookF rfl rfl rfl rfl e9 rfl fun _ => Xk rfl rfl (Lk.pick rfl rfl (fun _ => rfl) (fun e => by rw [e9] at e; cases e)) fun _ => R.nil ?_; exact hIh_5 true _ _ _ (lq rfl (lq rfl (lq rfl (lq rfl (lq rfl (lz _)))))) (ok.sub (.cons _ (.cons_cons _ sl0))) (H.add_sub ok (.cons _ (.cons_cons _ sl0))) hS
                · rw [if_neg e9] at hS; replace e9 := eq_false_of_ne_true e9; refine R.lookT (v := (.pointer (some ⟨b7, 3, none⟩))) rfl rfl rfl rfl e9 rfl (Lk.fldAddr rfl Tryz.underlying61 rfl rfl T9 rfl rfl rfl) fun _ => R.lookT rfl rfl rfl rfl e9 rfl (Lk.load1 (v := (.string v37_3)) rfl Tryz.underlying9 rfl rfl (H.rd_loc ok (i := 0) rfl rfl)) fun _ => R.effT rfl rfl rfl rfl e9 rfl (Eff.loc ok (Ef.call rfl CB49 rfl ((f49_ok hS).mono ?_))); rintro _ h_7 ⟨v62, rfl, hS⟩; refine fun ok => ⟨noChk, ?_⟩; refine R.lookT rfl rfl rfl rfl e9 rfl (Lk.not rfl rfl) fun _ => Xk rfl rfl (Lk.pick rfl rfl (fun e => by rw [e9] at e; cases e) (fun _ => rfl)) fun _ => R.nil ?_; exact hIh_5 (!v62) _ _ _ (lq rfl (lq rfl (lq rfl (lq rfl (lq rfl (lz _)))))) (ok.sub (.cons _ (.cons_cons _ sl0))) (H.add_sub ok (.cons _ (.cons_cons _ sl0))) hS
          · refine Xr [.look 0, .look 1, .look 2, .look 3, .look 4, .look 5, .look 6, .look 7, .look 8, .look 9, .look 10, .look 11, .look 12, .look 13, .look 14, .look 15, .look 16] (Xk (v := (.pointer (some ⟨b7, 0, none⟩))) rfl rfl (Lk.fldAddr rfl Tryz.underlying61 rfl rfl T3 rfl rfl rfl) fun _ => ?_); refine Xk rfl rfl (Lk.load1 (v := (i6 v37_0)) rfl Tryz.underlying3 rfl rfl (H.rd_loc ok (i := 0) rfl rfl)) fun _ => ?_; refine Xk (v := (.pointer (some ⟨b7, 1, none⟩))) rfl rfl (Lk.fldAddr rfl Tryz.underlying61 rfl rfl T3 rfl rfl rfl) fun _ => ?_; refine Xk rfl rfl (Lk.load1 (v := (i6 v37_1)) rfl Tryz.underlying3 rfl rfl (H.rd_loc ok (i := 0) rfl rfl)) fun _ => ?_; refine Xk rfl rfl (Lk.min2 rfl rfl rfl) fun _ => ?_; refine Xk rfl rfl (Lk.arith rfl rfl rfl rfl) fun _ => ?_; refine Xm rfl rfl rfl rfl fun _ => ?_
            by_cases e10 : (decide ((if v37_1 < v37_0 then v37_1 else v37_0) < 0)) = true
            · refine R.lookF rfl rfl rfl rfl e10 rfl fun _ => R.lookF rfl rfl rfl rfl e10 rfl fun _ => R.lookF rfl rfl rfl rfl e10 rfl fun _ => R.lookF rfl rfl rfl rfl e10 rfl fun _ => R.lookF rfl rfl rfl rfl e10 rfl fun _ => R.lookF rfl rfl rfl rfl e10 rfl fun _ => R.lookF rfl rfl rfl rfl e10 rfl fun _ => R.lookF rfl rfl rfl rfl e10 rfl fun _ => R.lookF rfl rfl rfl rfl e10 rfl fun _ => Xk rfl rfl (Lk.pick rfl rfl (fun _ => rfl) (fun e => by rw [e10] at e; cases e)) fun _ => R.nil ?_; exact hIh_4 ((decide ((if v37_1 < v37_0 then v37_1 else v37_0) < 0)) || (decide ((if v37_1 > v37_0 then v37_1 else v37_0) ≥ (p0_0.l : Int)))) _ _ _ (lq rfl (lq rfl (lq rfl (lq rfl (lq rfl (lq (by rw [e10]; rfl) (lz _))))))) (ok.sub (.cons_cons _ (.cons_cons _ sl0))) (H.add_sub ok (.cons_cons _ (.cons_cons _ sl0))) hS
            · replace e10 := eq_false_of_ne_true e10; refine R.lookT (v := (.pointer (some ⟨b7, 0, none⟩))) rfl rfl rfl rfl e10 rfl (Lk.fldAddr rfl Tryz.underlying61 rfl rfl T3 rfl rfl rfl) fun _ => R.lookT rfl rfl rfl rfl e10 rfl (Lk.load1 (v := (i6 v37_0)) rfl Tryz.underlying3 rfl rfl (H.rd_loc ok (i := 0) rfl rfl)) fun _ => R.lookT (v := (.pointer (some ⟨b7, 1, none⟩))) rfl rfl rfl rfl e10 rfl (Lk.fldAddr rfl Tryz.underlying61 rfl rfl T3 rfl rfl rfl) fun _ => R.lookT rfl rfl rfl rfl e10 rfl (Lk.load1 (v := (i6 v37_1)) rfl Tryz.underlying3 rfl rfl (H.rd_loc ok (i := 0) rfl rfl)) fun _ => R.lookT rfl rfl rfl rfl e10 rfl (Lk.max2 rfl rfl rfl) fun _ => R.lookT (v := (.pointer (some ⟨b1, 0, none⟩))) rfl rfl rfl rfl e10 rfl (Lk.fldAddr rfl Tryz.underlying33 rfl rfl T30 rfl rfl rfl) fun _ => R.lookT rfl rfl rfl rfl e10 rfl (Lk.load1 (v := (.slice p0_0.a p0_0.l p0_0.c)) rfl Tryz.underlying30 rfl rfl (H.rd_loc ok (i := 1) rfl rfl)) fun _ => R.lookT rfl rfl rfl rfl e10 rfl (Lk.len rfl Tryz.underlying30 rfl) fun _ => R.lookT rfl rfl rfl rfl e10 rfl (Lk.arith rfl rfl rfl rfl) fun _ => Xk rfl rfl (Lk.pick rfl rfl (fun e => by rw [e10] at e; cases e) (fun _ => rfl)) fun _ => R.nil ?_; exact hIh_4 ((decide ((if v37_1 < v37_0 then v37_1 else v37_0) < 0)) || (decide ((if v37_1 > v37_0 then v37_1 else v37_0) ≥ (p0_0.l : Int)))) _ _ _ (lq rfl (lq rfl (lq rfl (lq rfl (lq rfl (lq (by rw [e10]; rfl) (lz _))))))) (ok.sub (.cons_cons _ (.cons_cons _ sl0))) (H.add_sub ok (.cons_cons _ (.cons_cons _ sl0))) hS
        · rw [if_neg e2] at hS; replace e2 := eq_false_of_ne_true e2; refine EvC.condF rfl e2 (EvC.exit ?_); exact hIh_2 () _ _ _ (lz _) (ok.sub (.cons _ sl0)) (H.add_sub ok (.cons _ sl0)) hS
  · refine EvC.seq (Xr [.look 0, .look 1, .look 2, .look 3] (Xk (v := (.pointer (some ⟨b1, 1, none⟩))) rfl rfl (Lk.fldAddr rfl Tryz.underlying33 rfl rfl T31 rfl rfl rfl) fun _ => ?_)); refine Xk rfl rfl (Lk.load1 (v := (.slice p0_1.a p0_1.l p0_1.c)) rfl Tryz.underlying31 rfl rfl (H.rd_loc ok (i := 0) rfl rfl)) fun _ => ?_; refine Xk rfl rfl (Lk.len rfl Tryz.underlying31 rfl) fun _ => ?_; refine Xm rfl rfl rfl rfl fun _ => ?_; refine R.nil (EvC.block (EvC.loop (LoopC.lfp (σ := Int × Int) (fun s => (Ep (Ep (Ep (Ep (Ep E0 11 (i6 s.2)) 10 (i6 (p0_1.l : Int))) 9 (.slice p0_1.a p0_1.l p0_1.c)) 3 (i6 s.1)) 1 (.pointer (some ⟨b1, 0, none⟩)))) (fun s => [(b1, .row ⟨[(.slice p0_0.a p0_0.l p0_0.c), (.slice p0_1.a p0_1.l p0_1.c)], 2, 33, true, true⟩)]) (fun X_1 hX_1 => ?_) hS (ok.sub (.cons_cons _ sl0)) (lq rfl (lq rfl (lq rfl (lq rfl (lq rfl (lz _)))))) (H.add_sub ok (.cons_cons _ sl0))))); rintro ⟨v3_1, v11⟩ h_8 hS ok; replace hS : S18_l6 p0_0 p0_1 K X_1 v3_1 v11 h_8 := hS; unfold S18_l6 at hS; refine EvC.seq (Xr [.look 0] (Xk rfl rfl (Lk.arith rfl rfl rfl rfl) fun _ => ?_)); refine R.nil (EvC.seq ?_)
    by_cases e11 : (decide (v11 < (p0_1.l : Int))) = true
    · rw [if_pos e11] at hS; refine EvC.condT rfl e11 (EvC.skip (EvC.seq (EvC.block (EvC.seq (Xr [.look 0, .look 1, .alc 2, .eff 3 []] ?_)))))
      obtain ⟨a13, e12, e13, e14, hS⟩ := hS
      refine Xk rfl rfl (Lk.ixAddr rfl Tryz.underlying31 T61 rfl e12 rfl e13 e14) fun _ => ?_
      obtain ⟨v14_0, v14_1, v14_2, v14_3, e15, hS⟩ := hS
      refine Xk rfl rfl (Look.loc ok (Lk.loadN rfl Tryz.underlying61 rfl T61 rfl e15)) fun _ => ?_; refine R.var (blk := .row ⟨[(i6 0), (i6 0), (i6 0), (.string ⟨#[]⟩)], 4, 61, true, true⟩) ok rfl rfl rfl (Ac.alloc rfl T61) rfl rfl fun b5 ok => ?_; refine R.effN rfl rfl rfl (Ef.storeLoc (i := 0) (vs := [(i6 v14_0), (i6 v14_1), (i6 v14_2), (.string v14_3)]) (cs := [(i6 v14_0), (i6 v14_1), (i6 v14_2), (.string v14_3)]) (l' := [(b5, .row ⟨[(i6 v14_0), (i6 v14_1), (i6 v14_2), (.string v14_3)], 4, 61, true, true⟩), (b1, .row ⟨[(.slice p0_0.a p0_0.l p0_0.c), (.slice p0_1.a p0_1.l p0_1.c)], 2, 33, true, true⟩)]) ok rfl T61 rfl rfl rfl rfl rfl rfl rfl rfl rfl rfl fun ok => ⟨noChk, ?_⟩); refine R.nil (Xr [.look 0, .look 1, .look 2, .look 3, .look 4, .look 5, .look 6] (Xm rfl rfl rfl rfl fun _ => Xk (v := (.pointer (some ⟨b5, 3, none⟩))) rfl rfl (Lk.fldAddr rfl Tryz.underlying61 rfl rfl T9 rfl rfl rfl) fun _ => Xk rfl rfl (Lk.load1 (v := (.string v14_3)) rfl Tryz.underlying9 rfl rfl (H.rd_loc ok (i := 0) rfl rfl)) fun _ => Xk rfl rfl (Lk.lenS rfl Tryz.underlying9 rfl) fun _ => Xk rfl rfl (Lk.min2 rfl rfl rfl) fun _ => Xk rfl rfl (Lk.arith rfl rfl rfl rfl) fun _ => Xa rfl rfl rfl rfl fun _ => R.nil (Xr [.look 0, .look 1] (Xk rfl rfl (Lk.arith rfl rfl rfl rfl) fun _ => Xm rfl rfl rfl rfl fun _ => ?_)))); refine R.nil ?_; exact hX_1 ((IntKind.wrap .i64 (v3_1 + (if 4097 < (ByteArray.size v14_3 : Int) then 4097 else (ByteArray.size v14_3 : Int)))), (IntKind.wrap .i64 (v11 + 1))) _ _ _ hS (ok.sub (.cons _ (.cons_cons _ sl0))) (lq rfl (lq rfl (lq rfl (lq rfl (lq rfl (lz _)))))) (H.add_sub ok (.cons _ (.cons_cons _ sl0)))
    · rw [if_neg e11] at hS; replace e11 := eq_false_of_ne_true e11; refine EvC.condF rfl e11 (EvC.exit ?_); exact hIh_1 v3_1 _ _ _ (lq rfl (lq rfl (lz _))) (ok.sub (.cons_cons _ sl0)) (H.add_sub ok (.cons_cons _ sl0)) hS

end Go.Proofs.YtimadnngfhbfiaaGreatDoor
end

section
/-
  The Builder's look at itself.
-/
namespace Go.Proofs
theorem Tryz.info109 : (Tryz.prog.info? 109).map (·.size) = some 2 := by kernel_rfl
theorem Tryz.lies109 : liesAt Tryz.prog Tryz.prog.depth 109 (2 / Tryz.prog.cellsOf 109) 0 109 1 = true := by kernel_rfl
set_option maxHeartbeats 1000000 in
set_option maxRecDepth 100000 in
theorem Tryz.copyCheck_used (b : Nat) (w : World) (h0 : w.cell? ⟨b, 0, none⟩ = some (.pointer (some ⟨b, 0, none⟩))) :
    Calls Tryz.prog 101 #[.pointer (some ⟨b, 0, none⟩)] w fun e w' => e = .returned (.tuple #[]) ∧ w' = w := by
  obtain ⟨j, hj, _⟩ := Option.map_eq_some_iff.1 Tryz.info109
  go_enter Tryz.func101, Tryz.ntmps101
  go_wp2
  rw [Lib.run_neq_ptr_same w _ Tryz.underlying107 hj]
  go_wp2
  go_end0
  exact ⟨rfl, rfl⟩
set_option maxHeartbeats 1000000 in
set_option maxRecDepth 100000 in
theorem Tryz.copyCheck_fresh (b : Nat) (w : World) (h0 : w.cell? ⟨b, 0, none⟩ = some (.pointer none)) (hsh : w.shape? b = some (109, 2)) (hfz : w.frozen? ⟨b, 0, none⟩ = false) :
    Calls Tryz.prog 101 #[.pointer (some ⟨b, 0, none⟩)] w fun e w' => e = .returned (.tuple #[]) ∧ w' = w.setCell ⟨b, 0, none⟩ (.pointer (some ⟨b, 0, none⟩)) := by
  obtain ⟨j, hj, hjs⟩ := Option.map_eq_some_iff.1 Tryz.info109
  go_enter Tryz.func101, Tryz.ntmps101
  go_wp2
  rw [Lib.run_to_unsafe w ⟨b, 0, none⟩ Tryz.underlying107 Tryz.underlying194 hj (by rw [hjs]; decide) hsh (Nat.zero_lt_succ 1)]
  simp only [Result.andThen]
  rw [Oper.upon_value]
  go_wp2
  rw [run_callFunc_extern Tryz.func140 (by kernel_rfl) (by kernel_rfl) (by kernel_rfl) (e := Extern.AbiNoEscape.same) (by kernel_rfl)]
  rw [Lib.run_noEscape]
  simp only [Result.andThen]
  rw [Oper.upon_value]
  go_wp2
  rw [Lib.run_from_unsafe w ⟨b, 0, none⟩ Tryz.underlying194 Tryz.underlying107 hj hsh Tryz.lies109]
  simp only [Result.andThen]
  rw [Oper.upon_value]
  go_wp2
  go_end0
  exact ⟨rfl, rfl⟩
end Go.Proofs
end

section
/- BY HAND: (*strings.Builder).copyCheck. -/
namespace Go.Proofs.YtimadnngfhbfiaaGreatDoor
open Go Go.Mu
theorem f101_ok {p0 : Option Addr} {h : H} {K : H → Prop} (hS : S101 p0 h K) : ACall Tryz.prog 101 ([(.pointer p0)] : List Value).toArray h (fun r h' => r = tup [] ∧ K h') := by
  obtain ⟨b, r, rfl, hb, hw, ht, he, ⟨h0, k⟩ | ⟨h0, k⟩⟩ := hS
  · intro w s
    have hc : w.cell? ⟨b, 0, none⟩ = some (.pointer none) := s.rd (by simp [H.rd, hb, h0])
    obtain ⟨c, fz, hcell, htot, hp, hfz, _⟩ := s _ _ hb
    have hl : 0 < r.cells.length := (List.getElem?_eq_some_iff.1 h0).1
    have hsh : w.shape? b = some (109, 2) := by simp [World.shape?, hcell, he, htot, ht]
    have hfr : w.frozen? ⟨b, 0, none⟩ = false := by
      have h2 := hfz hw 0 (by omega)
      obtain ⟨lo, hi⟩ := fz
      simp only [World.frozen?, hcell]
      simp only at h2
      by_cases hlo : lo ≤ 0
      · have := h2 hlo
        simpa using fun _ => Nat.le_of_not_lt this
      · simp [hlo]
    refine (Tryz.copyCheck_fresh b w hc hsh hfr).mono ?_
    rintro e w' ⟨rfl, rfl⟩
    exact ⟨_, _, rfl, s.setCell hb hl _, Fr.setCell hb hw _ _, rfl, k⟩
  · intro w s
    refine (Tryz.copyCheck_used b w (s.rd (by simp [H.rd, hb, h0]))).mono ?_
    rintro e w' ⟨rfl, rfl⟩
    exact ⟨_, _, rfl, s, Fr.refl h _, rfl, k⟩
end Go.Proofs.YtimadnngfhbfiaaGreatDoor
end

section
namespace Go.Proofs.YtimadnngfhbfiaaGreatDoor
open Go Go.Mu
set_option maxHeartbeats 4000000
set_option maxRecDepth 100000
theorem f55_ok {p0 : Option Addr} {p1 : ByteArray} {h : H} {K : Int → Value → H → Prop} (hS : S55 p0 p1 h K) : ACall Tryz.prog 55 ([(.pointer p0), (.string p1)] : List Value).toArray h (fun r h' => ∃ r0 : Int, ∃ r1 : Value, r = tup [(i6 r0), r1] ∧ K r0 r1 h') := by
  refine ACall.enter (fn := Tryz.f55) Tryz.func55 rfl (Nat.le_of_ble_eq_true rfl) ?_; unfold S55 at hS; have ok := Lok.nil h; refine EvC.seq (Xr [.look 0, .look 1] (Xa rfl rfl rfl rfl fun _ => ?_)); refine Xa rfl rfl rfl rfl fun _ => ?_; refine R.nil (EvC.seq (Xr [.look 0, .eff 1 []] (Xm rfl rfl rfl rfl fun _ => R.eff rfl rfl rfl (Eff.loc ok (Ef.call rfl CB101 rfl ((f101_ok hS).mono ?_)))))); rintro _ h_1 ⟨rfl, hS⟩; refine fun ok => ⟨noChk, ?_⟩; refine R.nil (EvC.seq (Xr [.look 0, .look 1, .look 2, .look 3, .look 4, .look 5, .eff 6 [], .look 7, .look 8, .eff 9 []] (Xm rfl rfl rfl rfl fun _ => Xm rfl rfl rfl rfl fun _ => ?_)))
  obtain ⟨a10, e1, hS⟩ := hS
  refine Xk (v := (.pointer (some a10))) rfl rfl (Lk.nilChk rfl rfl e1) fun _ => ?_; refine Xk (v := (.pointer (some (Addr.add a10 1)))) rfl rfl (Lk.fldAddr rfl Tryz.underlying109 rfl rfl T50 rfl rfl rfl) fun _ => ?_
  obtain ⟨v12, e2, hS⟩ := hS
  refine Xk rfl rfl (Look.loc ok (Lk.load1 rfl Tryz.underlying50 rfl rfl e2)) fun _ => ?_; refine Xm rfl rfl rfl rfl fun _ => ?_; refine R.appStr ok rfl rfl rfl rfl Tryz.underlying50 Tryz.underlying9 T5 rfl rfl hS ?_; intro v14 h_2 hS ok; refine ⟨noChk, ?_⟩
  obtain ⟨a15, e3, hS⟩ := hS
  refine Xk (v := (.pointer (some a15))) rfl rfl (Lk.nilChk rfl rfl e3) fun _ => ?_; refine Xk (v := (.pointer (some (Addr.add a15 1)))) rfl rfl (Lk.fldAddr rfl Tryz.underlying109 rfl rfl T50 rfl rfl rfl) fun _ => ?_
  obtain ⟨h_3, e4, hS⟩ := hS
  refine R.effN rfl rfl rfl (Eff.loc ok (Ef.store rfl T50 rfl rfl rfl rfl rfl e4 fun ok => ⟨noChk, ?_⟩)); refine R.nil (EvC.seq (Xr [.look 0, .look 1, .look 2, .look 3] (Xm rfl rfl rfl rfl fun _ => Xk rfl rfl (Lk.lenS rfl Tryz.underlying9 rfl) fun _ => Xa rfl rfl rfl rfl fun _ => Xa rfl rfl rfl rfl fun _ => R.nil (EvC.ret ?_)))); exact ⟨.inr rfl, _, _, (.cons (.tmp rfl) (.cons (.tmp rfl) .nil)), ok.le, _, _, rfl, hS⟩

theorem f56_ok {p0 : Option Addr} {h : H} {K : ByteArray → H → Prop} (hS : S56 p0 h K) : ACall Tryz.prog 56 ([(.pointer p0)] : List Value).toArray h (fun r h' => ∃ r0 : ByteArray, r = tup [(.string r0)] ∧ K r0 h') := by
  refine ACall.enter (fn := Tryz.f56) Tryz.func56 rfl (Nat.le_of_ble_eq_true rfl) ?_; unfold S56 at hS; have ok := Lok.nil h; refine EvC.seq (Xr [.look 0] (Xa rfl rfl rfl rfl fun _ => ?_)); refine R.nil (EvC.seq (EvC.draw [0, 1, 3, 7, 15, 0, 32, 96, 224, 480, 1023, 2047] [Item.look 0, Item.look 1, Item.look 2, Item.look 3, Item.look 4, Item.look 5, Item.look 6, Item.look 7, Item.look 8, Item.look 9, Item.eff 10 [], Item.look 11] MO (by kernel_rfl) ?_)); refine Xm rfl rfl rfl rfl fun _ => ?_
  obtain ⟨a4, e1, hS⟩ := hS
  refine Xk (v := (.pointer (some a4))) rfl rfl (Lk.nilChk rfl rfl e1) fun _ => ?_; refine Xk (v := (.pointer (some (Addr.add a4 1)))) rfl rfl (Lk.fldAddr rfl Tryz.underlying109 rfl rfl T50 rfl rfl rfl) fun _ => ?_
  obtain ⟨v6, e2, hS⟩ := hS
  refine Xk rfl rfl (Look.loc ok (Lk.load1 rfl Tryz.underlying50 rfl rfl e2)) fun _ => ?_
  obtain ⟨e3, hS⟩ := hS
  refine Xk (v := (.pointer v6.a)) rfl rfl (Lk.sliceData rfl rfl e3) fun _ => ?_; refine Xm rfl rfl rfl rfl fun _ => ?_
  obtain ⟨a9, e4, hS⟩ := hS
  refine Xk (v := (.pointer (some a9))) rfl rfl (Lk.nilChk rfl rfl e4) fun _ => ?_; refine Xk (v := (.pointer (some (Addr.add a9 1)))) rfl rfl (Lk.fldAddr rfl Tryz.underlying109 rfl rfl T50 rfl rfl rfl) fun _ => ?_
  obtain ⟨v11, e5, hS⟩ := hS
  refine Xk rfl rfl (Look.loc ok (Lk.load1 rfl Tryz.underlying50 rfl rfl e5)) fun _ => ?_; refine Xk rfl rfl (Lk.len rfl Tryz.underlying50 rfl) fun _ => ?_; refine R.unsafeStr ok rfl rfl rfl rfl Tryz.underlying154 CS5 rfl rfl hS ?_; intro v13 h_1 hS ok; refine ⟨noChk, ?_⟩; refine Xa rfl rfl rfl rfl fun _ => ?_; refine R.nil (EvC.ret ?_); exact ⟨.inr rfl, _, _, (.cons (.tmp rfl) .nil), ok.le, _, rfl, hS⟩

end Go.Proofs.YtimadnngfhbfiaaGreatDoor
end

section
/-
  The library's Itoa, as the kit's shelf lays it.
-/
namespace Go.Proofs
open Go.Shelf
def Tryz.laysM171_ren : Go.Shelf.Ren := ⟨fun | 171 => 106 | 243 => 142 | 246 => 170 | 283 => 187 | 284 => 188 | 285 => 189 | 286 => 190 | 129 => 206 | 317 => 205 | 318 => 207 | 319 => 208 | 320 => 209 | 337 => 213 | 338 => 214 | n => n, fun | 3 => 3 | 9 => 9 | 2 => 2 | 4 => 4 | 171 => 246 | 0 => 0 | 53 => 159 | 37 => 50 | 5 => 5 | 173 => 249 | 212 => 268 | 51 => 156 | 20 => 20 | 213 => 269 | 46 => 120 | 232 => 282 | 233 => 283 | n => n, fun | 17 => 3 | 18 => 6 | 19 => 7 | n => n⟩
theorem Tryz.laysM171 : Go.Proofs.LaysM.n171 Tryz.prog Tryz.laysM171_ren := {
  mixed := by kernel_rfl
  f129 := Tryz.func206.trans (congrArg some (by kernel_rfl))
  f171 := Tryz.func106.trans (congrArg some (by kernel_rfl))
  f243 := Tryz.func142.trans (congrArg some (by kernel_rfl))
  f246 := Tryz.func170.trans (congrArg some (by kernel_rfl))
  f283 := Tryz.func187.trans (congrArg some (by kernel_rfl))
  f284 := Tryz.func188.trans (congrArg some (by kernel_rfl))
  f285 := Tryz.func189.trans (congrArg some (by kernel_rfl))
  f286 := Tryz.func190.trans (congrArg some (by kernel_rfl))
  f317 := Tryz.func205.trans (congrArg some (by kernel_rfl))
  f318 := Tryz.func207.trans (congrArg some (by kernel_rfl))
  f319 := Tryz.func208.trans (congrArg some (by kernel_rfl))
  f320 := Tryz.func209.trans (congrArg some (by kernel_rfl))
  f337 := Tryz.func213.trans (congrArg some (by kernel_rfl))
  f338 := Tryz.func214.trans (congrArg some (by kernel_rfl))
  t0 := Tryz.underlying0
  a0 := Tryz.isAgg0
  z0 := Tryz.sizeOf0
  v0 := Tryz.zeroValue0
  t2 := Tryz.underlying2
  a2 := Tryz.isAgg2
  z2 := Tryz.sizeOf2
  v2 := Tryz.zeroValue2
  t3 := Tryz.underlying3
  a3 := Tryz.isAgg3
  z3 := Tryz.sizeOf3
  v3 := Tryz.zeroValue3
  t4 := Tryz.underlying4
  a4 := Tryz.isAgg4
  z4 := Tryz.sizeOf4
  v4 := Tryz.zeroValue4
  t5 := Tryz.underlying5
  a5 := Tryz.isAgg5
  z5 := Tryz.sizeOf5
  v5 := Tryz.zeroValue5
  t9 := Tryz.underlying9
  a9 := Tryz.isAgg9
  z9 := Tryz.sizeOf9
  v9 := Tryz.zeroValue9
  t20 := Tryz.underlying20
  a20 := Tryz.isAgg20
  z20 := Tryz.sizeOf20
  v20 := Tryz.zeroValue20
  t37 := Tryz.underlying50
  a37 := Tryz.isAgg50
  z37 := Tryz.sizeOf50
  v37 := Tryz.zeroValue50
  t46 := Tryz.underlying120
  a46 := Tryz.isAgg120
  z46 := Tryz.sizeOf120
  v46 := Tryz.zeroValue120
  t51 := Tryz.underlying156
  a51 := Tryz.isAgg156
  z51 := Tryz.sizeOf156
  v51 := Tryz.zeroValue156
  t53 := Tryz.underlying159
  a53 := Tryz.isAgg159
  z53 := Tryz.sizeOf159
  v53 := Tryz.zeroValue159
  t171 := Tryz.underlying246
  a171 := Tryz.isAgg246
  z171 := Tryz.sizeOf246
  v171 := Tryz.zeroValue246
  t173 := Tryz.underlying249
  a173 := Tryz.isAgg249
  z173 := Tryz.sizeOf249
  v173 := Tryz.zeroValue249
  t212 := Tryz.underlying268
  a212 := Tryz.isAgg268
  z212 := Tryz.sizeOf268
  v212 := Tryz.zeroValue268
  t213 := Tryz.underlying269
  a213 := Tryz.isAgg269
  z213 := Tryz.sizeOf269
  t232 := Tryz.underlying282
  a232 := Tryz.isAgg282
  z232 := Tryz.sizeOf282
  v232 := Tryz.zeroValue282
  t233 := Tryz.underlying283
  a233 := Tryz.isAgg283
  z233 := Tryz.sizeOf283
  v233 := Tryz.zeroValue283
  g17 := by kernel_rfl
  g18 := by kernel_rfl
  g19 := by kernel_rfl
  i0 := by kernel_rfl
  i2 := by kernel_rfl
  i3 := by kernel_rfl
  i4 := by kernel_rfl
  i5 := by kernel_rfl
  i9 := by kernel_rfl
  i20 := by kernel_rfl
  i37 := by kernel_rfl
  i46 := by kernel_rfl
  i51 := by kernel_rfl
  i53 := by kernel_rfl
  i171 := by kernel_rfl
  i173 := by kernel_rfl
  i212 := by kernel_rfl
  i232 := by kernel_rfl
  i233 := by kernel_rfl
  m17 := by kernel_rfl
  m18 := by kernel_rfl
  m19 := by kernel_rfl }
def Tryz.lays171_ren : Go.Shelf.Ren := ⟨fun | 171 => 106 | 243 => 142 | 246 => 170 | 283 => 187 | 284 => 188 | 285 => 189 | 286 => 190 | 129 => 206 | 317 => 205 | 318 => 207 | 319 => 208 | 320 => 209 | 337 => 213 | 338 => 214 | n => n, fun | 3 => 3 | 9 => 9 | 2 => 2 | 4 => 4 | 171 => 246 | 0 => 0 | 53 => 159 | 37 => 50 | 5 => 5 | 173 => 249 | 212 => 268 | 51 => 156 | 20 => 20 | 213 => 269 | 46 => 120 | 232 => 282 | 233 => 283 | n => n, fun | 17 => 3 | 18 => 6 | 19 => 7 | n => n⟩
theorem Tryz.lays171 : Go.Proofs.Lays.n171 Tryz.prog Tryz.lays171_ren := {
  mixed := by kernel_rfl
  f129 := Tryz.func206.trans (congrArg some (by kernel_rfl))
  f171 := Tryz.func106.trans (congrArg some (by kernel_rfl))
  f243 := Tryz.func142.trans (congrArg some (by kernel_rfl))
  f246 := Tryz.func170.trans (congrArg some (by kernel_rfl))
  f283 := Tryz.func187.trans (congrArg some (by kernel_rfl))
  f284 := Tryz.func188.trans (congrArg some (by kernel_rfl))
  f285 := Tryz.func189.trans (congrArg some (by kernel_rfl))
  f286 := Tryz.func190.trans (congrArg some (by kernel_rfl))
  f317 := Tryz.func205.trans (congrArg some (by kernel_rfl))
  f318 := Tryz.func207.trans (congrArg some (by kernel_rfl))
  f319 := Tryz.func208.trans (congrArg some (by kernel_rfl))
  f320 := Tryz.func209.trans (congrArg some (by kernel_rfl))
  f337 := Tryz.func213.trans (congrArg some (by kernel_rfl))
  f338 := Tryz.func214.trans (congrArg some (by kernel_rfl))
  t0 := Tryz.underlying0
  a0 := Tryz.isAgg0
  z0 := Tryz.sizeOf0
  v0 := Tryz.zeroValue0
  t2 := Tryz.underlying2
  a2 := Tryz.isAgg2
  z2 := Tryz.sizeOf2
  v2 := Tryz.zeroValue2
  t3 := Tryz.underlying3
  a3 := Tryz.isAgg3
  z3 := Tryz.sizeOf3
  v3 := Tryz.zeroValue3
  t4 := Tryz.underlying4
  a4 := Tryz.isAgg4
  z4 := Tryz.sizeOf4
  v4 := Tryz.zeroValue4
  t5 := Tryz.underlying5
  a5 := Tryz.isAgg5
  z5 := Tryz.sizeOf5
  v5 := Tryz.zeroValue5
  t9 := Tryz.underlying9
  a9 := Tryz.isAgg9
  z9 := Tryz.sizeOf9
  v9 := Tryz.zeroValue9
  t20 := Tryz.underlying20
  a20 := Tryz.isAgg20
  z20 := Tryz.sizeOf20
  v20 := Tryz.zeroValue20
  t37 := Tryz.underlying50
  a37 := Tryz.isAgg50
  z37 := Tryz.sizeOf50
  v37 := Tryz.zeroValue50
  t46 := Tryz.underlying120
  a46 := Tryz.isAgg120
  z46 := Tryz.sizeOf120
  v46 := Tryz.zeroValue120
  t51 := Tryz.underlying156
  a51 := Tryz.isAgg156
  z51 := Tryz.sizeOf156
  v51 := Tryz.zeroValue156
  t53 := Tryz.underlying159
  a53 := Tryz.isAgg159
  z53 := Tryz.sizeOf159
  v53 := Tryz.zeroValue159
  t171 := Tryz.underlying246
  a171 := Tryz.isAgg246
  z171 := Tryz.sizeOf246
  v171 := Tryz.zeroValue246
  t173 := Tryz.underlying249
  a173 := Tryz.isAgg249
  z173 := Tryz.sizeOf249
  v173 := Tryz.zeroValue249
  t212 := Tryz.underlying268
  a212 := Tryz.isAgg268
  z212 := Tryz.sizeOf268
  v212 := Tryz.zeroValue268
  t213 := Tryz.underlying269
  a213 := Tryz.isAgg269
  z213 := Tryz.sizeOf269
  t232 := Tryz.underlying282
  a232 := Tryz.isAgg282
  z232 := Tryz.sizeOf282
  v232 := Tryz.zeroValue282
  t233 := Tryz.underlying283
  a233 := Tryz.isAgg283
  z233 := Tryz.sizeOf283
  v233 := Tryz.zeroValue283
  g17 := by kernel_rfl
  g18 := by kernel_rfl
  g19 := by kernel_rfl }
end Go.Proofs
end

section
/- BY HAND: strconv.Itoa. -/
namespace Go.Proofs.YtimadnngfhbfiaaGreatDoor
open Go Go.Mu
theorem below_grow {w : World} {k : Nat} {os : Array Obj} : Go.RowKit.Below w.heap.size w (Go.Sort.grow (w.drewN k) os) :=
  ⟨rfl, rfl, rfl, by simp [Go.Sort.grow], fun c hc => by
    show (w.heap ++ os)[c]? = _
    rw [Array.getElem?_append_left hc]⟩
theorem f106_ok {p0 : Int} {h : H} {K : ByteArray → H → Prop} (hS : S106 p0 h K) : ACall Tryz.prog 106 ([(.int .i64 p0)] : List Value).toArray h (fun r h' => ∃ r0 : ByteArray, r = tup [(.string r0)] ∧ K r0 h') := by
  obtain ⟨i, rfl, h1 | ⟨h1, pw⟩, k⟩ := hS
  · exact ACall.below (fun w _ => (Any.strconv_Itoa_small Tryz.lays171 i h1 w).mono fun _ _ ⟨e, e2⟩ => ⟨e, e2 ▸ Go.RowKit.Below.refl _ _⟩) ⟨_, rfl, k⟩
  · refine ACall.below (fun w s => (Any.strconv_Itoa Tryz.laysM171 (i : Int) (by omega) (by omega) w (pw w s)).mono fun _ _ ⟨e, n, os, e2⟩ => ⟨e, e2 ▸ below_grow⟩) ⟨_, rfl, ?_⟩
    have : Lib.itoa (i : Int) = Lib.decDigits i := by
      unfold Lib.itoa
      rw [if_neg (by omega), Int.toNat_natCast]
    rw [this]; exact k
end Go.Proofs.YtimadnngfhbfiaaGreatDoor
end

section
namespace Go.Proofs.YtimadnngfhbfiaaGreatDoor
open Go Go.Mu
set_option maxHeartbeats 4000000
set_option maxRecDepth 100000
theorem f59_ok {p0 : Int} {h : H} {K : ByteArray → H → Prop} (hS : S59 p0 h K) : ACall Tryz.prog 59 ([(i6 p0)] : List Value).toArray h (fun r h' => ∃ r0 : ByteArray, r = tup [(.string r0)] ∧ K r0 h') := by
  refine ACall.enter (fn := Tryz.f59) Tryz.func59 rfl (Nat.le_of_ble_eq_true rfl) ?_; unfold S59 at hS; have ok := Lok.nil h; refine EvC.seq (Xr [.look 0] (Xa rfl rfl rfl rfl fun _ => ?_)); refine R.nil (EvC.seq (Xr [.look 0, .eff 1 [], .look 2] (Xm rfl rfl rfl rfl fun _ => R.eff rfl rfl rfl (Eff.loc ok (Ef.call rfl CB106 rfl ((f106_ok hS).mono ?_)))))); rintro _ h_1 ⟨v4, rfl, hS⟩; refine fun ok => ⟨noChk, ?_⟩; refine Xa rfl rfl rfl rfl fun _ => ?_; refine R.nil (EvC.ret ?_); exact ⟨.inr rfl, _, _, (.cons (.tmp rfl) .nil), ok.le, _, rfl, hS⟩

theorem f60_ok {p0 : Int} {h : H} {K : ByteArray → H → Prop} (hS : S60 p0 h K) : ACall Tryz.prog 60 ([(i6 p0)] : List Value).toArray h (fun r h' => ∃ r0 : ByteArray, r = tup [(.string r0)] ∧ K r0 h') := by
  refine ACall.enter (fn := Tryz.f60) Tryz.func60 rfl (Nat.le_of_ble_eq_true rfl) ?_; unfold S60 at hS; have ok := Lok.nil h; refine EvC.seq (Xr [.look 0] (Xa rfl rfl rfl rfl fun _ => ?_)); refine R.nil (EvC.seq (EvC.seq (Xr [.look 0, .eff 1 [], .look 2] (Xm rfl rfl rfl rfl fun _ => R.eff rfl rfl rfl (Eff.loc ok (Ef.call rfl CB48 rfl ((f48_ok hS).mono ?_))))))); rintro _ h_1 ⟨v4, rfl, hS⟩; refine fun ok => ⟨noChk, ?_⟩; refine Xk rfl rfl (Lk.not rfl rfl) fun _ => ?_; refine R.nil ?_
  by_cases e1 : (!v4) = true
  · rw [if_pos e1] at hS; refine EvC.condT rfl e1 (EvC.seq (Xr [.look 0] (Xa rfl rfl rfl rfl fun _ => ?_))); refine R.nil (EvC.ret ?_); exact ⟨.inr rfl, _, _, (.cons (.tmp rfl) .nil), ok.le, _, rfl, hS⟩
  · rw [if_neg e1] at hS; replace e1 := eq_false_of_ne_true e1; refine EvC.condF rfl e1 (EvC.skip (EvC.seq (Xr [.look 0, .look 1, .look 2, .look 3, .look 4] (Xm rfl rfl rfl rfl fun _ => ?_)))); refine Xm rfl rfl rfl rfl fun _ => ?_; refine Xk rfl rfl (Lk.arith rfl rfl rfl rfl) fun _ => ?_
    obtain ⟨e2, e3, e4, hS⟩ := hS
    refine Xk rfl rfl (Lk.subStr rfl Tryz.underlying9 rfl rfl rfl e2 e3 e4) fun _ => ?_; refine Xa rfl rfl rfl rfl fun _ => ?_; refine R.nil (EvC.ret ?_); exact ⟨.inr rfl, _, _, (.cons (.tmp rfl) .nil), ok.le, _, rfl, hS⟩

theorem f26_ok {p0_0 : Sl} {p0_1 : Sl} {h : H} {K : ByteArray → Int → H → Prop} (hS : S26 p0_0 p0_1 h K) : ACall Tryz.prog 26 ([(.agg ([(.slice p0_0.a p0_0.l p0_0.c), (.slice p0_1.a p0_1.l p0_1.c)] : List Value).toArray)] : List Value).toArray h (fun r h' => ∃ r0 : ByteArray, ∃ r1 : Int, r = tup [(.string r0), (i6 r1)] ∧ K r0 r1 h') := by
  refine ACall.enter (fn := Tryz.f26) Tryz.func26 rfl (Nat.le_of_ble_eq_true rfl) ?_; unfold S26 at hS; have ok := Lok.nil h; refine EvC.seq (Xr [.alc 0, .look 1, .look 2] (R.var (blk := .row ⟨[(.slice p0_0.a p0_0.l p0_0.c), (.slice p0_1.a p0_1.l p0_1.c)], 2, 33, true, true⟩) ok rfl rfl rfl (Ac.box rfl rfl) rfl rfl fun b1 ok => ?_)); refine Xa rfl rfl rfl rfl fun _ => ?_; refine Xa rfl rfl rfl rfl fun _ => ?_; refine R.nil (EvC.seq (EvC.seq (Xr [.look 0, .eff 1 [], .look 2] (Xk rfl rfl (Lk.loadN (vs := [(.slice p0_0.a p0_0.l p0_0.c), (.slice p0_1.a p0_1.l p0_1.c)]) rfl Tryz.underlying33 rfl T33 rfl (H.rdn_loc ok (i := 0) rfl rfl rfl)) fun _ => R.eff rfl rfl rfl (Eff.loc ok (Ef.call rfl CB18 rfl ((f18_ok hS).mono ?_))))))); rintro _ h_1 ⟨v12, rfl, hS⟩; refine fun ok => ⟨noChk, ?_⟩; refine Xa rfl rfl rfl rfl fun _ => ?_; refine R.nil (EvC.seq (Xr [.look 0, .look 1] (Xm rfl rfl rfl rfl fun _ => Xk rfl rfl (Lk.arith rfl rfl rfl rfl) fun _ => R.nil ?_)))
  by_cases e1 : (v12 != 0) = true
  · rw [if_pos e1] at hS; refine EvC.condT rfl e1 (EvC.seq (Xr [.look 0, .look 1, .look 2] (Xm rfl rfl rfl rfl fun _ => ?_))); refine Xa rfl rfl rfl rfl fun _ => ?_; refine Xa rfl rfl rfl rfl fun _ => ?_; refine R.nil (EvC.ret ?_); exact ⟨.inr rfl, _, _, (.cons (.tmp rfl) (.cons (.tmp rfl) .nil)), ok.le, _, _, rfl, hS⟩
  · rw [if_neg e1] at hS; replace e1 := eq_false_of_ne_true e1; refine EvC.condF rfl e1 (EvC.skip (EvC.seq (Xr [.alc 0, .eff 1 [], .eff 2 [], .look 3, .look 4] (R.new (blk := (.obj (.map #[] 0))) ok rfl rfl rfl (Ac.makeMap rfl) trivial rfl fun b16 e2 ok => ?_)))); replace hS := hS b16 _ e2 rfl
    obtain ⟨h_3, e3, hS⟩ := hS
    refine R.effN rfl rfl rfl (Eff.loc ok (Ef.mapPut rfl Tryz.underlying119 Tryz.underlying4 rfl rfl rfl rfl e3 fun ok => ⟨noChk, ?_⟩))
    obtain ⟨h_4, e4, hS⟩ := hS
    refine R.effN rfl rfl rfl (Eff.loc ok (Ef.mapPut rfl Tryz.underlying119 Tryz.underlying4 rfl rfl rfl rfl e4 fun ok => ⟨noChk, ?_⟩)); refine Xm rfl rfl rfl rfl fun _ => ?_; refine Xa rfl rfl rfl rfl fun _ => ?_; refine R.nil (EvC.seq (Xr [.alc 0] (R.new (blk := (.row ⟨[(.pointer none), (.slice none 0 0)], 2, 109, true, true⟩)) ok rfl rfl rfl (Ac.alloc rfl T109) rfl rfl fun b6 e5 ok => ?_))); replace hS := hS b6 _ e5 rfl; refine R.nil (EvC.seq (Xr [.eff 0 []] (R.eff rfl rfl rfl (Eff.loc ok (Ef.call rfl CB55 rfl ((f55_ok hS).mono ?_)))))); rintro _ h_6 ⟨v18_0, v18_1, rfl, hS⟩; refine fun ok => ⟨noChk, ?_⟩; refine R.nil (EvC.join (σ := Unit) (fun s => (Ep (Ep E0 6 (.pointer (some ⟨b6, 0, none⟩))) 1 (.pointer (some ⟨b1, 0, none⟩)))) (fun s => [(b1, .row ⟨[(.slice p0_0.a p0_0.l p0_0.c), (.slice p0_1.a p0_1.l p0_1.c)], 2, 33, true, true⟩)]) (fun s h_7 => S26_j5 p0_0 p0_1 K b6 h_7) ?_ (fun Ih_7 hIh_7 => ?_))
    · rintro ⟨⟩ h_7 ok hS; replace hS : S26_j5 p0_0 p0_1 K b6 h_7 := hS; unfold S26_j5 at hS; refine EvC.join (σ := Unit) (fun s => (Ep (Ep E0 6 (.pointer (some ⟨b6, 0, none⟩))) 1 (.pointer (some ⟨b1, 0, none⟩)))) (fun s => [(b1, .row ⟨[(.slice p0_0.a p0_0.l p0_0.c), (.slice p0_1.a p0_1.l p0_1.c)], 2, 33, true, true⟩)]) (fun s h_8 => S26_j4 p0_1 K b6 h_8) ?_ (fun Ih_8 hIh_8 => ?_)
      · rintro ⟨⟩ h_8 ok hS; replace hS : S26_j4 p0_1 K b6 h_8 := hS; unfold S26_j4 at hS; refine EvC.join (σ := Unit) (fun s => (Ep E0 6 (.pointer (some ⟨b6, 0, none⟩)))) (fun s => []) (fun s h_9 => S26_j1 K b6 h_9) ?_ (fun Ih_9 hIh_9 => ?_)
        · rintro ⟨⟩ h_9 ok hS; replace hS : S26_j1 K b6 h_9 := hS; unfold S26_j1 at hS; refine EvC.seq (Xr [.eff 0 [], .look 1, .look 2, .look 3] (R.eff rfl rfl rfl (Eff.loc ok (Ef.call rfl CB56 rfl ((f56_ok hS).mono ?_))))); rintro _ h_10 ⟨v66, rfl, hS⟩; refine fun ok => ⟨noChk, ?_⟩
          obtain ⟨e6, hS⟩ := hS
          refine Xk rfl rfl (Lk.strAdd rfl rfl rfl e6) fun _ => ?_; refine Xa rfl rfl rfl rfl fun _ => ?_; refine Xa rfl rfl rfl rfl fun _ => ?_; refine R.nil (EvC.ret ?_); exact ⟨.inr rfl, _, _, (.cons (.tmp rfl) (.cons (.tmp rfl) .nil)), ok.le, _, _, rfl, hS⟩
        · refine EvC.seq (Xr [.look 0, .look 1, .look 2, .look 3] (Xk (v := (.pointer (some ⟨b1, 1, none⟩))) rfl rfl (Lk.fldAddr rfl Tryz.underlying33 rfl rfl T31 rfl rfl rfl) fun _ => ?_)); refine Xk rfl rfl (Lk.load1 (v := (.slice p0_1.a p0_1.l p0_1.c)) rfl Tryz.underlying31 rfl rfl (H.rd_loc ok (i := 0) rfl rfl)) fun _ => ?_; refine Xk rfl rfl (Lk.len rfl Tryz.underlying31 rfl) fun _ => ?_; refine Xm rfl rfl rfl rfl fun _ => ?_; refine R.nil (EvC.block (EvC.loop (LoopC.lfp (σ := Int) (fun s => (Ep (Ep (Ep (Ep E0 39 (i6 s)) 38 (i6 (p0_1.l : Int))) 37 (.slice p0_1.a p0_1.l p0_1.c)) 6 (.pointer (some ⟨b6, 0, none⟩)))) (fun s => []) (fun X hX => ?_) hS (ok.sub (.cons _ sl0)) (lq rfl (lq rfl (lq rfl (lq rfl (lz _))))) (H.add_sub ok (.cons _ sl0))))); intro v39 h_11 hS ok; replace hS : S26_l3 p0_1 K b6 X v39 h_11 := hS; unfold S26_l3 at hS; refine EvC.seq (Xr [.look 0] (Xk rfl rfl (Lk.arith rfl rfl rfl rfl) fun _ => ?_)); refine R.nil (EvC.seq ?_)
          by_cases e7 : (decide (v39 < (p0_1.l : Int))) = true
          · rw [if_pos e7] at hS; refine EvC.condT rfl e7 (EvC.skip (EvC.join (σ := Unit) (fun s => (Ep (Ep (Ep (Ep E0 39 (i6 v39)) 38 (i6 (p0_1.l : Int))) 37 (.slice p0_1.a p0_1.l p0_1.c)) 6 (.pointer (some ⟨b6, 0, none⟩)))) (fun s => []) (fun s h_12 => S26_j2 v39 X h_12) ?_ (fun Ih_12 hIh_12 => ?_)))
            · rintro ⟨⟩ h_12 ok hS; replace hS : S26_j2 v39 X h_12 := hS; unfold S26_j2 at hS; refine Xr [.look 0, .look 1] (Xk rfl rfl (Lk.arith rfl rfl rfl rfl) fun _ => ?_); refine Xm rfl rfl rfl rfl fun _ => ?_; refine R.nil ?_; exact hX (IntKind.wrap .i64 (v39 + 1)) _ _ _ hS (ok.sub sl0) (lq rfl (lq rfl (lq rfl (lq rfl (lz _))))) (H.add_sub ok sl0)
            · refine EvC.block (EvC.seq (Xr [.look 0, .look 1, .alc 2, .eff 3 []] ?_))
              obtain ⟨a41, e8, e9, e10, hS⟩ := hS
              refine Xk rfl rfl (Lk.ixAddr rfl Tryz.underlying31 T61 rfl e8 rfl e9 e10) fun _ => ?_
              obtain ⟨v42_0, v42_1, v42_2, v42_3, e11, hS⟩ := hS
              refine Xk rfl rfl (Look.loc ok (Lk.loadN rfl Tryz.underlying61 rfl T61 rfl e11)) fun _ => ?_; refine R.var (blk := .row ⟨[(i6 0), (i6 0), (i6 0), (.string ⟨#[]⟩)], 4, 61, true, true⟩) ok rfl rfl rfl (Ac.alloc rfl T61) rfl rfl fun b10 ok => ?_; refine R.effN rfl rfl rfl (Ef.storeLoc (i := 0) (vs := [(i6 v42_0), (i6 v42_1), (i6 v42_2), (.string v42_3)]) (cs := [(i6 v42_0), (i6 v42_1), (i6 v42_2), (.string v42_3)]) (l' := [(b10, .row ⟨[(i6 v42_0), (i6 v42_1), (i6 v42_2), (.string v42_3)], 4, 61, true, true⟩)]) ok rfl T61 rfl rfl rfl rfl rfl rfl rfl rfl rfl rfl fun ok => ⟨noChk, ?_⟩); refine R.nil (EvC.seq (EvC.draw [0, 1, 3, 7, 15, 0, 32, 103, 255, 511, 0, 1024, 3303, 8191, 16383] [Item.look 0, Item.look 1, Item.look 5, Item.look 6, Item.look 10, Item.look 11, Item.eff 2 [5, 6, 10, 11], Item.look 3, Item.look 4, Item.eff 7 [10, 11, 3, 4], Item.look 8, Item.look 9, Item.eff 12 [3, 4, 8, 9], Item.look 13, Item.eff 14 []] MO (by kernel_rfl) ?_)); refine R.lookL (v := (.pointer (some ⟨b10, 0, none⟩))) rfl rfl rfl (Lk.fldAddr rfl Tryz.underlying61 rfl rfl T3 rfl rfl rfl) ?_; refine R.lookL rfl rfl rfl (Lk.load1 (v := (i6 v42_0)) rfl Tryz.underlying3 rfl rfl (H.rd_loc ok (i := 0) rfl rfl)) ?_; refine R.lookL (v := (.pointer (some ⟨b10, 2, none⟩))) rfl rfl rfl (Lk.fldAddr rfl Tryz.underlying61 rfl rfl T3 rfl rfl rfl) ?_; refine R.lookL rfl rfl rfl (Lk.load1 (v := (i6 v42_2)) rfl Tryz.underlying3 rfl rfl (H.rd_loc ok (i := 0) rfl rfl)) ?_; refine R.lookL (v := (.pointer (some ⟨b10, 1, none⟩))) rfl rfl rfl (Lk.fldAddr rfl Tryz.underlying61 rfl rfl T3 rfl rfl rfl) ?_; refine R.lookL rfl rfl rfl (Lk.load1 (v := (i6 v42_1)) rfl Tryz.underlying3 rfl rfl (H.rd_loc ok (i := 0) rfl rfl)) ?_; refine R.eff rfl rfl rfl (Eff.loc ok (Ef.call rfl CB59 rfl ((f59_ok hS).mono ?_))); rintro _ h_13 ⟨v45, rfl, hS⟩; refine fun ok => ⟨(List.forall_mem_cons.2 ⟨(XP (XP (XP (Log.at_ (LookG.of rfl (Lk.fldAddr rfl Tryz.underlying61 rfl rfl T3 rfl rfl rfl)))))), (List.forall_mem_cons.2 ⟨(XP (XP (Log.at_ (LookG.of rfl (Lk.load1 (v := (i6 v42_2)) rfl Tryz.underlying3 rfl rfl (H.rd_loc ok (i := 0) rfl rfl)))))), (List.forall_mem_cons.2 ⟨(XP (Log.at_ (LookG.of rfl (Lk.fldAddr rfl Tryz.underlying61 rfl rfl T3 rfl rfl rfl)))), (List.forall_mem_cons.2 ⟨(Log.at_ (LookG.of rfl (Lk.load1 (v := (i6 v42_1)) rfl Tryz.underlying3 rfl rfl (H.rd_loc ok (i := 0) rfl rfl)))), noChk⟩)⟩)⟩)⟩), ?_⟩
              obtain ⟨e12, hS⟩ := hS
              refine R.lookL rfl rfl rfl (Lk.strAdd rfl rfl rfl e12) ?_
              obtain ⟨e13, hS⟩ := hS
              refine R.lookL rfl rfl rfl (Lk.strAdd rfl rfl rfl e13) ?_; refine R.eff rfl rfl rfl (Eff.loc ok (Ef.call rfl CB60 rfl ((f60_ok hS).mono ?_))); rintro _ h_14 ⟨v50, rfl, hS⟩; refine fun ok => ⟨(List.forall_mem_cons.2 ⟨(XP (XP (XP (Log.at_ (LookG.of rfl (Lk.fldAddr rfl Tryz.underlying61 rfl rfl T3 rfl rfl rfl)))))), (List.forall_mem_cons.2 ⟨(XP (XP (Log.at_ (LookG.of rfl (Lk.load1 (v := (i6 v42_1)) rfl Tryz.underlying3 rfl rfl (H.rd_loc ok (i := 0) rfl rfl)))))), (List.forall_mem_cons.2 ⟨(XP (Log.at_ (LookG.of rfl (Lk.strAdd rfl rfl rfl e12)))), (List.forall_mem_cons.2 ⟨(Log.at_ (LookG.of rfl (Lk.strAdd rfl rfl rfl e13))), noChk⟩)⟩)⟩)⟩), ?_⟩
              obtain ⟨e14, hS⟩ := hS
              refine R.lookL rfl rfl rfl (Lk.strAdd rfl rfl rfl e14) ?_
              obtain ⟨e15, hS⟩ := hS
              refine R.lookL rfl rfl rfl (Lk.strAdd rfl rfl rfl e15) ?_; refine R.eff rfl rfl rfl (Eff.loc ok (Ef.call rfl CB59 rfl ((f59_ok hS).mono ?_))); rintro _ h_15 ⟨v55, rfl, hS⟩; refine fun ok => ⟨(List.forall_mem_cons.2 ⟨(XP (XP (XP (Log.at_ (LookG.of rfl (Lk.strAdd rfl rfl rfl e12)))))), (List.forall_mem_cons.2 ⟨(XP (XP (Log.at_ (LookG.of rfl (Lk.strAdd rfl rfl rfl e13))))), (List.forall_mem_cons.2 ⟨(XP (Log.at_ (LookG.of rfl (Lk.strAdd rfl rfl rfl e14)))), (List.forall_mem_cons.2 ⟨(Log.at_ (LookG.of rfl (Lk.strAdd rfl rfl rfl e15))), noChk⟩)⟩)⟩)⟩), ?_⟩
              obtain ⟨e16, hS⟩ := hS
              refine R.lookL rfl rfl rfl (Lk.strAdd rfl rfl rfl e16) ?_; refine R.eff rfl rfl rfl (Eff.loc ok (Ef.call rfl CB55 rfl ((f55_ok hS).mono ?_))); rintro _ h_16 ⟨v57_0, v57_1, rfl, hS⟩; refine fun ok => ⟨noChk, ?_⟩; refine R.nil (EvC.seq (Xr [.look 0, .look 1, .look 2] (Xk (v := (.pointer (some ⟨b10, 3, none⟩))) rfl rfl (Lk.fldAddr rfl Tryz.underlying61 rfl rfl T9 rfl rfl rfl) fun _ => Xk rfl rfl (Lk.load1 (v := (.string v42_3)) rfl Tryz.underlying9 rfl rfl (H.rd_loc ok (i := 0) rfl rfl)) fun _ => Xk rfl rfl (Lk.strNe rfl rfl rfl) fun _ => R.nil ?_)))
              by_cases e17 : (!(ByteArray.toList v42_3 == ByteArray.toList ⟨#[]⟩)) = true
              · rw [if_pos e17] at hS; refine EvC.condT rfl e17 (Xr [.look 0, .look 1, .look 2, .eff 3 []] (Xk (v := (.pointer (some ⟨b10, 3, none⟩))) rfl rfl (Lk.fldAddr rfl Tryz.underlying61 rfl rfl T9 rfl rfl rfl) fun _ => ?_)); refine Xk rfl rfl (Lk.load1 (v := (.string v42_3)) rfl Tryz.underlying9 rfl rfl (H.rd_loc ok (i := 0) rfl rfl)) fun _ => ?_
                obtain ⟨e18, hS⟩ := hS
                refine Xk rfl rfl (Lk.strAdd rfl rfl rfl e18) fun _ => ?_; refine R.eff rfl rfl rfl (Eff.loc ok (Ef.call rfl CB55 rfl ((f55_ok hS).mono ?_))); rintro _ h_17 ⟨v64_0, v64_1, rfl, hS⟩; refine fun ok => ⟨noChk, ?_⟩; refine R.nil ?_; exact hIh_12 () _ _ _ (lq rfl (lq rfl (lq rfl (lq rfl (lz _))))) (ok.sub (.cons _ sl0)) (H.add_sub ok (.cons _ sl0)) hS
              · rw [if_neg e17] at hS; replace e17 := eq_false_of_ne_true e17; refine EvC.condF rfl e17 (EvC.skip ?_); exact hIh_12 () _ _ _ (lq rfl (lq rfl (lq rfl (lq rfl (lz _))))) (ok.sub (.cons _ sl0)) (H.add_sub ok (.cons _ sl0)) hS
          · rw [if_neg e7] at hS; replace e7 := eq_false_of_ne_true e7; refine EvC.condF rfl e7 (EvC.exit ?_); exact hIh_9 () _ _ _ (lq rfl (lz _)) (ok.sub sl0) (H.add_sub ok sl0) hS
      · refine EvC.seq (Xr [.look 0, .look 1, .look 2, .look 3] (Xk (v := (.pointer (some ⟨b1, 0, none⟩))) rfl rfl (Lk.fldAddr rfl Tryz.underlying33 rfl rfl T30 rfl rfl rfl) fun _ => ?_)); refine Xk rfl rfl (Lk.load1 (v := (.slice p0_0.a p0_0.l p0_0.c)) rfl Tryz.underlying30 rfl rfl (H.rd_loc ok (i := 0) rfl rfl)) fun _ => ?_; refine Xk rfl rfl (Lk.len rfl Tryz.underlying30 rfl) fun _ => ?_; refine Xk rfl rfl (Lk.arith rfl rfl rfl rfl) fun _ => ?_; refine R.nil ?_
        by_cases e19 : ((p0_0.l : Int) == 0) = true
        · rw [if_pos e19] at hS; refine EvC.condT rfl e19 (Xr [.eff 0 []] (R.eff rfl rfl rfl (Eff.loc ok (Ef.call rfl CB55 rfl ((f55_ok hS).mono ?_))))); rintro _ h_18 ⟨v35_0, v35_1, rfl, hS⟩; refine fun ok => ⟨noChk, ?_⟩; refine R.nil ?_; exact hIh_8 () _ _ _ (lq rfl (lq rfl (lz _))) (ok.sub (.cons_cons _ sl0)) (H.add_sub ok (.cons_cons _ sl0)) hS
        · rw [if_neg e19] at hS; replace e19 := eq_false_of_ne_true e19; refine EvC.condF rfl e19 (EvC.skip ?_); exact hIh_8 () _ _ _ (lq rfl (lq rfl (lz _))) (ok.sub (.cons_cons _ sl0)) (H.add_sub ok (.cons_cons _ sl0)) hS
    · refine EvC.seq (Xr [.look 0, .look 1, .look 2, .look 3] (Xk (v := (.pointer (some ⟨b1, 0, none⟩))) rfl rfl (Lk.fldAddr rfl Tryz.underlying33 rfl rfl T30 rfl rfl rfl) fun _ => ?_)); refine Xk rfl rfl (Lk.load1 (v := (.slice p0_0.a p0_0.l p0_0.c)) rfl Tryz.underlying30 rfl rfl (H.rd_loc ok (i := 0) rfl rfl)) fun _ => ?_; refine Xk rfl rfl (Lk.len rfl Tryz.underlying30 rfl) fun _ => ?_; refine Xm rfl rfl rfl rfl fun _ => ?_; refine R.nil (EvC.block (EvC.loop (LoopC.lfp (σ := Int) (fun s => (Ep (Ep (Ep (Ep (Ep (Ep E0 22 (i6 s)) 21 (i6 (p0_0.l : Int))) 20 (.slice p0_0.a p0_0.l p0_0.c)) 6 (.pointer (some ⟨b6, 0, none⟩))) 5 (.map (some b16))) 1 (.pointer (some ⟨b1, 0, none⟩)))) (fun s => [(b1, .row ⟨[(.slice p0_0.a p0_0.l p0_0.c), (.slice p0_1.a p0_1.l p0_1.c)], 2, 33, true, true⟩)]) (fun X_1 hX_1 => ?_) hS (ok.sub (.cons_cons _ sl0)) (lq rfl (lq rfl (lq rfl (lq rfl (lq rfl (lq rfl (lz _))))))) (H.add_sub ok (.cons_cons _ sl0))))); intro v22 h_19 hS ok; replace hS : S26_l6 p0_0 p0_1 K b16 b6 X_1 v22 h_19 := hS; unfold S26_l6 at hS; refine EvC.seq (Xr [.look 0] (Xk rfl rfl (Lk.arith rfl rfl rfl rfl) fun _ => ?_)); refine R.nil (EvC.seq ?_)
      by_cases e20 : (decide (v22 < (p0_0.l : Int))) = true
      · rw [if_pos e20] at hS; refine EvC.condT rfl e20 (EvC.skip (EvC.seq (EvC.block (EvC.seq (Xr [.look 0, .look 1, .look 2] ?_)))))
        obtain ⟨a24, e21, e22, e23, hS⟩ := hS
        refine Xk rfl rfl (Lk.ixAddr rfl Tryz.underlying30 T4 rfl e21 rfl e22 e23) fun _ => ?_
        obtain ⟨v25, e24, hS⟩ := hS
        refine Xk rfl rfl (Look.loc ok (Lk.load1 rfl Tryz.underlying4 rfl rfl e24)) fun _ => ?_; refine Xa rfl rfl rfl rfl fun _ => ?_; refine R.nil (Xr [.look 0, .look 1, .look 2, .eff 3 []] (Xm rfl rfl rfl rfl fun _ => Xm rfl rfl rfl rfl fun _ => ?_))
        obtain ⟨v28, e25, hS⟩ := hS
        refine Xk rfl rfl (Look.loc ok (Lk.lookup rfl Tryz.underlying119 Tryz.underlying4 rfl T9 rfl rfl e25)) fun _ => ?_; refine R.eff rfl rfl rfl (Eff.loc ok (Ef.call rfl CB55 rfl ((f55_ok hS).mono ?_))); rintro _ h_20 ⟨v29_0, v29_1, rfl, hS⟩; refine fun ok => ⟨noChk, ?_⟩; refine R.nil (Xr [.look 0, .look 1] (Xk rfl rfl (Lk.arith rfl rfl rfl rfl) fun _ => Xm rfl rfl rfl rfl fun _ => R.nil ?_)); exact hX_1 (IntKind.wrap .i64 (v22 + 1)) _ _ _ hS (ok.sub (.cons_cons _ sl0)) (lq rfl (lq rfl (lq rfl (lq rfl (lq rfl (lq rfl (lz _))))))) (H.add_sub ok (.cons_cons _ sl0))
      · rw [if_neg e20] at hS; replace e20 := eq_false_of_ne_true e20; refine EvC.condF rfl e20 (EvC.exit ?_); exact hIh_7 () _ _ _ (lq rfl (lq rfl (lz _))) (ok.sub (.cons_cons _ sl0)) (H.add_sub ok (.cons_cons _ sl0)) hS

theorem f104_ok {p0 : Int} {p1 : Int} {h : H} {K : Int → H → Prop} (hS : S104 p0 p1 h K) : ACall Tryz.prog 104 ([(i6 p0), (i6 p1)] : List Value).toArray h (fun r h' => ∃ r0 : Int, r = tup [(i6 r0)] ∧ K r0 h') := by
  refine ACall.enter (fn := Tryz.f104) Tryz.func104 rfl (Nat.le_of_ble_eq_true rfl) ?_; unfold S104 at hS; have ok := Lok.nil h; refine EvC.seq (Xr [.look 0] (Xa rfl rfl rfl rfl fun _ => ?_)); refine R.nil (EvC.seq (EvC.seq (Xr [.look 0, .eff 1 [], .look 2] (Xm rfl rfl rfl rfl fun _ => R.eff rfl rfl rfl (Eff.loc ok (Ef.call rfl CB48 rfl ((f48_ok hS).mono ?_))))))); rintro _ h_1 ⟨v6, rfl, hS⟩; refine fun ok => ⟨noChk, ?_⟩; refine Xk rfl rfl (Lk.not rfl rfl) fun _ => ?_; refine R.nil ?_
  by_cases e1 : (!v6) = true
  · rw [if_pos e1] at hS; refine EvC.condT rfl e1 (EvC.seq (Xr [.look 0] (Xa rfl rfl rfl rfl fun _ => ?_))); refine R.nil (EvC.ret ?_); exact ⟨.inr rfl, _, _, (.cons (.tmp rfl) .nil), ok.le, _, rfl, hS⟩
  · rw [if_neg e1] at hS; replace e1 := eq_false_of_ne_true e1; refine EvC.condF rfl e1 (EvC.skip (EvC.seq (Xr [.look 0, .look 1, .look 2, .look 3, .look 4, .look 5, .look 6] (Xm rfl rfl rfl rfl fun _ => ?_)))); refine Xm rfl rfl rfl rfl fun _ => ?_; refine Xk rfl rfl (Lk.rem (j := 4) rfl rfl rfl (by decide)) fun _ => ?_; refine Xk rfl rfl (Lk.arith rfl rfl rfl rfl) fun _ => ?_; refine Xk rfl rfl (Lk.arith rfl rfl rfl rfl) fun _ => ?_; refine Xk rfl rfl (Lk.rem (j := 4) rfl rfl rfl (by decide)) fun _ => ?_; refine Xa rfl rfl rfl rfl fun _ => ?_; refine R.nil (EvC.ret ?_); exact ⟨.inr rfl, _, _, (.cons (.tmp rfl) .nil), ok.le, _, rfl, hS⟩

theorem f105_ok {p0 : Sl} {h : H} {K : H → Prop} (hS : S105 p0 h K) : ACall Tryz.prog 105 ([(.slice p0.a p0.l p0.c)] : List Value).toArray h (fun r h' => r = tup [] ∧ K  h') := by
  refine ACall.enter (fn := Tryz.f105) Tryz.func105 rfl (Nat.le_of_ble_eq_true rfl) ?_; unfold S105 at hS; have ok := Lok.nil h; refine EvC.seq (Xr [.look 0, .look 1, .look 2, .look 3, .look 4] (Xm rfl rfl rfl rfl fun _ => ?_)); refine Xk rfl rfl (Lk.len rfl Tryz.underlying50 rfl) fun _ => ?_; refine Xk rfl rfl (Lk.arith rfl rfl rfl rfl) fun _ => ?_; refine Xa rfl rfl rfl rfl fun _ => ?_; refine Xa rfl rfl rfl rfl fun _ => ?_; refine R.nil (EvC.block (EvC.loop (LoopC.lfp (σ := Int × Int) (fun s => (Ep (Ep (Ep E0 3 (i6 s.2)) 2 (i6 s.1)) 0 (.slice p0.a p0.l p0.c))) (fun s => []) (fun X hX => ?_) hS (ok.sub sl0) (lq rfl (lq rfl (lq rfl (lz _)))) (H.add_sub ok sl0)))); rintro ⟨v2, v3⟩ h_1 hS ok; replace hS : S105_l1 p0 K X v2 v3 h_1 := hS; unfold S105_l1 at hS; refine EvC.seq (EvC.seq (Xr [.look 0, .look 1, .look 2] (Xm rfl rfl rfl rfl fun _ => ?_))); refine Xm rfl rfl rfl rfl fun _ => ?_; refine Xk rfl rfl (Lk.arith rfl rfl rfl rfl) fun _ => ?_; refine R.nil ?_
  by_cases e1 : (decide (v2 < v3)) = true
  · rw [if_pos e1] at hS; refine EvC.condT rfl e1 (EvC.skip (EvC.seq (EvC.block (EvC.draw [0, 0, 0, 0, 0, 0, 48, 112, 0, 0, 768, 1792, 4083, 8179, 16383, 32767] [Item.look 0, Item.look 1, Item.look 2, Item.look 3, Item.look 4, Item.look 5, Item.look 6, Item.look 7, Item.look 8, Item.look 9, Item.look 10, Item.look 11, Item.look 12, Item.eff 13 [2, 3], Item.look 14, Item.eff 15 []] MO (by kernel_rfl) ?_)))); refine R.lookL rfl rfl rfl (Lk.move rfl rfl) ?_; refine R.lookL rfl rfl rfl (Lk.move rfl rfl) ?_; refine R.lookL rfl rfl rfl (Lk.move rfl rfl) ?_; refine R.lookL rfl rfl rfl (Lk.move rfl rfl) ?_; refine R.lookL rfl rfl rfl (Lk.move rfl rfl) ?_; refine R.lookL rfl rfl rfl (Lk.move rfl rfl) ?_
    obtain ⟨a20, e2, e3, e4, hS⟩ := hS
    refine R.lookL rfl rfl rfl (Lk.ixAddr rfl Tryz.underlying50 T5 rfl e2 rfl e3 e4) ?_
    obtain ⟨v21, e5, hS⟩ := hS
    refine R.lookL rfl rfl rfl (Look.loc ok (Lk.load1 rfl Tryz.underlying5 rfl rfl e5)) ?_; refine R.lookL rfl rfl rfl (Lk.move rfl rfl) ?_; refine R.lookL rfl rfl rfl (Lk.move rfl rfl) ?_
    obtain ⟨a24, e6, e7, e8, hS⟩ := hS
    refine R.lookL rfl rfl rfl (Lk.ixAddr rfl Tryz.underlying50 T5 rfl e6 rfl e7 e8) ?_
    obtain ⟨v25, e9, hS⟩ := hS
    refine R.lookL rfl rfl rfl (Look.loc ok (Lk.load1 rfl Tryz.underlying5 rfl rfl e9)) ?_
    obtain ⟨a26, e10, e11, e12, hS⟩ := hS
    refine R.lookL rfl rfl rfl (Lk.ixAddr rfl Tryz.underlying50 T5 rfl e10 rfl e11 e12) ?_
    obtain ⟨h_2, e13, hS⟩ := hS
    refine R.effN rfl rfl rfl (Eff.loc ok (Ef.store rfl T5 rfl rfl rfl rfl rfl e13 fun ok => ⟨(List.forall_mem_cons.2 ⟨(XP (XP (XP (XP (XP (XP (XP (XP (XP (XP (Log.at_ (LookG.of rfl (Lk.move rfl rfl))))))))))))), (List.forall_mem_cons.2 ⟨(XP (XP (XP (XP (XP (XP (XP (XP (XP (Log.at_ (LookG.of rfl (Lk.move rfl rfl)))))))))))), noChk⟩)⟩), ?_⟩))
    obtain ⟨a27, e14, e15, e16, hS⟩ := hS
    refine R.lookL rfl rfl rfl (Lk.ixAddr rfl Tryz.underlying50 T5 rfl e14 rfl e15 e16) ?_
    obtain ⟨h_3, e17, hS⟩ := hS
    refine R.effN rfl rfl rfl (Eff.loc ok (Ef.store rfl T5 rfl rfl rfl rfl rfl e17 fun ok => ⟨noChk, ?_⟩)); refine R.nil (Xr [.look 0, .look 1, .look 2, .look 3, .look 4, .look 5] (Xm rfl rfl rfl rfl fun _ => Xk rfl rfl (Lk.arith rfl rfl rfl rfl) fun _ => Xm rfl rfl rfl rfl fun _ => Xk rfl rfl (Lk.arith rfl rfl rfl rfl) fun _ => Xa rfl rfl rfl rfl fun _ => Xa rfl rfl rfl rfl fun _ => R.nil ?_)); exact hX ((IntKind.wrap .i64 (v2 + 1)), (IntKind.wrap .i64 (v3 - 1))) _ _ _ hS (ok.sub sl0) (lq rfl (lq rfl (lq rfl (lz _)))) (H.add_sub ok sl0)
  · rw [if_neg e1] at hS; replace e1 := eq_false_of_ne_true e1; refine EvC.condF rfl e1 (EvC.exit ?_); exact ⟨.inl rfl, _, _, .nil, ok.le, rfl, hS⟩

theorem f58_ok {p0_0 : Int} {p0_1 : Int} {p0_2 : Int} {p0_3 : ByteArray} {h : H} {K : Int → Int → Int → ByteArray → Int → H → Prop} (hS : S58 p0_0 p0_1 p0_2 p0_3 h K) : ACall Tryz.prog 58 ([(.agg ([(i6 p0_0), (i6 p0_1), (i6 p0_2), (.string p0_3)] : List Value).toArray)] : List Value).toArray h (fun r h' => ∃ r0_0 : Int, ∃ r0_1 : Int, ∃ r0_2 : Int, ∃ r0_3 : ByteArray, ∃ r1 : Int, r = tup [(.agg ([(i6 r0_0), (i6 r0_1), (i6 r0_2), (.string r0_3)] : List Value).toArray), (i6 r1)] ∧ K r0_0 r0_1 r0_2 r0_3 r1 h') := by
  refine ACall.enter (fn := Tryz.f58) Tryz.func58 rfl (Nat.le_of_ble_eq_true rfl) ?_; unfold S58 at hS; have ok := Lok.nil h; refine EvC.seq (Xr [.alc 0, .alc 1, .look 2] (R.var (blk := .row ⟨[(i6 p0_0), (i6 p0_1), (i6 p0_2), (.string p0_3)], 4, 61, true, true⟩) ok rfl rfl rfl (Ac.box rfl rfl) rfl rfl fun b1 ok => ?_)); refine R.var (blk := .row ⟨[(i6 0), (i6 0), (i6 0), (.string ⟨#[]⟩)], 4, 61, true, true⟩) ok rfl rfl rfl (Ac.alloc rfl T61) rfl rfl fun b2 ok => ?_; refine Xa rfl rfl rfl rfl fun _ => ?_; refine R.nil (EvC.seq (EvC.join (σ := Bool) (fun s => (Ep (Ep (Ep E0 17 (.bool s)) 2 (.pointer (some ⟨b2, 0, none⟩))) 1 (.pointer (some ⟨b1, 0, none⟩)))) (fun s => [(b2, .row ⟨[(i6 0), (i6 0), (i6 0), (.string ⟨#[]⟩)], 4, 61, true, true⟩), (b1, .row ⟨[(i6 p0_0), (i6 p0_1), (i6 p0_2), (.string p0_3)], 4, 61, true, true⟩)]) (fun s h_1 => S58_j4 p0_0 p0_1 p0_2 p0_3 K s h_1) ?_ (fun Ih_1 hIh_1 => ?_)))
  · intro v17 h_1 ok hS; replace hS : S58_j4 p0_0 p0_1 p0_2 p0_3 K v17 h_1 := hS; unfold S58_j4 at hS
    by_cases e1 : v17 = true
    · rw [if_pos e1] at hS; refine EvC.condT rfl e1 (EvC.seq (Xr [.look 0, .eff 1 [], .look 2] (Xk rfl rfl (Lk.build (cs := [(i6 0), (i6 0), (i6 0), (.string ⟨#[]⟩)]) (pl := [(0, 1), (1, 1), (2, 1), (3, 1)]) rfl Tryz.underlying61 T61 (PlacesL.places (.cons T3 (.cons T3 (.cons T3 (.cons T9 PlacesL.nil))))) rfl rfl) fun _ => ?_))); refine R.effN rfl rfl rfl (Ef.storeLoc (i := 0) (vs := [(i6 0), (i6 0), (i6 0), (.string ⟨#[]⟩)]) (cs := [(i6 0), (i6 0), (i6 0), (.string ⟨#[]⟩)]) (l' := [(b2, .row ⟨[(i6 0), (i6 0), (i6 0), (.string ⟨#[]⟩)], 4, 61, true, true⟩), (b1, .row ⟨[(i6 p0_0), (i6 p0_1), (i6 p0_2), (.string p0_3)], 4, 61, true, true⟩)]) ok rfl T61 rfl rfl rfl rfl rfl rfl rfl rfl rfl rfl fun ok => ⟨noChk, ?_⟩); refine Xa rfl rfl rfl rfl fun _ => ?_; refine R.nil (EvC.ret ?_); exact ⟨.inr rfl, _, _, (.cons (.cells rfl (fun w => Und.agg Tryz.underlying61 w) (fun w => T61.size_ w) (H.rdn_loc ok (i := 0) rfl rfl rfl)) (.cons (.tmp rfl) .nil)), ok.le, _, _, _, _, _, rfl, hS⟩
    · rw [if_neg e1] at hS; replace e1 := eq_false_of_ne_true e1; refine EvC.condF rfl e1 (EvC.skip (EvC.seq (Xr [.look 0, .look 1, .look 2] (Xk (v := (.pointer (some ⟨b1, 2, none⟩))) rfl rfl (Lk.fldAddr rfl Tryz.underlying61 rfl rfl T3 rfl rfl rfl) fun _ => ?_)))); refine Xk rfl rfl (Lk.load1 (v := (i6 p0_2)) rfl Tryz.underlying3 rfl rfl (H.rd_loc ok (i := 1) rfl rfl)) fun _ => ?_; refine Xa rfl rfl rfl rfl fun _ => ?_; refine R.nil (EvC.seq (Xr [.look 0, .look 1, .eff 2 [], .look 3] (Xk (v := (.pointer (some ⟨b1, 3, none⟩))) rfl rfl (Lk.fldAddr rfl Tryz.underlying61 rfl rfl T9 rfl rfl rfl) fun _ => Xk rfl rfl (Lk.load1 (v := (.string p0_3)) rfl Tryz.underlying9 rfl rfl (H.rd_loc ok (i := 1) rfl rfl)) fun _ => R.eff rfl rfl rfl (Eff.loc ok (Ef.toBytes rfl Tryz.underlying9 Tryz.underlying50 Tryz.underlying5 rfl fun v23 h_2 q => ?_))))); replace hS := hS v23 h_2 q; refine fun ok => ⟨noChk, ?_⟩; refine Xa rfl rfl rfl rfl fun _ => ?_; refine R.nil (EvC.join (σ := Int) (fun s => (Ep (Ep (Ep (Ep E0 5 (.slice v23.a v23.l v23.c)) 4 (i6 s)) 2 (.pointer (some ⟨b2, 0, none⟩))) 1 (.pointer (some ⟨b1, 0, none⟩)))) (fun s => [(b2, .row ⟨[(i6 0), (i6 0), (i6 0), (.string ⟨#[]⟩)], 4, 61, true, true⟩), (b1, .row ⟨[(i6 p0_0), (i6 p0_1), (i6 p0_2), (.string p0_3)], 4, 61, true, true⟩)]) (fun s h_3 => S58_j1 p0_0 p0_1 K v23 s h_3) ?_ (fun Ih_3 hIh_3 => ?_))
      · intro v4 h_3 ok hS; replace hS : S58_j1 p0_0 p0_1 K v23 v4 h_3 := hS; unfold S58_j1 at hS; refine EvC.seq (Xr [.look 0, .eff 1 []] (Xm rfl rfl rfl rfl fun _ => ?_)); refine R.eff rfl rfl rfl (Eff.loc ok (Ef.call rfl CB105 rfl ((f105_ok hS).mono ?_))); rintro _ h_4 ⟨rfl, hS⟩; refine fun ok => ⟨noChk, ?_⟩; refine R.nil (EvC.seq (EvC.draw [0, 1, 0, 4, 0, 16, 0, 64, 255, 511, 1023] [Item.look 0, Item.look 1, Item.look 2, Item.look 3, Item.look 4, Item.look 6, Item.look 7, Item.eff 5 [0, 1, 2, 3, 6, 7], Item.look 8, Item.eff 9 [], Item.look 10] MO (by kernel_rfl) ?_)); refine R.lookL (v := (.pointer (some ⟨b1, 1, none⟩))) rfl rfl rfl (Lk.fldAddr rfl Tryz.underlying61 rfl rfl T3 rfl rfl rfl) ?_; refine R.lookL rfl rfl rfl (Lk.load1 (v := (i6 p0_1)) rfl Tryz.underlying3 rfl rfl (H.rd_loc ok (i := 1) rfl rfl)) ?_; refine R.lookL (v := (.pointer (some ⟨b1, 0, none⟩))) rfl rfl rfl (Lk.fldAddr rfl Tryz.underlying61 rfl rfl T3 rfl rfl rfl) ?_; refine R.lookL rfl rfl rfl (Lk.load1 (v := (i6 p0_0)) rfl Tryz.underlying3 rfl rfl (H.rd_loc ok (i := 1) rfl rfl)) ?_; refine R.lookL rfl rfl rfl (Lk.move rfl rfl) ?_; refine R.lookL rfl rfl rfl (Lk.move rfl rfl) ?_
        obtain ⟨v53, e2, hS⟩ := hS
        refine R.lookL rfl rfl rfl (Look.loc ok (Lk.toStr rfl Tryz.underlying50 Tryz.underlying9 Tryz.underlying5 rfl e2)) ?_; refine R.eff rfl rfl rfl (Eff.loc ok (Ef.call rfl CB104 rfl ((f104_ok hS).mono ?_))); rintro _ h_5 ⟨v51, rfl, hS⟩
        obtain ⟨e3, hS⟩ := hS
        refine fun ok => ⟨(List.forall_mem_cons.2 ⟨(XP (XP (XP (XP (XP (XP (Log.at_ (LookG.of rfl (Lk.fldAddr rfl Tryz.underlying61 rfl rfl T3 rfl rfl rfl))))))))), (List.forall_mem_cons.2 ⟨(XP (XP (XP (XP (XP (Log.at_ (LookG.of rfl (Lk.load1 (v := (i6 p0_1)) rfl Tryz.underlying3 rfl rfl (H.rd_loc ok (i := 1) rfl rfl))))))))), (List.forall_mem_cons.2 ⟨(XP (XP (XP (XP (Log.at_ (LookG.of rfl (Lk.fldAddr rfl Tryz.underlying61 rfl rfl T3 rfl rfl rfl))))))), (List.forall_mem_cons.2 ⟨(XP (XP (XP (Log.at_ (LookG.of rfl (Lk.load1 (v := (i6 p0_0)) rfl Tryz.underlying3 rfl rfl (H.rd_loc ok (i := 1) rfl rfl))))))), (List.forall_mem_cons.2 ⟨(XP (Log.at_ (LookG.of rfl (Lk.move rfl rfl)))), (List.forall_mem_cons.2 ⟨(Log.at_ (LookG.of rfl (Look.loc ok (Lk.toStr rfl Tryz.underlying50 Tryz.underlying9 Tryz.underlying5 rfl e3)))), noChk⟩)⟩)⟩)⟩)⟩)⟩), ?_⟩; refine R.lookL rfl rfl rfl (Lk.build (cs := [(i6 p0_1), (i6 p0_0), (i6 v51), (.string v53)]) (pl := [(0, 1), (1, 1), (2, 1), (3, 1)]) rfl Tryz.underlying61 T61 (PlacesL.places (.cons T3 (.cons T3 (.cons T3 (.cons T9 PlacesL.nil))))) rfl rfl) ?_; refine R.effN rfl rfl rfl (Ef.storeLoc (i := 0) (vs := [(i6 p0_1), (i6 p0_0), (i6 v51), (.string v53)]) (cs := [(i6 p0_1), (i6 p0_0), (i6 v51), (.string v53)]) (l' := [(b2, .row ⟨[(i6 p0_1), (i6 p0_0), (i6 v51), (.string v53)], 4, 61, true, true⟩), (b1, .row ⟨[(i6 p0_0), (i6 p0_1), (i6 p0_2), (.string p0_3)], 4, 61, true, true⟩)]) ok rfl T61 rfl rfl rfl rfl rfl rfl rfl rfl rfl rfl fun ok => ⟨noChk, ?_⟩); refine R.lookL rfl rfl rfl (Lk.assign rfl rfl) ?_; refine R.nil (EvC.ret ?_); exact ⟨.inr rfl, _, _, (.cons (.cells rfl (fun w => Und.agg Tryz.underlying61 w) (fun w => T61.size_ w) (H.rdn_loc ok (i := 0) rfl rfl rfl)) (.cons (.tmp rfl) .nil)), ok.le, _, _, _, _, _, rfl, hS⟩
      · refine EvC.seq (Xr [.look 0, .look 1, .look 2] (Xm rfl rfl rfl rfl fun _ => ?_)); refine Xk rfl rfl (Lk.len rfl Tryz.underlying50 rfl) fun _ => ?_; refine Xm rfl rfl rfl rfl fun _ => ?_; refine R.nil (EvC.block (EvC.loop (LoopC.lfp (σ := Int × Int) (fun s => (Ep (Ep (Ep (Ep (Ep (Ep (Ep E0 26 (i6 s.2)) 25 (i6 (v23.l : Int))) 24 (.slice v23.a v23.l v23.c)) 5 (.slice v23.a v23.l v23.c)) 4 (i6 s.1)) 2 (.pointer (some ⟨b2, 0, none⟩))) 1 (.pointer (some ⟨b1, 0, none⟩)))) (fun s => [(b2, .row ⟨[(i6 0), (i6 0), (i6 0), (.string ⟨#[]⟩)], 4, 61, true, true⟩), (b1, .row ⟨[(i6 p0_0), (i6 p0_1), (i6 p0_2), (.string p0_3)], 4, 61, true, true⟩)]) (fun X hX => ?_) hS (ok.sub (.cons_cons _ (.cons_cons _ sl0))) (lq rfl (lq rfl (lq rfl (lq rfl (lq rfl (lq rfl (lq rfl (lz _)))))))) (H.add_sub ok (.cons_cons _ (.cons_cons _ sl0)))))); rintro ⟨v4_1, v26⟩ h_6 hS ok; replace hS : S58_l3 p0_0 p0_1 K v23 X v4_1 v26 h_6 := hS; unfold S58_l3 at hS; refine EvC.seq (Xr [.look 0] (Xk rfl rfl (Lk.arith rfl rfl rfl rfl) fun _ => ?_)); refine R.nil (EvC.seq ?_)
        by_cases e4 : (decide (v26 < (v23.l : Int))) = true
        · rw [if_pos e4] at hS; refine EvC.condT rfl e4 (EvC.skip (EvC.join (σ := Int) (fun s => (Ep (Ep (Ep (Ep (Ep (Ep (Ep E0 26 (i6 v26)) 25 (i6 (v23.l : Int))) 24 (.slice v23.a v23.l v23.c)) 5 (.slice v23.a v23.l v23.c)) 4 (i6 s)) 2 (.pointer (some ⟨b2, 0, none⟩))) 1 (.pointer (some ⟨b1, 0, none⟩)))) (fun s => [(b2, .row ⟨[(i6 0), (i6 0), (i6 0), (.string ⟨#[]⟩)], 4, 61, true, true⟩), (b1, .row ⟨[(i6 p0_0), (i6 p0_1), (i6 p0_2), (.string p0_3)], 4, 61, true, true⟩)]) (fun s h_7 => S58_j2 v26 X s h_7) ?_ (fun Ih_7 hIh_7 => ?_)))
          · intro v4_2 h_7 ok hS; replace hS : S58_j2 v26 X v4_2 h_7 := hS; unfold S58_j2 at hS; refine Xr [.look 0, .look 1] (Xk rfl rfl (Lk.arith rfl rfl rfl rfl) fun _ => ?_); refine Xm rfl rfl rfl rfl fun _ => ?_; refine R.nil ?_; exact hX (v4_2, (IntKind.wrap .i64 (v26 + 1))) _ _ _ hS (ok.sub (.cons_cons _ (.cons_cons _ sl0))) (lq rfl (lq rfl (lq rfl (lq rfl (lq rfl (lq rfl (lq rfl (lz _)))))))) (H.add_sub ok (.cons_cons _ (.cons_cons _ sl0)))
          · refine EvC.block (EvC.seq (Xr [.look 0, .look 1, .look 2, .look 3, .look 4] (Xm rfl rfl rfl rfl fun _ => ?_)))
            obtain ⟨a29, e5, e6, e7, hS⟩ := hS
            refine Xk rfl rfl (Lk.ixAddr rfl Tryz.underlying50 T5 rfl e5 rfl e6 e7) fun _ => ?_
            obtain ⟨v30, e8, hS⟩ := hS
            refine Xk rfl rfl (Look.loc ok (Lk.load1 rfl Tryz.underlying5 rfl rfl e8)) fun _ => ?_; refine Xa rfl rfl rfl rfl fun _ => ?_; refine Xa rfl rfl rfl rfl fun _ => ?_; refine R.nil (EvC.seq (Xr [.look 0, .look 1] (Xm rfl rfl rfl rfl fun _ => Xk rfl rfl (Lk.arith rfl rfl rfl rfl) fun _ => R.nil ?_)))
            by_cases e9 : (v30 == 76) = true
            · rw [if_pos e9] at hS; refine EvC.condT rfl e9 (Xr [.look 0, .look 1, .look 2, .eff 3 [], .look 4, .look 5, .eff 6 []] (Xm rfl rfl rfl rfl fun _ => ?_)); refine Xm rfl rfl rfl rfl fun _ => ?_; refine Xm rfl rfl rfl rfl fun _ => ?_; refine R.eff rfl rfl rfl (Eff.loc ok (Ef.call rfl CB104 rfl ((f104_ok hS).mono ?_))); rintro _ h_8 ⟨v36, rfl, hS⟩; refine fun ok => ⟨noChk, ?_⟩; refine Xa rfl rfl rfl rfl fun _ => ?_
              obtain ⟨a37, e10, e11, e12, hS⟩ := hS
              refine Xk rfl rfl (Lk.ixAddr rfl Tryz.underlying50 T5 rfl e10 rfl e11 e12) fun _ => ?_
              obtain ⟨h_9, e13, hS⟩ := hS
              refine R.effN rfl rfl rfl (Eff.loc ok (Ef.store rfl T5 rfl rfl rfl rfl rfl e13 fun ok => ⟨noChk, ?_⟩)); refine R.nil ?_; exact hIh_7 v36 _ _ _ (lq rfl (lq rfl (lq rfl (lq rfl (lq rfl (lq rfl (lq rfl (lz _)))))))) (ok.sub (.cons_cons _ (.cons_cons _ sl0))) (H.add_sub ok (.cons_cons _ (.cons_cons _ sl0))) hS
            · rw [if_neg e9] at hS; replace e9 := eq_false_of_ne_true e9; refine EvC.condF rfl e9 (Xr [.look 0, .look 1, .look 2, .eff 3 [], .look 4, .look 5, .eff 6 []] (Xm rfl rfl rfl rfl fun _ => ?_)); refine Xm rfl rfl rfl rfl fun _ => ?_; refine Xm rfl rfl rfl rfl fun _ => ?_; refine R.eff rfl rfl rfl (Eff.loc ok (Ef.call rfl CB104 rfl ((f104_ok hS).mono ?_))); rintro _ h_10 ⟨v41, rfl, hS⟩; refine fun ok => ⟨noChk, ?_⟩; refine Xa rfl rfl rfl rfl fun _ => ?_
              obtain ⟨a42, e14, e15, e16, hS⟩ := hS
              refine Xk rfl rfl (Lk.ixAddr rfl Tryz.underlying50 T5 rfl e14 rfl e15 e16) fun _ => ?_
              obtain ⟨h_11, e17, hS⟩ := hS
              refine R.effN rfl rfl rfl (Eff.loc ok (Ef.store rfl T5 rfl rfl rfl rfl rfl e17 fun ok => ⟨noChk, ?_⟩)); refine R.nil ?_; exact hIh_7 v41 _ _ _ (lq rfl (lq rfl (lq rfl (lq rfl (lq rfl (lq rfl (lq rfl (lz _)))))))) (ok.sub (.cons_cons _ (.cons_cons _ sl0))) (H.add_sub ok (.cons_cons _ (.cons_cons _ sl0))) hS
        · rw [if_neg e4] at hS; replace e4 := eq_false_of_ne_true e4; refine EvC.condF rfl e4 (EvC.exit ?_); exact hIh_3 v4_1 _ _ _ (lq rfl (lq rfl (lq rfl (lq rfl (lz _))))) (ok.sub (.cons_cons _ (.cons_cons _ sl0))) (H.add_sub ok (.cons_cons _ (.cons_cons _ sl0))) hS
  · refine Xr [.look 0, .look 1, .eff 2 [], .look 3, .look 4, .look 5, .look 6, .eff 7 [], .look 8, .look 9] (Xk (v := (.pointer (some ⟨b1, 2, none⟩))) rfl rfl (Lk.fldAddr rfl Tryz.underlying61 rfl rfl T3 rfl rfl rfl) fun _ => ?_); refine Xk rfl rfl (Lk.load1 (v := (i6 p0_2)) rfl Tryz.underlying3 rfl rfl (H.rd_loc ok (i := 1) rfl rfl)) fun _ => ?_; refine R.eff rfl rfl rfl (Eff.loc ok (Ef.call rfl CB48 rfl ((f48_ok hS).mono ?_))); rintro _ h_12 ⟨v10, rfl, hS⟩; refine fun ok => ⟨noChk, ?_⟩; refine Xk rfl rfl (Lk.not rfl rfl) fun _ => ?_; refine Xm rfl rfl rfl rfl fun _ => ?_
    by_cases e18 : (!v10) = true
    · rw [if_pos e18] at hS; refine R.lookF rfl rfl rfl rfl e18 rfl fun _ => R.lookF rfl rfl rfl rfl e18 rfl fun _ => R.effF rfl rfl rfl rfl e18 rfl ?_; refine R.lookF rfl rfl rfl rfl e18 rfl fun _ => Xk rfl rfl (Lk.pick rfl rfl (fun _ => rfl) (fun e => by rw [e18] at e; cases e)) fun _ => R.nil ?_; exact hIh_1 true _ _ _ (lq rfl (lq rfl (lq rfl (lz _)))) (ok.sub (.cons_cons _ (.cons_cons _ sl0))) (H.add_sub ok (.cons_cons _ (.cons_cons _ sl0))) hS
    · rw [if_neg e18] at hS; replace e18 := eq_false_of_ne_true e18; refine R.lookT (v := (.pointer (some ⟨b1, 3, none⟩))) rfl rfl rfl rfl e18 rfl (Lk.fldAddr rfl Tryz.underlying61 rfl rfl T9 rfl rfl rfl) fun _ => R.lookT rfl rfl rfl rfl e18 rfl (Lk.load1 (v := (.string p0_3)) rfl Tryz.underlying9 rfl rfl (H.rd_loc ok (i := 1) rfl rfl)) fun _ => R.effT rfl rfl rfl rfl e18 rfl (Eff.loc ok (Ef.call rfl CB88 rfl ((f88_ok hS).mono ?_))); rintro _ h_13 ⟨v15, rfl, hS⟩; refine fun ok => ⟨noChk, ?_⟩; refine R.lookT rfl rfl rfl rfl e18 rfl (Lk.strNe rfl rfl rfl) fun _ => Xk rfl rfl (Lk.pick rfl rfl (fun e => by rw [e18] at e; cases e) (fun _ => rfl)) fun _ => R.nil ?_; exact hIh_1 (!(ByteArray.toList v15 == ByteArray.toList ⟨#[]⟩)) _ _ _ (lq rfl (lq rfl (lq rfl (lz _)))) (ok.sub (.cons_cons _ (.cons_cons _ sl0))) (H.add_sub ok (.cons_cons _ (.cons_cons _ sl0))) hS

theorem f25_ok {h : H} {K : Bool → H → Prop} (hS : S25  h K) : ACall Tryz.prog 25 ([] : List Value).toArray h (fun r h' => ∃ r0 : Bool, r = tup [(.bool r0)] ∧ K r0 h') := by
  refine ACall.enter (fn := Tryz.f25) Tryz.func25 rfl (Nat.le_of_ble_eq_true rfl) ?_; unfold S25 at hS; have ok := Lok.nil h; refine EvC.seq (Xr [.look 0] (Xa rfl rfl rfl rfl fun _ => ?_)); refine R.nil (EvC.seq (Xr [.alc 0, .look 1, .alc 2, .look 3, .eff 4 [], .look 5, .look 6, .look 7, .look 8, .look 9] (R.new (blk := (.row ⟨[(.bool false), (.bool true)], 2, 4, true, true⟩)) ok rfl rfl rfl (Ac.buildSlice (cs := [(.bool false), (.bool true)]) rfl Tryz.underlying30 T4 (by decide) (by decide) rfl rfl) rfl rfl fun b8 e1 ok => ?_))); replace hS := hS b8 _ e1 rfl; refine Xk rfl rfl (Lk.build (cs := [(i6 0), (i6 1), (i6 0), (.string ⟨#[76]⟩)]) (pl := [(0, 1), (1, 1), (2, 1), (3, 1)]) rfl Tryz.underlying61 T61 (PlacesL.places (.cons T3 (.cons T3 (.cons T3 (.cons T9 PlacesL.nil))))) rfl rfl) fun _ => ?_; refine R.new (blk := (.row ⟨[(i6 0), (i6 1), (i6 0), (.string ⟨#[76]⟩)], 4, 61, true, true⟩)) ok rfl rfl rfl (Ac.buildSlice (cs := [(i6 0), (i6 1), (i6 0), (.string ⟨#[76]⟩)]) rfl Tryz.underlying31 T61 (by decide) (by decide) rfl rfl) rfl rfl fun b10 e2 ok => ?_; replace hS := hS b10 _ e2 rfl; refine Xk rfl rfl (Lk.build (cs := [(.slice (some ⟨b8, 0, none⟩) 2 2), (.slice (some ⟨b10, 0, none⟩) 1 1)]) (pl := [(0, 1), (1, 1)]) rfl Tryz.underlying33 T33 (PlacesL.places (.cons T30 (.cons T31 PlacesL.nil))) rfl rfl) fun _ => ?_; refine R.eff rfl rfl rfl (Eff.loc ok (Ef.call rfl CB26 rfl ((f26_ok hS).mono ?_))); rintro _ h_3 ⟨v12_0, v12_1, rfl, hS⟩; refine fun ok => ⟨noChk, ?_⟩; refine Xm rfl rfl rfl rfl fun _ => ?_; refine Xk rfl rfl (Lk.extract rfl rfl rfl) fun _ => ?_; refine Xk rfl rfl (Lk.extract rfl rfl rfl) fun _ => ?_; refine Xa rfl rfl rfl rfl fun _ => ?_; refine Xa rfl rfl rfl rfl fun _ => ?_; refine R.nil (EvC.seq (Xr [.look 0, .eff 1 [], .look 2, .look 3, .look 4, .alc 5, .eff 6 [], .look 7] (Xk rfl rfl (Lk.build (cs := [(i6 0), (i6 1), (i6 0), (.string ⟨#[76]⟩)]) (pl := [(0, 1), (1, 1), (2, 1), (3, 1)]) rfl Tryz.underlying61 T61 (PlacesL.places (.cons T3 (.cons T3 (.cons T3 (.cons T9 PlacesL.nil))))) rfl rfl) fun _ => R.eff rfl rfl rfl (Eff.loc ok (Ef.call rfl CB58 rfl ((f58_ok hS).mono ?_)))))); rintro _ h_4 ⟨v17_0_0, v17_0_1, v17_0_2, v17_0_3, v17_1, rfl, hS⟩; refine fun ok => ⟨noChk, ?_⟩; refine Xm rfl rfl rfl rfl fun _ => ?_; refine Xk rfl rfl (Lk.extract rfl rfl rfl) fun _ => ?_; refine Xk rfl rfl (Lk.extract rfl rfl rfl) fun _ => ?_; refine R.var (blk := .row ⟨[(i6 0), (i6 0), (i6 0), (.string ⟨#[]⟩)], 4, 61, true, true⟩) ok rfl rfl rfl (Ac.alloc rfl T61) rfl rfl fun b3 ok => ?_
  refine R.effN rfl rfl rfl (Ef.storeLoc (i := 0) (vs := [(i6 v17_0_0), (i6 v17_0_1), (i6 v17_0_2), (.string v17_0_3)]) (cs := [(i6 v17_0_0), (i6 v17_0_1), (i6 v17_0_2), (.string v17_0_3)]) (l' := [(b3, .row ⟨[(i6 v17_0_0), (i6 v17_0_1), (i6 v17_0_2), (.string v17_0_3)], 4, 61, true, true⟩)]) ok rfl T61 rfl rfl rfl rfl rfl rfl rfl rfl rfl rfl fun ok => ⟨noChk, ?_⟩); refine Xa rfl rfl rfl rfl fun _ => ?_; refine R.nil (EvC.seq (Xr [.look 0, .alc 1, .look 2, .eff 3 [], .look 4, .look 5, .look 6, .look 7, .look 8] (Xk rfl rfl (Lk.build (cs := [(i6 0), (i6 0), (i6 0), (.string ⟨#[]⟩)]) (pl := [(0, 1), (1, 1), (2, 1), (3, 1)]) rfl Tryz.underlying61 T61 (PlacesL.places (.cons T3 (.cons T3 (.cons T3 (.cons T9 PlacesL.nil))))) rfl rfl) fun _ => R.new (blk := (.row ⟨[(i6 0), (i6 0), (i6 0), (.string ⟨#[]⟩)], 4, 61, true, true⟩)) ok rfl rfl rfl (Ac.buildSlice (cs := [(i6 0), (i6 0), (i6 0), (.string ⟨#[]⟩)]) rfl Tryz.underlying31 T61 (by decide) (by decide) rfl rfl) rfl rfl fun b22 e3 ok => ?_))); replace hS := hS b22 _ e3 rfl; refine Xk rfl rfl (Lk.build (cs := [(.slice none 0 0), (.slice (some ⟨b22, 0, none⟩) 1 1)]) (pl := [(0, 1), (1, 1)]) rfl Tryz.underlying33 T33 (PlacesL.places (.cons T30 (.cons T31 PlacesL.nil))) rfl rfl) fun _ => ?_; refine R.eff rfl rfl rfl (Eff.loc ok (Ef.call rfl CB26 rfl ((f26_ok hS).mono ?_))); rintro _ h_6 ⟨v24_0, v24_1, rfl, hS⟩; refine fun ok => ⟨noChk, ?_⟩; refine Xm rfl rfl rfl rfl fun _ => ?_; refine Xk rfl rfl (Lk.extract rfl rfl rfl) fun _ => ?_; refine Xk rfl rfl (Lk.extract rfl rfl rfl) fun _ => ?_; refine Xa rfl rfl rfl rfl fun _ => ?_; refine Xa rfl rfl rfl rfl fun _ => ?_; refine R.nil (EvC.join (σ := Bool) (fun s => (Ep E0 0 (.bool s))) (fun s => []) (fun s h_7 => S25_j1 K s h_7) ?_ (fun Ih_7 hIh_7 => ?_))
  · intro v0 h_7 ok hS; replace hS : S25_j1 K v0 h_7 := hS; unfold S25_j1 at hS; refine EvC.ret ?_; exact ⟨.inr rfl, _, _, (.cons (.tmp rfl) .nil), ok.le, _, rfl, hS⟩
  · refine Xr [.look 0, .look 1, .look 2, .look 3, .look 4, .look 5, .look 6, .look 7, .look 8, .look 9, .look 10, .look 11, .look 12, .look 13, .look 14, .look 15, .look 16, .look 17, .look 18, .look 19] (Xm rfl rfl rfl rfl fun _ => ?_); refine Xk rfl rfl (Lk.strEq rfl rfl rfl) fun _ => ?_; refine Xm rfl rfl rfl rfl fun _ => ?_
    by_cases e4 : (ByteArray.toList v12_0 == ByteArray.toList ⟨#[115, 104, 97, 112, 101, 32, 112, 98, 10, 48, 32, 69, 32, 49, 32, 76, 10, 101, 110, 100, 10]⟩) = true
    · refine R.lookT rfl rfl rfl rfl e4 rfl (Lk.move rfl rfl) fun _ => R.lookT rfl rfl rfl rfl e4 rfl (Lk.arith rfl rfl rfl rfl) fun _ => Xk rfl rfl (Lk.pick rfl rfl (fun _ => rfl) (fun e => by rw [e4] at e; cases e)) fun _ => Xm rfl rfl rfl rfl fun _ => ?_
      by_cases e5 : (v12_1 == 0) = true
      · refine R.lookT rfl rfl rfl rfl e5 rfl (Lk.loadN (vs := [(i6 v17_0_0), (i6 v17_0_1), (i6 v17_0_2), (.string v17_0_3)]) rfl Tryz.underlying61 rfl T61 rfl (H.rdn_loc ok (i := 0) rfl rfl rfl)) fun _ => R.lookT rfl rfl rfl rfl e5 rfl (Lk.build (cs := [(i6 1), (i6 0), (i6 3), (.string ⟨#[82]⟩)]) (pl := [(0, 1), (1, 1), (2, 1), (3, 1)]) rfl Tryz.underlying61 T61 (PlacesL.places (.cons T3 (.cons T3 (.cons T3 (.cons T9 PlacesL.nil))))) rfl rfl) fun _ => R.lookT (v := (.bool ((v17_0_0 == 1) && ((v17_0_1 == 0) && ((v17_0_2 == 3) && ((ByteArray.toList v17_0_3 == ByteArray.toList ⟨#[82]⟩) && true)))))) rfl rfl rfl rfl e5 rfl (Lk.eqS rfl EG61 rfl rfl (EqR.struct Tryz.underlying61 SH61 (EqF.cons (a := (i6 v17_0_0)) (b := (i6 1)) (by decide) Tryz.underlying3 T3 rfl rfl (EqR.int Tryz.underlying3) (EqF.cons (a := (i6 v17_0_1)) (b := (i6 0)) (by decide) Tryz.underlying3 T3 rfl rfl (EqR.int Tryz.underlying3) (EqF.cons (a := (i6 v17_0_2)) (b := (i6 3)) (by decide) Tryz.underlying3 T3 rfl rfl (EqR.int Tryz.underlying3) (EqF.cons (a := (.string v17_0_3)) (b := (.string ⟨#[82]⟩)) (by decide) Tryz.underlying9 T9 rfl rfl (EqR.str Tryz.underlying9) EqF.nil)))))) fun _ => R.look (v := (.bool ((v17_0_0 == 1) && ((v17_0_1 == 0) && ((v17_0_2 == 3) && ((ByteArray.toList v17_0_3 == ByteArray.toList ⟨#[82]⟩) && true)))))) rfl rfl rfl (Lk.pick rfl rfl (fun _ => rfl) (fun e => by rw [e5] at e; cases e)) fun _ => R.look (v := (.bool ((v17_0_0 == 1) && ((v17_0_1 == 0) && ((v17_0_2 == 3) && ((ByteArray.toList v17_0_3 == ByteArray.toList ⟨#[82]⟩) && true)))))) rfl rfl rfl (Lk.move rfl rfl) fun _ => ?_
        by_cases e6 : ((v17_0_0 == 1) && ((v17_0_1 == 0) && ((v17_0_2 == 3) && ((ByteArray.toList v17_0_3 == ByteArray.toList ⟨#[82]⟩) && true)))) = true
        · refine R.lookT rfl rfl rfl rfl e6 rfl (Lk.move rfl rfl) fun _ => R.lookT rfl rfl rfl rfl e6 rfl (Lk.arith rfl rfl rfl rfl) fun _ => Xk rfl rfl (Lk.pick rfl rfl (fun _ => rfl) (fun e => by rw [e6] at e; cases e)) fun _ => Xm rfl rfl rfl rfl fun _ => ?_
          by_cases e7 : (v17_1 == 0) = true
          · refine R.lookT rfl rfl rfl rfl e7 rfl (Lk.move rfl rfl) fun _ => R.lookT rfl rfl rfl rfl e7 rfl (Lk.arith rfl rfl rfl rfl) fun _ => Xk rfl rfl (Lk.pick rfl rfl (fun _ => rfl) (fun e => by rw [e7] at e; cases e)) fun _ => Xa rfl rfl rfl rfl fun _ => R.nil ?_; exact hIh_7 (((((ByteArray.toList v12_0 == ByteArray.toList ⟨#[115, 104, 97, 112, 101, 32, 112, 98, 10, 48, 32, 69, 32, 49, 32, 76, 10, 101, 110, 100, 10]⟩) && (v12_1 == 0)) && ((v17_0_0 == 1) && ((v17_0_1 == 0) && ((v17_0_2 == 3) && ((ByteArray.toList v17_0_3 == ByteArray.toList ⟨#[82]⟩) && true))))) && (v17_1 == 0)) && (v24_1 == 3)) _ _ _ (lq (by rw [e4, e5, e6, e7]; rfl) (lz _)) (ok.sub (.cons _ sl0)) (H.add_sub ok (.cons _ sl0)) hS
          · replace e7 := eq_false_of_ne_true e7; refine R.lookF rfl rfl rfl rfl e7 rfl fun _ => R.lookF rfl rfl rfl rfl e7 rfl fun _ => Xk rfl rfl (Lk.pick rfl rfl (fun e => by rw [e7] at e; cases e) (fun _ => rfl)) fun _ => Xa rfl rfl rfl rfl fun _ => R.nil ?_; exact hIh_7 (((((ByteArray.toList v12_0 == ByteArray.toList ⟨#[115, 104, 97, 112, 101, 32, 112, 98, 10, 48, 32, 69, 32, 49, 32, 76, 10, 101, 110, 100, 10]⟩) && (v12_1 == 0)) && ((v17_0_0 == 1) && ((v17_0_1 == 0) && ((v17_0_2 == 3) && ((ByteArray.toList v17_0_3 == ByteArray.toList ⟨#[82]⟩) && true))))) && (v17_1 == 0)) && (v24_1 == 3)) _ _ _ (lq (by rw [e4, e5, e6, e7]; rfl) (lz _)) (ok.sub (.cons _ sl0)) (H.add_sub ok (.cons _ sl0)) hS
        · replace e6 := eq_false_of_ne_true e6; refine R.lookF rfl rfl rfl rfl e6 rfl fun _ => R.lookF rfl rfl rfl rfl e6 rfl fun _ => Xk rfl rfl (Lk.pick rfl rfl (fun e => by rw [e6] at e; cases e) (fun _ => rfl)) fun _ => Xm rfl rfl rfl rfl fun _ => R.lookF rfl rfl rfl rfl rfl rfl fun _ => R.lookF rfl rfl rfl rfl rfl rfl fun _ => Xk rfl rfl (Lk.pick rfl rfl (fun e => by cases e) (fun _ => rfl)) fun _ => Xa rfl rfl rfl rfl fun _ => R.nil ?_; exact hIh_7 (((((ByteArray.toList v12_0 == ByteArray.toList ⟨#[115, 104, 97, 112, 101, 32, 112, 98, 10, 48, 32, 69, 32, 49, 32, 76, 10, 101, 110, 100, 10]⟩) && (v12_1 == 0)) && ((v17_0_0 == 1) && ((v17_0_1 == 0) && ((v17_0_2 == 3) && ((ByteArray.toList v17_0_3 == ByteArray.toList ⟨#[82]⟩) && true))))) && (v17_1 == 0)) && (v24_1 == 3)) _ _ _ (lq (by rw [e4, e5, e6]; rfl) (lz _)) (ok.sub (.cons _ sl0)) (H.add_sub ok (.cons _ sl0)) hS
      · replace e5 := eq_false_of_ne_true e5; refine R.lookF rfl rfl rfl rfl e5 rfl fun _ => R.lookF rfl rfl rfl rfl e5 rfl fun _ => R.lookF rfl rfl rfl rfl e5 rfl fun _ => Xk rfl rfl (Lk.pick rfl rfl (fun e => by rw [e5] at e; cases e) (fun _ => rfl)) fun _ => Xm rfl rfl rfl rfl fun _ => R.lookF rfl rfl rfl rfl rfl rfl fun _ => R.lookF rfl rfl rfl rfl rfl rfl fun _ => Xk rfl rfl (Lk.pick rfl rfl (fun e => by cases e) (fun _ => rfl)) fun _ => Xm rfl rfl rfl rfl fun _ => R.lookF rfl rfl rfl rfl rfl rfl fun _ => R.lookF rfl rfl rfl rfl rfl rfl fun _ => Xk rfl rfl (Lk.pick rfl rfl (fun e => by cases e) (fun _ => rfl)) fun _ => Xa rfl rfl rfl rfl fun _ => ?_; refine R.nil ?_; exact hIh_7 (((((ByteArray.toList v12_0 == ByteArray.toList ⟨#[115, 104, 97, 112, 101, 32, 112, 98, 10, 48, 32, 69, 32, 49, 32, 76, 10, 101, 110, 100, 10]⟩) && (v12_1 == 0)) && ((v17_0_0 == 1) && ((v17_0_1 == 0) && ((v17_0_2 == 3) && ((ByteArray.toList v17_0_3 == ByteArray.toList ⟨#[82]⟩) && true))))) && (v17_1 == 0)) && (v24_1 == 3)) _ _ _ (lq (by rw [e4, e5]; rfl) (lz _)) (ok.sub (.cons _ sl0)) (H.add_sub ok (.cons _ sl0)) hS
    · replace e4 := eq_false_of_ne_true e4; refine R.lookF rfl rfl rfl rfl e4 rfl fun _ => R.lookF rfl rfl rfl rfl e4 rfl fun _ => Xk rfl rfl (Lk.pick rfl rfl (fun e => by rw [e4] at e; cases e) (fun _ => rfl)) fun _ => Xm rfl rfl rfl rfl fun _ => R.lookF rfl rfl rfl rfl rfl rfl fun _ => R.lookF rfl rfl rfl rfl rfl rfl fun _ => R.lookF rfl rfl rfl rfl rfl rfl fun _ => Xk rfl rfl (Lk.pick rfl rfl (fun e => by cases e) (fun _ => rfl)) fun _ => Xm rfl rfl rfl rfl fun _ => R.lookF rfl rfl rfl rfl rfl rfl fun _ => R.lookF rfl rfl rfl rfl rfl rfl fun _ => Xk rfl rfl (Lk.pick rfl rfl (fun e => by cases e) (fun _ => rfl)) fun _ => Xm rfl rfl rfl rfl fun _ => ?_; refine R.lookF rfl rfl rfl rfl rfl rfl fun _ => R.lookF rfl rfl rfl rfl rfl rfl fun _ => Xk rfl rfl (Lk.pick rfl rfl (fun e => by cases e) (fun _ => rfl)) fun _ => Xa rfl rfl rfl rfl fun _ => R.nil ?_; exact hIh_7 (((((ByteArray.toList v12_0 == ByteArray.toList ⟨#[115, 104, 97, 112, 101, 32, 112, 98, 10, 48, 32, 69, 32, 49, 32, 76, 10, 101, 110, 100, 10]⟩) && (v12_1 == 0)) && ((v17_0_0 == 1) && ((v17_0_1 == 0) && ((v17_0_2 == 3) && ((ByteArray.toList v17_0_3 == ByteArray.toList ⟨#[82]⟩) && true))))) && (v17_1 == 0)) && (v24_1 == 3)) _ _ _ (lq (by rw [e4]; rfl) (lz _)) (ok.sub (.cons _ sl0)) (H.add_sub ok (.cons _ sl0)) hS

theorem f7_ok {p0 : ByteArray} {h : H} {K : Bool → H → Prop} (hS : S7 p0 h K) : ACall Tryz.prog 7 ([(.string p0)] : List Value).toArray h (fun r h' => ∃ r0 : Bool, r = tup [(.bool r0)] ∧ K r0 h') := by
  refine ACall.enter (fn := Tryz.f7) Tryz.func7 rfl (Nat.le_of_ble_eq_true rfl) ?_; unfold S7 at hS; have ok := Lok.nil h; refine EvC.seq (Xr [.look 0] (Xa rfl rfl rfl rfl fun _ => ?_)); refine R.nil (EvC.seq (Xr [.look 0, .look 1, .look 2, .look 3, .look 4, .look 5] (Xm rfl rfl rfl rfl fun _ => Xm rfl rfl rfl rfl fun _ => Xk rfl rfl (Lk.lenS rfl Tryz.underlying9 rfl) fun _ => Xk rfl rfl (Lk.min2 rfl rfl rfl) fun _ => ?_)))
  obtain ⟨e1, e2, hS⟩ := hS
  refine Xk rfl rfl (Lk.subStrTo rfl Tryz.underlying9 rfl rfl e1 e2) fun _ => ?_; refine Xa rfl rfl rfl rfl fun _ => ?_; refine R.nil (EvC.seq (Xr [.look 0, .eff 1 [], .look 2, .look 3, .look 4, .look 5, .alc 6, .eff 7 [], .look 8, .look 9] (Xm rfl rfl rfl rfl fun _ => R.eff rfl rfl rfl (Eff.loc ok (Ef.call rfl CB12 rfl ((f12_ok hS).mono ?_)))))); rintro _ h_1 ⟨v15_0_0, v15_0_1, v15_1, v15_2, rfl, hS⟩; refine fun ok => ⟨noChk, ?_⟩; refine Xm rfl rfl rfl rfl fun _ => ?_; refine Xk rfl rfl (Lk.extract rfl rfl rfl) fun _ => ?_; refine Xk rfl rfl (Lk.extract rfl rfl rfl) fun _ => ?_; refine Xk rfl rfl (Lk.extract rfl rfl rfl) fun _ => ?_; refine R.var (blk := .row ⟨[(.slice none 0 0), (.slice none 0 0)], 2, 33, true, true⟩) ok rfl rfl rfl (Ac.alloc rfl T33) rfl rfl fun b3 ok => ?_; refine R.effN rfl rfl rfl (Ef.storeLoc (i := 0) (vs := [(.slice v15_0_0.a v15_0_0.l v15_0_0.c), (.slice v15_0_1.a v15_0_1.l v15_0_1.c)]) (cs := [(.slice v15_0_0.a v15_0_0.l v15_0_0.c), (.slice v15_0_1.a v15_0_1.l v15_0_1.c)]) (l' := [(b3, .row ⟨[(.slice v15_0_0.a v15_0_0.l v15_0_0.c), (.slice v15_0_1.a v15_0_1.l v15_0_1.c)], 2, 33, true, true⟩)]) ok rfl T33 rfl rfl rfl rfl rfl rfl rfl rfl rfl rfl fun ok => ⟨noChk, ?_⟩); refine Xa rfl rfl rfl rfl fun _ => ?_; refine Xa rfl rfl rfl rfl fun _ => ?_; refine R.nil (EvC.seq (EvC.seq (Xr [.look 0, .look 1] (Xm rfl rfl rfl rfl fun _ => Xk rfl rfl (Lk.arith rfl rfl rfl rfl) fun _ => R.nil ?_))))
  by_cases e3 : (v15_2 != 0) = true
  · rw [if_pos e3] at hS; refine EvC.condT rfl e3 (EvC.seq (Xr [.eff 0 [], .look 1] (R.eff rfl rfl rfl (Eff.loc ok (Ef.call rfl CB25 rfl ((f25_ok hS).mono ?_)))))); rintro _ h_2 ⟨v21, rfl, hS⟩; refine fun ok => ⟨noChk, ?_⟩; refine Xa rfl rfl rfl rfl fun _ => ?_; refine R.nil (EvC.ret ?_); exact ⟨.inr rfl, _, _, (.cons (.tmp rfl) .nil), ok.le, _, rfl, hS⟩
  · rw [if_neg e3] at hS; replace e3 := eq_false_of_ne_true e3; refine EvC.condF rfl e3 (EvC.skip (EvC.seq (Xr [.look 0, .eff 1 [], .look 2, .look 3, .look 4, .look 5, .look 6] (Xk rfl rfl (Lk.loadN (vs := [(.slice v15_0_0.a v15_0_0.l v15_0_0.c), (.slice v15_0_1.a v15_0_1.l v15_0_1.c)]) rfl Tryz.underlying33 rfl T33 rfl (H.rdn_loc ok (i := 0) rfl rfl rfl)) fun _ => ?_)))); refine R.eff rfl rfl rfl (Eff.loc ok (Ef.call rfl CB26 rfl ((f26_ok hS).mono ?_))); rintro _ h_3 ⟨v24_0, v24_1, rfl, hS⟩; refine fun ok => ⟨noChk, ?_⟩; refine Xm rfl rfl rfl rfl fun _ => ?_; refine Xk rfl rfl (Lk.extract rfl rfl rfl) fun _ => ?_; refine Xk rfl rfl (Lk.extract rfl rfl rfl) fun _ => ?_; refine Xa rfl rfl rfl rfl fun _ => ?_; refine Xa rfl rfl rfl rfl fun _ => ?_; refine R.nil (EvC.join (σ := Bool) (fun s => (Ep E0 2 (.bool s))) (fun s => []) (fun s h_4 => S7_j1 K s h_4) ?_ (fun Ih_4 hIh_4 => ?_))
    · intro v2 h_4 ok hS; replace hS : S7_j1 K v2 h_4 := hS; unfold S7_j1 at hS; refine EvC.ret ?_; exact ⟨.inr rfl, _, _, (.cons (.tmp rfl) .nil), ok.le, _, rfl, hS⟩
    · refine Xr [.eff 0 [], .look 1, .look 2, .look 3, .look 4, .look 5, .look 6, .look 7, .look 8, .look 9, .look 10] (R.eff rfl rfl rfl (Eff.loc ok (Ef.call rfl CB25 rfl ((f25_ok hS).mono ?_)))); rintro _ h_5 ⟨v27, rfl, hS⟩; refine fun ok => ⟨noChk, ?_⟩; refine Xm rfl rfl rfl rfl fun _ => ?_
      by_cases e4 : v27 = true
      · refine R.lookT rfl rfl rfl rfl e4 rfl (Lk.move rfl rfl) fun _ => R.lookT rfl rfl rfl rfl e4 rfl (Lk.arith rfl rfl rfl rfl) fun _ => Xk rfl rfl (Lk.pick rfl rfl (fun _ => rfl) (fun e => by rw [e4] at e; cases e)) fun _ => Xm rfl rfl rfl rfl fun _ => ?_
        by_cases e5 : (v24_1 == 0) = true
        · refine R.lookT rfl rfl rfl rfl e5 rfl (Lk.move rfl rfl) fun _ => R.lookT rfl rfl rfl rfl e5 rfl (Lk.move rfl rfl) fun _ => R.lookT rfl rfl rfl rfl e5 rfl (Lk.strEq rfl rfl rfl) fun _ => Xk rfl rfl (Lk.pick rfl rfl (fun _ => rfl) (fun e => by rw [e5] at e; cases e)) fun _ => Xa rfl rfl rfl rfl fun _ => R.nil ?_; exact hIh_4 ((v27 && (v24_1 == 0)) && (ByteArray.toList v24_0 == ByteArray.toList (ByteArray.extract p0 0 (Int.toNat (if 1000 < (ByteArray.size p0 : Int) then 1000 else (ByteArray.size p0 : Int)))))) _ _ _ (lq (by rw [e4, e5]; rfl) (lz _)) (ok.sub (.cons _ sl0)) (H.add_sub ok (.cons _ sl0)) hS
        · replace e5 := eq_false_of_ne_true e5; refine R.lookF rfl rfl rfl rfl e5 rfl fun _ => R.lookF rfl rfl rfl rfl e5 rfl fun _ => R.lookF rfl rfl rfl rfl e5 rfl fun _ => Xk rfl rfl (Lk.pick rfl rfl (fun e => by rw [e5] at e; cases e) (fun _ => rfl)) fun _ => Xa rfl rfl rfl rfl fun _ => R.nil ?_; exact hIh_4 ((v27 && (v24_1 == 0)) && (ByteArray.toList v24_0 == ByteArray.toList (ByteArray.extract p0 0 (Int.toNat (if 1000 < (ByteArray.size p0 : Int) then 1000 else (ByteArray.size p0 : Int)))))) _ _ _ (lq (by rw [e4, e5]; rfl) (lz _)) (ok.sub (.cons _ sl0)) (H.add_sub ok (.cons _ sl0)) hS
      · replace e4 := eq_false_of_ne_true e4; refine R.lookF rfl rfl rfl rfl e4 rfl fun _ => R.lookF rfl rfl rfl rfl e4 rfl fun _ => Xk rfl rfl (Lk.pick rfl rfl (fun e => by rw [e4] at e; cases e) (fun _ => rfl)) fun _ => Xm rfl rfl rfl rfl fun _ => R.lookF rfl rfl rfl rfl rfl rfl fun _ => R.lookF rfl rfl rfl rfl rfl rfl fun _ => R.lookF rfl rfl rfl rfl rfl rfl fun _ => Xk rfl rfl (Lk.pick rfl rfl (fun e => by cases e) (fun _ => rfl)) fun _ => Xa rfl rfl rfl rfl fun _ => R.nil ?_; exact hIh_4 ((v27 && (v24_1 == 0)) && (ByteArray.toList v24_0 == ByteArray.toList (ByteArray.extract p0 0 (Int.toNat (if 1000 < (ByteArray.size p0 : Int) then 1000 else (ByteArray.size p0 : Int)))))) _ _ _ (lq (by rw [e4]; rfl) (lz _)) (ok.sub (.cons _ sl0)) (H.add_sub ok (.cons _ sl0)) hS

end Go.Proofs.YtimadnngfhbfiaaGreatDoor
end

section
/-
  TextBack: the statement and its card.
-/
namespace Go.Proofs.YtimadnngfhbfiaaGreatDoor
open Go Go.Mu Go.Shape
open Go.ChangeMaps Go.ChangeShapes Go.WideShapes Go.ChangeAt Go.RowKit Go.Joins Go.Deep

theorem ownKnob_none : ownKnob Tryz.prog.godebug = none := by kernel_rfl
theorem laidOut_prog : laidOutB Tryz.prog = true := by kernel_rfl
set_option maxRecDepth 100000 in
theorem textBack_lifted (os : Os) (started : os.Started) (H' : Type) (enc : TypeId × Value → H') :
    ReturnsInHanded {} Tryz.checked os 7 .any (fun w args => (Rows.textBackSpec.pre enc Tryz.prog Tryz.f7 [] false w args ∧ laidMetH Tryz.prog Rows.textBackRow.laid w) ∧ sizedMet enc Tryz.prog Tryz.f7 (OpenSpec.ofChange Rows.textBackSpec) false w args)
      (Rows.textBackSpec.post enc Tryz.prog Tryz.f7 false true false false) := by
  refine returnsInHanded_of_change_and (C := Tryz.checked) (X := fun w _ => laidMetH Tryz.prog Rows.textBackRow.laid w) (fun _ _ _ hh h => h.of_heap hh) ownKnob_none started (by kernel_rfl) Tryz.func7
    (ChangeSpec.witness_shaped (enc := enc) (C := Tryz.checked) (os := os) (X := fun w _ => laidMetH Tryz.prog Rows.textBackRow.laid w) false (World.laidAll Tryz.prog os Rows.textBackRow.laid) #[.string ⟨#[]⟩] 8 (World.laidAll_os _ _ _)
      (World.shaped_of_ZipB (by kernel_rfl) (by kernel_rfl)) (by kernel_rfl) (by kernel_rfl) (by kernel_rfl)
      (by rw [MakeChecks.laidMetH_plain _ _ _ (by kernel_rfl)]; exact laidMet_laidAll _ (by kernel_rfl) (by kernel_rfl))) ?_
  intro W base args ds gs before hval0 hW _ _ hL _
  have hval : ∀ (j : Nat) t v, Tryz.f7.params[j]? = some t → args[j]? = some v → Value.okWide Tryz.prog W .any base t v := hval0
  have hW' := hW
  obtain ⟨p, q, hA0, hV, rfl, _, _⟩ := hW
  have hA : DataW.TrodAll enc Tryz.prog W 0 (fun _ => true) true Tryz.f7.params.toList args.toList ds p := hA0
  rw [Tryz.params7] at hA hval
  obtain ⟨v0, d0, rfl, rfl, h0⟩ := trodAll_one hA
  obtain ⟨rfl, rfl⟩ := trodVars_none hV
  have h0k := h0
  clear hA0 hval0
  simp only [List.append_nil] at hW'
  have hlt : ∀ x ∈ p, x.block < W.heap.size := fun x hx => by simpa using hW'.lt x hx
  obtain ⟨s, rfl, _⟩ := open_string Tryz.underlying9 (hval 0 9 v0 rfl rfl) h0
  rw [MakeChecks.laidMetH_plain _ _ _ (by kernel_rfl)] at hL
  have tb : TabsH (H.of W) := tabsH_reads (Lib.laidMet.reads hL (by simp [Rows.textBackRow, Rows.laid_unicode_utf8_first])) (Lib.laidMet.reads hL (.tail _ (.tail _ (.tail _ (.head _)))))
  have pw : PowH (H.of W) := powH_reads (Lib.laidMet.reads hL (.tail _ (.tail _ (.head _))))
  refine (ACall.world (f7_ok (K := fun r _ => r = true) (c7 tb pw fun _ _ => rfl))).mono fun e W' ⟨r, h', he, hb, b, hr, hk⟩ => ?_
  subst hk
  have hr' : r = .bool true := hr
  subst hr' he
  exact ⟨_, rfl, ⟨_, _, _, [], _, [], hW', trodAll_mk1 (shut_bool Tryz.underlying4 _), trodAll_mk1 (Below.trod laidOut_prog (by kernel_rfl) (of_decide_eq_true (by kernel_rfl)) h0k hb hlt), rfl, hb.frame _, fun h => by cases h⟩⟩

theorem textBack_said : Rows.TextBackSaid :=
  OpenClaim.holds_of_wide 7 Tryz.f7 rfl rfl rfl rfl rfl rfl rfl ⟨rfl, rfl, rfl, rfl, rfl⟩ rfl rfl rfl rfl rfl (by kernel_rfl) Tryz.func7 (by kernel_rfl)
    (of_decide_eq_true (by kernel_rfl)) (by unfold Func.isWrapper; first | (rw [if_pos (by decide +kernel)]; kernel_rfl) | (rw [if_neg (by decide +kernel)]; exact ⟨rfl, rfl⟩))
    (fun os started H enc _ => textBack_lifted os started H enc)

set_option maxRecDepth 100000 in
theorem textBack_holds : Rows.TextBackCardSaid :=
  Claim7.holds_tied_plain_at .later [] [.data, .data, .data, .data, .sentinel, .sentinel, .pinned] true (true, "ec382dcf175142a2563dcff8249937420ab5c8b2982b1113603742880a646671") true
    textBack_said (fun _ h => by cases h) (by kernel_rfl) (fun _ h => by cases h) textBack_row_tie rfl ⟨rfl, rfl⟩ (by kernel_rfl) rfl
    (fun f fn hf hfn => by
      obtain rfl : f = 7 := Option.some.inj ((show Tryz.prog.funcNamed "muntin/muntinlaw09.TextBack" = some 7 by kernel_rfl).symm.trans hf) |>.symm
      obtain rfl : fn = Tryz.f7 := (Option.some.inj (Tryz.func7.symm.trans hfn)).symm
      exact ⟨by kernel_rfl, fun j t ht => by
        rw [Tryz.params7] at ht
        have h3 : t = 9 := by
          rcases j with _ | j
          · simpa using ht.symm
          · simp at ht
        subst h3
        exact (show Tryz.prog.wantsStandIn 9 = false by kernel_rfl)⟩)
    (by kernel_rfl)
end Go.Proofs.YtimadnngfhbfiaaGreatDoor
end
