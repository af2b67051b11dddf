/-
  PROVED HERE: 'muntinlaw08.ParseLines' answers true whatever the shape's raw data and the turn, and what was handed in reads as it did. Conditions: the package variables that the row lists hold what the program's text lays.
  Part 3 of 4.
-/
import Derived.Test.YtimadnngfhbfiaaGreatDoorPlB
import Derived.Lib.Replace
import Derived.Test.YtimadnngfhbfiaaGreatDoorProg
import Derived.Lib.IndexBytes
import Derived.Lib.SplitLaws
import Derived.Lib.TrimAscii
import Derived.Shelf.Strings.SlTrimAscii
import Derived.Shelf.Strings.OnBuilder
import Derived.Shelf.Strings.Replace

section
/-
  The reference's Print, of small numbers.
-/
namespace Go.Proofs.YtimadnngfhbfiaaGreatDoor
open Go Go.Mu Go.Shape Go.Text
open Go.Lib (strCells byteCells)
variable {h h0 : H}
set_option maxHeartbeats 1000000

theorem c50 {n : Nat} (hn : n < 10) {K : ByteArray → H → Prop} (k : ∀ h', h.Le h' → K (B (Lib.decDigits n)) h') : S50 n h K := by
  unfold S50
  rw [if_neg (by simp), if_neg (by simp)]
  intro b h2 hb e
  have hm : Int.tmod (n : Int) 10 = (n : Int) := by
    have : Int.tmod (n : Int) 10 = ((n % 10 : Nat) : Int) := rfl
    rw [this, Nat.mod_eq_of_lt hn]
  have hq : Int.tdiv (n : Int) 10 = 0 := by
    have : Int.tdiv (n : Int) 10 = ((n / 10 : Nat) : Int) := rfl
    rw [this, Nat.div_eq_of_lt hn]; rfl
  rw [hm, wrapN (x := 48 + (n : Int)) (n := 48 + n) (by omega) (by omega)] at e
  have hw : IntKind.u8.wrap ((48 + n : Nat) : Int) = ((48 + n : Nat) : Int) := by
    rcases (show n = 0 ∨ n = 1 ∨ n = 2 ∨ n = 3 ∨ n = 4 ∨ n = 5 ∨ n = 6 ∨ n = 7 ∨ n = 8 ∨ n = 9 by omega) with rfl | rfl | rfl | rfl | rfl | rfl | rfl | rfl | rfl | rfl <;> rfl
  rw [hw] at e
  have ed : Lib.decDigits n = [UInt8.ofNat (48 + n)] := by rw [dec_step, if_pos hn]
  have hc : (UInt8.ofNat (48 + n)).toNat = 48 + n := by rw [UInt8.toNat_ofNat']; omega
  have hsc : strCells (B [UInt8.ofNat (48 + n)]) = [Value.int .u8 ((48 + n : Nat) : Int)] := by
    rw [Go.Lib.strCells_eq, B_list]
    simp only [byteCells, List.map_cons, List.map_nil, hc]
  refine ⟨B [UInt8.ofNat (48 + n)], ⟨by rw [B_size]; rfl, .inr ⟨_, rfl, ?_⟩⟩, ?_⟩
  · rw [hsc]
    refine ⟨rfl, fun j v hj => ?_⟩
    have hj0 : j = 0 := by have := (List.getElem?_eq_some_iff.1 hj).1; simp at this; exact this
    subst hj0
    have hv : v = .int .u8 ((48 + n : Nat) : Int) := by simpa using hj.symm
    rw [e, Addr.add_n, hv]
    simp [H.rd, H.set_eq]
  · intro X hX
    refine hX _ _ ?_
    unfold S50_l2 S50_j1
    simp only
    rw [hq, show IntKind.i64.wrap 0 = 0 from rfl, if_neg (by simp)]
    rw [ed] at k
    exact k _ (e ▸ H.Le.put _ hb)
theorem flat_takeZ {es : List Ed} {i : Nat} {e : Ed} (he : es[i]? = some e) (x : Bs) : x ++ (es.take (i + 1)).flatMap (fun x => lineT x ++ [10]) = x ++ (es.take i).flatMap (fun x => lineT x ++ [10]) ++ lineT e ++ [10] := by
  rw [List.take_add_one, he]; simp
theorem bs_nil {b : List Bool} : (bs b = B []) ↔ b = [] := by
  constructor
  · intro q
    have := congrArg (fun x : ByteArray => x.data.toList.length) q
    simp [bs] at this; exact this
  · intro q; rw [q]; rfl
theorem c20 {p0 p1 : Sl} {bx : List Bool} {es : List Ed} (r0 : Rd h p0 1 encB bx) (r1 : Rd h p1 4 Ed.enc es) (lb : bx.length ≤ 8) (le : es.length ≤ 16) (ok : ∀ e ∈ es, e.Ok bx.length) {K : ByteArray → H → Prop} (k : ∀ h', h.Le h' → K (B (textT bx es)) h') : S20 p0 p1 h K := by
  have e0 := r0.len
  have e1 := r1.len
  unfold S20
  have e6 : (⟨#[115, 104, 97, 112, 101, 32]⟩ : ByteArray) = B [115, 104, 97, 112, 101, 32] := rfl
  refine lfp.count bx.length (fun i (u : ByteArray × Int) h' => u.2 = (i : Int) ∧ h' = h ∧ u.1 = B ([115, 104, 97, 112, 101, 32] ++ (bx.take i).map vx)) (fun X i u h' hi ⟨q1, q2, q3⟩ next => ?_) ⟨rfl, rfl, e6⟩
  obtain ⟨u1, u2⟩ := u
  simp only at q1 q3; subst q1 q2 q3
  simp only
  unfold S20_l7 S20_j6
  have hl6 : ([115, 104, 97, 112, 101, 32] ++ (bx.take i).map vx : Bs).length ≤ 20 := by
    rw [List.length_append, List.length_map, List.length_take]; simp only [List.length_cons, List.length_nil]; omega
  by_cases hlt : i < bx.length
  · rw [if_pos (by simp; omega)]
    obtain ⟨x, hx⟩ : ∃ x, bx[i]? = some x := ⟨_, List.getElem?_eq_getElem hlt⟩
    obtain ⟨a, ha, hrd⟩ := r0.ix hx
    have e98 : (⟨#[98]⟩ : ByteArray) = B [98] := rfl
    have e112 : (⟨#[112]⟩ : ByteArray) = B [112] := rfl
    refine ⟨a, ha, by omega, by omega, x, by rw [Int.toNat_natCast]; exact hrd.at0, ?_⟩
    rw [e98, e112]
    simp only [B_app, B_size]
    rw [wsucc (by omega)]
    have nx : X (B ([115, 104, 97, 112, 101, 32] ++ (bx.take i).map vx ++ [vx x]), ((i + 1 : Nat) : Int)) h' := next hlt _ _ ⟨rfl, rfl, by rw [List.take_add_one, hx, List.map_append, ← List.append_assoc]; rfl⟩
    cases x with
    | true => rw [if_pos rfl]; exact ⟨by simp only [List.length_cons, List.length_nil]; omega, nx⟩
    | false => rw [if_neg (by decide)]; exact ⟨by simp only [List.length_cons, List.length_nil]; omega, nx⟩
  · rw [if_neg (by simp; omega)]
    rw [List.take_of_length_le (by omega)] at hl6 ⊢
    clear next
    have hh : (headT bx).length ≤ 20 := by
      unfold headT
      by_cases hb : bx = []
      · rw [if_pos hb]; decide
      · rw [if_neg hb]; exact hl6
    have main : S20_j4 p1 K (B (headT bx)) h' := by
      unfold S20_j4
      rw [show (⟨#[10]⟩ : ByteArray) = B [10] from rfl]
      simp only [B_app, B_size]
      refine ⟨by simp only [List.length_cons, List.length_nil]; omega, ?_⟩
      refine lfp.count es.length (fun j (u : ByteArray × Int) h2 => u.2 = (j : Int) ∧ h'.Le h2 ∧ u.1 = B (headT bx ++ [10] ++ (es.take j).flatMap (fun x => lineT x ++ [10])) ∧ (headT bx ++ [10] ++ (es.take j).flatMap (fun x => lineT x ++ [10])).length ≤ 21 + 20 * j) (fun Y j u h2 hj ⟨q1, q2, q3, q4⟩ next => ?_) ⟨rfl, H.Le.refl h', by simp, by simp; omega⟩
      obtain ⟨u1, u2⟩ := u
      simp only at q1 q3; subst q1 q3
      simp only
      unfold S20_l3 S20_j2 S20_j1
      by_cases hlt : j < es.length
      · rw [if_pos (by simp; omega)]
        obtain ⟨e, he⟩ : ∃ x, es[j]? = some x := ⟨_, List.getElem?_eq_getElem hlt⟩
        have oke := ok e (List.mem_of_getElem? he)
        have of := oke.f
        have ot := oke.t
        have ob := oke.b
        obtain ⟨a, ha, hrd⟩ := r1.ix he
        refine ⟨a, ha, by omega, by omega, e.f, e.t, e.d, bs e.b, by rw [Int.toNat_natCast]; exact q2.rdn hrd, ?_⟩
        refine c50 (by omega) fun h3 l3 => c50 (by omega) fun h4 l4 => c51 oke.d fun h5 l5 => ?_
        have d1 := dec_len7 1 e.f (by omega) (by decide)
        have d2 := dec_len7 1 e.t (by omega) (by decide)
        have hft := flat_takeZ he (headT bx ++ [10])
        rw [show (⟨#[32]⟩ : ByteArray) = B [32] from rfl, show (⟨#[10]⟩ : ByteArray) = B [10] from rfl, show (⟨#[]⟩ : ByteArray) = B [] from rfl, show bs e.b = B (e.b.map letter) from rfl, beqB]
        simp only [B_app, B_size]
        rw [wsucc (by omega)]
        have nx : ∀ tail : Bs, lineT e = Lib.decDigits e.f ++ [32] ++ [dl e.d] ++ [32] ++ Lib.decDigits e.t ++ tail → tail.length ≤ 5 →
            Y (B (headT bx ++ [10] ++ (es.take j).flatMap (fun x => lineT x ++ [10]) ++ lineT e ++ [10]), ((j + 1 : Nat) : Int)) h5 := by
          intro tail et htl
          refine next hlt _ _ ⟨rfl, ((q2.trans l3).trans l4).trans l5, by rw [hft], ?_⟩
          rw [hft, et]
          simp only [List.length_append, List.length_cons, List.length_nil] at q4 ⊢
          omega
        refine ⟨by omega, by simp only [List.length_append, List.length_cons, List.length_nil] at q4 ⊢; omega, by simp only [List.length_append, List.length_cons, List.length_nil] at q4 ⊢; omega, by simp only [List.length_append, List.length_cons, List.length_nil] at q4 ⊢; omega, by simp only [List.length_append, List.length_cons, List.length_nil] at q4 ⊢; omega, ?_⟩
        by_cases hb : e.b = []
        · rw [if_neg (by simp [hb])]
          have et : lineT e = Lib.decDigits e.f ++ [32] ++ [dl e.d] ++ [32] ++ Lib.decDigits e.t ++ [] := by unfold lineT; rw [if_pos hb]; simp
          refine ⟨by simp only [List.length_append, List.length_cons, List.length_nil] at q4 ⊢; omega, ?_⟩
          have := nx [] et (by decide)
          rw [et] at this
          simpa only [List.append_nil, ← List.append_assoc] using this
        · rw [if_pos (by simp [hb])]
          have et : lineT e = Lib.decDigits e.f ++ [32] ++ [dl e.d] ++ [32] ++ Lib.decDigits e.t ++ (32 :: e.b.map letter) := by unfold lineT; rw [if_neg hb]; simp
          refine ⟨by simp only [List.length_append, List.length_cons, List.length_nil] at q4 ⊢; omega, by simp only [List.length_append, List.length_cons, List.length_nil, List.length_map] at q4 ⊢; omega, by simp only [List.length_append, List.length_cons, List.length_nil, List.length_map] at q4 ⊢; omega, ?_⟩
          have := nx (32 :: e.b.map letter) et (by simp; omega)
          rw [et] at this
          have e2 : (headT bx ++ [10] ++ (es.take j).flatMap (fun x => lineT x ++ [10]) ++ (Lib.decDigits e.f ++ [32] ++ [dl e.d] ++ [32] ++ Lib.decDigits e.t ++ (32 :: e.b.map letter)) ++ [10]) =
              (headT bx ++ [10] ++ (es.take j).flatMap (fun x => lineT x ++ [10]) ++ Lib.decDigits e.f ++ [32] ++ [dl e.d] ++ [32] ++ Lib.decDigits e.t ++ [32] ++ e.b.map letter ++ [10]) := by simp
          rw [e2] at this
          exact this
      · rw [if_neg (by simp; omega)]
        rw [List.take_of_length_le (by omega)] at q4 ⊢
        rw [show (⟨#[101, 110, 100, 10]⟩ : ByteArray) = B [101, 110, 100, 10] from rfl]
        simp only [B_app, B_size]
        exact ⟨by simp only [List.length_cons, List.length_nil]; omega, k _ q2⟩
    unfold S20_j5
    by_cases hb : bx = []
    · rw [if_pos (by rw [e0, hb]; rfl), show (⟨#[45]⟩ : ByteArray) = B [45] from rfl]
      simp only [B_app, B_size]
      refine ⟨by simp only [List.length_cons, List.length_nil]; omega, ?_⟩
      have : headT bx = [115, 104, 97, 112, 101, 32] ++ bx.map vx ++ [45] := by rw [hb]; rfl
      rw [← this]; exact main
    · have : bx.length ≠ 0 := fun q => hb (List.eq_nil_of_length_eq_zero q)
      rw [if_neg (by simp only [beq_iff_eq]; omega)]
      have : headT bx = [115, 104, 97, 112, 101, 32] ++ bx.map vx := by unfold headT; rw [if_neg hb]; rfl
      rw [← this]; exact main
end Go.Proofs.YtimadnngfhbfiaaGreatDoor
end

section
/- PRINTED by wip/gen.py: what strings.SplitAfter does, in the words of Mu. -/
namespace Go.Proofs.YtimadnngfhbfiaaGreatDoor
open Go Go.Mu
/- strings.SplitAfter -/
def S21 (p0 : ByteArray) (p1 : ByteArray) (h : H) (K : Sl → H → Prop) : Prop :=
  S52 p0 p1 (ByteArray.size p1 : Int) (-1) h (fun (v9 : Sl) (h_1 : H) => K v9 h_1)
end Go.Proofs.YtimadnngfhbfiaaGreatDoor
end

section
/- BY HAND: what strings.Replace does, once, at a line's end. -/
namespace Go.Proofs.YtimadnngfhbfiaaGreatDoor
open Go Go.Mu
def S24 (p0 p1 p2 : ByteArray) (p3 : Int) (h : H) (K : ByteArray → H → Prop) : Prop :=
  p0.size ≤ 1000000 ∧ p1 = ⟨#[10]⟩ ∧ p2 = ⟨#[32]⟩ ∧ p3 = 1 ∧ (∃ m, h.rd ⟨0, 0, none⟩ = some (.int .i64 m)) ∧ K ⟨(Lib.replace p0.data.toList [10] [32] 1).toArray⟩ h
end Go.Proofs.YtimadnngfhbfiaaGreatDoor
end

section
/- PRINTED by wip/gen.py: what muntin/muntinlaw08.ParseLines does, in the words of Mu. -/
namespace Go.Proofs.YtimadnngfhbfiaaGreatDoor
open Go Go.Mu
/- muntin/muntinlaw08.ParseLines -/
def S6_j1 (K : Bool → H → Prop) (v4 : Bool) (h_13 : H) : Prop :=
  K v4 h_13
def S6_j2 (K : Bool → H → Prop) (v32 : Sl) (v41_1 : Int) (v41_2 : Int) (v48_1 : Int) (v48_2 : Int) (v55_2 : Int) (v20 : ByteArray) (c18_0 : Sl) (c18_1 : Sl) (h_11 : H) : Prop :=
  (ByteArray.size v20 + ByteArray.size ⟨#[101, 110, 100, 10]⟩ ≤ 9223372036854775807 ∧ S12 (v20 ++ ⟨#[101, 110, 100, 10]⟩) h_11 (fun (v108_0_0 : Sl) (v108_0_1 : Sl) (v108_1 : Int) (v108_2 : Int) (h_12 : H) => S14  h_12 (fun (v112 : Bool) (h_14 : H) => (if v112 = true then (if (v41_2 == 4) = true then (if (v41_1 == (v32.l : Int)) = true then (if (v48_2 == 4) = true then (if (v48_1 == (IntKind.wrap .i64 ((v32.l : Int) + 1))) = true then (if (v55_2 == 4) = true then (if (v108_2 == 0) = true then S16 v108_0_0 v108_0_1 c18_0 c18_1 h_14 (fun (v145 : Bool) (h_15 : H) => S6_j1 K v145 h_15) else S6_j1 K false h_14) else S6_j1 K false h_14) else S6_j1 K false h_14) else S6_j1 K false h_14) else S6_j1 K false h_14) else S6_j1 K false h_14) else S6_j1 K false h_14))))
def S6_l3 (K : Bool → H → Prop) (v27_1 : Sl) (v32 : Sl) (v41_1 : Int) (v41_2 : Int) (v48_1 : Int) (v48_2 : Int) (v55_2 : Int) (v19 : Int) (X : (ByteArray × Int × Sl × Sl) → H → Prop) (v20_1 : ByteArray) (v77 : Int) (c18_0_1 : Sl) (c18_1_1 : Sl) (h_16 : H) : Prop :=
  (if (decide (v77 < (v27_1.l : Int))) = true then ((v27_1.l : Int) ≠ 0 ∧ (∃ a92 : Addr, v27_1.a = some a92 ∧ 0 ≤ (Int.tmod (IntKind.wrap .i64 (v77 + v19)) (v27_1.l : Int)) ∧ (Int.tmod (IntKind.wrap .i64 (v77 + v19)) (v27_1.l : Int)) < (v27_1.l : Int) ∧ (∃ (v93_0 : Int) (v93_1 : Int) (v93_2 : Int) (v93_3 : ByteArray), H.rdn h_16 (Addr.add a92 (Int.toNat (Int.tmod (IntKind.wrap .i64 (v77 + v19)) (v27_1.l : Int)) * 4)) 4 [(.int .i64 v93_0), (.int .i64 v93_1), (.int .i64 v93_2), (.string v93_3)] ∧ app 61 4 40 c18_1_1 1 [(.int .i64 v93_0), (.int .i64 v93_1), (.int .i64 v93_2), (.string v93_3)] h_16 (fun (v95 : Sl) (h_17 : H) => (∃ a101 : Addr, v32.a = some a101 ∧ 0 ≤ (IntKind.wrap .i64 (1 + (Int.tmod (IntKind.wrap .i64 (v77 + v19)) (v27_1.l : Int)))) ∧ (IntKind.wrap .i64 (1 + (Int.tmod (IntKind.wrap .i64 (v77 + v19)) (v27_1.l : Int)))) < (v32.l : Int) ∧ (∃ (v102 : ByteArray), H.rd h_17 (Addr.add a101 (Int.toNat (IntKind.wrap .i64 (1 + (Int.tmod (IntKind.wrap .i64 (v77 + v19)) (v27_1.l : Int)))) * 1)) = some (.string v102) ∧ (ByteArray.size v20_1 + ByteArray.size v102 ≤ 9223372036854775807 ∧ X ((v20_1 ++ v102), (IntKind.wrap .i64 (v77 + 1)), c18_0_1, v95) h_17))))))) else S6_j2 K v32 v41_1 v41_2 v48_1 v48_2 v55_2 v20_1 c18_0_1 c18_1_1 h_16)
def S6_j4 (K : Bool → H → Prop) (v27_0 : Sl) (v27_1 : Sl) (v32 : Sl) (v41_1 : Int) (v41_2 : Int) (v48_1 : Int) (v48_2 : Int) (v55_2 : Int) (v19 : Int) (h_10 : H) : Prop :=
  (∃ a72 : Addr, v32.a = some a72 ∧ 0 ≤ (0 : Int) ∧ 0 < (v32.l : Int) ∧ (∃ (v73 : ByteArray), H.rd h_10 (Addr.add a72 (Int.toNat 0 * 1)) = some (.string v73) ∧ lfp (fun X s h_16 => S6_l3 K v27_1 v32 v41_1 v41_2 v48_1 v48_2 v55_2 v19 X s.1 s.2.1 s.2.2.1 s.2.2.2 h_16) (v73, 0, v27_0, Sl.nil) h_10))
def S6 (p0_0 : Sl) (p0_1 : Sl) (p0_2 : Sl) (p1 : Int) (h : H) (K : Bool → H → Prop) : Prop :=
  S19 p0_0 p0_1 p0_2 6 h (fun (v27_0 : Sl) (v27_1 : Sl) (h_1 : H) => S20 v27_0 v27_1 h_1 (fun (v29 : ByteArray) (h_2 : H) => S22 v29 ⟨#[10]⟩ h_2 (fun (v31 : ByteArray) (h_3 : H) => S21 v31 ⟨#[10]⟩ h_3 (fun (v32 : Sl) (h_4 : H) => ((0 : Int) ≤ 0 ∧ (0 : Int) ≤ (IntKind.wrap .i64 ((v32.l : Int) - 1)) ∧ (IntKind.wrap .i64 ((v32.l : Int) - 1)) ≤ (v32.l : Int) ∧ v32.l ≤ v32.c ∧ S23 ⟨(if v32.c = Int.toNat 0 then v32.a else Option.map (fun x => Addr.add x (Int.toNat 0 * 1)) v32.a), (Nat.sub (Int.toNat (IntKind.wrap .i64 ((v32.l : Int) - 1))) (Int.toNat 0)), (v32.c - Int.toNat 0)⟩ ⟨#[]⟩ h_4 (fun (v38 : ByteArray) (h_5 : H) => S12 v38 h_5 (fun (v41_0_0 : Sl) (v41_0_1 : Sl) (v41_1 : Int) (v41_2 : Int) (h_6 : H) => (ByteArray.size v29 + ByteArray.size ⟨#[101, 110, 100, 10]⟩ ≤ 9223372036854775807 ∧ S12 (v29 ++ ⟨#[101, 110, 100, 10]⟩) h_6 (fun (v48_0_0 : Sl) (v48_0_1 : Sl) (v48_1 : Int) (v48_2 : Int) (h_7 : H) => S24 v29 ⟨#[10]⟩ ⟨#[32]⟩ 1 h_7 (fun (v54 : ByteArray) (h_8 : H) => S12 v54 h_8 (fun (v55_0_0 : Sl) (v55_0_1 : Sl) (v55_1 : Int) (v55_2 : Int) (h_9 : H) => (if (decide ((v27_1.l : Int) > 0)) = true then ((v27_1.l : Int) ≠ 0 ∧ S6_j4 K v27_0 v27_1 v32 v41_1 v41_2 v48_1 v48_2 v55_2 (Int.tmod (IntKind.wrap .i64 p1) (v27_1.l : Int)) h_9) else S6_j4 K v27_0 v27_1 v32 v41_1 v41_2 v48_1 v48_2 v55_2 0 h_9))))))))))))
end Go.Proofs.YtimadnngfhbfiaaGreatDoor
end

section
/-
  ParseLines: what the law answers.
-/
namespace Go.Proofs.YtimadnngfhbfiaaGreatDoor
open Go Go.Mu Go.Shape Go.Text
variable {h h0 : H}
set_option maxHeartbeats 1000000

theorem c22 {u : Bs} (hs : u.length < 1048576) {K : ByteArray → H → Prop} (k : K (B u) h) : S22 (B (u ++ [10])) ⟨#[10]⟩ h K := by
  unfold S22 S53
  refine c100 hs ?_
  rw [decide_eq_true rfl, if_pos rfl]
  have e1 : ByteArray.size ⟨#[10]⟩ = 1 := rfl
  rw [e1, B_size, List.length_append, List.length_singleton, wrapN (x := ((u.length + 1 : Nat) : Int) - ((1 : Nat) : Int)) (n := u.length) (by omega) (by omega)]
  refine ⟨by omega, by omega, ?_⟩
  rw [Int.toNat_natCast, B_ext, List.take_left, List.drop_zero]
  exact k
theorem c21 {s : Bs} {c : UInt8} (hs : s.length ≤ 1048576) {K : Sl → H → Prop} (k : ∀ g h', h.Le h' → Rd h' (row1 g (keepC c (splitC c s)).length) 1 encS (keepC c (splitC c s)) → K (row1 g (keepC c (splitC c s)).length) h') : S21 (B s) ⟨#[c]⟩ h K := by
  unfold S21 S52
  refine ⟨c, 1, rfl, rfl, by decide, rfl, by rw [B_size]; exact hs, fun g n h1 hg hn e => ?_⟩
  have es := splitB_keep c s
  rw [show (⟨#[c]⟩ : ByteArray) = B [c] from rfl, es] at hn e
  rw [List.length_map] at hn
  rw [List.map_map] at e
  subst hn
  refine k g h1 (e ▸ H.Le.put _ hg) ?_
  rw [e]
  exact Rd.row rfl
theorem S23_mono {p0 : Sl} {p1 : ByteArray} {K K' : ByteArray → H → Prop} (x : S23 p0 p1 h K) (kk : ∀ v h', K v h' → K' v h') : S23 p0 p1 h K' := by
  rcases x with ⟨a, b⟩ | ⟨g, o, xs, a, b, c, d, e, f, i, j⟩
  · exact .inl ⟨a, kk _ _ b⟩
  · exact .inr ⟨g, o, xs, a, b, c, d, e, f, i, kk _ _ j⟩
/-- A shape's lines, each with its end but the last. -/
def keptT (bx : List Bool) (es : List Ed) : List Bs := (linesT bx es).map (· ++ [10]) ++ [endB]
theorem kept_len (bx : List Bool) (es : List Ed) : (keptT bx es).length = es.length + 2 := by simp [keptT, linesT]
theorem kept_of {bx : List Bool} {es : List Ed} (ok : ∀ x ∈ es, x.d < 4) : keepC 10 (splitC 10 ((linesT bx es).flatMap (· ++ [10]) ++ endB)) = keptT bx es := by
  rw [splitC_last (lines_no ok) end_no, keepC_last]; rfl
theorem kept_head (bx : List Bool) (es : List Ed) : (keptT bx es)[0]? = some (headT bx ++ [10]) := by simp [keptT, linesT]
theorem kept_at {bx : List Bool} {es : List Ed} {j : Nat} {e : Ed} (he : es[j]? = some e) : (keptT bx es)[j + 1]? = some (lineT e ++ [10]) := by
  have hl := (List.getElem?_eq_some_iff.1 he).1
  unfold keptT linesT
  rw [List.getElem?_append_left (by simp; omega)]
  simp [he]
/-- The edges turned round by so many. -/
def rotT (es : List Ed) (k : Nat) : List Ed := (List.range es.length).map fun i => es.getD ((i + k) % es.length) ⟨0, 0, 0, []⟩
theorem rot_len (es : List Ed) (k : Nat) : (rotT es k).length = es.length := by simp [rotT]
theorem rot_at {es : List Ed} {k i : Nat} (hi : i < es.length) : ∃ e, es[(i + k) % es.length]? = some e ∧ (rotT es k)[i]? = some e := by
  have hm : (i + k) % es.length < es.length := Nat.mod_lt _ (by omega)
  refine ⟨es[(i + k) % es.length], List.getElem?_eq_getElem hm, ?_⟩
  simp [rotT, hi, List.getD_eq_getElem?_getD, List.getElem?_eq_getElem hm]
theorem rot_mem {es : List Ed} {k : Nat} {e : Ed} (h : e ∈ rotT es k) : e ∈ es := by
  obtain ⟨i, hi⟩ := List.mem_iff_getElem?.1 h
  have hl := (List.getElem?_eq_some_iff.1 hi).1
  rw [rot_len] at hl
  obtain ⟨e', h1, h2⟩ := rot_at (k := k) hl
  rw [h2] at hi
  cases hi
  exact List.mem_of_getElem? h1
theorem tot_three : ∀ {es : List Ed}, (∀ e ∈ es, e.b.length < 4) → tot es ≤ 3 * es.length
  | [], _ => by simp [tot]
  | e :: es, h => by
    have h1 := h e List.mem_cons_self
    have h2 := tot_three (es := es) fun x hx => h x (List.mem_cons_of_mem _ hx)
    have h3 : tot (e :: es) = e.b.length + tot es := by simp [tot]
    rw [List.length_cons]; omega
theorem text_small {bx : List Bool} {es : List Ed} (lb : bx.length ≤ 8) (le : es.length ≤ 16) (ok : ∀ e ∈ es, e.Ok bx.length) (i : Nat) : (headT bx ++ [10] ++ (es.take i).flatMap (fun x => lineT x ++ [10])).length ≤ 500 := by
  have h1 : (headT bx).length ≤ 20 := by
    unfold headT
    split
    · decide
    · simp [shapeB]; omega
  have key : ∀ (l : List Ed), (∀ x ∈ l, x.Ok bx.length) → (l.flatMap (fun x => lineT x ++ [10])).length ≤ 20 * l.length := by
    intro l
    induction l with
    | nil => intro _; simp
    | cons x l ih =>
      intro hx
      have h2 := ih fun y hy => hx y (List.mem_cons_of_mem _ hy)
      have h3 := hx x List.mem_cons_self
      have o1 := h3.f
      have o2 := h3.t
      have o3 := h3.b
      have d1 := dec_len7 1 x.f (by omega) (by decide)
      have d2 := dec_len7 1 x.t (by omega) (by decide)
      have h4 : (lineT x).length ≤ 10 := by
        unfold lineT
        split
        · simp; omega
        · simp; omega
      rw [List.flatMap_cons, List.length_append, List.length_append]
      simp only [List.length_cons, List.length_nil]
      omega
  have h2 := key (es.take i) fun x hx => ok x (List.mem_of_mem_take hx)
  rw [List.length_take] at h2
  simp only [List.length_append, List.length_cons, List.length_nil]
  omega
theorem c6 {z0 z1 z2 : Sl} {zb : List Bool} {ze : List (Nat × Nat × Nat)} {zc : List Nat} {tn : Nat} (tb : TabsH h) (mx : ∃ m, h.rd ⟨0, 0, none⟩ = some (.int .i64 m)) (hb : Rd h z0 1 encB zb) (he : Rd h z1 3 enc3 ze) (hc : Rd h z2 1 encU zc)
    (u1 : ∀ x ∈ ze, x.1 < 256 ∧ x.2.1 < 256 ∧ x.2.2 < 256) (u2 : ∀ x ∈ zc, x < 256) (htn : tn < 256) {K : Bool → H → Prop} (k : ∀ h', K true h') : S6 z0 z1 z2 tn h K := by
  obtain ⟨m, hm⟩ := mx
  unfold S6
  refine c19m (m := 6) (by decide) hb he hc u1 u2 fun bx es s0 s1 h1 st l0 l1 lbx les ok => ?_
  have le1 := st.le
  have r0 : Rd h1 s0 1 encB bx := st.arr false rfl (fun _ _ => rfl) (by decide)
  have r1 : Rd h1 s1 4 Ed.enc es := st.arr true rfl (fun _ _ => Ed.enc_len _) (by decide)
  clear st
  have okd : ∀ x ∈ es, x.d < 4 := fun x hx => (ok x hx).d
  have okf : ∀ x ∈ es, x.f < bx.length ∧ x.t < bx.length ∧ x.d < 4 := fun x hx => ⟨(ok x hx).f, (ok x hx).t, (ok x hx).d⟩
  have htot := tot_three fun x hx => (ok x hx).b
  have hsm := text_small (by omega) (by omega) ok es.length
  rw [List.take_length] at hsm
  have ett : textT bx es = headT bx ++ [10] ++ es.flatMap (fun x => lineT x ++ [10]) ++ [101, 110, 100, 10] := rfl
  have htl : (textT bx es).length ≤ 510 := by rw [ett, List.length_append]; simp only [List.length_cons, List.length_nil]; omega
  refine c20 r0 r1 (by omega) (by omega) ok fun h2 le2 => ?_
  have eu : textT bx es = ((linesT bx es).flatMap (· ++ [10]) ++ endB) ++ [10] := by
    rw [textT_lines, List.flatMap_append]; simp [endB]
  have hul : ((linesT bx es).flatMap (· ++ [10]) ++ endB).length ≤ 510 := by
    have := congrArg List.length eu
    rw [List.length_append] at this
    simp only [List.length_cons, List.length_nil] at this
    omega
  rw [eu]
  refine c22 (by omega) ?_
  rw [← eu]
  refine c21 (by omega) fun g h3 le3 rd3 => ?_
  rw [kept_of okd] at rd3 ⊢
  have hkl := kept_len bx es
  have hrl : (row1 g (keptT bx es).length).l = es.length + 2 := hkl
  have w1 : IntKind.i64.wrap (((row1 g (keptT bx es).length).l : Int) - 1) = ((es.length + 1 : Nat) : Int) := by
    rw [hrl]; exact wrapN (by omega) (by omega)
  rw [w1]
  refine ⟨by omega, by omega, by rw [hrl]; omega, Nat.le_refl _, ?_⟩
  have ht3 : TabsH h3 := ((tb.le le1).le le2).le le3
  have short : S23 ⟨(if (row1 g (keptT bx es).length).c = Int.toNat 0 then (row1 g (keptT bx es).length).a else Option.map (fun x => Addr.add x (Int.toNat 0 * 1)) (row1 g (keptT bx es).length).a), (Nat.sub (Int.toNat ((es.length + 1 : Nat) : Int)) (Int.toNat 0)), ((row1 g (keptT bx es).length).c - Int.toNat 0)⟩ ⟨#[]⟩ h3 (fun v h' => v = B ((linesT bx es).flatMap (· ++ [10])) ∧ h' = h3) := by
    have hxs : ((linesT bx es).map (· ++ [10])).length = es.length + 1 := by simp [linesT]
    have hj : Lib.join ((((linesT bx es).map (· ++ [10])).map B).map (·.data.toList)) (ByteArray.data ⟨#[]⟩).toList = (linesT bx es).flatMap (· ++ [10]) := by
      have e1 : (((linesT bx es).map (· ++ [10])).map B).map (·.data.toList) = (linesT bx es).map (· ++ [10]) := by
        rw [List.map_map]
        conv => rhs; rw [← List.map_id ((linesT bx es).map (· ++ [10]))]
        exact List.map_congr_left fun x _ => B_list x
      have e2 : (ByteArray.data ⟨#[]⟩).toList = ([] : Bs) := rfl
      rw [e1, e2, join_nil, List.flatMap_map]; rfl
    refine .inr ⟨g, 0, ((linesT bx es).map (· ++ [10])).map B, ?_, ?_, ?_, ?_, ?_, ?_, ?_, ?_, rfl⟩
    · have : ¬ (row1 g (keptT bx es).length).c = Int.toNat 0 := by
        show ¬ (keptT bx es).length = 0
        omega
      rw [if_neg this]; rfl
    · rw [List.length_map, hxs]; rfl
    · rw [List.length_map, hxs]; omega
    · rw [List.length_map, hxs]
      show es.length + 1 ≤ (keptT bx es).length - 0
      omega
    · rw [List.length_map, hxs]; omega
    · rw [hj]
      rw [List.length_append] at hul
      omega
    · rw [List.length_map, hxs]
      refine ⟨by rw [List.length_map, List.length_map, hxs], fun j v hv => ?_⟩
      rw [List.getElem?_map, List.getElem?_map, Option.map_eq_some_iff] at hv
      obtain ⟨y, hy, rfl⟩ := hv
      rw [Option.map_eq_some_iff] at hy
      obtain ⟨x, hx, rfl⟩ := hy
      have hx2 : (keptT bx es)[j]? = some x := by
        unfold keptT
        rw [List.getElem?_append_left (List.getElem?_eq_some_iff.1 hx).1]; exact hx
      obtain ⟨a, ha, hrd⟩ := rd3.ix hx2
      cases ha
      rw [Nat.mul_one] at hrd
      exact hrd.at0
    · rw [hj]
  refine S23_mono short ?_
  rintro _ _ ⟨rfl, rfl⟩
  have hsl : ((linesT bx es).flatMap (· ++ [10])).length ≤ 1048576 := by rw [List.length_append] at hul; omega
  refine c12 ht3 hsl fun a0 a1 h4 le4 _ _ => ?_
  rw [parse_short (by omega) (by omega) (by omega) okf]
  rw [show (⟨#[101, 110, 100, 10]⟩ : ByteArray) = B [101, 110, 100, 10] from rfl]
  simp only [B_app, B_size]
  refine ⟨by simp only [List.length_cons, List.length_nil]; omega, ?_⟩
  refine c12 (ht3.le le4) (by rw [List.length_append]; simp only [List.length_cons, List.length_nil]; omega) fun b0 b1 h5 le5 _ _ => ?_
  rw [parse_long (by omega) (by omega) (by omega) okf]
  have le05 := (((le1.trans le2).trans le3).trans le4).trans le5
  refine ⟨by rw [B_size]; omega, rfl, rfl, rfl, ⟨m, le05.rd hm⟩, ?_⟩
  -- two lines turned into one
  obtain ⟨l2, ls, hl2, hls, hrep⟩ : ∃ (l2 : Bs) (ls : List Bs), (10 : UInt8) ∉ l2 ∧ (∀ x ∈ ls, (10 : UInt8) ∉ x) ∧ Lib.replace (textT bx es) [10] [32] 1 = ((headT bx ++ 32 :: l2) :: ls).flatMap (· ++ [10]) := by
    have hno : ∀ x ∈ es.map lineT ++ [endB], (10 : UInt8) ∉ x := fun x hx => by
      rcases List.mem_append.1 hx with hx | hx
      · obtain ⟨y, hy, rfl⟩ := List.mem_map.1 hx
        exact line_no (okd y hy)
      · rw [List.mem_singleton.1 hx]; exact end_no
    cases hq : es.map lineT ++ [endB] with
    | nil => simp at hq
    | cons l2 ls =>
      rw [hq] at hno
      refine ⟨l2, ls, hno l2 List.mem_cons_self, fun x hx => hno x (List.mem_cons_of_mem _ hx), ?_⟩
      have e : textT bx es = headT bx ++ 10 :: (l2 :: ls).flatMap (· ++ [10]) := by
        rw [textT_lines, ← hq]; unfold linesT; simp
      rw [e, replace1 head_no]
      simp
  rw [B_list, hrep]
  have hrl2 : (((headT bx ++ 32 :: l2) :: ls).flatMap (· ++ [10])).length ≤ 1048576 := by
    have e : textT bx es = headT bx ++ 10 :: (((linesT bx es ++ [endB]).flatMap (· ++ [10])).drop ((headT bx).length + 1)) := by
      conv => lhs; rw [textT_lines]
      have : (linesT bx es ++ [endB]).flatMap (· ++ [10]) = headT bx ++ 10 :: (es.map lineT ++ [endB]).flatMap (· ++ [10]) := by unfold linesT; simp
      rw [this]
      congr 1
      rw [List.drop_append]
      simp
    have e2 := replace1 (t := ((linesT bx es ++ [endB]).flatMap (· ++ [10])).drop ((headT bx).length + 1)) (head_no (bx := bx))
    rw [← e, hrep] at e2
    have h7 := congrArg List.length e2
    have h8 := congrArg List.length e
    rw [List.length_append, List.length_cons] at h7 h8
    omega
  refine c12 (ht3.le (le4.trans le5)) hrl2 fun d0 d1 h6 le6 _ _ => ?_
  rw [parse_one hl2 hls]
  have le36 := (le4.trans le5).trans le6
  have le16 := ((le2.trans le3).trans le36)
  have r0' := r0.le le16
  have r1' := r1.le le16
  have rd6 := rd3.le le36
  have ht6 := ht3.le le36
  have e1l := r1.len
  -- the edges in another order
  have main : ∀ kk : Nat, kk < 256 → S6_j4 K s0 s1 (row1 g (keptT bx es).length) ((es.length + 2 : Nat) : Int) ((4 : Nat) : Int) ((es.length + 3 : Nat) : Int) ((4 : Nat) : Int) ((4 : Nat) : Int) (kk : Int) h6 := by
    intro kk hkk
    unfold S6_j4
    refine rdS rd6 (kept_head bx es) ?_
    have okr : ∀ x ∈ rotT es kk, x.Ok bx.length := fun x hx => ok x (rot_mem hx)
    refine lfp.count es.length (fun i (u : ByteArray × Int × Sl × Sl) h' => u.2.1 = (i : Int) ∧ u.2.2.1 = s0 ∧ u.1 = B (headT bx ++ [10] ++ ((rotT es kk).take i).flatMap (fun x => lineT x ++ [10])) ∧ St h6 h' (fun _ : Unit => .arr u.2.2.2 61 4 (((rotT es kk).take i).flatMap Ed.enc))) (fun X i u h' hi ⟨q1, q2, q3, st⟩ next => ?_)
      ⟨rfl, rfl, by simp, St.nil1 h6⟩
    obtain ⟨v0, v1, v2, v3⟩ := u
    simp only at q1 q2 q3 st
    subst q1 q2 q3
    simp only
    have hst := text_small (by omega) (by rw [rot_len]; omega) okr i
    unfold S6_l3
    by_cases hlt : i < es.length
    · rw [if_pos (by simp; omega)]
      obtain ⟨e, he1, he2⟩ := rot_at (k := kk) hlt
      have hj := (List.getElem?_eq_some_iff.1 he1).1
      have hmod : Int.tmod (IntKind.i64.wrap ((i : Int) + (kk : Int))) (s1.l : Int) = (((i + kk) % es.length : Nat) : Int) := by
        rw [wrapN (x := (i : Int) + (kk : Int)) (n := i + kk) (by omega) (by omega), e1l]; rfl
      rw [hmod]
      obtain ⟨a, ha, hrd⟩ := (r1'.le st.le).ix he1
      refine ⟨by omega, a, ha, by omega, by omega, e.f, e.t, e.d, bs e.b, by rw [Int.toNat_natCast]; exact hrd, ?_⟩
      refine appB (enc := Ed.enc) e st Ed.enc_len (by decide) (by rw [List.length_take, rot_len]; omega) (by decide) fun s' h7 st7 => ?_
      have wj : IntKind.i64.wrap (1 + (((i + kk) % es.length : Nat) : Int)) = (((i + kk) % es.length + 1 : Nat) : Int) := wrapN (by omega) (by omega)
      rw [wj]
      refine rdS (rd6.le st7.le) (kept_at he1) ?_
      simp only [B_app, B_size]
      have oke := ok e (List.mem_of_getElem? he1)
      have o1 := oke.f
      have o2 := oke.t
      have o3 := oke.b
      have hft := flat_takeZ he2 (headT bx ++ [10])
      have hst' := text_small (by omega) (by rw [rot_len]; omega) okr (i + 1)
      rw [hft] at hst'
      simp only [List.length_append, List.length_cons, List.length_nil] at hst'
      refine ⟨by simp only [List.length_append, List.length_cons, List.length_nil]; omega, ?_⟩
      rw [wsucc (by omega)]
      refine next hlt _ _ ⟨rfl, rfl, ?_, ?_⟩
      · show B _ = B _
        rw [hft, List.append_assoc _ (lineT e)]
      · show St h6 h7 _
        rw [List.take_add_one, he2]; exact st7
    · rw [if_neg (by simp; omega)]
      rw [List.take_of_length_le (by rw [rot_len]; omega)] at st hst ⊢
      unfold S6_j2
      rw [show (⟨#[101, 110, 100, 10]⟩ : ByteArray) = B [101, 110, 100, 10] from rfl]
      simp only [B_app, B_size]
      have etr : headT bx ++ [10] ++ (rotT es kk).flatMap (fun x => lineT x ++ [10]) ++ [101, 110, 100, 10] = textT bx (rotT es kk) := rfl
      rw [etr]
      refine ⟨by simp only [List.length_cons, List.length_nil]; omega, ?_⟩
      have le7 := st.le
      refine c12 (ht6.le le7) (by rw [← etr, List.length_append]; simp only [List.length_cons, List.length_nil]; omega) fun t0 t1 h8 le8 g0 g1 => ?_
      have htr := tot_three (es := rotT es kk) fun x hx => (okr x hx).b
      rw [rot_len] at htr
      rw [parse_print (by omega) (by rw [rot_len]; omega) (by omega) fun x hx => ⟨(okr x hx).f, (okr x hx).t, (okr x hx).d⟩] at g0 g1 ⊢
      refine c14 ((ht6.le le7).le le8) fun h9 le9 => ?_
      have wl : IntKind.i64.wrap (((row1 g (keptT bx es).length).l : Int) + 1) = ((es.length + 3 : Nat) : Int) := by rw [hrl]; exact wrapN (by omega) (by omega)
      rw [wl, hkl, if_pos rfl, if_pos (by decide), if_pos (by simp), if_pos (by decide), if_pos (by simp), if_pos (by decide), if_pos (by simp)]
      refine c16 (g0.le le9) (g1.le le9) (((r0'.le le7).le le8).le le9) ((((St.rd1 st Ed.enc_len (by decide)).le le8)).le le9) (by show bx.length ≤ _; omega) (by show (rotT es kk).length ≤ _; rw [rot_len]; omega) ?_
      unfold S6_j1
      exact k h9
  by_cases hn : es.length = 0
  · rw [if_neg (by simp; omega)]
    exact main 0 (by decide)
  · rw [if_pos (by simp; omega)]
    refine ⟨by omega, ?_⟩
    have e : Int.tmod (IntKind.i64.wrap (tn : Int)) (s1.l : Int) = ((tn % es.length : Nat) : Int) := by
      rw [wrapN (x := (tn : Int)) (n := tn) rfl (by omega), e1l]; rfl
    rw [e]
    exact main _ (by have := Nat.mod_lt tn (show 0 < es.length by omega); omega)
end Go.Proofs.YtimadnngfhbfiaaGreatDoor
end

section
/- PRINTED by wip/gen.py: facts of the program's types and calls. -/
namespace Go.Proofs.YtimadnngfhbfiaaGreatDoor
open Go Go.Mu
set_option maxRecDepth 100000
theorem MO : Tryz.prog.follows .mixedOrders = true := by kernel_rfl
theorem CB12 : callB Tryz.prog 12 = true := by kernel_rfl
theorem CB14 : callB Tryz.prog 14 = true := by kernel_rfl
theorem CB16 : callB Tryz.prog 16 = true := by kernel_rfl
theorem CB19 : callB Tryz.prog 19 = true := by kernel_rfl
theorem CB20 : callB Tryz.prog 20 = true := by kernel_rfl
theorem CB21 : callB Tryz.prog 21 = true := by kernel_rfl
theorem CB22 : callB Tryz.prog 22 = true := by kernel_rfl
theorem CB23 : callB Tryz.prog 23 = true := by kernel_rfl
theorem CB24 : callB Tryz.prog 24 = true := by kernel_rfl
theorem CB37 : callB Tryz.prog 37 = true := by kernel_rfl
theorem CB38 : callB Tryz.prog 38 = true := by kernel_rfl
theorem CB39 : callB Tryz.prog 39 = true := by kernel_rfl
theorem CB43 : callB Tryz.prog 43 = true := by kernel_rfl
theorem CB44 : callB Tryz.prog 44 = true := by kernel_rfl
theorem CB47 : callB Tryz.prog 47 = true := by kernel_rfl
theorem CB49 : callB Tryz.prog 49 = true := by kernel_rfl
theorem CB50 : callB Tryz.prog 50 = true := by kernel_rfl
theorem CB51 : callB Tryz.prog 51 = true := by kernel_rfl
theorem CB52 : callB Tryz.prog 52 = true := by kernel_rfl
theorem CB53 : callB Tryz.prog 53 = true := by kernel_rfl
theorem CB85 : callB Tryz.prog 85 = true := by kernel_rfl
theorem CB86 : callB Tryz.prog 86 = true := by kernel_rfl
theorem CB87 : callB Tryz.prog 87 = true := by kernel_rfl
theorem CB88 : callB Tryz.prog 88 = true := by kernel_rfl
theorem CB89 : callB Tryz.prog 89 = true := by kernel_rfl
theorem CB90 : callB Tryz.prog 90 = true := by kernel_rfl
theorem CB96 : callB Tryz.prog 96 = true := by kernel_rfl
theorem CB97 : callB Tryz.prog 97 = true := by kernel_rfl
theorem CB98 : callB Tryz.prog 98 = true := by kernel_rfl
theorem CB100 : callB Tryz.prog 100 = true := by kernel_rfl
theorem CB125 : callB Tryz.prog 125 = true := by kernel_rfl
theorem CB133 : callB Tryz.prog 133 = true := by kernel_rfl
theorem CB134 : callB Tryz.prog 134 = true := by kernel_rfl
theorem CB139 : callB Tryz.prog 139 = true := by kernel_rfl
theorem CB160 : callB Tryz.prog 160 = true := by kernel_rfl
theorem CB163 : callB Tryz.prog 163 = true := by kernel_rfl
theorem CB164 : callB Tryz.prog 164 = true := by kernel_rfl
theorem CB165 : callB Tryz.prog 165 = true := by kernel_rfl
theorem CB166 : callB Tryz.prog 166 = true := by kernel_rfl
theorem CB184 : callB Tryz.prog 184 = true := by kernel_rfl
theorem CB199 : callB Tryz.prog 199 = true := by kernel_rfl
theorem EG61 : Program.eqGuardType Tryz.prog (Program.depth Tryz.prog) 61 = false := by kernel_rfl
theorem SH61 : Program.stoodInHeld Tryz.prog 61 = false := by kernel_rfl
theorem T3 : TI Tryz.prog 3 (.int .i64 0) 1 8 := by unfold TI; kernel_rfl
theorem T4 : TI Tryz.prog 4 (.bool false) 1 1 := by unfold TI; kernel_rfl
theorem T5 : TI Tryz.prog 5 (.int .u8 0) 1 1 := by unfold TI; kernel_rfl
theorem T9 : TI Tryz.prog 9 (.string ⟨#[]⟩) 1 16 := by unfold TI; kernel_rfl
theorem T30 : TI Tryz.prog 30 (.slice none 0 0) 1 24 := by unfold TI; kernel_rfl
theorem T31 : TI Tryz.prog 31 (.slice none 0 0) 1 24 := by unfold TI; kernel_rfl
theorem T33 : TI Tryz.prog 33 (.agg #[(.slice none 0 0), (.slice none 0 0)]) 2 48 := by unfold TI; kernel_rfl
theorem T49 : TI Tryz.prog 49 (.slice none 0 0) 1 24 := by unfold TI; kernel_rfl
theorem T50 : TI Tryz.prog 50 (.slice none 0 0) 1 24 := by unfold TI; kernel_rfl
theorem T52 : TI Tryz.prog 52 (.agg #[(.slice none 0 0), (.slice none 0 0), (.slice none 0 0)]) 3 72 := by unfold TI; kernel_rfl
theorem T61 : TI Tryz.prog 61 (.agg #[(.int .i64 0), (.int .i64 0), (.int .i64 0), (.string ⟨#[]⟩)]) 4 40 := by unfold TI; kernel_rfl
theorem T104 : TI Tryz.prog 104 (.agg #[(.int .u8 0), (.int .u8 0), (.int .u8 0)]) 3 3 := by unfold TI; kernel_rfl
end Go.Proofs.YtimadnngfhbfiaaGreatDoor
end

section
namespace Go.Proofs.YtimadnngfhbfiaaGreatDoor
open Go Go.Mu
set_option maxHeartbeats 4000000
set_option maxRecDepth 100000
theorem f100_ok {p0 : ByteArray} {p1 : ByteArray} {h : H} {K : Bool → H → Prop} (hS : S100 p0 p1 h K) : ACall Tryz.prog 100 ([(.string p0), (.string p1)] : List Value).toArray h (fun r h' => ∃ r0 : Bool, r = tup [(.bool r0)] ∧ K r0 h') := by
  refine ACall.enter (fn := Tryz.f100) Tryz.func100 rfl (Nat.le_of_ble_eq_true rfl) ?_; unfold S100 at hS; have ok := Lok.nil h; refine EvC.seq (Xr [.look 0] (Xa rfl rfl rfl rfl fun _ => ?_)); refine R.nil (EvC.join (σ := Bool) (fun s => (Ep E0 4 (.bool s))) (fun s => []) (fun s h_1 => S100_j1 K s h_1) ?_ (fun Ih_1 hIh_1 => ?_))
  · intro v4 h_1 ok hS; replace hS : S100_j1 K v4 h_1 := hS; unfold S100_j1 at hS; refine EvC.ret ?_; exact ⟨.inr rfl, _, _, (.cons (.tmp rfl) .nil), ok.le, _, rfl, hS⟩
  · refine Xr [.look 0, .look 1, .look 2, .look 3, .look 4, .look 5, .look 6, .look 7, .look 8, .look 9, .look 10, .look 11, .look 12, .look 13, .look 14, .look 15, .look 16] (Xm rfl rfl rfl rfl fun _ => ?_); refine Xk rfl rfl (Lk.lenS rfl Tryz.underlying9 rfl) fun _ => ?_; refine Xm rfl rfl rfl rfl fun _ => ?_; refine Xk rfl rfl (Lk.lenS rfl Tryz.underlying9 rfl) fun _ => ?_; refine Xk rfl rfl (Lk.arith rfl rfl rfl rfl) fun _ => ?_; refine Xm rfl rfl rfl rfl fun _ => ?_
    by_cases e1 : (decide ((ByteArray.size p0 : Int) ≥ (ByteArray.size p1 : Int))) = true
    · rw [if_pos e1] at hS; refine R.lookT rfl rfl rfl rfl e1 rfl (Lk.move rfl rfl) fun _ => R.lookT rfl rfl rfl rfl e1 rfl (Lk.move rfl rfl) fun _ => R.lookT rfl rfl rfl rfl e1 rfl (Lk.lenS rfl Tryz.underlying9 rfl) fun _ => R.lookT rfl rfl rfl rfl e1 rfl (Lk.move rfl rfl) fun _ => R.lookT rfl rfl rfl rfl e1 rfl (Lk.lenS rfl Tryz.underlying9 rfl) fun _ => R.lookT rfl rfl rfl rfl e1 rfl (Lk.arith rfl rfl rfl rfl) fun _ => ?_
      obtain ⟨e2, e3, hS⟩ := hS
      refine R.lookT rfl rfl rfl rfl e1 rfl (Lk.subStrFrom rfl Tryz.underlying9 rfl rfl e2 e3) fun _ => R.lookT rfl rfl rfl rfl e1 rfl (Lk.move rfl rfl) fun _ => R.lookT rfl rfl rfl rfl e1 rfl (Lk.strEq rfl rfl rfl) fun _ => Xk rfl rfl (Lk.pick rfl rfl (fun _ => rfl) (fun e => by rw [e1] at e; cases e)) fun _ => Xa rfl rfl rfl rfl fun _ => R.nil ?_; exact hIh_1 (ByteArray.toList (ByteArray.extract p0 (Int.toNat (IntKind.wrap .i64 ((ByteArray.size p0 : Int) - (ByteArray.size p1 : Int)))) (ByteArray.size p0)) == ByteArray.toList p1) _ _ _ (lq rfl (lz _)) (ok.sub sl0) (H.add_sub ok sl0) hS
    · rw [if_neg e1] at hS; replace e1 := eq_false_of_ne_true e1; refine R.lookF rfl rfl rfl rfl e1 rfl fun _ => R.lookF rfl rfl rfl rfl e1 rfl fun _ => R.lookF rfl rfl rfl rfl e1 rfl fun _ => R.lookF rfl rfl rfl rfl e1 rfl fun _ => R.lookF rfl rfl rfl rfl e1 rfl fun _ => R.lookF rfl rfl rfl rfl e1 rfl fun _ => R.lookF rfl rfl rfl rfl e1 rfl fun _ => R.lookF rfl rfl rfl rfl e1 rfl fun _ => R.lookF rfl rfl rfl rfl e1 rfl fun _ => Xk rfl rfl (Lk.pick rfl rfl (fun e => by rw [e1] at e; cases e) (fun _ => rfl)) fun _ => Xa rfl rfl rfl rfl fun _ => R.nil ?_; exact hIh_1 false _ _ _ (lq rfl (lz _)) (ok.sub sl0) (H.add_sub ok sl0) hS

theorem f53_ok {p0 : ByteArray} {p1 : ByteArray} {h : H} {K : ByteArray → H → Prop} (hS : S53 p0 p1 h K) : ACall Tryz.prog 53 ([(.string p0), (.string p1)] : List Value).toArray h (fun r h' => ∃ r0 : ByteArray, r = tup [(.string r0)] ∧ K r0 h') := by
  refine ACall.enter (fn := Tryz.f53) Tryz.func53 rfl (Nat.le_of_ble_eq_true rfl) ?_; unfold S53 at hS; have ok := Lok.nil h; refine EvC.seq (Xr [.look 0] (Xa rfl rfl rfl rfl fun _ => ?_)); refine R.nil (EvC.seq (EvC.seq (Xr [.look 0, .look 1, .eff 2 []] (Xm rfl rfl rfl rfl fun _ => Xm rfl rfl rfl rfl fun _ => R.eff rfl rfl rfl (Eff.loc ok (Ef.call rfl CB100 rfl ((f100_ok hS).mono ?_))))))); rintro _ h_1 ⟨v7, rfl, hS⟩; refine fun ok => ⟨noChk, ?_⟩; refine R.nil ?_
  by_cases e1 : v7 = true
  · rw [if_pos e1] at hS; refine EvC.condT rfl e1 (EvC.seq (Xr [.look 0, .look 1, .look 2, .look 3, .look 4, .look 5, .look 6, .look 7] (Xm rfl rfl rfl rfl fun _ => ?_))); refine Xm rfl rfl rfl rfl fun _ => ?_; refine Xk rfl rfl (Lk.lenS rfl Tryz.underlying9 rfl) fun _ => ?_; refine Xm rfl rfl rfl rfl fun _ => ?_; refine Xk rfl rfl (Lk.lenS rfl Tryz.underlying9 rfl) fun _ => ?_; refine Xk rfl rfl (Lk.arith rfl rfl rfl rfl) fun _ => ?_
    obtain ⟨e2, e3, hS⟩ := hS
    refine Xk rfl rfl (Lk.subStrTo rfl Tryz.underlying9 rfl rfl e2 e3) fun _ => ?_; refine Xa rfl rfl rfl rfl fun _ => ?_; refine R.nil (EvC.ret ?_); exact ⟨.inr rfl, _, _, (.cons (.tmp rfl) .nil), ok.le, _, rfl, hS⟩
  · rw [if_neg e1] at hS; replace e1 := eq_false_of_ne_true e1; refine EvC.condF rfl e1 (EvC.skip (EvC.seq (Xr [.look 0, .look 1] (Xm rfl rfl rfl rfl fun _ => ?_)))); refine Xa rfl rfl rfl rfl fun _ => ?_; refine R.nil (EvC.ret ?_); exact ⟨.inr rfl, _, _, (.cons (.tmp rfl) .nil), ok.le, _, rfl, hS⟩

theorem f22_ok {p0 : ByteArray} {p1 : ByteArray} {h : H} {K : ByteArray → H → Prop} (hS : S22 p0 p1 h K) : ACall Tryz.prog 22 ([(.string p0), (.string p1)] : List Value).toArray h (fun r h' => ∃ r0 : ByteArray, r = tup [(.string r0)] ∧ K r0 h') := by
  refine ACall.enter (fn := Tryz.f22) Tryz.func22 rfl (Nat.le_of_ble_eq_true rfl) ?_; unfold S22 at hS; have ok := Lok.nil h; refine EvC.seq (Xr [.look 0] (Xa rfl rfl rfl rfl fun _ => ?_)); refine R.nil (EvC.seq (Xr [.look 0, .look 1, .eff 2 [], .look 3] (Xm rfl rfl rfl rfl fun _ => Xm rfl rfl rfl rfl fun _ => R.eff rfl rfl rfl (Eff.loc ok (Ef.call rfl CB53 rfl ((f53_ok hS).mono ?_)))))); rintro _ h_1 ⟨v7, rfl, hS⟩; refine fun ok => ⟨noChk, ?_⟩; refine Xa rfl rfl rfl rfl fun _ => ?_; refine R.nil (EvC.ret ?_); exact ⟨.inr rfl, _, _, (.cons (.tmp rfl) .nil), ok.le, _, rfl, hS⟩

theorem f85_ok {p0 : ByteArray} {p1 : ByteArray} {h : H} {K : Bool → H → Prop} (hS : S85 p0 p1 h K) : ACall Tryz.prog 85 ([(.string p0), (.string p1)] : List Value).toArray h (fun r h' => ∃ r0 : Bool, r = tup [(.bool r0)] ∧ K r0 h') := by
  refine ACall.enter (fn := Tryz.f85) Tryz.func85 rfl (Nat.le_of_ble_eq_true rfl) ?_; unfold S85 at hS; have ok := Lok.nil h; refine EvC.seq (Xr [.look 0] (Xa rfl rfl rfl rfl fun _ => ?_)); refine R.nil (EvC.seq (Xr [.look 0, .look 1, .eff 2 [], .look 3] (Xm rfl rfl rfl rfl fun _ => Xm rfl rfl rfl rfl fun _ => R.eff rfl rfl rfl (Eff.loc ok (Ef.call rfl CB100 rfl ((f100_ok hS).mono ?_)))))); rintro _ h_1 ⟨v7, rfl, hS⟩; refine fun ok => ⟨noChk, ?_⟩; refine Xa rfl rfl rfl rfl fun _ => ?_; refine R.nil (EvC.ret ?_); exact ⟨.inr rfl, _, _, (.cons (.tmp rfl) .nil), ok.le, _, rfl, hS⟩

end Go.Proofs.YtimadnngfhbfiaaGreatDoor
end

section
/- BY HAND: strings.genSplit at a separator of one byte. -/
namespace Go.Proofs.YtimadnngfhbfiaaGreatDoor
open Go Go.Mu
theorem f52_ok {p0 p1 : ByteArray} {p2 p3 : Int} {h : H} {K : Sl → H → Prop} (hS : S52 p0 p1 p2 p3 h K) : ACall Tryz.prog 52 ([(.string p0), (.string p1), (.int .i64 p2), (.int .i64 p3)] : List Value).toArray h (fun r h' => ∃ r0 : Sl, r = tup [(.slice r0.a r0.l r0.c)] ∧ K r0 h') := by
  obtain ⟨c, sv, rfl, rfl, hsv, rfl, hn, hk⟩ := hS
  refine acall_row fun w s => ?_
  have h1 : 1 ≤ ByteArray.size ⟨#[c]⟩ := Nat.le_refl 1
  have hle := Lib.countB_le ⟨#[c]⟩ h1 p0.size p0 (Nat.le_refl _)
  have hlen := Lib.splitB_all ⟨#[c]⟩ h1 sv _ p0 rfl
  have hI : ∀ (x : ByteArray) (cs : Array Value), x.size ≤ p0.size → Calls Tryz.prog 47 #[.string x, .string ⟨#[c]⟩] (w.alloc (.cells cs 9)) fun e w' => e = .returned (.int .i64 (Lib.indexB x ⟨#[c]⟩)) ∧ w' = w.alloc (.cells cs 9) := fun x cs _ =>
    (Any.strings_Index_one Tryz.lays143 x c _).mono fun e w' ⟨he, hw⟩ => ⟨by rw [he]; show _ = Ending.returned (Value.int .i64 (Lib.index x.data.toList [c])); rw [Lib.index_one], hw⟩
  have hC : Calls Tryz.prog 17 #[.string p0, .string ⟨#[c]⟩] w fun e w' => e = .returned (.int .i64 (Lib.countB p0 ⟨#[c]⟩)) ∧ w' = w :=
    (Any.strings_Count_one Tryz.lays138 p0 c w).mono fun e w' ⟨he, hw⟩ => ⟨by rw [he]; show _ = Ending.returned (Value.int .i64 ((Lib.count p0.data.toList [c] : Nat) : Int)); rw [Lib.count_one]; rfl, hw⟩
  have cc := Any.strings_genSplit_core Tryz.lays221 (by kernel_rfl) p0 ⟨#[c]⟩ sv (-1) (Lib.countB p0 ⟨#[c]⟩ + 1) w (by omega) h1 hsv hI hC (by decide) (by decide) (by rw [if_pos (by decide)]; omega)
  rw [Nat.add_sub_cancel, hlen] at cc
  have e2 : Lib.cellsOf (Lib.splitB ⟨#[c]⟩ sv (Lib.countB p0 ⟨#[c]⟩) p0) (Lib.countB p0 ⟨#[c]⟩ + 1) = ((Lib.splitB ⟨#[c]⟩ sv (Lib.countB p0 ⟨#[c]⟩) p0).map Value.string).toArray := by rw [← hlen]; exact Lib.cellsOf_full _
  rw [e2] at cc
  refine cc.mono ?_
  rintro e w' ⟨rfl, rfl⟩
  refine ⟨_, rfl, (RowKit.Below.refl _ w).alloc (Nat.le_refl _) _, .inr ⟨w.heap.size, _, 9, _, Nat.le_refl _, heap_alloc_new w _, List.prefix_refl _, _, rfl, hk w.heap.size _ _ (Sat.none_of_ge s (Nat.le_refl _)) hlen.symm ?_⟩⟩
  simp [hlen]
end Go.Proofs.YtimadnngfhbfiaaGreatDoor
end

section
namespace Go.Proofs.YtimadnngfhbfiaaGreatDoor
open Go Go.Mu
set_option maxHeartbeats 4000000
set_option maxRecDepth 100000
theorem f86_ok {p0 : ByteArray} {p1 : ByteArray} {h : H} {K : Sl → H → Prop} (hS : S86 p0 p1 h K) : ACall Tryz.prog 86 ([(.string p0), (.string p1)] : List Value).toArray h (fun r h' => ∃ r0 : Sl, r = tup [(.slice r0.a r0.l r0.c)] ∧ K r0 h') := by
  refine ACall.enter (fn := Tryz.f86) Tryz.func86 rfl (Nat.le_of_ble_eq_true rfl) ?_; unfold S86 at hS; have ok := Lok.nil h; refine EvC.seq (Xr [.look 0] (Xa rfl rfl rfl rfl fun _ => ?_)); refine R.nil (EvC.seq (Xr [.look 0, .look 1, .eff 2 [], .look 3] (Xm rfl rfl rfl rfl fun _ => Xm rfl rfl rfl rfl fun _ => R.eff rfl rfl rfl (Eff.loc ok (Ef.call rfl CB52 rfl ((f52_ok hS).mono ?_)))))); rintro _ h_1 ⟨v7, rfl, hS⟩; refine fun ok => ⟨noChk, ?_⟩; refine Xa rfl rfl rfl rfl fun _ => ?_; refine R.nil (EvC.ret ?_); exact ⟨.inr rfl, _, _, (.cons (.tmp rfl) .nil), ok.le, _, rfl, hS⟩

theorem f37_ok {p0 : ByteArray} {h : H} {K : Sl → Int → H → Prop} (hS : S37 p0 h K) : ACall Tryz.prog 37 ([(.string p0)] : List Value).toArray h (fun r h' => ∃ r0 : Sl, ∃ r1 : Int, r = tup [(.slice r0.a r0.l r0.c), (i6 r1)] ∧ K r0 r1 h') := by
  refine ACall.enter (fn := Tryz.f37) Tryz.func37 rfl (Nat.le_of_ble_eq_true rfl) ?_; unfold S37 at hS; have ok := Lok.nil h; refine EvC.seq (Xr [.look 0, .look 1] (Xa rfl rfl rfl rfl fun _ => ?_)); refine Xa rfl rfl rfl rfl fun _ => ?_; refine R.nil (EvC.seq (EvC.block (EvC.seq (Xr [.look 0, .look 1, .look 2, .look 3] (Xm rfl rfl rfl rfl fun _ => Xk rfl rfl (Lk.lenS rfl Tryz.underlying9 rfl) fun _ => Xk rfl rfl (Lk.arith rfl rfl rfl rfl) fun _ => Xa rfl rfl rfl rfl fun _ => R.nil ?_)))))
  by_cases e1 : (decide ((ByteArray.size p0 : Int) > 1048576)) = true
  · rw [if_pos e1] at hS; refine EvC.condT rfl e1 (EvC.seq (Xr [.look 0, .look 1] (Xa rfl rfl rfl rfl fun _ => ?_))); refine Xa rfl rfl rfl rfl fun _ => ?_; refine R.nil (EvC.ret ?_); exact ⟨.inr rfl, _, _, (.cons (.tmp rfl) (.cons (.tmp rfl) .nil)), ok.le, _, _, rfl, hS⟩
  · rw [if_neg e1] at hS; replace e1 := eq_false_of_ne_true e1; refine EvC.condF rfl e1 (EvC.seq (Xr [.look 0, .look 1, .look 2] (Xm rfl rfl rfl rfl fun _ => ?_))); refine Xk rfl rfl (Lk.strEq rfl rfl rfl) fun _ => ?_; refine Xa rfl rfl rfl rfl fun _ => ?_; refine R.nil ?_
    by_cases e2 : (ByteArray.toList p0 == ByteArray.toList ⟨#[]⟩) = true
    · rw [if_pos e2] at hS; refine EvC.condT rfl e2 (EvC.seq (Xr [.look 0, .look 1] (Xa rfl rfl rfl rfl fun _ => ?_))); refine Xa rfl rfl rfl rfl fun _ => ?_; refine R.nil (EvC.ret ?_); exact ⟨.inr rfl, _, _, (.cons (.tmp rfl) (.cons (.tmp rfl) .nil)), ok.le, _, _, rfl, hS⟩
    · rw [if_neg e2] at hS; replace e2 := eq_false_of_ne_true e2; refine EvC.condF rfl e2 (EvC.seq (Xr [.look 0, .eff 1 [], .look 2, .look 3] (Xm rfl rfl rfl rfl fun _ => ?_))); refine R.eff rfl rfl rfl (Eff.loc ok (Ef.call rfl CB85 rfl ((f85_ok hS).mono ?_))); rintro _ h_1 ⟨v13, rfl, hS⟩; refine fun ok => ⟨noChk, ?_⟩; refine Xk rfl rfl (Lk.not rfl rfl) fun _ => ?_; refine Xa rfl rfl rfl rfl fun _ => ?_; refine R.nil ?_
      by_cases e3 : (!v13) = true
      · rw [if_pos e3] at hS; refine EvC.condT rfl e3 (EvC.seq (Xr [.look 0, .look 1] (Xa rfl rfl rfl rfl fun _ => ?_))); refine Xa rfl rfl rfl rfl fun _ => ?_; refine R.nil (EvC.ret ?_); exact ⟨.inr rfl, _, _, (.cons (.tmp rfl) (.cons (.tmp rfl) .nil)), ok.le, _, _, rfl, hS⟩
      · rw [if_neg e3] at hS; replace e3 := eq_false_of_ne_true e3; refine EvC.condF rfl e3 (EvC.skip (EvC.seq (Xr [.look 0, .eff 1 [], .eff 2 [], .look 3, .look 4] (Xm rfl rfl rfl rfl fun _ => ?_)))); refine R.eff rfl rfl rfl (Eff.loc ok (Ef.call rfl CB22 rfl ((f22_ok hS).mono ?_))); rintro _ h_2 ⟨v16, rfl, hS⟩; refine fun ok => ⟨noChk, ?_⟩; refine R.eff rfl rfl rfl (Eff.loc ok (Ef.call rfl CB86 rfl ((f86_ok hS).mono ?_))); rintro _ h_3 ⟨v17, rfl, hS⟩; refine fun ok => ⟨noChk, ?_⟩; refine Xa rfl rfl rfl rfl fun _ => ?_; refine Xa rfl rfl rfl rfl fun _ => ?_; refine R.nil (EvC.ret ?_); exact ⟨.inr rfl, _, _, (.cons (.tmp rfl) (.cons (.tmp rfl) .nil)), ok.le, _, _, rfl, hS⟩

end Go.Proofs.YtimadnngfhbfiaaGreatDoor
end

section
/- BY HAND: utf8.DecodeLastRuneInString. -/
namespace Go.Proofs.YtimadnngfhbfiaaGreatDoor
open Go Go.Mu
theorem f139_ok {p0 : ByteArray} {h : H} {K : Int → Int → H → Prop} (hS : S139 p0 h K) : ACall Tryz.prog 139 ([(.string p0)] : List Value).toArray h (fun r h' => ∃ (r0 : Int) (r1 : Int), r = tup [(.int .i32 r0), (.int .i64 r1)] ∧ K r0 r1 h') := by
  obtain ⟨h0, h1, tb, k1, k2⟩ := hS
  refine ACall.below (r := .tuple #[.int .i32 (Lib.decodeLastL p0.data.toList).1, .int .i64 (Lib.decodeLastL p0.data.toList).2]) (fun w s => Any.utf8_DecodeLastRuneInString Tryz.lays271 p0 w h1 (tb w s)) ⟨_, _, rfl, ?_⟩
  rcases Nat.lt_or_ge (p0.get! (p0.size - 1)).toNat 128 with hlt | hge
  · have e : Lib.decodeLastL p0.data.toList = ((p0.get! (p0.size - 1)).toNat, 1) := by
      have hne : p0.data.toList ≠ [] := fun q => by
        have : p0.size = p0.data.toList.length := Lib.size_eq p0
        rw [q] at this
        have : p0.size = 0 := this
        omega
      have hl : p0.data.toList.getLast hne = p0.get! (p0.size - 1) := by
        rw [List.getLast_eq_getElem]
        show _ = p0.data[p0.size - 1]!
        rw [getElem!_pos p0.data (p0.size - 1) (by show p0.size - 1 < p0.size; omega), Array.getElem_toList]
        rfl
      conv => lhs; rw [← List.dropLast_concat_getLast hne, hl]
      exact Lib.decodeLastL_ascii _ _ hlt
    rw [e]
    exact k1 hlt
  · exact k2 hge _ _ (last_high p0 h0 hge)
end Go.Proofs.YtimadnngfhbfiaaGreatDoor
end

section
namespace Go.Proofs.YtimadnngfhbfiaaGreatDoor
open Go Go.Mu
set_option maxHeartbeats 4000000
set_option maxRecDepth 100000
theorem f96_ok {p0 : ByteArray} {p1 : ByteArray} {h : H} {K : ByteArray → H → Prop} (hS : S96 p0 p1 h K) : ACall Tryz.prog 96 ([(.string p0), (.string p1)] : List Value).toArray h (fun r h' => ∃ r0 : ByteArray, r = tup [(.string r0)] ∧ K r0 h') := by
  refine ACall.enter (fn := Tryz.f96) Tryz.func96 rfl (Nat.le_of_ble_eq_true rfl) ?_; unfold S96 at hS; have ok := Lok.nil h; refine EvC.seq (Xr [.look 0] (Xa rfl rfl rfl rfl fun _ => ?_)); refine R.nil (EvC.join (σ := ByteArray) (fun s => (Ep E0 0 (.string s))) (fun s => []) (fun s h_1 => S96_j1 K s h_1) ?_ (fun Ih_1 hIh_1 => ?_))
  · intro v0 h_1 ok hS; replace hS : S96_j1 K v0 h_1 := hS; unfold S96_j1 at hS; refine EvC.seq (Xr [.look 0, .look 1] (Xm rfl rfl rfl rfl fun _ => ?_)); refine Xa rfl rfl rfl rfl fun _ => ?_; refine R.nil (EvC.ret ?_); exact ⟨.inr rfl, _, _, (.cons (.tmp rfl) .nil), ok.le, _, rfl, hS⟩
  · refine EvC.block (EvC.loop (LoopC.lfp (σ := ByteArray) (fun s => (Ep (Ep E0 1 (.string p1)) 0 (.string s))) (fun s => []) (fun X hX => ?_) hS (ok.sub sl0) (lq rfl (lq rfl (lz _))) (H.add_sub ok sl0))); intro v0_1 h_2 hS ok; replace hS : S96_l4 p1 K X v0_1 h_2 := hS; unfold S96_l4 at hS; refine EvC.seq (EvC.seq (Xr [.look 0, .look 1, .look 2] (Xm rfl rfl rfl rfl fun _ => ?_))); refine Xk rfl rfl (Lk.lenS rfl Tryz.underlying9 rfl) fun _ => ?_; refine Xk rfl rfl (Lk.arith rfl rfl rfl rfl) fun _ => ?_; refine R.nil ?_
    by_cases e1 : (decide ((ByteArray.size v0_1 : Int) > 0)) = true
    · rw [if_pos e1] at hS; refine EvC.condT rfl e1 (EvC.skip (EvC.block (EvC.seq (Xr [.look 0, .eff 1 [], .look 2, .look 3, .look 4, .look 5, .look 6] (Xm rfl rfl rfl rfl fun _ => ?_))))); refine R.eff rfl rfl rfl (Eff.loc ok (Ef.call rfl CB139 rfl ((f139_ok hS).mono ?_))); rintro _ h_3 ⟨v15_0, v15_1, rfl, hS⟩; refine fun ok => ⟨noChk, ?_⟩; refine Xm rfl rfl rfl rfl fun _ => ?_; refine Xk rfl rfl (Lk.extract rfl rfl rfl) fun _ => ?_; refine Xk rfl rfl (Lk.extract rfl rfl rfl) fun _ => ?_; refine Xa rfl rfl rfl rfl fun _ => ?_; refine Xa rfl rfl rfl rfl fun _ => ?_; refine R.nil (EvC.seq (Xr [.look 0] (Xa rfl rfl rfl rfl fun _ => R.nil (EvC.join (σ := Bool) (fun s => (Ep (Ep (Ep (Ep E0 7 (.bool s)) 6 (i6 v15_1)) 1 (.string p1)) 0 (.string v0_1))) (fun s => []) (fun s h_4 => S96_j2 K v0_1 X v15_1 s h_4) ?_ (fun Ih_4 hIh_4 => ?_)))))
      · intro v7 h_4 ok hS; replace hS : S96_j2 K v0_1 X v15_1 v7 h_4 := hS; unfold S96_j2 at hS; refine EvC.seq (EvC.seq (Xr [.look 0, .look 1] (Xm rfl rfl rfl rfl fun _ => ?_))); refine Xk rfl rfl (Lk.not rfl rfl) fun _ => ?_; refine R.nil ?_
        by_cases e2 : (!v7) = true
        · rw [if_pos e2] at hS; refine EvC.condT rfl e2 (EvC.seq (Xr [.look 0, .look 1] (Xm rfl rfl rfl rfl fun _ => ?_))); refine Xa rfl rfl rfl rfl fun _ => ?_; refine R.nil (EvC.ret ?_); exact ⟨.inr rfl, _, _, (.cons (.tmp rfl) .nil), ok.le, _, rfl, hS⟩
        · rw [if_neg e2] at hS; replace e2 := eq_false_of_ne_true e2; refine EvC.condF rfl e2 (EvC.skip (Xr [.look 0, .look 1, .look 2, .look 3, .look 4, .look 5, .look 6] (Xm rfl rfl rfl rfl fun _ => ?_))); refine Xm rfl rfl rfl rfl fun _ => ?_; refine Xk rfl rfl (Lk.lenS rfl Tryz.underlying9 rfl) fun _ => ?_; refine Xm rfl rfl rfl rfl fun _ => ?_; refine Xk rfl rfl (Lk.arith rfl rfl rfl rfl) fun _ => ?_
          obtain ⟨e3, e4, hS⟩ := hS
          refine Xk rfl rfl (Lk.subStrTo rfl Tryz.underlying9 rfl rfl e3 e4) fun _ => ?_; refine Xa rfl rfl rfl rfl fun _ => ?_; refine R.nil ?_; exact hX (ByteArray.extract v0_1 0 (Int.toNat (IntKind.wrap .i64 ((ByteArray.size v0_1 : Int) - v15_1)))) _ _ _ hS (ok.sub sl0) (lq rfl (lq rfl (lz _))) (H.add_sub ok sl0)
      · refine EvC.seq (Xr [.look 0, .alc 1] (Xm rfl rfl rfl rfl fun _ => ?_)); refine R.var (blk := .obj (.stringIter p1 0)) ok rfl rfl rfl (Ac.range rfl Tryz.underlying9 rfl) trivial rfl fun b19 ok => ?_; refine R.nil (EvC.block (EvC.loop (LoopC.lfp (σ := Bool × Nat) (fun s => (Ep (Ep (Ep (Ep (Ep (Ep E0 19 (.pointer (some ⟨b19, 0, none⟩))) 7 (.bool s.1)) 6 (i6 v15_1)) 5 (.int .i32 v15_0)) 1 (.string p1)) 0 (.string v0_1))) (fun s => [(b19, .obj (.stringIter p1 s.2))]) (fun X_1 hX_1 => ?_) hS (ok.sub (.cons_cons _ sl0)) (lq rfl (lq rfl (lq rfl (lq rfl (lq rfl (lq rfl (lz _))))))) (H.add_sub ok (.cons_cons _ sl0))))); rintro ⟨v7_1, c19_1⟩ h_5 hS ok; replace hS : S96_l3 p1 K v0_1 X v15_0 v15_1 X_1 v7_1 c19_1 h_5 := hS; unfold S96_l3 at hS; refine EvC.seq (Xr [.eff 0 [], .look 1] ?_)
        by_cases e5 : c19_1 < ByteArray.size p1
        · rw [if_pos e5] at hS; refine R.eff rfl rfl rfl (Ef.nextLoc (i := 0) (l' := [(b19, .obj (.stringIter p1 (c19_1 + (Utf8.decode p1 c19_1).2)))]) ok rfl rfl rfl e5 rfl fun ok => ⟨noChk, ?_⟩); refine Xk rfl rfl (Lk.extract rfl rfl rfl) fun _ => ?_; refine R.nil (EvC.seq (EvC.condT rfl rfl (EvC.skip (EvC.block (EvC.seq (Xr [.look 0, .look 1] (Xk rfl rfl (Lk.extract rfl rfl rfl) fun _ => Xa rfl rfl rfl rfl fun _ => R.nil (Xr [.look 0, .look 1, .look 2, .look 3, .look 4, .look 5, .look 6] (Xm rfl rfl rfl rfl fun _ => Xm rfl rfl rfl rfl fun _ => ?_)))))))))
          by_cases e6 : v7_1 = true
          · refine R.lookF rfl rfl rfl rfl e6 rfl fun _ => R.lookF rfl rfl rfl rfl e6 rfl fun _ => R.lookF rfl rfl rfl rfl e6 rfl fun _ => Xk rfl rfl (Lk.pick rfl rfl (fun _ => rfl) (fun e => by rw [e6] at e; cases e)) fun _ => Xa rfl rfl rfl rfl fun _ => R.nil ?_; exact hX_1 ((v7_1 || (v15_0 == ((Utf8.decode p1 c19_1).1 : Int))), (c19_1 + (Utf8.decode p1 c19_1).2)) _ _ _ hS (ok.sub (.cons_cons _ sl0)) (lq rfl (lq rfl (lq rfl (lq rfl (lq (by rw [e6]; rfl) (lq rfl (lz _))))))) (H.add_sub ok (.cons_cons _ sl0))
          · replace e6 := eq_false_of_ne_true e6; refine R.lookT rfl rfl rfl rfl e6 rfl (Lk.move rfl rfl) fun _ => R.lookT rfl rfl rfl rfl e6 rfl (Lk.move rfl rfl) fun _ => R.lookT rfl rfl rfl rfl e6 rfl (Lk.arith rfl rfl rfl rfl) fun _ => Xk rfl rfl (Lk.pick rfl rfl (fun e => by rw [e6] at e; cases e) (fun _ => rfl)) fun _ => Xa rfl rfl rfl rfl fun _ => R.nil ?_; exact hX_1 ((v7_1 || (v15_0 == ((Utf8.decode p1 c19_1).1 : Int))), (c19_1 + (Utf8.decode p1 c19_1).2)) _ _ _ hS (ok.sub (.cons_cons _ sl0)) (lq rfl (lq rfl (lq rfl (lq rfl (lq (by rw [e6]; rfl) (lq rfl (lz _))))))) (H.add_sub ok (.cons_cons _ sl0))
        · rw [if_neg e5] at hS; refine R.eff rfl rfl rfl (Ef.nextEnd (i := 0) ok rfl rfl rfl e5 ⟨noChk, ?_⟩); refine Xk rfl rfl (Lk.extract rfl rfl rfl) fun _ => ?_; refine R.nil (EvC.seq (EvC.condF rfl rfl (EvC.exit ?_))); exact hIh_4 v7_1 _ _ _ (lq rfl (lq rfl (lq rfl (lq rfl (lz _))))) (ok.sub (.cons _ sl0)) (H.add_sub ok (.cons _ sl0)) hS
    · rw [if_neg e1] at hS; replace e1 := eq_false_of_ne_true e1; refine EvC.condF rfl e1 (EvC.exit ?_); exact hIh_1 v0_1 _ _ _ (lq rfl (lz _)) (ok.sub sl0) (H.add_sub ok sl0) hS

theorem f97_ok {p0 : ByteArray} {p1 : ByteArray} {h : H} {K : ByteArray → H → Prop} (hS : S97 p0 p1 h K) : ACall Tryz.prog 97 ([(.string p0), (.string p1)] : List Value).toArray h (fun r h' => ∃ r0 : ByteArray, r = tup [(.string r0)] ∧ K r0 h') := by
  refine ACall.enter (fn := Tryz.f97) Tryz.func97 rfl (Nat.le_of_ble_eq_true rfl) ?_; unfold S97 at hS; have ok := Lok.nil h; refine EvC.seq (Xr [.look 0] (Xa rfl rfl rfl rfl fun _ => ?_)); refine R.nil (EvC.join (σ := Unit) (fun s => E0) (fun s => []) (fun s h_1 => S97_j1 K h_1) ?_ (fun Ih_1 hIh_1 => ?_))
  · rintro ⟨⟩ h_1 ok hS; replace hS : S97_j1 K h_1 := hS; unfold S97_j1 at hS; refine EvC.seq (Xr [.look 0] (Xa rfl rfl rfl rfl fun _ => ?_)); refine R.nil (EvC.ret ?_); exact ⟨.inr rfl, _, _, (.cons (.tmp rfl) .nil), ok.le, _, rfl, hS⟩
  · refine EvC.seq (Xr [.look 0, .alc 1] (Xm rfl rfl rfl rfl fun _ => ?_)); refine R.var (blk := .obj (.stringIter p0 0)) ok rfl rfl rfl (Ac.range rfl Tryz.underlying9 rfl) trivial rfl fun b11 ok => ?_; refine R.nil (EvC.block (EvC.loop (LoopC.lfp (σ := Nat) (fun s => (Ep (Ep (Ep E0 11 (.pointer (some ⟨b11, 0, none⟩))) 1 (.string p1)) 0 (.string p0))) (fun s => [(b11, .obj (.stringIter p0 s))]) (fun X hX => ?_) hS (ok.sub (.cons_cons _ sl0)) (lq rfl (lq rfl (lq rfl (lz _)))) (H.add_sub ok (.cons_cons _ sl0))))); intro c11_1 h_2 hS ok; replace hS : S97_l4 p0 p1 K X c11_1 h_2 := hS; unfold S97_l4 at hS; refine EvC.seq (Xr [.eff 0 [], .look 1] ?_)
    by_cases e1 : c11_1 < ByteArray.size p0
    · rw [if_pos e1] at hS; refine R.eff rfl rfl rfl (Ef.nextLoc (i := 0) (l' := [(b11, .obj (.stringIter p0 (c11_1 + (Utf8.decode p0 c11_1).2)))]) ok rfl rfl rfl e1 rfl fun ok => ⟨noChk, ?_⟩); refine Xk rfl rfl (Lk.extract rfl rfl rfl) fun _ => ?_; refine R.nil (EvC.seq (EvC.condT rfl rfl (EvC.skip (EvC.block (EvC.seq (Xr [.look 0, .look 1, .look 2, .look 3] (Xk rfl rfl (Lk.extract rfl rfl rfl) fun _ => Xk rfl rfl (Lk.extract rfl rfl rfl) fun _ => Xa rfl rfl rfl rfl fun _ => Xa rfl rfl rfl rfl fun _ => R.nil (EvC.seq ?_)))))))); refine Xr [.look 0] (Xa rfl rfl rfl rfl fun _ => ?_); refine R.nil (EvC.join (σ := Bool) (fun s => (Ep (Ep (Ep (Ep (Ep E0 11 (.pointer (some ⟨b11, 0, none⟩))) 7 (.bool s)) 5 (i6 (c11_1 : Int))) 1 (.string p1)) 0 (.string p0))) (fun s => [(b11, .obj (.stringIter p0 (c11_1 + (Utf8.decode p0 c11_1).2)))]) (fun s h_3 => S97_j2 p0 K c11_1 X s h_3) ?_ (fun Ih_3 hIh_3 => ?_))
      · intro v7 h_3 ok hS; replace hS : S97_j2 p0 K c11_1 X v7 h_3 := hS; unfold S97_j2 at hS; refine EvC.seq (Xr [.look 0, .look 1] (Xm rfl rfl rfl rfl fun _ => ?_)); refine Xk rfl rfl (Lk.not rfl rfl) fun _ => ?_; refine R.nil ?_
        by_cases e2 : (!v7) = true
        · rw [if_pos e2] at hS; refine EvC.condT rfl e2 (EvC.seq (Xr [.look 0, .look 1, .look 2, .look 3] (Xm rfl rfl rfl rfl fun _ => ?_))); refine Xm rfl rfl rfl rfl fun _ => ?_
          obtain ⟨e3, e4, hS⟩ := hS
          refine Xk rfl rfl (Lk.subStrFrom rfl Tryz.underlying9 rfl rfl e3 e4) fun _ => ?_; refine Xa rfl rfl rfl rfl fun _ => ?_; refine R.nil (EvC.ret ?_); exact ⟨.inr rfl, _, _, (.cons (.tmp rfl) .nil), ok.le, _, rfl, hS⟩
        · rw [if_neg e2] at hS; replace e2 := eq_false_of_ne_true e2; refine EvC.condF rfl e2 (EvC.skip ?_); exact hX (c11_1 + (Utf8.decode p0 c11_1).2) _ _ _ hS (ok.sub (.cons_cons _ sl0)) (lq rfl (lq rfl (lq rfl (lz _)))) (H.add_sub ok (.cons_cons _ sl0))
      · refine EvC.seq (Xr [.look 0, .alc 1] (Xm rfl rfl rfl rfl fun _ => ?_)); refine R.var (blk := .obj (.stringIter p1 0)) ok rfl rfl rfl (Ac.range rfl Tryz.underlying9 rfl) trivial rfl fun b17 ok => ?_; refine R.nil (EvC.block (EvC.loop (LoopC.lfp (σ := Bool × Nat) (fun s => (Ep (Ep (Ep (Ep (Ep (Ep (Ep E0 17 (.pointer (some ⟨b17, 0, none⟩))) 11 (.pointer (some ⟨b11, 0, none⟩))) 7 (.bool s.1)) 6 (.int .i32 ((Utf8.decode p0 c11_1).1 : Int))) 5 (i6 (c11_1 : Int))) 1 (.string p1)) 0 (.string p0))) (fun s => [(b17, .obj (.stringIter p1 s.2)), (b11, .obj (.stringIter p0 (c11_1 + (Utf8.decode p0 c11_1).2)))]) (fun X_1 hX_1 => ?_) hS (ok.sub (.cons_cons _ (.cons_cons _ sl0))) (lq rfl (lq rfl (lq rfl (lq rfl (lq rfl (lq rfl (lq rfl (lz _)))))))) (H.add_sub ok (.cons_cons _ (.cons_cons _ sl0)))))); rintro ⟨v7_1, c17_1⟩ h_4 hS ok; replace hS : S97_l3 p0 p1 K c11_1 X X_1 v7_1 c17_1 h_4 := hS; unfold S97_l3 at hS; refine EvC.seq (Xr [.eff 0 [], .look 1] ?_)
        by_cases e5 : c17_1 < ByteArray.size p1
        · rw [if_pos e5] at hS; refine R.eff rfl rfl rfl (Ef.nextLoc (i := 0) (l' := [(b17, .obj (.stringIter p1 (c17_1 + (Utf8.decode p1 c17_1).2))), (b11, .obj (.stringIter p0 (c11_1 + (Utf8.decode p0 c11_1).2)))]) ok rfl rfl rfl e5 rfl fun ok => ⟨noChk, ?_⟩); refine Xk rfl rfl (Lk.extract rfl rfl rfl) fun _ => ?_; refine R.nil (EvC.seq (EvC.condT rfl rfl (EvC.skip (EvC.block (EvC.seq (Xr [.look 0, .look 1] (Xk rfl rfl (Lk.extract rfl rfl rfl) fun _ => Xa rfl rfl rfl rfl fun _ => R.nil (Xr [.look 0, .look 1, .look 2, .look 3, .look 4, .look 5, .look 6] (Xm rfl rfl rfl rfl fun _ => Xm rfl rfl rfl rfl fun _ => ?_)))))))))
          by_cases e6 : v7_1 = true
          · refine R.lookF rfl rfl rfl rfl e6 rfl fun _ => R.lookF rfl rfl rfl rfl e6 rfl fun _ => R.lookF rfl rfl rfl rfl e6 rfl fun _ => Xk rfl rfl (Lk.pick rfl rfl (fun _ => rfl) (fun e => by rw [e6] at e; cases e)) fun _ => Xa rfl rfl rfl rfl fun _ => R.nil ?_; exact hX_1 ((v7_1 || (((Utf8.decode p0 c11_1).1 : Int) == ((Utf8.decode p1 c17_1).1 : Int))), (c17_1 + (Utf8.decode p1 c17_1).2)) _ _ _ hS (ok.sub (.cons_cons _ (.cons_cons _ sl0))) (lq rfl (lq rfl (lq rfl (lq rfl (lq (by rw [e6]; rfl) (lq rfl (lq rfl (lz _)))))))) (H.add_sub ok (.cons_cons _ (.cons_cons _ sl0)))
          · replace e6 := eq_false_of_ne_true e6; refine R.lookT rfl rfl rfl rfl e6 rfl (Lk.move rfl rfl) fun _ => R.lookT rfl rfl rfl rfl e6 rfl (Lk.move rfl rfl) fun _ => R.lookT rfl rfl rfl rfl e6 rfl (Lk.arith rfl rfl rfl rfl) fun _ => Xk rfl rfl (Lk.pick rfl rfl (fun e => by rw [e6] at e; cases e) (fun _ => rfl)) fun _ => Xa rfl rfl rfl rfl fun _ => R.nil ?_; exact hX_1 ((v7_1 || (((Utf8.decode p0 c11_1).1 : Int) == ((Utf8.decode p1 c17_1).1 : Int))), (c17_1 + (Utf8.decode p1 c17_1).2)) _ _ _ hS (ok.sub (.cons_cons _ (.cons_cons _ sl0))) (lq rfl (lq rfl (lq rfl (lq rfl (lq (by rw [e6]; rfl) (lq rfl (lq rfl (lz _)))))))) (H.add_sub ok (.cons_cons _ (.cons_cons _ sl0)))
        · rw [if_neg e5] at hS; refine R.eff rfl rfl rfl (Ef.nextEnd (i := 0) ok rfl rfl rfl e5 ⟨noChk, ?_⟩); refine Xk rfl rfl (Lk.extract rfl rfl rfl) fun _ => ?_; refine R.nil (EvC.seq (EvC.condF rfl rfl (EvC.exit ?_))); exact hIh_3 v7_1 _ _ _ (lq rfl (lq rfl (lq rfl (lq rfl (lq rfl (lz _)))))) (ok.sub (.cons _ (.cons_cons _ sl0))) (H.add_sub ok (.cons _ (.cons_cons _ sl0))) hS
    · rw [if_neg e1] at hS; refine R.eff rfl rfl rfl (Ef.nextEnd (i := 0) ok rfl rfl rfl e1 ⟨noChk, ?_⟩); refine Xk rfl rfl (Lk.extract rfl rfl rfl) fun _ => ?_; refine R.nil (EvC.seq (EvC.condF rfl rfl (EvC.exit ?_))); exact hIh_1 () _ _ _ (lz _) (ok.sub (.cons _ sl0)) (H.add_sub ok (.cons _ sl0)) hS

theorem f49_ok {p0 : ByteArray} {p1 : ByteArray} {h : H} {K : Bool → H → Prop} (hS : S49 p0 p1 h K) : ACall Tryz.prog 49 ([(.string p0), (.string p1)] : List Value).toArray h (fun r h' => ∃ r0 : Bool, r = tup [(.bool r0)] ∧ K r0 h') := by
  refine ACall.enter (fn := Tryz.f49) Tryz.func49 rfl (Nat.le_of_ble_eq_true rfl) ?_; unfold S49 at hS; have ok := Lok.nil h; refine EvC.seq (Xr [.look 0] (Xa rfl rfl rfl rfl fun _ => ?_)); refine R.nil (EvC.seq (Xr [.look 0, .look 1, .eff 2 [], .look 3, .eff 4 [], .look 5, .look 6] (Xm rfl rfl rfl rfl fun _ => Xm rfl rfl rfl rfl fun _ => R.eff rfl rfl rfl (Eff.loc ok (Ef.call rfl CB97 rfl ((f97_ok hS).mono ?_)))))); rintro _ h_1 ⟨v7, rfl, hS⟩; refine fun ok => ⟨noChk, ?_⟩; refine Xm rfl rfl rfl rfl fun _ => ?_; refine R.eff rfl rfl rfl (Eff.loc ok (Ef.call rfl CB96 rfl ((f96_ok hS).mono ?_))); rintro _ h_2 ⟨v9, rfl, hS⟩; refine fun ok => ⟨noChk, ?_⟩; refine Xk rfl rfl (Lk.strEq rfl rfl rfl) fun _ => ?_; refine Xa rfl rfl rfl rfl fun _ => ?_; refine R.nil (EvC.ret ?_); exact ⟨.inr rfl, _, _, (.cons (.tmp rfl) .nil), ok.le, _, rfl, hS⟩

theorem f160_ok {p0 : Sl} {p1 : ByteArray} {h : H} {K : Int → H → Prop} (hS : S160 p0 p1 h K) : ACall Tryz.prog 160 ([(.slice p0.a p0.l p0.c), (.string p1)] : List Value).toArray h (fun r h' => ∃ r0 : Int, r = tup [(i6 r0)] ∧ K r0 h') := by
  refine ACall.enter (fn := Tryz.f160) Tryz.func160 rfl (Nat.le_of_ble_eq_true rfl) ?_; unfold S160 at hS; have ok := Lok.nil h; refine EvC.seq (Xr [.look 0] (Xa rfl rfl rfl rfl fun _ => ?_)); refine R.nil (EvC.join (σ := Unit) (fun s => E0) (fun s => []) (fun s h_1 => S160_j1 K h_1) ?_ (fun Ih_1 hIh_1 => ?_))
  · rintro ⟨⟩ h_1 ok hS; replace hS : S160_j1 K h_1 := hS; unfold S160_j1 at hS; refine EvC.seq (Xr [.look 0] (Xa rfl rfl rfl rfl fun _ => ?_)); refine R.nil (EvC.ret ?_); exact ⟨.inr rfl, _, _, (.cons (.tmp rfl) .nil), ok.le, _, rfl, hS⟩
  · refine EvC.seq (Xr [.look 0, .look 1, .look 2] (Xm rfl rfl rfl rfl fun _ => ?_)); refine Xk rfl rfl (Lk.len rfl Tryz.underlying55 rfl) fun _ => ?_; refine Xm rfl rfl rfl rfl fun _ => ?_; refine R.nil (EvC.block (EvC.loop (LoopC.lfp (σ := Int) (fun s => (Ep (Ep (Ep (Ep E0 8 (i6 s)) 7 (i6 (p0.l : Int))) 1 (.string p1)) 0 (.slice p0.a p0.l p0.c))) (fun s => []) (fun X hX => ?_) hS (ok.sub sl0) (lq rfl (lq rfl (lq rfl (lq rfl (lz _))))) (H.add_sub ok sl0)))); intro v8 h_2 hS ok; replace hS : S160_l2 p0 p1 K X v8 h_2 := hS; unfold S160_l2 at hS; refine EvC.seq (Xr [.look 0] (Xk rfl rfl (Lk.arith rfl rfl rfl rfl) fun _ => ?_)); refine R.nil (EvC.seq ?_)
    by_cases e1 : (decide (v8 < (p0.l : Int))) = true
    · rw [if_pos e1] at hS; refine EvC.condT rfl e1 (EvC.skip (EvC.seq (EvC.block (EvC.seq (Xr [.look 0, .look 1] (Xm rfl rfl rfl rfl fun _ => ?_)))))); refine Xa rfl rfl rfl rfl fun _ => ?_; refine R.nil (EvC.seq (Xr [.look 0, .look 1, .look 2, .look 3, .look 4, .look 5] (Xm rfl rfl rfl rfl fun _ => Xm rfl rfl rfl rfl fun _ => Xm rfl rfl rfl rfl fun _ => ?_)))
      obtain ⟨a14, e2, e3, e4, hS⟩ := hS
      refine Xk rfl rfl (Lk.ixAddr rfl Tryz.underlying55 T9 rfl e2 rfl e3 e4) fun _ => ?_
      obtain ⟨v15, e5, hS⟩ := hS
      refine Xk rfl rfl (Look.loc ok (Lk.load1 rfl Tryz.underlying9 rfl rfl e5)) fun _ => ?_; refine Xk rfl rfl (Lk.strEq rfl rfl rfl) fun _ => ?_; refine R.nil ?_
      by_cases e6 : (ByteArray.toList p1 == ByteArray.toList v15) = true
      · rw [if_pos e6] at hS; refine EvC.condT rfl e6 (EvC.seq (Xr [.look 0, .look 1] (Xm rfl rfl rfl rfl fun _ => ?_))); refine Xa rfl rfl rfl rfl fun _ => ?_; refine R.nil (EvC.ret ?_); exact ⟨.inr rfl, _, _, (.cons (.tmp rfl) .nil), ok.le, _, rfl, hS⟩
      · rw [if_neg e6] at hS; replace e6 := eq_false_of_ne_true e6; refine EvC.condF rfl e6 (EvC.skip (Xr [.look 0, .look 1] (Xk rfl rfl (Lk.arith rfl rfl rfl rfl) fun _ => ?_))); refine Xm rfl rfl rfl rfl fun _ => ?_; refine R.nil ?_; exact hX (IntKind.wrap .i64 (v8 + 1)) _ _ _ hS (ok.sub sl0) (lq rfl (lq rfl (lq rfl (lq rfl (lz _))))) (H.add_sub ok sl0)
    · rw [if_neg e1] at hS; replace e1 := eq_false_of_ne_true e1; refine EvC.condF rfl e1 (EvC.exit ?_); exact hIh_1 () _ _ _ (lz _) (ok.sub sl0) (H.add_sub ok sl0) hS

theorem f125_ok {p0 : Sl} {p1 : ByteArray} {h : H} {K : Bool → H → Prop} (hS : S125 p0 p1 h K) : ACall Tryz.prog 125 ([(.slice p0.a p0.l p0.c), (.string p1)] : List Value).toArray h (fun r h' => ∃ r0 : Bool, r = tup [(.bool r0)] ∧ K r0 h') := by
  refine ACall.enter (fn := Tryz.f125) Tryz.func125 rfl (Nat.le_of_ble_eq_true rfl) ?_; unfold S125 at hS; have ok := Lok.nil h; refine EvC.seq (Xr [.look 0] (Xa rfl rfl rfl rfl fun _ => ?_)); refine R.nil (EvC.seq (Xr [.look 0, .look 1, .eff 2 [], .look 3, .look 4] (Xm rfl rfl rfl rfl fun _ => Xm rfl rfl rfl rfl fun _ => R.eff rfl rfl rfl (Eff.loc ok (Ef.call rfl CB160 rfl ((f160_ok hS).mono ?_)))))); rintro _ h_1 ⟨v7, rfl, hS⟩; refine fun ok => ⟨noChk, ?_⟩; refine Xk rfl rfl (Lk.arith rfl rfl rfl rfl) fun _ => ?_; refine Xa rfl rfl rfl rfl fun _ => ?_; refine R.nil (EvC.ret ?_); exact ⟨.inr rfl, _, _, (.cons (.tmp rfl) .nil), ok.le, _, rfl, hS⟩

theorem f87_ok {p0 : ByteArray} {h : H} {K : Sl → Bool → H → Prop} (hS : S87 p0 h K) : ACall Tryz.prog 87 ([(.string p0)] : List Value).toArray h (fun r h' => ∃ r0 : Sl, ∃ r1 : Bool, r = tup [(.slice r0.a r0.l r0.c), (.bool r1)] ∧ K r0 r1 h') := by
  refine ACall.enter (fn := Tryz.f87) Tryz.func87 rfl (Nat.le_of_ble_eq_true rfl) ?_; unfold S87 at hS; have ok := Lok.nil h; refine EvC.seq (Xr [.look 0, .look 1] (Xa rfl rfl rfl rfl fun _ => ?_)); refine Xa rfl rfl rfl rfl fun _ => ?_; refine R.nil (EvC.seq (Xr [.look 0, .eff 1 [], .look 2] (Xm rfl rfl rfl rfl fun _ => R.eff rfl rfl rfl (Eff.loc ok (Ef.call rfl CB86 rfl ((f86_ok hS).mono ?_)))))); rintro _ h_1 ⟨v6, rfl, hS⟩; refine fun ok => ⟨noChk, ?_⟩; refine Xa rfl rfl rfl rfl fun _ => ?_; refine R.nil (EvC.seq (EvC.seq (Xr [.look 0, .eff 1 []] (Xm rfl rfl rfl rfl fun _ => R.eff rfl rfl rfl (Eff.loc ok (Ef.call rfl CB125 rfl ((f125_ok hS).mono ?_))))))); rintro _ h_2 ⟨v8, rfl, hS⟩; refine fun ok => ⟨noChk, ?_⟩; refine R.nil ?_
  by_cases e1 : v8 = true
  · rw [if_pos e1] at hS; refine EvC.condT rfl e1 (EvC.seq (Xr [.look 0, .look 1] (Xa rfl rfl rfl rfl fun _ => ?_))); refine Xa rfl rfl rfl rfl fun _ => ?_; refine R.nil (EvC.ret ?_); exact ⟨.inr rfl, _, _, (.cons (.tmp rfl) (.cons (.tmp rfl) .nil)), ok.le, _, _, rfl, hS⟩
  · rw [if_neg e1] at hS; replace e1 := eq_false_of_ne_true e1; refine EvC.condF rfl e1 (EvC.skip (EvC.seq (Xr [.look 0, .look 1, .look 2] (Xm rfl rfl rfl rfl fun _ => ?_)))); refine Xa rfl rfl rfl rfl fun _ => ?_; refine Xa rfl rfl rfl rfl fun _ => ?_; refine R.nil (EvC.ret ?_); exact ⟨.inr rfl, _, _, (.cons (.tmp rfl) (.cons (.tmp rfl) .nil)), ok.le, _, _, rfl, hS⟩

end Go.Proofs.YtimadnngfhbfiaaGreatDoor
end

section
/- BY HAND: strings.Trim at a cutset of one byte, and at "LR". -/
namespace Go.Proofs.YtimadnngfhbfiaaGreatDoor
open Go Go.Mu
theorem trim_set : (Tryz.prog.info? 188).map (fun i => (i.zero, i.size)) = some (some (.agg (Array.replicate 256 (.bool false))), 256) := by kernel_rfl
theorem f88_ok {p0 p1 : ByteArray} {h : H} {K : ByteArray → H → Prop} (hS : S88 p0 p1 h K) : ACall Tryz.prog 88 ([(.string p0), (.string p1)] : List Value).toArray h (fun r h' => ∃ r0 : ByteArray, r = tup [(.string r0)] ∧ K r0 h') := by
  rcases hS with ⟨c, hc, h1, rfl, k⟩ | ⟨h1, rfl, k⟩
  · refine ACall.below (fun w _ => (Any.strings_Trim_one Tryz.lays160 p0 c hc w h1).mono fun e w' ⟨he, hw⟩ => ⟨he, ?_⟩) ⟨_, rfl, k⟩
    rcases hw with rfl | rfl
    · exact RowKit.Below.refl _ _
    · exact (RowKit.Below.refl _ _).drew
  · exact ACall.below (fun w _ => Any.strings_Trim_laid Tryz.lays160 trim_set p0 ⟨#[76, 82]⟩ w h1 (by decide) (ascii_of_all (by decide))) ⟨_, rfl, k⟩
end Go.Proofs.YtimadnngfhbfiaaGreatDoor
end

section
namespace Go.Proofs.YtimadnngfhbfiaaGreatDoor
open Go Go.Mu
set_option maxHeartbeats 4000000
set_option maxRecDepth 100000
theorem f38_ok {p0 : ByteArray} {h : H} {K : Sl → Int → H → Prop} (hS : S38 p0 h K) : ACall Tryz.prog 38 ([(.string p0)] : List Value).toArray h (fun r h' => ∃ r0 : Sl, ∃ r1 : Int, r = tup [(.slice r0.a r0.l r0.c), (i6 r1)] ∧ K r0 r1 h') := by
  refine ACall.enter (fn := Tryz.f38) Tryz.func38 rfl (Nat.le_of_ble_eq_true rfl) ?_; unfold S38 at hS; have ok := Lok.nil h; refine EvC.seq (Xr [.look 0, .look 1] (Xa rfl rfl rfl rfl fun _ => ?_)); refine Xa rfl rfl rfl rfl fun _ => ?_; refine R.nil (EvC.seq (Xr [.look 0, .eff 1 [], .look 2, .look 3, .look 4, .look 5, .look 6] (Xm rfl rfl rfl rfl fun _ => R.eff rfl rfl rfl (Eff.loc ok (Ef.call rfl CB87 rfl ((f87_ok hS).mono ?_)))))); rintro _ h_1 ⟨v11_0, v11_1, rfl, hS⟩; refine fun ok => ⟨noChk, ?_⟩; refine Xm rfl rfl rfl rfl fun _ => ?_; refine Xk rfl rfl (Lk.extract rfl rfl rfl) fun _ => ?_; refine Xk rfl rfl (Lk.extract rfl rfl rfl) fun _ => ?_; refine Xa rfl rfl rfl rfl fun _ => ?_; refine Xa rfl rfl rfl rfl fun _ => ?_; refine R.nil (EvC.seq (EvC.block (EvC.join (σ := Bool) (fun s => (Ep (Ep E0 14 (.bool s)) 4 (.slice v11_0.a v11_0.l v11_0.c))) (fun s => []) (fun s h_2 => S38_j3 K v11_0 s h_2) ?_ (fun Ih_2 hIh_2 => ?_))))
  · intro v14 h_2 ok hS; replace hS : S38_j3 K v11_0 v14 h_2 := hS; unfold S38_j3 at hS
    by_cases e1 : v14 = true
    · rw [if_pos e1] at hS; refine EvC.condT rfl e1 (EvC.seq (Xr [.look 0, .look 1] (Xa rfl rfl rfl rfl fun _ => ?_))); refine Xa rfl rfl rfl rfl fun _ => ?_; refine R.nil (EvC.ret ?_); exact ⟨.inr rfl, _, _, (.cons (.tmp rfl) (.cons (.tmp rfl) .nil)), ok.le, _, _, rfl, hS⟩
    · rw [if_neg e1] at hS; replace e1 := eq_false_of_ne_true e1; refine EvC.condF rfl e1 (EvC.seq (Xr [.look 0, .look 1, .look 2, .look 3, .look 4, .look 5] (Xm rfl rfl rfl rfl fun _ => ?_)))
      obtain ⟨a43, e2, e3, e4, hS⟩ := hS
      refine Xk rfl rfl (Lk.ixAddr rfl Tryz.underlying55 T9 rfl e2 rfl e3 e4) fun _ => ?_
      obtain ⟨v44, e5, hS⟩ := hS
      refine Xk rfl rfl (Look.loc ok (Lk.load1 rfl Tryz.underlying9 rfl rfl e5)) fun _ => ?_; refine Xk rfl rfl (Lk.lenS rfl Tryz.underlying9 rfl) fun _ => ?_; refine Xk rfl rfl (Lk.arith rfl rfl rfl rfl) fun _ => ?_; refine Xa rfl rfl rfl rfl fun _ => ?_; refine R.nil ?_
      by_cases e6 : (decide ((ByteArray.size v44 : Int) > 4096)) = true
      · rw [if_pos e6] at hS; refine EvC.condT rfl e6 (EvC.seq (Xr [.look 0, .look 1] (Xa rfl rfl rfl rfl fun _ => ?_))); refine Xa rfl rfl rfl rfl fun _ => ?_; refine R.nil (EvC.ret ?_); exact ⟨.inr rfl, _, _, (.cons (.tmp rfl) (.cons (.tmp rfl) .nil)), ok.le, _, _, rfl, hS⟩
      · rw [if_neg e6] at hS; replace e6 := eq_false_of_ne_true e6; refine EvC.condF rfl e6 (EvC.skip (EvC.seq (Xr [.look 0] (Xa rfl rfl rfl rfl fun _ => ?_)))); refine R.nil (EvC.join (σ := Sl) (fun s => (Ep E0 6 (.slice s.a s.l s.c))) (fun s => []) (fun s h_3 => S38_j1 K s h_3) ?_ (fun Ih_3 hIh_3 => ?_))
        · intro v6 h_3 ok hS; replace hS : S38_j1 K v6 h_3 := hS; unfold S38_j1 at hS; refine EvC.seq (Xr [.look 0, .look 1, .look 2] (Xm rfl rfl rfl rfl fun _ => ?_)); refine Xa rfl rfl rfl rfl fun _ => ?_; refine Xa rfl rfl rfl rfl fun _ => ?_; refine R.nil (EvC.ret ?_); exact ⟨.inr rfl, _, _, (.cons (.tmp rfl) (.cons (.tmp rfl) .nil)), ok.le, _, _, rfl, hS⟩
        · refine EvC.seq (Xr [.look 0, .look 1, .look 2, .eff 3 [], .alc 4] (Xm rfl rfl rfl rfl fun _ => ?_))
          obtain ⟨a48, e7, e8, e9, hS⟩ := hS
          refine Xk rfl rfl (Lk.ixAddr rfl Tryz.underlying55 T9 rfl e7 rfl e8 e9) fun _ => ?_
          obtain ⟨v49, e10, hS⟩ := hS
          refine Xk rfl rfl (Look.loc ok (Lk.load1 rfl Tryz.underlying9 rfl rfl e10)) fun _ => ?_; refine R.eff rfl rfl rfl (Eff.loc ok (Ef.call rfl CB88 rfl ((f88_ok hS).mono ?_))); rintro _ h_4 ⟨v50, rfl, hS⟩; refine fun ok => ⟨noChk, ?_⟩; refine R.var (blk := .obj (.stringIter v50 0)) ok rfl rfl rfl (Ac.range rfl Tryz.underlying9 rfl) trivial rfl fun b51 ok => ?_; refine R.nil (EvC.block (EvC.loop (LoopC.lfp (σ := Sl × Nat) (fun s => (Ep (Ep E0 51 (.pointer (some ⟨b51, 0, none⟩))) 6 (.slice s.1.a s.1.l s.1.c))) (fun s => [(b51, .obj (.stringIter v50 s.2))]) (fun X hX => ?_) hS (ok.sub (.cons_cons _ sl0)) (lq rfl (lq rfl (lz _))) (H.add_sub ok (.cons_cons _ sl0))))); rintro ⟨v6_1, c51_1⟩ h_5 hS ok; replace hS : S38_l2 K v50 X v6_1 c51_1 h_5 := hS; unfold S38_l2 at hS; refine EvC.seq (Xr [.eff 0 [], .look 1] ?_)
          by_cases e11 : c51_1 < ByteArray.size v50
          · rw [if_pos e11] at hS; refine R.eff rfl rfl rfl (Ef.nextLoc (i := 0) (l' := [(b51, .obj (.stringIter v50 (c51_1 + (Utf8.decode v50 c51_1).2)))]) ok rfl rfl rfl e11 rfl fun ok => ⟨noChk, ?_⟩); refine Xk rfl rfl (Lk.extract rfl rfl rfl) fun _ => ?_; refine R.nil (EvC.seq (EvC.condT rfl rfl (EvC.skip (EvC.block (EvC.seq (Xr [.look 0, .look 1] (Xk rfl rfl (Lk.extract rfl rfl rfl) fun _ => Xa rfl rfl rfl rfl fun _ => R.nil (Xr [.look 0, .look 1, .look 2, .alc 3, .eff 4 [], .look 5] (Xm rfl rfl rfl rfl fun _ => Xm rfl rfl rfl rfl fun _ => ?_))))))))); refine Xk rfl rfl (Lk.arith rfl rfl rfl rfl) fun _ => ?_; refine R.appL (cs := [(.bool (((Utf8.decode v50 c51_1).1 : Int) == 98))]) ok rfl rfl rfl rfl rfl rfl rfl rfl Tryz.underlying30 T4 rfl (by decide) (by decide) rfl rfl rfl rfl rfl (fun _ => rfl) hS ?_; intro bb58 v59 h_6 hS ok; refine ⟨noChk, ?_⟩; refine Xa rfl rfl rfl rfl fun _ => ?_; refine R.nil ?_; exact hX (v59, (c51_1 + (Utf8.decode v50 c51_1).2)) _ _ _ hS (ok.sub (.cons_cons _ sl0)) (lq rfl (lq rfl (lz _))) (H.add_sub ok (.cons_cons _ sl0))
          · rw [if_neg e11] at hS; refine R.eff rfl rfl rfl (Ef.nextEnd (i := 0) ok rfl rfl rfl e11 ⟨noChk, ?_⟩); refine Xk rfl rfl (Lk.extract rfl rfl rfl) fun _ => ?_; refine R.nil (EvC.seq (EvC.condF rfl rfl (EvC.exit ?_))); exact hIh_3 v6_1 _ _ _ (lq rfl (lz _)) (ok.sub (.cons _ sl0)) (H.add_sub ok (.cons _ sl0)) hS
  · refine Xr [.look 0, .look 1, .look 2, .look 3, .look 4, .look 5, .look 6, .look 7, .look 8, .look 9, .look 10, .look 11, .look 12, .look 13, .look 14, .look 15, .look 16, .look 17, .look 18, .look 19, .look 20, .look 21, .eff 22 [], .look 23, .look 24, .look 25, .look 26] (Xm rfl rfl rfl rfl fun _ => ?_); refine Xk rfl rfl (Lk.not rfl rfl) fun _ => ?_; refine Xm rfl rfl rfl rfl fun _ => ?_
    by_cases e12 : (!v11_1) = true
    · rw [if_pos e12] at hS; refine R.lookF rfl rfl rfl rfl e12 rfl fun _ => R.lookF rfl rfl rfl rfl e12 rfl fun _ => R.lookF rfl rfl rfl rfl e12 rfl fun _ => Xk rfl rfl (Lk.pick rfl rfl (fun _ => rfl) (fun e => by rw [e12] at e; cases e)) fun _ => Xm rfl rfl rfl rfl fun _ => R.lookF rfl rfl rfl rfl rfl rfl fun _ => R.lookF rfl rfl rfl rfl rfl rfl fun _ => R.lookF rfl rfl rfl rfl rfl rfl fun _ => R.lookF rfl rfl rfl rfl rfl rfl fun _ => Xk rfl rfl (Lk.pick rfl rfl (fun _ => rfl) (fun e => by cases e)) fun _ => Xm rfl rfl rfl rfl fun _ => R.lookF rfl rfl rfl rfl rfl rfl fun _ => R.lookF rfl rfl rfl rfl rfl rfl fun _ => ?_; refine R.lookF rfl rfl rfl rfl rfl rfl fun _ => R.lookF rfl rfl rfl rfl rfl rfl fun _ => R.lookF rfl rfl rfl rfl rfl rfl fun _ => R.lookU rfl rfl rfl rfl rfl fun _ => R.lookU rfl rfl rfl rfl rfl fun _ => R.lookU rfl rfl rfl rfl rfl fun _ => R.effU rfl rfl rfl rfl rfl ?_; refine R.lookU rfl rfl rfl rfl rfl fun _ => R.lookF rfl rfl rfl rfl rfl rfl fun _ => Xk rfl rfl (Lk.pick rfl rfl (fun _ => rfl) (fun e => by cases e)) fun _ => Xa rfl rfl rfl rfl fun _ => R.nil ?_; exact hIh_2 true _ _ _ (lq rfl (lq rfl (lz _))) (ok.sub sl0) (H.add_sub ok sl0) hS
    · rw [if_neg e12] at hS; replace e12 := eq_false_of_ne_true e12; refine R.lookT rfl rfl rfl rfl e12 rfl (Lk.move rfl rfl) fun _ => R.lookT rfl rfl rfl rfl e12 rfl (Lk.len rfl Tryz.underlying55 rfl) fun _ => R.lookT rfl rfl rfl rfl e12 rfl (Lk.arith rfl rfl rfl rfl) fun _ => Xk rfl rfl (Lk.pick rfl rfl (fun e => by rw [e12] at e; cases e) (fun _ => rfl)) fun _ => Xm rfl rfl rfl rfl fun _ => ?_
      by_cases e13 : ((v11_0.l : Int) != 2) = true
      · rw [if_pos e13] at hS; refine R.lookF rfl rfl rfl rfl e13 rfl fun _ => R.lookF rfl rfl rfl rfl e13 rfl fun _ => R.lookF rfl rfl rfl rfl e13 rfl fun _ => R.lookF rfl rfl rfl rfl e13 rfl fun _ => Xk rfl rfl (Lk.pick rfl rfl (fun _ => rfl) (fun e => by rw [e13] at e; cases e)) fun _ => Xm rfl rfl rfl rfl fun _ => R.lookF rfl rfl rfl rfl rfl rfl fun _ => R.lookF rfl rfl rfl rfl rfl rfl fun _ => R.lookF rfl rfl rfl rfl rfl rfl fun _ => R.lookF rfl rfl rfl rfl rfl rfl fun _ => R.lookF rfl rfl rfl rfl rfl rfl fun _ => R.lookU rfl rfl rfl rfl rfl fun _ => R.lookU rfl rfl rfl rfl rfl fun _ => ?_; refine R.lookU rfl rfl rfl rfl rfl fun _ => R.effU rfl rfl rfl rfl rfl ?_; refine R.lookU rfl rfl rfl rfl rfl fun _ => R.lookF rfl rfl rfl rfl rfl rfl fun _ => Xk rfl rfl (Lk.pick rfl rfl (fun _ => rfl) (fun e => by cases e)) fun _ => Xa rfl rfl rfl rfl fun _ => R.nil ?_; exact hIh_2 true _ _ _ (lq rfl (lq rfl (lz _))) (ok.sub sl0) (H.add_sub ok sl0) hS
      · rw [if_neg e13] at hS; replace e13 := eq_false_of_ne_true e13; refine R.lookT rfl rfl rfl rfl e13 rfl (Lk.move rfl rfl) fun _ => ?_
        obtain ⟨a24, e14, e15, e16, hS⟩ := hS
        refine R.lookT rfl rfl rfl rfl e13 rfl (Lk.ixAddr rfl Tryz.underlying55 T9 rfl e14 rfl e15 e16) fun _ => ?_
        obtain ⟨v25, e17, hS⟩ := hS
        refine R.lookT rfl rfl rfl rfl e13 rfl (Look.loc ok (Lk.load1 rfl Tryz.underlying9 rfl rfl e17)) fun _ => R.lookT rfl rfl rfl rfl e13 rfl (Lk.strNe rfl rfl rfl) fun _ => Xk rfl rfl (Lk.pick rfl rfl (fun e => by rw [e13] at e; cases e) (fun _ => rfl)) fun _ => Xm rfl rfl rfl rfl fun _ => ?_
        by_cases e18 : (!(ByteArray.toList v25 == ByteArray.toList ⟨#[115, 104, 97, 112, 101]⟩)) = true
        · rw [if_pos e18] at hS; refine R.lookF rfl rfl rfl rfl e18 rfl fun _ => R.lookF rfl rfl rfl rfl e18 rfl fun _ => R.lookF rfl rfl rfl rfl e18 rfl fun _ => R.lookF rfl rfl rfl rfl e18 rfl fun _ => R.lookF rfl rfl rfl rfl e18 rfl fun _ => R.lookU rfl rfl rfl rfl rfl fun _ => R.lookU rfl rfl rfl rfl rfl fun _ => R.lookU rfl rfl rfl rfl rfl fun _ => R.effU rfl rfl rfl rfl rfl ?_; refine R.lookU rfl rfl rfl rfl rfl fun _ => R.lookF rfl rfl rfl rfl e18 rfl fun _ => Xk rfl rfl (Lk.pick rfl rfl (fun _ => rfl) (fun e => by rw [e18] at e; cases e)) fun _ => Xa rfl rfl rfl rfl fun _ => R.nil ?_; exact hIh_2 true _ _ _ (lq rfl (lq rfl (lz _))) (ok.sub sl0) (H.add_sub ok sl0) hS
        · rw [if_neg e18] at hS; replace e18 := eq_false_of_ne_true e18; refine R.lookT rfl rfl rfl rfl e18 rfl (Lk.move rfl rfl) fun _ => ?_
          obtain ⟨a30, e19, e20, e21, hS⟩ := hS
          refine R.lookT rfl rfl rfl rfl e18 rfl (Lk.ixAddr rfl Tryz.underlying55 T9 rfl e19 rfl e20 e21) fun _ => ?_
          obtain ⟨v31, e22, hS⟩ := hS
          refine R.lookT rfl rfl rfl rfl e18 rfl (Look.loc ok (Lk.load1 rfl Tryz.underlying9 rfl rfl e22)) fun _ => R.lookT rfl rfl rfl rfl e18 rfl (Lk.strNe rfl rfl rfl) fun _ => R.lookT rfl rfl rfl rfl e18 rfl (Lk.move rfl rfl) fun _ => ?_
          by_cases e23 : (!(ByteArray.toList v31 == ByteArray.toList ⟨#[45]⟩)) = true
          · rw [if_pos e23] at hS; refine R.lookT rfl rfl rfl rfl e23 rfl (Lk.move rfl rfl) fun _ => ?_
            obtain ⟨a35, e24, e25, e26, hS⟩ := hS
            refine R.lookT rfl rfl rfl rfl e23 rfl (Lk.ixAddr rfl Tryz.underlying55 T9 rfl e24 rfl e25 e26) fun _ => ?_
            obtain ⟨v36, e27, hS⟩ := hS
            refine R.lookT rfl rfl rfl rfl e23 rfl (Look.loc ok (Lk.load1 rfl Tryz.underlying9 rfl rfl e27)) fun _ => R.effT rfl rfl rfl rfl e23 rfl (Eff.loc ok (Ef.call rfl CB49 rfl ((f49_ok hS).mono ?_))); rintro _ h_7 ⟨v37, rfl, hS⟩; refine fun ok => ⟨noChk, ?_⟩; refine R.lookT rfl rfl rfl rfl e23 rfl (Lk.not rfl rfl) fun _ => R.lookT rfl rfl rfl rfl e18 rfl (Lk.pick rfl rfl (fun _ => rfl) (fun e => by rw [e23] at e; cases e)) fun _ => Xk rfl rfl (Lk.pick rfl rfl (fun e => by rw [e18] at e; cases e) (fun _ => rfl)) fun _ => Xa rfl rfl rfl rfl fun _ => R.nil ?_; exact hIh_2 (!v37) _ _ _ (lq rfl (lq rfl (lz _))) (ok.sub sl0) (H.add_sub ok sl0) hS
          · rw [if_neg e23] at hS; replace e23 := eq_false_of_ne_true e23; refine R.lookF rfl rfl rfl rfl e23 rfl fun _ => R.lookF rfl rfl rfl rfl e23 rfl fun _ => R.lookF rfl rfl rfl rfl e23 rfl fun _ => R.effF rfl rfl rfl rfl e23 rfl ?_; refine R.lookF rfl rfl rfl rfl e23 rfl fun _ => R.lookT rfl rfl rfl rfl e18 rfl (Lk.pick rfl rfl (fun e => by rw [e23] at e; cases e) (fun _ => rfl)) fun _ => Xk rfl rfl (Lk.pick rfl rfl (fun e => by rw [e18] at e; cases e) (fun _ => rfl)) fun _ => Xa rfl rfl rfl rfl fun _ => R.nil ?_; exact hIh_2 false _ _ _ (lq rfl (lq rfl (lz _))) (ok.sub sl0) (H.add_sub ok sl0) hS

end Go.Proofs.YtimadnngfhbfiaaGreatDoor
end

section
/-
  The library's Join, as the kit's shelf lays it.
-/
namespace Go.Proofs
open Go.Shelf
def Tryz.lays156_ren : Go.Shelf.Ren := ⟨fun | 156 => 23 | 165 => 54 | 166 => 55 | 169 => 56 | 240 => 101 | 241 => 102 | 276 => 140 | 277 => 141 | n => n, fun | 31 => 55 | 9 => 9 | 3 => 3 | 4 => 4 | 0 => 0 | 20 => 20 | 72 => 109 | 76 => 113 | 70 => 107 | 37 => 50 | 75 => 112 | 127 => 154 | 164 => 194 | 5 => 5 | 80 => 115 | n => n, fun | n => n⟩
theorem Tryz.lays156 : Go.Proofs.Lays.n156 Tryz.prog Tryz.lays156_ren := {
  mixed := by kernel_rfl
  f156 := Tryz.func23.trans (congrArg some (by kernel_rfl))
  f165 := Tryz.func54.trans (congrArg some (by kernel_rfl))
  f166 := Tryz.func55.trans (congrArg some (by kernel_rfl))
  f169 := Tryz.func56.trans (congrArg some (by kernel_rfl))
  f240 := Tryz.func101.trans (congrArg some (by kernel_rfl))
  f241 := Tryz.func102.trans (congrArg some (by kernel_rfl))
  f276 := Tryz.func140.trans (congrArg some (by kernel_rfl))
  f277 := Tryz.func141.trans (congrArg some (by kernel_rfl))
  t0 := Tryz.underlying0
  a0 := Tryz.isAgg0
  z0 := Tryz.sizeOf0
  v0 := Tryz.zeroValue0
  t3 := Tryz.underlying3
  a3 := Tryz.isAgg3
  z3 := Tryz.sizeOf3
  v3 := Tryz.zeroValue3
  t4 := Tryz.underlying4
  a4 := Tryz.isAgg4
  z4 := Tryz.sizeOf4
  v4 := Tryz.zeroValue4
  t9 := Tryz.underlying9
  a9 := Tryz.isAgg9
  z9 := Tryz.sizeOf9
  v9 := Tryz.zeroValue9
  t20 := Tryz.underlying20
  a20 := Tryz.isAgg20
  z20 := Tryz.sizeOf20
  v20 := Tryz.zeroValue20
  t31 := Tryz.underlying55
  a31 := Tryz.isAgg55
  z31 := Tryz.sizeOf55
  v31 := Tryz.zeroValue55
  t37 := Tryz.underlying50
  a37 := Tryz.isAgg50
  z37 := Tryz.sizeOf50
  v37 := Tryz.zeroValue50
  t70 := Tryz.underlying107
  a70 := Tryz.isAgg107
  z70 := Tryz.sizeOf107
  v70 := Tryz.zeroValue107
  t72 := Tryz.underlying109
  a72 := Tryz.isAgg109
  z72 := Tryz.sizeOf109
  v72 := Tryz.zeroValue109
  t75 := Tryz.underlying112
  a75 := Tryz.isAgg112
  z75 := Tryz.sizeOf112
  v75 := Tryz.zeroValue112
  t76 := Tryz.underlying113
  a76 := Tryz.isAgg113
  z76 := Tryz.sizeOf113
  v76 := Tryz.zeroValue113
  t127 := Tryz.underlying154
  a127 := Tryz.isAgg154
  z127 := Tryz.sizeOf154
  v127 := Tryz.zeroValue154
  t164 := Tryz.underlying194
  a164 := Tryz.isAgg194
  z164 := Tryz.sizeOf194
  v164 := Tryz.zeroValue194 }
theorem Tryz.Builder_Extra_156 : Builder.Extra Tryz.prog Tryz.lays156_ren := {
  sizeBuilder := by kernel_rfl
  liesBuilder := by kernel_rfl
  t5 := Tryz.underlying5
  a5 := Tryz.isAgg5
  z5 := Tryz.sizeOf5
  v5 := Tryz.zeroValue5
  infoByte := by kernel_rfl
  cellsByte := by kernel_rfl
  sizeByte := by kernel_rfl
  neB5 := by decide }
end Go.Proofs
end

section
/- BY HAND: strings.Join. -/
namespace Go.Proofs.YtimadnngfhbfiaaGreatDoor
open Go Go.Mu
theorem f23_ok {p0 : Sl} {p1 : ByteArray} {h : H} {K : ByteArray → H → Prop} (hS : S23 p0 p1 h K) : ACall Tryz.prog 23 ([(.slice p0.a p0.l p0.c), (.string p1)] : List Value).toArray h (fun r h' => ∃ r0 : ByteArray, r = tup [(.string r0)] ∧ K r0 h') := by
  rcases hS with ⟨h0, k⟩ | ⟨g, o, xs, ha, hl, h0, hc, hN, hlen, hrd, k⟩
  · rw [h0]
    exact ACall.below (fun w _ => (Any.strings_Join_none Tryz.lays156 Tryz.Builder_Extra_156 p0.a p0.c p1 w).mono fun e w' ⟨he, hw⟩ => ⟨he, hw ▸ Go.RowKit.Below.refl _ _⟩) ⟨_, rfl, k⟩
  · rw [ha, hl]
    have cell : ∀ (w : World), Sat h w → ∀ (j : Nat) x, xs[j]? = some x → w.cell? ⟨g, o + j, none⟩ = some (.string x) := fun w s j x hj => by
      have := s.rd (hrd.2 j (.string x) (by simp [hj]))
      rwa [Addr.add_n] at this
    refine ACall.below (fun w s => Any.strings_Join Tryz.lays156 Tryz.Builder_Extra_156 g o p0.c xs p1 w (cell w s) ?_ hN hc hlen) ⟨_, rfl, k⟩
    obtain ⟨x, hx⟩ : ∃ x, xs[0]? = some x := ⟨_, List.getElem?_eq_getElem h0⟩
    have := cell w s 0 x hx
    rcases Nat.lt_or_ge g w.heap.size with hg | hg
    · exact hg
    · simp [World.cell?, Array.getElem?_eq_none hg] at this
end Go.Proofs.YtimadnngfhbfiaaGreatDoor
end

section
namespace Go.Proofs.YtimadnngfhbfiaaGreatDoor
open Go Go.Mu
set_option maxHeartbeats 4000000
set_option maxRecDepth 100000
theorem f165_ok {p0 : Int} {h : H} {K : Bool → H → Prop} (hS : S165 p0 h K) : ACall Tryz.prog 165 ([(.int .i32 p0)] : List Value).toArray h (fun r h' => ∃ r0 : Bool, r = tup [(.bool r0)] ∧ K r0 h') := by
  refine ACall.enter (fn := Tryz.f165) Tryz.func165 rfl (Nat.le_of_ble_eq_true rfl) ?_; unfold S165 at hS; have ok := Lok.nil h; refine EvC.seq (Xr [.look 0] (Xa rfl rfl rfl rfl fun _ => ?_)); refine R.nil (EvC.join (σ := Bool) (fun s => (Ep E0 2 (.bool s))) (fun s => []) (fun s h_1 => S165_j1 K s h_1) ?_ (fun Ih_1 hIh_1 => ?_))
  · intro v2 h_1 ok hS; replace hS : S165_j1 K v2 h_1 := hS; unfold S165_j1 at hS; refine EvC.ret ?_; exact ⟨.inr rfl, _, _, (.cons (.tmp rfl) .nil), ok.le, _, rfl, hS⟩
  · refine Xr [.look 0, .look 1, .look 2, .look 3, .look 4, .look 5, .look 6] (Xm rfl rfl rfl rfl fun _ => ?_); refine Xk rfl rfl (Lk.arith rfl rfl rfl rfl) fun _ => ?_; refine Xm rfl rfl rfl rfl fun _ => ?_
    by_cases e1 : (decide (p0 ≥ 48)) = true
    · refine R.lookT rfl rfl rfl rfl e1 rfl (Lk.move rfl rfl) fun _ => R.lookT rfl rfl rfl rfl e1 rfl (Lk.arith rfl rfl rfl rfl) fun _ => Xk rfl rfl (Lk.pick rfl rfl (fun _ => rfl) (fun e => by rw [e1] at e; cases e)) fun _ => Xa rfl rfl rfl rfl fun _ => R.nil ?_; exact hIh_1 ((decide (p0 ≥ 48)) && (decide (p0 ≤ 57))) _ _ _ (lq (by rw [e1]; rfl) (lz _)) (ok.sub sl0) (H.add_sub ok sl0) hS
    · replace e1 := eq_false_of_ne_true e1; refine R.lookF rfl rfl rfl rfl e1 rfl fun _ => R.lookF rfl rfl rfl rfl e1 rfl fun _ => Xk rfl rfl (Lk.pick rfl rfl (fun e => by rw [e1] at e; cases e) (fun _ => rfl)) fun _ => Xa rfl rfl rfl rfl fun _ => R.nil ?_; exact hIh_1 ((decide (p0 ≥ 48)) && (decide (p0 ≤ 57))) _ _ _ (lq (by rw [e1]; rfl) (lz _)) (ok.sub sl0) (H.add_sub ok sl0) hS

theorem f164_ok {p0 : Int} {h : H} {K : Bool → H → Prop} (hS : S164 p0 h K) : ACall Tryz.prog 164 ([(.int .i32 p0)] : List Value).toArray h (fun r h' => ∃ r0 : Bool, r = tup [(.bool r0)] ∧ K r0 h') := by
  refine ACall.enter (fn := Tryz.f164) Tryz.func164 rfl (Nat.le_of_ble_eq_true rfl) ?_; unfold S164 at hS; have ok := Lok.nil h; refine EvC.seq (Xr [.look 0] (Xa rfl rfl rfl rfl fun _ => ?_)); refine R.nil (EvC.seq (Xr [.look 0, .eff 1 [], .look 2, .look 3] (Xm rfl rfl rfl rfl fun _ => R.eff rfl rfl rfl (Eff.loc ok (Ef.call rfl CB165 rfl ((f165_ok hS).mono ?_)))))); rintro _ h_1 ⟨v4, rfl, hS⟩; refine fun ok => ⟨noChk, ?_⟩; refine Xk rfl rfl (Lk.not rfl rfl) fun _ => ?_; refine Xa rfl rfl rfl rfl fun _ => ?_; refine R.nil (EvC.ret ?_); exact ⟨.inr rfl, _, _, (.cons (.tmp rfl) .nil), ok.le, _, rfl, hS⟩

theorem f199_ok {p0 : ByteArray} {p2 : Bool} {h : H} {K : Int → H → Prop} (hS : S199 p0 p2 h K) : ACall Tryz.prog 199 ([(.string p0), (.func (.func 164) ([] : List Value).toArray ([] : List Value).toArray), (.bool p2)] : List Value).toArray h (fun r h' => ∃ r0 : Int, r = tup [(i6 r0)] ∧ K r0 h') := by
  refine ACall.enter (fn := Tryz.f199) Tryz.func199 rfl (Nat.le_of_ble_eq_true rfl) ?_; unfold S199 at hS; have ok := Lok.nil h; refine EvC.seq (Xr [.look 0] (Xa rfl rfl rfl rfl fun _ => ?_)); refine R.nil (EvC.join (σ := Unit) (fun s => E0) (fun s => []) (fun s h_1 => S199_j1 K h_1) ?_ (fun Ih_1 hIh_1 => ?_))
  · rintro ⟨⟩ h_1 ok hS; replace hS : S199_j1 K h_1 := hS; unfold S199_j1 at hS; refine EvC.seq (Xr [.look 0] (Xa rfl rfl rfl rfl fun _ => ?_)); refine R.nil (EvC.ret ?_); exact ⟨.inr rfl, _, _, (.cons (.tmp rfl) .nil), ok.le, _, rfl, hS⟩
  · refine EvC.seq (Xr [.look 0, .alc 1] (Xm rfl rfl rfl rfl fun _ => ?_)); refine R.var (blk := .obj (.stringIter p0 0)) ok rfl rfl rfl (Ac.range rfl Tryz.underlying9 rfl) trivial rfl fun b10 ok => ?_; refine R.nil (EvC.block (EvC.loop (LoopC.lfp (σ := Nat) (fun s => (Ep (Ep (Ep E0 10 (.pointer (some ⟨b10, 0, none⟩))) 2 (.bool p2)) 1 (.func (.func 164) ([] : List Value).toArray ([] : List Value).toArray))) (fun s => [(b10, .obj (.stringIter p0 s))]) (fun X hX => ?_) hS (ok.sub (.cons_cons _ sl0)) (lq rfl (lq rfl (lq rfl (lz _)))) (H.add_sub ok (.cons_cons _ sl0))))); intro c10_1 h_2 hS ok; replace hS : S199_l2 p0 p2 K X c10_1 h_2 := hS; unfold S199_l2 at hS; refine EvC.seq (Xr [.eff 0 [], .look 1] ?_)
    by_cases e1 : c10_1 < ByteArray.size p0
    · rw [if_pos e1] at hS; refine R.eff rfl rfl rfl (Ef.nextLoc (i := 0) (l' := [(b10, .obj (.stringIter p0 (c10_1 + (Utf8.decode p0 c10_1).2)))]) ok rfl rfl rfl e1 rfl fun ok => ⟨noChk, ?_⟩); refine Xk rfl rfl (Lk.extract rfl rfl rfl) fun _ => ?_; refine R.nil (EvC.seq (EvC.condT rfl rfl (EvC.skip (EvC.block (EvC.seq (Xr [.look 0, .look 1, .look 2, .look 3] (Xk rfl rfl (Lk.extract rfl rfl rfl) fun _ => Xk rfl rfl (Lk.extract rfl rfl rfl) fun _ => Xa rfl rfl rfl rfl fun _ => Xa rfl rfl rfl rfl fun _ => R.nil (EvC.seq ?_)))))))); refine Xr [.look 0, .look 1, .eff 2 [], .look 3, .look 4] (Xm rfl rfl rfl rfl fun _ => ?_); refine Xm rfl rfl rfl rfl fun _ => ?_; refine R.eff rfl rfl rfl (Eff.loc ok (Ef.callV (first := []) rfl rfl CB164 rfl ((f164_ok hS).mono ?_))); rintro _ h_3 ⟨v17, rfl, hS⟩; refine fun ok => ⟨noChk, ?_⟩; refine Xm rfl rfl rfl rfl fun _ => ?_; refine Xk rfl rfl (Lk.boolEq rfl Tryz.underlying4 rfl rfl) fun _ => ?_; refine R.nil ?_
      by_cases e2 : (v17 == p2) = true
      · rw [if_pos e2] at hS; refine EvC.condT rfl e2 (EvC.seq (Xr [.look 0, .look 1] (Xm rfl rfl rfl rfl fun _ => ?_))); refine Xa rfl rfl rfl rfl fun _ => ?_; refine R.nil (EvC.ret ?_); exact ⟨.inr rfl, _, _, (.cons (.tmp rfl) .nil), ok.le, _, rfl, hS⟩
      · rw [if_neg e2] at hS; replace e2 := eq_false_of_ne_true e2; refine EvC.condF rfl e2 (EvC.skip ?_); exact hX (c10_1 + (Utf8.decode p0 c10_1).2) _ _ _ hS (ok.sub (.cons_cons _ sl0)) (lq rfl (lq rfl (lq rfl (lz _)))) (H.add_sub ok (.cons_cons _ sl0))
    · rw [if_neg e1] at hS; refine R.eff rfl rfl rfl (Ef.nextEnd (i := 0) ok rfl rfl rfl e1 ⟨noChk, ?_⟩); refine Xk rfl rfl (Lk.extract rfl rfl rfl) fun _ => ?_; refine R.nil (EvC.seq (EvC.condF rfl rfl (EvC.exit ?_))); exact hIh_1 () _ _ _ (lz _) (ok.sub (.cons _ sl0)) (H.add_sub ok (.cons _ sl0)) hS

theorem f184_ok {p0 : ByteArray} {h : H} {K : Int → H → Prop} (hS : S184 p0 h K) : ACall Tryz.prog 184 ([(.string p0), (.func (.func 164) ([] : List Value).toArray ([] : List Value).toArray)] : List Value).toArray h (fun r h' => ∃ r0 : Int, r = tup [(i6 r0)] ∧ K r0 h') := by
  refine ACall.enter (fn := Tryz.f184) Tryz.func184 rfl (Nat.le_of_ble_eq_true rfl) ?_; unfold S184 at hS; have ok := Lok.nil h; refine EvC.seq (Xr [.look 0] (Xa rfl rfl rfl rfl fun _ => ?_)); refine R.nil (EvC.seq (Xr [.look 0, .look 1, .eff 2 [], .look 3] (Xm rfl rfl rfl rfl fun _ => Xm rfl rfl rfl rfl fun _ => R.eff rfl rfl rfl (Eff.loc ok (Ef.call rfl CB199 rfl ((f199_ok hS).mono ?_)))))); rintro _ h_1 ⟨v7, rfl, hS⟩; refine fun ok => ⟨noChk, ?_⟩; refine Xa rfl rfl rfl rfl fun _ => ?_; refine R.nil (EvC.ret ?_); exact ⟨.inr rfl, _, _, (.cons (.tmp rfl) .nil), ok.le, _, rfl, hS⟩

theorem f163_ok {p0 : ByteArray} {h : H} {K : Bool → H → Prop} (hS : S163 p0 h K) : ACall Tryz.prog 163 ([(.string p0), (.func (.func 164) ([] : List Value).toArray ([] : List Value).toArray)] : List Value).toArray h (fun r h' => ∃ r0 : Bool, r = tup [(.bool r0)] ∧ K r0 h') := by
  refine ACall.enter (fn := Tryz.f163) Tryz.func163 rfl (Nat.le_of_ble_eq_true rfl) ?_; unfold S163 at hS; have ok := Lok.nil h; refine EvC.seq (Xr [.look 0] (Xa rfl rfl rfl rfl fun _ => ?_)); refine R.nil (EvC.seq (Xr [.look 0, .look 1, .eff 2 [], .look 3, .look 4] (Xm rfl rfl rfl rfl fun _ => Xm rfl rfl rfl rfl fun _ => R.eff rfl rfl rfl (Eff.loc ok (Ef.call rfl CB184 rfl ((f184_ok hS).mono ?_)))))); rintro _ h_1 ⟨v7, rfl, hS⟩; refine fun ok => ⟨noChk, ?_⟩; refine Xk rfl rfl (Lk.arith rfl rfl rfl rfl) fun _ => ?_; refine Xa rfl rfl rfl rfl fun _ => ?_; refine R.nil (EvC.ret ?_); exact ⟨.inr rfl, _, _, (.cons (.tmp rfl) .nil), ok.le, _, rfl, hS⟩

end Go.Proofs.YtimadnngfhbfiaaGreatDoor
end

section
/- BY HAND: strconv.Atoi at a short numeral. -/
namespace Go.Proofs.YtimadnngfhbfiaaGreatDoor
open Go Go.Mu
theorem f166_ok {p0 : ByteArray} {h : H} {K : Int → Value → H → Prop} (hS : S166 p0 h K) : ACall Tryz.prog 166 ([(.string p0)] : List Value).toArray h (fun r h' => ∃ (r0 : Int) (r1 : Value), r = tup [(.int .i64 r0), r1] ∧ K r0 r1 h') := by
  obtain ⟨n, h1, h2, k⟩ := hS
  exact ACall.below (fun w _ => (Any.strconv_Atoi Tryz.lays172 p0 n h1 h2 w).mono fun e w' ⟨he, t, hw⟩ => ⟨he, hw ▸ below_bytes⟩) ⟨_, _, rfl, k⟩
end Go.Proofs.YtimadnngfhbfiaaGreatDoor
end

section
namespace Go.Proofs.YtimadnngfhbfiaaGreatDoor
open Go Go.Mu
set_option maxHeartbeats 4000000
set_option maxRecDepth 100000
theorem f133_ok {p0 : ByteArray} {p1 : Int} {h : H} {K : Int → Bool → H → Prop} (hS : S133 p0 p1 h K) : ACall Tryz.prog 133 ([(.string p0), (i6 p1)] : List Value).toArray h (fun r h' => ∃ r0 : Int, ∃ r1 : Bool, r = tup [(i6 r0), (.bool r1)] ∧ K r0 r1 h') := by
  refine ACall.enter (fn := Tryz.f133) Tryz.func133 rfl (Nat.le_of_ble_eq_true rfl) ?_; unfold S133 at hS; have ok := Lok.nil h; refine EvC.seq (Xr [.look 0, .look 1] (Xa rfl rfl rfl rfl fun _ => ?_)); refine Xa rfl rfl rfl rfl fun _ => ?_; refine R.nil (EvC.seq (Xr [.look 0, .eff 1 [], .look 2, .look 3] (Xm rfl rfl rfl rfl fun _ => R.eff rfl rfl rfl (Eff.loc ok (Ef.call rfl CB163 rfl ((f163_ok hS).mono ?_)))))); rintro _ h_1 ⟨v10, rfl, hS⟩; refine fun ok => ⟨noChk, ?_⟩; refine Xk rfl rfl (Lk.not rfl rfl) fun _ => ?_; refine Xa rfl rfl rfl rfl fun _ => ?_; refine R.nil (EvC.seq (EvC.join (σ := Bool) (fun s => (Ep (Ep (Ep E0 32 (.bool s)) 1 (i6 p1)) 0 (.string p0))) (fun s => []) (fun s h_2 => S133_j1 p0 p1 K s h_2) ?_ (fun Ih_2 hIh_2 => ?_)))
  · intro v32 h_2 ok hS; replace hS : S133_j1 p0 p1 K v32 h_2 := hS; unfold S133_j1 at hS
    by_cases e1 : v32 = true
    · rw [if_pos e1] at hS; refine EvC.condT rfl e1 (EvC.seq (Xr [.look 0, .look 1] (Xa rfl rfl rfl rfl fun _ => ?_))); refine Xa rfl rfl rfl rfl fun _ => ?_; refine R.nil (EvC.ret ?_); exact ⟨.inr rfl, _, _, (.cons (.tmp rfl) (.cons (.tmp rfl) .nil)), ok.le, _, _, rfl, hS⟩
    · rw [if_neg e1] at hS; replace e1 := eq_false_of_ne_true e1; refine EvC.condF rfl e1 (EvC.skip (EvC.seq (Xr [.look 0, .eff 1 [], .look 2, .look 3, .look 4, .look 5, .look 6] (Xm rfl rfl rfl rfl fun _ => ?_)))); refine R.eff rfl rfl rfl (Eff.loc ok (Ef.call rfl CB166 rfl ((f166_ok hS).mono ?_))); rintro _ h_3 ⟨v35_0, v35_1, rfl, hS⟩; refine fun ok => ⟨noChk, ?_⟩; refine Xm rfl rfl rfl rfl fun _ => ?_; refine Xk rfl rfl (Lk.extract rfl rfl rfl) fun _ => ?_; refine Xk rfl rfl (Lk.extract rfl rfl rfl) fun _ => ?_; refine Xa rfl rfl rfl rfl fun _ => ?_; refine Xa rfl rfl rfl rfl fun _ => ?_; refine R.nil (EvC.seq (EvC.seq (Xr [.look 0, .look 1, .look 2] (Xm rfl rfl rfl rfl fun _ => Xm rfl rfl rfl rfl fun _ => Xk rfl rfl (Lk.arith rfl rfl rfl rfl) fun _ => R.nil ?_))))
      by_cases e2 : (decide (v35_0 > p1)) = true
      · rw [if_pos e2] at hS; refine EvC.condT rfl e2 (EvC.seq (Xr [.look 0, .look 1] (Xa rfl rfl rfl rfl fun _ => ?_))); refine Xa rfl rfl rfl rfl fun _ => ?_; refine R.nil (EvC.ret ?_); exact ⟨.inr rfl, _, _, (.cons (.tmp rfl) (.cons (.tmp rfl) .nil)), ok.le, _, _, rfl, hS⟩
      · rw [if_neg e2] at hS; replace e2 := eq_false_of_ne_true e2; refine EvC.condF rfl e2 (EvC.skip (EvC.seq (Xr [.look 0, .look 1, .look 2] (Xm rfl rfl rfl rfl fun _ => ?_)))); refine Xa rfl rfl rfl rfl fun _ => ?_; refine Xa rfl rfl rfl rfl fun _ => ?_; refine R.nil (EvC.ret ?_); exact ⟨.inr rfl, _, _, (.cons (.tmp rfl) (.cons (.tmp rfl) .nil)), ok.le, _, _, rfl, hS⟩
  · refine Xr [.look 0, .look 1, .look 2, .look 3, .look 4, .look 5, .look 6, .look 7, .look 8, .look 9, .look 10, .look 11, .look 12, .look 13, .look 14, .look 15, .look 16, .look 17, .look 18, .look 19, .look 20] (Xm rfl rfl rfl rfl fun _ => ?_); refine Xk rfl rfl (Lk.not rfl rfl) fun _ => ?_; refine Xm rfl rfl rfl rfl fun _ => ?_
    by_cases e3 : (!(!v10)) = true
    · rw [if_pos e3] at hS; refine R.lookF rfl rfl rfl rfl e3 rfl fun _ => R.lookF rfl rfl rfl rfl e3 rfl fun _ => Xk rfl rfl (Lk.pick rfl rfl (fun _ => rfl) (fun e => by rw [e3] at e; cases e)) fun _ => Xm rfl rfl rfl rfl fun _ => R.lookF rfl rfl rfl rfl rfl rfl fun _ => R.lookF rfl rfl rfl rfl rfl rfl fun _ => R.lookF rfl rfl rfl rfl rfl rfl fun _ => Xk rfl rfl (Lk.pick rfl rfl (fun _ => rfl) (fun e => by cases e)) fun _ => Xm rfl rfl rfl rfl fun _ => R.lookF rfl rfl rfl rfl rfl rfl fun _ => R.lookF rfl rfl rfl rfl rfl rfl fun _ => R.lookF rfl rfl rfl rfl rfl rfl fun _ => R.lookF rfl rfl rfl rfl rfl rfl fun _ => ?_; refine R.lookU rfl rfl rfl rfl rfl fun _ => R.lookU rfl rfl rfl rfl rfl fun _ => R.lookU rfl rfl rfl rfl rfl fun _ => R.lookF rfl rfl rfl rfl rfl rfl fun _ => Xk rfl rfl (Lk.pick rfl rfl (fun _ => rfl) (fun e => by cases e)) fun _ => R.nil ?_; exact hIh_2 true _ _ _ (lq rfl (lq rfl (lq rfl (lz _)))) (ok.sub sl0) (H.add_sub ok sl0) hS
    · rw [if_neg e3] at hS; replace e3 := eq_false_of_ne_true e3; refine R.lookT rfl rfl rfl rfl e3 rfl (Lk.move rfl rfl) fun _ => R.lookT rfl rfl rfl rfl e3 rfl (Lk.strEq rfl rfl rfl) fun _ => Xk rfl rfl (Lk.pick rfl rfl (fun e => by rw [e3] at e; cases e) (fun _ => rfl)) fun _ => Xm rfl rfl rfl rfl fun _ => ?_
      by_cases e4 : (ByteArray.toList p0 == ByteArray.toList ⟨#[]⟩) = true
      · rw [if_pos e4] at hS; refine R.lookF rfl rfl rfl rfl e4 rfl fun _ => R.lookF rfl rfl rfl rfl e4 rfl fun _ => R.lookF rfl rfl rfl rfl e4 rfl fun _ => Xk rfl rfl (Lk.pick rfl rfl (fun _ => rfl) (fun e => by rw [e4] at e; cases e)) fun _ => Xm rfl rfl rfl rfl fun _ => R.lookF rfl rfl rfl rfl rfl rfl fun _ => R.lookF rfl rfl rfl rfl rfl rfl fun _ => R.lookF rfl rfl rfl rfl rfl rfl fun _ => R.lookF rfl rfl rfl rfl rfl rfl fun _ => R.lookU rfl rfl rfl rfl rfl fun _ => R.lookU rfl rfl rfl rfl rfl fun _ => R.lookU rfl rfl rfl rfl rfl fun _ => R.lookF rfl rfl rfl rfl rfl rfl fun _ => ?_; refine Xk rfl rfl (Lk.pick rfl rfl (fun _ => rfl) (fun e => by cases e)) fun _ => ?_; refine R.nil ?_; exact hIh_2 true _ _ _ (lq rfl (lq rfl (lq rfl (lz _)))) (ok.sub sl0) (H.add_sub ok sl0) hS
      · rw [if_neg e4] at hS; replace e4 := eq_false_of_ne_true e4; refine R.lookT rfl rfl rfl rfl e4 rfl (Lk.move rfl rfl) fun _ => R.lookT rfl rfl rfl rfl e4 rfl (Lk.lenS rfl Tryz.underlying9 rfl) fun _ => R.lookT rfl rfl rfl rfl e4 rfl (Lk.arith rfl rfl rfl rfl) fun _ => Xk rfl rfl (Lk.pick rfl rfl (fun e => by rw [e4] at e; cases e) (fun _ => rfl)) fun _ => Xm rfl rfl rfl rfl fun _ => ?_
        by_cases e5 : (decide ((ByteArray.size p0 : Int) > 7)) = true
        · rw [if_pos e5] at hS; refine R.lookF rfl rfl rfl rfl e5 rfl fun _ => R.lookF rfl rfl rfl rfl e5 rfl fun _ => R.lookF rfl rfl rfl rfl e5 rfl fun _ => R.lookF rfl rfl rfl rfl e5 rfl fun _ => R.lookU rfl rfl rfl rfl rfl fun _ => R.lookU rfl rfl rfl rfl rfl fun _ => R.lookU rfl rfl rfl rfl rfl fun _ => R.lookF rfl rfl rfl rfl e5 rfl fun _ => Xk rfl rfl (Lk.pick rfl rfl (fun _ => rfl) (fun e => by rw [e5] at e; cases e)) fun _ => R.nil ?_; exact hIh_2 true _ _ _ (lq rfl (lq rfl (lq rfl (lz _)))) (ok.sub sl0) (H.add_sub ok sl0) hS
        · rw [if_neg e5] at hS; replace e5 := eq_false_of_ne_true e5; refine R.lookT rfl rfl rfl rfl e5 rfl (Lk.move rfl rfl) fun _ => R.lookT rfl rfl rfl rfl e5 rfl (Lk.lenS rfl Tryz.underlying9 rfl) fun _ => R.lookT rfl rfl rfl rfl e5 rfl (Lk.arith rfl rfl rfl rfl) fun _ => R.lookT rfl rfl rfl rfl e5 rfl (Lk.move rfl rfl) fun _ => ?_
          by_cases e6 : (decide ((ByteArray.size p0 : Int) > 1)) = true
          · rw [if_pos e6] at hS; refine R.lookT rfl rfl rfl rfl e6 rfl (Lk.move rfl rfl) fun _ => ?_
            obtain ⟨e7, e8, hS⟩ := hS
            refine R.lookT rfl rfl rfl rfl e6 rfl (Lk.byte rfl Tryz.underlying9 rfl rfl e7 e8) fun _ => R.lookT rfl rfl rfl rfl e6 rfl (Lk.arith rfl rfl rfl rfl) fun _ => R.lookT rfl rfl rfl rfl e5 rfl (Lk.pick rfl rfl (fun _ => rfl) (fun e => by rw [e6] at e; cases e)) fun _ => Xk rfl rfl (Lk.pick rfl rfl (fun e => by rw [e5] at e; cases e) (fun _ => rfl)) fun _ => R.nil ?_; exact hIh_2 ((byteAt p0 0) == 48) _ _ _ (lq rfl (lq rfl (lq rfl (lz _)))) (ok.sub sl0) (H.add_sub ok sl0) hS
          · rw [if_neg e6] at hS; replace e6 := eq_false_of_ne_true e6; refine R.lookF rfl rfl rfl rfl e6 rfl fun _ => R.lookF rfl rfl rfl rfl e6 rfl fun _ => R.lookF rfl rfl rfl rfl e6 rfl fun _ => R.lookT rfl rfl rfl rfl e5 rfl (Lk.pick rfl rfl (fun e => by rw [e6] at e; cases e) (fun _ => rfl)) fun _ => Xk rfl rfl (Lk.pick rfl rfl (fun e => by rw [e5] at e; cases e) (fun _ => rfl)) fun _ => R.nil ?_; exact hIh_2 false _ _ _ (lq rfl (lq rfl (lq rfl (lz _)))) (ok.sub sl0) (H.add_sub ok sl0) hS

theorem f89_ok {p0 : ByteArray} {p1 : Int} {h : H} {K : Int → Int → H → Prop} (hS : S89 p0 p1 h K) : ACall Tryz.prog 89 ([(.string p0), (i6 p1)] : List Value).toArray h (fun r h' => ∃ r0 : Int, ∃ r1 : Int, r = tup [(i6 r0), (i6 r1)] ∧ K r0 r1 h') := by
  refine ACall.enter (fn := Tryz.f89) Tryz.func89 rfl (Nat.le_of_ble_eq_true rfl) ?_; unfold S89 at hS; have ok := Lok.nil h; refine EvC.seq (Xr [.look 0, .look 1] (Xa rfl rfl rfl rfl fun _ => ?_)); refine Xa rfl rfl rfl rfl fun _ => ?_; refine R.nil (EvC.seq (Xr [.look 0, .eff 1 [], .look 2, .look 3, .look 4, .look 5, .look 6] (Xm rfl rfl rfl rfl fun _ => R.eff rfl rfl rfl (Eff.loc ok (Ef.call rfl CB133 rfl ((f133_ok hS).mono ?_)))))); rintro _ h_1 ⟨v10_0, v10_1, rfl, hS⟩; refine fun ok => ⟨noChk, ?_⟩; refine Xm rfl rfl rfl rfl fun _ => ?_; refine Xk rfl rfl (Lk.extract rfl rfl rfl) fun _ => ?_; refine Xk rfl rfl (Lk.extract rfl rfl rfl) fun _ => ?_; refine Xa rfl rfl rfl rfl fun _ => ?_; refine Xa rfl rfl rfl rfl fun _ => ?_; refine R.nil (EvC.seq (EvC.block (EvC.seq (Xr [.look 0, .look 1, .look 2] (Xm rfl rfl rfl rfl fun _ => Xk rfl rfl (Lk.not rfl rfl) fun _ => Xa rfl rfl rfl rfl fun _ => R.nil ?_)))))
  by_cases e1 : (!v10_1) = true
  · rw [if_pos e1] at hS; refine EvC.condT rfl e1 (EvC.seq (Xr [.look 0, .look 1] (Xa rfl rfl rfl rfl fun _ => ?_))); refine Xa rfl rfl rfl rfl fun _ => ?_; refine R.nil (EvC.ret ?_); exact ⟨.inr rfl, _, _, (.cons (.tmp rfl) (.cons (.tmp rfl) .nil)), ok.le, _, _, rfl, hS⟩
  · rw [if_neg e1] at hS; replace e1 := eq_false_of_ne_true e1; refine EvC.condF rfl e1 (EvC.seq (Xr [.look 0, .look 1, .look 2, .look 3] (Xm rfl rfl rfl rfl fun _ => ?_))); refine Xm rfl rfl rfl rfl fun _ => ?_; refine Xk rfl rfl (Lk.arith rfl rfl rfl rfl) fun _ => ?_; refine Xa rfl rfl rfl rfl fun _ => ?_; refine R.nil ?_
    by_cases e2 : (decide (v10_0 ≥ p1)) = true
    · rw [if_pos e2] at hS; refine EvC.condT rfl e2 (EvC.seq (Xr [.look 0, .look 1] (Xa rfl rfl rfl rfl fun _ => ?_))); refine Xa rfl rfl rfl rfl fun _ => ?_; refine R.nil (EvC.ret ?_); exact ⟨.inr rfl, _, _, (.cons (.tmp rfl) (.cons (.tmp rfl) .nil)), ok.le, _, _, rfl, hS⟩
    · rw [if_neg e2] at hS; replace e2 := eq_false_of_ne_true e2; refine EvC.condF rfl e2 (EvC.skip (EvC.seq (Xr [.look 0, .look 1, .look 2] (Xm rfl rfl rfl rfl fun _ => ?_)))); refine Xa rfl rfl rfl rfl fun _ => ?_; refine Xa rfl rfl rfl rfl fun _ => ?_; refine R.nil (EvC.ret ?_); exact ⟨.inr rfl, _, _, (.cons (.tmp rfl) (.cons (.tmp rfl) .nil)), ok.le, _, _, rfl, hS⟩

end Go.Proofs.YtimadnngfhbfiaaGreatDoor
end

section
/- BY HAND: strings.Index at one byte. -/
namespace Go.Proofs.YtimadnngfhbfiaaGreatDoor
open Go Go.Mu
theorem f47_ok {p0 p1 : ByteArray} {h : H} {K : Int → H → Prop} (hS : S47 p0 p1 h K) : ACall Tryz.prog 47 ([(.string p0), (.string p1)] : List Value).toArray h (fun r h' => ∃ r0 : Int, r = tup [(.int .i64 r0)] ∧ K r0 h') := by
  obtain ⟨c, rfl, k⟩ := hS
  exact ACall.below (fun w _ => (Any.strings_Index_one Tryz.lays143 p0 c w).mono fun e w' ⟨he, hw⟩ => ⟨he, hw ▸ Go.RowKit.Below.refl _ _⟩) ⟨_, rfl, k⟩
end Go.Proofs.YtimadnngfhbfiaaGreatDoor
end

section
/- BY HAND: strings.Contains at one byte. -/
namespace Go.Proofs.YtimadnngfhbfiaaGreatDoor
open Go Go.Mu
theorem f134_ok {p0 p1 : ByteArray} {h : H} {K : Bool → H → Prop} (hS : S134 p0 p1 h K) : ACall Tryz.prog 134 ([(.string p0), (.string p1)] : List Value).toArray h (fun r h' => ∃ r0 : Bool, r = tup [(.bool r0)] ∧ K r0 h') := by
  obtain ⟨c, rfl, k⟩ := hS
  exact ACall.below (fun w _ => (Any.strings_Contains_one Tryz.lays144 p0 c w).mono fun e w' ⟨he, hw⟩ => ⟨he, hw ▸ Go.RowKit.Below.refl _ _⟩) ⟨_, rfl, k⟩
end Go.Proofs.YtimadnngfhbfiaaGreatDoor
end

section
namespace Go.Proofs.YtimadnngfhbfiaaGreatDoor
open Go Go.Mu
set_option maxHeartbeats 4000000
set_option maxRecDepth 100000
theorem f90_ok {p0 : ByteArray} {h : H} {K : Int → Bool → H → Prop} (hS : S90 p0 h K) : ACall Tryz.prog 90 ([(.string p0)] : List Value).toArray h (fun r h' => ∃ r0 : Int, ∃ r1 : Bool, r = tup [(i6 r0), (.bool r1)] ∧ K r0 r1 h') := by
  refine ACall.enter (fn := Tryz.f90) Tryz.func90 rfl (Nat.le_of_ble_eq_true rfl) ?_; unfold S90 at hS; have ok := Lok.nil h; refine EvC.seq (Xr [.look 0, .look 1] (Xa rfl rfl rfl rfl fun _ => ?_)); refine Xa rfl rfl rfl rfl fun _ => ?_; refine R.nil (EvC.seq (EvC.join (σ := Bool) (fun s => (Ep (Ep E0 11 (.bool s)) 0 (.string p0))) (fun s => []) (fun s h_1 => S90_j1 p0 K s h_1) ?_ (fun Ih_1 hIh_1 => ?_)))
  · intro v11 h_1 ok hS; replace hS : S90_j1 p0 K v11 h_1 := hS; unfold S90_j1 at hS
    by_cases e1 : v11 = true
    · rw [if_pos e1] at hS; refine EvC.condT rfl e1 (EvC.seq (Xr [.look 0, .look 1] (Xa rfl rfl rfl rfl fun _ => ?_))); refine Xa rfl rfl rfl rfl fun _ => ?_; refine R.nil (EvC.ret ?_); exact ⟨.inr rfl, _, _, (.cons (.tmp rfl) (.cons (.tmp rfl) .nil)), ok.le, _, _, rfl, hS⟩
    · rw [if_neg e1] at hS; replace e1 := eq_false_of_ne_true e1; refine EvC.condF rfl e1 (EvC.skip (EvC.seq (Xr [.look 0, .eff 1 [], .look 2, .look 3] (Xm rfl rfl rfl rfl fun _ => ?_)))); refine R.eff rfl rfl rfl (Eff.loc ok (Ef.call rfl CB47 rfl ((f47_ok hS).mono ?_))); rintro _ h_2 ⟨v13, rfl, hS⟩; refine fun ok => ⟨noChk, ?_⟩; refine Xa rfl rfl rfl rfl fun _ => ?_; refine Xa rfl rfl rfl rfl fun _ => ?_; refine R.nil (EvC.ret ?_); exact ⟨.inr rfl, _, _, (.cons (.tmp rfl) (.cons (.tmp rfl) .nil)), ok.le, _, _, rfl, hS⟩
  · refine Xr [.look 0, .look 1, .look 2, .look 3, .look 4, .eff 5 [], .look 6, .look 7] (Xm rfl rfl rfl rfl fun _ => ?_); refine Xk rfl rfl (Lk.lenS rfl Tryz.underlying9 rfl) fun _ => ?_; refine Xk rfl rfl (Lk.arith rfl rfl rfl rfl) fun _ => ?_; refine Xm rfl rfl rfl rfl fun _ => ?_
    by_cases e2 : ((ByteArray.size p0 : Int) != 1) = true
    · rw [if_pos e2] at hS; refine R.lookF rfl rfl rfl rfl e2 rfl fun _ => R.effF rfl rfl rfl rfl e2 rfl ?_; refine R.lookF rfl rfl rfl rfl e2 rfl fun _ => Xk rfl rfl (Lk.pick rfl rfl (fun _ => rfl) (fun e => by rw [e2] at e; cases e)) fun _ => R.nil ?_; exact hIh_1 true _ _ _ (lq rfl (lq rfl (lz _))) (ok.sub sl0) (H.add_sub ok sl0) hS
    · rw [if_neg e2] at hS; replace e2 := eq_false_of_ne_true e2; refine R.lookT rfl rfl rfl rfl e2 rfl (Lk.move rfl rfl) fun _ => R.effT rfl rfl rfl rfl e2 rfl (Eff.loc ok (Ef.call rfl CB134 rfl ((f134_ok hS).mono ?_))); rintro _ h_3 ⟨v9, rfl, hS⟩; refine fun ok => ⟨noChk, ?_⟩; refine R.lookT rfl rfl rfl rfl e2 rfl (Lk.not rfl rfl) fun _ => Xk rfl rfl (Lk.pick rfl rfl (fun e => by rw [e2] at e; cases e) (fun _ => rfl)) fun _ => R.nil ?_; exact hIh_1 (!v9) _ _ _ (lq rfl (lq rfl (lz _))) (ok.sub sl0) (H.add_sub ok sl0) hS

theorem f39_ok {p0 : ByteArray} {p1 : Int} {h : H} {K : Int → Int → Int → ByteArray → Int → H → Prop} (hS : S39 p0 p1 h K) : ACall Tryz.prog 39 ([(.string p0), (i6 p1)] : List Value).toArray h (fun r h' => ∃ r0_0 : Int, ∃ r0_1 : Int, ∃ r0_2 : Int, ∃ r0_3 : ByteArray, ∃ r1 : Int, r = tup [(.agg ([(i6 r0_0), (i6 r0_1), (i6 r0_2), (.string r0_3)] : List Value).toArray), (i6 r1)] ∧ K r0_0 r0_1 r0_2 r0_3 r1 h') := by
  refine ACall.enter (fn := Tryz.f39) Tryz.func39 rfl (Nat.le_of_ble_eq_true rfl) ?_; unfold S39 at hS; have ok := Lok.nil h; refine EvC.seq (Xr [.alc 0, .look 1] (R.var (blk := .row ⟨[(i6 0), (i6 0), (i6 0), (.string ⟨#[]⟩)], 4, 61, true, true⟩) ok rfl rfl rfl (Ac.alloc rfl T61) rfl rfl fun b4 ok => ?_)); refine Xa rfl rfl rfl rfl fun _ => ?_; refine R.nil (EvC.seq (Xr [.look 0, .eff 1 [], .look 2, .look 3, .look 4, .look 5, .look 6] (Xm rfl rfl rfl rfl fun _ => R.eff rfl rfl rfl (Eff.loc ok (Ef.call rfl CB87 rfl ((f87_ok hS).mono ?_)))))); rintro _ h_1 ⟨v15_0, v15_1, rfl, hS⟩; refine fun ok => ⟨noChk, ?_⟩; refine Xm rfl rfl rfl rfl fun _ => ?_; refine Xk rfl rfl (Lk.extract rfl rfl rfl) fun _ => ?_; refine Xk rfl rfl (Lk.extract rfl rfl rfl) fun _ => ?_; refine Xa rfl rfl rfl rfl fun _ => ?_; refine Xa rfl rfl rfl rfl fun _ => ?_; refine R.nil (EvC.seq (EvC.join (σ := Bool) (fun s => (Ep (Ep (Ep (Ep E0 29 (.bool s)) 6 (.slice v15_0.a v15_0.l v15_0.c)) 4 (.pointer (some ⟨b4, 0, none⟩))) 1 (i6 p1))) (fun s => [(b4, .row ⟨[(i6 0), (i6 0), (i6 0), (.string ⟨#[]⟩)], 4, 61, true, true⟩)]) (fun s h_2 => S39_j1 p1 K v15_0 s h_2) ?_ (fun Ih_2 hIh_2 => ?_)))
  · intro v29 h_2 ok hS; replace hS : S39_j1 p1 K v15_0 v29 h_2 := hS; unfold S39_j1 at hS
    by_cases e1 : v29 = true
    · rw [if_pos e1] at hS; refine EvC.condT rfl e1 (EvC.seq (Xr [.look 0, .eff 1 [], .look 2] (Xk rfl rfl (Lk.build (cs := [(i6 0), (i6 0), (i6 0), (.string ⟨#[]⟩)]) (pl := [(0, 1), (1, 1), (2, 1), (3, 1)]) rfl Tryz.underlying61 T61 (PlacesL.places (.cons T3 (.cons T3 (.cons T3 (.cons T9 PlacesL.nil))))) rfl rfl) fun _ => ?_))); refine R.effN rfl rfl rfl (Ef.storeLoc (i := 0) (vs := [(i6 0), (i6 0), (i6 0), (.string ⟨#[]⟩)]) (cs := [(i6 0), (i6 0), (i6 0), (.string ⟨#[]⟩)]) (l' := [(b4, .row ⟨[(i6 0), (i6 0), (i6 0), (.string ⟨#[]⟩)], 4, 61, true, true⟩)]) ok rfl T61 rfl rfl rfl rfl rfl rfl rfl rfl rfl rfl fun ok => ⟨noChk, ?_⟩); refine Xa rfl rfl rfl rfl fun _ => ?_; refine R.nil (EvC.ret ?_); exact ⟨.inr rfl, _, _, (.cons (.cells rfl (fun w => Und.agg Tryz.underlying61 w) (fun w => T61.size_ w) (H.rdn_loc ok (i := 0) rfl rfl rfl)) (.cons (.tmp rfl) .nil)), ok.le, _, _, _, _, _, rfl, hS⟩
    · rw [if_neg e1] at hS; replace e1 := eq_false_of_ne_true e1; refine EvC.condF rfl e1 (EvC.skip (EvC.seq (Xr [.look 0, .look 1, .look 2, .look 3, .eff 4 [], .look 5, .look 6, .look 7, .look 8, .look 9] (Xm rfl rfl rfl rfl fun _ => ?_))))
      obtain ⟨a33, e2, e3, e4, hS⟩ := hS
      refine Xk rfl rfl (Lk.ixAddr rfl Tryz.underlying55 T9 rfl e2 rfl e3 e4) fun _ => ?_
      obtain ⟨v34, e5, hS⟩ := hS
      refine Xk rfl rfl (Look.loc ok (Lk.load1 rfl Tryz.underlying9 rfl rfl e5)) fun _ => ?_; refine Xm rfl rfl rfl rfl fun _ => ?_; refine R.eff rfl rfl rfl (Eff.loc ok (Ef.call rfl CB89 rfl ((f89_ok hS).mono ?_))); rintro _ h_3 ⟨v36_0, v36_1, rfl, hS⟩; refine fun ok => ⟨noChk, ?_⟩; refine Xm rfl rfl rfl rfl fun _ => ?_; refine Xk rfl rfl (Lk.extract rfl rfl rfl) fun _ => ?_; refine Xk rfl rfl (Lk.extract rfl rfl rfl) fun _ => ?_; refine Xa rfl rfl rfl rfl fun _ => ?_; refine Xa rfl rfl rfl rfl fun _ => ?_; refine R.nil (EvC.seq (EvC.seq (Xr [.look 0, .look 1] (Xm rfl rfl rfl rfl fun _ => Xk rfl rfl (Lk.arith rfl rfl rfl rfl) fun _ => R.nil ?_))))
      by_cases e6 : (v36_1 != 0) = true
      · rw [if_pos e6] at hS; refine EvC.condT rfl e6 (EvC.seq (Xr [.look 0, .look 1, .eff 2 [], .look 3] (Xk rfl rfl (Lk.build (cs := [(i6 0), (i6 0), (i6 0), (.string ⟨#[]⟩)]) (pl := [(0, 1), (1, 1), (2, 1), (3, 1)]) rfl Tryz.underlying61 T61 (PlacesL.places (.cons T3 (.cons T3 (.cons T3 (.cons T9 PlacesL.nil))))) rfl rfl) fun _ => ?_))); refine Xm rfl rfl rfl rfl fun _ => ?_; refine R.effN rfl rfl rfl (Ef.storeLoc (i := 0) (vs := [(i6 0), (i6 0), (i6 0), (.string ⟨#[]⟩)]) (cs := [(i6 0), (i6 0), (i6 0), (.string ⟨#[]⟩)]) (l' := [(b4, .row ⟨[(i6 0), (i6 0), (i6 0), (.string ⟨#[]⟩)], 4, 61, true, true⟩)]) ok rfl T61 rfl rfl rfl rfl rfl rfl rfl rfl rfl rfl fun ok => ⟨noChk, ?_⟩); refine Xa rfl rfl rfl rfl fun _ => ?_; refine R.nil (EvC.ret ?_); exact ⟨.inr rfl, _, _, (.cons (.cells rfl (fun w => Und.agg Tryz.underlying61 w) (fun w => T61.size_ w) (H.rdn_loc ok (i := 0) rfl rfl rfl)) (.cons (.tmp rfl) .nil)), ok.le, _, _, _, _, _, rfl, hS⟩
      · rw [if_neg e6] at hS; replace e6 := eq_false_of_ne_true e6; refine EvC.condF rfl e6 (EvC.skip (EvC.seq (Xr [.look 0, .look 1, .look 2, .eff 3 [], .look 4, .look 5, .look 6, .look 7, .look 8] (Xm rfl rfl rfl rfl fun _ => ?_))))
        obtain ⟨a45, e7, e8, e9, hS⟩ := hS
        refine Xk rfl rfl (Lk.ixAddr rfl Tryz.underlying55 T9 rfl e7 rfl e8 e9) fun _ => ?_
        obtain ⟨v46, e10, hS⟩ := hS
        refine Xk rfl rfl (Look.loc ok (Lk.load1 rfl Tryz.underlying9 rfl rfl e10)) fun _ => ?_; refine R.eff rfl rfl rfl (Eff.loc ok (Ef.call rfl CB90 rfl ((f90_ok hS).mono ?_))); rintro _ h_4 ⟨v47_0, v47_1, rfl, hS⟩; refine fun ok => ⟨noChk, ?_⟩; refine Xm rfl rfl rfl rfl fun _ => ?_; refine Xk rfl rfl (Lk.extract rfl rfl rfl) fun _ => ?_; refine Xk rfl rfl (Lk.extract rfl rfl rfl) fun _ => ?_; refine Xa rfl rfl rfl rfl fun _ => ?_; refine Xa rfl rfl rfl rfl fun _ => ?_; refine R.nil (EvC.seq (EvC.seq (Xr [.look 0, .look 1] (Xm rfl rfl rfl rfl fun _ => Xk rfl rfl (Lk.not rfl rfl) fun _ => R.nil ?_))))
        by_cases e11 : (!v47_1) = true
        · rw [if_pos e11] at hS; refine EvC.condT rfl e11 (EvC.seq (Xr [.look 0, .eff 1 [], .look 2] (Xk rfl rfl (Lk.build (cs := [(i6 0), (i6 0), (i6 0), (.string ⟨#[]⟩)]) (pl := [(0, 1), (1, 1), (2, 1), (3, 1)]) rfl Tryz.underlying61 T61 (PlacesL.places (.cons T3 (.cons T3 (.cons T3 (.cons T9 PlacesL.nil))))) rfl rfl) fun _ => ?_))); refine R.effN rfl rfl rfl (Ef.storeLoc (i := 0) (vs := [(i6 0), (i6 0), (i6 0), (.string ⟨#[]⟩)]) (cs := [(i6 0), (i6 0), (i6 0), (.string ⟨#[]⟩)]) (l' := [(b4, .row ⟨[(i6 0), (i6 0), (i6 0), (.string ⟨#[]⟩)], 4, 61, true, true⟩)]) ok rfl T61 rfl rfl rfl rfl rfl rfl rfl rfl rfl rfl fun ok => ⟨noChk, ?_⟩); refine Xa rfl rfl rfl rfl fun _ => ?_; refine R.nil (EvC.ret ?_); exact ⟨.inr rfl, _, _, (.cons (.cells rfl (fun w => Und.agg Tryz.underlying61 w) (fun w => T61.size_ w) (H.rdn_loc ok (i := 0) rfl rfl rfl)) (.cons (.tmp rfl) .nil)), ok.le, _, _, _, _, _, rfl, hS⟩
        · rw [if_neg e11] at hS; replace e11 := eq_false_of_ne_true e11; refine EvC.condF rfl e11 (EvC.skip (EvC.seq (Xr [.look 0, .look 1, .look 2, .look 3, .eff 4 [], .look 5, .look 6, .look 7, .look 8, .look 9] (Xm rfl rfl rfl rfl fun _ => ?_))))
          obtain ⟨a55, e12, e13, e14, hS⟩ := hS
          refine Xk rfl rfl (Lk.ixAddr rfl Tryz.underlying55 T9 rfl e12 rfl e13 e14) fun _ => ?_
          obtain ⟨v56, e15, hS⟩ := hS
          refine Xk rfl rfl (Look.loc ok (Lk.load1 rfl Tryz.underlying9 rfl rfl e15)) fun _ => ?_; refine Xm rfl rfl rfl rfl fun _ => ?_; refine R.eff rfl rfl rfl (Eff.loc ok (Ef.call rfl CB89 rfl ((f89_ok hS).mono ?_))); rintro _ h_5 ⟨v58_0, v58_1, rfl, hS⟩; refine fun ok => ⟨noChk, ?_⟩; refine Xm rfl rfl rfl rfl fun _ => ?_; refine Xk rfl rfl (Lk.extract rfl rfl rfl) fun _ => ?_; refine Xk rfl rfl (Lk.extract rfl rfl rfl) fun _ => ?_; refine Xa rfl rfl rfl rfl fun _ => ?_; refine Xa rfl rfl rfl rfl fun _ => ?_; refine R.nil (EvC.seq (EvC.seq (Xr [.look 0, .look 1] (Xm rfl rfl rfl rfl fun _ => Xk rfl rfl (Lk.arith rfl rfl rfl rfl) fun _ => R.nil ?_))))
          by_cases e16 : (v58_1 != 0) = true
          · rw [if_pos e16] at hS; refine EvC.condT rfl e16 (EvC.seq (Xr [.look 0, .look 1, .eff 2 [], .look 3] (Xk rfl rfl (Lk.build (cs := [(i6 0), (i6 0), (i6 0), (.string ⟨#[]⟩)]) (pl := [(0, 1), (1, 1), (2, 1), (3, 1)]) rfl Tryz.underlying61 T61 (PlacesL.places (.cons T3 (.cons T3 (.cons T3 (.cons T9 PlacesL.nil))))) rfl rfl) fun _ => ?_))); refine Xm rfl rfl rfl rfl fun _ => ?_; refine R.effN rfl rfl rfl (Ef.storeLoc (i := 0) (vs := [(i6 0), (i6 0), (i6 0), (.string ⟨#[]⟩)]) (cs := [(i6 0), (i6 0), (i6 0), (.string ⟨#[]⟩)]) (l' := [(b4, .row ⟨[(i6 0), (i6 0), (i6 0), (.string ⟨#[]⟩)], 4, 61, true, true⟩)]) ok rfl T61 rfl rfl rfl rfl rfl rfl rfl rfl rfl rfl fun ok => ⟨noChk, ?_⟩); refine Xa rfl rfl rfl rfl fun _ => ?_; refine R.nil (EvC.ret ?_); exact ⟨.inr rfl, _, _, (.cons (.cells rfl (fun w => Und.agg Tryz.underlying61 w) (fun w => T61.size_ w) (H.rdn_loc ok (i := 0) rfl rfl rfl)) (.cons (.tmp rfl) .nil)), ok.le, _, _, _, _, _, rfl, hS⟩
          · rw [if_neg e16] at hS; replace e16 := eq_false_of_ne_true e16; refine EvC.condF rfl e16 (EvC.skip (EvC.seq (Xr [.look 0, .look 1, .eff 2 [], .look 3] (Xm rfl rfl rfl rfl fun _ => ?_))))
            obtain ⟨e17, e18, e19, e20, hS⟩ := hS
            refine R.look (v := (.slice (if v15_0.c = Int.toNat 3 then v15_0.a else Option.map (fun x => Addr.add x (Int.toNat 3 * 1)) v15_0.a) (Nat.sub (Int.toNat (v15_0.l : Int)) (Int.toNat 3)) (v15_0.c - Int.toNat 3))) rfl rfl rfl (Lk.subSlice (i := 3) (j := (v15_0.l : Int)) rfl Tryz.underlying55 T9 rfl ⟨_, rfl⟩ rfl e17 e18 e19 e20) fun _ => R.eff rfl rfl rfl (Eff.loc ok (Ef.call rfl CB23 rfl ((f23_ok hS).mono ?_))); rintro _ h_6 ⟨v67, rfl, hS⟩; refine fun ok => ⟨noChk, ?_⟩; refine Xa rfl rfl rfl rfl fun _ => ?_; refine R.nil (EvC.seq (EvC.seq (Xr [.look 0, .eff 1 [], .look 2] (Xm rfl rfl rfl rfl fun _ => R.eff rfl rfl rfl (Eff.loc ok (Ef.call rfl CB49 rfl ((f49_ok hS).mono ?_))))))); rintro _ h_7 ⟨v69, rfl, hS⟩; refine fun ok => ⟨noChk, ?_⟩; refine Xk rfl rfl (Lk.not rfl rfl) fun _ => ?_; refine R.nil ?_
            by_cases e21 : (!v69) = true
            · rw [if_pos e21] at hS; refine EvC.condT rfl e21 (EvC.seq (Xr [.look 0, .eff 1 [], .look 2] (Xk rfl rfl (Lk.build (cs := [(i6 0), (i6 0), (i6 0), (.string ⟨#[]⟩)]) (pl := [(0, 1), (1, 1), (2, 1), (3, 1)]) rfl Tryz.underlying61 T61 (PlacesL.places (.cons T3 (.cons T3 (.cons T3 (.cons T9 PlacesL.nil))))) rfl rfl) fun _ => ?_))); refine R.effN rfl rfl rfl (Ef.storeLoc (i := 0) (vs := [(i6 0), (i6 0), (i6 0), (.string ⟨#[]⟩)]) (cs := [(i6 0), (i6 0), (i6 0), (.string ⟨#[]⟩)]) (l' := [(b4, .row ⟨[(i6 0), (i6 0), (i6 0), (.string ⟨#[]⟩)], 4, 61, true, true⟩)]) ok rfl T61 rfl rfl rfl rfl rfl rfl rfl rfl rfl rfl fun ok => ⟨noChk, ?_⟩); refine Xa rfl rfl rfl rfl fun _ => ?_; refine R.nil (EvC.ret ?_); exact ⟨.inr rfl, _, _, (.cons (.cells rfl (fun w => Und.agg Tryz.underlying61 w) (fun w => T61.size_ w) (H.rdn_loc ok (i := 0) rfl rfl rfl)) (.cons (.tmp rfl) .nil)), ok.le, _, _, _, _, _, rfl, hS⟩
            · rw [if_neg e21] at hS; replace e21 := eq_false_of_ne_true e21; refine EvC.condF rfl e21 (EvC.skip (EvC.seq (Xr [.look 0, .look 1, .look 2, .look 3, .look 4, .eff 5 [], .look 6] (Xm rfl rfl rfl rfl fun _ => ?_)))); refine Xm rfl rfl rfl rfl fun _ => ?_; refine Xm rfl rfl rfl rfl fun _ => ?_; refine Xm rfl rfl rfl rfl fun _ => ?_; refine Xk rfl rfl (Lk.build (cs := [(i6 v36_0), (i6 v58_0), (i6 v47_0), (.string v67)]) (pl := [(0, 1), (1, 1), (2, 1), (3, 1)]) rfl Tryz.underlying61 T61 (PlacesL.places (.cons T3 (.cons T3 (.cons T3 (.cons T9 PlacesL.nil))))) rfl rfl) fun _ => ?_; refine R.effN rfl rfl rfl (Ef.storeLoc (i := 0) (vs := [(i6 v36_0), (i6 v58_0), (i6 v47_0), (.string v67)]) (cs := [(i6 v36_0), (i6 v58_0), (i6 v47_0), (.string v67)]) (l' := [(b4, .row ⟨[(i6 v36_0), (i6 v58_0), (i6 v47_0), (.string v67)], 4, 61, true, true⟩)]) ok rfl T61 rfl rfl rfl rfl rfl rfl rfl rfl rfl rfl fun ok => ⟨noChk, ?_⟩); refine Xa rfl rfl rfl rfl fun _ => ?_; refine R.nil (EvC.ret ?_); exact ⟨.inr rfl, _, _, (.cons (.cells rfl (fun w => Und.agg Tryz.underlying61 w) (fun w => T61.size_ w) (H.rdn_loc ok (i := 0) rfl rfl rfl)) (.cons (.tmp rfl) .nil)), ok.le, _, _, _, _, _, rfl, hS⟩
  · refine Xr [.look 0, .look 1, .look 2, .look 3, .look 4, .look 5, .look 6, .look 7, .look 8, .look 9, .look 10, .look 11] (Xm rfl rfl rfl rfl fun _ => ?_); refine Xk rfl rfl (Lk.not rfl rfl) fun _ => ?_; refine Xm rfl rfl rfl rfl fun _ => ?_
    by_cases e22 : (!v15_1) = true
    · refine R.lookF rfl rfl rfl rfl e22 rfl fun _ => R.lookF rfl rfl rfl rfl e22 rfl fun _ => R.lookF rfl rfl rfl rfl e22 rfl fun _ => Xk rfl rfl (Lk.pick rfl rfl (fun _ => rfl) (fun e => by rw [e22] at e; cases e)) fun _ => Xm rfl rfl rfl rfl fun _ => R.lookF rfl rfl rfl rfl rfl rfl fun _ => R.lookF rfl rfl rfl rfl rfl rfl fun _ => R.lookF rfl rfl rfl rfl rfl rfl fun _ => Xk rfl rfl (Lk.pick rfl rfl (fun _ => rfl) (fun e => by cases e)) fun _ => R.nil ?_; exact hIh_2 (((!v15_1) || (decide ((v15_0.l : Int) < 3))) || (decide ((v15_0.l : Int) > 4))) _ _ _ (lq rfl (lq rfl (lq rfl (lq (by rw [e22]; rfl) (lz _))))) (ok.sub (.cons_cons _ sl0)) (H.add_sub ok (.cons_cons _ sl0)) hS
    · replace e22 := eq_false_of_ne_true e22; refine R.lookT rfl rfl rfl rfl e22 rfl (Lk.move rfl rfl) fun _ => R.lookT rfl rfl rfl rfl e22 rfl (Lk.len rfl Tryz.underlying55 rfl) fun _ => R.lookT rfl rfl rfl rfl e22 rfl (Lk.arith rfl rfl rfl rfl) fun _ => Xk rfl rfl (Lk.pick rfl rfl (fun e => by rw [e22] at e; cases e) (fun _ => rfl)) fun _ => Xm rfl rfl rfl rfl fun _ => ?_
      by_cases e23 : (decide ((v15_0.l : Int) < 3)) = true
      · refine R.lookF rfl rfl rfl rfl e23 rfl fun _ => R.lookF rfl rfl rfl rfl e23 rfl fun _ => R.lookF rfl rfl rfl rfl e23 rfl fun _ => Xk rfl rfl (Lk.pick rfl rfl (fun _ => rfl) (fun e => by rw [e23] at e; cases e)) fun _ => R.nil ?_; exact hIh_2 (((!v15_1) || (decide ((v15_0.l : Int) < 3))) || (decide ((v15_0.l : Int) > 4))) _ _ _ (lq rfl (lq rfl (lq rfl (lq (by rw [e22, e23]; rfl) (lz _))))) (ok.sub (.cons_cons _ sl0)) (H.add_sub ok (.cons_cons _ sl0)) hS
      · replace e23 := eq_false_of_ne_true e23; refine R.lookT rfl rfl rfl rfl e23 rfl (Lk.move rfl rfl) fun _ => R.lookT rfl rfl rfl rfl e23 rfl (Lk.len rfl Tryz.underlying55 rfl) fun _ => R.lookT rfl rfl rfl rfl e23 rfl (Lk.arith rfl rfl rfl rfl) fun _ => Xk rfl rfl (Lk.pick rfl rfl (fun e => by rw [e23] at e; cases e) (fun _ => rfl)) fun _ => R.nil ?_; exact hIh_2 (((!v15_1) || (decide ((v15_0.l : Int) < 3))) || (decide ((v15_0.l : Int) > 4))) _ _ _ (lq rfl (lq rfl (lq rfl (lq (by rw [e22, e23]; rfl) (lz _))))) (ok.sub (.cons_cons _ sl0)) (H.add_sub ok (.cons_cons _ sl0)) hS

theorem f12_ok {p0 : ByteArray} {h : H} {K : Sl → Sl → Int → Int → H → Prop} (hS : S12 p0 h K) : ACall Tryz.prog 12 ([(.string p0)] : List Value).toArray h (fun r h' => ∃ r0_0 : Sl, ∃ r0_1 : Sl, ∃ r1 : Int, ∃ r2 : Int, r = tup [(.agg ([(.slice r0_0.a r0_0.l r0_0.c), (.slice r0_1.a r0_1.l r0_1.c)] : List Value).toArray), (i6 r1), (i6 r2)] ∧ K r0_0 r0_1 r1 r2 h') := by
  refine ACall.enter (fn := Tryz.f12) Tryz.func12 rfl (Nat.le_of_ble_eq_true rfl) ?_; unfold S12 at hS; have ok := Lok.nil h; refine EvC.seq (Xr [.alc 0, .look 1, .look 2] (R.var (blk := .row ⟨[(.slice none 0 0), (.slice none 0 0)], 2, 33, true, true⟩) ok rfl rfl rfl (Ac.alloc rfl T33) rfl rfl fun b2 ok => ?_)); refine Xa rfl rfl rfl rfl fun _ => ?_; refine Xa rfl rfl rfl rfl fun _ => ?_; refine R.nil (EvC.seq (Xr [.look 0, .eff 1 [], .look 2, .look 3, .look 4, .look 5, .look 6] (Xm rfl rfl rfl rfl fun _ => R.eff rfl rfl rfl (Eff.loc ok (Ef.call rfl CB37 rfl ((f37_ok hS).mono ?_)))))); rintro _ h_1 ⟨v15_0, v15_1, rfl, hS⟩; refine fun ok => ⟨noChk, ?_⟩; refine Xm rfl rfl rfl rfl fun _ => ?_; refine Xk rfl rfl (Lk.extract rfl rfl rfl) fun _ => ?_; refine Xk rfl rfl (Lk.extract rfl rfl rfl) fun _ => ?_; refine Xa rfl rfl rfl rfl fun _ => ?_; refine Xa rfl rfl rfl rfl fun _ => ?_; refine R.nil (EvC.seq (EvC.block (EvC.seq (Xr [.look 0, .look 1, .look 2] (Xm rfl rfl rfl rfl fun _ => Xk rfl rfl (Lk.arith rfl rfl rfl rfl) fun _ => Xa rfl rfl rfl rfl fun _ => R.nil ?_)))))
  by_cases e1 : (v15_1 != 0) = true
  · rw [if_pos e1] at hS; refine EvC.condT rfl e1 (EvC.seq (Xr [.look 0, .look 1, .eff 2 [], .look 3, .look 4] (Xk rfl rfl (Lk.build (cs := [(.slice none 0 0), (.slice none 0 0)]) (pl := [(0, 1), (1, 1)]) rfl Tryz.underlying33 T33 (PlacesL.places (.cons T30 (.cons T31 PlacesL.nil))) rfl rfl) fun _ => ?_))); refine Xm rfl rfl rfl rfl fun _ => ?_; refine R.effN rfl rfl rfl (Ef.storeLoc (i := 0) (vs := [(.slice none 0 0), (.slice none 0 0)]) (cs := [(.slice none 0 0), (.slice none 0 0)]) (l' := [(b2, .row ⟨[(.slice none 0 0), (.slice none 0 0)], 2, 33, true, true⟩)]) ok rfl T33 rfl rfl rfl rfl rfl rfl rfl rfl rfl rfl fun ok => ⟨noChk, ?_⟩); refine Xa rfl rfl rfl rfl fun _ => ?_; refine Xa rfl rfl rfl rfl fun _ => ?_; refine R.nil (EvC.ret ?_); exact ⟨.inr rfl, _, _, (.cons (.cells rfl (fun w => Und.agg Tryz.underlying33 w) (fun w => T33.size_ w) (H.rdn_loc ok (i := 0) rfl rfl rfl)) (.cons (.tmp rfl) (.cons (.tmp rfl) .nil))), ok.le, _, _, _, _, rfl, hS⟩
  · rw [if_neg e1] at hS; replace e1 := eq_false_of_ne_true e1; refine EvC.condF rfl e1 (EvC.seq (Xr [.look 0, .look 1, .look 2, .look 3] (Xm rfl rfl rfl rfl fun _ => ?_))); refine Xk rfl rfl (Lk.len rfl Tryz.underlying55 rfl) fun _ => ?_; refine Xk rfl rfl (Lk.arith rfl rfl rfl rfl) fun _ => ?_; refine Xa rfl rfl rfl rfl fun _ => ?_; refine R.nil ?_
    by_cases e2 : ((v15_0.l : Int) == 0) = true
    · rw [if_pos e2] at hS; refine EvC.condT rfl e2 (EvC.seq (Xr [.look 0, .eff 1 [], .look 2, .look 3] (Xk rfl rfl (Lk.build (cs := [(.slice none 0 0), (.slice none 0 0)]) (pl := [(0, 1), (1, 1)]) rfl Tryz.underlying33 T33 (PlacesL.places (.cons T30 (.cons T31 PlacesL.nil))) rfl rfl) fun _ => ?_))); refine R.effN rfl rfl rfl (Ef.storeLoc (i := 0) (vs := [(.slice none 0 0), (.slice none 0 0)]) (cs := [(.slice none 0 0), (.slice none 0 0)]) (l' := [(b2, .row ⟨[(.slice none 0 0), (.slice none 0 0)], 2, 33, true, true⟩)]) ok rfl T33 rfl rfl rfl rfl rfl rfl rfl rfl rfl rfl fun ok => ⟨noChk, ?_⟩); refine Xa rfl rfl rfl rfl fun _ => ?_; refine Xa rfl rfl rfl rfl fun _ => ?_; refine R.nil (EvC.ret ?_); exact ⟨.inr rfl, _, _, (.cons (.cells rfl (fun w => Und.agg Tryz.underlying33 w) (fun w => T33.size_ w) (H.rdn_loc ok (i := 0) rfl rfl rfl)) (.cons (.tmp rfl) (.cons (.tmp rfl) .nil))), ok.le, _, _, _, _, rfl, hS⟩
    · rw [if_neg e2] at hS; replace e2 := eq_false_of_ne_true e2; refine EvC.condF rfl e2 (EvC.skip (EvC.seq (Xr [.alc 0] (R.var (blk := .row ⟨[(.slice none 0 0), (.slice none 0 0)], 2, 33, true, true⟩) ok rfl rfl rfl (Ac.alloc rfl T33) rfl rfl fun b7 ok => ?_)))); refine R.nil (EvC.seq (EvC.seq (Xr [.look 0, .look 1, .look 2, .eff 3 [], .look 4, .look 5, .look 6, .look 7, .eff 8 [], .look 9] (Xm rfl rfl rfl rfl fun _ => ?_))))
      obtain ⟨a30, e3, e4, e5, hS⟩ := hS
      refine Xk rfl rfl (Lk.ixAddr rfl Tryz.underlying55 T9 rfl e3 rfl e4 e5) fun _ => ?_
      obtain ⟨v31, e6, hS⟩ := hS
      refine Xk rfl rfl (Look.loc ok (Lk.load1 rfl Tryz.underlying9 rfl rfl e6)) fun _ => ?_; refine R.eff rfl rfl rfl (Eff.loc ok (Ef.call rfl CB38 rfl ((f38_ok hS).mono ?_))); rintro _ h_2 ⟨v32_0, v32_1, rfl, hS⟩; refine fun ok => ⟨noChk, ?_⟩; refine Xm rfl rfl rfl rfl fun _ => ?_; refine Xk rfl rfl (Lk.extract rfl rfl rfl) fun _ => ?_; refine Xk rfl rfl (Lk.extract rfl rfl rfl) fun _ => ?_; refine Xk (v := (.pointer (some ⟨b7, 0, none⟩))) rfl rfl (Lk.fldAddr rfl Tryz.underlying33 rfl rfl T30 rfl rfl rfl) fun _ => ?_; refine R.effN rfl rfl rfl (Ef.storeLoc (i := 0) (vs := [(.slice v32_0.a v32_0.l v32_0.c)]) (cs := [(.slice v32_0.a v32_0.l v32_0.c), (.slice none 0 0)]) (l' := [(b7, .row ⟨[(.slice v32_0.a v32_0.l v32_0.c), (.slice none 0 0)], 2, 33, true, true⟩), (b2, .row ⟨[(.slice none 0 0), (.slice none 0 0)], 2, 33, true, true⟩)]) ok rfl T30 rfl rfl rfl rfl rfl rfl rfl rfl rfl rfl fun ok => ⟨noChk, ?_⟩); refine Xa rfl rfl rfl rfl fun _ => ?_; refine R.nil (EvC.seq (Xr [.look 0, .look 1] (Xm rfl rfl rfl rfl fun _ => Xk rfl rfl (Lk.arith rfl rfl rfl rfl) fun _ => R.nil ?_)))
      by_cases e7 : (v32_1 != 0) = true
      · rw [if_pos e7] at hS; refine EvC.condT rfl e7 (EvC.seq (Xr [.look 0, .look 1, .eff 2 [], .look 3, .look 4] (Xk rfl rfl (Lk.build (cs := [(.slice none 0 0), (.slice none 0 0)]) (pl := [(0, 1), (1, 1)]) rfl Tryz.underlying33 T33 (PlacesL.places (.cons T30 (.cons T31 PlacesL.nil))) rfl rfl) fun _ => ?_))); refine Xm rfl rfl rfl rfl fun _ => ?_; refine R.effN rfl rfl rfl (Ef.storeLoc (i := 1) (vs := [(.slice none 0 0), (.slice none 0 0)]) (cs := [(.slice none 0 0), (.slice none 0 0)]) (l' := [(b7, .row ⟨[(.slice v32_0.a v32_0.l v32_0.c), (.slice none 0 0)], 2, 33, true, true⟩), (b2, .row ⟨[(.slice none 0 0), (.slice none 0 0)], 2, 33, true, true⟩)]) ok rfl T33 rfl rfl rfl rfl rfl rfl rfl rfl rfl rfl fun ok => ⟨noChk, ?_⟩); refine Xa rfl rfl rfl rfl fun _ => ?_; refine Xa rfl rfl rfl rfl fun _ => ?_; refine R.nil (EvC.ret ?_); exact ⟨.inr rfl, _, _, (.cons (.cells rfl (fun w => Und.agg Tryz.underlying33 w) (fun w => T33.size_ w) (H.rdn_loc ok (i := 1) rfl rfl rfl)) (.cons (.tmp rfl) (.cons (.tmp rfl) .nil))), ok.le, _, _, _, _, rfl, hS⟩
      · rw [if_neg e7] at hS; replace e7 := eq_false_of_ne_true e7; refine EvC.condF rfl e7 (EvC.skip (EvC.seq (Xr [.look 0] (Xa rfl rfl rfl rfl fun _ => ?_)))); refine R.nil (EvC.join (σ := Sl × Sl) (fun s => (Ep (Ep E0 5 (.slice v15_0.a v15_0.l v15_0.c)) 2 (.pointer (some ⟨b2, 0, none⟩)))) (fun s => [(b2, .row ⟨[(.slice s.1.a s.1.l s.1.c), (.slice s.2.a s.2.l s.2.c)], 2, 33, true, true⟩)]) (fun s h_3 => S12_j1 K v15_0 s.1 s.2 h_3) ?_ (fun Ih_3 hIh_3 => ?_))
        · rintro ⟨c2_0, c2_1⟩ h_3 ok hS; replace hS : S12_j1 K v15_0 c2_0 c2_1 h_3 := hS; unfold S12_j1 at hS; refine EvC.seq (Xr [.look 0, .look 1, .look 2, .look 3, .eff 4 [], .look 5, .look 6] (Xk rfl rfl (Lk.build (cs := [(.slice none 0 0), (.slice none 0 0)]) (pl := [(0, 1), (1, 1)]) rfl Tryz.underlying33 T33 (PlacesL.places (.cons T30 (.cons T31 PlacesL.nil))) rfl rfl) fun _ => ?_)); refine Xm rfl rfl rfl rfl fun _ => ?_; refine Xk rfl rfl (Lk.len rfl Tryz.underlying55 rfl) fun _ => ?_; refine Xk rfl rfl (Lk.arith rfl rfl rfl rfl) fun _ => ?_; refine R.effN rfl rfl rfl (Ef.storeLoc (i := 0) (vs := [(.slice none 0 0), (.slice none 0 0)]) (cs := [(.slice none 0 0), (.slice none 0 0)]) (l' := [(b2, .row ⟨[(.slice none 0 0), (.slice none 0 0)], 2, 33, true, true⟩)]) ok rfl T33 rfl rfl rfl rfl rfl rfl rfl rfl rfl rfl fun ok => ⟨noChk, ?_⟩); refine Xa rfl rfl rfl rfl fun _ => ?_; refine Xa rfl rfl rfl rfl fun _ => ?_; refine R.nil (EvC.ret ?_); exact ⟨.inr rfl, _, _, (.cons (.cells rfl (fun w => Und.agg Tryz.underlying33 w) (fun w => T33.size_ w) (H.rdn_loc ok (i := 0) rfl rfl rfl)) (.cons (.tmp rfl) (.cons (.tmp rfl) .nil))), ok.le, _, _, _, _, rfl, hS⟩
        · refine EvC.seq (Xr [.look 0, .look 1, .look 2, .look 3] (Xm rfl rfl rfl rfl fun _ => ?_))
          obtain ⟨e8, e9, e10, e11, hS⟩ := hS
          refine R.look (v := (.slice (if v15_0.c = Int.toNat 1 then v15_0.a else Option.map (fun x => Addr.add x (Int.toNat 1 * 1)) v15_0.a) (Nat.sub (Int.toNat (v15_0.l : Int)) (Int.toNat 1)) (v15_0.c - Int.toNat 1))) rfl rfl rfl (Lk.subSlice (i := 1) (j := (v15_0.l : Int)) rfl Tryz.underlying55 T9 rfl ⟨_, rfl⟩ rfl e8 e9 e10 e11) fun _ => Xk rfl rfl (Lk.len rfl Tryz.underlying55 rfl) fun _ => Xm rfl rfl rfl rfl fun _ => R.nil (EvC.block (EvC.loop (LoopC.lfp (σ := Int × Int × Sl × Sl × Sl × Sl) (fun s => (Ep (Ep (Ep (Ep (Ep (Ep (Ep E0 43 (i6 s.2.1)) 42 (i6 ((Nat.sub (Int.toNat (v15_0.l : Int)) (Int.toNat 1)) : Int))) 41 (.slice (if v15_0.c = Int.toNat 1 then v15_0.a else Option.map (fun x => Addr.add x (Int.toNat 1 * 1)) v15_0.a) (Nat.sub (Int.toNat (v15_0.l : Int)) (Int.toNat 1)) (v15_0.c - Int.toNat 1))) 8 (i6 s.1)) 7 (.pointer (some ⟨b7, 0, none⟩))) 5 (.slice v15_0.a v15_0.l v15_0.c)) 2 (.pointer (some ⟨b2, 0, none⟩)))) (fun s => [(b7, .row ⟨[(.slice s.2.2.1.a s.2.2.1.l s.2.2.1.c), (.slice s.2.2.2.1.a s.2.2.2.1.l s.2.2.2.1.c)], 2, 33, true, true⟩), (b2, .row ⟨[(.slice s.2.2.2.2.1.a s.2.2.2.2.1.l s.2.2.2.2.1.c), (.slice s.2.2.2.2.2.a s.2.2.2.2.2.l s.2.2.2.2.2.c)], 2, 33, true, true⟩)]) (fun X hX => ?_) hS (ok.sub (.cons_cons _ (.cons_cons _ sl0))) (lq rfl (lq rfl (lq rfl (lq rfl (lq rfl (lq rfl (lq rfl (lz _)))))))) (H.add_sub ok (.cons_cons _ (.cons_cons _ sl0)))))); rintro ⟨v8, v43, c7_0, c7_1, c2_0_1, c2_1_1⟩ h_4 hS ok; replace hS : S12_l2 K v15_0 X v8 v43 c7_0 c7_1 c2_0_1 c2_1_1 h_4 := hS; unfold S12_l2 at hS; refine EvC.seq (Xr [.look 0] (Xk rfl rfl (Lk.arith rfl rfl rfl rfl) fun _ => ?_)); refine R.nil (EvC.seq ?_)
          by_cases e12 : (decide (v43 < ((Nat.sub (Int.toNat (v15_0.l : Int)) (Int.toNat 1)) : Int))) = true
          · rw [if_pos e12] at hS; refine EvC.condT rfl e12 (EvC.skip (EvC.seq (EvC.block (EvC.seq (Xr [.look 0, .look 1, .look 2, .look 3, .look 4] (Xm rfl rfl rfl rfl fun _ => ?_))))))
            obtain ⟨a46, e13, e14, e15, hS⟩ := hS
            refine Xk rfl rfl (Lk.ixAddr rfl Tryz.underlying55 T9 rfl e13 rfl e14 e15) fun _ => ?_
            obtain ⟨v47, e16, hS⟩ := hS
            refine Xk rfl rfl (Look.loc ok (Lk.load1 rfl Tryz.underlying9 rfl rfl e16)) fun _ => ?_; refine Xa rfl rfl rfl rfl fun _ => ?_; refine Xa rfl rfl rfl rfl fun _ => ?_; refine R.nil (EvC.seq (EvC.seq (Xr [.look 0, .look 1] (Xm rfl rfl rfl rfl fun _ => Xk rfl rfl (Lk.strEq rfl rfl rfl) fun _ => R.nil ?_))))
            by_cases e17 : (ByteArray.toList v47 == ByteArray.toList ⟨#[101, 110, 100]⟩) = true
            · rw [if_pos e17] at hS; refine EvC.condT rfl e17 (EvC.seq (EvC.seq (Xr [.look 0, .look 1, .look 2, .look 3, .look 4] (Xm rfl rfl rfl rfl fun _ => ?_)))); refine Xk rfl rfl (Lk.arith rfl rfl rfl rfl) fun _ => ?_; refine Xm rfl rfl rfl rfl fun _ => ?_; refine Xk rfl rfl (Lk.len rfl Tryz.underlying55 rfl) fun _ => ?_; refine Xk rfl rfl (Lk.arith rfl rfl rfl rfl) fun _ => ?_; refine R.nil ?_
              by_cases e18 : (decide ((IntKind.wrap .i64 (v43 + 2)) < (v15_0.l : Int))) = true
              · rw [if_pos e18] at hS; refine EvC.condT rfl e18 (EvC.seq (Xr [.look 0, .look 1, .look 2, .eff 3 [], .look 4, .look 5] (Xk rfl rfl (Lk.build (cs := [(.slice none 0 0), (.slice none 0 0)]) (pl := [(0, 1), (1, 1)]) rfl Tryz.underlying33 T33 (PlacesL.places (.cons T30 (.cons T31 PlacesL.nil))) rfl rfl) fun _ => ?_))); refine Xm rfl rfl rfl rfl fun _ => ?_; refine Xk rfl rfl (Lk.arith rfl rfl rfl rfl) fun _ => ?_; refine R.effN rfl rfl rfl (Ef.storeLoc (i := 1) (vs := [(.slice none 0 0), (.slice none 0 0)]) (cs := [(.slice none 0 0), (.slice none 0 0)]) (l' := [(b7, .row ⟨[(.slice c7_0.a c7_0.l c7_0.c), (.slice c7_1.a c7_1.l c7_1.c)], 2, 33, true, true⟩), (b2, .row ⟨[(.slice none 0 0), (.slice none 0 0)], 2, 33, true, true⟩)]) ok rfl T33 rfl rfl rfl rfl rfl rfl rfl rfl rfl rfl fun ok => ⟨noChk, ?_⟩); refine Xa rfl rfl rfl rfl fun _ => ?_; refine Xa rfl rfl rfl rfl fun _ => ?_; refine R.nil (EvC.ret ?_); exact ⟨.inr rfl, _, _, (.cons (.cells rfl (fun w => Und.agg Tryz.underlying33 w) (fun w => T33.size_ w) (H.rdn_loc ok (i := 1) rfl rfl rfl)) (.cons (.tmp rfl) (.cons (.tmp rfl) .nil))), ok.le, _, _, _, _, rfl, hS⟩
              · rw [if_neg e18] at hS; replace e18 := eq_false_of_ne_true e18; refine EvC.condF rfl e18 (EvC.skip (EvC.seq (Xr [.look 0, .eff 1 [], .look 2, .look 3] (Xk rfl rfl (Lk.loadN (vs := [(.slice c7_0.a c7_0.l c7_0.c), (.slice c7_1.a c7_1.l c7_1.c)]) rfl Tryz.underlying33 rfl T33 rfl (H.rdn_loc ok (i := 0) rfl rfl rfl)) fun _ => ?_)))); refine R.effN rfl rfl rfl (Ef.storeLoc (i := 1) (vs := [(.slice c7_0.a c7_0.l c7_0.c), (.slice c7_1.a c7_1.l c7_1.c)]) (cs := [(.slice c7_0.a c7_0.l c7_0.c), (.slice c7_1.a c7_1.l c7_1.c)]) (l' := [(b7, .row ⟨[(.slice c7_0.a c7_0.l c7_0.c), (.slice c7_1.a c7_1.l c7_1.c)], 2, 33, true, true⟩), (b2, .row ⟨[(.slice c7_0.a c7_0.l c7_0.c), (.slice c7_1.a c7_1.l c7_1.c)], 2, 33, true, true⟩)]) ok rfl T33 rfl rfl rfl rfl rfl rfl rfl rfl rfl rfl fun ok => ⟨noChk, ?_⟩); refine Xa rfl rfl rfl rfl fun _ => ?_; refine Xa rfl rfl rfl rfl fun _ => ?_; refine R.nil (EvC.ret ?_); exact ⟨.inr rfl, _, _, (.cons (.cells rfl (fun w => Und.agg Tryz.underlying33 w) (fun w => T33.size_ w) (H.rdn_loc ok (i := 1) rfl rfl rfl)) (.cons (.tmp rfl) (.cons (.tmp rfl) .nil))), ok.le, _, _, _, _, rfl, hS⟩
            · rw [if_neg e17] at hS; replace e17 := eq_false_of_ne_true e17; refine EvC.condF rfl e17 (EvC.skip (EvC.seq (Xr [.look 0, .look 1, .look 2, .look 3, .eff 4 [], .look 5, .look 6, .look 7, .alc 8, .eff 9 [], .look 10] (Xm rfl rfl rfl rfl fun _ => ?_)))); refine Xk (v := (.pointer (some ⟨b7, 0, none⟩))) rfl rfl (Lk.fldAddr rfl Tryz.underlying33 rfl rfl T30 rfl rfl rfl) fun _ => ?_; refine Xk rfl rfl (Lk.load1 (v := (.slice c7_0.a c7_0.l c7_0.c)) rfl Tryz.underlying30 rfl rfl (H.rd_loc ok (i := 0) rfl rfl)) fun _ => ?_; refine Xk rfl rfl (Lk.len rfl Tryz.underlying30 rfl) fun _ => ?_; refine R.eff rfl rfl rfl (Eff.loc ok (Ef.call rfl CB39 rfl ((f39_ok hS).mono ?_))); rintro _ h_5 ⟨v64_0_0, v64_0_1, v64_0_2, v64_0_3, v64_1, rfl, hS⟩; refine fun ok => ⟨noChk, ?_⟩; refine Xm rfl rfl rfl rfl fun _ => ?_; refine Xk rfl rfl (Lk.extract rfl rfl rfl) fun _ => ?_; refine Xk rfl rfl (Lk.extract rfl rfl rfl) fun _ => ?_; refine R.var (blk := .row ⟨[(i6 0), (i6 0), (i6 0), (.string ⟨#[]⟩)], 4, 61, true, true⟩) ok rfl rfl rfl (Ac.alloc rfl T61) rfl rfl fun b11 ok => ?_; refine R.effN rfl rfl rfl (Ef.storeLoc (i := 0) (vs := [(i6 v64_0_0), (i6 v64_0_1), (i6 v64_0_2), (.string v64_0_3)]) (cs := [(i6 v64_0_0), (i6 v64_0_1), (i6 v64_0_2), (.string v64_0_3)]) (l' := [(b11, .row ⟨[(i6 v64_0_0), (i6 v64_0_1), (i6 v64_0_2), (.string v64_0_3)], 4, 61, true, true⟩), (b7, .row ⟨[(.slice c7_0.a c7_0.l c7_0.c), (.slice c7_1.a c7_1.l c7_1.c)], 2, 33, true, true⟩), (b2, .row ⟨[(.slice c2_0_1.a c2_0_1.l c2_0_1.c), (.slice c2_1_1.a c2_1_1.l c2_1_1.c)], 2, 33, true, true⟩)]) ok rfl T61 rfl rfl rfl rfl rfl rfl rfl rfl rfl rfl fun ok => ⟨noChk, ?_⟩); refine Xa rfl rfl rfl rfl fun _ => ?_; refine R.nil (EvC.seq (EvC.seq (Xr [.look 0, .look 1] (Xm rfl rfl rfl rfl fun _ => Xk rfl rfl (Lk.arith rfl rfl rfl rfl) fun _ => R.nil ?_))))
              by_cases e19 : (v64_1 != 0) = true
              · rw [if_pos e19] at hS; refine EvC.condT rfl e19 (EvC.seq (Xr [.look 0, .look 1, .look 2, .look 3, .eff 4 [], .look 5, .look 6] (Xk rfl rfl (Lk.build (cs := [(.slice none 0 0), (.slice none 0 0)]) (pl := [(0, 1), (1, 1)]) rfl Tryz.underlying33 T33 (PlacesL.places (.cons T30 (.cons T31 PlacesL.nil))) rfl rfl) fun _ => ?_))); refine Xm rfl rfl rfl rfl fun _ => ?_; refine Xk rfl rfl (Lk.arith rfl rfl rfl rfl) fun _ => ?_; refine Xm rfl rfl rfl rfl fun _ => ?_; refine R.effN rfl rfl rfl (Ef.storeLoc (i := 2) (vs := [(.slice none 0 0), (.slice none 0 0)]) (cs := [(.slice none 0 0), (.slice none 0 0)]) (l' := [(b11, .row ⟨[(i6 v64_0_0), (i6 v64_0_1), (i6 v64_0_2), (.string v64_0_3)], 4, 61, true, true⟩), (b7, .row ⟨[(.slice c7_0.a c7_0.l c7_0.c), (.slice c7_1.a c7_1.l c7_1.c)], 2, 33, true, true⟩), (b2, .row ⟨[(.slice none 0 0), (.slice none 0 0)], 2, 33, true, true⟩)]) ok rfl T33 rfl rfl rfl rfl rfl rfl rfl rfl rfl rfl fun ok => ⟨noChk, ?_⟩); refine Xa rfl rfl rfl rfl fun _ => ?_; refine Xa rfl rfl rfl rfl fun _ => ?_; refine R.nil (EvC.ret ?_); exact ⟨.inr rfl, _, _, (.cons (.cells rfl (fun w => Und.agg Tryz.underlying33 w) (fun w => T33.size_ w) (H.rdn_loc ok (i := 2) rfl rfl rfl)) (.cons (.tmp rfl) (.cons (.tmp rfl) .nil))), ok.le, _, _, _, _, rfl, hS⟩
              · rw [if_neg e19] at hS; replace e19 := eq_false_of_ne_true e19; refine EvC.condF rfl e19 (EvC.skip (EvC.seq (Xr [.look 0, .look 1, .look 2, .look 3, .look 4, .look 5] (Xm rfl rfl rfl rfl fun _ => ?_)))); refine Xk (v := (.pointer (some ⟨b11, 3, none⟩))) rfl rfl (Lk.fldAddr rfl Tryz.underlying61 rfl rfl T9 rfl rfl rfl) fun _ => ?_; refine Xk rfl rfl (Lk.load1 (v := (.string v64_0_3)) rfl Tryz.underlying9 rfl rfl (H.rd_loc ok (i := 0) rfl rfl)) fun _ => ?_; refine Xk rfl rfl (Lk.lenS rfl Tryz.underlying9 rfl) fun _ => ?_; refine Xk rfl rfl (Lk.arith rfl rfl rfl rfl) fun _ => ?_; refine Xa rfl rfl rfl rfl fun _ => ?_; refine R.nil (EvC.seq (Xr [.look 0, .look 1, .look 2, .alc 3, .eff 4 [], .look 5, .eff 6 []] (Xk (v := (.pointer (some ⟨b7, 1, none⟩))) rfl rfl (Lk.fldAddr rfl Tryz.underlying33 rfl rfl T31 rfl rfl rfl) fun _ => Xk rfl rfl (Lk.load1 (v := (.slice c7_1.a c7_1.l c7_1.c)) rfl Tryz.underlying31 rfl rfl (H.rd_loc ok (i := 1) rfl rfl)) fun _ => Xk rfl rfl (Lk.loadN (vs := [(i6 v64_0_0), (i6 v64_0_1), (i6 v64_0_2), (.string v64_0_3)]) rfl Tryz.underlying61 rfl T61 rfl (H.rdn_loc ok (i := 0) rfl rfl rfl)) fun _ => R.appL (cs := [(i6 v64_0_0), (i6 v64_0_1), (i6 v64_0_2), (.string v64_0_3)]) ok rfl rfl rfl rfl rfl rfl rfl rfl Tryz.underlying31 T61 rfl (by decide) (by decide) rfl rfl rfl rfl rfl (fun _ => rfl) hS ?_))); intro bb81 v82 h_6 hS ok; refine ⟨noChk, ?_⟩; refine Xk (v := (.pointer (some ⟨b7, 1, none⟩))) rfl rfl (Lk.fldAddr rfl Tryz.underlying33 rfl rfl T31 rfl rfl rfl) fun _ => ?_; refine R.effN rfl rfl rfl (Ef.storeLoc (i := 1) (vs := [(.slice v82.a v82.l v82.c)]) (cs := [(.slice c7_0.a c7_0.l c7_0.c), (.slice v82.a v82.l v82.c)]) (l' := [(b11, .row ⟨[(i6 v64_0_0), (i6 v64_0_1), (i6 v64_0_2), (.string v64_0_3)], 4, 61, true, true⟩), (b7, .row ⟨[(.slice c7_0.a c7_0.l c7_0.c), (.slice v82.a v82.l v82.c)], 2, 33, true, true⟩), (b2, .row ⟨[(.slice c2_0_1.a c2_0_1.l c2_0_1.c), (.slice c2_1_1.a c2_1_1.l c2_1_1.c)], 2, 33, true, true⟩)]) ok rfl T31 rfl rfl rfl rfl rfl rfl rfl rfl rfl rfl fun ok => ⟨noChk, ?_⟩); refine R.nil (EvC.seq (Xr [.look 0, .look 1, .look 2, .look 3, .look 4, .look 5] (Xk (v := (.pointer (some ⟨b7, 1, none⟩))) rfl rfl (Lk.fldAddr rfl Tryz.underlying33 rfl rfl T31 rfl rfl rfl) fun _ => Xk rfl rfl (Lk.load1 (v := (.slice v82.a v82.l v82.c)) rfl Tryz.underlying31 rfl rfl (H.rd_loc ok (i := 1) rfl rfl)) fun _ => Xk rfl rfl (Lk.len rfl Tryz.underlying31 rfl) fun _ => Xm rfl rfl rfl rfl fun _ => Xk rfl rfl (Lk.max2 rfl rfl rfl) fun _ => Xk rfl rfl (Lk.arith rfl rfl rfl rfl) fun _ => R.nil ?_)))
                by_cases e20 : (decide ((if (IntKind.wrap .i64 (v8 + (ByteArray.size v64_0_3 : Int))) > (v82.l : Int) then (IntKind.wrap .i64 (v8 + (ByteArray.size v64_0_3 : Int))) else (v82.l : Int)) > 4096)) = true
                · rw [if_pos e20] at hS; refine EvC.condT rfl e20 (EvC.seq (Xr [.look 0, .look 1, .look 2, .eff 3 [], .look 4, .look 5] (Xk rfl rfl (Lk.build (cs := [(.slice none 0 0), (.slice none 0 0)]) (pl := [(0, 1), (1, 1)]) rfl Tryz.underlying33 T33 (PlacesL.places (.cons T30 (.cons T31 PlacesL.nil))) rfl rfl) fun _ => ?_))); refine Xm rfl rfl rfl rfl fun _ => ?_; refine Xk rfl rfl (Lk.arith rfl rfl rfl rfl) fun _ => ?_; refine R.effN rfl rfl rfl (Ef.storeLoc (i := 2) (vs := [(.slice none 0 0), (.slice none 0 0)]) (cs := [(.slice none 0 0), (.slice none 0 0)]) (l' := [(b11, .row ⟨[(i6 v64_0_0), (i6 v64_0_1), (i6 v64_0_2), (.string v64_0_3)], 4, 61, true, true⟩), (b7, .row ⟨[(.slice c7_0.a c7_0.l c7_0.c), (.slice v82.a v82.l v82.c)], 2, 33, true, true⟩), (b2, .row ⟨[(.slice none 0 0), (.slice none 0 0)], 2, 33, true, true⟩)]) ok rfl T33 rfl rfl rfl rfl rfl rfl rfl rfl rfl rfl fun ok => ⟨noChk, ?_⟩); refine Xa rfl rfl rfl rfl fun _ => ?_; refine Xa rfl rfl rfl rfl fun _ => ?_; refine R.nil (EvC.ret ?_); exact ⟨.inr rfl, _, _, (.cons (.cells rfl (fun w => Und.agg Tryz.underlying33 w) (fun w => T33.size_ w) (H.rdn_loc ok (i := 2) rfl rfl rfl)) (.cons (.tmp rfl) (.cons (.tmp rfl) .nil))), ok.le, _, _, _, _, rfl, hS⟩
                · rw [if_neg e20] at hS; replace e20 := eq_false_of_ne_true e20; refine EvC.condF rfl e20 (EvC.skip (Xr [.look 0, .look 1] (Xk rfl rfl (Lk.arith rfl rfl rfl rfl) fun _ => ?_))); refine Xm rfl rfl rfl rfl fun _ => ?_; refine R.nil ?_; exact hX ((IntKind.wrap .i64 (v8 + (ByteArray.size v64_0_3 : Int))), (IntKind.wrap .i64 (v43 + 1)), c7_0, v82, c2_0_1, c2_1_1) _ _ _ hS (ok.sub (.cons _ (.cons_cons _ (.cons_cons _ sl0)))) (lq rfl (lq rfl (lq rfl (lq rfl (lq rfl (lq rfl (lq rfl (lz _)))))))) (H.add_sub ok (.cons _ (.cons_cons _ (.cons_cons _ sl0))))
          · rw [if_neg e12] at hS; replace e12 := eq_false_of_ne_true e12; refine EvC.condF rfl e12 (EvC.exit ?_); exact hIh_3 (c2_0_1, c2_1_1) _ _ _ (lq rfl (lq rfl (lz _))) (ok.sub (.cons _ (.cons_cons _ sl0))) (H.add_sub ok (.cons _ (.cons_cons _ sl0))) hS

theorem f14_ok {h : H} {K : Bool → H → Prop} (hS : S14  h K) : ACall Tryz.prog 14 ([] : List Value).toArray h (fun r h' => ∃ r0 : Bool, r = tup [(.bool r0)] ∧ K r0 h') := by
  refine ACall.enter (fn := Tryz.f14) Tryz.func14 rfl (Nat.le_of_ble_eq_true rfl) ?_; unfold S14 at hS; have ok := Lok.nil h; refine EvC.seq (Xr [.look 0] (Xa rfl rfl rfl rfl fun _ => ?_)); refine R.nil (EvC.seq (Xr [.eff 0 [], .look 1, .look 2, .look 3, .look 4, .alc 5, .eff 6 [], .look 7, .look 8] (R.eff rfl rfl rfl (Eff.loc ok (Ef.call rfl CB12 rfl ((f12_ok hS).mono ?_)))))); rintro _ h_1 ⟨v8_0_0, v8_0_1, v8_1, v8_2, rfl, hS⟩; refine fun ok => ⟨noChk, ?_⟩; refine Xm rfl rfl rfl rfl fun _ => ?_; refine Xk rfl rfl (Lk.extract rfl rfl rfl) fun _ => ?_; refine Xk rfl rfl (Lk.extract rfl rfl rfl) fun _ => ?_; refine Xk rfl rfl (Lk.extract rfl rfl rfl) fun _ => ?_; refine R.var (blk := .row ⟨[(.slice none 0 0), (.slice none 0 0)], 2, 33, true, true⟩) ok rfl rfl rfl (Ac.alloc rfl T33) rfl rfl fun b1 ok => ?_; refine R.effN rfl rfl rfl (Ef.storeLoc (i := 0) (vs := [(.slice v8_0_0.a v8_0_0.l v8_0_0.c), (.slice v8_0_1.a v8_0_1.l v8_0_1.c)]) (cs := [(.slice v8_0_0.a v8_0_0.l v8_0_0.c), (.slice v8_0_1.a v8_0_1.l v8_0_1.c)]) (l' := [(b1, .row ⟨[(.slice v8_0_0.a v8_0_0.l v8_0_0.c), (.slice v8_0_1.a v8_0_1.l v8_0_1.c)], 2, 33, true, true⟩)]) ok rfl T33 rfl rfl rfl rfl rfl rfl rfl rfl rfl rfl fun ok => ⟨noChk, ?_⟩); refine Xa rfl rfl rfl rfl fun _ => ?_; refine Xa rfl rfl rfl rfl fun _ => ?_; refine R.nil (EvC.seq (Xr [.eff 0 [], .look 1, .look 2, .look 3, .look 4, .alc 5, .eff 6 [], .look 7, .look 8] (R.eff rfl rfl rfl (Eff.loc ok (Ef.call rfl CB12 rfl ((f12_ok hS).mono ?_)))))); rintro _ h_2 ⟨v13_0_0, v13_0_1, v13_1, v13_2, rfl, hS⟩; refine fun ok => ⟨noChk, ?_⟩; refine Xm rfl rfl rfl rfl fun _ => ?_; refine Xk rfl rfl (Lk.extract rfl rfl rfl) fun _ => ?_; refine Xk rfl rfl (Lk.extract rfl rfl rfl) fun _ => ?_; refine Xk rfl rfl (Lk.extract rfl rfl rfl) fun _ => ?_; refine R.var (blk := .row ⟨[(.slice none 0 0), (.slice none 0 0)], 2, 33, true, true⟩) ok rfl rfl rfl (Ac.alloc rfl T33) rfl rfl fun b4 ok => ?_; refine R.effN rfl rfl rfl (Ef.storeLoc (i := 0) (vs := [(.slice v13_0_0.a v13_0_0.l v13_0_0.c), (.slice v13_0_1.a v13_0_1.l v13_0_1.c)]) (cs := [(.slice v13_0_0.a v13_0_0.l v13_0_0.c), (.slice v13_0_1.a v13_0_1.l v13_0_1.c)]) (l' := [(b4, .row ⟨[(.slice v13_0_0.a v13_0_0.l v13_0_0.c), (.slice v13_0_1.a v13_0_1.l v13_0_1.c)], 2, 33, true, true⟩), (b1, .row ⟨[(.slice v8_0_0.a v8_0_0.l v8_0_0.c), (.slice v8_0_1.a v8_0_1.l v8_0_1.c)], 2, 33, true, true⟩)]) ok rfl T33 rfl rfl rfl rfl rfl rfl rfl rfl rfl rfl fun ok => ⟨noChk, ?_⟩); refine Xa rfl rfl rfl rfl fun _ => ?_; refine Xa rfl rfl rfl rfl fun _ => ?_; refine R.nil (EvC.join (σ := Bool) (fun s => (Ep E0 0 (.bool s))) (fun s => []) (fun s h_3 => S14_j1 K s h_3) ?_ (fun Ih_3 hIh_3 => ?_))
  · intro v0 h_3 ok hS; replace hS : S14_j1 K v0 h_3 := hS; unfold S14_j1 at hS; refine EvC.ret ?_; exact ⟨.inr rfl, _, _, (.cons (.tmp rfl) .nil), ok.le, _, rfl, hS⟩
  · refine Xr [.look 0, .look 1, .look 2, .look 3, .look 4, .look 5, .look 6, .look 7, .look 8, .look 9, .look 10, .look 11, .look 12, .look 13, .look 14, .look 15, .look 16, .look 17, .look 18, .look 19, .look 20, .look 21, .look 22, .look 23, .look 24, .look 25, .look 26, .look 27, .look 28, .look 29, .look 30, .look 31, .look 32, .look 33, .look 34, .look 35, .look 36, .look 37, .look 38, .look 39, .look 40] (Xm rfl rfl rfl rfl fun _ => ?_); refine Xk rfl rfl (Lk.arith rfl rfl rfl rfl) fun _ => ?_; refine Xm rfl rfl rfl rfl fun _ => ?_
    by_cases e1 : (v8_2 == 0) = true
    · rw [if_pos e1] at hS; refine R.lookT rfl rfl rfl rfl e1 rfl (Lk.move rfl rfl) fun _ => R.lookT rfl rfl rfl rfl e1 rfl (Lk.arith rfl rfl rfl rfl) fun _ => Xk rfl rfl (Lk.pick rfl rfl (fun _ => rfl) (fun e => by rw [e1] at e; cases e)) fun _ => Xm rfl rfl rfl rfl fun _ => ?_
      by_cases e2 : (v8_1 == 0) = true
      · rw [if_pos e2] at hS; refine R.lookT (v := (.pointer (some ⟨b1, 0, none⟩))) rfl rfl rfl rfl e2 rfl (Lk.fldAddr rfl Tryz.underlying33 rfl rfl T30 rfl rfl rfl) fun _ => R.lookT rfl rfl rfl rfl e2 rfl (Lk.load1 (v := (.slice v8_0_0.a v8_0_0.l v8_0_0.c)) rfl Tryz.underlying30 rfl rfl (H.rd_loc ok (i := 1) rfl rfl)) fun _ => R.lookT rfl rfl rfl rfl e2 rfl (Lk.len rfl Tryz.underlying30 rfl) fun _ => R.lookT rfl rfl rfl rfl e2 rfl (Lk.arith rfl rfl rfl rfl) fun _ => Xk rfl rfl (Lk.pick rfl rfl (fun _ => rfl) (fun e => by rw [e2] at e; cases e)) fun _ => Xm rfl rfl rfl rfl fun _ => ?_
        by_cases e3 : ((v8_0_0.l : Int) == 2) = true
        · rw [if_pos e3] at hS; refine R.lookT (v := (.pointer (some ⟨b1, 0, none⟩))) rfl rfl rfl rfl e3 rfl (Lk.fldAddr rfl Tryz.underlying33 rfl rfl T30 rfl rfl rfl) fun _ => R.lookT rfl rfl rfl rfl e3 rfl (Lk.load1 (v := (.slice v8_0_0.a v8_0_0.l v8_0_0.c)) rfl Tryz.underlying30 rfl rfl (H.rd_loc ok (i := 1) rfl rfl)) fun _ => ?_
          obtain ⟨a32, e4, e5, e6, hS⟩ := hS
          refine R.lookT rfl rfl rfl rfl e3 rfl (Lk.ixAddr rfl Tryz.underlying30 T4 rfl e4 rfl e5 e6) fun _ => ?_
          obtain ⟨v33, e7, hS⟩ := hS
          refine R.lookT rfl rfl rfl rfl e3 rfl (Look.loc ok (Lk.load1 rfl Tryz.underlying4 rfl rfl e7)) fun _ => Xk rfl rfl (Lk.pick rfl rfl (fun _ => rfl) (fun e => by rw [e3] at e; cases e)) fun _ => Xm rfl rfl rfl rfl fun _ => ?_
          by_cases e8 : v33 = true
          · rw [if_pos e8] at hS; refine R.lookT (v := (.pointer (some ⟨b1, 1, none⟩))) rfl rfl rfl rfl e8 rfl (Lk.fldAddr rfl Tryz.underlying33 rfl rfl T31 rfl rfl rfl) fun _ => R.lookT rfl rfl rfl rfl e8 rfl (Lk.load1 (v := (.slice v8_0_1.a v8_0_1.l v8_0_1.c)) rfl Tryz.underlying31 rfl rfl (H.rd_loc ok (i := 1) rfl rfl)) fun _ => R.lookT rfl rfl rfl rfl e8 rfl (Lk.len rfl Tryz.underlying31 rfl) fun _ => R.lookT rfl rfl rfl rfl e8 rfl (Lk.arith rfl rfl rfl rfl) fun _ => Xk rfl rfl (Lk.pick rfl rfl (fun _ => rfl) (fun e => by rw [e8] at e; cases e)) fun _ => Xm rfl rfl rfl rfl fun _ => ?_
            by_cases e9 : ((v8_0_1.l : Int) == 1) = true
            · rw [if_pos e9] at hS; refine R.lookT (v := (.pointer (some ⟨b1, 1, none⟩))) rfl rfl rfl rfl e9 rfl (Lk.fldAddr rfl Tryz.underlying33 rfl rfl T31 rfl rfl rfl) fun _ => R.lookT rfl rfl rfl rfl e9 rfl (Lk.load1 (v := (.slice v8_0_1.a v8_0_1.l v8_0_1.c)) rfl Tryz.underlying31 rfl rfl (H.rd_loc ok (i := 1) rfl rfl)) fun _ => ?_
              obtain ⟨a44, e10, e11, e12, hS⟩ := hS
              refine R.lookT rfl rfl rfl rfl e9 rfl (Lk.ixAddr rfl Tryz.underlying31 T61 rfl e10 rfl e11 e12) fun _ => ?_
              obtain ⟨v45_0, v45_1, v45_2, v45_3, e13, hS⟩ := hS
              refine R.lookT rfl rfl rfl rfl e9 rfl (Look.loc ok (Lk.loadN rfl Tryz.underlying61 rfl T61 rfl e13)) fun _ => R.lookT rfl rfl rfl rfl e9 rfl (Lk.build (cs := [(i6 0), (i6 1), (i6 0), (.string ⟨#[76, 82]⟩)]) (pl := [(0, 1), (1, 1), (2, 1), (3, 1)]) rfl Tryz.underlying61 T61 (PlacesL.places (.cons T3 (.cons T3 (.cons T3 (.cons T9 PlacesL.nil))))) rfl rfl) fun _ => R.lookT (v := (.bool ((v45_0 == 0) && ((v45_1 == 1) && ((v45_2 == 0) && ((ByteArray.toList v45_3 == ByteArray.toList ⟨#[76, 82]⟩) && true)))))) rfl rfl rfl rfl e9 rfl (Lk.eqS rfl EG61 rfl rfl (EqR.struct Tryz.underlying61 SH61 (EqF.cons (a := (i6 v45_0)) (b := (i6 0)) (by decide) Tryz.underlying3 T3 rfl rfl (EqR.int Tryz.underlying3) (EqF.cons (a := (i6 v45_1)) (b := (i6 1)) (by decide) Tryz.underlying3 T3 rfl rfl (EqR.int Tryz.underlying3) (EqF.cons (a := (i6 v45_2)) (b := (i6 0)) (by decide) Tryz.underlying3 T3 rfl rfl (EqR.int Tryz.underlying3) (EqF.cons (a := (.string v45_3)) (b := (.string ⟨#[76, 82]⟩)) (by decide) Tryz.underlying9 T9 rfl rfl (EqR.str Tryz.underlying9) EqF.nil)))))) fun _ => R.look (v := (.bool ((v45_0 == 0) && ((v45_1 == 1) && ((v45_2 == 0) && ((ByteArray.toList v45_3 == ByteArray.toList ⟨#[76, 82]⟩) && true)))))) rfl rfl rfl (Lk.pick rfl rfl (fun _ => rfl) (fun e => by rw [e9] at e; cases e)) fun _ => R.look (v := (.bool ((v45_0 == 0) && ((v45_1 == 1) && ((v45_2 == 0) && ((ByteArray.toList v45_3 == ByteArray.toList ⟨#[76, 82]⟩) && true)))))) rfl rfl rfl (Lk.move rfl rfl) fun _ => ?_
              by_cases e14 : ((v45_0 == 0) && ((v45_1 == 1) && ((v45_2 == 0) && ((ByteArray.toList v45_3 == ByteArray.toList ⟨#[76, 82]⟩) && true)))) = true
              · rw [if_pos e14] at hS; refine R.lookT rfl rfl rfl rfl e14 rfl (Lk.move rfl rfl) fun _ => R.lookT rfl rfl rfl rfl e14 rfl (Lk.arith rfl rfl rfl rfl) fun _ => Xk rfl rfl (Lk.pick rfl rfl (fun _ => rfl) (fun e => by rw [e14] at e; cases e)) fun _ => Xm rfl rfl rfl rfl fun _ => ?_
                by_cases e15 : (v13_1 == 2) = true
                · rw [if_pos e15] at hS; refine R.lookT rfl rfl rfl rfl e15 rfl (Lk.move rfl rfl) fun _ => R.lookT rfl rfl rfl rfl e15 rfl (Lk.arith rfl rfl rfl rfl) fun _ => Xk rfl rfl (Lk.pick rfl rfl (fun _ => rfl) (fun e => by rw [e15] at e; cases e)) fun _ => Xa rfl rfl rfl rfl fun _ => R.nil ?_; exact hIh_3 (v13_2 == 3) _ _ _ (lq rfl (lz _)) (ok.sub (.cons _ (.cons _ sl0))) (H.add_sub ok (.cons _ (.cons _ sl0))) hS
                · rw [if_neg e15] at hS; replace e15 := eq_false_of_ne_true e15; refine R.lookF rfl rfl rfl rfl e15 rfl fun _ => R.lookF rfl rfl rfl rfl e15 rfl fun _ => Xk rfl rfl (Lk.pick rfl rfl (fun e => by rw [e15] at e; cases e) (fun _ => rfl)) fun _ => Xa rfl rfl rfl rfl fun _ => R.nil ?_; exact hIh_3 false _ _ _ (lq rfl (lz _)) (ok.sub (.cons _ (.cons _ sl0))) (H.add_sub ok (.cons _ (.cons _ sl0))) hS
              · rw [if_neg e14] at hS; replace e14 := eq_false_of_ne_true e14; refine R.lookF rfl rfl rfl rfl e14 rfl fun _ => R.lookF rfl rfl rfl rfl e14 rfl fun _ => Xk rfl rfl (Lk.pick rfl rfl (fun e => by rw [e14] at e; cases e) (fun _ => rfl)) fun _ => Xm rfl rfl rfl rfl fun _ => R.lookF rfl rfl rfl rfl rfl rfl fun _ => R.lookF rfl rfl rfl rfl rfl rfl fun _ => Xk rfl rfl (Lk.pick rfl rfl (fun e => by cases e) (fun _ => rfl)) fun _ => Xa rfl rfl rfl rfl fun _ => R.nil ?_; exact hIh_3 false _ _ _ (lq rfl (lz _)) (ok.sub (.cons _ (.cons _ sl0))) (H.add_sub ok (.cons _ (.cons _ sl0))) hS
            · rw [if_neg e9] at hS; replace e9 := eq_false_of_ne_true e9; refine R.lookF rfl rfl rfl rfl e9 rfl fun _ => R.lookF rfl rfl rfl rfl e9 rfl fun _ => R.lookF rfl rfl rfl rfl e9 rfl fun _ => R.lookF rfl rfl rfl rfl e9 rfl fun _ => R.lookF rfl rfl rfl rfl e9 rfl fun _ => R.lookF rfl rfl rfl rfl e9 rfl fun _ => Xk rfl rfl (Lk.pick rfl rfl (fun e => by rw [e9] at e; cases e) (fun _ => rfl)) fun _ => Xm rfl rfl rfl rfl fun _ => R.lookF rfl rfl rfl rfl rfl rfl fun _ => R.lookF rfl rfl rfl rfl rfl rfl fun _ => Xk rfl rfl (Lk.pick rfl rfl (fun e => by cases e) (fun _ => rfl)) fun _ => Xm rfl rfl rfl rfl fun _ => R.lookF rfl rfl rfl rfl rfl rfl fun _ => ?_; refine R.lookF rfl rfl rfl rfl rfl rfl fun _ => Xk rfl rfl (Lk.pick rfl rfl (fun e => by cases e) (fun _ => rfl)) fun _ => Xa rfl rfl rfl rfl fun _ => R.nil ?_; exact hIh_3 false _ _ _ (lq rfl (lz _)) (ok.sub (.cons _ (.cons _ sl0))) (H.add_sub ok (.cons _ (.cons _ sl0))) hS
          · rw [if_neg e8] at hS; replace e8 := eq_false_of_ne_true e8; refine R.lookF rfl rfl rfl rfl e8 rfl fun _ => R.lookF rfl rfl rfl rfl e8 rfl fun _ => R.lookF rfl rfl rfl rfl e8 rfl fun _ => R.lookF rfl rfl rfl rfl e8 rfl fun _ => Xk rfl rfl (Lk.pick rfl rfl (fun e => by rw [e8] at e; cases e) (fun _ => rfl)) fun _ => Xm rfl rfl rfl rfl fun _ => R.lookF rfl rfl rfl rfl rfl rfl fun _ => R.lookF rfl rfl rfl rfl rfl rfl fun _ => R.lookF rfl rfl rfl rfl rfl rfl fun _ => R.lookF rfl rfl rfl rfl rfl rfl fun _ => R.lookF rfl rfl rfl rfl rfl rfl fun _ => R.lookF rfl rfl rfl rfl rfl rfl fun _ => Xk rfl rfl (Lk.pick rfl rfl (fun e => by cases e) (fun _ => rfl)) fun _ => ?_; refine Xm rfl rfl rfl rfl fun _ => ?_; refine R.lookF rfl rfl rfl rfl rfl rfl fun _ => R.lookF rfl rfl rfl rfl rfl rfl fun _ => Xk rfl rfl (Lk.pick rfl rfl (fun e => by cases e) (fun _ => rfl)) fun _ => Xm rfl rfl rfl rfl fun _ => R.lookF rfl rfl rfl rfl rfl rfl fun _ => R.lookF rfl rfl rfl rfl rfl rfl fun _ => Xk rfl rfl (Lk.pick rfl rfl (fun e => by cases e) (fun _ => rfl)) fun _ => Xa rfl rfl rfl rfl fun _ => R.nil ?_; exact hIh_3 false _ _ _ (lq rfl (lz _)) (ok.sub (.cons _ (.cons _ sl0))) (H.add_sub ok (.cons _ (.cons _ sl0))) hS
        · rw [if_neg e3] at hS; replace e3 := eq_false_of_ne_true e3; refine R.lookF rfl rfl rfl rfl e3 rfl fun _ => R.lookF rfl rfl rfl rfl e3 rfl fun _ => R.lookF rfl rfl rfl rfl e3 rfl fun _ => R.lookF rfl rfl rfl rfl e3 rfl fun _ => Xk rfl rfl (Lk.pick rfl rfl (fun e => by rw [e3] at e; cases e) (fun _ => rfl)) fun _ => Xm rfl rfl rfl rfl fun _ => R.lookF rfl rfl rfl rfl rfl rfl fun _ => R.lookF rfl rfl rfl rfl rfl rfl fun _ => R.lookF rfl rfl rfl rfl rfl rfl fun _ => R.lookF rfl rfl rfl rfl rfl rfl fun _ => Xk rfl rfl (Lk.pick rfl rfl (fun e => by cases e) (fun _ => rfl)) fun _ => Xm rfl rfl rfl rfl fun _ => R.lookF rfl rfl rfl rfl rfl rfl fun _ => ?_; refine R.lookF rfl rfl rfl rfl rfl rfl fun _ => R.lookF rfl rfl rfl rfl rfl rfl fun _ => R.lookF rfl rfl rfl rfl rfl rfl fun _ => R.lookF rfl rfl rfl rfl rfl rfl fun _ => R.lookF rfl rfl rfl rfl rfl rfl fun _ => Xk rfl rfl (Lk.pick rfl rfl (fun e => by cases e) (fun _ => rfl)) fun _ => Xm rfl rfl rfl rfl fun _ => R.lookF rfl rfl rfl rfl rfl rfl fun _ => R.lookF rfl rfl rfl rfl rfl rfl fun _ => Xk rfl rfl (Lk.pick rfl rfl (fun e => by cases e) (fun _ => rfl)) fun _ => Xm rfl rfl rfl rfl fun _ => R.lookF rfl rfl rfl rfl rfl rfl fun _ => R.lookF rfl rfl rfl rfl rfl rfl fun _ => ?_; refine Xk rfl rfl (Lk.pick rfl rfl (fun e => by cases e) (fun _ => rfl)) fun _ => ?_; refine Xa rfl rfl rfl rfl fun _ => ?_; refine R.nil ?_; exact hIh_3 false _ _ _ (lq rfl (lz _)) (ok.sub (.cons _ (.cons _ sl0))) (H.add_sub ok (.cons _ (.cons _ sl0))) hS
      · rw [if_neg e2] at hS; replace e2 := eq_false_of_ne_true e2; refine R.lookF rfl rfl rfl rfl e2 rfl fun _ => R.lookF rfl rfl rfl rfl e2 rfl fun _ => R.lookF rfl rfl rfl rfl e2 rfl fun _ => R.lookF rfl rfl rfl rfl e2 rfl fun _ => Xk rfl rfl (Lk.pick rfl rfl (fun e => by rw [e2] at e; cases e) (fun _ => rfl)) fun _ => Xm rfl rfl rfl rfl fun _ => R.lookF rfl rfl rfl rfl rfl rfl fun _ => R.lookF rfl rfl rfl rfl rfl rfl fun _ => R.lookF rfl rfl rfl rfl rfl rfl fun _ => R.lookF rfl rfl rfl rfl rfl rfl fun _ => Xk rfl rfl (Lk.pick rfl rfl (fun e => by cases e) (fun _ => rfl)) fun _ => Xm rfl rfl rfl rfl fun _ => R.lookF rfl rfl rfl rfl rfl rfl fun _ => ?_; refine R.lookF rfl rfl rfl rfl rfl rfl fun _ => R.lookF rfl rfl rfl rfl rfl rfl fun _ => R.lookF rfl rfl rfl rfl rfl rfl fun _ => Xk rfl rfl (Lk.pick rfl rfl (fun e => by cases e) (fun _ => rfl)) fun _ => Xm rfl rfl rfl rfl fun _ => R.lookF rfl rfl rfl rfl rfl rfl fun _ => R.lookF rfl rfl rfl rfl rfl rfl fun _ => R.lookF rfl rfl rfl rfl rfl rfl fun _ => R.lookF rfl rfl rfl rfl rfl rfl fun _ => R.lookF rfl rfl rfl rfl rfl rfl fun _ => R.lookF rfl rfl rfl rfl rfl rfl fun _ => Xk rfl rfl (Lk.pick rfl rfl (fun e => by cases e) (fun _ => rfl)) fun _ => Xm rfl rfl rfl rfl fun _ => ?_; refine R.lookF rfl rfl rfl rfl rfl rfl fun _ => R.lookF rfl rfl rfl rfl rfl rfl fun _ => Xk rfl rfl (Lk.pick rfl rfl (fun e => by cases e) (fun _ => rfl)) fun _ => Xm rfl rfl rfl rfl fun _ => R.lookF rfl rfl rfl rfl rfl rfl fun _ => R.lookF rfl rfl rfl rfl rfl rfl fun _ => Xk rfl rfl (Lk.pick rfl rfl (fun e => by cases e) (fun _ => rfl)) fun _ => Xa rfl rfl rfl rfl fun _ => R.nil ?_; exact hIh_3 false _ _ _ (lq rfl (lz _)) (ok.sub (.cons _ (.cons _ sl0))) (H.add_sub ok (.cons _ (.cons _ sl0))) hS
    · rw [if_neg e1] at hS; replace e1 := eq_false_of_ne_true e1; refine R.lookF rfl rfl rfl rfl e1 rfl fun _ => R.lookF rfl rfl rfl rfl e1 rfl fun _ => Xk rfl rfl (Lk.pick rfl rfl (fun e => by rw [e1] at e; cases e) (fun _ => rfl)) fun _ => Xm rfl rfl rfl rfl fun _ => R.lookF rfl rfl rfl rfl rfl rfl fun _ => R.lookF rfl rfl rfl rfl rfl rfl fun _ => R.lookF rfl rfl rfl rfl rfl rfl fun _ => R.lookF rfl rfl rfl rfl rfl rfl fun _ => Xk rfl rfl (Lk.pick rfl rfl (fun e => by cases e) (fun _ => rfl)) fun _ => Xm rfl rfl rfl rfl fun _ => R.lookF rfl rfl rfl rfl rfl rfl fun _ => R.lookF rfl rfl rfl rfl rfl rfl fun _ => R.lookF rfl rfl rfl rfl rfl rfl fun _ => ?_; refine R.lookF rfl rfl rfl rfl rfl rfl fun _ => Xk rfl rfl (Lk.pick rfl rfl (fun e => by cases e) (fun _ => rfl)) fun _ => Xm rfl rfl rfl rfl fun _ => R.lookF rfl rfl rfl rfl rfl rfl fun _ => R.lookF rfl rfl rfl rfl rfl rfl fun _ => R.lookF rfl rfl rfl rfl rfl rfl fun _ => R.lookF rfl rfl rfl rfl rfl rfl fun _ => Xk rfl rfl (Lk.pick rfl rfl (fun e => by cases e) (fun _ => rfl)) fun _ => Xm rfl rfl rfl rfl fun _ => R.lookF rfl rfl rfl rfl rfl rfl fun _ => R.lookF rfl rfl rfl rfl rfl rfl fun _ => R.lookF rfl rfl rfl rfl rfl rfl fun _ => R.lookF rfl rfl rfl rfl rfl rfl fun _ => ?_; refine R.lookF rfl rfl rfl rfl rfl rfl fun _ => R.lookF rfl rfl rfl rfl rfl rfl fun _ => Xk rfl rfl (Lk.pick rfl rfl (fun e => by cases e) (fun _ => rfl)) fun _ => Xm rfl rfl rfl rfl fun _ => R.lookF rfl rfl rfl rfl rfl rfl fun _ => R.lookF rfl rfl rfl rfl rfl rfl fun _ => Xk rfl rfl (Lk.pick rfl rfl (fun e => by cases e) (fun _ => rfl)) fun _ => Xm rfl rfl rfl rfl fun _ => R.lookF rfl rfl rfl rfl rfl rfl fun _ => R.lookF rfl rfl rfl rfl rfl rfl fun _ => Xk rfl rfl (Lk.pick rfl rfl (fun e => by cases e) (fun _ => rfl)) fun _ => Xa rfl rfl rfl rfl fun _ => R.nil ?_; exact hIh_3 false _ _ _ (lq rfl (lz _)) (ok.sub (.cons _ (.cons _ sl0))) (H.add_sub ok (.cons _ (.cons _ sl0))) hS

theorem f43_ok {p0 : Sl} {p1 : Sl} {h : H} {K : Bool → H → Prop} (hS : S43 p0 p1 h K) : ACall Tryz.prog 43 ([(.slice p0.a p0.l p0.c), (.slice p1.a p1.l p1.c)] : List Value).toArray h (fun r h' => ∃ r0 : Bool, r = tup [(.bool r0)] ∧ K r0 h') := by
  refine ACall.enter (fn := Tryz.f43) Tryz.func43 rfl (Nat.le_of_ble_eq_true rfl) ?_; unfold S43 at hS; have ok := Lok.nil h; refine EvC.seq (Xr [.look 0] (Xa rfl rfl rfl rfl fun _ => ?_)); refine R.nil (EvC.seq (EvC.seq (Xr [.look 0, .look 1, .look 2, .look 3, .look 4] (Xm rfl rfl rfl rfl fun _ => Xk rfl rfl (Lk.len rfl Tryz.underlying30 rfl) fun _ => Xm rfl rfl rfl rfl fun _ => Xk rfl rfl (Lk.len rfl Tryz.underlying30 rfl) fun _ => Xk rfl rfl (Lk.arith rfl rfl rfl rfl) fun _ => R.nil ?_))))
  by_cases e1 : ((p0.l : Int) != (p1.l : Int)) = true
  · rw [if_pos e1] at hS; refine EvC.condT rfl e1 (EvC.seq (Xr [.look 0] (Xa rfl rfl rfl rfl fun _ => ?_))); refine R.nil (EvC.ret ?_); exact ⟨.inr rfl, _, _, (.cons (.tmp rfl) .nil), ok.le, _, rfl, hS⟩
  · rw [if_neg e1] at hS; replace e1 := eq_false_of_ne_true e1; refine EvC.condF rfl e1 (EvC.skip (EvC.join (σ := Unit) (fun s => E0) (fun s => []) (fun s h_1 => S43_j1 K h_1) ?_ (fun Ih_1 hIh_1 => ?_)))
    · rintro ⟨⟩ h_1 ok hS; replace hS : S43_j1 K h_1 := hS; unfold S43_j1 at hS; refine EvC.seq (Xr [.look 0] (Xa rfl rfl rfl rfl fun _ => ?_)); refine R.nil (EvC.ret ?_); exact ⟨.inr rfl, _, _, (.cons (.tmp rfl) .nil), ok.le, _, rfl, hS⟩
    · refine EvC.seq (Xr [.look 0, .look 1, .look 2] (Xm rfl rfl rfl rfl fun _ => ?_)); refine Xk rfl rfl (Lk.len rfl Tryz.underlying30 rfl) fun _ => ?_; refine Xm rfl rfl rfl rfl fun _ => ?_; refine R.nil (EvC.block (EvC.loop (LoopC.lfp (σ := Int) (fun s => (Ep (Ep (Ep (Ep E0 13 (i6 s)) 12 (i6 (p0.l : Int))) 1 (.slice p1.a p1.l p1.c)) 0 (.slice p0.a p0.l p0.c))) (fun s => []) (fun X hX => ?_) hS (ok.sub sl0) (lq rfl (lq rfl (lq rfl (lq rfl (lz _))))) (H.add_sub ok sl0)))); intro v13 h_2 hS ok; replace hS : S43_l2 p0 p1 K X v13 h_2 := hS; unfold S43_l2 at hS; refine EvC.seq (Xr [.look 0] (Xk rfl rfl (Lk.arith rfl rfl rfl rfl) fun _ => ?_)); refine R.nil (EvC.seq ?_)
      by_cases e2 : (decide (v13 < (p0.l : Int))) = true
      · rw [if_pos e2] at hS; refine EvC.condT rfl e2 (EvC.skip (EvC.seq (EvC.block (EvC.seq (Xr [.look 0, .look 1] (Xm rfl rfl rfl rfl fun _ => ?_)))))); refine Xa rfl rfl rfl rfl fun _ => ?_; refine R.nil (EvC.seq (EvC.draw [0, 0, 3, 7, 0, 0, 48, 112, 255] [Item.look 0, Item.look 1, Item.look 2, Item.look 3, Item.look 4, Item.look 5, Item.look 6, Item.look 7, Item.look 8] MO (by kernel_rfl) ?_)); refine Xm rfl rfl rfl rfl fun _ => ?_; refine Xm rfl rfl rfl rfl fun _ => ?_
        obtain ⟨a18, e3, e4, e5, hS⟩ := hS
        refine Xk rfl rfl (Lk.ixAddr rfl Tryz.underlying30 T4 rfl e3 rfl e4 e5) fun _ => ?_
        obtain ⟨v19, e6, hS⟩ := hS
        refine Xk rfl rfl (Look.loc ok (Lk.load1 rfl Tryz.underlying4 rfl rfl e6)) fun _ => ?_; refine Xm rfl rfl rfl rfl fun _ => ?_; refine Xm rfl rfl rfl rfl fun _ => ?_
        obtain ⟨a22, e7, e8, e9, hS⟩ := hS
        refine Xk rfl rfl (Lk.ixAddr rfl Tryz.underlying30 T4 rfl e7 rfl e8 e9) fun _ => ?_
        obtain ⟨v23, e10, hS⟩ := hS
        refine Xk rfl rfl (Look.loc ok (Lk.load1 rfl Tryz.underlying4 rfl rfl e10)) fun _ => ?_; refine Xk rfl rfl (Lk.boolNe rfl Tryz.underlying4 rfl rfl) fun _ => ?_; refine R.nil ?_
        by_cases e11 : (!(v19 == v23)) = true
        · rw [if_pos e11] at hS; refine EvC.condT rfl e11 (EvC.seq (Xr [.look 0] (Xa rfl rfl rfl rfl fun _ => ?_))); refine R.nil (EvC.ret ?_); exact ⟨.inr rfl, _, _, (.cons (.tmp rfl) .nil), ok.le, _, rfl, hS⟩
        · rw [if_neg e11] at hS; replace e11 := eq_false_of_ne_true e11; refine EvC.condF rfl e11 (EvC.skip (Xr [.look 0, .look 1] (Xk rfl rfl (Lk.arith rfl rfl rfl rfl) fun _ => ?_))); refine Xm rfl rfl rfl rfl fun _ => ?_; refine R.nil ?_; exact hX (IntKind.wrap .i64 (v13 + 1)) _ _ _ hS (ok.sub sl0) (lq rfl (lq rfl (lq rfl (lq rfl (lz _))))) (H.add_sub ok sl0)
      · rw [if_neg e2] at hS; replace e2 := eq_false_of_ne_true e2; refine EvC.condF rfl e2 (EvC.exit ?_); exact hIh_1 () _ _ _ (lz _) (ok.sub sl0) (H.add_sub ok sl0) hS

theorem f44_ok {p0 : Sl} {p1 : Sl} {h : H} {K : Bool → H → Prop} (hS : S44 p0 p1 h K) : ACall Tryz.prog 44 ([(.slice p0.a p0.l p0.c), (.slice p1.a p1.l p1.c)] : List Value).toArray h (fun r h' => ∃ r0 : Bool, r = tup [(.bool r0)] ∧ K r0 h') := by
  refine ACall.enter (fn := Tryz.f44) Tryz.func44 rfl (Nat.le_of_ble_eq_true rfl) ?_; unfold S44 at hS; have ok := Lok.nil h; refine EvC.seq (Xr [.look 0] (Xa rfl rfl rfl rfl fun _ => ?_)); refine R.nil (EvC.seq (EvC.seq (Xr [.look 0, .look 1, .look 2, .look 3, .look 4] (Xm rfl rfl rfl rfl fun _ => Xk rfl rfl (Lk.len rfl Tryz.underlying31 rfl) fun _ => Xm rfl rfl rfl rfl fun _ => Xk rfl rfl (Lk.len rfl Tryz.underlying31 rfl) fun _ => Xk rfl rfl (Lk.arith rfl rfl rfl rfl) fun _ => R.nil ?_))))
  by_cases e1 : ((p0.l : Int) != (p1.l : Int)) = true
  · rw [if_pos e1] at hS; refine EvC.condT rfl e1 (EvC.seq (Xr [.look 0] (Xa rfl rfl rfl rfl fun _ => ?_))); refine R.nil (EvC.ret ?_); exact ⟨.inr rfl, _, _, (.cons (.tmp rfl) .nil), ok.le, _, rfl, hS⟩
  · rw [if_neg e1] at hS; replace e1 := eq_false_of_ne_true e1; refine EvC.condF rfl e1 (EvC.skip (EvC.join (σ := Unit) (fun s => E0) (fun s => []) (fun s h_1 => S44_j1 K h_1) ?_ (fun Ih_1 hIh_1 => ?_)))
    · rintro ⟨⟩ h_1 ok hS; replace hS : S44_j1 K h_1 := hS; unfold S44_j1 at hS; refine EvC.seq (Xr [.look 0] (Xa rfl rfl rfl rfl fun _ => ?_)); refine R.nil (EvC.ret ?_); exact ⟨.inr rfl, _, _, (.cons (.tmp rfl) .nil), ok.le, _, rfl, hS⟩
    · refine EvC.seq (Xr [.look 0, .look 1, .look 2] (Xm rfl rfl rfl rfl fun _ => ?_)); refine Xk rfl rfl (Lk.len rfl Tryz.underlying31 rfl) fun _ => ?_; refine Xm rfl rfl rfl rfl fun _ => ?_; refine R.nil (EvC.block (EvC.loop (LoopC.lfp (σ := Int) (fun s => (Ep (Ep (Ep (Ep E0 13 (i6 s)) 12 (i6 (p0.l : Int))) 1 (.slice p1.a p1.l p1.c)) 0 (.slice p0.a p0.l p0.c))) (fun s => []) (fun X hX => ?_) hS (ok.sub sl0) (lq rfl (lq rfl (lq rfl (lq rfl (lz _))))) (H.add_sub ok sl0)))); intro v13 h_2 hS ok; replace hS : S44_l2 p0 p1 K X v13 h_2 := hS; unfold S44_l2 at hS; refine EvC.seq (Xr [.look 0] (Xk rfl rfl (Lk.arith rfl rfl rfl rfl) fun _ => ?_)); refine R.nil (EvC.seq ?_)
      by_cases e2 : (decide (v13 < (p0.l : Int))) = true
      · rw [if_pos e2] at hS; refine EvC.condT rfl e2 (EvC.skip (EvC.seq (EvC.block (EvC.seq (Xr [.look 0, .look 1] (Xm rfl rfl rfl rfl fun _ => ?_)))))); refine Xa rfl rfl rfl rfl fun _ => ?_; refine R.nil (EvC.seq (EvC.draw [0, 0, 3, 7, 0, 0, 48, 112, 255] [Item.look 0, Item.look 1, Item.look 2, Item.look 3, Item.look 4, Item.look 5, Item.look 6, Item.look 7, Item.look 8] MO (by kernel_rfl) ?_)); refine Xm rfl rfl rfl rfl fun _ => ?_; refine Xm rfl rfl rfl rfl fun _ => ?_
        obtain ⟨a18, e3, e4, e5, hS⟩ := hS
        refine Xk rfl rfl (Lk.ixAddr rfl Tryz.underlying31 T61 rfl e3 rfl e4 e5) fun _ => ?_
        obtain ⟨v19_0, v19_1, v19_2, v19_3, e6, hS⟩ := hS
        refine Xk rfl rfl (Look.loc ok (Lk.loadN rfl Tryz.underlying61 rfl T61 rfl e6)) fun _ => ?_; refine Xm rfl rfl rfl rfl fun _ => ?_; refine Xm rfl rfl rfl rfl fun _ => ?_
        obtain ⟨a22, e7, e8, e9, hS⟩ := hS
        refine Xk rfl rfl (Lk.ixAddr rfl Tryz.underlying31 T61 rfl e7 rfl e8 e9) fun _ => ?_
        obtain ⟨v23_0, v23_1, v23_2, v23_3, e10, hS⟩ := hS
        refine Xk rfl rfl (Look.loc ok (Lk.loadN rfl Tryz.underlying61 rfl T61 rfl e10)) fun _ => ?_; refine R.look (v := (.bool (!((v19_0 == v23_0) && ((v19_1 == v23_1) && ((v19_2 == v23_2) && ((ByteArray.toList v19_3 == ByteArray.toList v23_3) && true))))))) rfl rfl rfl (Lk.neS rfl EG61 rfl rfl (EqR.struct Tryz.underlying61 SH61 (EqF.cons (a := (i6 v19_0)) (b := (i6 v23_0)) (by decide) Tryz.underlying3 T3 rfl rfl (EqR.int Tryz.underlying3) (EqF.cons (a := (i6 v19_1)) (b := (i6 v23_1)) (by decide) Tryz.underlying3 T3 rfl rfl (EqR.int Tryz.underlying3) (EqF.cons (a := (i6 v19_2)) (b := (i6 v23_2)) (by decide) Tryz.underlying3 T3 rfl rfl (EqR.int Tryz.underlying3) (EqF.cons (a := (.string v19_3)) (b := (.string v23_3)) (by decide) Tryz.underlying9 T9 rfl rfl (EqR.str Tryz.underlying9) EqF.nil)))))) fun _ => R.nil ?_
        by_cases e11 : (!((v19_0 == v23_0) && ((v19_1 == v23_1) && ((v19_2 == v23_2) && ((ByteArray.toList v19_3 == ByteArray.toList v23_3) && true))))) = true
        · rw [if_pos e11] at hS; refine EvC.condT rfl e11 (EvC.seq (Xr [.look 0] (Xa rfl rfl rfl rfl fun _ => ?_))); refine R.nil (EvC.ret ?_); exact ⟨.inr rfl, _, _, (.cons (.tmp rfl) .nil), ok.le, _, rfl, hS⟩
        · rw [if_neg e11] at hS; replace e11 := eq_false_of_ne_true e11; refine EvC.condF rfl e11 (EvC.skip (Xr [.look 0, .look 1] (Xk rfl rfl (Lk.arith rfl rfl rfl rfl) fun _ => ?_))); refine Xm rfl rfl rfl rfl fun _ => ?_; refine R.nil ?_; exact hX (IntKind.wrap .i64 (v13 + 1)) _ _ _ hS (ok.sub sl0) (lq rfl (lq rfl (lq rfl (lq rfl (lz _))))) (H.add_sub ok sl0)
      · rw [if_neg e2] at hS; replace e2 := eq_false_of_ne_true e2; refine EvC.condF rfl e2 (EvC.exit ?_); exact hIh_1 () _ _ _ (lz _) (ok.sub sl0) (H.add_sub ok sl0) hS

theorem f16_ok {p0_0 : Sl} {p0_1 : Sl} {p1_0 : Sl} {p1_1 : Sl} {h : H} {K : Bool → H → Prop} (hS : S16 p0_0 p0_1 p1_0 p1_1 h K) : ACall Tryz.prog 16 ([(.agg ([(.slice p0_0.a p0_0.l p0_0.c), (.slice p0_1.a p0_1.l p0_1.c)] : List Value).toArray), (.agg ([(.slice p1_0.a p1_0.l p1_0.c), (.slice p1_1.a p1_1.l p1_1.c)] : List Value).toArray)] : List Value).toArray h (fun r h' => ∃ r0 : Bool, r = tup [(.bool r0)] ∧ K r0 h') := by
  refine ACall.enter (fn := Tryz.f16) Tryz.func16 rfl (Nat.le_of_ble_eq_true rfl) ?_; unfold S16 at hS; have ok := Lok.nil h; refine EvC.seq (Xr [.alc 0, .alc 1, .look 2] (R.var (blk := .row ⟨[(.slice p0_0.a p0_0.l p0_0.c), (.slice p0_1.a p0_1.l p0_1.c)], 2, 33, true, true⟩) ok rfl rfl rfl (Ac.box rfl rfl) rfl rfl fun b2 ok => ?_)); refine R.var (blk := .row ⟨[(.slice p1_0.a p1_0.l p1_0.c), (.slice p1_1.a p1_1.l p1_1.c)], 2, 33, true, true⟩) ok rfl rfl rfl (Ac.box rfl rfl) rfl rfl fun b3 ok => ?_; refine Xa rfl rfl rfl rfl fun _ => ?_; refine R.nil (EvC.join (σ := Bool) (fun s => (Ep E0 4 (.bool s))) (fun s => []) (fun s h_1 => S16_j1 K s h_1) ?_ (fun Ih_1 hIh_1 => ?_))
  · intro v4 h_1 ok hS; replace hS : S16_j1 K v4 h_1 := hS; unfold S16_j1 at hS; refine EvC.ret ?_; exact ⟨.inr rfl, _, _, (.cons (.tmp rfl) .nil), ok.le, _, rfl, hS⟩
  · refine Xr [.look 0, .look 1, .look 2, .look 3, .eff 4 [], .look 5, .look 6, .look 7, .look 8, .look 9, .eff 10 [], .look 11, .look 12] (Xk (v := (.pointer (some ⟨b2, 0, none⟩))) rfl rfl (Lk.fldAddr rfl Tryz.underlying33 rfl rfl T30 rfl rfl rfl) fun _ => ?_); refine Xk rfl rfl (Lk.load1 (v := (.slice p0_0.a p0_0.l p0_0.c)) rfl Tryz.underlying30 rfl rfl (H.rd_loc ok (i := 1) rfl rfl)) fun _ => ?_; refine Xk (v := (.pointer (some ⟨b3, 0, none⟩))) rfl rfl (Lk.fldAddr rfl Tryz.underlying33 rfl rfl T30 rfl rfl rfl) fun _ => ?_; refine Xk rfl rfl (Lk.load1 (v := (.slice p1_0.a p1_0.l p1_0.c)) rfl Tryz.underlying30 rfl rfl (H.rd_loc ok (i := 0) rfl rfl)) fun _ => ?_; refine R.eff rfl rfl rfl (Eff.loc ok (Ef.call rfl CB43 rfl ((f43_ok hS).mono ?_))); rintro _ h_2 ⟨v9, rfl, hS⟩; refine fun ok => ⟨noChk, ?_⟩; refine Xm rfl rfl rfl rfl fun _ => ?_
    by_cases e1 : v9 = true
    · rw [if_pos e1] at hS; refine R.lookT (v := (.pointer (some ⟨b2, 1, none⟩))) rfl rfl rfl rfl e1 rfl (Lk.fldAddr rfl Tryz.underlying33 rfl rfl T31 rfl rfl rfl) fun _ => R.lookT rfl rfl rfl rfl e1 rfl (Lk.load1 (v := (.slice p0_1.a p0_1.l p0_1.c)) rfl Tryz.underlying31 rfl rfl (H.rd_loc ok (i := 1) rfl rfl)) fun _ => R.lookT (v := (.pointer (some ⟨b3, 1, none⟩))) rfl rfl rfl rfl e1 rfl (Lk.fldAddr rfl Tryz.underlying33 rfl rfl T31 rfl rfl rfl) fun _ => R.lookT rfl rfl rfl rfl e1 rfl (Lk.load1 (v := (.slice p1_1.a p1_1.l p1_1.c)) rfl Tryz.underlying31 rfl rfl (H.rd_loc ok (i := 0) rfl rfl)) fun _ => R.effT rfl rfl rfl rfl e1 rfl (Eff.loc ok (Ef.call rfl CB44 rfl ((f44_ok hS).mono ?_))); rintro _ h_3 ⟨v15, rfl, hS⟩; refine fun ok => ⟨noChk, ?_⟩; refine Xk rfl rfl (Lk.pick rfl rfl (fun _ => rfl) (fun e => by rw [e1] at e; cases e)) fun _ => ?_; refine Xa rfl rfl rfl rfl fun _ => ?_; refine R.nil ?_; exact hIh_1 v15 _ _ _ (lq rfl (lz _)) (ok.sub (.cons _ (.cons _ sl0))) (H.add_sub ok (.cons _ (.cons _ sl0))) hS
    · rw [if_neg e1] at hS; replace e1 := eq_false_of_ne_true e1; refine R.lookF rfl rfl rfl rfl e1 rfl fun _ => R.lookF rfl rfl rfl rfl e1 rfl fun _ => R.lookF rfl rfl rfl rfl e1 rfl fun _ => R.lookF rfl rfl rfl rfl e1 rfl fun _ => R.effF rfl rfl rfl rfl e1 rfl ?_; refine Xk rfl rfl (Lk.pick rfl rfl (fun e => by rw [e1] at e; cases e) (fun _ => rfl)) fun _ => ?_; refine Xa rfl rfl rfl rfl fun _ => ?_; refine R.nil ?_; exact hIh_1 false _ _ _ (lq rfl (lz _)) (ok.sub (.cons _ (.cons _ sl0))) (H.add_sub ok (.cons _ (.cons _ sl0))) hS

theorem f19_ok {p0_0 : Sl} {p0_1 : Sl} {p0_2 : Sl} {p1 : Int} {h : H} {K : Sl → Sl → H → Prop} (hS : S19 p0_0 p0_1 p0_2 p1 h K) : ACall Tryz.prog 19 ([(.agg ([(.slice p0_0.a p0_0.l p0_0.c), (.slice p0_1.a p0_1.l p0_1.c), (.slice p0_2.a p0_2.l p0_2.c)] : List Value).toArray), (i6 p1)] : List Value).toArray h (fun r h' => ∃ r0_0 : Sl, ∃ r0_1 : Sl, r = tup [(.agg ([(.slice r0_0.a r0_0.l r0_0.c), (.slice r0_1.a r0_1.l r0_1.c)] : List Value).toArray)] ∧ K r0_0 r0_1 h') := by
  refine ACall.enter (fn := Tryz.f19) Tryz.func19 rfl (Nat.le_of_ble_eq_true rfl) ?_; unfold S19 at hS; have ok := Lok.nil h; refine EvC.seq (Xr [.alc 0, .alc 1] (R.var (blk := .row ⟨[(.slice p0_0.a p0_0.l p0_0.c), (.slice p0_1.a p0_1.l p0_1.c), (.slice p0_2.a p0_2.l p0_2.c)], 3, 52, true, true⟩) ok rfl rfl rfl (Ac.box rfl rfl) rfl rfl fun b2 ok => ?_)); refine R.var (blk := .row ⟨[(.slice none 0 0), (.slice none 0 0)], 2, 33, true, true⟩) ok rfl rfl rfl (Ac.alloc rfl T33) rfl rfl fun b4 ok => ?_; refine R.nil (EvC.seq (Xr [.look 0, .alc 1, .eff 2 []] (Xk rfl rfl (Lk.build (cs := [(.slice none 0 0), (.slice none 0 0)]) (pl := [(0, 1), (1, 1)]) rfl Tryz.underlying33 T33 (PlacesL.places (.cons T30 (.cons T31 PlacesL.nil))) rfl rfl) fun _ => R.var (blk := .row ⟨[(.slice none 0 0), (.slice none 0 0)], 2, 33, true, true⟩) ok rfl rfl rfl (Ac.alloc rfl T33) rfl rfl fun b5 ok => ?_))); refine R.effN rfl rfl rfl (Ef.storeLoc (i := 0) (vs := [(.slice none 0 0), (.slice none 0 0)]) (cs := [(.slice none 0 0), (.slice none 0 0)]) (l' := [(b5, .row ⟨[(.slice none 0 0), (.slice none 0 0)], 2, 33, true, true⟩), (b4, .row ⟨[(.slice none 0 0), (.slice none 0 0)], 2, 33, true, true⟩), (b2, .row ⟨[(.slice p0_0.a p0_0.l p0_0.c), (.slice p0_1.a p0_1.l p0_1.c), (.slice p0_2.a p0_2.l p0_2.c)], 3, 52, true, true⟩)]) ok rfl T33 rfl rfl rfl rfl rfl rfl rfl rfl rfl rfl fun ok => ⟨noChk, ?_⟩); refine R.nil (EvC.join (σ := Sl × Sl) (fun s => (Ep (Ep (Ep (Ep E0 5 (.pointer (some ⟨b5, 0, none⟩))) 4 (.pointer (some ⟨b4, 0, none⟩))) 2 (.pointer (some ⟨b2, 0, none⟩))) 1 (i6 p1))) (fun s => [(b5, .row ⟨[(.slice s.1.a s.1.l s.1.c), (.slice s.2.a s.2.l s.2.c)], 2, 33, true, true⟩), (b4, .row ⟨[(.slice none 0 0), (.slice none 0 0)], 2, 33, true, true⟩), (b2, .row ⟨[(.slice p0_0.a p0_0.l p0_0.c), (.slice p0_1.a p0_1.l p0_1.c), (.slice p0_2.a p0_2.l p0_2.c)], 3, 52, true, true⟩)]) (fun s h_1 => S19_j7 p0_1 p0_2 p1 K s.1 s.2 h_1) ?_ (fun Ih_1 hIh_1 => ?_))
  · rintro ⟨c5_0, c5_1⟩ h_1 ok hS; replace hS : S19_j7 p0_1 p0_2 p1 K c5_0 c5_1 h_1 := hS; unfold S19_j7 at hS; refine EvC.join (σ := Sl × Sl) (fun s => (Ep (Ep E0 5 (.pointer (some ⟨b5, 0, none⟩))) 4 (.pointer (some ⟨b4, 0, none⟩)))) (fun s => [(b5, .row ⟨[(.slice s.1.a s.1.l s.1.c), (.slice s.2.a s.2.l s.2.c)], 2, 33, true, true⟩), (b4, .row ⟨[(.slice none 0 0), (.slice none 0 0)], 2, 33, true, true⟩)]) (fun s h_2 => S19_j1 K s.1 s.2 h_2) ?_ (fun Ih_2 hIh_2 => ?_)
    · rintro ⟨c5_0_1, c5_1_1⟩ h_2 ok hS; replace hS : S19_j1 K c5_0_1 c5_1_1 h_2 := hS; unfold S19_j1 at hS; refine EvC.seq (Xr [.look 0, .eff 1 []] (Xk rfl rfl (Lk.loadN (vs := [(.slice c5_0_1.a c5_0_1.l c5_0_1.c), (.slice c5_1_1.a c5_1_1.l c5_1_1.c)]) rfl Tryz.underlying33 rfl T33 rfl (H.rdn_loc ok (i := 0) rfl rfl rfl)) fun _ => ?_)); refine R.effN rfl rfl rfl (Ef.storeLoc (i := 1) (vs := [(.slice c5_0_1.a c5_0_1.l c5_0_1.c), (.slice c5_1_1.a c5_1_1.l c5_1_1.c)]) (cs := [(.slice c5_0_1.a c5_0_1.l c5_0_1.c), (.slice c5_1_1.a c5_1_1.l c5_1_1.c)]) (l' := [(b5, .row ⟨[(.slice c5_0_1.a c5_0_1.l c5_0_1.c), (.slice c5_1_1.a c5_1_1.l c5_1_1.c)], 2, 33, true, true⟩), (b4, .row ⟨[(.slice c5_0_1.a c5_0_1.l c5_0_1.c), (.slice c5_1_1.a c5_1_1.l c5_1_1.c)], 2, 33, true, true⟩)]) ok rfl T33 rfl rfl rfl rfl rfl rfl rfl rfl rfl rfl fun ok => ⟨noChk, ?_⟩); refine R.nil (EvC.ret ?_); exact ⟨.inr rfl, _, _, (.cons (.cells rfl (fun w => Und.agg Tryz.underlying33 w) (fun w => T33.size_ w) (H.rdn_loc ok (i := 1) rfl rfl rfl)) .nil), ok.le, _, _, rfl, hS⟩
    · refine EvC.seq (Xr [.look 0] (Xa rfl rfl rfl rfl fun _ => ?_)); refine R.nil (EvC.block (EvC.loop (LoopC.lfp (σ := Int × Sl × Sl) (fun s => (Ep (Ep (Ep (Ep (Ep E0 7 (i6 s.1)) 5 (.pointer (some ⟨b5, 0, none⟩))) 4 (.pointer (some ⟨b4, 0, none⟩))) 2 (.pointer (some ⟨b2, 0, none⟩))) 1 (i6 p1))) (fun s => [(b5, .row ⟨[(.slice s.2.1.a s.2.1.l s.2.1.c), (.slice s.2.2.a s.2.2.l s.2.2.c)], 2, 33, true, true⟩), (b4, .row ⟨[(.slice none 0 0), (.slice none 0 0)], 2, 33, true, true⟩), (b2, .row ⟨[(.slice p0_0.a p0_0.l p0_0.c), (.slice p0_1.a p0_1.l p0_1.c), (.slice p0_2.a p0_2.l p0_2.c)], 3, 52, true, true⟩)]) (fun X hX => ?_) hS (ok.sub (.cons_cons _ (.cons_cons _ (.cons_cons _ sl0)))) (lq rfl (lq rfl (lq rfl (lq rfl (lq rfl (lz _)))))) (H.add_sub ok (.cons_cons _ (.cons_cons _ (.cons_cons _ sl0))))))); rintro ⟨v7, c5_0_2, c5_1_2⟩ h_3 hS ok; replace hS : S19_l6 p0_1 p0_2 p1 K X v7 c5_0_2 c5_1_2 h_3 := hS; unfold S19_l6 at hS; refine EvC.seq (EvC.join (σ := Bool) (fun s => (Ep (Ep (Ep (Ep (Ep (Ep E0 49 (.bool s)) 7 (i6 v7)) 5 (.pointer (some ⟨b5, 0, none⟩))) 4 (.pointer (some ⟨b4, 0, none⟩))) 2 (.pointer (some ⟨b2, 0, none⟩))) 1 (i6 p1))) (fun s => [(b5, .row ⟨[(.slice c5_0_2.a c5_0_2.l c5_0_2.c), (.slice c5_1_2.a c5_1_2.l c5_1_2.c)], 2, 33, true, true⟩), (b4, .row ⟨[(.slice none 0 0), (.slice none 0 0)], 2, 33, true, true⟩), (b2, .row ⟨[(.slice p0_0.a p0_0.l p0_0.c), (.slice p0_1.a p0_1.l p0_1.c), (.slice p0_2.a p0_2.l p0_2.c)], 3, 52, true, true⟩)]) (fun s h_4 => S19_j5 p0_1 p0_2 K v7 c5_0_2 c5_1_2 X s h_4) ?_ (fun Ih_4 hIh_4 => ?_))
      · intro v49 h_4 ok hS; replace hS : S19_j5 p0_1 p0_2 K v7 c5_0_2 c5_1_2 X v49 h_4 := hS; unfold S19_j5 at hS
        by_cases e1 : v49 = true
        · rw [if_pos e1] at hS; refine EvC.condT rfl e1 (EvC.skip (EvC.seq (EvC.block (EvC.seq (EvC.draw [0, 1, 0, 7, 15, 31, 63, 0, 128, 384, 1023, 0, 2048, 0, 14336, 30720, 63488, 129024, 0, 262144, 786432, 2095104, 0, 4194304, 0, 29360128, 62914560, 130023424, 264241152, 532676608, 1073741823, 0, 4294967295] [Item.look 0, Item.look 1, Item.look 2, Item.look 3, Item.look 4, Item.look 5, Item.look 6, Item.look 7, Item.look 8, Item.look 9, Item.look 10, Item.look 11, Item.look 12, Item.look 13, Item.look 14, Item.look 15, Item.look 16, Item.look 17, Item.look 18, Item.look 19, Item.look 20, Item.look 21, Item.look 22, Item.look 23, Item.look 24, Item.look 25, Item.look 26, Item.look 27, Item.look 28, Item.look 29, Item.look 30, Item.alc 31, Item.eff 32 []] MO (by kernel_rfl) ?_))))); refine Xk (v := (.pointer (some ⟨b2, 1, none⟩))) rfl rfl (Lk.fldAddr rfl Tryz.underlying52 rfl rfl T49 rfl rfl rfl) fun _ => ?_; refine Xk rfl rfl (Lk.load1 (v := (.slice p0_1.a p0_1.l p0_1.c)) rfl Tryz.underlying49 rfl rfl (H.rd_loc ok (i := 2) rfl rfl)) fun _ => ?_; refine Xm rfl rfl rfl rfl fun _ => ?_
          obtain ⟨a55, e2, e3, e4, hS⟩ := hS
          refine Xk rfl rfl (Lk.ixAddr rfl Tryz.underlying49 T104 rfl e2 rfl e3 e4) fun _ => ?_; refine R.look (v := (.pointer (some (Addr.add a55 (Int.toNat v7 * 3))))) rfl rfl rfl (Lk.ixConst rfl Tryz.underlying104 T5 rfl rfl rfl rfl) fun _ => ?_
          obtain ⟨v57, e5, hS⟩ := hS
          refine Xk rfl rfl (Look.loc ok (Lk.load1 rfl Tryz.underlying5 rfl rfl e5)) fun _ => ?_; refine Xk rfl rfl (Lk.conv rfl Tryz.underlying5 Tryz.underlying3 rfl) fun _ => ?_; refine Xk (v := (.pointer (some ⟨b5, 0, none⟩))) rfl rfl (Lk.fldAddr rfl Tryz.underlying33 rfl rfl T30 rfl rfl rfl) fun _ => ?_; refine Xk rfl rfl (Lk.load1 (v := (.slice c5_0_2.a c5_0_2.l c5_0_2.c)) rfl Tryz.underlying30 rfl rfl (H.rd_loc ok (i := 0) rfl rfl)) fun _ => ?_; refine Xk rfl rfl (Lk.len rfl Tryz.underlying30 rfl) fun _ => ?_
          obtain ⟨e6, hS⟩ := hS
          refine Xk rfl rfl (Lk.rem rfl rfl rfl e6) fun _ => ?_; refine Xk (v := (.pointer (some ⟨b2, 1, none⟩))) rfl rfl (Lk.fldAddr rfl Tryz.underlying52 rfl rfl T49 rfl rfl rfl) fun _ => ?_; refine Xk rfl rfl (Lk.load1 (v := (.slice p0_1.a p0_1.l p0_1.c)) rfl Tryz.underlying49 rfl rfl (H.rd_loc ok (i := 2) rfl rfl)) fun _ => ?_; refine Xm rfl rfl rfl rfl fun _ => ?_
          obtain ⟨a66, e7, e8, e9, hS⟩ := hS
          refine Xk rfl rfl (Lk.ixAddr rfl Tryz.underlying49 T104 rfl e7 rfl e8 e9) fun _ => ?_; refine R.look (v := (.pointer (some (Addr.add (Addr.add a66 (Int.toNat v7 * 3)) 1)))) rfl rfl rfl (Lk.ixConst rfl Tryz.underlying104 T5 rfl rfl rfl rfl) fun _ => ?_
          obtain ⟨v68, e10, hS⟩ := hS
          refine Xk rfl rfl (Look.loc ok (Lk.load1 rfl Tryz.underlying5 rfl rfl e10)) fun _ => ?_; refine Xk rfl rfl (Lk.conv rfl Tryz.underlying5 Tryz.underlying3 rfl) fun _ => ?_; refine Xk (v := (.pointer (some ⟨b5, 0, none⟩))) rfl rfl (Lk.fldAddr rfl Tryz.underlying33 rfl rfl T30 rfl rfl rfl) fun _ => ?_; refine Xk rfl rfl (Lk.load1 (v := (.slice c5_0_2.a c5_0_2.l c5_0_2.c)) rfl Tryz.underlying30 rfl rfl (H.rd_loc ok (i := 0) rfl rfl)) fun _ => ?_; refine Xk rfl rfl (Lk.len rfl Tryz.underlying30 rfl) fun _ => ?_
          obtain ⟨e11, hS⟩ := hS
          refine Xk rfl rfl (Lk.rem rfl rfl rfl e11) fun _ => ?_; refine Xk (v := (.pointer (some ⟨b2, 1, none⟩))) rfl rfl (Lk.fldAddr rfl Tryz.underlying52 rfl rfl T49 rfl rfl rfl) fun _ => ?_; refine Xk rfl rfl (Lk.load1 (v := (.slice p0_1.a p0_1.l p0_1.c)) rfl Tryz.underlying49 rfl rfl (H.rd_loc ok (i := 2) rfl rfl)) fun _ => ?_; refine Xm rfl rfl rfl rfl fun _ => ?_
          obtain ⟨a77, e12, e13, e14, hS⟩ := hS
          refine Xk rfl rfl (Lk.ixAddr rfl Tryz.underlying49 T104 rfl e12 rfl e13 e14) fun _ => ?_; refine R.look (v := (.pointer (some (Addr.add (Addr.add a77 (Int.toNat v7 * 3)) 2)))) rfl rfl rfl (Lk.ixConst rfl Tryz.underlying104 T5 rfl rfl rfl rfl) fun _ => ?_
          obtain ⟨v79, e15, hS⟩ := hS
          refine Xk rfl rfl (Look.loc ok (Lk.load1 rfl Tryz.underlying5 rfl rfl e15)) fun _ => ?_; refine Xk rfl rfl (Lk.conv rfl Tryz.underlying5 Tryz.underlying3 rfl) fun _ => ?_; refine Xk rfl rfl (Lk.rem (j := 4) rfl rfl rfl (by decide)) fun _ => ?_; refine Xk rfl rfl (Lk.build (cs := [(i6 (Int.tmod (IntKind.wrap .i64 v57) (c5_0_2.l : Int))), (i6 (Int.tmod (IntKind.wrap .i64 v68) (c5_0_2.l : Int))), (i6 (Int.tmod (IntKind.wrap .i64 v79) 4)), (.string ⟨#[]⟩)]) (pl := [(0, 1), (1, 1), (2, 1), (3, 1)]) rfl Tryz.underlying61 T61 (PlacesL.places (.cons T3 (.cons T3 (.cons T3 (.cons T9 PlacesL.nil))))) rfl rfl) fun _ => ?_; refine R.var (blk := .row ⟨[(i6 0), (i6 0), (i6 0), (.string ⟨#[]⟩)], 4, 61, true, true⟩) ok rfl rfl rfl (Ac.alloc rfl T61) rfl rfl fun b8 ok => ?_; refine R.effN rfl rfl rfl (Ef.storeLoc (i := 0) (vs := [(i6 (Int.tmod (IntKind.wrap .i64 v57) (c5_0_2.l : Int))), (i6 (Int.tmod (IntKind.wrap .i64 v68) (c5_0_2.l : Int))), (i6 (Int.tmod (IntKind.wrap .i64 v79) 4)), (.string ⟨#[]⟩)]) (cs := [(i6 (Int.tmod (IntKind.wrap .i64 v57) (c5_0_2.l : Int))), (i6 (Int.tmod (IntKind.wrap .i64 v68) (c5_0_2.l : Int))), (i6 (Int.tmod (IntKind.wrap .i64 v79) 4)), (.string ⟨#[]⟩)]) (l' := [(b8, .row ⟨[(i6 (Int.tmod (IntKind.wrap .i64 v57) (c5_0_2.l : Int))), (i6 (Int.tmod (IntKind.wrap .i64 v68) (c5_0_2.l : Int))), (i6 (Int.tmod (IntKind.wrap .i64 v79) 4)), (.string ⟨#[]⟩)], 4, 61, true, true⟩), (b5, .row ⟨[(.slice c5_0_2.a c5_0_2.l c5_0_2.c), (.slice c5_1_2.a c5_1_2.l c5_1_2.c)], 2, 33, true, true⟩), (b4, .row ⟨[(.slice none 0 0), (.slice none 0 0)], 2, 33, true, true⟩), (b2, .row ⟨[(.slice p0_0.a p0_0.l p0_0.c), (.slice p0_1.a p0_1.l p0_1.c), (.slice p0_2.a p0_2.l p0_2.c)], 3, 52, true, true⟩)]) ok rfl T61 rfl rfl rfl rfl rfl rfl rfl rfl rfl rfl fun ok => ⟨noChk, ?_⟩); refine R.nil (EvC.join (σ := Int × Int × Int × ByteArray) (fun s => (Ep (Ep (Ep (Ep (Ep (Ep E0 8 (.pointer (some ⟨b8, 0, none⟩))) 7 (i6 v7)) 5 (.pointer (some ⟨b5, 0, none⟩))) 4 (.pointer (some ⟨b4, 0, none⟩))) 2 (.pointer (some ⟨b2, 0, none⟩))) 1 (i6 p1))) (fun s => [(b8, .row ⟨[(i6 s.1), (i6 s.2.1), (i6 s.2.2.1), (.string s.2.2.2)], 4, 61, true, true⟩), (b5, .row ⟨[(.slice c5_0_2.a c5_0_2.l c5_0_2.c), (.slice c5_1_2.a c5_1_2.l c5_1_2.c)], 2, 33, true, true⟩), (b4, .row ⟨[(.slice none 0 0), (.slice none 0 0)], 2, 33, true, true⟩), (b2, .row ⟨[(.slice p0_0.a p0_0.l p0_0.c), (.slice p0_1.a p0_1.l p0_1.c), (.slice p0_2.a p0_2.l p0_2.c)], 3, 52, true, true⟩)]) (fun s h_5 => S19_j2 v7 c5_0_2 c5_1_2 X s.1 s.2.1 s.2.2.1 s.2.2.2 h_5) ?_ (fun Ih_5 hIh_5 => ?_))
          · rintro ⟨c8_0, c8_1, c8_2, c8_3⟩ h_5 ok hS; replace hS : S19_j2 v7 c5_0_2 c5_1_2 X c8_0 c8_1 c8_2 c8_3 h_5 := hS; unfold S19_j2 at hS; refine Xr [.look 0, .look 1, .look 2, .alc 3, .eff 4 [], .look 5, .eff 6 []] (Xk (v := (.pointer (some ⟨b5, 1, none⟩))) rfl rfl (Lk.fldAddr rfl Tryz.underlying33 rfl rfl T31 rfl rfl rfl) fun _ => ?_); refine Xk rfl rfl (Lk.load1 (v := (.slice c5_1_2.a c5_1_2.l c5_1_2.c)) rfl Tryz.underlying31 rfl rfl (H.rd_loc ok (i := 1) rfl rfl)) fun _ => ?_; refine Xk rfl rfl (Lk.loadN (vs := [(i6 c8_0), (i6 c8_1), (i6 c8_2), (.string c8_3)]) rfl Tryz.underlying61 rfl T61 rfl (H.rdn_loc ok (i := 0) rfl rfl rfl)) fun _ => ?_; refine R.appL (cs := [(i6 c8_0), (i6 c8_1), (i6 c8_2), (.string c8_3)]) ok rfl rfl rfl rfl rfl rfl rfl rfl Tryz.underlying31 T61 rfl (by decide) (by decide) rfl rfl rfl rfl rfl (fun _ => rfl) hS ?_; intro bb120 v121 h_6 hS ok; refine ⟨noChk, ?_⟩; refine Xk (v := (.pointer (some ⟨b5, 1, none⟩))) rfl rfl (Lk.fldAddr rfl Tryz.underlying33 rfl rfl T31 rfl rfl rfl) fun _ => ?_; refine R.effN rfl rfl rfl (Ef.storeLoc (i := 1) (vs := [(.slice v121.a v121.l v121.c)]) (cs := [(.slice c5_0_2.a c5_0_2.l c5_0_2.c), (.slice v121.a v121.l v121.c)]) (l' := [(b8, .row ⟨[(i6 c8_0), (i6 c8_1), (i6 c8_2), (.string c8_3)], 4, 61, true, true⟩), (b5, .row ⟨[(.slice c5_0_2.a c5_0_2.l c5_0_2.c), (.slice v121.a v121.l v121.c)], 2, 33, true, true⟩), (b4, .row ⟨[(.slice none 0 0), (.slice none 0 0)], 2, 33, true, true⟩), (b2, .row ⟨[(.slice p0_0.a p0_0.l p0_0.c), (.slice p0_1.a p0_1.l p0_1.c), (.slice p0_2.a p0_2.l p0_2.c)], 3, 52, true, true⟩)]) ok rfl T31 rfl rfl rfl rfl rfl rfl rfl rfl rfl rfl fun ok => ⟨noChk, ?_⟩); refine R.nil (Xr [.look 0, .look 1, .look 2] (Xm rfl rfl rfl rfl fun _ => Xk rfl rfl (Lk.arith rfl rfl rfl rfl) fun _ => Xa rfl rfl rfl rfl fun _ => R.nil ?_)); exact hX ((IntKind.wrap .i64 (v7 + 1)), c5_0_2, v121) _ _ _ hS (ok.sub (.cons _ (.cons_cons _ (.cons_cons _ (.cons_cons _ sl0))))) (lq rfl (lq rfl (lq rfl (lq rfl (lq rfl (lz _)))))) (H.add_sub ok (.cons _ (.cons_cons _ (.cons_cons _ (.cons_cons _ sl0)))))
          · refine EvC.seq (Xr [.look 0, .look 1, .look 2, .look 3, .look 4] (Xm rfl rfl rfl rfl fun _ => ?_)); refine Xk (v := (.pointer (some ⟨b2, 2, none⟩))) rfl rfl (Lk.fldAddr rfl Tryz.underlying52 rfl rfl T50 rfl rfl rfl) fun _ => ?_; refine Xk rfl rfl (Lk.load1 (v := (.slice p0_2.a p0_2.l p0_2.c)) rfl Tryz.underlying50 rfl rfl (H.rd_loc ok (i := 3) rfl rfl)) fun _ => ?_; refine Xk rfl rfl (Lk.len rfl Tryz.underlying50 rfl) fun _ => ?_; refine Xk rfl rfl (Lk.arith rfl rfl rfl rfl) fun _ => ?_; refine R.nil ?_
            by_cases e16 : (decide (v7 < (p0_2.l : Int))) = true
            · rw [if_pos e16] at hS; refine EvC.condT rfl e16 (EvC.seq (Xr [.look 0] (Xa rfl rfl rfl rfl fun _ => ?_))); refine R.nil (EvC.block (EvC.loop (LoopC.lfp (σ := Int × Int × Int × Int × ByteArray) (fun s => (Ep (Ep (Ep (Ep (Ep (Ep (Ep E0 9 (i6 s.1)) 8 (.pointer (some ⟨b8, 0, none⟩))) 7 (i6 v7)) 5 (.pointer (some ⟨b5, 0, none⟩))) 4 (.pointer (some ⟨b4, 0, none⟩))) 2 (.pointer (some ⟨b2, 0, none⟩))) 1 (i6 p1))) (fun s => [(b8, .row ⟨[(i6 s.2.1), (i6 s.2.2.1), (i6 s.2.2.2.1), (.string s.2.2.2.2)], 4, 61, true, true⟩), (b5, .row ⟨[(.slice c5_0_2.a c5_0_2.l c5_0_2.c), (.slice c5_1_2.a c5_1_2.l c5_1_2.c)], 2, 33, true, true⟩), (b4, .row ⟨[(.slice none 0 0), (.slice none 0 0)], 2, 33, true, true⟩), (b2, .row ⟨[(.slice p0_0.a p0_0.l p0_0.c), (.slice p0_1.a p0_1.l p0_1.c), (.slice p0_2.a p0_2.l p0_2.c)], 3, 52, true, true⟩)]) (fun X_1 hX_1 => ?_) hS (ok.sub (.cons_cons _ (.cons_cons _ (.cons_cons _ (.cons_cons _ sl0))))) (lq rfl (lq rfl (lq rfl (lq rfl (lq rfl (lq rfl (lq rfl (lz _)))))))) (H.add_sub ok (.cons_cons _ (.cons_cons _ (.cons_cons _ (.cons_cons _ sl0)))))))); rintro ⟨v9, c8_0_1, c8_1_1, c8_2_1, c8_3_1⟩ h_7 hS ok; replace hS : S19_l4 p0_2 v7 c5_0_2 c5_1_2 X X_1 v9 c8_0_1 c8_1_1 c8_2_1 c8_3_1 h_7 := hS; unfold S19_l4 at hS; refine EvC.seq (EvC.seq (Xr [.look 0, .look 1, .look 2, .look 3, .look 4, .look 5, .look 6, .look 7, .look 8] (Xm rfl rfl rfl rfl fun _ => ?_))); refine Xk (v := (.pointer (some ⟨b2, 2, none⟩))) rfl rfl (Lk.fldAddr rfl Tryz.underlying52 rfl rfl T50 rfl rfl rfl) fun _ => ?_; refine Xk rfl rfl (Lk.load1 (v := (.slice p0_2.a p0_2.l p0_2.c)) rfl Tryz.underlying50 rfl rfl (H.rd_loc ok (i := 3) rfl rfl)) fun _ => ?_; refine Xm rfl rfl rfl rfl fun _ => ?_
              obtain ⟨a92, e17, e18, e19, hS⟩ := hS
              refine Xk rfl rfl (Lk.ixAddr rfl Tryz.underlying50 T5 rfl e17 rfl e18 e19) fun _ => ?_
              obtain ⟨v93, e20, hS⟩ := hS
              refine Xk rfl rfl (Look.loc ok (Lk.load1 rfl Tryz.underlying5 rfl rfl e20)) fun _ => ?_; refine Xk rfl rfl (Lk.conv rfl Tryz.underlying5 Tryz.underlying3 rfl) fun _ => ?_; refine Xk rfl rfl (Lk.rem (j := 4) rfl rfl rfl (by decide)) fun _ => ?_; refine Xk rfl rfl (Lk.arith rfl rfl rfl rfl) fun _ => ?_; refine R.nil ?_
              by_cases e21 : (decide (v9 < (Int.tmod (IntKind.wrap .i64 v93) 4))) = true
              · rw [if_pos e21] at hS; refine EvC.condT rfl e21 (EvC.skip (EvC.join (σ := Int × Int × Int × ByteArray) (fun s => (Ep (Ep (Ep (Ep (Ep (Ep (Ep E0 9 (i6 v9)) 8 (.pointer (some ⟨b8, 0, none⟩))) 7 (i6 v7)) 5 (.pointer (some ⟨b5, 0, none⟩))) 4 (.pointer (some ⟨b4, 0, none⟩))) 2 (.pointer (some ⟨b2, 0, none⟩))) 1 (i6 p1))) (fun s => [(b8, .row ⟨[(i6 s.1), (i6 s.2.1), (i6 s.2.2.1), (.string s.2.2.2)], 4, 61, true, true⟩), (b5, .row ⟨[(.slice c5_0_2.a c5_0_2.l c5_0_2.c), (.slice c5_1_2.a c5_1_2.l c5_1_2.c)], 2, 33, true, true⟩), (b4, .row ⟨[(.slice none 0 0), (.slice none 0 0)], 2, 33, true, true⟩), (b2, .row ⟨[(.slice p0_0.a p0_0.l p0_0.c), (.slice p0_1.a p0_1.l p0_1.c), (.slice p0_2.a p0_2.l p0_2.c)], 3, 52, true, true⟩)]) (fun s h_8 => S19_j3 v9 X_1 s.1 s.2.1 s.2.2.1 s.2.2.2 h_8) ?_ (fun Ih_8 hIh_8 => ?_)))
                · rintro ⟨c8_0_2, c8_1_2, c8_2_2, c8_3_2⟩ h_8 ok hS; replace hS : S19_j3 v9 X_1 c8_0_2 c8_1_2 c8_2_2 c8_3_2 h_8 := hS; unfold S19_j3 at hS; refine Xr [.look 0, .look 1, .look 2] (Xm rfl rfl rfl rfl fun _ => ?_); refine Xk rfl rfl (Lk.arith rfl rfl rfl rfl) fun _ => ?_; refine Xa rfl rfl rfl rfl fun _ => ?_; refine R.nil ?_; exact hX_1 ((IntKind.wrap .i64 (v9 + 1)), c8_0_2, c8_1_2, c8_2_2, c8_3_2) _ _ _ hS (ok.sub (.cons_cons _ (.cons_cons _ (.cons_cons _ (.cons_cons _ sl0))))) (lq rfl (lq rfl (lq rfl (lq rfl (lq rfl (lq rfl (lq rfl (lz _)))))))) (H.add_sub ok (.cons_cons _ (.cons_cons _ (.cons_cons _ (.cons_cons _ sl0)))))
                · refine EvC.block (EvC.seq (Xr [.look 0, .look 1, .look 2, .look 3, .look 4, .look 5, .look 6, .look 7, .look 8, .look 9] (Xk (v := (.pointer (some ⟨b2, 2, none⟩))) rfl rfl (Lk.fldAddr rfl Tryz.underlying52 rfl rfl T50 rfl rfl rfl) fun _ => ?_))); refine Xk rfl rfl (Lk.load1 (v := (.slice p0_2.a p0_2.l p0_2.c)) rfl Tryz.underlying50 rfl rfl (H.rd_loc ok (i := 3) rfl rfl)) fun _ => ?_; refine Xm rfl rfl rfl rfl fun _ => ?_
                  obtain ⟨a102, e22, e23, e24, hS⟩ := hS
                  refine Xk rfl rfl (Lk.ixAddr rfl Tryz.underlying50 T5 rfl e22 rfl e23 e24) fun _ => ?_
                  obtain ⟨v103, e25, hS⟩ := hS
                  refine Xk rfl rfl (Look.loc ok (Lk.load1 rfl Tryz.underlying5 rfl rfl e25)) fun _ => ?_; refine Xm rfl rfl rfl rfl fun _ => ?_; refine Xk rfl rfl (Lk.arith rfl rfl rfl rfl) fun _ => ?_
                  obtain ⟨e26, hS⟩ := hS
                  refine Xk rfl rfl (Lk.shr rfl rfl rfl e26) fun _ => ?_; refine Xk rfl rfl (Lk.arith rfl rfl rfl rfl) fun _ => ?_; refine Xk rfl rfl (Lk.arith rfl rfl rfl rfl) fun _ => ?_; refine R.nil ?_
                  by_cases e27 : ((IntKind.wrap .u8 (((BitVec.ofInt (IntKind.bits .u8) (Int.fdiv v103 (2 ^ (min (Int.toNat (IntKind.wrap .i64 (2 + v9))) (IntKind.bits .u8)))) &&& BitVec.ofInt (IntKind.bits .u8) 1).toNat : Nat) : Int)) == 1) = true
                  · rw [if_pos e27] at hS; refine EvC.condT rfl e27 (Xr [.look 0, .look 1, .look 2, .look 3, .eff 4 []] (Xk (v := (.pointer (some ⟨b8, 3, none⟩))) rfl rfl (Lk.fldAddr rfl Tryz.underlying61 rfl rfl T9 rfl rfl rfl) fun _ => ?_)); refine Xk rfl rfl (Lk.load1 (v := (.string c8_3_1)) rfl Tryz.underlying9 rfl rfl (H.rd_loc ok (i := 0) rfl rfl)) fun _ => ?_
                    obtain ⟨e28, hS⟩ := hS
                    refine Xk rfl rfl (Lk.strAdd rfl rfl rfl e28) fun _ => ?_; refine Xk (v := (.pointer (some ⟨b8, 3, none⟩))) rfl rfl (Lk.fldAddr rfl Tryz.underlying61 rfl rfl T9 rfl rfl rfl) fun _ => ?_; refine R.effN rfl rfl rfl (Ef.storeLoc (i := 0) (vs := [(.string (c8_3_1 ++ ⟨#[76]⟩))]) (cs := [(i6 c8_0_1), (i6 c8_1_1), (i6 c8_2_1), (.string (c8_3_1 ++ ⟨#[76]⟩))]) (l' := [(b8, .row ⟨[(i6 c8_0_1), (i6 c8_1_1), (i6 c8_2_1), (.string (c8_3_1 ++ ⟨#[76]⟩))], 4, 61, true, true⟩), (b5, .row ⟨[(.slice c5_0_2.a c5_0_2.l c5_0_2.c), (.slice c5_1_2.a c5_1_2.l c5_1_2.c)], 2, 33, true, true⟩), (b4, .row ⟨[(.slice none 0 0), (.slice none 0 0)], 2, 33, true, true⟩), (b2, .row ⟨[(.slice p0_0.a p0_0.l p0_0.c), (.slice p0_1.a p0_1.l p0_1.c), (.slice p0_2.a p0_2.l p0_2.c)], 3, 52, true, true⟩)]) ok rfl T9 rfl rfl rfl rfl rfl rfl rfl rfl rfl rfl fun ok => ⟨noChk, ?_⟩); refine R.nil ?_; exact hIh_8 (c8_0_1, c8_1_1, c8_2_1, (c8_3_1 ++ ⟨#[76]⟩)) _ _ _ (lq rfl (lq rfl (lq rfl (lq rfl (lq rfl (lq rfl (lq rfl (lz _)))))))) (ok.sub (.cons_cons _ (.cons_cons _ (.cons_cons _ (.cons_cons _ sl0))))) (H.add_sub ok (.cons_cons _ (.cons_cons _ (.cons_cons _ (.cons_cons _ sl0))))) hS
                  · rw [if_neg e27] at hS; replace e27 := eq_false_of_ne_true e27; refine EvC.condF rfl e27 (Xr [.look 0, .look 1, .look 2, .look 3, .eff 4 []] (Xk (v := (.pointer (some ⟨b8, 3, none⟩))) rfl rfl (Lk.fldAddr rfl Tryz.underlying61 rfl rfl T9 rfl rfl rfl) fun _ => ?_)); refine Xk rfl rfl (Lk.load1 (v := (.string c8_3_1)) rfl Tryz.underlying9 rfl rfl (H.rd_loc ok (i := 0) rfl rfl)) fun _ => ?_
                    obtain ⟨e29, hS⟩ := hS
                    refine Xk rfl rfl (Lk.strAdd rfl rfl rfl e29) fun _ => ?_; refine Xk (v := (.pointer (some ⟨b8, 3, none⟩))) rfl rfl (Lk.fldAddr rfl Tryz.underlying61 rfl rfl T9 rfl rfl rfl) fun _ => ?_; refine R.effN rfl rfl rfl (Ef.storeLoc (i := 0) (vs := [(.string (c8_3_1 ++ ⟨#[82]⟩))]) (cs := [(i6 c8_0_1), (i6 c8_1_1), (i6 c8_2_1), (.string (c8_3_1 ++ ⟨#[82]⟩))]) (l' := [(b8, .row ⟨[(i6 c8_0_1), (i6 c8_1_1), (i6 c8_2_1), (.string (c8_3_1 ++ ⟨#[82]⟩))], 4, 61, true, true⟩), (b5, .row ⟨[(.slice c5_0_2.a c5_0_2.l c5_0_2.c), (.slice c5_1_2.a c5_1_2.l c5_1_2.c)], 2, 33, true, true⟩), (b4, .row ⟨[(.slice none 0 0), (.slice none 0 0)], 2, 33, true, true⟩), (b2, .row ⟨[(.slice p0_0.a p0_0.l p0_0.c), (.slice p0_1.a p0_1.l p0_1.c), (.slice p0_2.a p0_2.l p0_2.c)], 3, 52, true, true⟩)]) ok rfl T9 rfl rfl rfl rfl rfl rfl rfl rfl rfl rfl fun ok => ⟨noChk, ?_⟩); refine R.nil ?_; exact hIh_8 (c8_0_1, c8_1_1, c8_2_1, (c8_3_1 ++ ⟨#[82]⟩)) _ _ _ (lq rfl (lq rfl (lq rfl (lq rfl (lq rfl (lq rfl (lq rfl (lz _)))))))) (ok.sub (.cons_cons _ (.cons_cons _ (.cons_cons _ (.cons_cons _ sl0))))) (H.add_sub ok (.cons_cons _ (.cons_cons _ (.cons_cons _ (.cons_cons _ sl0))))) hS
              · rw [if_neg e21] at hS; replace e21 := eq_false_of_ne_true e21; refine EvC.condF rfl e21 (EvC.exit ?_); exact hIh_5 (c8_0_1, c8_1_1, c8_2_1, c8_3_1) _ _ _ (lq rfl (lq rfl (lq rfl (lq rfl (lq rfl (lq rfl (lz _))))))) (ok.sub (.cons_cons _ (.cons_cons _ (.cons_cons _ (.cons_cons _ sl0))))) (H.add_sub ok (.cons_cons _ (.cons_cons _ (.cons_cons _ (.cons_cons _ sl0))))) hS
            · rw [if_neg e16] at hS; replace e16 := eq_false_of_ne_true e16; refine EvC.condF rfl e16 (EvC.skip ?_); exact hIh_5 ((Int.tmod (IntKind.wrap .i64 v57) (c5_0_2.l : Int)), (Int.tmod (IntKind.wrap .i64 v68) (c5_0_2.l : Int)), (Int.tmod (IntKind.wrap .i64 v79) 4), ⟨#[]⟩) _ _ _ (lq rfl (lq rfl (lq rfl (lq rfl (lq rfl (lq rfl (lz _))))))) (ok.sub (.cons_cons _ (.cons_cons _ (.cons_cons _ (.cons_cons _ sl0))))) (H.add_sub ok (.cons_cons _ (.cons_cons _ (.cons_cons _ (.cons_cons _ sl0))))) hS
        · rw [if_neg e1] at hS; replace e1 := eq_false_of_ne_true e1; refine EvC.condF rfl e1 (EvC.exit ?_); exact hIh_2 (c5_0_2, c5_1_2) _ _ _ (lq rfl (lq rfl (lz _))) (ok.sub (.cons_cons _ (.cons_cons _ (.cons _ sl0)))) (H.add_sub ok (.cons_cons _ (.cons_cons _ (.cons _ sl0)))) hS
      · refine Xr [.look 0, .look 1, .look 2, .look 3, .look 4, .look 5, .look 6, .look 7, .look 8, .look 9, .look 10, .look 11, .look 12, .look 13, .look 14, .look 15, .look 16] (Xm rfl rfl rfl rfl fun _ => ?_); refine Xk (v := (.pointer (some ⟨b2, 1, none⟩))) rfl rfl (Lk.fldAddr rfl Tryz.underlying52 rfl rfl T49 rfl rfl rfl) fun _ => ?_; refine Xk rfl rfl (Lk.load1 (v := (.slice p0_1.a p0_1.l p0_1.c)) rfl Tryz.underlying49 rfl rfl (H.rd_loc ok (i := 2) rfl rfl)) fun _ => ?_; refine Xk rfl rfl (Lk.len rfl Tryz.underlying49 rfl) fun _ => ?_; refine Xk rfl rfl (Lk.arith rfl rfl rfl rfl) fun _ => ?_; refine Xm rfl rfl rfl rfl fun _ => ?_
        by_cases e30 : (decide (v7 < (p0_1.l : Int))) = true
        · refine R.lookT rfl rfl rfl rfl e30 rfl (Lk.move rfl rfl) fun _ => R.lookT rfl rfl rfl rfl e30 rfl (Lk.move rfl rfl) fun _ => R.lookT rfl rfl rfl rfl e30 rfl (Lk.arith rfl rfl rfl rfl) fun _ => R.lookT rfl rfl rfl rfl e30 rfl (Lk.arith rfl rfl rfl rfl) fun _ => Xk rfl rfl (Lk.pick rfl rfl (fun _ => rfl) (fun e => by rw [e30] at e; cases e)) fun _ => Xm rfl rfl rfl rfl fun _ => ?_
          by_cases e31 : (decide (v7 < (IntKind.wrap .i64 (2 * p1)))) = true
          · refine R.lookT (v := (.pointer (some ⟨b5, 0, none⟩))) rfl rfl rfl rfl e31 rfl (Lk.fldAddr rfl Tryz.underlying33 rfl rfl T30 rfl rfl rfl) fun _ => R.lookT rfl rfl rfl rfl e31 rfl (Lk.load1 (v := (.slice c5_0_2.a c5_0_2.l c5_0_2.c)) rfl Tryz.underlying30 rfl rfl (H.rd_loc ok (i := 0) rfl rfl)) fun _ => R.lookT rfl rfl rfl rfl e31 rfl (Lk.len rfl Tryz.underlying30 rfl) fun _ => R.lookT rfl rfl rfl rfl e31 rfl (Lk.arith rfl rfl rfl rfl) fun _ => Xk rfl rfl (Lk.pick rfl rfl (fun _ => rfl) (fun e => by rw [e31] at e; cases e)) fun _ => R.nil ?_; exact hIh_4 (((decide (v7 < (p0_1.l : Int))) && (decide (v7 < (IntKind.wrap .i64 (2 * p1))))) && (decide ((c5_0_2.l : Int) > 0))) _ _ _ (lq rfl (lq rfl (lq rfl (lq rfl (lq rfl (lq (by rw [e30, e31]; rfl) (lz _))))))) (ok.sub (.cons_cons _ (.cons_cons _ (.cons_cons _ sl0)))) (H.add_sub ok (.cons_cons _ (.cons_cons _ (.cons_cons _ sl0)))) hS
          · replace e31 := eq_false_of_ne_true e31; refine R.lookF rfl rfl rfl rfl e31 rfl fun _ => R.lookF rfl rfl rfl rfl e31 rfl fun _ => R.lookF rfl rfl rfl rfl e31 rfl fun _ => R.lookF rfl rfl rfl rfl e31 rfl fun _ => Xk rfl rfl (Lk.pick rfl rfl (fun e => by rw [e31] at e; cases e) (fun _ => rfl)) fun _ => R.nil ?_; exact hIh_4 (((decide (v7 < (p0_1.l : Int))) && (decide (v7 < (IntKind.wrap .i64 (2 * p1))))) && (decide ((c5_0_2.l : Int) > 0))) _ _ _ (lq rfl (lq rfl (lq rfl (lq rfl (lq rfl (lq (by rw [e30, e31]; rfl) (lz _))))))) (ok.sub (.cons_cons _ (.cons_cons _ (.cons_cons _ sl0)))) (H.add_sub ok (.cons_cons _ (.cons_cons _ (.cons_cons _ sl0)))) hS
        · replace e30 := eq_false_of_ne_true e30; refine R.lookF rfl rfl rfl rfl e30 rfl fun _ => R.lookF rfl rfl rfl rfl e30 rfl fun _ => R.lookF rfl rfl rfl rfl e30 rfl fun _ => R.lookF rfl rfl rfl rfl e30 rfl fun _ => Xk rfl rfl (Lk.pick rfl rfl (fun e => by rw [e30] at e; cases e) (fun _ => rfl)) fun _ => Xm rfl rfl rfl rfl fun _ => R.lookF rfl rfl rfl rfl rfl rfl fun _ => R.lookF rfl rfl rfl rfl rfl rfl fun _ => R.lookF rfl rfl rfl rfl rfl rfl fun _ => R.lookF rfl rfl rfl rfl rfl rfl fun _ => Xk rfl rfl (Lk.pick rfl rfl (fun e => by cases e) (fun _ => rfl)) fun _ => R.nil ?_; exact hIh_4 (((decide (v7 < (p0_1.l : Int))) && (decide (v7 < (IntKind.wrap .i64 (2 * p1))))) && (decide ((c5_0_2.l : Int) > 0))) _ _ _ (lq rfl (lq rfl (lq rfl (lq rfl (lq rfl (lq (by rw [e30]; rfl) (lz _))))))) (ok.sub (.cons_cons _ (.cons_cons _ (.cons_cons _ sl0)))) (H.add_sub ok (.cons_cons _ (.cons_cons _ (.cons_cons _ sl0)))) hS
  · refine EvC.seq (Xr [.look 0] (Xa rfl rfl rfl rfl fun _ => ?_)); refine R.nil (EvC.block (EvC.loop (LoopC.lfp (σ := Int × Sl × Sl) (fun s => (Ep (Ep (Ep (Ep (Ep E0 6 (i6 s.1)) 5 (.pointer (some ⟨b5, 0, none⟩))) 4 (.pointer (some ⟨b4, 0, none⟩))) 2 (.pointer (some ⟨b2, 0, none⟩))) 1 (i6 p1))) (fun s => [(b5, .row ⟨[(.slice s.2.1.a s.2.1.l s.2.1.c), (.slice s.2.2.a s.2.2.l s.2.2.c)], 2, 33, true, true⟩), (b4, .row ⟨[(.slice none 0 0), (.slice none 0 0)], 2, 33, true, true⟩), (b2, .row ⟨[(.slice p0_0.a p0_0.l p0_0.c), (.slice p0_1.a p0_1.l p0_1.c), (.slice p0_2.a p0_2.l p0_2.c)], 3, 52, true, true⟩)]) (fun X_2 hX_2 => ?_) hS (ok.sub (.cons_cons _ (.cons_cons _ (.cons_cons _ sl0)))) (lq rfl (lq rfl (lq rfl (lq rfl (lq rfl (lz _)))))) (H.add_sub ok (.cons_cons _ (.cons_cons _ (.cons_cons _ sl0))))))); rintro ⟨v6, c5_0_3, c5_1_3⟩ h_9 hS ok; replace hS : S19_l9 p0_0 p0_1 p0_2 p1 K X_2 v6 c5_0_3 c5_1_3 h_9 := hS; unfold S19_l9 at hS; refine EvC.seq (EvC.join (σ := Bool) (fun s => (Ep (Ep (Ep (Ep (Ep (Ep E0 20 (.bool s)) 6 (i6 v6)) 5 (.pointer (some ⟨b5, 0, none⟩))) 4 (.pointer (some ⟨b4, 0, none⟩))) 2 (.pointer (some ⟨b2, 0, none⟩))) 1 (i6 p1))) (fun s => [(b5, .row ⟨[(.slice c5_0_3.a c5_0_3.l c5_0_3.c), (.slice c5_1_3.a c5_1_3.l c5_1_3.c)], 2, 33, true, true⟩), (b4, .row ⟨[(.slice none 0 0), (.slice none 0 0)], 2, 33, true, true⟩), (b2, .row ⟨[(.slice p0_0.a p0_0.l p0_0.c), (.slice p0_1.a p0_1.l p0_1.c), (.slice p0_2.a p0_2.l p0_2.c)], 3, 52, true, true⟩)]) (fun s h_10 => S19_j8 p0_0 p0_1 p0_2 p1 K v6 c5_0_3 c5_1_3 X_2 s h_10) ?_ (fun Ih_10 hIh_10 => ?_))
    · intro v20 h_10 ok hS; replace hS : S19_j8 p0_0 p0_1 p0_2 p1 K v6 c5_0_3 c5_1_3 X_2 v20 h_10 := hS; unfold S19_j8 at hS
      by_cases e32 : v20 = true
      · rw [if_pos e32] at hS; refine EvC.condT rfl e32 (EvC.skip (EvC.seq (EvC.block (EvC.draw [0, 1, 0, 4, 0, 28, 60, 124, 255, 511, 1023] [Item.look 0, Item.look 1, Item.look 2, Item.look 3, Item.look 4, Item.look 5, Item.look 6, Item.alc 7, Item.eff 8 [], Item.look 9, Item.eff 10 []] MO (by kernel_rfl) ?_)))); refine Xk (v := (.pointer (some ⟨b5, 0, none⟩))) rfl rfl (Lk.fldAddr rfl Tryz.underlying33 rfl rfl T30 rfl rfl rfl) fun _ => ?_; refine Xk rfl rfl (Lk.load1 (v := (.slice c5_0_3.a c5_0_3.l c5_0_3.c)) rfl Tryz.underlying30 rfl rfl (H.rd_loc ok (i := 0) rfl rfl)) fun _ => ?_; refine Xk (v := (.pointer (some ⟨b2, 0, none⟩))) rfl rfl (Lk.fldAddr rfl Tryz.underlying52 rfl rfl T30 rfl rfl rfl) fun _ => ?_; refine Xk rfl rfl (Lk.load1 (v := (.slice p0_0.a p0_0.l p0_0.c)) rfl Tryz.underlying30 rfl rfl (H.rd_loc ok (i := 2) rfl rfl)) fun _ => ?_; refine Xm rfl rfl rfl rfl fun _ => ?_
        obtain ⟨a28, e33, e34, e35, hS⟩ := hS
        refine Xk rfl rfl (Lk.ixAddr rfl Tryz.underlying30 T4 rfl e33 rfl e34 e35) fun _ => ?_
        obtain ⟨v29, e36, hS⟩ := hS
        refine Xk rfl rfl (Look.loc ok (Lk.load1 rfl Tryz.underlying4 rfl rfl e36)) fun _ => ?_; refine R.appL (cs := [(.bool v29)]) ok rfl rfl rfl rfl rfl rfl rfl rfl Tryz.underlying30 T4 rfl (by decide) (by decide) rfl rfl rfl rfl rfl (fun _ => rfl) hS ?_; intro bb30 v31 h_11 hS ok; refine ⟨noChk, ?_⟩; refine Xk (v := (.pointer (some ⟨b5, 0, none⟩))) rfl rfl (Lk.fldAddr rfl Tryz.underlying33 rfl rfl T30 rfl rfl rfl) fun _ => ?_; refine R.effN rfl rfl rfl (Ef.storeLoc (i := 0) (vs := [(.slice v31.a v31.l v31.c)]) (cs := [(.slice v31.a v31.l v31.c), (.slice c5_1_3.a c5_1_3.l c5_1_3.c)]) (l' := [(b5, .row ⟨[(.slice v31.a v31.l v31.c), (.slice c5_1_3.a c5_1_3.l c5_1_3.c)], 2, 33, true, true⟩), (b4, .row ⟨[(.slice none 0 0), (.slice none 0 0)], 2, 33, true, true⟩), (b2, .row ⟨[(.slice p0_0.a p0_0.l p0_0.c), (.slice p0_1.a p0_1.l p0_1.c), (.slice p0_2.a p0_2.l p0_2.c)], 3, 52, true, true⟩)]) ok rfl T30 rfl rfl rfl rfl rfl rfl rfl rfl rfl rfl fun ok => ⟨noChk, ?_⟩); refine R.nil (Xr [.look 0, .look 1, .look 2] (Xm rfl rfl rfl rfl fun _ => Xk rfl rfl (Lk.arith rfl rfl rfl rfl) fun _ => Xa rfl rfl rfl rfl fun _ => R.nil ?_)); exact hX_2 ((IntKind.wrap .i64 (v6 + 1)), v31, c5_1_3) _ _ _ hS (ok.sub (.cons_cons _ (.cons_cons _ (.cons_cons _ sl0)))) (lq rfl (lq rfl (lq rfl (lq rfl (lq rfl (lz _)))))) (H.add_sub ok (.cons_cons _ (.cons_cons _ (.cons_cons _ sl0))))
      · rw [if_neg e32] at hS; replace e32 := eq_false_of_ne_true e32; refine EvC.condF rfl e32 (EvC.exit ?_); exact hIh_1 (c5_0_3, c5_1_3) _ _ _ (lq rfl (lq rfl (lq rfl (lq rfl (lz _))))) (ok.sub (.cons_cons _ (.cons_cons _ (.cons_cons _ sl0)))) (H.add_sub ok (.cons_cons _ (.cons_cons _ (.cons_cons _ sl0)))) hS
    · refine Xr [.look 0, .look 1, .look 2, .look 3, .look 4, .look 5, .look 6, .look 7, .look 8, .look 9] (Xm rfl rfl rfl rfl fun _ => ?_); refine Xk (v := (.pointer (some ⟨b2, 0, none⟩))) rfl rfl (Lk.fldAddr rfl Tryz.underlying52 rfl rfl T30 rfl rfl rfl) fun _ => ?_; refine Xk rfl rfl (Lk.load1 (v := (.slice p0_0.a p0_0.l p0_0.c)) rfl Tryz.underlying30 rfl rfl (H.rd_loc ok (i := 2) rfl rfl)) fun _ => ?_; refine Xk rfl rfl (Lk.len rfl Tryz.underlying30 rfl) fun _ => ?_; refine Xk rfl rfl (Lk.arith rfl rfl rfl rfl) fun _ => ?_; refine Xm rfl rfl rfl rfl fun _ => ?_
      by_cases e37 : (decide (v6 < (p0_0.l : Int))) = true
      · refine R.lookT rfl rfl rfl rfl e37 rfl (Lk.move rfl rfl) fun _ => R.lookT rfl rfl rfl rfl e37 rfl (Lk.move rfl rfl) fun _ => R.lookT rfl rfl rfl rfl e37 rfl (Lk.arith rfl rfl rfl rfl) fun _ => Xk rfl rfl (Lk.pick rfl rfl (fun _ => rfl) (fun e => by rw [e37] at e; cases e)) fun _ => R.nil ?_; exact hIh_10 ((decide (v6 < (p0_0.l : Int))) && (decide (v6 < p1))) _ _ _ (lq rfl (lq rfl (lq rfl (lq rfl (lq rfl (lq (by rw [e37]; rfl) (lz _))))))) (ok.sub (.cons_cons _ (.cons_cons _ (.cons_cons _ sl0)))) (H.add_sub ok (.cons_cons _ (.cons_cons _ (.cons_cons _ sl0)))) hS
      · replace e37 := eq_false_of_ne_true e37; refine R.lookF rfl rfl rfl rfl e37 rfl fun _ => R.lookF rfl rfl rfl rfl e37 rfl fun _ => R.lookF rfl rfl rfl rfl e37 rfl fun _ => Xk rfl rfl (Lk.pick rfl rfl (fun e => by rw [e37] at e; cases e) (fun _ => rfl)) fun _ => R.nil ?_; exact hIh_10 ((decide (v6 < (p0_0.l : Int))) && (decide (v6 < p1))) _ _ _ (lq rfl (lq rfl (lq rfl (lq rfl (lq rfl (lq (by rw [e37]; rfl) (lz _))))))) (ok.sub (.cons_cons _ (.cons_cons _ (.cons_cons _ sl0)))) (H.add_sub ok (.cons_cons _ (.cons_cons _ (.cons_cons _ sl0)))) hS

end Go.Proofs.YtimadnngfhbfiaaGreatDoor
end

section
/- Printed by a program, the call of itself struck: the machine's call of muntin/muntinref06.Digits does what S50 says. -/
namespace Go.Proofs.YtimadnngfhbfiaaGreatDoor
open Go Go.Mu
set_option maxHeartbeats 4000000
set_option maxRecDepth 100000
theorem f50_ok {p0 : Int} {h : H} {K : ByteArray → H → Prop} (hS : S50 p0 h K) : ACall Tryz.prog 50 ([(.int .i64 p0)] : List Value).toArray h (fun r h' => ∃ r0 : ByteArray, r = tup [(.string r0)] ∧ K r0 h') := by
  refine ACall.enter (fn := Tryz.f50) Tryz.func50 rfl (Nat.le_of_ble_eq_true rfl) ?_
  unfold S50 at hS
  have ok := Lok.nil h
  change EvC _ _ _ _ (H.add h []) _
  refine EvC.seq ?_
  refine EvC.region [Item.look 0] (by kernel_rfl) ?_
  refine R.look rfl rfl rfl (Lk.assign rfl rfl) fun _ => ?_
  refine R.nil ?_
  refine EvC.seq ?_
  refine EvC.seq ?_
  refine EvC.region [Item.look 0, Item.look 1] (by kernel_rfl) ?_
  refine R.look rfl rfl rfl (Lk.move rfl rfl) fun _ => ?_
  refine R.look rfl rfl rfl (Lk.arith rfl rfl rfl rfl) fun _ => ?_
  refine R.nil ?_
  by_cases e1 : (p0 == (-9223372036854775808)) = true
  · rw [if_pos e1] at hS
    refine EvC.condT rfl e1 ?_
    refine EvC.seq ?_
    refine EvC.region [Item.look 0] (by kernel_rfl) ?_
    refine R.look rfl rfl rfl (Lk.assign rfl rfl) fun _ => ?_
    refine R.nil ?_
    refine EvC.ret ?_
    exact ⟨.inr rfl, _, _, (.cons (.tmp rfl) .nil), ok.le, _, rfl, hS⟩
  · rw [if_neg e1] at hS
    replace e1 := eq_false_of_ne_true e1
    refine EvC.condF rfl e1 ?_
    refine EvC.skip ?_
    refine EvC.seq ?_
    refine EvC.seq ?_
    refine EvC.region [Item.look 0, Item.look 1] (by kernel_rfl) ?_
    refine R.look rfl rfl rfl (Lk.move rfl rfl) fun _ => ?_
    refine R.look rfl rfl rfl (Lk.arith rfl rfl rfl rfl) fun _ => ?_
    refine R.nil ?_
    by_cases e2 : (decide (p0 < 0)) = true
    · rw [if_pos e2] at hS
      exact hS.elim
    · rw [if_neg e2] at hS
      replace e2 := eq_false_of_ne_true e2
      refine EvC.condF rfl e2 ?_
      refine EvC.skip ?_
      refine EvC.seq ?_
      refine EvC.region [Item.look 0, Item.look 1, Item.look 2, Item.look 3, Item.alc 4, Item.look 5, Item.look 6] (by kernel_rfl) ?_
      refine R.look rfl rfl rfl (Lk.move rfl rfl) fun _ => ?_
      refine R.look rfl rfl rfl (Lk.rem (j := 10) rfl rfl rfl (by decide)) fun _ => ?_
      refine R.look rfl rfl rfl (Lk.arith rfl rfl rfl rfl) fun _ => ?_
      refine R.look rfl rfl rfl (Lk.conv rfl Tryz.underlying3 Tryz.underlying5 rfl) fun _ => ?_
      refine R.new (blk := (.row ⟨[(.int .u8 (IntKind.wrap .u8 (IntKind.wrap .i64 (48 + (Int.tmod p0 10)))))], 1, 5, true, true⟩)) ok rfl rfl rfl (Ac.buildSlice (cs := [(.int .u8 (IntKind.wrap .u8 (IntKind.wrap .i64 (48 + (Int.tmod p0 10)))))]) rfl Tryz.underlying50 T5 (by decide) (by decide) rfl rfl) rfl rfl fun b18 e4 ok => ?_
      replace hS := hS b18 _ e4 rfl
      obtain ⟨v19, e5, hS⟩ := hS
      refine R.look rfl rfl rfl (Look.loc ok (Lk.toStr rfl Tryz.underlying50 Tryz.underlying9 Tryz.underlying5 rfl e5)) fun _ => ?_
      refine R.look rfl rfl rfl (Lk.assign rfl rfl) fun _ => ?_
      refine R.nil ?_
      refine EvC.join (σ := ByteArray) (fun s => (Env.put Env.emp 4 (.string s))) (fun s => []) (fun s h_3 => S50_j1 K s h_3) ?_ (fun Ih_3 hIh_3 => ?_)
      · intro v4 h_3 ok hS
        replace hS : S50_j1 K v4 h_3 := hS
        change EvC _ _ _ (Env.put Env.emp 4 (.string v4)) (H.add h_3 []) _
        unfold S50_j1 at hS
        refine EvC.seq ?_
        refine EvC.region [Item.look 0, Item.look 1] (by kernel_rfl) ?_
        refine R.look rfl rfl rfl (Lk.move rfl rfl) fun _ => ?_
        refine R.look rfl rfl rfl (Lk.assign rfl rfl) fun _ => ?_
        refine R.nil ?_
        refine EvC.ret ?_
        exact ⟨.inr rfl, _, _, (.cons (.tmp rfl) .nil), ok.le, _, rfl, hS⟩
      · refine EvC.seq ?_
        refine EvC.region [Item.look 0, Item.look 1, Item.look 2] (by kernel_rfl) ?_
        refine R.look rfl rfl rfl (Lk.move rfl rfl) fun _ => ?_
        refine R.look rfl rfl rfl (Lk.quo (j := 10) rfl rfl rfl (by decide)) fun _ => ?_
        refine R.look rfl rfl rfl (Lk.assign rfl rfl) fun _ => ?_
        refine R.nil ?_
        refine EvC.block ?_
        refine EvC.loop ?_
        refine LoopC.lfp (σ := Int × ByteArray) (fun s => (Env.put (Env.put Env.emp 4 (.string s.2)) 0 (.int .i64 s.1))) (fun s => []) (fun X hX => ?_) hS (ok.sub List.Sublist.slnil) (Env.le_put rfl (Env.le_put rfl (Env.le_emp _))) (H.add_sub ok List.Sublist.slnil)
        rintro ⟨v0, v4_1⟩ h_4 hS ok
        replace hS : S50_l2 K X v0 v4_1 h_4 := hS
        change EvC _ _ _ (Env.put (Env.put Env.emp 4 (.string v4_1)) 0 (.int .i64 v0)) (H.add h_4 []) _
        unfold S50_l2 at hS
        refine EvC.seq ?_
        refine EvC.seq ?_
        refine EvC.region [Item.look 0, Item.look 1] (by kernel_rfl) ?_
        refine R.look rfl rfl rfl (Lk.move rfl rfl) fun _ => ?_
        refine R.look rfl rfl rfl (Lk.arith rfl rfl rfl rfl) fun _ => ?_
        refine R.nil ?_
        by_cases e6 : (decide (v0 > 0)) = true
        · rw [if_pos e6] at hS
          refine EvC.condT rfl e6 ?_
          refine EvC.skip ?_
          refine EvC.seq ?_
          refine EvC.block ?_
          refine EvC.region [Item.look 0, Item.look 1, Item.look 2, Item.look 3, Item.alc 4, Item.look 5, Item.look 6, Item.look 7, Item.look 8] (by kernel_rfl) ?_
          refine R.look rfl rfl rfl (Lk.move rfl rfl) fun _ => ?_
          refine R.look rfl rfl rfl (Lk.rem (j := 10) rfl rfl rfl (by decide)) fun _ => ?_
          refine R.look rfl rfl rfl (Lk.arith rfl rfl rfl rfl) fun _ => ?_
          refine R.look rfl rfl rfl (Lk.conv rfl Tryz.underlying3 Tryz.underlying5 rfl) fun _ => ?_
          refine R.new (blk := (.row ⟨[(.int .u8 (IntKind.wrap .u8 (IntKind.wrap .i64 (48 + (Int.tmod v0 10)))))], 1, 5, true, true⟩)) ok rfl rfl rfl (Ac.buildSlice (cs := [(.int .u8 (IntKind.wrap .u8 (IntKind.wrap .i64 (48 + (Int.tmod v0 10)))))]) rfl Tryz.underlying50 T5 (by decide) (by decide) rfl rfl) rfl rfl fun b30 e7 ok => ?_
          replace hS := hS b30 _ e7 rfl
          obtain ⟨v31, e8, hS⟩ := hS
          refine R.look rfl rfl rfl (Look.loc ok (Lk.toStr rfl Tryz.underlying50 Tryz.underlying9 Tryz.underlying5 rfl e8)) fun _ => ?_
          refine R.look rfl rfl rfl (Lk.move rfl rfl) fun _ => ?_
          obtain ⟨e9, hS⟩ := hS
          refine R.look rfl rfl rfl (Lk.strAdd rfl rfl rfl e9) fun _ => ?_
          refine R.look rfl rfl rfl (Lk.assign rfl rfl) fun _ => ?_
          refine R.nil ?_
          refine EvC.region [Item.look 0, Item.look 1, Item.look 2] (by kernel_rfl) ?_
          refine R.look rfl rfl rfl (Lk.move rfl rfl) fun _ => ?_
          refine R.look rfl rfl rfl (Lk.quo (j := 10) rfl rfl rfl (by decide)) fun _ => ?_
          refine R.look rfl rfl rfl (Lk.assign rfl rfl) fun _ => ?_
          refine R.nil ?_
          exact hX ((IntKind.wrap .i64 (Int.tdiv v0 10)), (v31 ++ v4_1)) _ _ _ hS (ok.sub List.Sublist.slnil) (Env.le_put rfl (Env.le_put rfl (Env.le_emp _))) (H.add_sub ok List.Sublist.slnil)
        · rw [if_neg e6] at hS
          replace e6 := eq_false_of_ne_true e6
          refine EvC.condF rfl e6 ?_
          refine EvC.exit ?_
          exact hIh_3 v4_1 _ _ _ (Env.le_put rfl (Env.le_emp _)) (ok.sub List.Sublist.slnil) (H.add_sub ok List.Sublist.slnil) hS
end Go.Proofs.YtimadnngfhbfiaaGreatDoor
end

section
namespace Go.Proofs.YtimadnngfhbfiaaGreatDoor
open Go Go.Mu
set_option maxHeartbeats 4000000
set_option maxRecDepth 100000
theorem f98_ok {p0 : Int} {h : H} {K : Bool → H → Prop} (hS : S98 p0 h K) : ACall Tryz.prog 98 ([(i6 p0)] : List Value).toArray h (fun r h' => ∃ r0 : Bool, r = tup [(.bool r0)] ∧ K r0 h') := by
  refine ACall.enter (fn := Tryz.f98) Tryz.func98 rfl (Nat.le_of_ble_eq_true rfl) ?_; unfold S98 at hS; have ok := Lok.nil h; refine EvC.seq (Xr [.look 0] (Xa rfl rfl rfl rfl fun _ => ?_)); refine R.nil (EvC.join (σ := Bool) (fun s => (Ep E0 2 (.bool s))) (fun s => []) (fun s h_1 => S98_j1 K s h_1) ?_ (fun Ih_1 hIh_1 => ?_))
  · intro v2 h_1 ok hS; replace hS : S98_j1 K v2 h_1 := hS; unfold S98_j1 at hS; refine EvC.ret ?_; exact ⟨.inr rfl, _, _, (.cons (.tmp rfl) .nil), ok.le, _, rfl, hS⟩
  · refine Xr [.look 0, .look 1, .look 2, .look 3, .look 4, .look 5, .look 6] (Xm rfl rfl rfl rfl fun _ => ?_); refine Xk rfl rfl (Lk.arith rfl rfl rfl rfl) fun _ => ?_; refine Xm rfl rfl rfl rfl fun _ => ?_
    by_cases e1 : (decide (p0 ≥ 0)) = true
    · refine R.lookT rfl rfl rfl rfl e1 rfl (Lk.move rfl rfl) fun _ => R.lookT rfl rfl rfl rfl e1 rfl (Lk.arith rfl rfl rfl rfl) fun _ => Xk rfl rfl (Lk.pick rfl rfl (fun _ => rfl) (fun e => by rw [e1] at e; cases e)) fun _ => Xa rfl rfl rfl rfl fun _ => R.nil ?_; exact hIh_1 ((decide (p0 ≥ 0)) && (decide (p0 ≤ 3))) _ _ _ (lq (by rw [e1]; rfl) (lz _)) (ok.sub sl0) (H.add_sub ok sl0) hS
    · replace e1 := eq_false_of_ne_true e1; refine R.lookF rfl rfl rfl rfl e1 rfl fun _ => R.lookF rfl rfl rfl rfl e1 rfl fun _ => Xk rfl rfl (Lk.pick rfl rfl (fun e => by rw [e1] at e; cases e) (fun _ => rfl)) fun _ => Xa rfl rfl rfl rfl fun _ => R.nil ?_; exact hIh_1 ((decide (p0 ≥ 0)) && (decide (p0 ≤ 3))) _ _ _ (lq (by rw [e1]; rfl) (lz _)) (ok.sub sl0) (H.add_sub ok sl0) hS

theorem f51_ok {p0 : Int} {h : H} {K : ByteArray → H → Prop} (hS : S51 p0 h K) : ACall Tryz.prog 51 ([(i6 p0)] : List Value).toArray h (fun r h' => ∃ r0 : ByteArray, r = tup [(.string r0)] ∧ K r0 h') := by
  refine ACall.enter (fn := Tryz.f51) Tryz.func51 rfl (Nat.le_of_ble_eq_true rfl) ?_; unfold S51 at hS; have ok := Lok.nil h; refine EvC.seq (Xr [.look 0] (Xa rfl rfl rfl rfl fun _ => ?_)); refine R.nil (EvC.seq (Xr [.look 0, .eff 1 [], .look 2] (Xm rfl rfl rfl rfl fun _ => R.eff rfl rfl rfl (Eff.loc ok (Ef.call rfl CB98 rfl ((f98_ok hS).mono ?_)))))); rintro _ h_1 ⟨v5, rfl, hS⟩; refine fun ok => ⟨noChk, ?_⟩; refine Xa rfl rfl rfl rfl fun _ => ?_; refine R.nil (EvC.seq (EvC.seq (Xr [.look 0, .look 1] (Xm rfl rfl rfl rfl fun _ => Xk rfl rfl (Lk.not rfl rfl) fun _ => R.nil ?_))))
  by_cases e1 : (!v5) = true
  · rw [if_pos e1] at hS; refine EvC.condT rfl e1 (EvC.seq (Xr [.look 0] (Xa rfl rfl rfl rfl fun _ => ?_))); refine R.nil (EvC.ret ?_); exact ⟨.inr rfl, _, _, (.cons (.tmp rfl) .nil), ok.le, _, rfl, hS⟩
  · rw [if_neg e1] at hS; replace e1 := eq_false_of_ne_true e1; refine EvC.condF rfl e1 (EvC.skip (EvC.seq (Xr [.alc 0, .look 1, .look 2, .look 3, .look 4] (R.new (blk := (.row ⟨[(.string ⟨#[69]⟩), (.string ⟨#[78]⟩), (.string ⟨#[87]⟩), (.string ⟨#[83]⟩)], 4, 9, true, true⟩)) ok rfl rfl rfl (Ac.buildSlice (cs := [(.string ⟨#[69]⟩), (.string ⟨#[78]⟩), (.string ⟨#[87]⟩), (.string ⟨#[83]⟩)]) rfl Tryz.underlying55 T9 (by decide) (by decide) rfl rfl) rfl rfl fun b8 e2 ok => ?_)))); replace hS := hS b8 _ e2 rfl; refine Xm rfl rfl rfl rfl fun _ => ?_
    obtain ⟨a10, e3, e4, e5, hS⟩ := hS
    refine Xk rfl rfl (Lk.ixAddr rfl Tryz.underlying55 T9 rfl e3 rfl e4 e5) fun _ => ?_
    obtain ⟨v11, e6, hS⟩ := hS
    refine Xk rfl rfl (Look.loc ok (Lk.load1 rfl Tryz.underlying9 rfl rfl e6)) fun _ => ?_; refine Xa rfl rfl rfl rfl fun _ => ?_; refine R.nil (EvC.ret ?_); exact ⟨.inr rfl, _, _, (.cons (.tmp rfl) .nil), ok.le, _, rfl, hS⟩

end Go.Proofs.YtimadnngfhbfiaaGreatDoor
end

section
/- Printed by a program, strings named by hand: the machine's call of muntin/muntinref08.Print does what S20 says. -/
namespace Go.Proofs.YtimadnngfhbfiaaGreatDoor
open Go Go.Mu
set_option maxHeartbeats 4000000
set_option maxRecDepth 100000
theorem f20_ok {p0_0 : Sl} {p0_1 : Sl} {h : H} {K : ByteArray → H → Prop} (hS : S20 p0_0 p0_1 h K) : ACall Tryz.prog 20 ([(.agg ([(.slice p0_0.a p0_0.l p0_0.c), (.slice p0_1.a p0_1.l p0_1.c)] : List Value).toArray)] : List Value).toArray h (fun r h' => ∃ r0 : ByteArray, r = tup [(.string r0)] ∧ K r0 h') := by
  refine ACall.enter (fn := Tryz.f20) Tryz.func20 rfl (Nat.le_of_ble_eq_true rfl) ?_
  unfold S20 at hS
  have ok := Lok.nil h
  change EvC _ _ _ _ (H.add h []) _
  refine EvC.seq ?_
  refine EvC.region [Item.alc 0, Item.look 1] (by kernel_rfl) ?_
  refine R.var (blk := .row ⟨[(.slice p0_0.a p0_0.l p0_0.c), (.slice p0_1.a p0_1.l p0_1.c)], 2, 33, true, true⟩) ok rfl rfl rfl (Ac.box rfl rfl) rfl rfl fun b1 ok => ?_
  refine R.look rfl rfl rfl (Lk.assign rfl rfl) fun _ => ?_
  refine R.nil ?_
  refine EvC.seq ?_
  refine EvC.region [Item.look 0] (by kernel_rfl) ?_
  refine R.look rfl rfl rfl (Lk.assign rfl rfl) fun _ => ?_
  refine R.nil ?_
  refine EvC.join (σ := ByteArray) (fun s => (Env.put (Env.put Env.emp 3 (.string s)) 1 (.pointer (some ⟨b1, 0, none⟩)))) (fun s => [(b1, .row ⟨[(.slice p0_0.a p0_0.l p0_0.c), (.slice p0_1.a p0_1.l p0_1.c)], 2, 33, true, true⟩)]) (fun s h_1 => S20_j5 p0_0 p0_1 K s h_1) ?_ (fun Ih_1 hIh_1 => ?_)
  · intro v3 h_1 ok hS
    replace hS : S20_j5 p0_0 p0_1 K v3 h_1 := hS
    change EvC _ _ _ (Env.put (Env.put Env.emp 3 (.string v3)) 1 (.pointer (some ⟨b1, 0, none⟩))) (H.add h_1 [(b1, .row ⟨[(.slice p0_0.a p0_0.l p0_0.c), (.slice p0_1.a p0_1.l p0_1.c)], 2, 33, true, true⟩)]) _
    unfold S20_j5 at hS
    refine EvC.join (σ := ByteArray) (fun s => (Env.put (Env.put Env.emp 3 (.string s)) 1 (.pointer (some ⟨b1, 0, none⟩)))) (fun s => [(b1, .row ⟨[(.slice p0_0.a p0_0.l p0_0.c), (.slice p0_1.a p0_1.l p0_1.c)], 2, 33, true, true⟩)]) (fun s h_2 => S20_j4 p0_1 K s h_2) ?_ (fun Ih_2 hIh_2 => ?_)
    · intro v3_1 h_2 ok hS
      replace hS : S20_j4 p0_1 K v3_1 h_2 := hS
      change EvC _ _ _ (Env.put (Env.put Env.emp 3 (.string v3_1)) 1 (.pointer (some ⟨b1, 0, none⟩))) (H.add h_2 [(b1, .row ⟨[(.slice p0_0.a p0_0.l p0_0.c), (.slice p0_1.a p0_1.l p0_1.c)], 2, 33, true, true⟩)]) _
      unfold S20_j4 at hS
      refine EvC.seq ?_
      refine EvC.region [Item.look 0, Item.look 1, Item.look 2] (by kernel_rfl) ?_
      refine R.look rfl rfl rfl (Lk.move rfl rfl) fun _ => ?_
      obtain ⟨e1, hS⟩ := hS
      refine R.look rfl rfl rfl (Lk.strAdd rfl rfl rfl e1) fun _ => ?_
      refine R.look rfl rfl rfl (Lk.assign rfl rfl) fun _ => ?_
      refine R.nil ?_
      refine EvC.join (σ := ByteArray) (fun s => (Env.put Env.emp 3 (.string s))) (fun s => []) (fun s h_3 => S20_j1 K s h_3) ?_ (fun Ih_3 hIh_3 => ?_)
      · intro v3_2 h_3 ok hS
        replace hS : S20_j1 K v3_2 h_3 := hS
        change EvC _ _ _ (Env.put Env.emp 3 (.string v3_2)) (H.add h_3 []) _
        unfold S20_j1 at hS
        refine EvC.seq ?_
        refine EvC.region [Item.look 0, Item.look 1, Item.look 2] (by kernel_rfl) ?_
        refine R.look rfl rfl rfl (Lk.move rfl rfl) fun _ => ?_
        obtain ⟨e2, hS⟩ := hS
        refine R.look rfl rfl rfl (Lk.strAdd rfl rfl rfl e2) fun _ => ?_
        refine R.look rfl rfl rfl (Lk.assign rfl rfl) fun _ => ?_
        refine R.nil ?_
        refine EvC.ret ?_
        exact ⟨.inr rfl, _, _, (.cons (.tmp rfl) .nil), ok.le, _, rfl, hS⟩
      · refine EvC.seq ?_
        refine EvC.region [Item.look 0] (by kernel_rfl) ?_
        refine R.look rfl rfl rfl (Lk.assign rfl rfl) fun _ => ?_
        refine R.nil ?_
        refine EvC.block ?_
        refine EvC.loop ?_
        refine LoopC.lfp (σ := ByteArray × Int) (fun s => (Env.put (Env.put (Env.put Env.emp 5 (.int .i64 s.2)) 3 (.string s.1)) 1 (.pointer (some ⟨b1, 0, none⟩)))) (fun s => [(b1, .row ⟨[(.slice p0_0.a p0_0.l p0_0.c), (.slice p0_1.a p0_1.l p0_1.c)], 2, 33, true, true⟩)]) (fun X hX => ?_) hS (ok.sub (.cons_cons _ List.Sublist.slnil)) (Env.le_put rfl (Env.le_put rfl (Env.le_put rfl (Env.le_emp _)))) (H.add_sub ok (.cons_cons _ List.Sublist.slnil))
        rintro ⟨v3_3, v5⟩ h_4 hS ok
        replace hS : S20_l3 p0_1 K X v3_3 v5 h_4 := hS
        change EvC _ _ _ (Env.put (Env.put (Env.put Env.emp 5 (.int .i64 v5)) 3 (.string v3_3)) 1 (.pointer (some ⟨b1, 0, none⟩))) (H.add h_4 [(b1, .row ⟨[(.slice p0_0.a p0_0.l p0_0.c), (.slice p0_1.a p0_1.l p0_1.c)], 2, 33, true, true⟩)]) _
        unfold S20_l3 at hS
        refine EvC.seq ?_
        refine EvC.seq ?_
        refine EvC.region [Item.look 0, Item.look 1, Item.look 2, Item.look 3, Item.look 4] (by kernel_rfl) ?_
        refine R.look rfl rfl rfl (Lk.move rfl rfl) fun _ => ?_
        refine R.look (v := (.pointer (some ⟨b1, 1, none⟩))) rfl rfl rfl (Lk.fldAddr rfl Tryz.underlying33 rfl rfl T31 rfl rfl rfl) fun _ => ?_
        refine R.look rfl rfl rfl (Lk.load1 (v := (.slice p0_1.a p0_1.l p0_1.c)) rfl Tryz.underlying31 rfl rfl (H.rd_loc ok (i := 0) rfl rfl)) fun _ => ?_
        refine R.look rfl rfl rfl (Lk.len rfl Tryz.underlying31 rfl) fun _ => ?_
        refine R.look rfl rfl rfl (Lk.arith rfl rfl rfl rfl) fun _ => ?_
        refine R.nil ?_
        by_cases e3 : (decide (v5 < (p0_1.l : Int))) = true
        · rw [if_pos e3] at hS
          refine EvC.condT rfl e3 ?_
          refine EvC.skip ?_
          refine EvC.seq ?_
          refine EvC.block ?_
          refine EvC.seq ?_
          refine EvC.region [Item.look 0, Item.look 1, Item.look 2, Item.look 3, Item.look 4, Item.alc 5, Item.eff 6 []] (by kernel_rfl) ?_
          refine R.look (v := (.pointer (some ⟨b1, 1, none⟩))) rfl rfl rfl (Lk.fldAddr rfl Tryz.underlying33 rfl rfl T31 rfl rfl rfl) fun _ => ?_
          refine R.look rfl rfl rfl (Lk.load1 (v := (.slice p0_1.a p0_1.l p0_1.c)) rfl Tryz.underlying31 rfl rfl (H.rd_loc ok (i := 0) rfl rfl)) fun _ => ?_
          refine R.look rfl rfl rfl (Lk.move rfl rfl) fun _ => ?_
          obtain ⟨a44, e4, e5, e6, hS⟩ := hS
          refine R.look rfl rfl rfl (Lk.ixAddr rfl Tryz.underlying31 T61 rfl e4 rfl e5 e6) fun _ => ?_
          obtain ⟨v45_0, v45_1, v45_2, v45_3, e7, hS⟩ := hS
          refine R.look rfl rfl rfl (Look.loc ok (Lk.loadN rfl Tryz.underlying61 rfl T61 rfl e7)) fun _ => ?_
          refine R.var (blk := .row ⟨[(.int .i64 0), (.int .i64 0), (.int .i64 0), (.string ⟨#[]⟩)], 4, 61, true, true⟩) ok rfl rfl rfl (Ac.alloc rfl T61) rfl rfl fun b6 ok => ?_
          refine R.effN rfl rfl rfl (Ef.storeLoc (i := 0) (vs := [(.int .i64 v45_0), (.int .i64 v45_1), (.int .i64 v45_2), (.string v45_3)]) (cs := [(.int .i64 v45_0), (.int .i64 v45_1), (.int .i64 v45_2), (.string v45_3)]) (l' := [(b6, .row ⟨[(.int .i64 v45_0), (.int .i64 v45_1), (.int .i64 v45_2), (.string v45_3)], 4, 61, true, true⟩), (b1, .row ⟨[(.slice p0_0.a p0_0.l p0_0.c), (.slice p0_1.a p0_1.l p0_1.c)], 2, 33, true, true⟩)]) ok rfl T61 rfl rfl rfl rfl rfl rfl rfl rfl rfl rfl fun ok => ⟨noChk, ?_⟩)
          refine R.nil ?_
          refine EvC.seq ?_
          refine EvC.region [Item.look 0, Item.look 1, Item.eff 2 [], Item.look 3] (by kernel_rfl) ?_
          refine R.look (v := (.pointer (some ⟨b6, 0, none⟩))) rfl rfl rfl (Lk.fldAddr rfl Tryz.underlying61 rfl rfl T3 rfl rfl rfl) fun _ => ?_
          refine R.look rfl rfl rfl (Lk.load1 (v := (.int .i64 v45_0)) rfl Tryz.underlying3 rfl rfl (H.rd_loc ok (i := 0) rfl rfl)) fun _ => ?_
          refine R.eff rfl rfl rfl (Eff.loc ok (Ef.call rfl CB50 rfl ((f50_ok hS).mono ?_)))
          rintro _ h_5 ⟨v48, rfl, hS⟩
          refine fun ok => ⟨noChk, ?_⟩
          refine R.look rfl rfl rfl (Lk.assign rfl rfl) fun _ => ?_
          refine R.nil ?_
          refine EvC.seq ?_
          refine EvC.region [Item.look 0, Item.look 1, Item.eff 2 [], Item.look 3] (by kernel_rfl) ?_
          refine R.look (v := (.pointer (some ⟨b6, 1, none⟩))) rfl rfl rfl (Lk.fldAddr rfl Tryz.underlying61 rfl rfl T3 rfl rfl rfl) fun _ => ?_
          refine R.look rfl rfl rfl (Lk.load1 (v := (.int .i64 v45_1)) rfl Tryz.underlying3 rfl rfl (H.rd_loc ok (i := 0) rfl rfl)) fun _ => ?_
          refine R.eff rfl rfl rfl (Eff.loc ok (Ef.call rfl CB50 rfl ((f50_ok hS).mono ?_)))
          rintro _ h_6 ⟨v51, rfl, hS⟩
          refine fun ok => ⟨noChk, ?_⟩
          refine R.look rfl rfl rfl (Lk.assign rfl rfl) fun _ => ?_
          refine R.nil ?_
          refine EvC.seq ?_
          refine EvC.region [Item.look 0, Item.look 1, Item.eff 2 [], Item.look 3] (by kernel_rfl) ?_
          refine R.look (v := (.pointer (some ⟨b6, 2, none⟩))) rfl rfl rfl (Lk.fldAddr rfl Tryz.underlying61 rfl rfl T3 rfl rfl rfl) fun _ => ?_
          refine R.look rfl rfl rfl (Lk.load1 (v := (.int .i64 v45_2)) rfl Tryz.underlying3 rfl rfl (H.rd_loc ok (i := 0) rfl rfl)) fun _ => ?_
          refine R.eff rfl rfl rfl (Eff.loc ok (Ef.call rfl CB51 rfl ((f51_ok hS).mono ?_)))
          rintro _ h_7 ⟨v54, rfl, hS⟩
          refine fun ok => ⟨noChk, ?_⟩
          refine R.look rfl rfl rfl (Lk.assign rfl rfl) fun _ => ?_
          refine R.nil ?_
          refine EvC.seq ?_
          refine EvC.region [Item.look 0, Item.look 1, Item.look 2, Item.look 3, Item.look 4, Item.look 5, Item.look 6, Item.look 7, Item.look 8, Item.look 9] (by kernel_rfl) ?_
          refine R.look rfl rfl rfl (Lk.move rfl rfl) fun _ => ?_
          refine R.look rfl rfl rfl (Lk.move rfl rfl) fun _ => ?_
          obtain ⟨e8, hS⟩ := hS
          refine R.look rfl rfl rfl (Lk.strAdd rfl rfl rfl e8) fun _ => ?_
          generalize (v3_3 : ByteArray) ++ v48 = t1 at hS ⊢
          obtain ⟨e9, hS⟩ := hS
          refine R.look rfl rfl rfl (Lk.strAdd rfl rfl rfl e9) fun _ => ?_
          generalize (t1 : ByteArray) ++ ⟨#[32]⟩ = t2 at hS ⊢
          refine R.look rfl rfl rfl (Lk.move rfl rfl) fun _ => ?_
          obtain ⟨e10, hS⟩ := hS
          refine R.look rfl rfl rfl (Lk.strAdd rfl rfl rfl e10) fun _ => ?_
          generalize (t2 : ByteArray) ++ v54 = t3 at hS ⊢
          obtain ⟨e11, hS⟩ := hS
          refine R.look rfl rfl rfl (Lk.strAdd rfl rfl rfl e11) fun _ => ?_
          generalize (t3 : ByteArray) ++ ⟨#[32]⟩ = t4 at hS ⊢
          refine R.look rfl rfl rfl (Lk.move rfl rfl) fun _ => ?_
          obtain ⟨e12, hS⟩ := hS
          refine R.look rfl rfl rfl (Lk.strAdd rfl rfl rfl e12) fun _ => ?_
          generalize (t4 : ByteArray) ++ v51 = t5 at hS ⊢
          refine R.look rfl rfl rfl (Lk.assign rfl rfl) fun _ => ?_
          refine R.nil ?_
          refine EvC.join (σ := ByteArray) (fun s => (Env.put (Env.put (Env.put Env.emp 5 (.int .i64 v5)) 3 (.string s)) 1 (.pointer (some ⟨b1, 0, none⟩)))) (fun s => [(b1, .row ⟨[(.slice p0_0.a p0_0.l p0_0.c), (.slice p0_1.a p0_1.l p0_1.c)], 2, 33, true, true⟩)]) (fun s h_8 => S20_j2 v5 X s h_8) ?_ (fun Ih_8 hIh_8 => ?_)
          · intro v3_4 h_8 ok hS
            replace hS : S20_j2 v5 X v3_4 h_8 := hS
            change EvC _ _ _ (Env.put (Env.put (Env.put Env.emp 5 (.int .i64 v5)) 3 (.string v3_4)) 1 (.pointer (some ⟨b1, 0, none⟩))) (H.add h_8 [(b1, .row ⟨[(.slice p0_0.a p0_0.l p0_0.c), (.slice p0_1.a p0_1.l p0_1.c)], 2, 33, true, true⟩)]) _
            unfold S20_j2 at hS
            refine EvC.region [Item.look 0, Item.look 1, Item.look 2] (by kernel_rfl) ?_
            refine R.look rfl rfl rfl (Lk.move rfl rfl) fun _ => ?_
            obtain ⟨e13, hS⟩ := hS
            refine R.look rfl rfl rfl (Lk.strAdd rfl rfl rfl e13) fun _ => ?_
            refine R.look rfl rfl rfl (Lk.assign rfl rfl) fun _ => ?_
            refine R.nil ?_
            refine EvC.region [Item.look 0, Item.look 1, Item.look 2] (by kernel_rfl) ?_
            refine R.look rfl rfl rfl (Lk.move rfl rfl) fun _ => ?_
            refine R.look rfl rfl rfl (Lk.arith rfl rfl rfl rfl) fun _ => ?_
            refine R.look rfl rfl rfl (Lk.assign rfl rfl) fun _ => ?_
            refine R.nil ?_
            exact hX ((v3_4 ++ ⟨#[10]⟩), (IntKind.wrap .i64 (v5 + 1))) _ _ _ hS (ok.sub (.cons_cons _ List.Sublist.slnil)) (Env.le_put rfl (Env.le_put rfl (Env.le_put rfl (Env.le_emp _)))) (H.add_sub ok (.cons_cons _ List.Sublist.slnil))
          · refine EvC.seq ?_
            refine EvC.region [Item.look 0, Item.look 1, Item.look 2] (by kernel_rfl) ?_
            refine R.look (v := (.pointer (some ⟨b6, 3, none⟩))) rfl rfl rfl (Lk.fldAddr rfl Tryz.underlying61 rfl rfl T9 rfl rfl rfl) fun _ => ?_
            refine R.look rfl rfl rfl (Lk.load1 (v := (.string v45_3)) rfl Tryz.underlying9 rfl rfl (H.rd_loc ok (i := 0) rfl rfl)) fun _ => ?_
            refine R.look rfl rfl rfl (Lk.strNe rfl rfl rfl) fun _ => ?_
            refine R.nil ?_
            by_cases e14 : (!(ByteArray.toList v45_3 == ByteArray.toList ⟨#[]⟩)) = true
            · rw [if_pos e14] at hS
              refine EvC.condT rfl e14 ?_
              refine EvC.region [Item.look 0, Item.look 1, Item.look 2, Item.look 3, Item.look 4, Item.look 5] (by kernel_rfl) ?_
              refine R.look rfl rfl rfl (Lk.move rfl rfl) fun _ => ?_
              obtain ⟨e15, hS⟩ := hS
              refine R.look rfl rfl rfl (Lk.strAdd rfl rfl rfl e15) fun _ => ?_
              generalize (t5 : ByteArray) ++ ⟨#[32]⟩ = t6 at hS ⊢
              refine R.look (v := (.pointer (some ⟨b6, 3, none⟩))) rfl rfl rfl (Lk.fldAddr rfl Tryz.underlying61 rfl rfl T9 rfl rfl rfl) fun _ => ?_
              refine R.look rfl rfl rfl (Lk.load1 (v := (.string v45_3)) rfl Tryz.underlying9 rfl rfl (H.rd_loc ok (i := 0) rfl rfl)) fun _ => ?_
              obtain ⟨e16, hS⟩ := hS
              refine R.look rfl rfl rfl (Lk.strAdd rfl rfl rfl e16) fun _ => ?_
              generalize (t6 : ByteArray) ++ v45_3 = t7 at hS ⊢
              refine R.look rfl rfl rfl (Lk.assign rfl rfl) fun _ => ?_
              refine R.nil ?_
              exact hIh_8 t7 _ _ _ (Env.le_put rfl (Env.le_put rfl (Env.le_put rfl (Env.le_emp _)))) (ok.sub (.cons _ (.cons_cons _ List.Sublist.slnil))) (H.add_sub ok (.cons _ (.cons_cons _ List.Sublist.slnil))) hS
            · rw [if_neg e14] at hS
              replace e14 := eq_false_of_ne_true e14
              refine EvC.condF rfl e14 ?_
              refine EvC.skip ?_
              exact hIh_8 t5 _ _ _ (Env.le_put rfl (Env.le_put rfl (Env.le_put rfl (Env.le_emp _)))) (ok.sub (.cons _ (.cons_cons _ List.Sublist.slnil))) (H.add_sub ok (.cons _ (.cons_cons _ List.Sublist.slnil))) hS
        · rw [if_neg e3] at hS
          replace e3 := eq_false_of_ne_true e3
          refine EvC.condF rfl e3 ?_
          refine EvC.exit ?_
          exact hIh_3 v3_3 _ _ _ (Env.le_put rfl (Env.le_emp _)) (ok.sub (.cons _ List.Sublist.slnil)) (H.add_sub ok (.cons _ List.Sublist.slnil)) hS
    · refine EvC.seq ?_
      refine EvC.region [Item.look 0, Item.look 1, Item.look 2, Item.look 3] (by kernel_rfl) ?_
      refine R.look (v := (.pointer (some ⟨b1, 0, none⟩))) rfl rfl rfl (Lk.fldAddr rfl Tryz.underlying33 rfl rfl T30 rfl rfl rfl) fun _ => ?_
      refine R.look rfl rfl rfl (Lk.load1 (v := (.slice p0_0.a p0_0.l p0_0.c)) rfl Tryz.underlying30 rfl rfl (H.rd_loc ok (i := 0) rfl rfl)) fun _ => ?_
      refine R.look rfl rfl rfl (Lk.len rfl Tryz.underlying30 rfl) fun _ => ?_
      refine R.look rfl rfl rfl (Lk.arith rfl rfl rfl rfl) fun _ => ?_
      refine R.nil ?_
      by_cases e17 : ((p0_0.l : Int) == 0) = true
      · rw [if_pos e17] at hS
        refine EvC.condT rfl e17 ?_
        refine EvC.region [Item.look 0, Item.look 1, Item.look 2] (by kernel_rfl) ?_
        refine R.look rfl rfl rfl (Lk.move rfl rfl) fun _ => ?_
        obtain ⟨e18, hS⟩ := hS
        refine R.look rfl rfl rfl (Lk.strAdd rfl rfl rfl e18) fun _ => ?_
        refine R.look rfl rfl rfl (Lk.assign rfl rfl) fun _ => ?_
        refine R.nil ?_
        exact hIh_2 (v3 ++ ⟨#[45]⟩) _ _ _ (Env.le_put rfl (Env.le_put rfl (Env.le_emp _))) (ok.sub (.cons_cons _ List.Sublist.slnil)) (H.add_sub ok (.cons_cons _ List.Sublist.slnil)) hS
      · rw [if_neg e17] at hS
        replace e17 := eq_false_of_ne_true e17
        refine EvC.condF rfl e17 ?_
        refine EvC.skip ?_
        exact hIh_2 v3 _ _ _ (Env.le_put rfl (Env.le_put rfl (Env.le_emp _))) (ok.sub (.cons_cons _ List.Sublist.slnil)) (H.add_sub ok (.cons_cons _ List.Sublist.slnil)) hS
  · refine EvC.seq ?_
    refine EvC.region [Item.look 0] (by kernel_rfl) ?_
    refine R.look rfl rfl rfl (Lk.assign rfl rfl) fun _ => ?_
    refine R.nil ?_
    refine EvC.block ?_
    refine EvC.loop ?_
    refine LoopC.lfp (σ := ByteArray × Int) (fun s => (Env.put (Env.put (Env.put Env.emp 4 (.int .i64 s.2)) 3 (.string s.1)) 1 (.pointer (some ⟨b1, 0, none⟩)))) (fun s => [(b1, .row ⟨[(.slice p0_0.a p0_0.l p0_0.c), (.slice p0_1.a p0_1.l p0_1.c)], 2, 33, true, true⟩)]) (fun X_1 hX_1 => ?_) hS (ok.sub (.cons_cons _ List.Sublist.slnil)) (Env.le_put rfl (Env.le_put rfl (Env.le_put rfl (Env.le_emp _)))) (H.add_sub ok (.cons_cons _ List.Sublist.slnil))
    rintro ⟨v3_5, v4⟩ h_9 hS ok
    replace hS : S20_l7 p0_0 p0_1 K X_1 v3_5 v4 h_9 := hS
    change EvC _ _ _ (Env.put (Env.put (Env.put Env.emp 4 (.int .i64 v4)) 3 (.string v3_5)) 1 (.pointer (some ⟨b1, 0, none⟩))) (H.add h_9 [(b1, .row ⟨[(.slice p0_0.a p0_0.l p0_0.c), (.slice p0_1.a p0_1.l p0_1.c)], 2, 33, true, true⟩)]) _
    unfold S20_l7 at hS
    refine EvC.seq ?_
    refine EvC.seq ?_
    refine EvC.region [Item.look 0, Item.look 1, Item.look 2, Item.look 3, Item.look 4] (by kernel_rfl) ?_
    refine R.look rfl rfl rfl (Lk.move rfl rfl) fun _ => ?_
    refine R.look (v := (.pointer (some ⟨b1, 0, none⟩))) rfl rfl rfl (Lk.fldAddr rfl Tryz.underlying33 rfl rfl T30 rfl rfl rfl) fun _ => ?_
    refine R.look rfl rfl rfl (Lk.load1 (v := (.slice p0_0.a p0_0.l p0_0.c)) rfl Tryz.underlying30 rfl rfl (H.rd_loc ok (i := 0) rfl rfl)) fun _ => ?_
    refine R.look rfl rfl rfl (Lk.len rfl Tryz.underlying30 rfl) fun _ => ?_
    refine R.look rfl rfl rfl (Lk.arith rfl rfl rfl rfl) fun _ => ?_
    refine R.nil ?_
    by_cases e19 : (decide (v4 < (p0_0.l : Int))) = true
    · rw [if_pos e19] at hS
      refine EvC.condT rfl e19 ?_
      refine EvC.skip ?_
      refine EvC.join (σ := ByteArray) (fun s => (Env.put (Env.put (Env.put Env.emp 4 (.int .i64 v4)) 3 (.string s)) 1 (.pointer (some ⟨b1, 0, none⟩)))) (fun s => [(b1, .row ⟨[(.slice p0_0.a p0_0.l p0_0.c), (.slice p0_1.a p0_1.l p0_1.c)], 2, 33, true, true⟩)]) (fun s h_10 => S20_j6 v4 X_1 s h_10) ?_ (fun Ih_10 hIh_10 => ?_)
      · intro v3_6 h_10 ok hS
        replace hS : S20_j6 v4 X_1 v3_6 h_10 := hS
        change EvC _ _ _ (Env.put (Env.put (Env.put Env.emp 4 (.int .i64 v4)) 3 (.string v3_6)) 1 (.pointer (some ⟨b1, 0, none⟩))) (H.add h_10 [(b1, .row ⟨[(.slice p0_0.a p0_0.l p0_0.c), (.slice p0_1.a p0_1.l p0_1.c)], 2, 33, true, true⟩)]) _
        unfold S20_j6 at hS
        refine EvC.region [Item.look 0, Item.look 1, Item.look 2] (by kernel_rfl) ?_
        refine R.look rfl rfl rfl (Lk.move rfl rfl) fun _ => ?_
        refine R.look rfl rfl rfl (Lk.arith rfl rfl rfl rfl) fun _ => ?_
        refine R.look rfl rfl rfl (Lk.assign rfl rfl) fun _ => ?_
        refine R.nil ?_
        exact hX_1 (v3_6, (IntKind.wrap .i64 (v4 + 1))) _ _ _ hS (ok.sub (.cons_cons _ List.Sublist.slnil)) (Env.le_put rfl (Env.le_put rfl (Env.le_put rfl (Env.le_emp _)))) (H.add_sub ok (.cons_cons _ List.Sublist.slnil))
      · refine EvC.block ?_
        refine EvC.seq ?_
        refine EvC.region [Item.look 0, Item.look 1, Item.look 2, Item.look 3, Item.look 4] (by kernel_rfl) ?_
        refine R.look (v := (.pointer (some ⟨b1, 0, none⟩))) rfl rfl rfl (Lk.fldAddr rfl Tryz.underlying33 rfl rfl T30 rfl rfl rfl) fun _ => ?_
        refine R.look rfl rfl rfl (Lk.load1 (v := (.slice p0_0.a p0_0.l p0_0.c)) rfl Tryz.underlying30 rfl rfl (H.rd_loc ok (i := 0) rfl rfl)) fun _ => ?_
        refine R.look rfl rfl rfl (Lk.move rfl rfl) fun _ => ?_
        obtain ⟨a20, e20, e21, e22, hS⟩ := hS
        refine R.look rfl rfl rfl (Lk.ixAddr rfl Tryz.underlying30 T4 rfl e20 rfl e21 e22) fun _ => ?_
        obtain ⟨v21, e23, hS⟩ := hS
        refine R.look rfl rfl rfl (Look.loc ok (Lk.load1 rfl Tryz.underlying4 rfl rfl e23)) fun _ => ?_
        refine R.nil ?_
        by_cases e24 : v21 = true
        · rw [if_pos e24] at hS
          refine EvC.condT rfl e24 ?_
          refine EvC.region [Item.look 0, Item.look 1, Item.look 2] (by kernel_rfl) ?_
          refine R.look rfl rfl rfl (Lk.move rfl rfl) fun _ => ?_
          obtain ⟨e25, hS⟩ := hS
          refine R.look rfl rfl rfl (Lk.strAdd rfl rfl rfl e25) fun _ => ?_
          refine R.look rfl rfl rfl (Lk.assign rfl rfl) fun _ => ?_
          refine R.nil ?_
          exact hIh_10 (v3_5 ++ ⟨#[98]⟩) _ _ _ (Env.le_put rfl (Env.le_put rfl (Env.le_put rfl (Env.le_emp _)))) (ok.sub (.cons_cons _ List.Sublist.slnil)) (H.add_sub ok (.cons_cons _ List.Sublist.slnil)) hS
        · rw [if_neg e24] at hS
          replace e24 := eq_false_of_ne_true e24
          refine EvC.condF rfl e24 ?_
          refine EvC.region [Item.look 0, Item.look 1, Item.look 2] (by kernel_rfl) ?_
          refine R.look rfl rfl rfl (Lk.move rfl rfl) fun _ => ?_
          obtain ⟨e26, hS⟩ := hS
          refine R.look rfl rfl rfl (Lk.strAdd rfl rfl rfl e26) fun _ => ?_
          refine R.look rfl rfl rfl (Lk.assign rfl rfl) fun _ => ?_
          refine R.nil ?_
          exact hIh_10 (v3_5 ++ ⟨#[112]⟩) _ _ _ (Env.le_put rfl (Env.le_put rfl (Env.le_put rfl (Env.le_emp _)))) (ok.sub (.cons_cons _ List.Sublist.slnil)) (H.add_sub ok (.cons_cons _ List.Sublist.slnil)) hS
    · rw [if_neg e19] at hS
      replace e19 := eq_false_of_ne_true e19
      refine EvC.condF rfl e19 ?_
      refine EvC.exit ?_
      exact hIh_1 v3_5 _ _ _ (Env.le_put rfl (Env.le_put rfl (Env.le_emp _))) (ok.sub (.cons_cons _ List.Sublist.slnil)) (H.add_sub ok (.cons_cons _ List.Sublist.slnil)) hS
end Go.Proofs.YtimadnngfhbfiaaGreatDoor
end

section
namespace Go.Proofs.YtimadnngfhbfiaaGreatDoor
open Go Go.Mu
set_option maxHeartbeats 4000000
set_option maxRecDepth 100000
theorem f21_ok {p0 : ByteArray} {p1 : ByteArray} {h : H} {K : Sl → H → Prop} (hS : S21 p0 p1 h K) : ACall Tryz.prog 21 ([(.string p0), (.string p1)] : List Value).toArray h (fun r h' => ∃ r0 : Sl, r = tup [(.slice r0.a r0.l r0.c)] ∧ K r0 h') := by
  refine ACall.enter (fn := Tryz.f21) Tryz.func21 rfl (Nat.le_of_ble_eq_true rfl) ?_; unfold S21 at hS; have ok := Lok.nil h; refine EvC.seq (Xr [.look 0] (Xa rfl rfl rfl rfl fun _ => ?_)); refine R.nil (EvC.seq (Xr [.look 0, .look 1, .look 2, .look 3, .eff 4 [], .look 5] (Xm rfl rfl rfl rfl fun _ => Xm rfl rfl rfl rfl fun _ => Xm rfl rfl rfl rfl fun _ => Xk rfl rfl (Lk.lenS rfl Tryz.underlying9 rfl) fun _ => R.eff rfl rfl rfl (Eff.loc ok (Ef.call rfl CB52 rfl ((f52_ok hS).mono ?_)))))); rintro _ h_1 ⟨v9, rfl, hS⟩; refine fun ok => ⟨noChk, ?_⟩; refine Xa rfl rfl rfl rfl fun _ => ?_; refine R.nil (EvC.ret ?_); exact ⟨.inr rfl, _, _, (.cons (.tmp rfl) .nil), ok.le, _, rfl, hS⟩

end Go.Proofs.YtimadnngfhbfiaaGreatDoor
end

section
/-
  The library's Replace, as the kit's shelf lays it.
-/
namespace Go.Proofs
open Go.Shelf
def Tryz.lays154_ren : Go.Shelf.Ren := ⟨fun | 154 => 24 | 138 => 17 | 165 => 54 | 143 => 47 | 166 => 55 | 197 => 57 | 169 => 56 | 195 => 45 | 218 => 46 | 240 => 101 | 241 => 102 | 219 => 95 | 260 => 103 | 276 => 140 | 277 => 141 | 217 => 135 | 225 => 136 | 224 => 137 | 267 => 138 | 266 => 167 | 314 => 168 | n => n, fun | 9 => 9 | 3 => 3 | 4 => 4 | 72 => 109 | 0 => 0 | 76 => 113 | 105 => 116 | 21 => 21 | 5 => 5 | 70 => 107 | 20 => 20 | 37 => 50 | 75 => 112 | 127 => 154 | 164 => 194 | 46 => 120 | 119 => 197 | 139 => 200 | 138 => 199 | 146 => 157 | 51 => 156 | 80 => 115 | n => n, fun | 1 => 0 | 3 => 1 | 4 => 2 | n => n⟩
theorem Tryz.lays154 : Go.Proofs.Lays.n154 Tryz.prog Tryz.lays154_ren := {
  mixed := by kernel_rfl
  f138 := Tryz.func17.trans (congrArg some (by kernel_rfl))
  f143 := Tryz.func47.trans (congrArg some (by kernel_rfl))
  f154 := Tryz.func24.trans (congrArg some (by kernel_rfl))
  f165 := Tryz.func54.trans (congrArg some (by kernel_rfl))
  f166 := Tryz.func55.trans (congrArg some (by kernel_rfl))
  f169 := Tryz.func56.trans (congrArg some (by kernel_rfl))
  f195 := Tryz.func45.trans (congrArg some (by kernel_rfl))
  f197 := Tryz.func57.trans (congrArg some (by kernel_rfl))
  f217 := Tryz.func135.trans (congrArg some (by kernel_rfl))
  f218 := Tryz.func46.trans (congrArg some (by kernel_rfl))
  f219 := Tryz.func95.trans (congrArg some (by kernel_rfl))
  f224 := Tryz.func137.trans (congrArg some (by kernel_rfl))
  f225 := Tryz.func136.trans (congrArg some (by kernel_rfl))
  f240 := Tryz.func101.trans (congrArg some (by kernel_rfl))
  f241 := Tryz.func102.trans (congrArg some (by kernel_rfl))
  f260 := Tryz.func103.trans (congrArg some (by kernel_rfl))
  f266 := Tryz.func167.trans (congrArg some (by kernel_rfl))
  f267 := Tryz.func138.trans (congrArg some (by kernel_rfl))
  f276 := Tryz.func140.trans (congrArg some (by kernel_rfl))
  f277 := Tryz.func141.trans (congrArg some (by kernel_rfl))
  f314 := Tryz.func168.trans (congrArg some (by kernel_rfl))
  t0 := Tryz.underlying0
  a0 := Tryz.isAgg0
  z0 := Tryz.sizeOf0
  v0 := Tryz.zeroValue0
  t3 := Tryz.underlying3
  a3 := Tryz.isAgg3
  z3 := Tryz.sizeOf3
  v3 := Tryz.zeroValue3
  t4 := Tryz.underlying4
  a4 := Tryz.isAgg4
  z4 := Tryz.sizeOf4
  v4 := Tryz.zeroValue4
  t5 := Tryz.underlying5
  a5 := Tryz.isAgg5
  z5 := Tryz.sizeOf5
  v5 := Tryz.zeroValue5
  t9 := Tryz.underlying9
  a9 := Tryz.isAgg9
  z9 := Tryz.sizeOf9
  v9 := Tryz.zeroValue9
  t20 := Tryz.underlying20
  a20 := Tryz.isAgg20
  z20 := Tryz.sizeOf20
  v20 := Tryz.zeroValue20
  t21 := Tryz.underlying21
  a21 := Tryz.isAgg21
  z21 := Tryz.sizeOf21
  v21 := Tryz.zeroValue21
  t37 := Tryz.underlying50
  a37 := Tryz.isAgg50
  z37 := Tryz.sizeOf50
  v37 := Tryz.zeroValue50
  t46 := Tryz.underlying120
  a46 := Tryz.isAgg120
  z46 := Tryz.sizeOf120
  v46 := Tryz.zeroValue120
  t51 := Tryz.underlying156
  a51 := Tryz.isAgg156
  z51 := Tryz.sizeOf156
  v51 := Tryz.zeroValue156
  t70 := Tryz.underlying107
  a70 := Tryz.isAgg107
  z70 := Tryz.sizeOf107
  v70 := Tryz.zeroValue107
  t72 := Tryz.underlying109
  a72 := Tryz.isAgg109
  z72 := Tryz.sizeOf109
  v72 := Tryz.zeroValue109
  t75 := Tryz.underlying112
  a75 := Tryz.isAgg112
  z75 := Tryz.sizeOf112
  v75 := Tryz.zeroValue112
  t76 := Tryz.underlying113
  a76 := Tryz.isAgg113
  z76 := Tryz.sizeOf113
  v76 := Tryz.zeroValue113
  t105 := Tryz.underlying116
  a105 := Tryz.isAgg116
  z105 := Tryz.sizeOf116
  v105 := Tryz.zeroValue116
  t119 := Tryz.underlying197
  a119 := Tryz.isAgg197
  z119 := Tryz.sizeOf197
  t127 := Tryz.underlying154
  a127 := Tryz.isAgg154
  z127 := Tryz.sizeOf154
  v127 := Tryz.zeroValue154
  t138 := Tryz.underlying199
  a138 := Tryz.isAgg199
  z138 := Tryz.sizeOf199
  v138 := Tryz.zeroValue199
  t139 := Tryz.underlying200
  a139 := Tryz.isAgg200
  z139 := Tryz.sizeOf200
  v139 := Tryz.zeroValue200
  t146 := Tryz.underlying157
  a146 := Tryz.isAgg157
  z146 := Tryz.sizeOf157
  v146 := Tryz.zeroValue157
  t164 := Tryz.underlying194
  a164 := Tryz.isAgg194
  z164 := Tryz.sizeOf194
  v164 := Tryz.zeroValue194
  g1 := by kernel_rfl
  g3 := by kernel_rfl
  g4 := by kernel_rfl }
theorem Tryz.Builder_Extra_154 : Builder.Extra Tryz.prog Tryz.lays154_ren := {
  sizeBuilder := by kernel_rfl
  liesBuilder := by kernel_rfl
  t5 := Tryz.underlying5
  a5 := Tryz.isAgg5
  z5 := Tryz.sizeOf5
  v5 := Tryz.zeroValue5
  infoByte := by kernel_rfl
  cellsByte := by kernel_rfl
  sizeByte := by kernel_rfl
  neB5 := by decide }
end Go.Proofs
end

section
/- BY HAND: strings.Replace, once, at a line's end. -/
namespace Go.Proofs.YtimadnngfhbfiaaGreatDoor
open Go Go.Mu
theorem f24_ok {p0 p1 p2 : ByteArray} {p3 : Int} {h : H} {K : ByteArray → H → Prop} (hS : S24 p0 p1 p2 p3 h K) : ACall Tryz.prog 24 ([(.string p0), (.string p1), (.string p2), (.int .i64 p3)] : List Value).toArray h (fun r h' => ∃ r0 : ByteArray, r = tup [(.string r0)] ∧ K r0 h') := by
  obtain ⟨h1, rfl, rfl, rfl, ⟨m, hm⟩, k⟩ := hS
  have hle := Lib.countB_le ⟨#[10]⟩ (Nat.le_refl 1) p0.size p0 (Nat.le_refl _)
  have e1 : ByteArray.size ⟨#[32]⟩ = 1 := rfl
  exact ACall.below (fun w s => Any.strings_Replace Tryz.lays154 Tryz.Builder_Extra_154 p0 ⟨#[10]⟩ ⟨#[32]⟩ 1 m w (by omega) (s.rd hm) (Nat.le_refl 1) (by rw [e1]; omega)) ⟨_, rfl, k⟩
end Go.Proofs.YtimadnngfhbfiaaGreatDoor
end
