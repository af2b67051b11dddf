/-
  PROVED HERE: 'muntinlaw27.TraceMany' answers true whatever the three numbers, and what was handed in reads as it did. Conditions: the package variables that the row lists hold what the program's text lays (the proof reads none of them).
  Part 3 of 6.
-/
import Derived.Test.YtimadnngfhbfiaaGreatDoorTmB
import Derived.Test.YtimadnngfhbfiaaGreatDoorProg

section
/- PRINTED by wip/gen.py: what muntin/valid.outer does, in the words of Mu. -/
namespace Go.Proofs.YtimadnngfhbfiaaGreatDoor
open Go Go.Mu
/- muntin/valid.outer -/
def S151_j1 (K : Int → Bool → H → Prop) (v6 : Int) (h_2 : H) : Prop :=
  K v6 (decide (v6 ≥ 0)) h_2
def S151_j2 (v16 : Int) (X : (Int × Int) → H → Prop) (v6_2 : Int) (h_4 : H) : Prop :=
  X (v6_2, (IntKind.wrap .i64 (v16 + 1))) h_4
def S151_l3 (p0 : Sl) (K : Int → Bool → H → Prop) (v11_0 : Sl) (X : (Int × Int) → H → Prop) (v6_1 : Int) (v16 : Int) (h_3 : H) : Prop :=
  (if (decide (v16 < (v11_0.l : Int))) = true then (∃ a19 : Addr, v11_0.a = some a19 ∧ 0 ≤ v16 ∧ v16 < (v11_0.l : Int) ∧ (∃ (v20 : Sl), H.rd h_3 (Addr.add a19 (Int.toNat v16 * 1)) = some (.slice v20.a v20.l v20.c) ∧ S175 p0 v20 h_3 (fun (v23 : Sl) (h_5 : H) => S174 v23 h_5 (fun (v24 : Int) (h_6 : H) => (if (v24 == 4) = true then S151_j2 v16 X v6_1 h_6 else (if (v24 == (-4)) = true then (if (decide (v6_1 ≥ 0)) = true then K 0 false h_6 else S151_j2 v16 X v16 h_6) else K 0 false h_6)))))) else S151_j1 K v6_1 h_3)
def S151 (p0 : Sl) (h : H) (K : Int → Bool → H → Prop) : Prop :=
  S173 p0 h (fun (v11_0 : Sl) (v11_1 : Int) (h_1 : H) => lfp (fun X s h_3 => S151_l3 p0 K v11_0 X s.1 s.2 h_3) ((-1), 0) h_1)
end Go.Proofs.YtimadnngfhbfiaaGreatDoor
end

section
/- PRINTED by wip/gen.py: what muntin/valid.Check does, in the words of Mu. -/
namespace Go.Proofs.YtimadnngfhbfiaaGreatDoor
open Go Go.Mu
/- muntin/valid.Check -/
def S122_j1 (K : Int → H → Prop) (v25 : Bool) (h_4 : H) : Prop :=
  (if v25 = true then K 10 h_4 else K 0 h_4)
def S122 (p0 : Sl) (h : H) (K : Int → H → Prop) : Prop :=
  S149 p0 h (fun (v7 : Int) (h_1 : H) => (if (v7 != 0) = true then K v7 h_1 else S150 p0 h_1 (fun (v12 : Bool) (h_2 : H) => (if (!v12) = true then K 13 h_2 else S151 p0 h_2 (fun (v16_0 : Int) (v16_1 : Bool) (h_3 : H) => S122_j1 K ((!v16_1) && (decide ((p0.l : Int) > 1))) h_3)))))
end Go.Proofs.YtimadnngfhbfiaaGreatDoor
end

section
/- PRINTED by wip/gen.py: what muntin/arcs.far does, in the words of Mu. -/
namespace Go.Proofs.YtimadnngfhbfiaaGreatDoor
open Go Go.Mu
/- muntin/arcs.far -/
def S153_j1 (K : Bool → H → Prop) (v2 : Bool) (h_1 : H) : Prop :=
  K v2 h_1
def S153 (p0_0 : Int) (p0_1 : Int) (h : H) (K : Bool → H → Prop) : Prop :=
  S153_j1 K ((decide ((if p0_1 > p0_0 then p0_1 else p0_0) > 1000000)) || (decide ((if p0_1 < p0_0 then p0_1 else p0_0) < (-1000000)))) h
end Go.Proofs.YtimadnngfhbfiaaGreatDoor
end

section
/- Printed by wip/gen.py, turned by hand (the function value is known): what slices.IndexFunc[[]muntin/api.Point,muntin/api.Point] does, in the words of Mu. -/
namespace Go.Proofs.YtimadnngfhbfiaaGreatDoor
open Go Go.Mu
/- slices.IndexFunc[[]muntin/api.Point,muntin/api.Point] -/
def S176_j1 (K : Int → H → Prop) (h_1 : H) : Prop :=
  K (-1) h_1
def S176_l2 (p0 : Sl) (K : Int → H → Prop) (X : Int → H → Prop) (v8 : Int) (h_2 : H) : Prop :=
  (if (decide (v8 < (p0.l : Int))) = true then (∃ a14 : Addr, p0.a = some a14 ∧ 0 ≤ v8 ∧ v8 < (p0.l : Int) ∧ (∃ (v15_0 : Int) (v15_1 : Int), H.rdn h_2 (Addr.add a14 (Int.toNat v8 * 2)) 2 [(.int .i64 v15_0), (.int .i64 v15_1)] ∧ S153 v15_0 v15_1 h_2 (fun (v16 : Bool) (h_3 : H) => (if v16 = true then K v8 h_3 else X (IntKind.wrap .i64 (v8 + 1)) h_3)))) else S176_j1 K h_2)
def S176 (p0 : Sl) (h : H) (K : Int → H → Prop) : Prop :=
  lfp (fun X s h_2 => S176_l2 p0 K X s h_2) 0 h
end Go.Proofs.YtimadnngfhbfiaaGreatDoor
end

section
/- Printed by wip/gen.py, turned by hand (the function value is known): what slices.ContainsFunc[[]muntin/api.Point,muntin/api.Point] does, in the words of Mu. -/
namespace Go.Proofs.YtimadnngfhbfiaaGreatDoor
open Go Go.Mu
/- slices.ContainsFunc[[]muntin/api.Point,muntin/api.Point] -/
def S152 (p0 : Sl) (h : H) (K : Bool → H → Prop) : Prop :=
  S176 p0 h (fun (v7 : Int) (h_1 : H) => K (decide (v7 ≥ 0)) h_1)
end Go.Proofs.YtimadnngfhbfiaaGreatDoor
end

section
/- PRINTED by wip/gen.py: what muntin/arcs.weight does, in the words of Mu. -/
namespace Go.Proofs.YtimadnngfhbfiaaGreatDoor
open Go Go.Mu
/- muntin/arcs.weight -/
def S154 (p0 : Int) (h : H) (K : Int → H → Prop) : Prop :=
  (if (decide (p0 ≥ 0)) = true then K 1 h else K 0 h)
end Go.Proofs.YtimadnngfhbfiaaGreatDoor
end

section
/- PRINTED by wip/gen.py: what muntin/arcs.Length does, in the words of Mu. -/
namespace Go.Proofs.YtimadnngfhbfiaaGreatDoor
open Go Go.Mu
/- muntin/arcs.Length -/
def S123_j1 (K : Int → Int → H → Prop) (v7 : Int) (h_3 : H) : Prop :=
  K v7 0 h_3
def S123_j2 (v31 : Int) (X : (Int × Int) → H → Prop) (v7_2 : Int) (h_5 : H) : Prop :=
  X (v7_2, (IntKind.wrap .i64 (v31 + 1))) h_5
def S123_j3 (v38 : Int) (X_1 : (Int × Int) → H → Prop) (v7_4 : Int) (h_8 : H) : Prop :=
  X_1 (v7_4, (IntKind.wrap .i64 (v38 + 1))) h_8
def S123_j4 (p1 : Sl) (K : Int → Int → H → Prop) (v31 : Int) (v35_0 : Int) (v35_1 : Int) (v35_2 : Int) (v35_3 : Int) (v35_4 : Int) (v35_5 : Int) (v35_6 : Int) (v35_7 : Int) (v7_3 : Int) (v38 : Int) (X_1 : (Int × Int) → H → Prop) (v41 : Int) (v66 : Bool) (h_10 : H) : Prop :=
  (if v66 = true then K 0 15 h_10 else (0 ≤ v41 ∧ v41 < (4 : Int) ∧ (∃ a75 : Addr, p1.a = some a75 ∧ 0 ≤ (sel ([v35_0, v35_1, v35_2, v35_3] : List Int) v41) ∧ (sel ([v35_0, v35_1, v35_2, v35_3] : List Int) v41) < (p1.l : Int) ∧ (∃ (v77 : Int), H.rd h_10 (Addr.add a75 (Int.toNat (sel ([v35_0, v35_1, v35_2, v35_3] : List Int) v41) * 2)) = some (.int .i64 v77) ∧ (∃ a80 : Addr, p1.a = some a80 ∧ 0 ≤ v31 ∧ v31 < (p1.l : Int) ∧ (∃ (v82 : Int), H.rd h_10 (Addr.add a80 (Int.toNat v31 * 2)) = some (.int .i64 v82) ∧ (∃ a86 : Addr, p1.a = some a86 ∧ 0 ≤ (sel ([v35_0, v35_1, v35_2, v35_3] : List Int) v41) ∧ (sel ([v35_0, v35_1, v35_2, v35_3] : List Int) v41) < (p1.l : Int) ∧ (∃ (v88 : Int), H.rd h_10 (Addr.add (Addr.add a86 (Int.toNat (sel ([v35_0, v35_1, v35_2, v35_3] : List Int) v41) * 2)) 1) = some (.int .i64 v88) ∧ (∃ a92 : Addr, p1.a = some a92 ∧ 0 ≤ v31 ∧ v31 < (p1.l : Int) ∧ (∃ (v94 : Int), H.rd h_10 (Addr.add (Addr.add a92 (Int.toNat v31 * 2)) 1) = some (.int .i64 v94) ∧ S154 (sel ([v35_4, v35_5, v35_6, v35_7] : List Int) v41) h_10 (fun (v72 : Int) (h_11 : H) => H.rd h_11 (Addr.add a75 (Int.toNat (sel ([v35_0, v35_1, v35_2, v35_3] : List Int) v41) * 2)) = some (.int .i64 v77) ∧ H.rd h_11 (Addr.add a80 (Int.toNat v31 * 2)) = some (.int .i64 v82) ∧ H.rd h_11 (Addr.add (Addr.add a86 (Int.toNat (sel ([v35_0, v35_1, v35_2, v35_3] : List Int) v41) * 2)) 1) = some (.int .i64 v88) ∧ H.rd h_11 (Addr.add (Addr.add a92 (Int.toNat v31 * 2)) 1) = some (.int .i64 v94) ∧ S123_j3 v38 X_1 (IntKind.wrap .i64 (v7_3 + (IntKind.wrap .i64 (v72 * (IntKind.wrap .i64 ((IntKind.wrap .i64 ((IntKind.wrap .i64 (v77 - v82)) + v88)) - v94)))))) h_11)))))))))))
def S123_l5 (p1 : Sl) (K : Int → Int → H → Prop) (v31 : Int) (X : (Int × Int) → H → Prop) (v35_0 : Int) (v35_1 : Int) (v35_2 : Int) (v35_3 : Int) (v35_4 : Int) (v35_5 : Int) (v35_6 : Int) (v35_7 : Int) (b36 : Nat) (X_1 : (Int × Int) → H → Prop) (v7_3 : Int) (v38 : Int) (h_7 : H) : Prop :=
  (if (decide (v38 < (2 : Int))) = true then (∃ a40 : Addr, some ⟨b36, 0, none⟩ = some a40 ∧ 0 ≤ v38 ∧ v38 < (2 : Int) ∧ (∃ (v41 : Int), H.rd h_7 (Addr.add a40 (Int.toNat v38 * 1)) = some (.int .i64 v41) ∧ (0 ≤ v41 ∧ v41 < (4 : Int) ∧ (if (decide ((sel ([v35_0, v35_1, v35_2, v35_3] : List Int) v41) < 0)) = true then S123_j3 v38 X_1 v7_3 h_7 else (∃ a51 : Addr, p1.a = some a51 ∧ 0 ≤ v31 ∧ v31 < (p1.l : Int) ∧ (∃ (v52_0 : Int) (v52_1 : Int), H.rdn h_7 (Addr.add a51 (Int.toNat v31 * 2)) 2 [(.int .i64 v52_0), (.int .i64 v52_1)] ∧ (∃ a55 : Addr, p1.a = some a55 ∧ 0 ≤ (sel ([v35_0, v35_1, v35_2, v35_3] : List Int) v41) ∧ (sel ([v35_0, v35_1, v35_2, v35_3] : List Int) v41) < (p1.l : Int) ∧ (∃ (v56_0 : Int) (v56_1 : Int), H.rdn h_7 (Addr.add a55 (Int.toNat (sel ([v35_0, v35_1, v35_2, v35_3] : List Int) v41) * 2)) 2 [(.int .i64 v56_0), (.int .i64 v56_1)] ∧ S143 v52_0 v52_1 v56_0 v56_1 h_7 (fun (v57_0 : Int) (v57_1 : Bool) (h_9 : H) => S123_j4 p1 K v31 v35_0 v35_1 v35_2 v35_3 v35_4 v35_5 v35_6 v35_7 v7_3 v38 X_1 v41 ((!v57_1) || (v57_0 != v41)) h_9))))))))) else S123_j2 v31 X v7_3 h_7)
def S123_l6 (p0 : Sl) (p1 : Sl) (K : Int → Int → H → Prop) (X : (Int × Int) → H → Prop) (v7_1 : Int) (v31 : Int) (h_4 : H) : Prop :=
  (if (decide (v31 < (p0.l : Int))) = true then (∃ a34 : Addr, p0.a = some a34 ∧ 0 ≤ v31 ∧ v31 < (p0.l : Int) ∧ (∃ (v35_0 : Int) (v35_1 : Int) (v35_2 : Int) (v35_3 : Int) (v35_4 : Int) (v35_5 : Int) (v35_6 : Int) (v35_7 : Int), H.rdn h_4 (Addr.add a34 (Int.toNat v31 * 8)) 8 [(.int .i64 v35_0), (.int .i64 v35_1), (.int .i64 v35_2), (.int .i64 v35_3), (.int .i64 v35_4), (.int .i64 v35_5), (.int .i64 v35_6), (.int .i64 v35_7)] ∧ (∀ (b36 : Nat) (h_6 : H), h_4 b36 = none → h_6 = H.set h_4 b36 (.row ⟨[(.int .i64 0), (.int .i64 1)], 2, 3, true, true⟩) → lfp (fun X_1 s h_7 => S123_l5 p1 K v31 X v35_0 v35_1 v35_2 v35_3 v35_4 v35_5 v35_6 v35_7 b36 X_1 s.1 s.2 h_7) (v7_1, 0) h_6))) else S123_j1 K v7_1 h_4)
def S123_j7 (p0 : Sl) (p1 : Sl) (K : Int → Int → H → Prop) (v28 : Bool) (h_2 : H) : Prop :=
  (if v28 = true then K 0 2 h_2 else lfp (fun X s h_4 => S123_l6 p0 p1 K X s.1 s.2 h_4) (0, 0) h_2)
def S123 (p0 : Sl) (p1 : Sl) (h : H) (K : Int → Int → H → Prop) : Prop :=
  S149 p0 h (fun (v16 : Int) (h_1 : H) => (if (v16 != 0) = true then K 0 v16 h_1 else (if ((p1.l : Int) != (p0.l : Int)) = true then S123_j7 p0 p1 K true h_1 else S152 p1 h_1 (fun (v27 : Bool) (h_12 : H) => S123_j7 p0 p1 K v27 h_12))))
end Go.Proofs.YtimadnngfhbfiaaGreatDoor
end

section
/- PRINTED by wip/gen.py: what muntin/seg.chains does, in the words of Mu. -/
namespace Go.Proofs.YtimadnngfhbfiaaGreatDoor
open Go Go.Mu
/- muntin/seg.chains -/
def S177_j1 (K : Sl → Sl → Bool → H → Prop) (v18 : Sl) (v9 : Sl) (h_4 : H) : Prop :=
  K v18 v9 true h_4
def S177_j2 (v23 : Int) (X : (Sl × Int) → H → Prop) (v9_2 : Sl) (h_6 : H) : Prop :=
  X (v9_2, (IntKind.wrap .i64 (v23 + 1))) h_6
def S177_j3 (v9_1 : Sl) (v23 : Int) (X : (Sl × Int) → H → Prop) (v13 : Sl) (h_8 : H) : Prop :=
  app 69 1 24 v9_1 1 [(.slice v13.a v13.l v13.c)] h_8 (fun (v75 : Sl) (h_9 : H) => S177_j2 v23 X v75 h_9)
def S177_l4 (p0 : Sl) (p1 : Int) (v18 : Sl) (v9_1 : Sl) (v23 : Int) (X : (Sl × Int) → H → Prop) (X_1 : (Sl × Int) → H → Prop) (v13_1 : Sl) (v14 : Int) (h_10 : H) : Prop :=
  (if (decide (v14 ≥ 0)) = true then (∃ a67 : Addr, v18.a = some a67 ∧ 0 ≤ v14 ∧ v14 < (v18.l : Int) ∧ (∃ h_11 : H, H.wr h_10 (Addr.add a67 (Int.toNat v14 * 1)) [(.int .i64 (v9_1.l : Int))] h_11 ∧ app 3 1 8 v13_1 1 [(.int .i64 v14)] h_11 (fun (v71 : Sl) (h_12 : H) => (∃ a59 : Addr, p0.a = some a59 ∧ 0 ≤ v14 ∧ v14 < (p0.l : Int) ∧ (0 ≤ p1 ∧ p1 < (4 : Int) ∧ (∃ (v62 : Int), H.rd h_12 (Addr.add (Addr.add a59 (Int.toNat v14 * 8)) (Int.toNat p1 * 1)) = some (.int .i64 v62) ∧ X_1 (v71, v62) h_12)))))) else S177_j3 v9_1 v23 X v13_1 h_10)
def S177_j5 (p0 : Sl) (p1 : Int) (v18 : Sl) (v9_1 : Sl) (v23 : Int) (X : (Sl × Int) → H → Prop) (v11 : Int) (h_7 : H) : Prop :=
  lfp (fun X_1 s h_10 => S177_l4 p0 p1 v18 v9_1 v23 X X_1 s.1 s.2 h_10) (Sl.nil, v11) h_7
def S177_l6 (p0 : Sl) (p1 : Int) (K : Sl → Sl → Bool → H → Prop) (v18 : Sl) (v20 : Int) (v9_1 : Sl) (v23 : Int) (X : (Sl × Int) → H → Prop) (X_2 : (Int × Int) → H → Prop) (v11_1 : Int) (v12 : Int) (h_13 : H) : Prop :=
  (∃ a35 : Addr, p0.a = some a35 ∧ 0 ≤ v11_1 ∧ v11_1 < (p0.l : Int) ∧ (0 ≤ v20 ∧ v20 < (4 : Int) ∧ (∃ (v38 : Int), H.rd h_13 (Addr.add (Addr.add a35 (Int.toNat v11_1 * 8)) (Int.toNat v20 * 1)) = some (.int .i64 v38) ∧ (if (decide (v38 ≥ 0)) = true then (if (v12 == (p0.l : Int)) = true then K Sl.nil Sl.nil false h_13 else (∃ a49 : Addr, p0.a = some a49 ∧ 0 ≤ v11_1 ∧ v11_1 < (p0.l : Int) ∧ (0 ≤ v20 ∧ v20 < (4 : Int) ∧ (∃ (v52 : Int), H.rd h_13 (Addr.add (Addr.add a49 (Int.toNat v11_1 * 8)) (Int.toNat v20 * 1)) = some (.int .i64 v52) ∧ X_2 (v52, (IntKind.wrap .i64 (v12 + 1))) h_13)))) else S177_j5 p0 p1 v18 v9_1 v23 X v11_1 h_13))))
def S177_l7 (p0 : Sl) (p1 : Int) (K : Sl → Sl → Bool → H → Prop) (v18 : Sl) (v20 : Int) (X : (Sl × Int) → H → Prop) (v9_1 : Sl) (v23 : Int) (h_5 : H) : Prop :=
  (if (decide (v23 < (p0.l : Int))) = true then (∃ a28 : Addr, v18.a = some a28 ∧ 0 ≤ v23 ∧ v23 < (v18.l : Int) ∧ (∃ (v29 : Int), H.rd h_5 (Addr.add a28 (Int.toNat v23 * 1)) = some (.int .i64 v29) ∧ (if (decide (v29 ≥ 0)) = true then S177_j2 v23 X v9_1 h_5 else lfp (fun X_2 s h_13 => S177_l6 p0 p1 K v18 v20 v9_1 v23 X X_2 s.1 s.2 h_13) (v23, 0) h_5))) else S177_j1 K v18 v9_1 h_5)
def S177 (p0 : Sl) (p1 : Int) (h : H) (K : Sl → Sl → Bool → H → Prop) : Prop :=
  (∀ (b15 : Nat) (h_1 : H), h b15 = none → h_1 = H.set h b15 (.row ⟨[(.int .i64 (-1))], 1, 3, true, true⟩) → S194 ⟨some ⟨b15, 0, none⟩, 1, 1⟩ (p0.l : Int) h_1 (fun (v18 : Sl) (h_2 : H) => S104 p1 2 h_2 (fun (v20 : Int) (h_3 : H) => lfp (fun X s h_5 => S177_l7 p0 p1 K v18 v20 X s.1 s.2 h_5) (Sl.nil, 0) h_3)))
end Go.Proofs.YtimadnngfhbfiaaGreatDoor
end

section
/- PRINTED by wip/gen.py: what muntin/seg.Of does, in the words of Mu. -/
namespace Go.Proofs.YtimadnngfhbfiaaGreatDoor
open Go Go.Mu
/- muntin/seg.Of -/
def S155_j1 (K : Sl → Sl → Sl → Sl → Int → H → Prop) (v19_0 : Sl) (v19_1 : Sl) (v25_0 : Sl) (v25_1 : Sl) (v34 : Bool) (h_4 : H) : Prop :=
  (if v34 = true then K Sl.nil Sl.nil Sl.nil Sl.nil 10 h_4 else K v19_0 v25_0 v19_1 v25_1 0 h_4)
def S155 (p0 : Sl) (h : H) (K : Sl → Sl → Sl → Sl → Int → H → Prop) : Prop :=
  S149 p0 h (fun (v12 : Int) (h_1 : H) => (if (v12 != 0) = true then K Sl.nil Sl.nil Sl.nil Sl.nil v12 h_1 else S177 p0 1 h_1 (fun (v19_0 : Sl) (v19_1 : Sl) (v19_2 : Bool) (h_2 : H) => S177 p0 0 h_2 (fun (v25_0 : Sl) (v25_1 : Sl) (v25_2 : Bool) (h_3 : H) => S155_j1 K v19_0 v19_1 v25_0 v25_1 ((!v19_2) || (!v25_2)) h_3))))
end Go.Proofs.YtimadnngfhbfiaaGreatDoor
end

section
/- PRINTED by wip/gen.py: what muntin/sep.lines does, in the words of Mu. -/
namespace Go.Proofs.YtimadnngfhbfiaaGreatDoor
open Go Go.Mu
/- muntin/sep.lines -/
def S178_j1 (K : Sl → H → Prop) (v3_1 : Sl) (h_2 : H) : Prop :=
  K v3_1 h_2
def S178_j2 (v28 : Int) (X : (Sl × Int) → H → Prop) (v3_3 : Sl) (h_4 : H) : Prop :=
  X (v3_3, (IntKind.wrap .i64 (v28 + 1))) h_4
def S178_l3 (p0_3 : Sl) (K : Sl → H → Prop) (X : (Sl × Int) → H → Prop) (v3_2 : Sl) (v28 : Int) (h_3 : H) : Prop :=
  (if (decide (v28 < (p0_3.l : Int))) = true then (∃ a31 : Addr, p0_3.a = some a31 ∧ 0 ≤ v28 ∧ v28 < (p0_3.l : Int) ∧ (∃ (v32 : Sl), H.rd h_3 (Addr.add a31 (Int.toNat v28 * 1)) = some (.slice v32.a v32.l v32.c) ∧ (if (decide ((v32.l : Int) > 1)) = true then app 216 2 16 v3_2 1 [(.bool false), (.int .i64 v28)] h_3 (fun (v40 : Sl) (h_5 : H) => S178_j2 v28 X v40 h_5) else S178_j2 v28 X v3_2 h_3))) else S178_j1 K v3_2 h_3)
def S178_j4 (p0_3 : Sl) (K : Sl → H → Prop) (v3 : Sl) (h_1 : H) : Prop :=
  lfp (fun X s h_3 => S178_l3 p0_3 K X s.1 s.2 h_3) (v3, 0) h_1
def S178_j5 (v11 : Int) (X_1 : (Sl × Int) → H → Prop) (v3_5 : Sl) (h_7 : H) : Prop :=
  X_1 (v3_5, (IntKind.wrap .i64 (v11 + 1))) h_7
def S178_l6 (p0_2 : Sl) (p0_3 : Sl) (K : Sl → H → Prop) (X_1 : (Sl × Int) → H → Prop) (v3_4 : Sl) (v11 : Int) (h_6 : H) : Prop :=
  (if (decide (v11 < (p0_2.l : Int))) = true then (∃ a14 : Addr, p0_2.a = some a14 ∧ 0 ≤ v11 ∧ v11 < (p0_2.l : Int) ∧ (∃ (v15 : Sl), H.rd h_6 (Addr.add a14 (Int.toNat v11 * 1)) = some (.slice v15.a v15.l v15.c) ∧ (if (decide ((v15.l : Int) > 1)) = true then False else S178_j5 v11 X_1 v3_4 h_6))) else S178_j4 p0_3 K v3_4 h_6)
def S178 (p0_0 : Sl) (p0_1 : Sl) (p0_2 : Sl) (p0_3 : Sl) (h : H) (K : Sl → H → Prop) : Prop :=
  lfp (fun X_1 s h_6 => S178_l6 p0_2 p0_3 K X_1 s.1 s.2 h_6) (Sl.nil, 0) h
end Go.Proofs.YtimadnngfhbfiaaGreatDoor
end

section
/- PRINTED by wip/gen.py: what muntin/sep.Lines does, in the words of Mu. -/
namespace Go.Proofs.YtimadnngfhbfiaaGreatDoor
open Go Go.Mu
/- muntin/sep.Lines -/
def S156 (p0 : Sl) (h : H) (K : Sl → Int → H → Prop) : Prop :=
  S155 p0 h (fun (v8_0_0 : Sl) (v8_0_1 : Sl) (v8_0_2 : Sl) (v8_0_3 : Sl) (v8_1 : Int) (h_1 : H) => (if (v8_1 != 0) = true then K Sl.nil v8_1 h_1 else S178 v8_0_0 v8_0_1 v8_0_2 v8_0_3 h_1 (fun (v15 : Sl) (h_2 : H) => K v15 0 h_2)))
end Go.Proofs.YtimadnngfhbfiaaGreatDoor
end

section
/- PRINTED by wip/gen.py: what muntin/check.span does, in the words of Mu. -/
namespace Go.Proofs.YtimadnngfhbfiaaGreatDoor
open Go Go.Mu
/- muntin/check.span -/
def S157_j1 (p1_1 : Int) (p2 : Sl) (K : Int → Int → Int → Int → H → Prop) (v7 : Sl) (h_1 : H) : Prop :=
  (∃ a18 : Addr, v7.a = some a18 ∧ 0 ≤ p1_1 ∧ p1_1 < (v7.l : Int) ∧ (∃ (v19 : Sl), H.rd h_1 (Addr.add a18 (Int.toNat p1_1 * 1)) = some (.slice v19.a v19.l v19.c) ∧ (∃ a22 : Addr, v19.a = some a22 ∧ 0 ≤ (0 : Int) ∧ 0 < (v19.l : Int) ∧ (∃ (v23 : Int), H.rd h_1 (Addr.add a22 (Int.toNat 0 * 1)) = some (.int .i64 v23) ∧ (∃ a24 : Addr, p2.a = some a24 ∧ 0 ≤ v23 ∧ v23 < (p2.l : Int) ∧ (∃ (v25_0 : Int) (v25_1 : Int), H.rdn h_1 (Addr.add a24 (Int.toNat v23 * 2)) 2 [(.int .i64 v25_0), (.int .i64 v25_1)] ∧ (∃ a31 : Addr, v19.a = some a31 ∧ 0 ≤ (IntKind.wrap .i64 ((v19.l : Int) - 1)) ∧ (IntKind.wrap .i64 ((v19.l : Int) - 1)) < (v19.l : Int) ∧ (∃ (v32 : Int), H.rd h_1 (Addr.add a31 (Int.toNat (IntKind.wrap .i64 ((v19.l : Int) - 1)) * 1)) = some (.int .i64 v32) ∧ (∃ a33 : Addr, p2.a = some a33 ∧ 0 ≤ v32 ∧ v32 < (p2.l : Int) ∧ (∃ (v34_0 : Int) (v34_1 : Int), H.rdn h_1 (Addr.add a33 (Int.toNat v32 * 2)) 2 [(.int .i64 v34_0), (.int .i64 v34_1)] ∧ K v25_0 v25_1 v34_0 v34_1 h_1))))))))))
def S157 (p0_0 : Sl) (p0_1 : Sl) (p0_2 : Sl) (p0_3 : Sl) (p1_0 : Bool) (p1_1 : Int) (p2 : Sl) (h : H) (K : Int → Int → Int → Int → H → Prop) : Prop :=
  (if p1_0 = true then S157_j1 p1_1 p2 K p0_2 h else S157_j1 p1_1 p2 K p0_3 h)
end Go.Proofs.YtimadnngfhbfiaaGreatDoor
end

section
/- PRINTED by wip/gen.py: what muntin/check.crossed does, in the words of Mu. -/
namespace Go.Proofs.YtimadnngfhbfiaaGreatDoor
open Go Go.Mu
/- muntin/check.crossed -/
def S124_j1 (K : Bool → H → Prop) (h_3 : H) : Prop :=
  K false h_3
def S124_j2 (v26 : Int) (X : Int → H → Prop) (h_5 : H) : Prop :=
  X (IntKind.wrap .i64 (v26 + 1)) h_5
def S124_l3 (v21_0 : Sl) (v26 : Int) (X : Int → H → Prop) (v40 : Int) (h_7 : H) : Prop :=
  (if (decide (v40 < ((Nat.sub (Int.toNat (v21_0.l : Int)) (Int.toNat (IntKind.wrap .i64 (v26 + 1)))) : Int))) = true then False else S124_j2 v26 X h_7)
def S124_l4 (p1 : Sl) (K : Bool → H → Prop) (v16_0_0 : Sl) (v16_0_1 : Sl) (v16_0_2 : Sl) (v16_0_3 : Sl) (v21_0 : Sl) (X : Int → H → Prop) (v26 : Int) (h_4 : H) : Prop :=
  (if (decide (v26 < (v21_0.l : Int))) = true then (∃ a29 : Addr, v21_0.a = some a29 ∧ 0 ≤ v26 ∧ v26 < (v21_0.l : Int) ∧ (∃ (v30_0 : Bool) (v30_1 : Int), H.rdn h_4 (Addr.add a29 (Int.toNat v26 * 2)) 2 [(.bool v30_0), (.int .i64 v30_1)] ∧ S157 v16_0_0 v16_0_1 v16_0_2 v16_0_3 v30_0 v30_1 p1 h_4 (fun (v34_0 : Int) (v34_1 : Int) (v34_2 : Int) (v34_3 : Int) (h_6 : H) => ((0 : Int) ≤ (IntKind.wrap .i64 (v26 + 1)) ∧ (IntKind.wrap .i64 (v26 + 1)) ≤ (v21_0.l : Int) ∧ (v21_0.l : Int) ≤ (v21_0.l : Int) ∧ v21_0.l ≤ v21_0.c ∧ lfp (fun X_1 s h_7 => S124_l3 v21_0 v26 X s h_7) 0 h_6)))) else S124_j1 K h_4)
def S124 (p0 : Sl) (p1 : Sl) (h : H) (K : Bool → H → Prop) : Prop :=
  S155 p0 h (fun (v16_0_0 : Sl) (v16_0_1 : Sl) (v16_0_2 : Sl) (v16_0_3 : Sl) (v16_1 : Int) (h_1 : H) => S156 p0 h_1 (fun (v21_0 : Sl) (v21_1 : Int) (h_2 : H) => lfp (fun X s h_4 => S124_l4 p1 K v16_0_0 v16_0_1 v16_0_2 v16_0_3 v21_0 X s h_4) 0 h_2))
end Go.Proofs.YtimadnngfhbfiaaGreatDoor
end

section
/- PRINTED by wip/gen.py: what muntin/check.Real does, in the words of Mu. -/
namespace Go.Proofs.YtimadnngfhbfiaaGreatDoor
open Go Go.Mu
/- muntin/check.Real -/
def S84 (p0 : Sl) (p1 : Sl) (h : H) (K : Int → H → Prop) : Prop :=
  S122 p0 h (fun (v9 : Int) (h_1 : H) => (if (v9 != 0) = true then K v9 h_1 else S123 p0 p1 h_1 (fun (v16_0 : Int) (v16_1 : Int) (h_2 : H) => (if (v16_1 != 0) = true then K v16_1 h_2 else S124 p0 p1 h_2 (fun (v24 : Bool) (h_3 : H) => (if v24 = true then K 14 h_3 else K 0 h_3))))))
end Go.Proofs.YtimadnngfhbfiaaGreatDoor
end

section
/-
  Cells that may be; lists of one number; what hangs together.
-/
namespace Go.Shape
open Go Go.Mu
def sideOk (cs : List Cell) (v d : Nat) : Bool := match cs[v]? with
  | none => false
  | some c => if c.next d = -1 then decide (c.own d = 0) else
    decide (0 ≤ c.next d) && (decide (c.next d ≠ v) && match cs[(c.next d).toNat]? with
      | none => false
      | some e => decide (e.next (opp d) = v) && (decide (e.own (opp d) = c.own d) && decide (-2 ≤ c.own d)))
def okC (cs : List Cell) : Prop := ∀ v, v < cs.length → ∀ d, d < 4 → sideOk cs v d = true
end Go.Shape
namespace Go.Proofs.YtimadnngfhbfiaaGreatDoor
open Go Go.Mu Go.Shape Go.Text
variable {h h0 : H}
set_option maxHeartbeats 1000000
theorem cell_next {s : Sl} {cs : List Cell} (r : Rd h s 8 Cell.enc cs) {v d : Nat} {c : Cell} (hc : cs[v]? = some c) (hd : d < 4) : ∃ a, s.a = some a ∧ h.rd (Addr.add (Addr.add a (Int.toNat (v : Int) * 8)) (Int.toNat (d : Int) * 1)) = some (.int .i64 (c.next d)) := by
  obtain ⟨a, ha, hr⟩ := r.ix hc
  refine ⟨a, ha, ?_⟩
  rw [Int.toNat_natCast, Int.toNat_natCast, Nat.mul_one]
  exact hr.at d (c.enc_next hd)
theorem cell_own {s : Sl} {cs : List Cell} (r : Rd h s 8 Cell.enc cs) {v d : Nat} {c : Cell} (hc : cs[v]? = some c) (hd : d < 4) : ∃ a, s.a = some a ∧ h.rd (Addr.add (Addr.add (Addr.add a (Int.toNat (v : Int) * 8)) 4) (Int.toNat (d : Int) * 1)) = some (.int .i64 (c.own d)) := by
  obtain ⟨a, ha, hr⟩ := r.ix hc
  refine ⟨a, ha, ?_⟩
  rw [Int.toNat_natCast, Int.toNat_natCast, Nat.mul_one, Addr.add_add]
  exact hr.at (4 + d) (enc_own c hd)
theorem c171 {s : Sl} {cs : List Cell} (r : Rd h s 8 Cell.enc cs) {v d : Nat} (hv : v < cs.length) (hd : d < 4) (ok : sideOk cs v d = true) {K : Int → H → Prop} (k : K 0 h) : S171 s v d h K := by
  have e := r.len
  obtain ⟨c, hc⟩ : ∃ c, cs[v]? = some c := ⟨_, List.getElem?_eq_getElem hv⟩
  obtain ⟨a, ha, hn⟩ := cell_next r hc hd
  obtain ⟨a', ha', ho⟩ := cell_own r hc hd
  unfold S171
  refine ⟨a, ha, by omega, by omega, by omega, by omega, c.next d, hn, a', ha', by omega, by omega, by omega, by omega, c.own d, ho, ?_⟩
  unfold sideOk at ok
  rw [hc] at ok
  simp only at ok
  by_cases h1 : c.next d = -1
  · rw [if_pos h1] at ok
    have ok := of_decide_eq_true ok
    rw [if_pos (by simp [h1]), if_neg (by simp [ok])]; exact k
  · rw [if_neg h1] at ok
    rw [if_neg (by simp [h1])]
    simp only [Bool.and_eq_true, decide_eq_true_eq] at ok
    obtain ⟨q1, q2, q3⟩ := ok
    cases he : cs[(c.next d).toNat]? with
    | none => rw [he] at q3; simp at q3
    | some x =>
      rw [he] at q3
      simp only [Bool.and_eq_true, decide_eq_true_eq] at q3
      obtain ⟨q4, q5, q6⟩ := q3
      have hl : (c.next d).toNat < cs.length := (List.getElem?_eq_some_iff.1 he).1
      have hcast : (((c.next d).toNat : Nat) : Int) = c.next d := Int.toNat_of_nonneg q1
      unfold S171_j2
      rw [if_neg (by simp only [Bool.or_eq_true, decide_eq_true_eq, beq_iff_eq]; omega)]
      refine c104 (e := opp d) hd (left2 hd) ?_
      obtain ⟨b, hb, hn2⟩ := cell_next (d := opp d) r he (opp_lt d)
      obtain ⟨b', hb', ho2⟩ := cell_own (d := opp d) r he (opp_lt d)
      have ho4 := opp_lt d
      rw [hcast] at hn2 ho2
      refine ⟨b, hb, q1, by omega, by omega, by omega, x.next (opp d), hn2, ?_⟩
      rw [if_neg (by simp [q4])]
      refine ⟨b', hb', q1, by omega, by omega, by omega, x.own (opp d), ho2, ?_⟩
      rw [if_neg (by simp [q5])]
      unfold S171_j1
      rw [if_neg (by simp only [decide_eq_true_eq]; omega)]; exact k
theorem c149 {s : Sl} {cs : List Cell} (r : Rd h s 8 Cell.enc cs) (hn : cs.length ≤ 4096) (ok : okC cs) {K : Int → H → Prop} (k : K 0 h) : S149 s h K := by
  have e := r.len
  unfold S149
  rw [if_neg (by simp; omega)]
  refine lfp.count cs.length (fun i (u : Int) h' => h' = h ∧ u = (i : Int)) (fun X i u h' hi ⟨q1, q2⟩ next => ?_) ⟨rfl, rfl⟩
  subst q1 q2
  unfold S149_l4
  by_cases hlt : i < cs.length
  · rw [if_pos (by simp; omega)]
    refine lfp.count 4 (fun d (u : Int) h2 => h2 = h' ∧ u = (d : Int)) (fun Y d u h2 hd ⟨q1, q2⟩ nxt => ?_) ⟨rfl, rfl⟩
    subst q1 q2
    unfold S149_l3
    by_cases hd4 : d < 4
    · rw [if_pos (by simp; omega)]
      refine c171 r hlt hd4 (ok i hlt d hd4) ?_
      rw [if_neg (by decide), wsucc (by omega)]
      exact nxt hd4 _ _ ⟨rfl, rfl⟩
    · rw [if_neg (by simp; omega)]
      unfold S149_j2
      rw [wsucc (by omega)]
      exact next hlt _ _ ⟨rfl, rfl⟩
  · rw [if_neg (by simp; omega)]; exact k
theorem ok_cells2 : okC cells2 := by
  have : ∀ v, v < 2 → ∀ d, d < 4 → sideOk cells2 v d = true := by decide
  exact this
def cells0 : List Cell := [Cell.empty, Cell.empty]
theorem ok_cells0 : okC cells0 := by
  have : ∀ v, v < 2 → ∀ d, d < 4 → sideOk cells0 v d = true := by decide
  exact this
/- ---------------------------------------------------------------- a number, twice -/
theorem c194 {s : Sl} (r : Rd h s 1 enc1 [-1]) {K : Sl → H → Prop}
    (k : ∀ b h', St h h' (fun _ : Unit => .blk b (.row ⟨[.int .i64 (-1), .int .i64 (-1)], 2, 3, true, true⟩)) → K ⟨some ⟨b, 0, none⟩, 2, 2⟩ h') : S194 s 2 h K := by
  have hs : s.l = 1 := r.1
  obtain ⟨a, ha, hr⟩ := r.ix (i := 0) rfl
  unfold S194
  rw [if_neg (by decide)]
  unfold S194_j5
  rw [hs]
  unfold S61 S108
  have fin : S194_j4 s K 2 ((decide ((0 : Int) > 0)) || (decide ((2 : Int) > 9223372036854775807))) h := by
    unfold S194_j4
    rw [if_neg (by decide)]
    unfold S194_j3
    refine ⟨by decide, by decide, by decide, by decide, fun b h1 n1 e1 => ?_⟩
    have st : St h h1 (fun _ : Unit => .blk b (.row ⟨[.int .i64 0, .int .i64 0], 2, 3, true, true⟩)) := by
      rw [e1]
      exact (St.init (ρ := Unit) h).alloc _ n1 () _ rfl fun i hi => (hi rfl).elim
    obtain ⟨h2, w2, st2⟩ := st.wr () rfl rfl (off := 0) (vs := [.int .i64 (-1)]) (Nat.le_of_ble_eq_true rfl) (fun _ => .blk b (.row ⟨[.int .i64 (-1), .int .i64 0], 2, 3, true, true⟩)) rfl (fun i hi => (hi rfl).elim)
    refine ⟨⟨b, 0, none⟩, a, [.int .i64 (-1)], h2, rfl, ha, by rw [hs]; rfl, by decide, rfl, st.le.rdn hr, w2, ?_⟩
    intro X hX
    refine hX _ _ ?_
    unfold S194_l2
    dsimp only
    rw [if_pos (by decide)]
    refine ⟨by decide, by decide, by decide, by decide, by decide, by decide, by decide, by decide, ?_⟩
    obtain ⟨h3, w3, st3⟩ := st2.wr () rfl rfl (off := 1) (vs := [.int .i64 (-1)]) (Nat.le_of_ble_eq_true rfl) (fun _ => .blk b (.row ⟨[.int .i64 (-1), .int .i64 (-1)], 2, 3, true, true⟩)) rfl (fun i hi => (hi rfl).elim)
    refine ⟨⟨b, 1, none⟩, ⟨b, 0, none⟩, [.int .i64 (-1)], h3, rfl, rfl, rfl, by decide, rfl, ⟨rfl, fun j v hj => ?_⟩, w3, ?_⟩
    · match j, hj with
      | 0, hj => cases hj; exact st2.rd () rfl (off := 0) rfl
      | j + 1, hj => simp at hj
    · refine hX _ _ ?_
      unfold S194_l2
      dsimp only
      rw [if_neg (by decide)]
      unfold S194_j1
      exact k b h3 st3
  exact fin
end Go.Proofs.YtimadnngfhbfiaaGreatDoor
end

section
/-
  What is met from a cell: in the wake's cells, in two cells apart.
-/
namespace Go.Proofs.YtimadnngfhbfiaaGreatDoor
open Go Go.Mu Go.Shape Go.Text
variable {h h0 : H}
set_option maxHeartbeats 1000000
theorem q191 {p0 v16 v20 v8 : Sl} {b25 v d : Nat} {X : Sl → H → Prop} {X1 : Sl × Int → H → Prop} {cs : List Cell} {c : Cell} (r : Rd h p0 8 Cell.enc cs) (hc : cs[v]? = some c) (hd : d < 4) (hq : c.next d = -1) (k : X1 (v8, ((d + 1 : Nat) : Int)) h) :
    S191_l4 p0 v16 v20 b25 X (v : Int) X1 v8 (d : Int) h := by
  have e := r.len
  have hv := (List.getElem?_eq_some_iff.1 hc).1
  obtain ⟨a, ha, hn⟩ := cell_next r hc hd
  unfold S191_l4
  rw [if_pos (by simp; omega)]
  refine ⟨a, ha, by omega, by omega, by omega, by omega, c.next d, hn, ?_⟩
  rw [if_neg (by rw [hq]; decide)]
  unfold S191_j3 S191_j2
  rw [if_neg (by decide), wsucc (by omega)]
  exact k
theorem q191m {p0 v16 v20 v8 : Sl} {b25 v d w : Nat} {X : Sl → H → Prop} {X1 : Sl × Int → H → Prop} {cs : List Cell} {c : Cell} (r : Rd h p0 8 Cell.enc cs) (hc : cs[v]? = some c) (hd : d < 4) (hq : c.next d = (w : Int)) (hw : w < cs.length) (hm : h.rd ⟨b25, w, none⟩ = some (.bool true)) (k : X1 (v8, ((d + 1 : Nat) : Int)) h) :
    S191_l4 p0 v16 v20 b25 X (v : Int) X1 v8 (d : Int) h := by
  have e := r.len
  have hv := (List.getElem?_eq_some_iff.1 hc).1
  obtain ⟨a, ha, hn⟩ := cell_next r hc hd
  unfold S191_l4
  rw [if_pos (by simp; omega)]
  refine ⟨a, ha, by omega, by omega, by omega, by omega, c.next d, hn, ?_⟩
  rw [if_pos (by simp; omega)]
  refine ⟨_, rfl, by omega, by rw [Int.toNat_natCast]; omega, true, by rw [hq, Int.toNat_natCast, Nat.mul_one, Addr.add_n, Nat.zero_add]; exact hm, ?_⟩
  unfold S191_j3 S191_j2
  rw [if_neg (by decide), wsucc (by omega)]
  exact k
/-- What a spread begins with. -/
theorem c191a {p0 : Sl} {v : Nat} (e0 : p0.l = 2) (hv : v < 2) {K : Sl → Sl → H → Prop}
    (k : ∀ b0 b1 b2 b3 h' (M : Nat → Res), St h h' M → M 0 = .blk b0 (.row ⟨[.int .i64 (-1), .int .i64 (-1)], 2, 3, true, true⟩) → M 1 = .blk b1 (.row ⟨[.int .i64 (-1), .int .i64 (-1)], 2, 3, true, true⟩) → M 2 = .blk b2 (.row ⟨[.int .i64 v], 1, 3, true, true⟩) →
      M 3 = .blk b3 (.row ⟨setL [.bool false, .bool false] v [.bool true], 2, 4, true, true⟩) → lfp (fun X s h_9 => S191_l5 p0 K ⟨some ⟨b0, 0, none⟩, 2, 2⟩ ⟨some ⟨b1, 0, none⟩, 2, 2⟩ b3 X s h_9) ⟨some ⟨b2, 0, none⟩, 1, 1⟩ h') : S191 p0 v h K := by
  unfold S191
  rw [e0]
  intro x1 h1 n1 e1
  have st0 := (St.init (ρ := Nat) h).putNew 9 n1 e1
  refine c194 (st0.putRow (l := [-1]) (enc := enc1) 9 pk0 fun _ _ => rfl) fun b0 h2 t2 => ?_
  have st2 := St.with st0 t2 (0 : Nat)
  intro x3 h3 n3 e3
  have st3 := st2.putNew 9 n3 e3
  refine c194 (st3.putRow (l := [-1]) (enc := enc1) 9 pk0 fun _ _ => rfl) fun b1 h4 t4 => ?_
  have st4 := St.with st3 t4 (1 : Nat)
  intro b2 h5 n5 e5
  have st5 := st4.putNew 2 n5 e5
  refine ⟨by decide, by decide, by decide, by decide, fun b3 h6 n6 e6 => ?_⟩
  have st6 := st5.putNew 3 n6 e6
  obtain ⟨h7, w7, st7⟩ := st6.putWr (cells := [.bool false, .bool false]) (n := 2) (e := 4) 3 pk0 (off := v) (vs := [.bool true]) (by show v + 1 ≤ 2; omega)
  refine ⟨_, rfl, by omega, by rw [Int.toNat_natCast]; omega, h7, by rw [Int.toNat_natCast, Nat.mul_one, Addr.add_n, Nat.zero_add]; exact w7, ?_⟩
  exact k b0 b1 b2 b3 h7 _ st7 (pk1 (pk1 (pk1 (pk1 (pk1 pk0))))) (pk1 (pk1 (pk1 pk0))) (pk1 (pk1 pk0)) pk0
theorem c191w {p0 : Sl} (r : Rd h p0 8 Cell.enc cells2) {K : Sl → Sl → H → Prop}
    (k : ∀ s b h', St h h' (fun _ : Unit => .blk b (.row ⟨[.int .i64 (-1), .int .i64 0], 2, 3, true, true⟩)) → K s ⟨some ⟨b, 0, none⟩, 2, 2⟩ h') : S191 p0 0 h K := by
  have e0 : p0.l = 2 := r.1
  refine c191a (v := 0) e0 (by decide) fun b0 b1 b2 b3 h' M st m0 m1 m2 m3 => ?_
  intro X hX
  refine hX _ _ ?_
  unfold S191_l5
  dsimp only
  rw [if_pos (by simp)]
  refine ⟨_, rfl, by decide, by decide, 0, st.rd 2 m2 (off := 0) rfl, by decide, by decide, by decide, by decide, ?_⟩
  intro Y hY
  refine hY _ _ ?_
  -- to the east
  unfold S191_l4
  dsimp only
  rw [if_pos (by simp)]
  obtain ⟨a, ha, hn⟩ := cell_next (v := 0) (d := 0) (r.le st.le) rfl (by decide)
  refine ⟨a, ha, by decide, by rw [e0]; decide, by decide, by decide, 1, hn, ?_⟩
  rw [if_pos (by decide), e0]
  refine ⟨_, rfl, by decide, by decide, false, st.rd 3 m3 (off := 1) rfl, ?_⟩
  unfold S191_j3
  rw [if_pos (by decide), e0]
  obtain ⟨h3, w3, st3⟩ := st.putWr 3 m3 (off := 1) (vs := [.bool true]) (Nat.le_of_ble_eq_true rfl)
  refine ⟨_, rfl, by decide, by decide, h3, w3, _, rfl, by decide, (show (1 : Int) < ((2 : Nat) : Int) by decide), ?_⟩
  obtain ⟨h4, w4, st4⟩ := st3.putWr 0 (pk1 m0) (off := 1) (vs := [.int .i64 0]) (Nat.le_of_ble_eq_true rfl)
  refine ⟨h4, w4, _, rfl, by decide, (show (1 : Int) < ((2 : Nat) : Int) by decide), ?_⟩
  obtain ⟨h5, w5, st5⟩ := st4.putWr 1 (pk1 (pk1 m1)) (off := 1) (vs := [.int .i64 0]) (Nat.le_of_ble_eq_true rfl)
  refine ⟨h5, w5, ?_⟩
  refine ⟨⟨_, rfl⟩, by decide, ?_⟩
  have st6 := st5.putNil 4 3 1
  refine st6.putApp 4 pk0 rfl (by decide) (by decide) fun s h7 l7 st7 => ?_
  have r7 := r.le st7.le
  have hs : Rd h7 s 1 enc1 [1] := st7.arr (enc := enc1) (l := [1]) 4 pk0 (fun _ _ => rfl) (by decide)
  have sl : s.l = 1 := hs.1
  have met0 : h7.rd ⟨b3, 0, none⟩ = some (.bool true) := st7.rd 3 (pk1 (pk1 (pk1 (pk1 pk0)))) (off := 0) rfl
  unfold S191_j2
  refine hY _ _ (q191 (v := 0) (d := 1) r7 rfl (by decide) rfl ?_)
  refine hY _ _ (q191 (v := 0) (d := 2) r7 rfl (by decide) rfl ?_)
  refine hY _ _ (q191 (v := 0) (d := 3) r7 rfl (by decide) rfl ?_)
  refine hY _ _ ?_
  unfold S191_l4
  dsimp only
  rw [if_neg (by simp)]
  -- the second one
  refine hX _ _ ?_
  unfold S191_l5
  dsimp only
  rw [if_pos (by rw [sl]; decide)]
  obtain ⟨q, hq, hq0⟩ := hs.ix (i := 0) rfl
  have hsc : s.l ≤ s.c := by
    have o := (st7.own 4 pk0).2
    rcases o with ⟨ho, _⟩ | ⟨g, cap, ho, _, hc, _⟩
    · simp only [Value.slice.injEq] at ho; omega
    · simp only [Value.slice.injEq] at ho; omega
  refine ⟨q, hq, by decide, by rw [sl]; decide, 1, hq0.at0, by decide, by rw [sl]; decide, by omega, hsc, ?_⟩
  intro Z hZ
  refine hZ _ _ (q191 (v := 1) (d := 0) r7 rfl (by decide) rfl ?_)
  refine hZ _ _ (q191 (v := 1) (d := 1) r7 rfl (by decide) rfl ?_)
  refine hZ _ _ (q191m (v := 1) (d := 2) (w := 0) r7 rfl (by decide) rfl (by decide) met0 ?_)
  refine hZ _ _ (q191 (v := 1) (d := 3) r7 rfl (by decide) rfl ?_)
  refine hZ _ _ ?_
  unfold S191_l4
  dsimp only
  rw [if_neg (by simp)]
  refine hX _ _ ?_
  unfold S191_l5 S191_j1
  dsimp only
  rw [if_neg (by simp [sl])]
  refine k _ b1 h7 (st7.re _ (fun _ => 1) (fun _ => .inr (pk1 (pk1 pk0)).symm) fun _ _ _ _ _ => rfl)
theorem c191e {p0 : Sl} {v : Nat} (hv : v < 2) (r : Rd h p0 8 Cell.enc cells0) {K : Sl → Sl → H → Prop}
    (k : ∀ s b h', St h h' (fun _ : Unit => .blk b (.row ⟨[.int .i64 (-1), .int .i64 (-1)], 2, 3, true, true⟩)) → K s ⟨some ⟨b, 0, none⟩, 2, 2⟩ h') : S191 p0 v h K := by
  have e0 : p0.l = 2 := r.1
  have hc : cells0[v]? = some Cell.empty := by match v, hv with | 0, _ => rfl | 1, _ => rfl
  refine c191a e0 hv fun b0 b1 b2 b3 h' M st m0 m1 m2 m3 => ?_
  have r7 := r.le st.le
  intro X hX
  refine hX _ _ ?_
  unfold S191_l5
  dsimp only
  rw [if_pos (by simp)]
  refine ⟨_, rfl, by decide, by decide, v, st.rd 2 m2 (off := 0) rfl, by decide, by decide, by decide, by decide, ?_⟩
  intro Y hY
  refine hY _ _ (q191 (d := 0) r7 hc (by decide) rfl ?_)
  refine hY _ _ (q191 (d := 1) r7 hc (by decide) rfl ?_)
  refine hY _ _ (q191 (d := 2) r7 hc (by decide) rfl ?_)
  refine hY _ _ (q191 (d := 3) r7 hc (by decide) rfl ?_)
  refine hY _ _ ?_
  unfold S191_l4
  dsimp only
  rw [if_neg (by simp)]
  refine hX _ _ ?_
  unfold S191_l5 S191_j1
  dsimp only
  rw [if_neg (by simp)]
  refine k _ b1 h' (st.re _ (fun _ => 1) (fun _ => .inr m1.symm) fun _ _ _ _ _ => rfl)
end Go.Proofs.YtimadnngfhbfiaaGreatDoor
end

section
/-
  Which cells hang together: the wake's do, two cells apart don't.
-/
namespace Go.Mu
theorem St.putArr0 {h0 h h' : H} {M : Nat → Res} {b e size : Nat} (st : St h0 h M) (r : Nat) (hb : h b = none) (eh : h' = h.set b (.row ⟨[], 0, e, true, true⟩)) : St h0 h' (put M r (.arr ⟨some ⟨b, 0, none⟩, 0, 0⟩ e size [])) := by
  rw [eh]
  have := st.allocArr (k := 0) (cap := 0) (e := e) (size := size) (xs := []) hb r (put M r (.arr ⟨some ⟨b, 0, none⟩, 0, 0⟩ e size [])) (by simp) (Nat.le_refl _) (by decide) (put_eq _ _ _) (put_or _ _ _)
  rwa [Nat.zero_mul] at this
end Go.Mu
namespace Go.Proofs.YtimadnngfhbfiaaGreatDoor
open Go Go.Mu Go.Shape Go.Text
variable {h h0 : H}
set_option maxHeartbeats 1000000
theorem p172t {p0 v5 v10 : Sl} {b19 bd v w : Nat} {X : Sl × Int → H → Prop} {X1 : Sl × Int → H → Prop} {M : Nat → Res} {met dirs xs : List Value} (e0 : p0.l = 2) (st : St h0 h M) (m0 : M 0 = .blk b19 (.row ⟨met, 2, 4, true, true⟩)) (hmet : met.length = 2)
    (m1 : M 1 = .blk bd (.row ⟨dirs, 2, 3, true, true⟩)) (m2 : M 2 = .arr v10 3 1 xs) (hl : v10.l < 1000) (hw : w < 2) (hc : w = v ∨ w ≠ v ∧ ∃ x : Int, dirs[w]? = some (.int .i64 x) ∧ 0 ≤ x)
    (k : ∀ v10' h' M', St h0 h' M' → M' 0 = .blk b19 (.row ⟨setL met w [.bool true], 2, 4, true, true⟩) → M' 1 = M 1 → (∃ xs', M' 2 = .arr v10' 3 1 xs') → v10'.l = v10.l + 1 → M' 3 = M 3 → X1 (v10', ((w + 1 : Nat) : Int)) h') :
    S172_l6 p0 b19 v5 (v : Int) X ⟨some ⟨bd, 0, none⟩, 2, 2⟩ X1 v10 (w : Int) h := by
  have fin : S172_j5 p0 b19 v10 (w : Int) X1 true h := by
    unfold S172_j5
    rw [if_pos rfl]
    obtain ⟨h1, w1, st1⟩ := st.putWr 0 m0 (off := w) (vs := [.bool true]) (by rw [hmet]; show w + 1 ≤ 2; omega)
    refine ⟨_, rfl, by omega, by rw [e0, Int.toNat_natCast]; omega, h1, by rw [Int.toNat_natCast, Nat.mul_one, Addr.add_n, Nat.zero_add]; exact w1, ?_⟩
    refine st1.putApp 2 (pk1 m2) rfl hl (by decide) fun s h2 l2 st2 => ?_
    unfold S172_j4
    rw [wsucc (by omega)]
    exact k s h2 _ st2 (pk1 pk0) ((pk1 (pk1 rfl))) ⟨_, pk0⟩ l2 (pk1 (pk1 rfl))
  unfold S172_l6
  rw [if_pos (by simp; omega)]
  rcases hc with rfl | ⟨hne, x, hx, h0x⟩
  · rw [if_pos (by simp)]; exact fin
  · rw [if_neg (by simp; omega)]
    refine ⟨_, rfl, by omega, by show (w : Int) < ((2 : Nat) : Int); omega, x, by rw [Int.toNat_natCast, Nat.mul_one, Addr.add_n, Nat.zero_add]; exact st.rd 1 m1 hx, ?_⟩
    rw [decide_eq_true h0x]; exact fin
theorem p172f {p0 v5 v10 : Sl} {b19 bd v w : Nat} {X : Sl × Int → H → Prop} {X1 : Sl × Int → H → Prop} {M : Nat → Res} {dirs : List Value} (e0 : p0.l = 2) (st : St h0 h M)
    (m1 : M 1 = .blk bd (.row ⟨dirs, 2, 3, true, true⟩)) (hw : w < 2) (hne : w ≠ v) {x : Int} (hx : dirs[w]? = some (.int .i64 x)) (h0x : x < 0)
    (k : X1 (v10, ((w + 1 : Nat) : Int)) h) : S172_l6 p0 b19 v5 (v : Int) X ⟨some ⟨bd, 0, none⟩, 2, 2⟩ X1 v10 (w : Int) h := by
  unfold S172_l6
  rw [if_pos (by simp; omega), if_neg (by simp; omega)]
  refine ⟨_, rfl, by omega, by show (w : Int) < ((2 : Nat) : Int); omega, x, by rw [Int.toNat_natCast, Nat.mul_one, Addr.add_n, Nat.zero_add]; exact st.rd 1 m1 hx, ?_⟩
  rw [decide_eq_false (by omega)]
  unfold S172_j5 S172_j4
  rw [if_neg (by decide), wsucc (by omega)]; exact k
/-- A part is told. -/
theorem p172e {p0 v5 v10 : Sl} {b19 bd v : Nat} {X : Sl × Int → H → Prop} {X1 : Sl × Int → H → Prop} {M : Nat → Res} {xs : List Value} (e0 : p0.l = 2) (hv : v < 2) (st : St h0 h M) (m3 : M 3 = .arr v5 69 1 xs) (hl : v5.l < 1000)
    (k : ∀ v5' h' M', St h0 h' M' → M' 0 = M 0 → (∃ xs', M' 3 = .arr v5' 69 1 xs') → v5'.l = v5.l + 1 → X (v5', ((v + 1 : Nat) : Int)) h') : S172_l6 p0 b19 v5 (v : Int) X ⟨some ⟨bd, 0, none⟩, 2, 2⟩ X1 v10 ((2 : Nat) : Int) h := by
  unfold S172_l6
  rw [if_neg (by simp [e0])]
  unfold S172_j3
  refine st.putApp 3 m3 rfl hl (by decide) fun s h2 l2 st2 => ?_
  unfold S172_j2
  rw [wsucc (by omega)]
  exact k s h2 _ st2 (pk1 rfl) ⟨_, pk0⟩ l2
theorem zeroB : zeros (.bool false) (Int.toNat ((2 : Nat) : Int) * 1) = [.bool false, .bool false] := rfl
theorem c172w {p0 : Sl} (r : Rd h p0 8 Cell.enc cells2) {K : Sl → Int → H → Prop} (k : ∀ s h', h.Le h' → s.l = 1 → K s 0 h') : S172 p0 h K := by
  have e0 : p0.l = 2 := r.1
  unfold S172
  refine c149 r (by decide) ok_cells2 ?_
  rw [if_neg (by decide), e0, zeroB]
  refine ⟨by decide, by decide, by decide, by decide, fun b h1 n1 e1 => ?_⟩
  have st := ((St.init (ρ := Nat) h).putNew 0 n1 e1).putNil 3 69 1
  intro X hX
  refine hX _ _ ?_
  unfold S172_l7
  dsimp only
  rw [if_pos (by simp [e0])]
  refine ⟨_, rfl, by decide, by rw [e0]; decide, false, st.rd 0 (pk1 pk0) (off := 0) rfl, ?_⟩
  rw [if_neg (by decide)]
  refine c191w (r.le st.le) fun _ bd h2 t2 => ?_
  have st2 := St.with st t2 (1 : Nat)
  intro b35 h3 n3 e3
  have st3 := st2.putArr0 (size := 1) 2 n3 e3
  intro Y hY
  refine hY _ _ (p172t (v := 0) (w := 0) e0 st3 (pk1 (pk1 (pk1 pk0))) rfl (pk1 pk0) pk0 (show 0 < 1000 by decide) (by decide) (.inl rfl) fun q4 h4 M4 st4 a0 a1 ⟨xs4, a2⟩ l4 a3 => ?_)
  refine hY _ _ (p172t (v := 0) (w := 1) e0 st4 a0 rfl (a1.trans (pk1 pk0)) a2 (by rw [l4]; show 0 + 1 < 1000; decide) (by decide) (.inr ⟨by decide, 0, rfl, by decide⟩) fun q5 h5 M5 st5 c0 c1 ⟨xs5, c2⟩ l5 c3 => ?_)
  refine hY _ _ (p172e (v := 0) e0 (by decide) st5 (c3.trans (a3.trans (pk1 (pk1 pk0)))) (by decide) fun q6 h6 M6 st6 d0 _ l6 => ?_)
  refine hX _ _ ?_
  unfold S172_l7
  dsimp only
  rw [if_pos (by simp [e0])]
  refine ⟨_, rfl, by decide, by rw [e0]; decide, true, st6.rd 0 (d0.trans c0) (off := 1) rfl, ?_⟩
  rw [if_pos rfl]
  unfold S172_j2
  refine hX _ _ ?_
  unfold S172_l7 S172_j1
  dsimp only
  rw [if_neg (by rw [e0]; exact (by decide : ¬ decide (IntKind.i64.wrap (((0 + 1 : Nat) : Int) + 1) < ((2 : Nat) : Int)) = true))]
  exact k q6 h6 st6.le l6
theorem c172e {p0 : Sl} (r : Rd h p0 8 Cell.enc cells0) {K : Sl → Int → H → Prop} (k : ∀ s h', h.Le h' → s.l = 2 → K s 0 h') : S172 p0 h K := by
  have e0 : p0.l = 2 := r.1
  unfold S172
  refine c149 r (by decide) ok_cells0 ?_
  rw [if_neg (by decide), e0, zeroB]
  refine ⟨by decide, by decide, by decide, by decide, fun b h1 n1 e1 => ?_⟩
  have st := ((St.init (ρ := Nat) h).putNew 0 n1 e1).putNil 3 69 1
  intro X hX
  refine hX _ _ ?_
  unfold S172_l7
  dsimp only
  rw [if_pos (by simp [e0])]
  refine ⟨_, rfl, by decide, by rw [e0]; decide, false, st.rd 0 (pk1 pk0) (off := 0) rfl, ?_⟩
  rw [if_neg (by decide)]
  refine c191e (v := 0) (by decide) (r.le st.le) fun _ bd h2 t2 => ?_
  have st2 := St.with st t2 (1 : Nat)
  intro b35 h3 n3 e3
  have st3 := st2.putArr0 (size := 1) 2 n3 e3
  intro Y hY
  refine hY _ _ (p172t (v := 0) (w := 0) e0 st3 (pk1 (pk1 (pk1 pk0))) rfl (pk1 pk0) pk0 (show 0 < 1000 by decide) (by decide) (.inl rfl) fun q4 h4 M4 st4 a0 a1 ⟨xs4, a2⟩ l4 a3 => ?_)
  refine hY _ _ (p172f (v := 0) (w := 1) e0 st4 (a1.trans (pk1 pk0)) (by decide) (by decide) rfl (by decide) ?_)
  refine hY _ _ (p172e (v := 0) e0 (by decide) st4 (a3.trans (pk1 (pk1 pk0))) (by decide) fun q6 h6 M6 st6 d0 ⟨xs6, d3⟩ l6 => ?_)
  refine hX _ _ ?_
  unfold S172_l7
  dsimp only
  rw [if_pos (by simp [e0])]
  refine ⟨_, rfl, by decide, by rw [e0]; decide, false, st6.rd 0 (d0.trans a0) (off := 1) rfl, ?_⟩
  rw [if_neg (by decide)]
  refine c191e (v := 1) (by decide) (r.le st6.le) fun _ be h7 t7 => ?_
  have st7 := St.with st6 t7 (1 : Nat)
  intro b36 h8 n8 e8
  have st8 := st7.putArr0 (size := 1) 2 n8 e8
  intro Z hZ
  refine hZ _ _ (p172f (v := 1) (w := 0) e0 st8 (pk1 pk0) (by decide) (by decide) rfl (by decide) ?_)
  refine hZ _ _ (p172t (v := 1) (w := 1) e0 st8 (pk1 (pk1 (d0.trans a0))) rfl (pk1 pk0) pk0 (show 0 < 1000 by decide) (by decide) (.inl rfl) fun q9 h9 M9 st9 _ _ _ _ f3 => ?_)
  refine hZ _ _ (p172e (v := 1) e0 (by decide) st9 (f3.trans (pk1 (pk1 d3))) (by rw [l6]; decide) fun qa ha Ma sta _ _ la => ?_)
  refine hX _ _ ?_
  unfold S172_l7 S172_j1
  dsimp only
  rw [if_neg (by rw [e0]; simp)]
  exact k qa ha sta.le (by rw [la, l6])
theorem c150w {p0 : Sl} (r : Rd h p0 8 Cell.enc cells2) {K : Bool → H → Prop} (k : ∀ h', h.Le h' → K true h') : S150 p0 h K := by
  unfold S150
  refine c172w r fun s h1 le1 hs => ?_
  unfold S150_j1
  rw [hs]
  exact k h1 le1
theorem c150e {p0 : Sl} (r : Rd h p0 8 Cell.enc cells0) {K : Bool → H → Prop} (k : ∀ h', h.Le h' → K false h') : S150 p0 h K := by
  unfold S150
  refine c172e r fun s h1 le1 hs => ?_
  unfold S150_j1
  rw [hs]
  exact k h1 le1
/-- Two cells apart: no drawing. -/
theorem c84e {p0 p1 : Sl} (r : Rd h p0 8 Cell.enc cells0) {K : Int → H → Prop} (k : ∀ h', h.Le h' → K 13 h') : S84 p0 p1 h K := by
  unfold S84 S122
  refine c149 r (by decide) ok_cells0 ?_
  rw [if_neg (by decide)]
  refine c150e r fun h1 le1 => ?_
  rw [if_pos (by decide)]
  dsimp only
  rw [if_pos (by decide)]
  exact k h1 le1
end Go.Proofs.YtimadnngfhbfiaaGreatDoor
end

section
/-
  Faces of the wake's cells: one, of two darts.
-/
namespace Go.Mu
variable {h0 h : H} {M : Nat → Res}
theorem St.duoGet {b : Nat} {es : Array MapEntry} {cl : Nat} {ks : List (Int × Int)} (st : St h0 h M) (r : Nat) (hr : M r = .blk b (.obj (.map es cl))) (d : duoOf es.toList ks) (x y : Int) : Mu.duoGet (some b) x y h (ks.contains (x, y)) := by
  have ok := st.ok r
  rw [hr] at ok
  exact ⟨b, ks, rfl, ⟨es, cl, ok, d⟩, rfl⟩
theorem St.duoPut {b : Nat} {es : Array MapEntry} {cl : Nat} {ks : List (Int × Int)} (st : St h0 h M) (r : Nat) (hr : M r = .blk b (.obj (.map es cl))) (d : duoOf es.toList ks) {x y : Int} (hk : ks.contains (x, y) = false) :
    ∃ h' es' cl', Mu.duoPut (some b) x y h h' ∧ St h0 h' (put M r (.blk b (.obj (.map es' cl')))) ∧ duoOf es'.toList (ks ++ [(x, y)]) := by
  have ok := st.ok r
  rw [hr] at ok
  refine ⟨_, _, _, ⟨b, es, cl, ks, rfl, ok, d, hk, rfl⟩, st.upd r _ _ (put_eq _ _ _) (put_or _ _ _) (H.set_eq _ _ _) (fun c e => .inl (by rw [hr]; exact e)) fun c y' e hc => ?_, ?_⟩
  · have : c ≠ b := fun e2 => hc (by rw [hr, e2]; rfl)
    rw [H.set_ne _ _ this]; exact e
  · unfold duoOf at *
    rw [Array.toList_push, List.map_append, d, List.map_append]; rfl
theorem St.putRdn {b : Nat} {cells : List Value} {n e : Nat} (st : St h0 h M) (r : Nat) (hr : M r = .blk b (.row ⟨cells, n, e, true, true⟩)) : h.rdn ⟨b, 0, none⟩ cells.length cells := by
  refine ⟨rfl, fun j v hj => ?_⟩
  rw [Addr.add_n, Nat.zero_add]
  exact st.rd r hr hj
end Go.Mu
namespace Go.Proofs.YtimadnngfhbfiaaGreatDoor
open Go Go.Mu Go.Shape Go.Text
variable {h h0 : H}
set_option maxHeartbeats 1000000
theorem left0 {d : Nat} (hd : d < 4) : Int.tmod (IntKind.wrap .i64 ((IntKind.wrap .i64 ((d : Int) + (Int.tmod 0 4))) + 4)) 4 = ((d : Nat) : Int) := by
  rcases cases4 hd with rfl | rfl | rfl | rfl <;> rfl
theorem c192 {p : Sl} {cs : List Cell} {c : Cell} {v d : Nat} (r : Rd h p 8 Cell.enc cs) (hc : cs[v]? = some c) (hd : d < 4) {K : Bool → H → Prop} (k : K (decide (c.next d ≥ 0)) h) : S192 v d p h K := by
  have e := r.len
  have hv := (List.getElem?_eq_some_iff.1 hc).1
  obtain ⟨a, ha, hn⟩ := cell_next r hc hd
  unfold S192
  rw [if_pos (by simp), if_pos (by simp; omega)]
  refine c48 hd ?_
  rw [if_pos rfl]
  exact ⟨a, ha, by omega, by omega, by omega, by omega, c.next d, hn, k⟩
/-- Behind a dart to a cell with one end. -/
theorem c193 {p : Sl} {cs : List Cell} {c x : Cell} {v d w : Nat} (r : Rd h p 8 Cell.enc cs) (hc : cs[v]? = some c) (hd : d < 4) (hw : c.next d = (w : Int)) (hx : cs[w]? = some x) (h1 : x.next ((d + 1) % 4) = -1) (h2 : x.next d = -1) (h3 : x.next ((d + 3) % 4) = -1) (h4 : 0 ≤ x.next (opp d))
    {K : Int → Int → H → Prop} (k : K w (opp d : Nat) h) : S193 v d p h K := by
  have e := r.len
  have hv := (List.getElem?_eq_some_iff.1 hc).1
  obtain ⟨a, ha, hn⟩ := cell_next r hc hd
  unfold S193
  refine ⟨a, ha, by omega, by omega, by omega, by omega, w, by rw [← hw]; exact hn, ?_⟩
  intro X hX
  have m1 : (d + 1) % 4 < 4 := Nat.mod_lt _ (by decide)
  have m3 : (d + 3) % 4 < 4 := Nat.mod_lt _ (by decide)
  refine hX _ _ ?_
  unfold S193_l2
  dsimp only
  rw [if_pos (by simp)]
  refine ⟨by decide, by decide, ?_⟩
  refine c104 (e := (d + 1) % 4) hd (left1 hd) (c192 r hx m1 ?_)
  rw [h1, if_neg (by decide)]
  refine hX _ _ ?_
  unfold S193_l2
  dsimp only
  rw [if_pos (by decide)]
  refine ⟨by decide, by decide, ?_⟩
  refine c104 (e := d) hd (left0 hd) (c192 r hx hd ?_)
  rw [h2, if_neg (by decide)]
  refine hX _ _ ?_
  unfold S193_l2
  dsimp only
  rw [if_pos (by decide)]
  refine ⟨by decide, by decide, ?_⟩
  refine c104 (e := (d + 3) % 4) hd (left3 hd) (c192 r hx m3 ?_)
  rw [h3, if_neg (by decide)]
  refine hX _ _ ?_
  unfold S193_l2
  dsimp only
  rw [if_pos (by decide)]
  refine ⟨by decide, by decide, ?_⟩
  refine c104 (e := opp d) hd (left2 hd) (c192 r hx (opp_lt d) ?_)
  rw [if_pos (by simpa using h4)]
  exact k
/-- No dart. -/
theorem p173n {p v5 : Sl} {b v d : Nat} {cs : List Cell} {c : Cell} {X X1 : Sl × Int → H → Prop} (r : Rd h p 8 Cell.enc cs) (hc : cs[v]? = some c) (hd : d < 4) (hq : c.next d = -1) (k : X1 (v5, ((d + 1 : Nat) : Int)) h) : S173_l7 p b v X X1 v5 d h := by
  unfold S173_l7
  rw [if_pos (by simp; omega)]
  refine c192 r hc hd ?_
  rw [hq, if_pos (by decide)]
  unfold S173_j6 S173_j3
  rw [if_pos rfl, wsucc (by omega)]; exact k
/-- A dart that was met. -/
theorem p173m {p v5 : Sl} {b v d : Nat} {cs : List Cell} {c : Cell} {X X1 : Sl × Int → H → Prop} (r : Rd h p 8 Cell.enc cs) (hc : cs[v]? = some c) (hd : d < 4) (hq : 0 ≤ c.next d) (g : duoGet (some b) v d h true) (k : X1 (v5, ((d + 1 : Nat) : Int)) h) : S173_l7 p b v X X1 v5 d h := by
  unfold S173_l7
  rw [if_pos (by simp; omega)]
  refine c192 r hc hd ?_
  rw [decide_eq_true (show c.next d ≥ 0 from hq), if_neg (by decide)]
  refine ⟨true, g, ?_⟩
  unfold S173_j6 S173_j3
  rw [if_pos rfl, wsucc (by omega)]; exact k
/-- A round: a dart is met. -/
theorem p173s {p v5 v10 : Sl} {b b1 v d w e : Nat} {cs : List Cell} {X1 : Sl × Int → H → Prop} {X2 : Sl × Option Addr → H → Prop} {d0 : Int} {M : Nat → Res} {ks : List (Int × Int)} {es : Array MapEntry} {cl : Nat} {l : List Pt} (r : Rd h0 p 8 Cell.enc cs) (st : St h0 h M)
    (m0 : M 0 = .blk b (.obj (.map es cl))) (dd : duoOf es.toList ks) (hk : ks.contains ((v : Int), (d : Int)) = false) (m1 : M 1 = .blk b1 (.row ⟨[.int .i64 v, .int .i64 d], 2, 255, true, true⟩)) (m2 : M 2 = .arr v10 255 2 (l.flatMap encP)) (hl : v10.l < 1000)
    (next : ∀ (h2 : H) (K : Int → Int → H → Prop), Rd h2 p 8 Cell.enc cs → K w e h2 → S193 v d p h2 K)
    (k : ∀ v10' h' M' b1' es' cl', St h0 h' M' → M' 0 = .blk b (.obj (.map es' cl')) → duoOf es'.toList (ks ++ [((v : Int), (d : Int))]) → M' 1 = .blk b1' (.row ⟨[.int .i64 w, .int .i64 e], 2, 255, true, true⟩) →
      M' 2 = .arr v10' 255 2 ((l ++ [((v : Int), (d : Int))]).flatMap encP) → v10'.l = v10.l + 1 → M' 3 = M 3 → X2 (v10', some ⟨b1', 0, none⟩) h') :
    S173_l5 p b v5 d0 X1 X2 v10 (some ⟨b1, 0, none⟩) h := by
  unfold S173_l5
  refine ⟨_, rfl, v, d, st.putRdn 1 m1, false, by rw [← hk]; exact st.duoGet 0 m0 dd _ _, ?_⟩
  rw [if_pos (by decide)]
  obtain ⟨h1, es1, cl1, w1, st1, dd1⟩ := st.duoPut 0 m0 dd hk
  refine ⟨_, rfl, v, d, st.putRdn 1 m1, h1, w1, _, rfl, v, d, st1.putRdn 1 (pk1 m1), ?_⟩
  refine st1.putApp 2 (pk1 m2) rfl hl (by decide) fun s2 h2 l2 st2 => ?_
  refine ⟨_, rfl, v, d, st2.putRdn 1 (pk1 (pk1 m1)), fun b3 h3 n3 e3 => ?_⟩
  have st3 := st2.putNew 1 n3 e3
  obtain ⟨h4, w4, st4⟩ := st3.putWr 1 pk0 (off := 0) (vs := [.int .i64 v, .int .i64 d]) (Nat.le_of_ble_eq_true rfl)
  refine ⟨h4, w4, v, d, st4.putRdn 1 pk0, ?_⟩
  refine next h4 _ (r.le st4.le) ?_
  obtain ⟨h5, w5, st5⟩ := st4.putWr 1 pk0 (off := 0) (vs := [.int .i64 w, .int .i64 e]) (Nat.le_of_ble_eq_true rfl)
  refine ⟨h5, w5, ?_⟩
  refine k s2 h5 _ b3 es1 cl1 st5 (pk1 (pk1 (pk1 (pk1 pk0)))) dd1 pk0 (pk1 (pk1 (pk1 ?_))) l2 (pk1 (pk1 (pk1 (pk1 (pk1 rfl)))))
  rw [List.flatMap_append]
  exact pk0
/-- The cells' darts, back and forth. -/
theorem c173 {p : Sl} (r : Rd h p 8 Cell.enc cells2) {K : Sl → Int → H → Prop}
    (k : ∀ s f h', h.Le h' → Rd h' s 1 (fun s : Sl => [s.v]) [f] → Rd h' f 2 encP [(0, 0), (1, 2)] → K s 0 h') : S173 p h K := by
  have e0 : p.l = 2 := r.1
  unfold S173
  refine c149 r (by decide) ok_cells2 ?_
  rw [if_neg (by decide)]
  intro b h1 n1 e1
  have st := ((St.init (ρ := Nat) h).putNew 0 n1 e1).putNil 3 233 1
  intro X hX
  refine hX _ _ ?_
  unfold S173_l8
  dsimp only
  rw [if_pos (by simp [e0])]
  intro Y hY
  refine hY _ _ ?_
  unfold S173_l7
  dsimp only
  rw [if_pos (by simp)]
  refine c192 (v := 0) (d := 0) (r.le st.le) rfl (by decide) ?_
  rw [if_neg (by decide)]
  refine ⟨false, st.duoGet (es := #[]) (cl := 0) (ks := []) 0 (pk1 pk0) rfl _ _, ?_⟩
  unfold S173_j6
  rw [if_neg (by decide)]
  intro b2 h2 n2 e2
  have st2 := st.putNew 1 n2 e2
  obtain ⟨h3, w3, st3⟩ := st2.putWr 1 pk0 (off := 0) (vs := [.int .i64 0, .int .i64 0]) (Nat.le_of_ble_eq_true rfl)
  refine ⟨h3, w3, ?_⟩
  have st4 := st3.putNil 2 255 2
  intro Z hZ
  refine hZ _ _ (p173s (v := 0) (d := 0) (w := 1) (e := 2) (ks := []) (es := #[]) (cl := 0) (l := []) r st4 (pk1 (pk1 (pk1 (pk1 pk0)))) rfl rfl (pk1 pk0) pk0 (show 0 < 1000 by decide) (fun h2 K r2 k => c193 (v := 0) (d := 0) (w := 1) r2 rfl (by decide) rfl rfl rfl rfl rfl (by decide) k) fun q5 h5 M5 b5 es5 cl5 st5 a0 ad a1 a2 l5 a3 => ?_)
  refine hZ _ _ (p173s (v := 1) (d := 2) (w := 0) (e := 0) (ks := [(0, 0)]) (l := [(0, 0)]) r st5 a0 ad rfl a1 a2 (by rw [l5]; show 0 + 1 < 1000; decide) (fun h2 K r2 k => c193 (v := 1) (d := 2) (w := 0) r2 rfl (by decide) rfl rfl rfl rfl rfl (by decide) k) fun q6 h6 M6 b6 es6 cl6 st6 c0 cd c1 c2 l6 c3 => ?_)
  refine hZ _ _ ?_
  unfold S173_l5
  dsimp only
  refine ⟨_, rfl, 0, 0, st6.putRdn 1 c1, true, st6.duoGet 0 c0 cd 0 0, ?_⟩
  rw [if_neg (by decide)]
  unfold S173_j4
  refine st6.putApp (xs := []) 3 (c3.trans (a3.trans (pk1 (pk1 (pk1 pk0))))) rfl (by decide) (by decide) fun q7 h7 l7 st7 => ?_
  unfold S173_j3
  have r7 := r.le st7.le
  refine hY _ _ (p173n (v := 0) (d := 1) r7 rfl (by decide) rfl ?_)
  refine hY _ _ (p173n (v := 0) (d := 2) r7 rfl (by decide) rfl ?_)
  refine hY _ _ (p173n (v := 0) (d := 3) r7 rfl (by decide) rfl ?_)
  refine hY _ _ ?_
  unfold S173_l7
  dsimp only
  rw [if_neg (by simp)]
  unfold S173_j2
  refine hX _ _ ?_
  unfold S173_l8
  dsimp only
  rw [if_pos (by rw [e0]; exact (by decide : decide (IntKind.i64.wrap ((0 : Int) + 1) < ((2 : Nat) : Int)) = true))]
  intro V hV
  refine hV _ _ (p173n (v := 1) (d := 0) r7 rfl (by decide) rfl ?_)
  refine hV _ _ (p173n (v := 1) (d := 1) r7 rfl (by decide) rfl ?_)
  refine hV _ _ (p173m (v := 1) (d := 2) r7 rfl (by decide) (by decide) (st7.duoGet 0 (pk1 c0) cd 1 2) ?_)
  refine hV _ _ (p173n (v := 1) (d := 3) r7 rfl (by decide) rfl ?_)
  refine hV _ _ ?_
  unfold S173_l7
  dsimp only
  rw [if_neg (by simp)]
  unfold S173_j2
  refine hX _ _ ?_
  unfold S173_l8
  dsimp only
  rw [if_neg (by rw [e0]; exact (by decide : ¬ decide (IntKind.i64.wrap (IntKind.i64.wrap ((0 : Int) + 1) + 1) < ((2 : Nat) : Int)) = true))]
  unfold S173_j1
  exact k q7 q6 h7 st7.le (st7.arr (enc := fun s : Sl => [s.v]) (l := [q6]) 3 pk0 (fun _ _ => rfl) (by decide)) (st7.arr (enc := encP) (l := [(0, 0), (1, 2)]) 2 (pk1 c2) (fun _ _ => rfl) (by decide))
end Go.Proofs.YtimadnngfhbfiaaGreatDoor
end

section
/-
  The wake's cells can be drawn.
-/
namespace Go.Proofs.YtimadnngfhbfiaaGreatDoor
open Go Go.Mu Go.Shape Go.Text
variable {h h0 : H}
set_option maxHeartbeats 1000000
theorem c144 {d e : Nat} (hd : d < 4) (he : e < 4) {K : Int → H → Prop} (k : K (sel ([0, 1, (-2), (-1)] : List Int) (((e + 4 - d) % 4 : Nat) : Int)) h) : S144 d e h K := by
  have q : Int.tmod (IntKind.wrap .i64 ((IntKind.wrap .i64 ((e : Int) - (d : Int))) + 4)) 4 = (((e + 4 - d) % 4 : Nat) : Int) := by
    rcases cases4 hd with rfl | rfl | rfl | rfl <;> rcases cases4 he with rfl | rfl | rfl | rfl <;> rfl
  have hm : (e + 4 - d) % 4 < 4 := Nat.mod_lt _ (by decide)
  unfold S144
  refine c48 hd ?_
  rw [if_neg (by decide)]
  refine c48 he ?_
  unfold S144_j1
  rw [if_neg (by decide), q]
  exact ⟨by omega, by omega, k⟩
theorem c174 {p : Sl} (r : Rd h p 1 enc1 [-2, -2]) {K : Int → H → Prop} (k : K (-4) h) : S174 p h K := by
  have e : p.l = 2 := r.1
  obtain ⟨a, ha, h1⟩ := r.ix (i := 0) rfl
  obtain ⟨b, hb, h2⟩ := r.ix (i := 1) rfl
  unfold S174
  intro X hX
  refine hX _ _ ?_
  unfold S174_l4
  dsimp only
  rw [if_pos (by simp [e])]
  refine ⟨a, ha, by decide, by rw [e]; decide, -2, h1.at0, ?_⟩
  unfold S174_j3 S174_j2
  rw [if_pos (by decide)]
  refine hX _ _ ?_
  unfold S174_l4
  dsimp only
  rw [if_pos (by rw [e]; exact (by decide : decide (IntKind.i64.wrap ((0 : Int) + 1) < ((2 : Nat) : Int)) = true))]
  refine ⟨b, hb, by decide, by rw [e]; decide, -2, h2.at0, ?_⟩
  unfold S174_j3 S174_j2
  rw [if_pos (by decide)]
  refine hX _ _ ?_
  unfold S174_l4 S174_j1
  dsimp only
  rw [if_neg (by rw [e]; exact (by decide : ¬ decide (IntKind.i64.wrap (IntKind.i64.wrap ((0 : Int) + 1) + 1) < ((2 : Nat) : Int)) = true))]
  exact k
theorem zeroI2 : zeros (.int .i64 0) (Int.toNat ((2 : Nat) : Int) * 1) = [.int .i64 0, .int .i64 0] := rfl
theorem c175 {p f : Sl} (r : Rd h p 8 Cell.enc cells2) (rf : Rd h f 2 encP [(0, 0), (1, 2)]) {K : Sl → H → Prop} (k : ∀ s h', h.Le h' → Rd h' s 1 enc1 [-2, -2] → K s h') : S175 p f h K := by
  have e : f.l = 2 := rf.1
  obtain ⟨a, ha, f1⟩ := rf.ix (i := 0) rfl
  obtain ⟨b, hb, f2⟩ := rf.ix (i := 1) rfl
  unfold S175
  rw [e, zeroI2]
  refine ⟨by decide, by decide, by decide, by decide, fun b1 h1 n1 e1 => ?_⟩
  have st := (St.init (ρ := Nat) h).putNew 0 n1 e1
  refine c149 (r.le st.le) (by decide) ok_cells2 ?_
  rw [if_neg (by decide)]
  intro X hX
  refine hX _ _ ?_
  unfold S175_l3
  dsimp only
  rw [if_pos (by rw [e]; decide)]
  refine ⟨a, ha, by decide, by rw [e]; decide, 0, 0, st.le.rdn f1, ?_⟩
  refine c192 (v := 0) (d := 0) (r.le st.le) rfl (by decide) ?_
  rw [if_pos (by decide)]
  refine c193 (v := 0) (d := 0) (w := 1) (r.le st.le) rfl (by decide) rfl rfl rfl rfl rfl (by decide) ?_
  refine c144 (d := 0) (e := opp 0) (by decide) (by decide) ?_
  obtain ⟨h2, w2, st2⟩ := st.putWr 0 pk0 (off := 0) (vs := [.int .i64 (-2)]) (Nat.le_of_ble_eq_true rfl)
  refine ⟨_, rfl, by decide, by rw [e]; decide, h2, w2, ?_⟩
  unfold S175_j2
  refine hX _ _ ?_
  unfold S175_l3
  dsimp only
  rw [if_pos (by rw [e]; exact (by decide : decide (IntKind.i64.wrap ((0 : Int) + 1) < ((2 : Nat) : Int)) = true))]
  refine ⟨b, hb, by decide, by rw [e]; decide, 1, 2, st2.le.rdn f2, ?_⟩
  refine c192 (v := 1) (d := 2) (r.le st2.le) rfl (by decide) ?_
  rw [if_pos (by decide)]
  refine c193 (v := 1) (d := 2) (w := 0) (r.le st2.le) rfl (by decide) rfl rfl rfl rfl rfl (by decide) ?_
  refine c144 (d := 2) (e := opp 2) (by decide) (by decide) ?_
  obtain ⟨h3, w3, st3⟩ := st2.putWr 0 pk0 (off := 1) (vs := [.int .i64 (-2)]) (Nat.le_of_ble_eq_true rfl)
  refine ⟨_, rfl, by decide, by rw [e]; decide, h3, w3, ?_⟩
  unfold S175_j2
  refine hX _ _ ?_
  unfold S175_l3 S175_j1
  dsimp only
  rw [if_neg (by rw [e]; exact (by decide : ¬ decide (IntKind.i64.wrap (IntKind.i64.wrap ((0 : Int) + 1) + 1) < ((2 : Nat) : Int)) = true)), e]
  exact k _ h3 st3.le (st3.putRow (l := [-2, -2]) (enc := enc1) 0 pk0 fun _ _ => rfl)
theorem c151 {p : Sl} (r : Rd h p 8 Cell.enc cells2) {K : Int → Bool → H → Prop} (k : ∀ h', h.Le h' → K 0 true h') : S151 p h K := by
  unfold S151
  refine c173 r fun s f h1 le1 rs rf => ?_
  have es : s.l = 1 := rs.1
  obtain ⟨a, ha, f1⟩ := rs.ix (i := 0) rfl
  intro X hX
  refine hX _ _ ?_
  unfold S151_l3
  dsimp only
  rw [if_pos (by simp [es])]
  refine ⟨a, ha, by decide, by rw [es]; decide, f, f1.at0, ?_⟩
  refine c175 (r.le le1) rf fun t h2 le2 rt => ?_
  refine c174 rt ?_
  rw [if_neg (by decide), if_pos (by decide), if_neg (by decide)]
  unfold S151_j2
  refine hX _ _ ?_
  unfold S151_l3 S151_j1
  dsimp only
  rw [if_neg (by rw [es]; exact (by decide : ¬ decide (IntKind.i64.wrap ((0 : Int) + 1) < ((1 : Nat) : Int)) = true))]
  exact k h2 (le1.trans le2)
theorem c122 {p : Sl} (r : Rd h p 8 Cell.enc cells2) {K : Int → H → Prop} (k : ∀ h', h.Le h' → K 0 h') : S122 p h K := by
  unfold S122
  refine c149 r (by decide) ok_cells2 ?_
  rw [if_neg (by decide)]
  refine c150w r fun h1 le1 => ?_
  rw [if_neg (by decide)]
  refine c151 (r.le le1) fun h2 le2 => ?_
  unfold S122_j1
  rw [if_neg (by simp)]
  exact k h2 (le1.trans le2)
end Go.Proofs.YtimadnngfhbfiaaGreatDoor
end

section
/-
  The wake's length.
-/
namespace Go.Proofs.YtimadnngfhbfiaaGreatDoor
open Go Go.Mu Go.Shape Go.Text
variable {h h0 : H}
set_option maxHeartbeats 1000000
def at2 : List Pt := [(0, 0), (1, 0)]
theorem near2 : ∀ p ∈ at2, near p := fun p hp => by
  rcases List.mem_cons.1 hp with rfl | hp
  · unfold near; omega
  · rcases List.mem_cons.1 hp with rfl | hp
    · unfold near; omega
    · cases hp
theorem c153 {p : Pt} (hp : near p) {K : Bool → H → Prop} (k : K false h) : S153 p.1 p.2 h K := by
  unfold S153 S153_j1
  obtain ⟨⟨a, b⟩, c, d⟩ := hp
  have e1 : decide ((if p.2 > p.1 then p.2 else p.1) > 1000000) = false := decide_eq_false (by split <;> omega)
  have e2 : decide ((if p.2 < p.1 then p.2 else p.1) < (-1000000)) = false := decide_eq_false (by split <;> omega)
  rw [e1, e2]; exact k
theorem c152 {p : Sl} {l : List Pt} (r : Rd h p 2 encP l) (hn : ∀ x ∈ l, near x) (hl : l.length ≤ 5000) {K : Bool → H → Prop} (k : K false h) : S152 p h K := by
  have e := r.len
  unfold S152 S176
  refine lfp.count l.length (fun i (u : Int) h' => h' = h ∧ u = (i : Int)) (fun X i u h' hi ⟨q1, q2⟩ next => ?_) ⟨rfl, rfl⟩
  subst q1 q2
  unfold S176_l2
  by_cases hlt : i < l.length
  · rw [if_pos (by simp; omega)]
    obtain ⟨x, hx⟩ : ∃ x, l[i]? = some x := ⟨_, List.getElem?_eq_getElem hlt⟩
    obtain ⟨a, ha, hr⟩ := r.ix hx
    refine ⟨a, ha, by omega, by omega, x.1, x.2, by rw [Int.toNat_natCast]; exact hr, ?_⟩
    refine c153 (hn x (List.mem_of_getElem? hx)) ?_
    rw [if_neg (by decide), wsucc (by omega)]
    exact next hlt _ _ ⟨rfl, rfl⟩
  · rw [if_neg (by simp; omega)]
    unfold S176_j1
    exact k
theorem c123 {p q : Sl} (r : Rd h p 8 Cell.enc cells2) (rq : Rd h q 2 encP at2) {K : Int → Int → H → Prop} (k : ∀ v h', h.Le h' → K v 0 h') : S123 p q h K := by
  have e : p.l = 2 := r.1
  have eq : q.l = 2 := rq.1
  obtain ⟨a, ha, c1⟩ := r.ix (i := 0) rfl
  obtain ⟨b, hb, c2⟩ := r.ix (i := 1) rfl
  obtain ⟨f, hf, p1⟩ := rq.ix (i := 0) rfl
  obtain ⟨g, hg, p2⟩ := rq.ix (i := 1) rfl
  unfold S123
  refine c149 r (by decide) ok_cells2 ?_
  rw [if_neg (by decide), if_neg (by rw [e, eq]; decide)]
  refine c152 rq near2 (by decide) ?_
  unfold S123_j7
  rw [if_neg (by decide)]
  intro X hX
  refine hX _ _ ?_
  unfold S123_l6
  dsimp only
  rw [if_pos (by simp [e])]
  refine ⟨a, ha, by decide, by rw [e]; decide, 1, -1, -1, -1, 0, 0, 0, 0, c1, fun b1 h1 n1 e1 => ?_⟩
  have st := (St.init (ρ := Nat) h).putNew 0 n1 e1
  intro Y hY
  refine hY _ _ ?_
  unfold S123_l5
  dsimp only
  rw [if_pos (by simp)]
  refine ⟨_, rfl, by decide, by decide, 0, st.putRd 0 pk0 (off := 0) rfl, by decide, by decide, ?_⟩
  rw [if_neg (by decide)]
  have s1 := st.le.rdn p1
  have s2 := st.le.rdn p2
  refine ⟨f, hf, by decide, by rw [eq]; decide, 0, 0, s1, g, hg, by decide, by rw [eq]; decide, 1, 0, s2, ?_⟩
  unfold S143
  rw [if_neg (by decide), if_pos (by decide)]
  unfold S123_j4
  dsimp only
  rw [if_neg (by decide)]
  refine ⟨by decide, by decide, g, hg, by decide, by rw [eq]; decide, 1, s2.at0, f, hf, by decide, by rw [eq]; decide, 0, s1.at0, g, hg, by decide, by rw [eq]; decide, 0, s2.at 1 rfl, f, hf, by decide, by rw [eq]; decide, 0, s1.at 1 rfl, ?_⟩
  unfold S154
  rw [if_pos (by decide)]
  refine ⟨s2.at0, s1.at0, s2.at 1 rfl, s1.at 1 rfl, ?_⟩
  unfold S123_j3
  refine hY _ _ ?_
  unfold S123_l5
  dsimp only
  rw [if_pos (by exact (by decide : decide (IntKind.i64.wrap ((0 : Int) + 1) < (2 : Int)) = true))]
  refine ⟨_, rfl, by decide, by decide, 1, st.putRd 0 pk0 (off := 1) rfl, by decide, by decide, ?_⟩
  rw [if_pos (by decide)]
  unfold S123_j3
  refine hY _ _ ?_
  unfold S123_l5
  dsimp only
  rw [if_neg (by exact (by decide : ¬ decide (IntKind.i64.wrap (IntKind.i64.wrap ((0 : Int) + 1) + 1) < (2 : Int)) = true))]
  unfold S123_j2
  refine hX _ _ ?_
  unfold S123_l6
  dsimp only
  rw [if_pos (by rw [e]; exact (by decide : decide (IntKind.i64.wrap ((0 : Int) + 1) < ((2 : Nat) : Int)) = true))]
  refine ⟨b, hb, by decide, by rw [e]; decide, -1, -1, 0, -1, 0, 0, 0, 0, st.le.rdn c2, fun b2 h2 n2 e2 => ?_⟩
  have st2 := st.putNew 1 n2 e2
  intro Z hZ
  refine hZ _ _ ?_
  unfold S123_l5
  dsimp only
  rw [if_pos (by simp)]
  refine ⟨_, rfl, by decide, by decide, 0, st2.putRd 1 pk0 (off := 0) rfl, by decide, by decide, ?_⟩
  rw [if_pos (by decide)]
  unfold S123_j3
  refine hZ _ _ ?_
  unfold S123_l5
  dsimp only
  rw [if_pos (by exact (by decide : decide (IntKind.i64.wrap ((0 : Int) + 1) < (2 : Int)) = true))]
  refine ⟨_, rfl, by decide, by decide, 1, st2.putRd 1 pk0 (off := 1) rfl, by decide, by decide, ?_⟩
  rw [if_pos (by decide)]
  unfold S123_j3
  refine hZ _ _ ?_
  unfold S123_l5
  dsimp only
  rw [if_neg (by exact (by decide : ¬ decide (IntKind.i64.wrap (IntKind.i64.wrap ((0 : Int) + 1) + 1) < (2 : Int)) = true))]
  unfold S123_j2
  refine hX _ _ ?_
  unfold S123_l6 S123_j1
  dsimp only
  rw [if_neg (by rw [e]; exact (by decide : ¬ decide (IntKind.i64.wrap (IntKind.i64.wrap ((0 : Int) + 1) + 1) < ((2 : Nat) : Int)) = true))]
  exact k _ h2 st2.le
end Go.Proofs.YtimadnngfhbfiaaGreatDoor
end

section
/-
  The wake's lines: one, which meets none.
-/
namespace Go.Proofs.YtimadnngfhbfiaaGreatDoor
open Go Go.Mu Go.Shape Go.Text
variable {h h0 : H}
set_option maxHeartbeats 1000000
abbrev encSl (s : Sl) : List Value := [s.v]
theorem rd_next {p : Sl} {cs : List Cell} {c : Cell} {v d : Nat} (r : Rd h p 8 Cell.enc cs) (hc : cs[v]? = some c) (hd : d < 4) {P : Int → Prop} (hp : P (c.next d)) :
    ∃ a : Addr, p.a = some a ∧ 0 ≤ (v : Int) ∧ (v : Int) < (p.l : Int) ∧ (0 ≤ (d : Int) ∧ (d : Int) < 4 ∧ ∃ x : Int, h.rd (Addr.add (Addr.add a (Int.toNat (v : Int) * 8)) (Int.toNat (d : Int) * 1)) = some (.int .i64 x) ∧ P x) := by
  have e := r.len
  have hv := (List.getElem?_eq_some_iff.1 hc).1
  obtain ⟨a, ha, hn⟩ := cell_next r hc hd
  exact ⟨a, ha, by omega, by omega, by omega, by omega, _, hn, hp⟩
/-- A chain that begins at v. -/
theorem p177 {p v9 : Sl} {b v d e : Nat} {cs : List Cell} {c : Cell} {K : Sl → Sl → Bool → H → Prop} {X : Sl × Int → H → Prop} {M : Nat → Res} {x0 : Int} (r : Rd h p 8 Cell.enc cs) (e0 : p.l = 2) (hc : cs[v]? = some c) (hv : v < 2) (he : e < 4) (hb : c.next e = -1)
    (hx : x0 < 0) (st : St h0 h M) {row : List Value} (m0 : M 0 = .blk b (.row ⟨row, 2, 3, true, true⟩)) (hr : row[v]? = some (.int .i64 x0)) (k : S177_j5 p d ⟨some ⟨b, 0, none⟩, 2, 2⟩ v9 v X v h) : S177_l7 p d K ⟨some ⟨b, 0, none⟩, 2, 2⟩ e X v9 v h := by
  unfold S177_l7
  rw [if_pos (by simp; omega)]
  refine ⟨_, rfl, by omega, by show (v : Int) < ((2 : Nat) : Int); omega, x0, by rw [Int.toNat_natCast, Nat.mul_one, Addr.add_n, Nat.zero_add]; exact st.rd 0 m0 hr, ?_⟩
  rw [if_neg (by simp; omega)]
  intro Y hY
  refine hY _ _ ?_
  unfold S177_l6
  dsimp only
  refine rd_next r hc he ?_
  rw [hb, if_neg (by decide)]
  exact k
/-- A cell of a chain. -/
theorem p177c {p v9 q : Sl} {b v w d : Nat} {cs : List Cell} {c : Cell} {X X1 : Sl × Int → H → Prop} {M : Nat → Res} {row xs : List Value} (r : Rd h0 p 8 Cell.enc cs) (hc : cs[w]? = some c) (hw : w < 2) (hd : d < 4) (st : St h0 h M) (m0 : M 0 = .blk b (.row ⟨row, 2, 3, true, true⟩)) (hrow : row.length = 2)
    (m1 : M 1 = .arr q 3 1 xs) (hl : q.l < 1000) (k : ∀ q' h' M', St h0 h' M' → M' 0 = .blk b (.row ⟨setL row w [.int .i64 (v9.l : Int)], 2, 3, true, true⟩) → M' 1 = .arr q' 3 1 (xs ++ [.int .i64 (w : Int)]) → q'.l = q.l + 1 → M' 2 = M 2 → X1 (q', c.next d) h') :
    S177_l4 p d ⟨some ⟨b, 0, none⟩, 2, 2⟩ v9 v X X1 q w h := by
  unfold S177_l4
  rw [if_pos (by simp)]
  obtain ⟨h1, w1, st1⟩ := st.putWr 0 m0 (off := w) (vs := [.int .i64 (v9.l : Int)]) (by rw [hrow]; show w + 1 ≤ 2; omega)
  refine ⟨_, rfl, by omega, by show (w : Int) < ((2 : Nat) : Int); omega, h1, by rw [Int.toNat_natCast, Nat.mul_one, Addr.add_n, Nat.zero_add]; exact w1, ?_⟩
  refine st1.putApp 1 (pk1 m1) rfl hl (by decide) fun q' h2 l2 st2 => ?_
  refine rd_next (r.le st2.le) hc hd ?_
  exact k q' h2 _ st2 (pk1 pk0) pk0 l2 (pk1 (pk1 rfl))
theorem p177e {p v9 q : Sl} {b v : Nat} {d : Int} {X X1 : Sl × Int → H → Prop} {M : Nat → Res} {xs : List Value} (hv : v < 2) (st : St h0 h M) (m2 : M 2 = .arr v9 69 1 xs) (hl : v9.l < 1000)
    (k : ∀ v9' h' M', St h0 h' M' → M' 0 = M 0 → M' 1 = M 1 → M' 2 = .arr v9' 69 1 (xs ++ [q.v]) → v9'.l = v9.l + 1 → X (v9', ((v + 1 : Nat) : Int)) h') : S177_l4 p d ⟨some ⟨b, 0, none⟩, 2, 2⟩ v9 v X X1 q (-1) h := by
  unfold S177_l4
  rw [if_neg (by decide)]
  unfold S177_j3
  refine st.putApp 2 m2 rfl hl (by decide) fun s h2 l2 st2 => ?_
  unfold S177_j2
  rw [wsucc (by omega)]
  exact k s h2 _ st2 (pk1 rfl) (pk1 rfl) pk0 l2
theorem c177n {p : Sl} (r : Rd h p 8 Cell.enc cells2) {K : Sl → Sl → Bool → H → Prop}
    (k : ∀ x l s0 s1 h', h.Le h' → Rd h' l 1 encSl [s0, s1] → s0.l = 1 → s1.l = 1 → K x l true h') : S177 p 1 h K := by
  have e0 : p.l = 2 := r.1
  unfold S177
  intro x1 h1 n1 e1
  have st0 := (St.init (ρ := Nat) h).putNew 9 n1 e1
  rw [e0]
  refine c194 (st0.putRow (l := [-1]) (enc := enc1) 9 pk0 fun _ _ => rfl) fun b h2 t2 => ?_
  have st2 := ((St.with st0 t2 (0 : Nat)).putNil 1 3 1).putNil 2 69 1
  refine c104 (d := 1) (e := 3) (by decide) (left2 (d := 1) (by decide)) ?_
  intro X hX
  refine hX _ _ (p177 (v := 0) (d := 1) (e := 3) (r.le st2.le) e0 rfl (by decide) (by decide) rfl (by decide) st2 (pk1 (pk1 pk0)) rfl ?_)
  unfold S177_j5
  intro Y hY
  refine hY _ _ (p177c (v := 0) (w := 0) (d := 1) r rfl (by decide) (by decide) st2 (pk1 (pk1 pk0)) rfl (pk1 pk0) (by decide) fun q3 h3 M3 st3 a0 a1 l3 a2 => ?_)
  refine hY _ _ (p177e (v := 0) (by decide) st3 (a2.trans pk0) (by decide) fun l4 h4 M4 st4 c0 c1 c2 k4 => ?_)
  have st5 := st4.putNil 1 3 1
  refine hX _ _ (p177 (v := 1) (d := 1) (e := 3) (x0 := -1) (r.le st5.le) e0 rfl (by decide) (by decide) rfl (by decide) st5 (pk1 (c0.trans a0)) rfl ?_)
  unfold S177_j5
  intro Z hZ
  refine hZ _ _ (p177c (v := 1) (w := 1) (d := 1) r rfl (by decide) (by decide) st5 (pk1 (c0.trans a0)) rfl pk0 (by decide) fun q6 h6 M6 st6 f0 f1 l6 f2 => ?_)
  refine hZ _ _ (p177e (v := 1) (by decide) st6 (f2.trans (pk1 c2)) (by rw [k4]; decide) fun l7 h7 M7 st7 g0 g1 g2 k7 => ?_)
  refine hX _ _ ?_
  unfold S177_l7 S177_j1
  dsimp only
  rw [if_neg (by rw [e0]; simp)]
  exact k _ l7 q3 q6 h7 st7.le (st7.arr (enc := encSl) (l := [q3, q6]) 2 g2 (fun _ _ => rfl) (by decide)) (by rw [l3]) (by rw [l6])
theorem c177e {p : Sl} (r : Rd h p 8 Cell.enc cells2) {K : Sl → Sl → Bool → H → Prop}
    (k : ∀ x l s h', h.Le h' → Rd h' l 1 encSl [s] → Rd h' s 1 encN [0, 1] → K x l true h') : S177 p 0 h K := by
  have e0 : p.l = 2 := r.1
  unfold S177
  intro x1 h1 n1 e1
  have st0 := (St.init (ρ := Nat) h).putNew 9 n1 e1
  rw [e0]
  refine c194 (st0.putRow (l := [-1]) (enc := enc1) 9 pk0 fun _ _ => rfl) fun b h2 t2 => ?_
  have st2 := ((St.with st0 t2 (0 : Nat)).putNil 1 3 1).putNil 2 69 1
  refine c104 (d := 0) (e := 2) (by decide) (left2 (d := 0) (by decide)) ?_
  intro X hX
  refine hX _ _ (p177 (v := 0) (d := 0) (e := 2) (r.le st2.le) e0 rfl (by decide) (by decide) rfl (by decide) st2 (pk1 (pk1 pk0)) rfl ?_)
  unfold S177_j5
  intro Y hY
  refine hY _ _ (p177c (v := 0) (w := 0) (d := 0) r rfl (by decide) (by decide) st2 (pk1 (pk1 pk0)) rfl (pk1 pk0) (by decide) fun q3 h3 M3 st3 a0 a1 l3 a2 => ?_)
  refine hY _ _ (p177c (v := 0) (w := 1) (d := 0) r rfl (by decide) (by decide) st3 a0 rfl a1 (by rw [l3]; decide) fun q4 h4 M4 st4 c0 c1 l4 c2 => ?_)
  refine hY _ _ (p177e (v := 0) (by decide) st4 (c2.trans (a2.trans pk0)) (by decide) fun l5 h5 M5 st5 f0 f1 f2 k5 => ?_)
  refine hX _ _ ?_
  unfold S177_l7
  dsimp only
  rw [if_pos (by rw [e0]; simp)]
  refine ⟨_, rfl, by decide, (show (1 : Int) < ((2 : Nat) : Int) by decide), 0, st5.rd 0 (f0.trans c0) (off := 1) rfl, ?_⟩
  rw [if_pos (by decide)]
  unfold S177_j2
  refine hX _ _ ?_
  unfold S177_l7 S177_j1
  dsimp only
  rw [if_neg (by rw [e0]; exact (by decide : ¬ decide (IntKind.i64.wrap (((0 + 1 : Nat) : Int) + 1) < ((2 : Nat) : Int)) = true))]
  exact k _ l5 q4 h5 st5.le (st5.arr (enc := encSl) (l := [q4]) 2 f2 (fun _ _ => rfl) (by decide)) (st5.arr (enc := encN) (l := [0, 1]) 1 (f1.trans c1) (fun _ _ => rfl) (by decide))
theorem c155 {p : Sl} (r : Rd h p 8 Cell.enc cells2) {K : Sl → Sl → Sl → Sl → Int → H → Prop}
    (k : ∀ x y l m s0 s1 s h', h.Le h' → Rd h' l 1 encSl [s0, s1] → s0.l = 1 → s1.l = 1 → Rd h' m 1 encSl [s] → Rd h' s 1 encN [0, 1] → K x y l m 0 h') : S155 p h K := by
  unfold S155
  refine c149 r (by decide) ok_cells2 ?_
  rw [if_neg (by decide)]
  refine c177n r fun x l s0 s1 h1 le1 rl q0 q1 => ?_
  refine c177e (r.le le1) fun y m s h2 le2 rm rs => ?_
  unfold S155_j1
  rw [if_neg (by decide)]
  exact k x y l m s0 s1 s h2 (le1.trans le2) (rl.le le2) q0 q1 rm rs
theorem c156 {p : Sl} (r : Rd h p 8 Cell.enc cells2) {K : Sl → Int → H → Prop}
    (k : ∀ s h', h.Le h' → s.l = 1 → s.l ≤ s.c → (∃ a, s.a = some a ∧ h'.rdn a 2 [.bool false, .int .i64 0]) → K s 0 h') : S156 p h K := by
  unfold S156
  refine c155 r fun x y l m s0 s1 s h1 le1 rl q0 q1 rm rs => ?_
  have el : l.l = 2 := rl.1
  have em : m.l = 1 := rm.1
  have es : s.l = 2 := rs.1
  obtain ⟨a, ha, r0⟩ := rl.ix (i := 0) rfl
  obtain ⟨b, hb, r1⟩ := rl.ix (i := 1) rfl
  obtain ⟨c, hc, r2⟩ := rm.ix (i := 0) rfl
  rw [if_neg (by decide)]
  unfold S178
  intro X hX
  refine hX _ _ ?_
  unfold S178_l6
  dsimp only
  rw [if_pos (by simp [el])]
  refine ⟨a, ha, by decide, by rw [el]; decide, s0, r0.at0, ?_⟩
  rw [if_neg (by rw [q0]; decide)]
  unfold S178_j5
  refine hX _ _ ?_
  unfold S178_l6
  dsimp only
  rw [if_pos (by rw [el]; exact (by decide : decide (IntKind.i64.wrap ((0 : Int) + 1) < ((2 : Nat) : Int)) = true))]
  refine ⟨b, hb, by decide, by rw [el]; decide, s1, r1.at0, ?_⟩
  rw [if_neg (by rw [q1]; decide)]
  unfold S178_j5
  refine hX _ _ ?_
  unfold S178_l6
  dsimp only
  rw [if_neg (by rw [el]; exact (by decide : ¬ decide (IntKind.i64.wrap (IntKind.i64.wrap ((0 : Int) + 1) + 1) < ((2 : Nat) : Int)) = true))]
  unfold S178_j4
  intro Y hY
  refine hY _ _ ?_
  unfold S178_l3
  dsimp only
  rw [if_pos (by simp [em])]
  refine ⟨c, hc, by decide, by rw [em]; decide, s, r2.at0, ?_⟩
  rw [if_pos (by rw [es]; decide)]
  have st := (St.init (ρ := Nat) h1).putNil 0 216 2
  refine st.putApp 0 pk0 rfl (by decide) (by decide) fun t h2 l2 st2 => ?_
  unfold S178_j2
  refine hY _ _ ?_
  unfold S178_l3 S178_j1
  dsimp only
  rw [if_neg (by rw [em]; exact (by decide : ¬ decide (IntKind.i64.wrap ((0 : Int) + 1) < ((1 : Nat) : Int)) = true))]
  have et : t.l = 1 := by rw [l2]
  refine k t h2 (le1.trans st2.le) et ?_ ?_
  · rcases (st2.own 0 pk0).2 with ⟨ho, _⟩ | ⟨g, cap, ho, _, hc, _⟩
    · simp only [Value.slice.injEq] at ho; omega
    · simp only [Value.slice.injEq] at ho; omega
  · have rt := st2.arr (enc := fun _ : Unit => [.bool false, .int .i64 0]) (l := [()]) 0 pk0 (fun _ _ => rfl) (by decide)
    obtain ⟨a, ha, hr⟩ := rt.ix (i := 0) rfl
    exact ⟨a, ha, hr⟩
theorem c124 {p q : Sl} (r : Rd h p 8 Cell.enc cells2) (rq : Rd h q 2 encP at2) {K : Bool → H → Prop} (k : ∀ h', h.Le h' → K false h') : S124 p q h K := by
  have eq : q.l = 2 := rq.1
  unfold S124
  refine c155 r fun x y l m s0 s1 s h1 le1 rl q0 q1 rm rs => ?_
  refine c156 (r.le le1) fun t h2 le2 et hcap ⟨a, ha, hr⟩ => ?_
  have em : m.l = 1 := rm.1
  have es : s.l = 2 := rs.1
  obtain ⟨c, hc, r2⟩ := (rm.le le2).ix (i := 0) rfl
  obtain ⟨d, hd, u0⟩ := (rs.le le2).ix (i := 0) rfl
  obtain ⟨e, he, u1⟩ := (rs.le le2).ix (i := 1) rfl
  obtain ⟨f, hf, w0⟩ := (rq.le (le1.trans le2)).ix (i := 0) rfl
  obtain ⟨g, hg, w1⟩ := (rq.le (le1.trans le2)).ix (i := 1) rfl
  intro X hX
  refine hX _ _ ?_
  unfold S124_l4
  dsimp only
  rw [if_pos (by simp [et])]
  refine ⟨a, ha, by decide, by rw [et]; decide, false, 0, hr, ?_⟩
  unfold S157
  rw [if_neg (by decide)]
  unfold S157_j1
  refine ⟨c, hc, by decide, by rw [em]; decide, s, r2.at0, d, hd, by decide, by rw [es]; decide, 0, u0.at0, f, hf, by decide, by rw [eq]; decide, 0, 0, w0, e, he, by rw [es]; decide, by rw [es]; decide, 1, by rw [es]; exact u1.at0, g, hg, by decide, by rw [eq]; decide, 1, 0, w1, ?_⟩
  refine ⟨by decide, by rw [et]; decide, by omega, hcap, ?_⟩
  intro Y hY
  refine hY _ _ ?_
  unfold S124_l3
  dsimp only
  rw [if_neg (by rw [et]; decide)]
  unfold S124_j2
  refine hX _ _ ?_
  unfold S124_l4 S124_j1
  dsimp only
  rw [if_neg (by rw [et]; exact (by decide : ¬ decide (IntKind.i64.wrap ((0 : Int) + 1) < ((1 : Nat) : Int)) = true))]
  exact k h2 (le1.trans le2)
/-- The wake's drawing is one. -/
theorem c84w {p q : Sl} (r : Rd h p 8 Cell.enc cells2) (rq : Rd h q 2 encP at2) {K : Int → H → Prop} (k : ∀ h', h.Le h' → K 0 h') : S84 p q h K := by
  unfold S84
  refine c122 r fun h1 le1 => ?_
  rw [if_neg (by decide)]
  refine c123 (r.le le1) (rq.le le1) fun v h2 le2 => ?_
  rw [if_neg (by decide)]
  refine c124 ((r.le le1).le le2) ((rq.le le1).le le2) fun h3 le3 => ?_
  rw [if_neg (by decide)]
  exact k h3 ((le1.trans le2).trans le3)
end Go.Proofs.YtimadnngfhbfiaaGreatDoor
end

section
/- PRINTED by wip/gen.py: what muntin/trace.Check does, in the words of Mu. -/
namespace Go.Proofs.YtimadnngfhbfiaaGreatDoor
open Go Go.Mu
/- muntin/trace.Check -/
def S36 (p0_0 : Sl) (p0_1 : Sl) (h : H) (K : Int → H → Prop) : Prop :=
  S9 p0_0 p0_1 h (fun (v9_0_0 : Sl) (v9_0_1 : Sl) (v9_1 : Sl) (v9_2 : Int) (h_1 : H) => (if (v9_2 != 0) = true then K v9_2 h_1 else S29 v9_0_0 v9_0_1 h_1 (fun (v18_0_0 : Sl) (v18_0_1 : Sl) (v18_0_2 : Sl) (v18_1 : Int) (h_2 : H) => (if (v18_1 != 0) = true then K v18_1 h_2 else S84 v18_0_0 v9_1 h_2 (fun (v27 : Int) (h_3 : H) => K v27 h_3)))))
end Go.Proofs.YtimadnngfhbfiaaGreatDoor
end

section
/- PRINTED by wip/gen.py: what muntin/muntinlaw27.wakes does, in the words of Mu. -/
namespace Go.Proofs.YtimadnngfhbfiaaGreatDoor
open Go Go.Mu
/- muntin/muntinlaw27.wakes -/
def S11_j1 (K : Bool → H → Prop) (v0 : Bool) (h_5 : H) : Prop :=
  K v0 h_5
def S11  (h : H) (K : Bool → H → Prop) : Prop :=
  (∀ (b10 : Nat) (h_1 : H), h b10 = none → h_1 = H.set h b10 (.row ⟨[(.int .i64 0), (.int .i64 0), (.int .i64 0), (.int .i64 0), (.int .i64 1), (.int .i64 0), (.int .i64 1), (.int .i64 0)], 8, 79, true, true⟩) → (∀ (b13 : Nat) (h_2 : H), h_1 b13 = none → h_2 = H.set h_1 b13 (.row ⟨[(.int .i64 0), (.int .i64 0), (.int .i64 1), (.int .i64 0)], 4, 77, true, true⟩) → (∀ (b15 : Nat) (h_3 : H), h_2 b15 = none → h_3 = H.set h_2 b15 (.row ⟨[(.int .i64 0), (.int .i64 1), (.slice (some ⟨b13, 0, none⟩) 2 2)], 3, 29, true, true⟩) → S9 ⟨some ⟨b10, 0, none⟩, 2, 2⟩ ⟨some ⟨b15, 0, none⟩, 1, 1⟩ h_3 (fun (v19_0_0 : Sl) (v19_0_1 : Sl) (v19_1 : Sl) (v19_2 : Int) (h_4 : H) => (if (v19_2 == 0) = true then (if ((v19_0_1.l : Int) == 1) = true then (∃ a37 : Addr, v19_0_1.a = some a37 ∧ 0 ≤ (0 : Int) ∧ 0 < (v19_0_1.l : Int) ∧ (∃ (v38_0 : Int) (v38_1 : Int) (v38_2 : Int) (v38_3 : ByteArray), H.rdn h_4 (Addr.add a37 (Int.toNat 0 * 4)) 4 [(.int .i64 v38_0), (.int .i64 v38_1), (.int .i64 v38_2), (.string v38_3)] ∧ (if ((v38_0 == 0) && ((v38_1 == 1) && ((v38_2 == 0) && ((ByteArray.toList v38_3 == ByteArray.toList ⟨#[]⟩) && true)))) = true then (if ((v19_1.l : Int) == 2) = true then S36 ⟨some ⟨b10, 0, none⟩, 2, 2⟩ ⟨some ⟨b15, 0, none⟩, 1, 1⟩ h_4 (fun (v49 : Int) (h_6 : H) => (if (v49 == 0) = true then S36 ⟨some ⟨b10, 0, none⟩, 2, 2⟩ Sl.nil h_6 (fun (v54 : Int) (h_7 : H) => S11_j1 K (v54 == 13) h_7) else S11_j1 K false h_6)) else S11_j1 K false h_4) else S11_j1 K false h_4))) else S11_j1 K false h_4) else S11_j1 K false h_4)))))
end Go.Proofs.YtimadnngfhbfiaaGreatDoor
end

section
/- PRINTED by wip/gen.py: what muntin/muntinlaw27.TraceMany does, in the words of Mu. -/
namespace Go.Proofs.YtimadnngfhbfiaaGreatDoor
open Go Go.Mu
/- muntin/muntinlaw27.TraceMany -/
def S3_j1 (K : Bool → H → Prop) (v6 : Bool) (h_7 : H) : Prop :=
  K v6 h_7
def S3_j2 (p0 : Int) (p1 : Int) (K : Bool → H → Prop) (b27 : Nat) (b29 : Nat) (v11 : Bool) (h_4 : H) : Prop :=
  S9 ⟨some ⟨b27, 0, none⟩, Int.toNat (IntKind.wrap .i64 (Int.tmod p0 4200)), Int.toNat (IntKind.wrap .i64 (Int.tmod p0 4200))⟩ ⟨some ⟨b29, 0, none⟩, Int.toNat (IntKind.wrap .i64 (Int.tmod p1 4200)), Int.toNat (IntKind.wrap .i64 (Int.tmod p1 4200))⟩ h_4 (fun (v55_0_0 : Sl) (v55_0_1 : Sl) (v55_1 : Sl) (v55_2 : Int) (h_5 : H) => S10 ⟨some ⟨b27, 0, none⟩, Int.toNat (IntKind.wrap .i64 (Int.tmod p0 4200)), Int.toNat (IntKind.wrap .i64 (Int.tmod p0 4200))⟩ ⟨some ⟨b29, 0, none⟩, Int.toNat (IntKind.wrap .i64 (Int.tmod p1 4200)), Int.toNat (IntKind.wrap .i64 (Int.tmod p1 4200))⟩ h_5 (fun (v61_0_0 : Sl) (v61_0_1 : Sl) (v61_1 : Int) (h_6 : H) => S11  h_6 (fun (v64 : Bool) (h_8 : H) => S3_j1 K ((v64 && (v55_2 == v61_1)) && ((v55_2 == 6) == v11)) h_8)))
def S3_j3 (p0 : Int) (p1 : Int) (p2 : Int) (K : Bool → H → Prop) (b27 : Nat) (b29 : Nat) (h_3 : H) : Prop :=
  S3_j2 p0 p1 K b27 b29 (((decide ((IntKind.wrap .i64 (Int.tmod p0 4200)) > 4096)) || (decide ((IntKind.wrap .i64 (Int.tmod p1 4200)) > 4096))) || ((decide ((IntKind.wrap .i64 (Int.tmod p1 4200)) > 0)) && (decide ((IntKind.wrap .i64 (Int.tmod p2 13000)) > 12288)))) h_3
def S3 (p0 : Int) (p1 : Int) (p2 : Int) (h : H) (K : Bool → H → Prop) : Prop :=
  ((0 : Int) ≤ (IntKind.wrap .i64 (Int.tmod p0 4200)) ∧ (IntKind.wrap .i64 (Int.tmod p0 4200)) ≤ (IntKind.wrap .i64 (Int.tmod p0 4200)) ∧ 32 * (IntKind.wrap .i64 (Int.tmod p0 4200)) ≤ (281474976710656 : Int) ∧ (IntKind.wrap .i64 (Int.tmod p0 4200)) ≤ 9223372036854775807 ∧ (∀ (b27 : Nat) (h_1 : H), h b27 = none → h_1 = H.set h b27 (.row ⟨zeros (.agg #[(.int .i64 0), (.int .i64 0), (.int .i64 0), (.int .i64 0)]) (Int.toNat (IntKind.wrap .i64 (Int.tmod p0 4200)) * 4), (zeros (.agg #[(.int .i64 0), (.int .i64 0), (.int .i64 0), (.int .i64 0)]) (Int.toNat (IntKind.wrap .i64 (Int.tmod p0 4200)) * 4)).length, 79, true, true⟩) → ((0 : Int) ≤ (IntKind.wrap .i64 (Int.tmod p1 4200)) ∧ (IntKind.wrap .i64 (Int.tmod p1 4200)) ≤ (IntKind.wrap .i64 (Int.tmod p1 4200)) ∧ 40 * (IntKind.wrap .i64 (Int.tmod p1 4200)) ≤ (281474976710656 : Int) ∧ (IntKind.wrap .i64 (Int.tmod p1 4200)) ≤ 9223372036854775807 ∧ (∀ (b29 : Nat) (h_2 : H), h_1 b29 = none → h_2 = H.set h_1 b29 (.row ⟨zeros (.agg #[(.int .i64 0), (.int .i64 0), (.slice none 0 0)]) (Int.toNat (IntKind.wrap .i64 (Int.tmod p1 4200)) * 3), (zeros (.agg #[(.int .i64 0), (.int .i64 0), (.slice none 0 0)]) (Int.toNat (IntKind.wrap .i64 (Int.tmod p1 4200)) * 3)).length, 29, true, true⟩) → (if (decide ((IntKind.wrap .i64 (Int.tmod p1 4200)) > 0)) = true then ((0 : Int) ≤ (IntKind.wrap .i64 (Int.tmod p2 13000)) ∧ (IntKind.wrap .i64 (Int.tmod p2 13000)) ≤ (IntKind.wrap .i64 (Int.tmod p2 13000)) ∧ 16 * (IntKind.wrap .i64 (Int.tmod p2 13000)) ≤ (281474976710656 : Int) ∧ (IntKind.wrap .i64 (Int.tmod p2 13000)) ≤ 9223372036854775807 ∧ (∀ (b36 : Nat) (h_9 : H), h_2 b36 = none → h_9 = H.set h_2 b36 (.row ⟨zeros (.agg #[(.int .i64 0), (.int .i64 0)]) (Int.toNat (IntKind.wrap .i64 (Int.tmod p2 13000)) * 2), (zeros (.agg #[(.int .i64 0), (.int .i64 0)]) (Int.toNat (IntKind.wrap .i64 (Int.tmod p2 13000)) * 2)).length, 77, true, true⟩) → (∃ a37 : Addr, some ⟨b29, 0, none⟩ = some a37 ∧ 0 ≤ (0 : Int) ∧ 0 < ((Int.toNat (IntKind.wrap .i64 (Int.tmod p1 4200))) : Int) ∧ (∃ h_10 : H, H.wr h_9 (Addr.add (Addr.add a37 (Int.toNat 0 * 3)) 2) [(.slice (some ⟨b36, 0, none⟩) (Int.toNat (IntKind.wrap .i64 (Int.tmod p2 13000))) (Int.toNat (IntKind.wrap .i64 (Int.tmod p2 13000))))] h_10 ∧ S3_j3 p0 p1 p2 K b27 b29 h_10)))) else S3_j3 p0 p1 p2 K b27 b29 h_2)))))
end Go.Proofs.YtimadnngfhbfiaaGreatDoor
end

section
/-
  The wake, and the law TraceMany.
-/
namespace Go.Shape
open Go Go.Mu
theorem zerosX (n : Nat) : zeros (.agg #[(.int .i64 0), (.int .i64 0), (.int .i64 0), (.int .i64 0)]) (n * 4) = (List.replicate n ((0, 0) : Pt)).flatMap encX := by
  have h1 := zeros_agg (xs := [.int .i64 0, .int .i64 0, .int .i64 0, .int .i64 0]) (size := 4) (m := n) rfl (by decide)
  rw [show (Value.agg #[(.int .i64 0), (.int .i64 0), (.int .i64 0), (.int .i64 0)]) = .agg ([.int .i64 0, .int .i64 0, .int .i64 0, .int .i64 0] : List Value).toArray from rfl, h1]
  clear h1
  induction n with
  | zero => rfl
  | succ n ih => rw [List.replicate_succ, List.flatMap_cons, ih, List.replicate_succ, List.flatMap_cons]; rfl
theorem zerosR (n : Nat) : zeros (.agg #[(.int .i64 0), (.int .i64 0), (.slice none 0 0)]) (n * 3) = (List.replicate n ((0, 0, Sl.nil) : Rt)).flatMap encR := by
  have h1 := zeros_agg (xs := [.int .i64 0, .int .i64 0, .slice none 0 0]) (size := 3) (m := n) rfl (by decide)
  rw [show (Value.agg #[(.int .i64 0), (.int .i64 0), (.slice none 0 0)]) = .agg ([.int .i64 0, .int .i64 0, .slice none 0 0] : List Value).toArray from rfl, h1]
  clear h1
  induction n with
  | zero => rfl
  | succ n ih => rw [List.replicate_succ, List.flatMap_cons, ih, List.replicate_succ, List.flatMap_cons]; rfl
def rts (m : Nat) (s : Sl) : List Rt := (List.replicate m ((0, 0, Sl.nil) : Rt)).set 0 (0, 0, s)
theorem rts_len (m : Nat) (s : Sl) : (rts m s).length = m := by simp [rts]
theorem totR_nil (m : Nat) : totR (List.replicate m ((0, 0, Sl.nil) : Rt)) = 0 := by
  induction m with
  | zero => rfl
  | succ m ih =>
    rw [List.replicate_succ]
    show Sl.nil.l + totR (List.replicate m ((0, 0, Sl.nil) : Rt)) = 0
    rw [ih]
theorem totR_rts {m : Nat} (hm : 0 < m) (s : Sl) : totR (rts m s) = s.l := by
  obtain ⟨m, rfl⟩ : ∃ q, m = q + 1 := ⟨m - 1, by omega⟩
  unfold rts
  rw [List.replicate_succ, List.set_cons_zero]
  show s.l + totR (List.replicate m ((0, 0, Sl.nil) : Rt)) = s.l
  rw [totR_nil]; rfl
theorem rts_at {m : Nat} (hm : 0 < m) (s : Sl) : (rts m s)[0]? = some (0, 0, s) := by simp [rts, hm]
end Go.Shape
namespace Go.Proofs.YtimadnngfhbfiaaGreatDoor
open Go Go.Mu Go.Shape Go.Text
variable {h h0 : H}
set_option maxHeartbeats 1000000
theorem c36w {p0 p1 sl : Sl} (r0 : Rd h p0 4 encX [(0, 0), (1, 0)]) (r1 : Rd h p1 3 encR [(0, 1, sl)]) (r : Rd h sl 2 encP [(0, 0), (1, 0)]) {K : Int → H → Prop} (k : ∀ h', h.Le h' → K 0 h') : S36 p0 p1 h K := by
  unfold S36
  refine c9w r0 r1 r fun s0 s1 a h1 le1 rb re ra => ?_
  rw [if_neg (by decide)]
  refine c29w rb re fun c f w sl' h2 le2 rc rf rw' rl => ?_
  rw [if_neg (by decide)]
  refine c84w rc (ra.le le2) fun h3 le3 => ?_
  exact k h3 ((le1.trans le2).trans le3)
theorem c36i {p0 : Sl} (r0 : Rd h p0 4 encX [(0, 0), (1, 0)]) {K : Int → H → Prop} (k : ∀ h', h.Le h' → K 13 h') : S36 p0 Sl.nil h K := by
  unfold S36
  refine c9i r0 rfl near2 (by decide) fun s0 a h1 le1 rb ra => ?_
  rw [if_neg (by decide)]
  refine c29i (n := 2) rb rfl (by decide) fun c f w h2 le2 rc rf hw => ?_
  rw [if_neg (by decide)]
  refine c84e rc fun h3 le3 => ?_
  exact k h3 ((le1.trans le2).trans le3)
theorem c11 {K : Bool → H → Prop} (k : ∀ h', h.Le h' → K true h') : S11 h K := by
  unfold S11
  intro b1 h1 n1 e1 b2 h2 n2 e2 b3 h3 n3 e3
  have l1 := le_new n1 e1
  have l2 := le_new n2 e2
  have l3 := le_new n3 e3
  have r0 : Rd h3 ⟨some ⟨b1, 0, none⟩, 2, 2⟩ 4 encX [(0, 0), (1, 0)] := ((lit_Rd (l := [(0, 0), (1, 0)]) (enc := encX) (size := 4) e1 (fun _ _ => rfl)).le l2).le l3
  have r2 : Rd h3 ⟨some ⟨b2, 0, none⟩, 2, 2⟩ 2 encP [(0, 0), (1, 0)] := (lit_Rd (l := [(0, 0), (1, 0)]) (enc := encP) (size := 2) e2 (fun _ _ => rfl)).le l3
  have r1 : Rd h3 ⟨some ⟨b3, 0, none⟩, 1, 1⟩ 3 encR [(0, 1, ⟨some ⟨b2, 0, none⟩, 2, 2⟩)] := lit_Rd (l := [(0, 1, ⟨some ⟨b2, 0, none⟩, 2, 2⟩)]) (enc := encR) (size := 3) e3 (fun _ _ => rfl)
  refine c9w r0 r1 r2 fun s0 s1 a h4 le4 rb re ra => ?_
  have es : s1.l = 1 := re.1
  have ea : a.l = 2 := ra.1
  obtain ⟨c, hc, q⟩ := re.ix (i := 0) rfl
  rw [if_pos (by decide), if_pos (by rw [es]; decide)]
  refine ⟨c, hc, by decide, by rw [es]; decide, 0, 1, 0, ⟨#[]⟩, q, ?_⟩
  rw [if_pos (by simp), if_pos (by rw [ea]; decide)]
  refine c36w (r0.le le4) (r1.le le4) (r2.le le4) fun h5 le5 => ?_
  rw [if_pos (by decide)]
  refine c36i ((r0.le le4).le le5) fun h6 le6 => ?_
  exact k h6 (((((l1.trans l2).trans l3).trans le4).trans le5).trans le6)
/-- The law, when the drawing lies in the heap. -/
theorem c3j {b27 b29 n m kk : Nat} {p1 : Int} {q0 q1 : Sl} {rs : List Rt} (hq0 : Rd h q0 4 encX (List.replicate n (0, 0))) (hq1 : Rd h q1 3 encR rs) (hl : rs.length = m) (hn : n < 4200) (hm : m < 4200) (hk : kk < 13000) (ht : totR rs = if 0 < m then kk else 0)
    (h1 : 0 < m → ∃ s, rs[0]? = some (0, 0, s) ∧ Rd h s 2 encP (List.replicate kk (0, 0))) {K : Bool → H → Prop} (k : ∀ h', h.Le h' → K true h') :
    S9 q0 q1 h (fun (v55_0_0 : Sl) (v55_0_1 : Sl) (v55_1 : Sl) (v55_2 : Int) (h_5 : H) => S10 q0 q1 h_5 (fun (v61_0_0 : Sl) (v61_0_1 : Sl) (v61_1 : Int) (h_6 : H) => S11  h_6 (fun (v64 : Bool) (h_8 : H) => S3_j1 K ((v64 && (v55_2 == v61_1)) && ((v55_2 == 6) == decide (4096 < n ∨ 4096 < m ∨ 0 < m ∧ 12288 < kk))) h_8))) := by
  have np : near (0, 0) := by unfold near; omega
  have hnr : ∀ p ∈ List.replicate n ((0, 0) : Pt), near p := fun p hp => by rw [(List.mem_replicate.1 hp).2]; exact np
  have hln : (List.replicate n ((0, 0) : Pt)).length = n := List.length_replicate
  by_cases hmany : 4096 < n ∨ 4096 < m ∨ 0 < m ∧ 12288 < kk
  · have hm2 : 4096 < (List.replicate n ((0, 0) : Pt)).length ∨ 4096 < rs.length ∨ 12288 < totR rs := by
      rw [hln, hl, ht]
      rcases hmany with q | q | ⟨q1, q2⟩
      · exact .inl q
      · exact .inr (.inl q)
      · rw [if_pos q1]; exact .inr (.inr q2)
    have ht2 : totR rs ≤ 1000000 := by rw [ht]; split <;> omega
    unfold S9
    refine c28m hq0 hq1 (by rw [hln]; omega) (by omega) ht2 hm2 ?_
    rw [if_pos (by decide)]
    refine c10m hq0 hq1 (by rw [hln]; omega) (by omega) ht2 hm2 ?_
    refine c11 fun h' le => ?_
    unfold S3_j1
    rw [decide_eq_true hmany]
    exact k h' le
  · rw [decide_eq_false hmany]
    have hle : n ≤ 4096 ∧ m ≤ 4096 := by omega
    have ht2 : totR rs ≤ 12288 := by rw [ht]; split <;> omega
    by_cases h0 : m = 0
    · have hl0 : q1.l = 0 := by rw [hq1.1, hl, h0]
      refine c9i hq0 hl0 hnr (by rw [hln]; omega) fun s0 a h1 le1 _ _ => ?_
      refine c10i (hq0.le le1) hl0 hnr (by rw [hln]; omega) fun s1 h2 le2 => ?_
      refine c11 fun h' le => ?_
      exact k h' ((le1.trans le2).trans le)
    · obtain ⟨s, hs, rs'⟩ := h1 (by omega)
      have hp : ∀ x ∈ List.replicate kk ((0, 0) : Pt), x = (0, 0) := fun x hx => (List.mem_replicate.1 hx).2
      have hk2 : (List.replicate kk ((0, 0) : Pt)).length = kk := List.length_replicate
      unfold S9
      refine c28e hq0 hq1 hnr (by rw [hln]; omega) (by omega) ht2 hs rs' np hp (by rw [hk2]; omega) fun s0 s1 h1 le1 => ?_
      rw [if_pos (errE_ne _ _)]
      refine c10e (hq0.le le1) (hq1.le le1) hnr (by rw [hln]; omega) (by omega) ht2 hs (rs'.le le1) np hp (by rw [hk2]; omega) fun h2 le2 => ?_
      refine c11 fun h' le => ?_
      unfold S3_j1
      have e6 : ∀ a b, (errE a b == 6) = false := fun a b => by
        unfold errE
        split
        · rfl
        · split <;> rfl
      rw [e6, beq_self_eq_true]
      exact k h' ((le1.trans le2).trans le)
theorem modN {n q : Nat} (hq : 0 < q) (h2 : q < 100000) : IntKind.i64.wrap (Int.tmod (n : Int) (q : Int)) = ((n % q : Nat) : Int) :=
  wrapN (Int.ofNat_tmod n q).symm (by have := Nat.mod_lt n hq; omega)
theorem c3 {a b c : Nat} {K : Bool → H → Prop} (k : ∀ h', h.Le h' → K true h') : S3 a b c h K := by
  have hn := Nat.mod_lt a (show 0 < 4200 by decide)
  have hm := Nat.mod_lt b (show 0 < 4200 by decide)
  have hk := Nat.mod_lt c (show 0 < 13000 by decide)
  have ea : IntKind.i64.wrap (Int.tmod (a : Int) 4200) = ((a % 4200 : Nat) : Int) := modN (q := 4200) (by decide) (by decide)
  have eb : IntKind.i64.wrap (Int.tmod (b : Int) 4200) = ((b % 4200 : Nat) : Int) := modN (q := 4200) (by decide) (by decide)
  have ec : IntKind.i64.wrap (Int.tmod (c : Int) 13000) = ((c % 13000 : Nat) : Int) := modN (q := 13000) (by decide) (by decide)
  unfold S3 S3_j3 S3_j2
  rw [ea, eb, ec]
  generalize a % 4200 = n at hn
  generalize b % 4200 = m at hm
  generalize c % 13000 = kk at hk
  simp only [Int.toNat_natCast]
  rw [zerosX, zerosR, zerosP]
  refine ⟨by omega, by omega, by omega, by omega, fun b27 h1 n1 e1 => ⟨by omega, by omega, by omega, by omega, fun b29 h2 n2 e2 => ?_⟩⟩
  have l1 := le_new n1 e1
  have l2 := le_new n2 e2
  have r0 := lit_Rd (l := List.replicate n ((0, 0) : Pt)) (enc := encX) (size := 4) e1 (fun _ _ => rfl)
  rw [List.length_replicate] at r0
  have em : (((decide ((n : Int) > 4096)) || (decide ((m : Int) > 4096))) || ((decide ((m : Int) > 0)) && (decide ((kk : Int) > 12288)))) = decide (4096 < n ∨ 4096 < m ∨ 0 < m ∧ 12288 < kk) := by
    rw [← Bool.decide_and, ← Bool.decide_or, ← Bool.decide_or]
    refine decide_eq_decide.2 ?_
    omega
  rw [em]
  by_cases h0 : 0 < m
  · rw [if_pos (by simp; omega)]
    refine ⟨by omega, by omega, by omega, by omega, fun b36 h3 n3 e3 => ?_⟩
    have l3 := le_new n3 e3
    have st : St h1 h2 (fun _ : Unit => .blk b29 (.row ⟨(List.replicate m ((0, 0, Sl.nil) : Rt)).flatMap encR, ((List.replicate m ((0, 0, Sl.nil) : Rt)).flatMap encR).length, 29, true, true⟩)) := by
      rw [e2]
      exact (St.init (ρ := Unit) h1).alloc _ n2 () _ rfl fun i hi => (hi rfl).elim
    have hlen : ((List.replicate m ((0, 0, Sl.nil) : Rt)).flatMap encR).length = m * 3 := by rw [flatMap_len (size := 3) (fun _ _ => rfl), List.length_replicate]
    have hset : setL ((List.replicate m ((0, 0, Sl.nil) : Rt)).flatMap encR) 2 [(Sl.mk (some ⟨b36, 0, none⟩) kk kk).v] = (rts m ⟨some ⟨b36, 0, none⟩, kk, kk⟩).flatMap encR :=
      setL_flatMap (enc := encR) (size := 3) (y := (0, 0, ⟨some ⟨b36, 0, none⟩, kk, kk⟩)) (j := 2) (i := 0) (x := (0, 0, Sl.nil)) (by decide) (fun _ _ => rfl) (by simp [h0]) rfl
    obtain ⟨h4, w4, st4⟩ := (st.le' l3).wr () rfl rfl (off := 2) (vs := [(Sl.mk (some ⟨b36, 0, none⟩) kk kk).v]) (by rw [hlen]; show 2 + 1 ≤ m * 3; omega) (fun _ => .blk b29 (.row ⟨(rts m ⟨some ⟨b36, 0, none⟩, kk, kk⟩).flatMap encR, ((List.replicate m ((0, 0, Sl.nil) : Rt)).flatMap encR).length, 29, true, true⟩)) (by rw [hset]) (fun j hj => (hj rfl).elim)
    refine ⟨_, rfl, by decide, by omega, h4, w4, ?_⟩
    have r1 := row_Rd (size := 3) st4 fun _ _ => rfl
    rw [rts_len] at r1
    have keep : Rd h4 ⟨some ⟨b36, 0, none⟩, kk, kk⟩ 2 encP (List.replicate kk ((0, 0) : Pt)) := by
      have q := lit_Rd (l := List.replicate kk ((0, 0) : Pt)) (enc := encP) (size := 2) e3 (fun _ _ => rfl)
      rw [List.length_replicate] at q
      obtain ⟨_, rr, hrr, _, _, e4⟩ := w4
      have hne : b36 ≠ b29 := fun e => by
        have hb : h2 b29 = some (.row ⟨(List.replicate m ((0, 0, Sl.nil) : Rt)).flatMap encR, ((List.replicate m ((0, 0, Sl.nil) : Rt)).flatMap encR).length, 29, true, true⟩) := st.ok ()
        rw [e, hb] at n3; cases n3
      refine ⟨q.1, q.2.1, fun hp => ?_⟩
      obtain ⟨a, ha, qq⟩ := q.2.2 hp
      refine ⟨a, ha, fun i x hi => ⟨(qq i x hi).1, fun j v hj => ?_⟩⟩
      have := (qq i x hi).2 j v hj
      cases ha
      rw [Addr.add_n, Addr.add_n] at this ⊢
      rw [e4]
      simp only [H.rd] at this ⊢
      rw [H.set_ne _ _ hne]; exact this
    have le4 : h1.Le h4 := st4.le
    refine c3j (b27 := b27) (b29 := b29) (p1 := 0) (kk := kk) (r0.le le4) r1 (rts_len _ _) hn hm hk (by rw [if_pos h0, totR_rts h0]) (fun _ => ⟨_, rts_at h0 _, keep⟩) fun h' le => k h' ((l1.trans le4).trans le)
  · rw [if_neg (by simp; omega)]
    have r1 := lit_Rd (l := List.replicate m ((0, 0, Sl.nil) : Rt)) (enc := encR) (size := 3) e2 (fun _ _ => rfl)
    rw [List.length_replicate] at r1
    refine c3j (b27 := b27) (b29 := b29) (p1 := 0) (kk := kk) (r0.le l2) r1 List.length_replicate hn hm hk (by rw [if_neg h0, totR_nil]) (fun q => absurd q h0) fun h' le => k h' ((l1.trans l2).trans le)
end Go.Proofs.YtimadnngfhbfiaaGreatDoor
end

section
/- PRINTED by wip/gen.py: facts of the program's types and calls. -/
namespace Go.Proofs.YtimadnngfhbfiaaGreatDoor
open Go Go.Mu
set_option maxRecDepth 100000
theorem MO : Tryz.prog.follows .mixedOrders = true := by kernel_rfl
theorem CB9 : callB Tryz.prog 9 = true := by kernel_rfl
theorem CB10 : callB Tryz.prog 10 = true := by kernel_rfl
theorem CB11 : callB Tryz.prog 11 = true := by kernel_rfl
theorem CB18 : callB Tryz.prog 18 = true := by kernel_rfl
theorem CB28 : callB Tryz.prog 28 = true := by kernel_rfl
theorem CB29 : callB Tryz.prog 29 = true := by kernel_rfl
theorem CB30 : callB Tryz.prog 30 = true := by kernel_rfl
theorem CB31 : callB Tryz.prog 31 = true := by kernel_rfl
theorem CB32 : callB Tryz.prog 32 = true := by kernel_rfl
theorem CB33 : callB Tryz.prog 33 = true := by kernel_rfl
theorem CB34 : callB Tryz.prog 34 = true := by kernel_rfl
theorem CB35 : callB Tryz.prog 35 = true := by kernel_rfl
theorem CB36 : callB Tryz.prog 36 = true := by kernel_rfl
theorem CB48 : callB Tryz.prog 48 = true := by kernel_rfl
theorem CB49 : callB Tryz.prog 49 = true := by kernel_rfl
theorem CB61 : callB Tryz.prog 61 = true := by kernel_rfl
theorem CB64 : callB Tryz.prog 64 = true := by kernel_rfl
theorem CB65 : callB Tryz.prog 65 = true := by kernel_rfl
theorem CB66 : callB Tryz.prog 66 = true := by kernel_rfl
theorem CB67 : callB Tryz.prog 67 = true := by kernel_rfl
theorem CB68 : callB Tryz.prog 68 = true := by kernel_rfl
theorem CB69 : callB Tryz.prog 69 = true := by kernel_rfl
theorem CB70 : callB Tryz.prog 70 = true := by kernel_rfl
theorem CB71 : callB Tryz.prog 71 = true := by kernel_rfl
theorem CB72 : callB Tryz.prog 72 = true := by kernel_rfl
theorem CB73 : callB Tryz.prog 73 = true := by kernel_rfl
theorem CB74 : callB Tryz.prog 74 = true := by kernel_rfl
theorem CB75 : callB Tryz.prog 75 = true := by kernel_rfl
theorem CB76 : callB Tryz.prog 76 = true := by kernel_rfl
theorem CB77 : callB Tryz.prog 77 = true := by kernel_rfl
theorem CB80 : callB Tryz.prog 80 = true := by kernel_rfl
theorem CB82 : callB Tryz.prog 82 = true := by kernel_rfl
theorem CB83 : callB Tryz.prog 83 = true := by kernel_rfl
theorem CB84 : callB Tryz.prog 84 = true := by kernel_rfl
theorem CB96 : callB Tryz.prog 96 = true := by kernel_rfl
theorem CB97 : callB Tryz.prog 97 = true := by kernel_rfl
theorem CB104 : callB Tryz.prog 104 = true := by kernel_rfl
theorem CB108 : callB Tryz.prog 108 = true := by kernel_rfl
theorem CB110 : callB Tryz.prog 110 = true := by kernel_rfl
theorem CB111 : callB Tryz.prog 111 = true := by kernel_rfl
theorem CB112 : callB Tryz.prog 112 = true := by kernel_rfl
theorem CB113 : callB Tryz.prog 113 = true := by kernel_rfl
theorem CB114 : callB Tryz.prog 114 = true := by kernel_rfl
theorem CB115 : callB Tryz.prog 115 = true := by kernel_rfl
theorem CB116 : callB Tryz.prog 116 = true := by kernel_rfl
theorem CB117 : callB Tryz.prog 117 = true := by kernel_rfl
theorem CB118 : callB Tryz.prog 118 = true := by kernel_rfl
theorem CB119 : callB Tryz.prog 119 = true := by kernel_rfl
theorem CB122 : callB Tryz.prog 122 = true := by kernel_rfl
theorem CB123 : callB Tryz.prog 123 = true := by kernel_rfl
theorem CB124 : callB Tryz.prog 124 = true := by kernel_rfl
theorem CB143 : callB Tryz.prog 143 = true := by kernel_rfl
theorem CB144 : callB Tryz.prog 144 = true := by kernel_rfl
theorem CB145 : callB Tryz.prog 145 = true := by kernel_rfl
theorem CB146 : callB Tryz.prog 146 = true := by kernel_rfl
theorem CB147 : callB Tryz.prog 147 = true := by kernel_rfl
theorem CB149 : callB Tryz.prog 149 = true := by kernel_rfl
theorem CB150 : callB Tryz.prog 150 = true := by kernel_rfl
theorem CB151 : callB Tryz.prog 151 = true := by kernel_rfl
theorem CB152 : callB Tryz.prog 152 = true := by kernel_rfl
theorem CB154 : callB Tryz.prog 154 = true := by kernel_rfl
theorem CB155 : callB Tryz.prog 155 = true := by kernel_rfl
theorem CB156 : callB Tryz.prog 156 = true := by kernel_rfl
theorem CB157 : callB Tryz.prog 157 = true := by kernel_rfl
theorem CB171 : callB Tryz.prog 171 = true := by kernel_rfl
theorem CB172 : callB Tryz.prog 172 = true := by kernel_rfl
theorem CB173 : callB Tryz.prog 173 = true := by kernel_rfl
theorem CB174 : callB Tryz.prog 174 = true := by kernel_rfl
theorem CB175 : callB Tryz.prog 175 = true := by kernel_rfl
theorem CB176 : callB Tryz.prog 176 = true := by kernel_rfl
theorem CB177 : callB Tryz.prog 177 = true := by kernel_rfl
theorem CB178 : callB Tryz.prog 178 = true := by kernel_rfl
theorem CB191 : callB Tryz.prog 191 = true := by kernel_rfl
theorem CB192 : callB Tryz.prog 192 = true := by kernel_rfl
theorem CB193 : callB Tryz.prog 193 = true := by kernel_rfl
theorem CB194 : callB Tryz.prog 194 = true := by kernel_rfl
theorem EG61 : Program.eqGuardType Tryz.prog (Program.depth Tryz.prog) 61 = false := by kernel_rfl
theorem EG77 : Program.eqGuardType Tryz.prog (Program.depth Tryz.prog) 77 = false := by kernel_rfl
theorem SH61 : Program.stoodInHeld Tryz.prog 61 = false := by kernel_rfl
theorem SH77 : Program.stoodInHeld Tryz.prog 77 = false := by kernel_rfl
theorem T3 : TI Tryz.prog 3 (.int .i64 0) 1 8 := by unfold TI; kernel_rfl
theorem T4 : TI Tryz.prog 4 (.bool false) 1 1 := by unfold TI; kernel_rfl
theorem T9 : TI Tryz.prog 9 (.string ⟨#[]⟩) 1 16 := by unfold TI; kernel_rfl
theorem T23 : TI Tryz.prog 23 (.slice none 0 0) 1 24 := by unfold TI; kernel_rfl
theorem T24 : TI Tryz.prog 24 (.slice none 0 0) 1 24 := by unfold TI; kernel_rfl
theorem T26 : TI Tryz.prog 26 (.agg #[(.slice none 0 0), (.slice none 0 0)]) 2 48 := by unfold TI; kernel_rfl
theorem T27 : TI Tryz.prog 27 (.slice none 0 0) 1 24 := by unfold TI; kernel_rfl
theorem T29 : TI Tryz.prog 29 (.agg #[(.int .i64 0), (.int .i64 0), (.slice none 0 0)]) 3 40 := by unfold TI; kernel_rfl
theorem T30 : TI Tryz.prog 30 (.slice none 0 0) 1 24 := by unfold TI; kernel_rfl
theorem T31 : TI Tryz.prog 31 (.slice none 0 0) 1 24 := by unfold TI; kernel_rfl
theorem T33 : TI Tryz.prog 33 (.agg #[(.slice none 0 0), (.slice none 0 0)]) 2 48 := by unfold TI; kernel_rfl
theorem T61 : TI Tryz.prog 61 (.agg #[(.int .i64 0), (.int .i64 0), (.int .i64 0), (.string ⟨#[]⟩)]) 4 40 := by unfold TI; kernel_rfl
theorem T68 : TI Tryz.prog 68 (.slice none 0 0) 1 24 := by unfold TI; kernel_rfl
theorem T69 : TI Tryz.prog 69 (.slice none 0 0) 1 24 := by unfold TI; kernel_rfl
theorem T70 : TI Tryz.prog 70 (.slice none 0 0) 1 24 := by unfold TI; kernel_rfl
theorem T72 : TI Tryz.prog 72 (.agg #[(.slice none 0 0), (.slice none 0 0), (.slice none 0 0)]) 3 72 := by unfold TI; kernel_rfl
theorem T77 : TI Tryz.prog 77 (.agg #[(.int .i64 0), (.int .i64 0)]) 2 16 := by unfold TI; kernel_rfl
theorem T79 : TI Tryz.prog 79 (.agg #[(.int .i64 0), (.int .i64 0), (.int .i64 0), (.int .i64 0)]) 4 32 := by unfold TI; kernel_rfl
theorem T128 : TI Tryz.prog 128 (.agg #[(.slice none 0 0), (.slice none 0 0), (.slice none 0 0), (.slice none 0 0)]) 4 96 := by unfold TI; kernel_rfl
theorem T131 : TI Tryz.prog 131 (.slice none 0 0) 1 24 := by unfold TI; kernel_rfl
theorem T132 : TI Tryz.prog 132 (.pointer none) 1 8 := by unfold TI; kernel_rfl
theorem T133 : TI Tryz.prog 133 (.slice none 0 0) 1 24 := by unfold TI; kernel_rfl
theorem T135 : TI Tryz.prog 135 (.agg #[(.slice none 0 0), (.slice none 0 0), (.pointer none), (.slice none 0 0), (.slice none 0 0), (.slice none 0 0), (.slice none 0 0), (.slice none 0 0)]) 8 176 := by unfold TI; kernel_rfl
theorem T166 : TI Tryz.prog 166 (.slice none 0 0) 1 24 := by unfold TI; kernel_rfl
theorem T167 : TI Tryz.prog 167 (.agg #[(.slice none 0 0), (.slice none 0 0), (.slice none 0 0), (.slice none 0 0)]) 4 96 := by unfold TI; kernel_rfl
theorem T170 : TI Tryz.prog 170 (.agg #[(.int .i64 0), (.int .i64 0)]) 2 16 := by unfold TI; kernel_rfl
theorem T172 : TI Tryz.prog 172 (.agg #[(.int .i64 0), (.int .i64 0), (.int .i64 0), (.int .i64 0)]) 4 32 := by unfold TI; kernel_rfl
theorem T174 : TI Tryz.prog 174 (.agg #[(.int .i64 0), (.int .i64 0), (.int .i64 0), (.int .i64 0), (.int .i64 0), (.int .i64 0), (.int .i64 0), (.int .i64 0)]) 8 64 := by unfold TI; kernel_rfl
theorem T177 : TI Tryz.prog 177 (.agg #[(.slice none 0 0)]) 1 24 := by unfold TI; kernel_rfl
theorem T178 : TI Tryz.prog 178 (.agg #[(.int .i64 0), (.int .i64 0)]) 2 16 := by unfold TI; kernel_rfl
theorem T209 : TI Tryz.prog 209 (.agg #[(.slice none 0 0), (.slice none 0 0), (.slice none 0 0), (.slice none 0 0)]) 4 96 := by unfold TI; kernel_rfl
theorem T216 : TI Tryz.prog 216 (.agg #[(.bool false), (.int .i64 0)]) 2 16 := by unfold TI; kernel_rfl
theorem T233 : TI Tryz.prog 233 (.slice none 0 0) 1 24 := by unfold TI; kernel_rfl
theorem T255 : TI Tryz.prog 255 (.agg #[(.int .i64 0), (.int .i64 0)]) 2 16 := by unfold TI; kernel_rfl
end Go.Proofs.YtimadnngfhbfiaaGreatDoor
end

section
namespace Go.Proofs.YtimadnngfhbfiaaGreatDoor
open Go Go.Mu
set_option maxHeartbeats 4000000
set_option maxRecDepth 100000
theorem f64_ok {p0_0 : Sl} {p0_1 : Sl} {h : H} {K : Bool → H → Prop} (hS : S64 p0_0 p0_1 h K) : ACall Tryz.prog 64 ([(.agg ([(.slice p0_0.a p0_0.l p0_0.c), (.slice p0_1.a p0_1.l p0_1.c)] : List Value).toArray)] : List Value).toArray h (fun r h' => ∃ r0 : Bool, r = tup [(.bool r0)] ∧ K r0 h') := by
  refine ACall.enter (fn := Tryz.f64) Tryz.func64 rfl (Nat.le_of_ble_eq_true rfl) ?_; unfold S64 at hS; have ok := Lok.nil h; refine EvC.seq (Xr [.alc 0, .look 1] (R.var (blk := .row ⟨[(.slice p0_0.a p0_0.l p0_0.c), (.slice p0_1.a p0_1.l p0_1.c)], 2, 26, true, true⟩) ok rfl rfl rfl (Ac.box rfl rfl) rfl rfl fun b1 ok => ?_)); refine Xa rfl rfl rfl rfl fun _ => ?_; refine R.nil (EvC.seq (Xr [.look 0] (Xa rfl rfl rfl rfl fun _ => R.nil (EvC.join (σ := Int) (fun s => (Ep (Ep E0 3 (i6 s)) 1 (.pointer (some ⟨b1, 0, none⟩)))) (fun s => [(b1, .row ⟨[(.slice p0_0.a p0_0.l p0_0.c), (.slice p0_1.a p0_1.l p0_1.c)], 2, 26, true, true⟩)]) (fun s h_1 => S64_j2 p0_0 p0_1 K s h_1) ?_ (fun Ih_1 hIh_1 => ?_)))))
  · intro v3 h_1 ok hS; replace hS : S64_j2 p0_0 p0_1 K v3 h_1 := hS; unfold S64_j2 at hS; refine EvC.join (σ := Bool) (fun s => (Ep E0 2 (.bool s))) (fun s => []) (fun s h_2 => S64_j1 K s h_2) ?_ (fun Ih_2 hIh_2 => ?_)
    · intro v2 h_2 ok hS; replace hS : S64_j1 K v2 h_2 := hS; unfold S64_j1 at hS; refine EvC.ret ?_; exact ⟨.inr rfl, _, _, (.cons (.tmp rfl) .nil), ok.le, _, rfl, hS⟩
    · refine Xr [.look 0, .look 1, .look 2, .look 3, .look 4, .look 5, .look 6, .look 7, .look 8, .look 9, .look 10, .look 11, .look 12] (Xk (v := (.pointer (some ⟨b1, 0, none⟩))) rfl rfl (Lk.fldAddr rfl Tryz.underlying26 rfl rfl T23 rfl rfl rfl) fun _ => ?_); refine Xk rfl rfl (Lk.load1 (v := (.slice p0_0.a p0_0.l p0_0.c)) rfl Tryz.underlying23 rfl rfl (H.rd_loc ok (i := 0) rfl rfl)) fun _ => ?_; refine Xk rfl rfl (Lk.len rfl Tryz.underlying23 rfl) fun _ => ?_; refine Xk (v := (.pointer (some ⟨b1, 1, none⟩))) rfl rfl (Lk.fldAddr rfl Tryz.underlying26 rfl rfl T24 rfl rfl rfl) fun _ => ?_; refine Xk rfl rfl (Lk.load1 (v := (.slice p0_1.a p0_1.l p0_1.c)) rfl Tryz.underlying24 rfl rfl (H.rd_loc ok (i := 0) rfl rfl)) fun _ => ?_; refine Xk rfl rfl (Lk.len rfl Tryz.underlying24 rfl) fun _ => ?_; refine Xk rfl rfl (Lk.max2 rfl rfl rfl) fun _ => ?_; refine Xk rfl rfl (Lk.arith rfl rfl rfl rfl) fun _ => ?_; refine Xm rfl rfl rfl rfl fun _ => ?_
      by_cases e1 : (decide ((if (p0_1.l : Int) > (p0_0.l : Int) then (p0_1.l : Int) else (p0_0.l : Int)) > 4096)) = true
      · refine R.lookF rfl rfl rfl rfl e1 rfl fun _ => R.lookF rfl rfl rfl rfl e1 rfl fun _ => Xk rfl rfl (Lk.pick rfl rfl (fun _ => rfl) (fun e => by rw [e1] at e; cases e)) fun _ => Xa rfl rfl rfl rfl fun _ => R.nil ?_; exact hIh_2 ((decide ((if (p0_1.l : Int) > (p0_0.l : Int) then (p0_1.l : Int) else (p0_0.l : Int)) > 4096)) || (decide (v3 > 12288))) _ _ _ (lq (by rw [e1]; rfl) (lz _)) (ok.sub (.cons _ sl0)) (H.add_sub ok (.cons _ sl0)) hS
      · replace e1 := eq_false_of_ne_true e1; refine R.lookT rfl rfl rfl rfl e1 rfl (Lk.move rfl rfl) fun _ => R.lookT rfl rfl rfl rfl e1 rfl (Lk.arith rfl rfl rfl rfl) fun _ => Xk rfl rfl (Lk.pick rfl rfl (fun e => by rw [e1] at e; cases e) (fun _ => rfl)) fun _ => Xa rfl rfl rfl rfl fun _ => R.nil ?_; exact hIh_2 ((decide ((if (p0_1.l : Int) > (p0_0.l : Int) then (p0_1.l : Int) else (p0_0.l : Int)) > 4096)) || (decide (v3 > 12288))) _ _ _ (lq (by rw [e1]; rfl) (lz _)) (ok.sub (.cons _ sl0)) (H.add_sub ok (.cons _ sl0)) hS
  · refine EvC.seq (Xr [.look 0, .look 1, .look 2, .look 3] (Xk (v := (.pointer (some ⟨b1, 1, none⟩))) rfl rfl (Lk.fldAddr rfl Tryz.underlying26 rfl rfl T24 rfl rfl rfl) fun _ => ?_)); refine Xk rfl rfl (Lk.load1 (v := (.slice p0_1.a p0_1.l p0_1.c)) rfl Tryz.underlying24 rfl rfl (H.rd_loc ok (i := 0) rfl rfl)) fun _ => ?_; refine Xk rfl rfl (Lk.len rfl Tryz.underlying24 rfl) fun _ => ?_; refine Xm rfl rfl rfl rfl fun _ => ?_; refine R.nil (EvC.block (EvC.loop (LoopC.lfp (σ := Int × Int) (fun s => (Ep (Ep (Ep (Ep (Ep E0 9 (i6 s.2)) 8 (i6 (p0_1.l : Int))) 7 (.slice p0_1.a p0_1.l p0_1.c)) 3 (i6 s.1)) 1 (.pointer (some ⟨b1, 0, none⟩)))) (fun s => [(b1, .row ⟨[(.slice p0_0.a p0_0.l p0_0.c), (.slice p0_1.a p0_1.l p0_1.c)], 2, 26, true, true⟩)]) (fun X hX => ?_) hS (ok.sub (.cons_cons _ sl0)) (lq rfl (lq rfl (lq rfl (lq rfl (lq rfl (lz _)))))) (H.add_sub ok (.cons_cons _ sl0))))); rintro ⟨v3_1, v9⟩ h_3 hS ok; replace hS : S64_l3 p0_0 p0_1 K X v3_1 v9 h_3 := hS; unfold S64_l3 at hS; refine EvC.seq (Xr [.look 0] (Xk rfl rfl (Lk.arith rfl rfl rfl rfl) fun _ => ?_)); refine R.nil (EvC.seq ?_)
    by_cases e2 : (decide (v9 < (p0_1.l : Int))) = true
    · rw [if_pos e2] at hS; refine EvC.condT rfl e2 (EvC.skip (EvC.seq (EvC.block (EvC.seq (Xr [.look 0, .look 1, .alc 2, .eff 3 []] ?_)))))
      obtain ⟨a11, e3, e4, e5, hS⟩ := hS
      refine Xk rfl rfl (Lk.ixAddr rfl Tryz.underlying24 T29 rfl e3 rfl e4 e5) fun _ => ?_
      obtain ⟨v12_0, v12_1, v12_2, e6, hS⟩ := hS
      refine Xk rfl rfl (Look.loc ok (Lk.loadN rfl Tryz.underlying29 rfl T29 rfl e6)) fun _ => ?_; refine R.var (blk := .row ⟨[(i6 0), (i6 0), (.slice none 0 0)], 3, 29, true, true⟩) ok rfl rfl rfl (Ac.alloc rfl T29) rfl rfl fun b5 ok => ?_; refine R.effN rfl rfl rfl (Ef.storeLoc (i := 0) (vs := [(i6 v12_0), (i6 v12_1), (.slice v12_2.a v12_2.l v12_2.c)]) (cs := [(i6 v12_0), (i6 v12_1), (.slice v12_2.a v12_2.l v12_2.c)]) (l' := [(b5, .row ⟨[(i6 v12_0), (i6 v12_1), (.slice v12_2.a v12_2.l v12_2.c)], 3, 29, true, true⟩), (b1, .row ⟨[(.slice p0_0.a p0_0.l p0_0.c), (.slice p0_1.a p0_1.l p0_1.c)], 2, 26, true, true⟩)]) ok rfl T29 rfl rfl rfl rfl rfl rfl rfl rfl rfl rfl fun ok => ⟨noChk, ?_⟩); refine R.nil (Xr [.look 0, .look 1, .look 2, .look 3, .look 4, .look 5] (Xm rfl rfl rfl rfl fun _ => Xk (v := (.pointer (some ⟨b5, 2, none⟩))) rfl rfl (Lk.fldAddr rfl Tryz.underlying29 rfl rfl T27 rfl rfl rfl) fun _ => Xk rfl rfl (Lk.load1 (v := (.slice v12_2.a v12_2.l v12_2.c)) rfl Tryz.underlying27 rfl rfl (H.rd_loc ok (i := 0) rfl rfl)) fun _ => Xk rfl rfl (Lk.len rfl Tryz.underlying27 rfl) fun _ => Xk rfl rfl (Lk.arith rfl rfl rfl rfl) fun _ => Xa rfl rfl rfl rfl fun _ => R.nil (Xr [.look 0, .look 1] (Xk rfl rfl (Lk.arith rfl rfl rfl rfl) fun _ => Xm rfl rfl rfl rfl fun _ => R.nil ?_)))); exact hX ((IntKind.wrap .i64 (v3_1 + (v12_2.l : Int))), (IntKind.wrap .i64 (v9 + 1))) _ _ _ hS (ok.sub (.cons _ (.cons_cons _ sl0))) (lq rfl (lq rfl (lq rfl (lq rfl (lq rfl (lz _)))))) (H.add_sub ok (.cons _ (.cons_cons _ sl0)))
    · rw [if_neg e2] at hS; replace e2 := eq_false_of_ne_true e2; refine EvC.condF rfl e2 (EvC.exit ?_); exact hIh_1 v3_1 _ _ _ (lq rfl (lq rfl (lz _))) (ok.sub (.cons_cons _ sl0)) (H.add_sub ok (.cons_cons _ sl0)) hS

theorem f110_ok {p0_0 : Int} {p0_1 : Int} {h : H} {K : Bool → H → Prop} (hS : S110 p0_0 p0_1 h K) : ACall Tryz.prog 110 ([(.agg ([(i6 p0_0), (i6 p0_1)] : List Value).toArray)] : List Value).toArray h (fun r h' => ∃ r0 : Bool, r = tup [(.bool r0)] ∧ K r0 h') := by
  refine ACall.enter (fn := Tryz.f110) Tryz.func110 rfl (Nat.le_of_ble_eq_true rfl) ?_; unfold S110 at hS; have ok := Lok.nil h; refine EvC.seq (Xr [.alc 0, .look 1] (R.var (blk := .row ⟨[(i6 p0_0), (i6 p0_1)], 2, 77, true, true⟩) ok rfl rfl rfl (Ac.box rfl rfl) rfl rfl fun b1 ok => ?_)); refine Xa rfl rfl rfl rfl fun _ => ?_; refine R.nil (EvC.join (σ := Bool) (fun s => (Ep E0 2 (.bool s))) (fun s => []) (fun s h_1 => S110_j1 K s h_1) ?_ (fun Ih_1 hIh_1 => ?_))
  · intro v2 h_1 ok hS; replace hS : S110_j1 K v2 h_1 := hS; unfold S110_j1 at hS; refine EvC.ret ?_; exact ⟨.inr rfl, _, _, (.cons (.tmp rfl) .nil), ok.le, _, rfl, hS⟩
  · refine Xr [.look 0, .look 1, .look 2, .look 3, .look 4, .look 5, .look 6, .look 7, .look 8, .look 9, .look 10, .look 11, .look 12, .look 13, .look 14] (Xk (v := (.pointer (some ⟨b1, 0, none⟩))) rfl rfl (Lk.fldAddr rfl Tryz.underlying77 rfl rfl T3 rfl rfl rfl) fun _ => ?_); refine Xk rfl rfl (Lk.load1 (v := (i6 p0_0)) rfl Tryz.underlying3 rfl rfl (H.rd_loc ok (i := 0) rfl rfl)) fun _ => ?_; refine Xk (v := (.pointer (some ⟨b1, 1, none⟩))) rfl rfl (Lk.fldAddr rfl Tryz.underlying77 rfl rfl T3 rfl rfl rfl) fun _ => ?_; refine Xk rfl rfl (Lk.load1 (v := (i6 p0_1)) rfl Tryz.underlying3 rfl rfl (H.rd_loc ok (i := 0) rfl rfl)) fun _ => ?_; refine Xk rfl rfl (Lk.max2 rfl rfl rfl) fun _ => ?_; refine Xk rfl rfl (Lk.arith rfl rfl rfl rfl) fun _ => ?_; refine Xm rfl rfl rfl rfl fun _ => ?_
    by_cases e1 : (decide ((if p0_1 > p0_0 then p0_1 else p0_0) > 1000000)) = true
    · refine R.lookF rfl rfl rfl rfl e1 rfl fun _ => R.lookF rfl rfl rfl rfl e1 rfl fun _ => R.lookF rfl rfl rfl rfl e1 rfl fun _ => R.lookF rfl rfl rfl rfl e1 rfl fun _ => R.lookF rfl rfl rfl rfl e1 rfl fun _ => R.lookF rfl rfl rfl rfl e1 rfl fun _ => Xk rfl rfl (Lk.pick rfl rfl (fun _ => rfl) (fun e => by rw [e1] at e; cases e)) fun _ => Xa rfl rfl rfl rfl fun _ => R.nil ?_; exact hIh_1 ((decide ((if p0_1 > p0_0 then p0_1 else p0_0) > 1000000)) || (decide ((if p0_1 < p0_0 then p0_1 else p0_0) < (-1000000)))) _ _ _ (lq (by rw [e1]; rfl) (lz _)) (ok.sub (.cons _ sl0)) (H.add_sub ok (.cons _ sl0)) hS
    · replace e1 := eq_false_of_ne_true e1; refine R.lookT (v := (.pointer (some ⟨b1, 0, none⟩))) rfl rfl rfl rfl e1 rfl (Lk.fldAddr rfl Tryz.underlying77 rfl rfl T3 rfl rfl rfl) fun _ => R.lookT rfl rfl rfl rfl e1 rfl (Lk.load1 (v := (i6 p0_0)) rfl Tryz.underlying3 rfl rfl (H.rd_loc ok (i := 0) rfl rfl)) fun _ => R.lookT (v := (.pointer (some ⟨b1, 1, none⟩))) rfl rfl rfl rfl e1 rfl (Lk.fldAddr rfl Tryz.underlying77 rfl rfl T3 rfl rfl rfl) fun _ => R.lookT rfl rfl rfl rfl e1 rfl (Lk.load1 (v := (i6 p0_1)) rfl Tryz.underlying3 rfl rfl (H.rd_loc ok (i := 0) rfl rfl)) fun _ => R.lookT rfl rfl rfl rfl e1 rfl (Lk.min2 rfl rfl rfl) fun _ => R.lookT rfl rfl rfl rfl e1 rfl (Lk.arith rfl rfl rfl rfl) fun _ => Xk rfl rfl (Lk.pick rfl rfl (fun e => by rw [e1] at e; cases e) (fun _ => rfl)) fun _ => Xa rfl rfl rfl rfl fun _ => R.nil ?_; exact hIh_1 ((decide ((if p0_1 > p0_0 then p0_1 else p0_0) > 1000000)) || (decide ((if p0_1 < p0_0 then p0_1 else p0_0) < (-1000000)))) _ _ _ (lq (by rw [e1]; rfl) (lz _)) (ok.sub (.cons _ sl0)) (H.add_sub ok (.cons _ sl0)) hS

theorem f65_ok {p0_0 : Int} {p0_1 : Int} {p0_2 : Int} {p0_3 : Int} {h : H} {K : Bool → H → Prop} (hS : S65 p0_0 p0_1 p0_2 p0_3 h K) : ACall Tryz.prog 65 ([(.agg ([(i6 p0_0), (i6 p0_1), (i6 p0_2), (i6 p0_3)] : List Value).toArray)] : List Value).toArray h (fun r h' => ∃ r0 : Bool, r = tup [(.bool r0)] ∧ K r0 h') := by
  refine ACall.enter (fn := Tryz.f65) Tryz.func65 rfl (Nat.le_of_ble_eq_true rfl) ?_; unfold S65 at hS; have ok := Lok.nil h; refine EvC.seq (Xr [.alc 0, .look 1] (R.var (blk := .row ⟨[(i6 p0_0), (i6 p0_1), (i6 p0_2), (i6 p0_3)], 4, 79, true, true⟩) ok rfl rfl rfl (Ac.box rfl rfl) rfl rfl fun b1 ok => ?_)); refine Xa rfl rfl rfl rfl fun _ => ?_; refine R.nil (EvC.join (σ := Bool) (fun s => (Ep (Ep E0 3 (.bool s)) 1 (.pointer (some ⟨b1, 0, none⟩)))) (fun s => [(b1, .row ⟨[(i6 p0_0), (i6 p0_1), (i6 p0_2), (i6 p0_3)], 4, 79, true, true⟩)]) (fun s h_1 => S65_j2 p0_0 p0_1 p0_2 p0_3 K s h_1) ?_ (fun Ih_1 hIh_1 => ?_))
  · intro v3 h_1 ok hS; replace hS : S65_j2 p0_0 p0_1 p0_2 p0_3 K v3 h_1 := hS; unfold S65_j2 at hS; refine EvC.join (σ := Bool) (fun s => (Ep E0 2 (.bool s))) (fun s => []) (fun s h_2 => S65_j1 K s h_2) ?_ (fun Ih_2 hIh_2 => ?_)
    · intro v2 h_2 ok hS; replace hS : S65_j1 K v2 h_2 := hS; unfold S65_j1 at hS; refine EvC.ret ?_; exact ⟨.inr rfl, _, _, (.cons (.tmp rfl) .nil), ok.le, _, rfl, hS⟩
    · refine Xr [.look 0, .look 1, .eff 2 [], .look 3, .look 4, .look 5, .look 6, .eff 7 [], .look 8, .look 9, .look 10, .look 11, .look 12, .look 13, .look 14, .look 15, .look 16, .look 17, .look 18, .look 19, .look 20] (Xk (v := (.pointer (some ⟨b1, 0, none⟩))) rfl rfl (Lk.fldAddr rfl Tryz.underlying79 rfl rfl T77 rfl rfl rfl) fun _ => ?_); refine Xk rfl rfl (Lk.loadN (vs := [(i6 p0_0), (i6 p0_1)]) rfl Tryz.underlying77 rfl T77 rfl (H.rdn_loc ok (i := 0) rfl rfl rfl)) fun _ => ?_; refine R.eff rfl rfl rfl (Eff.loc ok (Ef.call rfl CB110 rfl ((f110_ok hS).mono ?_))); rintro _ h_3 ⟨v22, rfl, hS⟩; refine fun ok => ⟨noChk, ?_⟩; refine Xk rfl rfl (Lk.not rfl rfl) fun _ => ?_; refine Xm rfl rfl rfl rfl fun _ => ?_
      by_cases e1 : (!v22) = true
      · rw [if_pos e1] at hS; refine R.lookT (v := (.pointer (some ⟨b1, 2, none⟩))) rfl rfl rfl rfl e1 rfl (Lk.fldAddr rfl Tryz.underlying79 rfl rfl T77 rfl rfl rfl) fun _ => R.lookT rfl rfl rfl rfl e1 rfl (Lk.loadN (vs := [(i6 p0_2), (i6 p0_3)]) rfl Tryz.underlying77 rfl T77 rfl (H.rdn_loc ok (i := 0) rfl rfl rfl)) fun _ => R.effT rfl rfl rfl rfl e1 rfl (Eff.loc ok (Ef.call rfl CB110 rfl ((f110_ok hS).mono ?_))); rintro _ h_4 ⟨v27, rfl, hS⟩; refine fun ok => ⟨noChk, ?_⟩; refine R.lookT rfl rfl rfl rfl e1 rfl (Lk.not rfl rfl) fun _ => Xk rfl rfl (Lk.pick rfl rfl (fun _ => rfl) (fun e => by rw [e1] at e; cases e)) fun _ => Xm rfl rfl rfl rfl fun _ => ?_
        by_cases e2 : (!v27) = true
        · rw [if_pos e2] at hS; refine R.lookT (v := (.pointer (some ⟨b1, 0, none⟩))) rfl rfl rfl rfl e2 rfl (Lk.fldAddr rfl Tryz.underlying79 rfl rfl T77 rfl rfl rfl) fun _ => R.lookT rfl rfl rfl rfl e2 rfl (Lk.loadN (vs := [(i6 p0_0), (i6 p0_1)]) rfl Tryz.underlying77 rfl T77 rfl (H.rdn_loc ok (i := 0) rfl rfl rfl)) fun _ => R.lookT (v := (.pointer (some ⟨b1, 2, none⟩))) rfl rfl rfl rfl e2 rfl (Lk.fldAddr rfl Tryz.underlying79 rfl rfl T77 rfl rfl rfl) fun _ => R.lookT rfl rfl rfl rfl e2 rfl (Lk.loadN (vs := [(i6 p0_2), (i6 p0_3)]) rfl Tryz.underlying77 rfl T77 rfl (H.rdn_loc ok (i := 0) rfl rfl rfl)) fun _ => R.lookT (v := (.bool ((p0_0 == p0_2) && ((p0_1 == p0_3) && true)))) rfl rfl rfl rfl e2 rfl (Lk.eqS rfl EG77 rfl rfl (EqR.struct Tryz.underlying77 SH77 (EqF.cons (a := (i6 p0_0)) (b := (i6 p0_2)) (by decide) Tryz.underlying3 T3 rfl rfl (EqR.int Tryz.underlying3) (EqF.cons (a := (i6 p0_1)) (b := (i6 p0_3)) (by decide) Tryz.underlying3 T3 rfl rfl (EqR.int Tryz.underlying3) EqF.nil)))) fun _ => R.lookT (v := (.bool ((p0_0 == p0_2) && ((p0_1 == p0_3) && true)))) rfl rfl rfl rfl e2 rfl (Lk.move rfl rfl) fun _ => ?_
          by_cases e3 : ((p0_0 == p0_2) && ((p0_1 == p0_3) && true)) = true
          · rw [if_pos e3] at hS; refine R.lookF rfl rfl rfl rfl e3 rfl fun _ => R.lookT rfl rfl rfl rfl e2 rfl (Lk.pick rfl rfl (fun _ => rfl) (fun e => by rw [e3] at e; cases e)) fun _ => Xk rfl rfl (Lk.pick rfl rfl (fun _ => rfl) (fun e => by rw [e2] at e; cases e)) fun _ => Xa rfl rfl rfl rfl fun _ => R.nil ?_; exact hIh_2 true _ _ _ (lq rfl (lz _)) (ok.sub (.cons _ sl0)) (H.add_sub ok (.cons _ sl0)) hS
          · rw [if_neg e3] at hS; replace e3 := eq_false_of_ne_true e3; refine R.lookT rfl rfl rfl rfl e3 rfl (Lk.move rfl rfl) fun _ => R.lookT rfl rfl rfl rfl e2 rfl (Lk.pick rfl rfl (fun e => by rw [e3] at e; cases e) (fun _ => rfl)) fun _ => Xk rfl rfl (Lk.pick rfl rfl (fun _ => rfl) (fun e => by rw [e2] at e; cases e)) fun _ => Xa rfl rfl rfl rfl fun _ => R.nil ?_; exact hIh_2 v3 _ _ _ (lq rfl (lz _)) (ok.sub (.cons _ sl0)) (H.add_sub ok (.cons _ sl0)) hS
        · rw [if_neg e2] at hS; replace e2 := eq_false_of_ne_true e2; refine R.lookF rfl rfl rfl rfl e2 rfl fun _ => R.lookF rfl rfl rfl rfl e2 rfl fun _ => R.lookF rfl rfl rfl rfl e2 rfl fun _ => R.lookF rfl rfl rfl rfl e2 rfl fun _ => R.lookF rfl rfl rfl rfl e2 rfl fun _ => R.lookF rfl rfl rfl rfl e2 rfl fun _ => R.lookU rfl rfl rfl rfl rfl fun _ => R.lookF rfl rfl rfl rfl e2 rfl fun _ => Xk rfl rfl (Lk.pick rfl rfl (fun e => by rw [e2] at e; cases e) (fun _ => rfl)) fun _ => Xa rfl rfl rfl rfl fun _ => R.nil ?_; exact hIh_2 false _ _ _ (lq rfl (lz _)) (ok.sub (.cons _ sl0)) (H.add_sub ok (.cons _ sl0)) hS
      · rw [if_neg e1] at hS; replace e1 := eq_false_of_ne_true e1; refine R.lookF rfl rfl rfl rfl e1 rfl fun _ => R.lookF rfl rfl rfl rfl e1 rfl fun _ => R.effF rfl rfl rfl rfl e1 rfl ?_; refine R.lookF rfl rfl rfl rfl e1 rfl fun _ => Xk rfl rfl (Lk.pick rfl rfl (fun e => by rw [e1] at e; cases e) (fun _ => rfl)) fun _ => Xm rfl rfl rfl rfl fun _ => R.lookF rfl rfl rfl rfl rfl rfl fun _ => R.lookF rfl rfl rfl rfl rfl rfl fun _ => R.lookF rfl rfl rfl rfl rfl rfl fun _ => R.lookF rfl rfl rfl rfl rfl rfl fun _ => R.lookF rfl rfl rfl rfl rfl rfl fun _ => R.lookF rfl rfl rfl rfl rfl rfl fun _ => R.lookU rfl rfl rfl rfl rfl fun _ => R.lookF rfl rfl rfl rfl rfl rfl fun _ => Xk rfl rfl (Lk.pick rfl rfl (fun e => by cases e) (fun _ => rfl)) fun _ => Xa rfl rfl rfl rfl fun _ => ?_; refine R.nil ?_; exact hIh_2 false _ _ _ (lq rfl (lz _)) (ok.sub (.cons _ sl0)) (H.add_sub ok (.cons _ sl0)) hS
  · refine Xr [.look 0, .look 1, .look 2, .look 3, .look 4, .look 5, .look 6, .look 7, .look 8, .look 9, .look 10, .look 11, .look 12, .look 13, .look 14, .look 15, .look 16] (Xk (v := (.pointer (some ⟨b1, 0, none⟩))) rfl rfl (Lk.fldAddr rfl Tryz.underlying79 rfl rfl T77 rfl rfl rfl) fun _ => ?_); refine Xk (v := (.pointer (some ⟨b1, 0, none⟩))) rfl rfl (Lk.fldAddr rfl Tryz.underlying77 rfl rfl T3 rfl rfl rfl) fun _ => ?_; refine Xk rfl rfl (Lk.load1 (v := (i6 p0_0)) rfl Tryz.underlying3 rfl rfl (H.rd_loc ok (i := 0) rfl rfl)) fun _ => ?_; refine Xk (v := (.pointer (some ⟨b1, 2, none⟩))) rfl rfl (Lk.fldAddr rfl Tryz.underlying79 rfl rfl T77 rfl rfl rfl) fun _ => ?_; refine Xk (v := (.pointer (some ⟨b1, 2, none⟩))) rfl rfl (Lk.fldAddr rfl Tryz.underlying77 rfl rfl T3 rfl rfl rfl) fun _ => ?_; refine Xk rfl rfl (Lk.load1 (v := (i6 p0_2)) rfl Tryz.underlying3 rfl rfl (H.rd_loc ok (i := 0) rfl rfl)) fun _ => ?_; refine Xk rfl rfl (Lk.arith rfl rfl rfl rfl) fun _ => ?_; refine Xm rfl rfl rfl rfl fun _ => ?_
    by_cases e4 : (decide (p0_0 < p0_2)) = true
    · refine R.lookT (v := (.pointer (some ⟨b1, 0, none⟩))) rfl rfl rfl rfl e4 rfl (Lk.fldAddr rfl Tryz.underlying79 rfl rfl T77 rfl rfl rfl) fun _ => R.lookT (v := (.pointer (some ⟨b1, 1, none⟩))) rfl rfl rfl rfl e4 rfl (Lk.fldAddr rfl Tryz.underlying77 rfl rfl T3 rfl rfl rfl) fun _ => R.lookT rfl rfl rfl rfl e4 rfl (Lk.load1 (v := (i6 p0_1)) rfl Tryz.underlying3 rfl rfl (H.rd_loc ok (i := 0) rfl rfl)) fun _ => R.lookT (v := (.pointer (some ⟨b1, 2, none⟩))) rfl rfl rfl rfl e4 rfl (Lk.fldAddr rfl Tryz.underlying79 rfl rfl T77 rfl rfl rfl) fun _ => R.lookT (v := (.pointer (some ⟨b1, 3, none⟩))) rfl rfl rfl rfl e4 rfl (Lk.fldAddr rfl Tryz.underlying77 rfl rfl T3 rfl rfl rfl) fun _ => R.lookT rfl rfl rfl rfl e4 rfl (Lk.load1 (v := (i6 p0_3)) rfl Tryz.underlying3 rfl rfl (H.rd_loc ok (i := 0) rfl rfl)) fun _ => R.lookT rfl rfl rfl rfl e4 rfl (Lk.arith rfl rfl rfl rfl) fun _ => Xk rfl rfl (Lk.pick rfl rfl (fun _ => rfl) (fun e => by rw [e4] at e; cases e)) fun _ => Xa rfl rfl rfl rfl fun _ => R.nil ?_; exact hIh_1 ((decide (p0_0 < p0_2)) && (decide (p0_1 < p0_3))) _ _ _ (lq rfl (lq (by rw [e4]; rfl) (lz _))) (ok.sub (.cons_cons _ sl0)) (H.add_sub ok (.cons_cons _ sl0)) hS
    · replace e4 := eq_false_of_ne_true e4; refine R.lookF rfl rfl rfl rfl e4 rfl fun _ => R.lookF rfl rfl rfl rfl e4 rfl fun _ => R.lookF rfl rfl rfl rfl e4 rfl fun _ => R.lookF rfl rfl rfl rfl e4 rfl fun _ => R.lookF rfl rfl rfl rfl e4 rfl fun _ => R.lookF rfl rfl rfl rfl e4 rfl fun _ => R.lookF rfl rfl rfl rfl e4 rfl fun _ => Xk rfl rfl (Lk.pick rfl rfl (fun e => by rw [e4] at e; cases e) (fun _ => rfl)) fun _ => Xa rfl rfl rfl rfl fun _ => R.nil ?_; exact hIh_1 ((decide (p0_0 < p0_2)) && (decide (p0_1 < p0_3))) _ _ _ (lq rfl (lq (by rw [e4]; rfl) (lz _))) (ok.sub (.cons_cons _ sl0)) (H.add_sub ok (.cons_cons _ sl0)) hS

theorem f48_ok {p0 : Int} {h : H} {K : Bool → H → Prop} (hS : S48 p0 h K) : ACall Tryz.prog 48 ([(i6 p0)] : List Value).toArray h (fun r h' => ∃ r0 : Bool, r = tup [(.bool r0)] ∧ K r0 h') := by
  refine ACall.enter (fn := Tryz.f48) Tryz.func48 rfl (Nat.le_of_ble_eq_true rfl) ?_; unfold S48 at hS; have ok := Lok.nil h; refine EvC.seq (Xr [.look 0] (Xa rfl rfl rfl rfl fun _ => ?_)); refine R.nil (EvC.join (σ := Bool) (fun s => (Ep E0 2 (.bool s))) (fun s => []) (fun s h_1 => S48_j1 K s h_1) ?_ (fun Ih_1 hIh_1 => ?_))
  · intro v2 h_1 ok hS; replace hS : S48_j1 K v2 h_1 := hS; unfold S48_j1 at hS; refine EvC.ret ?_; exact ⟨.inr rfl, _, _, (.cons (.tmp rfl) .nil), ok.le, _, rfl, hS⟩
  · refine Xr [.look 0, .look 1, .look 2, .look 3, .look 4, .look 5, .look 6] (Xm rfl rfl rfl rfl fun _ => ?_); refine Xk rfl rfl (Lk.arith rfl rfl rfl rfl) fun _ => ?_; refine Xm rfl rfl rfl rfl fun _ => ?_
    by_cases e1 : (decide (p0 ≥ 0)) = true
    · refine R.lookT rfl rfl rfl rfl e1 rfl (Lk.move rfl rfl) fun _ => R.lookT rfl rfl rfl rfl e1 rfl (Lk.arith rfl rfl rfl rfl) fun _ => Xk rfl rfl (Lk.pick rfl rfl (fun _ => rfl) (fun e => by rw [e1] at e; cases e)) fun _ => Xa rfl rfl rfl rfl fun _ => R.nil ?_; exact hIh_1 ((decide (p0 ≥ 0)) && (decide (p0 ≤ 3))) _ _ _ (lq (by rw [e1]; rfl) (lz _)) (ok.sub sl0) (H.add_sub ok sl0) hS
    · replace e1 := eq_false_of_ne_true e1; refine R.lookF rfl rfl rfl rfl e1 rfl fun _ => R.lookF rfl rfl rfl rfl e1 rfl fun _ => Xk rfl rfl (Lk.pick rfl rfl (fun e => by rw [e1] at e; cases e) (fun _ => rfl)) fun _ => Xa rfl rfl rfl rfl fun _ => R.nil ?_; exact hIh_1 ((decide (p0 ≥ 0)) && (decide (p0 ≤ 3))) _ _ _ (lq (by rw [e1]; rfl) (lz _)) (ok.sub sl0) (H.add_sub ok sl0) hS

theorem f104_ok {p0 : Int} {p1 : Int} {h : H} {K : Int → H → Prop} (hS : S104 p0 p1 h K) : ACall Tryz.prog 104 ([(i6 p0), (i6 p1)] : List Value).toArray h (fun r h' => ∃ r0 : Int, r = tup [(i6 r0)] ∧ K r0 h') := by
  refine ACall.enter (fn := Tryz.f104) Tryz.func104 rfl (Nat.le_of_ble_eq_true rfl) ?_; unfold S104 at hS; have ok := Lok.nil h; refine EvC.seq (Xr [.look 0] (Xa rfl rfl rfl rfl fun _ => ?_)); refine R.nil (EvC.seq (EvC.seq (Xr [.look 0, .eff 1 [], .look 2] (Xm rfl rfl rfl rfl fun _ => R.eff rfl rfl rfl (Eff.loc ok (Ef.call rfl CB48 rfl ((f48_ok hS).mono ?_))))))); rintro _ h_1 ⟨v6, rfl, hS⟩; refine fun ok => ⟨noChk, ?_⟩; refine Xk rfl rfl (Lk.not rfl rfl) fun _ => ?_; refine R.nil ?_
  by_cases e1 : (!v6) = true
  · rw [if_pos e1] at hS; refine EvC.condT rfl e1 (EvC.seq (Xr [.look 0] (Xa rfl rfl rfl rfl fun _ => ?_))); refine R.nil (EvC.ret ?_); exact ⟨.inr rfl, _, _, (.cons (.tmp rfl) .nil), ok.le, _, rfl, hS⟩
  · rw [if_neg e1] at hS; replace e1 := eq_false_of_ne_true e1; refine EvC.condF rfl e1 (EvC.skip (EvC.seq (Xr [.look 0, .look 1, .look 2, .look 3, .look 4, .look 5, .look 6] (Xm rfl rfl rfl rfl fun _ => ?_)))); refine Xm rfl rfl rfl rfl fun _ => ?_; refine Xk rfl rfl (Lk.rem (j := 4) rfl rfl rfl (by decide)) fun _ => ?_; refine Xk rfl rfl (Lk.arith rfl rfl rfl rfl) fun _ => ?_; refine Xk rfl rfl (Lk.arith rfl rfl rfl rfl) fun _ => ?_; refine Xk rfl rfl (Lk.rem (j := 4) rfl rfl rfl (by decide)) fun _ => ?_; refine Xa rfl rfl rfl rfl fun _ => ?_; refine R.nil (EvC.ret ?_); exact ⟨.inr rfl, _, _, (.cons (.tmp rfl) .nil), ok.le, _, rfl, hS⟩

theorem f143_ok {p0_0 : Int} {p0_1 : Int} {p1_0 : Int} {p1_1 : Int} {h : H} {K : Int → Bool → H → Prop} (hS : S143 p0_0 p0_1 p1_0 p1_1 h K) : ACall Tryz.prog 143 ([(.agg ([(i6 p0_0), (i6 p0_1)] : List Value).toArray), (.agg ([(i6 p1_0), (i6 p1_1)] : List Value).toArray)] : List Value).toArray h (fun r h' => ∃ r0 : Int, ∃ r1 : Bool, r = tup [(i6 r0), (.bool r1)] ∧ K r0 r1 h') := by
  refine ACall.enter (fn := Tryz.f143) Tryz.func143 rfl (Nat.le_of_ble_eq_true rfl) ?_; unfold S143 at hS; have ok := Lok.nil h; refine EvC.seq (Xr [.alc 0, .alc 1, .look 2, .look 3] (R.var (blk := .row ⟨[(i6 p0_0), (i6 p0_1)], 2, 77, true, true⟩) ok rfl rfl rfl (Ac.box rfl rfl) rfl rfl fun b2 ok => ?_)); refine R.var (blk := .row ⟨[(i6 p1_0), (i6 p1_1)], 2, 77, true, true⟩) ok rfl rfl rfl (Ac.box rfl rfl) rfl rfl fun b3 ok => ?_; refine Xa rfl rfl rfl rfl fun _ => ?_; refine Xa rfl rfl rfl rfl fun _ => ?_; refine R.nil (EvC.seq (EvC.block (EvC.seq (Xr [.look 0, .look 1, .look 2, .look 3, .look 4, .look 5, .look 6, .look 7, .look 8, .look 9, .look 10, .look 11] (Xk (v := (.pointer (some ⟨b2, 0, none⟩))) rfl rfl (Lk.fldAddr rfl Tryz.underlying77 rfl rfl T3 rfl rfl rfl) fun _ => Xk rfl rfl (Lk.load1 (v := (i6 p0_0)) rfl Tryz.underlying3 rfl rfl (H.rd_loc ok (i := 1) rfl rfl)) fun _ => Xk (v := (.pointer (some ⟨b3, 0, none⟩))) rfl rfl (Lk.fldAddr rfl Tryz.underlying77 rfl rfl T3 rfl rfl rfl) fun _ => Xk rfl rfl (Lk.load1 (v := (i6 p1_0)) rfl Tryz.underlying3 rfl rfl (H.rd_loc ok (i := 0) rfl rfl)) fun _ => Xk rfl rfl (Lk.arith rfl rfl rfl rfl) fun _ => Xk (v := (.pointer (some ⟨b2, 1, none⟩))) rfl rfl (Lk.fldAddr rfl Tryz.underlying77 rfl rfl T3 rfl rfl rfl) fun _ => Xk rfl rfl (Lk.load1 (v := (i6 p0_1)) rfl Tryz.underlying3 rfl rfl (H.rd_loc ok (i := 1) rfl rfl)) fun _ => Xk (v := (.pointer (some ⟨b3, 1, none⟩))) rfl rfl (Lk.fldAddr rfl Tryz.underlying77 rfl rfl T3 rfl rfl rfl) fun _ => ?_))))); refine Xk rfl rfl (Lk.load1 (v := (i6 p1_1)) rfl Tryz.underlying3 rfl rfl (H.rd_loc ok (i := 0) rfl rfl)) fun _ => ?_; refine Xk rfl rfl (Lk.arith rfl rfl rfl rfl) fun _ => ?_; refine Xk rfl rfl (Lk.boolEq rfl Tryz.underlying4 rfl rfl) fun _ => ?_; refine Xa rfl rfl rfl rfl fun _ => ?_; refine R.nil ?_
  by_cases e1 : ((p0_0 == p1_0) == (p0_1 == p1_1)) = true
  · rw [if_pos e1] at hS; refine EvC.condT rfl e1 (EvC.seq (Xr [.look 0, .look 1] (Xa rfl rfl rfl rfl fun _ => ?_))); refine Xa rfl rfl rfl rfl fun _ => ?_; refine R.nil (EvC.ret ?_); exact ⟨.inr rfl, _, _, (.cons (.tmp rfl) (.cons (.tmp rfl) .nil)), ok.le, _, _, rfl, hS⟩
  · rw [if_neg e1] at hS; replace e1 := eq_false_of_ne_true e1; refine EvC.condF rfl e1 (EvC.seq (Xr [.look 0, .look 1, .look 2, .look 3, .look 4, .look 5] (Xk (v := (.pointer (some ⟨b2, 0, none⟩))) rfl rfl (Lk.fldAddr rfl Tryz.underlying77 rfl rfl T3 rfl rfl rfl) fun _ => ?_))); refine Xk rfl rfl (Lk.load1 (v := (i6 p0_0)) rfl Tryz.underlying3 rfl rfl (H.rd_loc ok (i := 1) rfl rfl)) fun _ => ?_; refine Xk (v := (.pointer (some ⟨b3, 0, none⟩))) rfl rfl (Lk.fldAddr rfl Tryz.underlying77 rfl rfl T3 rfl rfl rfl) fun _ => ?_; refine Xk rfl rfl (Lk.load1 (v := (i6 p1_0)) rfl Tryz.underlying3 rfl rfl (H.rd_loc ok (i := 0) rfl rfl)) fun _ => ?_; refine Xk rfl rfl (Lk.arith rfl rfl rfl rfl) fun _ => ?_; refine Xa rfl rfl rfl rfl fun _ => ?_; refine R.nil ?_
    by_cases e2 : (decide (p0_0 < p1_0)) = true
    · rw [if_pos e2] at hS; refine EvC.condT rfl e2 (EvC.seq (Xr [.look 0, .look 1] (Xa rfl rfl rfl rfl fun _ => ?_))); refine Xa rfl rfl rfl rfl fun _ => ?_; refine R.nil (EvC.ret ?_); exact ⟨.inr rfl, _, _, (.cons (.tmp rfl) (.cons (.tmp rfl) .nil)), ok.le, _, _, rfl, hS⟩
    · rw [if_neg e2] at hS; replace e2 := eq_false_of_ne_true e2; refine EvC.condF rfl e2 (EvC.seq (Xr [.look 0, .look 1, .look 2, .look 3, .look 4, .look 5] (Xk (v := (.pointer (some ⟨b2, 0, none⟩))) rfl rfl (Lk.fldAddr rfl Tryz.underlying77 rfl rfl T3 rfl rfl rfl) fun _ => ?_))); refine Xk rfl rfl (Lk.load1 (v := (i6 p0_0)) rfl Tryz.underlying3 rfl rfl (H.rd_loc ok (i := 1) rfl rfl)) fun _ => ?_; refine Xk (v := (.pointer (some ⟨b3, 0, none⟩))) rfl rfl (Lk.fldAddr rfl Tryz.underlying77 rfl rfl T3 rfl rfl rfl) fun _ => ?_; refine Xk rfl rfl (Lk.load1 (v := (i6 p1_0)) rfl Tryz.underlying3 rfl rfl (H.rd_loc ok (i := 0) rfl rfl)) fun _ => ?_; refine Xk rfl rfl (Lk.arith rfl rfl rfl rfl) fun _ => ?_; refine Xa rfl rfl rfl rfl fun _ => ?_; refine R.nil ?_
      by_cases e3 : (decide (p0_0 > p1_0)) = true
      · rw [if_pos e3] at hS; refine EvC.condT rfl e3 (EvC.seq (Xr [.look 0, .look 1] (Xa rfl rfl rfl rfl fun _ => ?_))); refine Xa rfl rfl rfl rfl fun _ => ?_; refine R.nil (EvC.ret ?_); exact ⟨.inr rfl, _, _, (.cons (.tmp rfl) (.cons (.tmp rfl) .nil)), ok.le, _, _, rfl, hS⟩
      · rw [if_neg e3] at hS; replace e3 := eq_false_of_ne_true e3; refine EvC.condF rfl e3 (EvC.seq (Xr [.look 0, .look 1, .look 2, .look 3, .look 4, .look 5] (Xk (v := (.pointer (some ⟨b2, 1, none⟩))) rfl rfl (Lk.fldAddr rfl Tryz.underlying77 rfl rfl T3 rfl rfl rfl) fun _ => ?_))); refine Xk rfl rfl (Lk.load1 (v := (i6 p0_1)) rfl Tryz.underlying3 rfl rfl (H.rd_loc ok (i := 1) rfl rfl)) fun _ => ?_; refine Xk (v := (.pointer (some ⟨b3, 1, none⟩))) rfl rfl (Lk.fldAddr rfl Tryz.underlying77 rfl rfl T3 rfl rfl rfl) fun _ => ?_; refine Xk rfl rfl (Lk.load1 (v := (i6 p1_1)) rfl Tryz.underlying3 rfl rfl (H.rd_loc ok (i := 0) rfl rfl)) fun _ => ?_; refine Xk rfl rfl (Lk.arith rfl rfl rfl rfl) fun _ => ?_; refine Xa rfl rfl rfl rfl fun _ => ?_; refine R.nil ?_
        by_cases e4 : (decide (p0_1 < p1_1)) = true
        · rw [if_pos e4] at hS; refine EvC.condT rfl e4 (EvC.seq (Xr [.look 0, .look 1] (Xa rfl rfl rfl rfl fun _ => ?_))); refine Xa rfl rfl rfl rfl fun _ => ?_; refine R.nil (EvC.ret ?_); exact ⟨.inr rfl, _, _, (.cons (.tmp rfl) (.cons (.tmp rfl) .nil)), ok.le, _, _, rfl, hS⟩
        · rw [if_neg e4] at hS; replace e4 := eq_false_of_ne_true e4; refine EvC.condF rfl e4 (EvC.skip (EvC.seq (Xr [.look 0, .look 1] (Xa rfl rfl rfl rfl fun _ => ?_)))); refine Xa rfl rfl rfl rfl fun _ => ?_; refine R.nil (EvC.ret ?_); exact ⟨.inr rfl, _, _, (.cons (.tmp rfl) (.cons (.tmp rfl) .nil)), ok.le, _, _, rfl, hS⟩

theorem f111_ok {p0_0 : Int} {p0_1 : Int} {p0_2 : Sl} {h : H} {K : Int → Int → Int → ByteArray → Int → Int → H → Prop} (hS : S111 p0_0 p0_1 p0_2 h K) : ACall Tryz.prog 111 ([(.agg ([(i6 p0_0), (i6 p0_1), (.slice p0_2.a p0_2.l p0_2.c)] : List Value).toArray)] : List Value).toArray h (fun r h' => ∃ r0_0 : Int, ∃ r0_1 : Int, ∃ r0_2 : Int, ∃ r0_3 : ByteArray, ∃ r1 : Int, ∃ r2 : Int, r = tup [(.agg ([(i6 r0_0), (i6 r0_1), (i6 r0_2), (.string r0_3)] : List Value).toArray), (i6 r1), (i6 r2)] ∧ K r0_0 r0_1 r0_2 r0_3 r1 r2 h') := by
  refine ACall.enter (fn := Tryz.f111) Tryz.func111 rfl (Nat.le_of_ble_eq_true rfl) ?_; unfold S111 at hS; have ok := Lok.nil h; refine EvC.seq (Xr [.alc 0, .alc 1, .look 2, .look 3] (R.var (blk := .row ⟨[(i6 p0_0), (i6 p0_1), (.slice p0_2.a p0_2.l p0_2.c)], 3, 29, true, true⟩) ok rfl rfl rfl (Ac.box rfl rfl) rfl rfl fun b1 ok => ?_)); refine R.var (blk := .row ⟨[(i6 0), (i6 0), (i6 0), (.string ⟨#[]⟩)], 4, 61, true, true⟩) ok rfl rfl rfl (Ac.alloc rfl T61) rfl rfl fun b2 ok => ?_; refine Xa rfl rfl rfl rfl fun _ => ?_; refine Xa rfl rfl rfl rfl fun _ => ?_; refine R.nil (EvC.seq (Xr [.look 0, .look 1, .look 2, .look 3, .look 4, .alc 5, .eff 6 []] (Xk (v := (.pointer (some ⟨b1, 0, none⟩))) rfl rfl (Lk.fldAddr rfl Tryz.underlying29 rfl rfl T3 rfl rfl rfl) fun _ => Xk rfl rfl (Lk.load1 (v := (i6 p0_0)) rfl Tryz.underlying3 rfl rfl (H.rd_loc ok (i := 1) rfl rfl)) fun _ => Xk (v := (.pointer (some ⟨b1, 1, none⟩))) rfl rfl (Lk.fldAddr rfl Tryz.underlying29 rfl rfl T3 rfl rfl rfl) fun _ => Xk rfl rfl (Lk.load1 (v := (i6 p0_1)) rfl Tryz.underlying3 rfl rfl (H.rd_loc ok (i := 1) rfl rfl)) fun _ => Xk rfl rfl (Lk.build (cs := [(i6 p0_0), (i6 p0_1), (i6 0), (.string ⟨#[]⟩)]) (pl := [(0, 1), (1, 1), (2, 1), (3, 1)]) rfl Tryz.underlying61 T61 (PlacesL.places (.cons T3 (.cons T3 (.cons T3 (.cons T9 PlacesL.nil))))) rfl rfl) fun _ => R.var (blk := .row ⟨[(i6 0), (i6 0), (i6 0), (.string ⟨#[]⟩)], 4, 61, true, true⟩) ok rfl rfl rfl (Ac.alloc rfl T61) rfl rfl fun b5 ok => ?_))); refine R.effN rfl rfl rfl (Ef.storeLoc (i := 0) (vs := [(i6 p0_0), (i6 p0_1), (i6 0), (.string ⟨#[]⟩)]) (cs := [(i6 p0_0), (i6 p0_1), (i6 0), (.string ⟨#[]⟩)]) (l' := [(b5, .row ⟨[(i6 p0_0), (i6 p0_1), (i6 0), (.string ⟨#[]⟩)], 4, 61, true, true⟩), (b2, .row ⟨[(i6 0), (i6 0), (i6 0), (.string ⟨#[]⟩)], 4, 61, true, true⟩), (b1, .row ⟨[(i6 p0_0), (i6 p0_1), (.slice p0_2.a p0_2.l p0_2.c)], 3, 29, true, true⟩)]) ok rfl T61 rfl rfl rfl rfl rfl rfl rfl rfl rfl rfl fun ok => ⟨noChk, ?_⟩); refine R.nil (EvC.seq (Xr [.look 0] (Xa rfl rfl rfl rfl fun _ => R.nil (EvC.join (σ := Int × Int × Int × ByteArray × Int × Int × Int × ByteArray) (fun s => (Ep (Ep (Ep E0 5 (.pointer (some ⟨b5, 0, none⟩))) 2 (.pointer (some ⟨b2, 0, none⟩))) 1 (.pointer (some ⟨b1, 0, none⟩)))) (fun s => [(b5, .row ⟨[(i6 s.1), (i6 s.2.1), (i6 s.2.2.1), (.string s.2.2.2.1)], 4, 61, true, true⟩), (b2, .row ⟨[(i6 s.2.2.2.2.1), (i6 s.2.2.2.2.2.1), (i6 s.2.2.2.2.2.2.1), (.string s.2.2.2.2.2.2.2)], 4, 61, true, true⟩), (b1, .row ⟨[(i6 p0_0), (i6 p0_1), (.slice p0_2.a p0_2.l p0_2.c)], 3, 29, true, true⟩)]) (fun s h_1 => S111_j3 p0_2 K s.1 s.2.1 s.2.2.1 s.2.2.2.1 s.2.2.2.2.1 s.2.2.2.2.2.1 s.2.2.2.2.2.2.1 s.2.2.2.2.2.2.2 h_1) ?_ (fun Ih_1 hIh_1 => ?_)))))
  · rintro ⟨c5_0, c5_1, c5_2, c5_3, c2_0, c2_1, c2_2, c2_3⟩ h_1 ok hS; replace hS : S111_j3 p0_2 K c5_0 c5_1 c5_2 c5_3 c2_0 c2_1 c2_2 c2_3 h_1 := hS; unfold S111_j3 at hS; refine EvC.seq (Xr [.look 0, .look 1, .look 2] (Xk (v := (.pointer (some ⟨b5, 2, none⟩))) rfl rfl (Lk.fldAddr rfl Tryz.underlying61 rfl rfl T3 rfl rfl rfl) fun _ => ?_)); refine Xk rfl rfl (Lk.load1 (v := (i6 c5_2)) rfl Tryz.underlying3 rfl rfl (H.rd_loc ok (i := 0) rfl rfl)) fun _ => ?_; refine Xa rfl rfl rfl rfl fun _ => ?_; refine R.nil (EvC.join (σ := Int × Int × Int × Int × ByteArray × Int × Int × Int × ByteArray) (fun s => (Ep (Ep (Ep E0 6 (i6 s.1)) 5 (.pointer (some ⟨b5, 0, none⟩))) 2 (.pointer (some ⟨b2, 0, none⟩)))) (fun s => [(b5, .row ⟨[(i6 s.2.1), (i6 s.2.2.1), (i6 s.2.2.2.1), (.string s.2.2.2.2.1)], 4, 61, true, true⟩), (b2, .row ⟨[(i6 s.2.2.2.2.2.1), (i6 s.2.2.2.2.2.2.1), (i6 s.2.2.2.2.2.2.2.1), (.string s.2.2.2.2.2.2.2.2)], 4, 61, true, true⟩)]) (fun s h_2 => S111_j1 K s.1 s.2.1 s.2.2.1 s.2.2.2.1 s.2.2.2.2.1 s.2.2.2.2.2.1 s.2.2.2.2.2.2.1 s.2.2.2.2.2.2.2.1 s.2.2.2.2.2.2.2.2 h_2) ?_ (fun Ih_2 hIh_2 => ?_))
    · rintro ⟨v6, c5_0_1, c5_1_1, c5_2_1, c5_3_1, c2_0_1, c2_1_1, c2_2_1, c2_3_1⟩ h_2 ok hS; replace hS : S111_j1 K v6 c5_0_1 c5_1_1 c5_2_1 c5_3_1 c2_0_1 c2_1_1 c2_2_1 c2_3_1 h_2 := hS; unfold S111_j1 at hS; refine EvC.seq (Xr [.look 0, .look 1, .eff 2 [], .look 3, .look 4] (Xk rfl rfl (Lk.loadN (vs := [(i6 c5_0_1), (i6 c5_1_1), (i6 c5_2_1), (.string c5_3_1)]) rfl Tryz.underlying61 rfl T61 rfl (H.rdn_loc ok (i := 0) rfl rfl rfl)) fun _ => ?_)); refine Xm rfl rfl rfl rfl fun _ => ?_; refine R.effN rfl rfl rfl (Ef.storeLoc (i := 1) (vs := [(i6 c5_0_1), (i6 c5_1_1), (i6 c5_2_1), (.string c5_3_1)]) (cs := [(i6 c5_0_1), (i6 c5_1_1), (i6 c5_2_1), (.string c5_3_1)]) (l' := [(b5, .row ⟨[(i6 c5_0_1), (i6 c5_1_1), (i6 c5_2_1), (.string c5_3_1)], 4, 61, true, true⟩), (b2, .row ⟨[(i6 c5_0_1), (i6 c5_1_1), (i6 c5_2_1), (.string c5_3_1)], 4, 61, true, true⟩)]) ok rfl T61 rfl rfl rfl rfl rfl rfl rfl rfl rfl rfl fun ok => ⟨noChk, ?_⟩); refine Xa rfl rfl rfl rfl fun _ => ?_; refine Xa rfl rfl rfl rfl fun _ => ?_; refine R.nil (EvC.ret ?_); exact ⟨.inr rfl, _, _, (.cons (.cells rfl (fun w => Und.agg Tryz.underlying61 w) (fun w => T61.size_ w) (H.rdn_loc ok (i := 1) rfl rfl rfl)) (.cons (.tmp rfl) (.cons (.tmp rfl) .nil))), ok.le, _, _, _, _, _, _, rfl, hS⟩
    · refine EvC.seq (Xr [.look 0] (Xa rfl rfl rfl rfl fun _ => ?_)); refine R.nil (EvC.block (EvC.loop (LoopC.lfp (σ := Int × Int × Int × Int × Int × ByteArray × Int × Int × Int × ByteArray) (fun s => (Ep (Ep (Ep (Ep (Ep E0 10 (i6 s.2.1)) 6 (i6 s.1)) 5 (.pointer (some ⟨b5, 0, none⟩))) 2 (.pointer (some ⟨b2, 0, none⟩))) 1 (.pointer (some ⟨b1, 0, none⟩)))) (fun s => [(b5, .row ⟨[(i6 s.2.2.1), (i6 s.2.2.2.1), (i6 s.2.2.2.2.1), (.string s.2.2.2.2.2.1)], 4, 61, true, true⟩), (b2, .row ⟨[(i6 s.2.2.2.2.2.2.1), (i6 s.2.2.2.2.2.2.2.1), (i6 s.2.2.2.2.2.2.2.2.1), (.string s.2.2.2.2.2.2.2.2.2)], 4, 61, true, true⟩), (b1, .row ⟨[(i6 p0_0), (i6 p0_1), (.slice p0_2.a p0_2.l p0_2.c)], 3, 29, true, true⟩)]) (fun X hX => ?_) hS (ok.sub (.cons_cons _ (.cons_cons _ (.cons_cons _ sl0)))) (lq rfl (lq rfl (lq rfl (lq rfl (lq rfl (lz _)))))) (H.add_sub ok (.cons_cons _ (.cons_cons _ (.cons_cons _ sl0))))))); rintro ⟨v6_1, v10, c5_0_2, c5_1_2, c5_2_2, c5_3_2, c2_0_2, c2_1_2, c2_2_2, c2_3_2⟩ h_3 hS ok; replace hS : S111_l2 p0_2 K v6_1 v10 c5_0_2 c5_1_2 c5_2_2 c5_3_2 c2_0_2 c2_1_2 c2_2_2 c2_3_2 h_3 := hS; unfold S111_l2 at hS; refine EvC.seq (EvC.seq (Xr [.look 0, .look 1, .look 2, .look 3, .look 4] (Xm rfl rfl rfl rfl fun _ => ?_))); refine Xk (v := (.pointer (some ⟨b1, 2, none⟩))) rfl rfl (Lk.fldAddr rfl Tryz.underlying29 rfl rfl T27 rfl rfl rfl) fun _ => ?_; refine Xk rfl rfl (Lk.load1 (v := (.slice p0_2.a p0_2.l p0_2.c)) rfl Tryz.underlying27 rfl rfl (H.rd_loc ok (i := 2) rfl rfl)) fun _ => ?_; refine Xk rfl rfl (Lk.len rfl Tryz.underlying27 rfl) fun _ => ?_; refine Xk rfl rfl (Lk.arith rfl rfl rfl rfl) fun _ => ?_; refine R.nil ?_
      by_cases e1 : (decide (v10 < (p0_2.l : Int))) = true
      · rw [if_pos e1] at hS; refine EvC.condT rfl e1 (EvC.skip (EvC.seq (EvC.block (EvC.seq ?_)))); exact hS.elim
      · rw [if_neg e1] at hS; replace e1 := eq_false_of_ne_true e1; refine EvC.condF rfl e1 (EvC.exit ?_); exact hIh_2 (v6_1, c5_0_2, c5_1_2, c5_2_2, c5_3_2, c2_0_2, c2_1_2, c2_2_2, c2_3_2) _ _ _ (lq rfl (lq rfl (lq rfl (lz _)))) (ok.sub (.cons_cons _ (.cons_cons _ (.cons _ sl0)))) (H.add_sub ok (.cons_cons _ (.cons_cons _ (.cons _ sl0)))) hS
  · refine EvC.seq (Xr [.look 0] (Xa rfl rfl rfl rfl fun _ => ?_)); refine R.nil (EvC.block (EvC.loop (LoopC.lfp (σ := Int × Int × Int × Int × Int × ByteArray × Int × Int × Int × ByteArray) (fun s => (Ep (Ep (Ep (Ep (Ep E0 7 (i6 s.2.1)) 6 (i6 s.1)) 5 (.pointer (some ⟨b5, 0, none⟩))) 2 (.pointer (some ⟨b2, 0, none⟩))) 1 (.pointer (some ⟨b1, 0, none⟩)))) (fun s => [(b5, .row ⟨[(i6 s.2.2.1), (i6 s.2.2.2.1), (i6 s.2.2.2.2.1), (.string s.2.2.2.2.2.1)], 4, 61, true, true⟩), (b2, .row ⟨[(i6 s.2.2.2.2.2.2.1), (i6 s.2.2.2.2.2.2.2.1), (i6 s.2.2.2.2.2.2.2.2.1), (.string s.2.2.2.2.2.2.2.2.2)], 4, 61, true, true⟩), (b1, .row ⟨[(i6 p0_0), (i6 p0_1), (.slice p0_2.a p0_2.l p0_2.c)], 3, 29, true, true⟩)]) (fun X_1 hX_1 => ?_) hS (ok.sub (.cons_cons _ (.cons_cons _ (.cons_cons _ sl0)))) (lq rfl (lq rfl (lq rfl (lq rfl (lq rfl (lz _)))))) (H.add_sub ok (.cons_cons _ (.cons_cons _ (.cons_cons _ sl0))))))); rintro ⟨v6_2, v7, c5_0_3, c5_1_3, c5_2_3, c5_3_3, c2_0_3, c2_1_3, c2_2_3, c2_3_3⟩ h_4 hS ok; replace hS : S111_l5 p0_2 K X_1 v6_2 v7 c5_0_3 c5_1_3 c5_2_3 c5_3_3 c2_0_3 c2_1_3 c2_2_3 c2_3_3 h_4 := hS; unfold S111_l5 at hS; refine EvC.seq (EvC.seq (Xr [.look 0, .look 1, .look 2, .look 3, .look 4] (Xm rfl rfl rfl rfl fun _ => ?_))); refine Xk (v := (.pointer (some ⟨b1, 2, none⟩))) rfl rfl (Lk.fldAddr rfl Tryz.underlying29 rfl rfl T27 rfl rfl rfl) fun _ => ?_; refine Xk rfl rfl (Lk.load1 (v := (.slice p0_2.a p0_2.l p0_2.c)) rfl Tryz.underlying27 rfl rfl (H.rd_loc ok (i := 2) rfl rfl)) fun _ => ?_; refine Xk rfl rfl (Lk.len rfl Tryz.underlying27 rfl) fun _ => ?_; refine Xk rfl rfl (Lk.arith rfl rfl rfl rfl) fun _ => ?_; refine R.nil ?_
    by_cases e2 : (decide (v7 < (p0_2.l : Int))) = true
    · rw [if_pos e2] at hS; refine EvC.condT rfl e2 (EvC.skip (EvC.seq (EvC.block (EvC.seq (EvC.draw [0, 1, 0, 4, 15, 31, 0, 64, 0, 448, 960, 2047, 4095, 8191, 8191, 16383, 65535] [Item.look 0, Item.look 1, Item.look 2, Item.look 3, Item.look 4, Item.look 5, Item.look 6, Item.look 7, Item.look 8, Item.look 9, Item.look 10, Item.eff 11 [], Item.look 12, Item.look 13, Item.look 14, Item.look 15, Item.look 16] MO (by kernel_rfl) ?_))))); refine Xk (v := (.pointer (some ⟨b1, 2, none⟩))) rfl rfl (Lk.fldAddr rfl Tryz.underlying29 rfl rfl T27 rfl rfl rfl) fun _ => ?_; refine Xk rfl rfl (Lk.load1 (v := (.slice p0_2.a p0_2.l p0_2.c)) rfl Tryz.underlying27 rfl rfl (H.rd_loc ok (i := 2) rfl rfl)) fun _ => ?_; refine Xm rfl rfl rfl rfl fun _ => ?_; refine Xk rfl rfl (Lk.arith rfl rfl rfl rfl) fun _ => ?_
      obtain ⟨a30, e3, e4, e5, hS⟩ := hS
      refine Xk rfl rfl (Lk.ixAddr rfl Tryz.underlying27 T77 rfl e3 rfl e4 e5) fun _ => ?_
      obtain ⟨v31_0, v31_1, e6, hS⟩ := hS
      refine Xk rfl rfl (Look.loc ok (Lk.loadN rfl Tryz.underlying77 rfl T77 rfl e6)) fun _ => ?_; refine Xk (v := (.pointer (some ⟨b1, 2, none⟩))) rfl rfl (Lk.fldAddr rfl Tryz.underlying29 rfl rfl T27 rfl rfl rfl) fun _ => ?_; refine Xk rfl rfl (Lk.load1 (v := (.slice p0_2.a p0_2.l p0_2.c)) rfl Tryz.underlying27 rfl rfl (H.rd_loc ok (i := 2) rfl rfl)) fun _ => ?_; refine Xm rfl rfl rfl rfl fun _ => ?_
      obtain ⟨a35, e7, e8, e9, hS⟩ := hS
      refine Xk rfl rfl (Lk.ixAddr rfl Tryz.underlying27 T77 rfl e7 rfl e8 e9) fun _ => ?_
      obtain ⟨v36_0, v36_1, e10, hS⟩ := hS
      refine Xk rfl rfl (Look.loc ok (Lk.loadN rfl Tryz.underlying77 rfl T77 rfl e10)) fun _ => ?_; refine R.eff rfl rfl rfl (Eff.loc ok (Ef.call rfl CB143 rfl ((f143_ok hS).mono ?_))); rintro _ h_5 ⟨v37_0, v37_1, rfl, hS⟩; refine fun ok => ⟨noChk, ?_⟩; refine Xm rfl rfl rfl rfl fun _ => ?_; refine Xk rfl rfl (Lk.extract rfl rfl rfl) fun _ => ?_; refine Xk rfl rfl (Lk.extract rfl rfl rfl) fun _ => ?_; refine Xa rfl rfl rfl rfl fun _ => ?_; refine Xa rfl rfl rfl rfl fun _ => ?_; refine R.nil (EvC.seq (EvC.seq (Xr [.look 0, .look 1] (Xm rfl rfl rfl rfl fun _ => Xk rfl rfl (Lk.not rfl rfl) fun _ => R.nil ?_))))
      by_cases e11 : (!v37_1) = true
      · rw [if_pos e11] at hS; refine EvC.condT rfl e11 (EvC.seq (Xr [.look 0, .eff 1 [], .look 2, .look 3] (Xk rfl rfl (Lk.build (cs := [(i6 0), (i6 0), (i6 0), (.string ⟨#[]⟩)]) (pl := [(0, 1), (1, 1), (2, 1), (3, 1)]) rfl Tryz.underlying61 T61 (PlacesL.places (.cons T3 (.cons T3 (.cons T3 (.cons T9 PlacesL.nil))))) rfl rfl) fun _ => ?_))); refine R.effN rfl rfl rfl (Ef.storeLoc (i := 1) (vs := [(i6 0), (i6 0), (i6 0), (.string ⟨#[]⟩)]) (cs := [(i6 0), (i6 0), (i6 0), (.string ⟨#[]⟩)]) (l' := [(b5, .row ⟨[(i6 c5_0_3), (i6 c5_1_3), (i6 c5_2_3), (.string c5_3_3)], 4, 61, true, true⟩), (b2, .row ⟨[(i6 0), (i6 0), (i6 0), (.string ⟨#[]⟩)], 4, 61, true, true⟩), (b1, .row ⟨[(i6 p0_0), (i6 p0_1), (.slice p0_2.a p0_2.l p0_2.c)], 3, 29, true, true⟩)]) ok rfl T61 rfl rfl rfl rfl rfl rfl rfl rfl rfl rfl fun ok => ⟨noChk, ?_⟩); refine Xa rfl rfl rfl rfl fun _ => ?_; refine Xa rfl rfl rfl rfl fun _ => ?_; refine R.nil (EvC.ret ?_); exact ⟨.inr rfl, _, _, (.cons (.cells rfl (fun w => Und.agg Tryz.underlying61 w) (fun w => T61.size_ w) (H.rdn_loc ok (i := 1) rfl rfl rfl)) (.cons (.tmp rfl) (.cons (.tmp rfl) .nil))), ok.le, _, _, _, _, _, _, rfl, hS⟩
      · rw [if_neg e11] at hS; replace e11 := eq_false_of_ne_true e11; refine EvC.condF rfl e11 (EvC.skip (EvC.join (σ := Int × Int × Int × ByteArray) (fun s => (Ep (Ep (Ep (Ep (Ep E0 8 (i6 v37_0)) 7 (i6 v7)) 5 (.pointer (some ⟨b5, 0, none⟩))) 2 (.pointer (some ⟨b2, 0, none⟩))) 1 (.pointer (some ⟨b1, 0, none⟩)))) (fun s => [(b5, .row ⟨[(i6 s.1), (i6 s.2.1), (i6 s.2.2.1), (.string s.2.2.2)], 4, 61, true, true⟩), (b2, .row ⟨[(i6 c2_0_3), (i6 c2_1_3), (i6 c2_2_3), (.string c2_3_3)], 4, 61, true, true⟩), (b1, .row ⟨[(i6 p0_0), (i6 p0_1), (.slice p0_2.a p0_2.l p0_2.c)], 3, 29, true, true⟩)]) (fun s h_6 => S111_j4 v7 c2_0_3 c2_1_3 c2_2_3 c2_3_3 X_1 v37_0 s.1 s.2.1 s.2.2.1 s.2.2.2 h_6) ?_ (fun Ih_6 hIh_6 => ?_)))
        · rintro ⟨c5_0_4, c5_1_4, c5_2_4, c5_3_4⟩ h_6 ok hS; replace hS : S111_j4 v7 c2_0_3 c2_1_3 c2_2_3 c2_3_3 X_1 v37_0 c5_0_4 c5_1_4 c5_2_4 c5_3_4 h_6 := hS; unfold S111_j4 at hS; refine Xr [.look 0, .look 1] (Xm rfl rfl rfl rfl fun _ => ?_); refine Xa rfl rfl rfl rfl fun _ => ?_; refine R.nil (Xr [.look 0, .look 1, .look 2] (Xm rfl rfl rfl rfl fun _ => Xk rfl rfl (Lk.arith rfl rfl rfl rfl) fun _ => Xa rfl rfl rfl rfl fun _ => R.nil ?_)); exact hX_1 (v37_0, (IntKind.wrap .i64 (v7 + 1)), c5_0_4, c5_1_4, c5_2_4, c5_3_4, c2_0_3, c2_1_3, c2_2_3, c2_3_3) _ _ _ hS (ok.sub (.cons_cons _ (.cons_cons _ (.cons_cons _ sl0)))) (lq rfl (lq rfl (lq rfl (lq rfl (lq rfl (lz _)))))) (H.add_sub ok (.cons_cons _ (.cons_cons _ (.cons_cons _ sl0))))
        · refine EvC.seq (Xr [.look 0, .look 1] (Xm rfl rfl rfl rfl fun _ => ?_)); refine Xk rfl rfl (Lk.arith rfl rfl rfl rfl) fun _ => ?_; refine R.nil ?_
          by_cases e12 : (decide (v6_2 < 0)) = true
          · rw [if_pos e12] at hS; refine EvC.condT rfl e12 (Xr [.look 0, .look 1, .eff 2 []] (Xm rfl rfl rfl rfl fun _ => ?_)); refine Xk (v := (.pointer (some ⟨b5, 2, none⟩))) rfl rfl (Lk.fldAddr rfl Tryz.underlying61 rfl rfl T3 rfl rfl rfl) fun _ => ?_; refine R.effN rfl rfl rfl (Ef.storeLoc (i := 0) (vs := [(i6 v37_0)]) (cs := [(i6 c5_0_3), (i6 c5_1_3), (i6 v37_0), (.string c5_3_3)]) (l' := [(b5, .row ⟨[(i6 c5_0_3), (i6 c5_1_3), (i6 v37_0), (.string c5_3_3)], 4, 61, true, true⟩), (b2, .row ⟨[(i6 c2_0_3), (i6 c2_1_3), (i6 c2_2_3), (.string c2_3_3)], 4, 61, true, true⟩), (b1, .row ⟨[(i6 p0_0), (i6 p0_1), (.slice p0_2.a p0_2.l p0_2.c)], 3, 29, true, true⟩)]) ok rfl T3 rfl rfl rfl rfl rfl rfl rfl rfl rfl rfl fun ok => ⟨noChk, ?_⟩); refine R.nil ?_; exact hIh_6 (c5_0_3, c5_1_3, v37_0, c5_3_3) _ _ _ (lq rfl (lq rfl (lq rfl (lq rfl (lq rfl (lz _)))))) (ok.sub (.cons_cons _ (.cons_cons _ (.cons_cons _ sl0)))) (H.add_sub ok (.cons_cons _ (.cons_cons _ (.cons_cons _ sl0)))) hS
          · rw [if_neg e12] at hS; replace e12 := eq_false_of_ne_true e12; refine EvC.condF rfl e12 (EvC.skip ?_); exact hIh_6 (c5_0_3, c5_1_3, c5_2_3, c5_3_3) _ _ _ (lq rfl (lq rfl (lq rfl (lq rfl (lq rfl (lz _)))))) (ok.sub (.cons_cons _ (.cons_cons _ (.cons_cons _ sl0)))) (H.add_sub ok (.cons_cons _ (.cons_cons _ (.cons_cons _ sl0)))) hS
    · rw [if_neg e2] at hS; replace e2 := eq_false_of_ne_true e2; refine EvC.condF rfl e2 (EvC.exit ?_); exact hIh_1 (c5_0_3, c5_1_3, c5_2_3, c5_3_3, c2_0_3, c2_1_3, c2_2_3, c2_3_3) _ _ _ (lq rfl (lq rfl (lq rfl (lz _)))) (ok.sub (.cons_cons _ (.cons_cons _ (.cons_cons _ sl0)))) (H.add_sub ok (.cons_cons _ (.cons_cons _ (.cons_cons _ sl0)))) hS

theorem f112_ok {p0_0 : Int} {p0_1 : Int} {p0_2 : Int} {p0_3 : Int} {p1 : Int} {p2_0 : Int} {p2_1 : Int} {h : H} {K : Bool → H → Prop} (hS : S112 p0_0 p0_1 p0_2 p0_3 p1 p2_0 p2_1 h K) : ACall Tryz.prog 112 ([(.agg ([(i6 p0_0), (i6 p0_1), (i6 p0_2), (i6 p0_3)] : List Value).toArray), (i6 p1), (.agg ([(i6 p2_0), (i6 p2_1)] : List Value).toArray)] : List Value).toArray h (fun r h' => ∃ r0 : Bool, r = tup [(.bool r0)] ∧ K r0 h') := by
  refine ACall.enter (fn := Tryz.f112) Tryz.func112 rfl (Nat.le_of_ble_eq_true rfl) ?_; unfold S112 at hS; have ok := Lok.nil h; refine EvC.seq (Xr [.alc 0, .alc 1, .look 2] (R.var (blk := .row ⟨[(i6 p0_0), (i6 p0_1), (i6 p0_2), (i6 p0_3)], 4, 79, true, true⟩) ok rfl rfl rfl (Ac.box rfl rfl) rfl rfl fun b3 ok => ?_)); refine R.var (blk := .row ⟨[(i6 p2_0), (i6 p2_1)], 2, 77, true, true⟩) ok rfl rfl rfl (Ac.box rfl rfl) rfl rfl fun b5 ok => ?_; refine Xa rfl rfl rfl rfl fun _ => ?_; refine R.nil (EvC.seq (EvC.seq (Xr [.look 0, .look 1, .look 2, .look 3, .look 4] (Xk (v := (.pointer (some ⟨b3, 0, none⟩))) rfl rfl (Lk.fldAddr rfl Tryz.underlying79 rfl rfl T77 rfl rfl rfl) fun _ => Xk rfl rfl (Lk.loadN (vs := [(i6 p0_0), (i6 p0_1)]) rfl Tryz.underlying77 rfl T77 rfl (H.rdn_loc ok (i := 1) rfl rfl rfl)) fun _ => Xk (v := (.pointer (some ⟨b3, 2, none⟩))) rfl rfl (Lk.fldAddr rfl Tryz.underlying79 rfl rfl T77 rfl rfl rfl) fun _ => Xk rfl rfl (Lk.loadN (vs := [(i6 p0_2), (i6 p0_3)]) rfl Tryz.underlying77 rfl T77 rfl (H.rdn_loc ok (i := 1) rfl rfl rfl)) fun _ => R.look (v := (.bool ((p0_0 == p0_2) && ((p0_1 == p0_3) && true)))) rfl rfl rfl (Lk.eqS rfl EG77 rfl rfl (EqR.struct Tryz.underlying77 SH77 (EqF.cons (a := (i6 p0_0)) (b := (i6 p0_2)) (by decide) Tryz.underlying3 T3 rfl rfl (EqR.int Tryz.underlying3) (EqF.cons (a := (i6 p0_1)) (b := (i6 p0_3)) (by decide) Tryz.underlying3 T3 rfl rfl (EqR.int Tryz.underlying3) EqF.nil)))) fun _ => R.nil ?_))))
  by_cases e1 : ((p0_0 == p0_2) && ((p0_1 == p0_3) && true)) = true
  · rw [if_pos e1] at hS; refine EvC.condT rfl e1 (EvC.seq (Xr [.look 0, .look 1, .look 2, .look 3, .look 4] (Xk rfl rfl (Lk.loadN (vs := [(i6 p2_0), (i6 p2_1)]) rfl Tryz.underlying77 rfl T77 rfl (H.rdn_loc ok (i := 0) rfl rfl rfl)) fun _ => ?_))); refine Xk (v := (.pointer (some ⟨b3, 0, none⟩))) rfl rfl (Lk.fldAddr rfl Tryz.underlying79 rfl rfl T77 rfl rfl rfl) fun _ => ?_; refine Xk rfl rfl (Lk.loadN (vs := [(i6 p0_0), (i6 p0_1)]) rfl Tryz.underlying77 rfl T77 rfl (H.rdn_loc ok (i := 1) rfl rfl rfl)) fun _ => ?_; refine R.look (v := (.bool ((p2_0 == p0_0) && ((p2_1 == p0_1) && true)))) rfl rfl rfl (Lk.eqS rfl EG77 rfl rfl (EqR.struct Tryz.underlying77 SH77 (EqF.cons (a := (i6 p2_0)) (b := (i6 p0_0)) (by decide) Tryz.underlying3 T3 rfl rfl (EqR.int Tryz.underlying3) (EqF.cons (a := (i6 p2_1)) (b := (i6 p0_1)) (by decide) Tryz.underlying3 T3 rfl rfl (EqR.int Tryz.underlying3) EqF.nil)))) fun _ => R.look (v := (.bool ((p2_0 == p0_0) && ((p2_1 == p0_1) && true)))) rfl rfl rfl (Lk.assign rfl rfl) fun _ => R.nil (EvC.ret ?_); exact ⟨.inr rfl, _, _, (.cons (.tmp rfl) .nil), ok.le, _, rfl, hS⟩
  · rw [if_neg e1] at hS; replace e1 := eq_false_of_ne_true e1; refine EvC.condF rfl e1 (EvC.skip (EvC.join (σ := Bool) (fun s => (Ep (Ep (Ep (Ep E0 7 (.bool s)) 5 (.pointer (some ⟨b5, 0, none⟩))) 3 (.pointer (some ⟨b3, 0, none⟩))) 1 (i6 p1))) (fun s => [(b5, .row ⟨[(i6 p2_0), (i6 p2_1)], 2, 77, true, true⟩), (b3, .row ⟨[(i6 p0_0), (i6 p0_1), (i6 p0_2), (i6 p0_3)], 4, 79, true, true⟩)]) (fun s h_1 => S112_j6 p0_0 p0_1 p0_2 p0_3 p1 p2_0 p2_1 K s h_1) ?_ (fun Ih_1 hIh_1 => ?_)))
    · intro v7 h_1 ok hS; replace hS : S112_j6 p0_0 p0_1 p0_2 p0_3 p1 p2_0 p2_1 K v7 h_1 := hS; unfold S112_j6 at hS; refine EvC.join (σ := Bool) (fun s => (Ep (Ep (Ep (Ep (Ep E0 8 (.bool s)) 7 (.bool v7)) 5 (.pointer (some ⟨b5, 0, none⟩))) 3 (.pointer (some ⟨b3, 0, none⟩))) 1 (i6 p1))) (fun s => [(b5, .row ⟨[(i6 p2_0), (i6 p2_1)], 2, 77, true, true⟩), (b3, .row ⟨[(i6 p0_0), (i6 p0_1), (i6 p0_2), (i6 p0_3)], 4, 79, true, true⟩)]) (fun s h_2 => S112_j5 p0_0 p0_1 p0_2 p0_3 p1 p2_0 p2_1 K v7 s h_2) ?_ (fun Ih_2 hIh_2 => ?_)
      · intro v8 h_2 ok hS; replace hS : S112_j5 p0_0 p0_1 p0_2 p0_3 p1 p2_0 p2_1 K v7 v8 h_2 := hS; unfold S112_j5 at hS; refine EvC.seq (EvC.seq (Xr [.look 0] (Xm rfl rfl rfl rfl fun _ => ?_))); refine R.nil (EvC.block (EvC.seq (Xr [.look 0, .look 1] (Xk rfl rfl (Lk.arith rfl rfl rfl rfl) fun _ => Xa rfl rfl rfl rfl fun _ => R.nil ?_))))
        by_cases e2 : (p1 == 0) = true
        · rw [if_pos e2] at hS; refine EvC.condT rfl e2 (EvC.join (σ := Bool) (fun s => (Ep E0 6 (.bool s))) (fun s => []) (fun s h_3 => S112_j1 K s h_3) ?_ (fun Ih_3 hIh_3 => ?_))
          · intro v6 h_3 ok hS; replace hS : S112_j1 K v6 h_3 := hS; unfold S112_j1 at hS; refine EvC.ret ?_; exact ⟨.inr rfl, _, _, (.cons (.tmp rfl) .nil), ok.le, _, rfl, hS⟩
          · refine Xr [.look 0, .look 1, .look 2, .look 3, .look 4, .look 5, .look 6, .look 7, .look 8, .look 9] (Xm rfl rfl rfl rfl fun _ => ?_); refine Xm rfl rfl rfl rfl fun _ => ?_
            by_cases e3 : v7 = true
            · refine R.lookT (v := (.pointer (some ⟨b5, 0, none⟩))) rfl rfl rfl rfl e3 rfl (Lk.fldAddr rfl Tryz.underlying77 rfl rfl T3 rfl rfl rfl) fun _ => R.lookT rfl rfl rfl rfl e3 rfl (Lk.load1 (v := (i6 p2_0)) rfl Tryz.underlying3 rfl rfl (H.rd_loc ok (i := 0) rfl rfl)) fun _ => R.lookT (v := (.pointer (some ⟨b3, 2, none⟩))) rfl rfl rfl rfl e3 rfl (Lk.fldAddr rfl Tryz.underlying79 rfl rfl T77 rfl rfl rfl) fun _ => R.lookT (v := (.pointer (some ⟨b3, 2, none⟩))) rfl rfl rfl rfl e3 rfl (Lk.fldAddr rfl Tryz.underlying77 rfl rfl T3 rfl rfl rfl) fun _ => R.lookT rfl rfl rfl rfl e3 rfl (Lk.load1 (v := (i6 p0_2)) rfl Tryz.underlying3 rfl rfl (H.rd_loc ok (i := 1) rfl rfl)) fun _ => R.lookT rfl rfl rfl rfl e3 rfl (Lk.arith rfl rfl rfl rfl) fun _ => Xk rfl rfl (Lk.pick rfl rfl (fun _ => rfl) (fun e => by rw [e3] at e; cases e)) fun _ => Xa rfl rfl rfl rfl fun _ => R.nil ?_; exact hIh_3 (v7 && (p2_0 == p0_2)) _ _ _ (lq (by rw [e3]; rfl) (lz _)) (ok.sub (.cons _ (.cons _ sl0))) (H.add_sub ok (.cons _ (.cons _ sl0))) hS
            · replace e3 := eq_false_of_ne_true e3; refine R.lookF rfl rfl rfl rfl e3 rfl fun _ => R.lookF rfl rfl rfl rfl e3 rfl fun _ => R.lookF rfl rfl rfl rfl e3 rfl fun _ => R.lookF rfl rfl rfl rfl e3 rfl fun _ => R.lookF rfl rfl rfl rfl e3 rfl fun _ => R.lookF rfl rfl rfl rfl e3 rfl fun _ => Xk rfl rfl (Lk.pick rfl rfl (fun e => by rw [e3] at e; cases e) (fun _ => rfl)) fun _ => Xa rfl rfl rfl rfl fun _ => R.nil ?_; exact hIh_3 (v7 && (p2_0 == p0_2)) _ _ _ (lq (by rw [e3]; rfl) (lz _)) (ok.sub (.cons _ (.cons _ sl0))) (H.add_sub ok (.cons _ (.cons _ sl0))) hS
        · rw [if_neg e2] at hS; replace e2 := eq_false_of_ne_true e2; refine EvC.condF rfl e2 (EvC.seq (Xr [.look 0, .look 1] (Xk rfl rfl (Lk.arith rfl rfl rfl rfl) fun _ => ?_))); refine Xa rfl rfl rfl rfl fun _ => ?_; refine R.nil ?_
          by_cases e4 : (p1 == 1) = true
          · rw [if_pos e4] at hS; refine EvC.condT rfl e4 (EvC.join (σ := Bool) (fun s => (Ep E0 6 (.bool s))) (fun s => []) (fun s h_4 => S112_j2 K s h_4) ?_ (fun Ih_4 hIh_4 => ?_))
            · intro v6_1 h_4 ok hS; replace hS : S112_j2 K v6_1 h_4 := hS; unfold S112_j2 at hS; refine EvC.ret ?_; exact ⟨.inr rfl, _, _, (.cons (.tmp rfl) .nil), ok.le, _, rfl, hS⟩
            · refine Xr [.look 0, .look 1, .look 2, .look 3, .look 4, .look 5, .look 6, .look 7, .look 8, .look 9] (Xm rfl rfl rfl rfl fun _ => ?_); refine Xm rfl rfl rfl rfl fun _ => ?_
              by_cases e5 : v8 = true
              · refine R.lookT (v := (.pointer (some ⟨b5, 1, none⟩))) rfl rfl rfl rfl e5 rfl (Lk.fldAddr rfl Tryz.underlying77 rfl rfl T3 rfl rfl rfl) fun _ => R.lookT rfl rfl rfl rfl e5 rfl (Lk.load1 (v := (i6 p2_1)) rfl Tryz.underlying3 rfl rfl (H.rd_loc ok (i := 0) rfl rfl)) fun _ => R.lookT (v := (.pointer (some ⟨b3, 2, none⟩))) rfl rfl rfl rfl e5 rfl (Lk.fldAddr rfl Tryz.underlying79 rfl rfl T77 rfl rfl rfl) fun _ => R.lookT (v := (.pointer (some ⟨b3, 3, none⟩))) rfl rfl rfl rfl e5 rfl (Lk.fldAddr rfl Tryz.underlying77 rfl rfl T3 rfl rfl rfl) fun _ => R.lookT rfl rfl rfl rfl e5 rfl (Lk.load1 (v := (i6 p0_3)) rfl Tryz.underlying3 rfl rfl (H.rd_loc ok (i := 1) rfl rfl)) fun _ => R.lookT rfl rfl rfl rfl e5 rfl (Lk.arith rfl rfl rfl rfl) fun _ => Xk rfl rfl (Lk.pick rfl rfl (fun _ => rfl) (fun e => by rw [e5] at e; cases e)) fun _ => Xa rfl rfl rfl rfl fun _ => R.nil ?_; exact hIh_4 (v8 && (p2_1 == p0_3)) _ _ _ (lq (by rw [e5]; rfl) (lz _)) (ok.sub (.cons _ (.cons _ sl0))) (H.add_sub ok (.cons _ (.cons _ sl0))) hS
              · replace e5 := eq_false_of_ne_true e5; refine R.lookF rfl rfl rfl rfl e5 rfl fun _ => R.lookF rfl rfl rfl rfl e5 rfl fun _ => R.lookF rfl rfl rfl rfl e5 rfl fun _ => R.lookF rfl rfl rfl rfl e5 rfl fun _ => R.lookF rfl rfl rfl rfl e5 rfl fun _ => R.lookF rfl rfl rfl rfl e5 rfl fun _ => Xk rfl rfl (Lk.pick rfl rfl (fun e => by rw [e5] at e; cases e) (fun _ => rfl)) fun _ => Xa rfl rfl rfl rfl fun _ => R.nil ?_; exact hIh_4 (v8 && (p2_1 == p0_3)) _ _ _ (lq (by rw [e5]; rfl) (lz _)) (ok.sub (.cons _ (.cons _ sl0))) (H.add_sub ok (.cons _ (.cons _ sl0))) hS
          · rw [if_neg e4] at hS; replace e4 := eq_false_of_ne_true e4; refine EvC.condF rfl e4 (EvC.seq (Xr [.look 0, .look 1] (Xk rfl rfl (Lk.arith rfl rfl rfl rfl) fun _ => ?_))); refine Xa rfl rfl rfl rfl fun _ => ?_; refine R.nil ?_
            by_cases e6 : (p1 == 2) = true
            · rw [if_pos e6] at hS; refine EvC.condT rfl e6 (EvC.join (σ := Bool) (fun s => (Ep E0 6 (.bool s))) (fun s => []) (fun s h_5 => S112_j3 K s h_5) ?_ (fun Ih_5 hIh_5 => ?_))
              · intro v6_2 h_5 ok hS; replace hS : S112_j3 K v6_2 h_5 := hS; unfold S112_j3 at hS; refine EvC.ret ?_; exact ⟨.inr rfl, _, _, (.cons (.tmp rfl) .nil), ok.le, _, rfl, hS⟩
              · refine Xr [.look 0, .look 1, .look 2, .look 3, .look 4, .look 5, .look 6, .look 7, .look 8, .look 9] (Xm rfl rfl rfl rfl fun _ => ?_); refine Xm rfl rfl rfl rfl fun _ => ?_
                by_cases e7 : v7 = true
                · refine R.lookT (v := (.pointer (some ⟨b5, 0, none⟩))) rfl rfl rfl rfl e7 rfl (Lk.fldAddr rfl Tryz.underlying77 rfl rfl T3 rfl rfl rfl) fun _ => R.lookT rfl rfl rfl rfl e7 rfl (Lk.load1 (v := (i6 p2_0)) rfl Tryz.underlying3 rfl rfl (H.rd_loc ok (i := 0) rfl rfl)) fun _ => R.lookT (v := (.pointer (some ⟨b3, 0, none⟩))) rfl rfl rfl rfl e7 rfl (Lk.fldAddr rfl Tryz.underlying79 rfl rfl T77 rfl rfl rfl) fun _ => R.lookT (v := (.pointer (some ⟨b3, 0, none⟩))) rfl rfl rfl rfl e7 rfl (Lk.fldAddr rfl Tryz.underlying77 rfl rfl T3 rfl rfl rfl) fun _ => R.lookT rfl rfl rfl rfl e7 rfl (Lk.load1 (v := (i6 p0_0)) rfl Tryz.underlying3 rfl rfl (H.rd_loc ok (i := 1) rfl rfl)) fun _ => R.lookT rfl rfl rfl rfl e7 rfl (Lk.arith rfl rfl rfl rfl) fun _ => Xk rfl rfl (Lk.pick rfl rfl (fun _ => rfl) (fun e => by rw [e7] at e; cases e)) fun _ => Xa rfl rfl rfl rfl fun _ => R.nil ?_; exact hIh_5 (v7 && (p2_0 == p0_0)) _ _ _ (lq (by rw [e7]; rfl) (lz _)) (ok.sub (.cons _ (.cons _ sl0))) (H.add_sub ok (.cons _ (.cons _ sl0))) hS
                · replace e7 := eq_false_of_ne_true e7; refine R.lookF rfl rfl rfl rfl e7 rfl fun _ => R.lookF rfl rfl rfl rfl e7 rfl fun _ => R.lookF rfl rfl rfl rfl e7 rfl fun _ => R.lookF rfl rfl rfl rfl e7 rfl fun _ => R.lookF rfl rfl rfl rfl e7 rfl fun _ => R.lookF rfl rfl rfl rfl e7 rfl fun _ => Xk rfl rfl (Lk.pick rfl rfl (fun e => by rw [e7] at e; cases e) (fun _ => rfl)) fun _ => Xa rfl rfl rfl rfl fun _ => R.nil ?_; exact hIh_5 (v7 && (p2_0 == p0_0)) _ _ _ (lq (by rw [e7]; rfl) (lz _)) (ok.sub (.cons _ (.cons _ sl0))) (H.add_sub ok (.cons _ (.cons _ sl0))) hS
            · rw [if_neg e6] at hS; replace e6 := eq_false_of_ne_true e6; refine EvC.condF rfl e6 (EvC.skip (EvC.join (σ := Bool) (fun s => (Ep E0 6 (.bool s))) (fun s => []) (fun s h_6 => S112_j4 K s h_6) ?_ (fun Ih_6 hIh_6 => ?_)))
              · intro v6_3 h_6 ok hS; replace hS : S112_j4 K v6_3 h_6 := hS; unfold S112_j4 at hS; refine EvC.ret ?_; exact ⟨.inr rfl, _, _, (.cons (.tmp rfl) .nil), ok.le, _, rfl, hS⟩
              · refine Xr [.look 0, .look 1, .look 2, .look 3, .look 4, .look 5, .look 6, .look 7, .look 8, .look 9] (Xm rfl rfl rfl rfl fun _ => ?_); refine Xm rfl rfl rfl rfl fun _ => ?_
                by_cases e8 : v8 = true
                · refine R.lookT (v := (.pointer (some ⟨b5, 1, none⟩))) rfl rfl rfl rfl e8 rfl (Lk.fldAddr rfl Tryz.underlying77 rfl rfl T3 rfl rfl rfl) fun _ => R.lookT rfl rfl rfl rfl e8 rfl (Lk.load1 (v := (i6 p2_1)) rfl Tryz.underlying3 rfl rfl (H.rd_loc ok (i := 0) rfl rfl)) fun _ => R.lookT (v := (.pointer (some ⟨b3, 0, none⟩))) rfl rfl rfl rfl e8 rfl (Lk.fldAddr rfl Tryz.underlying79 rfl rfl T77 rfl rfl rfl) fun _ => R.lookT (v := (.pointer (some ⟨b3, 1, none⟩))) rfl rfl rfl rfl e8 rfl (Lk.fldAddr rfl Tryz.underlying77 rfl rfl T3 rfl rfl rfl) fun _ => R.lookT rfl rfl rfl rfl e8 rfl (Lk.load1 (v := (i6 p0_1)) rfl Tryz.underlying3 rfl rfl (H.rd_loc ok (i := 1) rfl rfl)) fun _ => R.lookT rfl rfl rfl rfl e8 rfl (Lk.arith rfl rfl rfl rfl) fun _ => Xk rfl rfl (Lk.pick rfl rfl (fun _ => rfl) (fun e => by rw [e8] at e; cases e)) fun _ => Xa rfl rfl rfl rfl fun _ => R.nil ?_; exact hIh_6 (v8 && (p2_1 == p0_1)) _ _ _ (lq (by rw [e8]; rfl) (lz _)) (ok.sub (.cons _ (.cons _ sl0))) (H.add_sub ok (.cons _ (.cons _ sl0))) hS
                · replace e8 := eq_false_of_ne_true e8; refine R.lookF rfl rfl rfl rfl e8 rfl fun _ => R.lookF rfl rfl rfl rfl e8 rfl fun _ => R.lookF rfl rfl rfl rfl e8 rfl fun _ => R.lookF rfl rfl rfl rfl e8 rfl fun _ => R.lookF rfl rfl rfl rfl e8 rfl fun _ => R.lookF rfl rfl rfl rfl e8 rfl fun _ => Xk rfl rfl (Lk.pick rfl rfl (fun e => by rw [e8] at e; cases e) (fun _ => rfl)) fun _ => Xa rfl rfl rfl rfl fun _ => R.nil ?_; exact hIh_6 (v8 && (p2_1 == p0_1)) _ _ _ (lq (by rw [e8]; rfl) (lz _)) (ok.sub (.cons _ (.cons _ sl0))) (H.add_sub ok (.cons _ (.cons _ sl0))) hS
      · refine Xr [.look 0, .look 1, .look 2, .look 3, .look 4, .look 5, .look 6, .look 7, .look 8, .look 9, .look 10, .look 11, .look 12, .look 13, .look 14] (Xk (v := (.pointer (some ⟨b3, 0, none⟩))) rfl rfl (Lk.fldAddr rfl Tryz.underlying79 rfl rfl T77 rfl rfl rfl) fun _ => ?_); refine Xk (v := (.pointer (some ⟨b3, 0, none⟩))) rfl rfl (Lk.fldAddr rfl Tryz.underlying77 rfl rfl T3 rfl rfl rfl) fun _ => ?_; refine Xk rfl rfl (Lk.load1 (v := (i6 p0_0)) rfl Tryz.underlying3 rfl rfl (H.rd_loc ok (i := 1) rfl rfl)) fun _ => ?_; refine Xk (v := (.pointer (some ⟨b5, 0, none⟩))) rfl rfl (Lk.fldAddr rfl Tryz.underlying77 rfl rfl T3 rfl rfl rfl) fun _ => ?_; refine Xk rfl rfl (Lk.load1 (v := (i6 p2_0)) rfl Tryz.underlying3 rfl rfl (H.rd_loc ok (i := 0) rfl rfl)) fun _ => ?_; refine Xk rfl rfl (Lk.arith rfl rfl rfl rfl) fun _ => ?_; refine Xm rfl rfl rfl rfl fun _ => ?_
        by_cases e9 : (decide (p0_0 < p2_0)) = true
        · refine R.lookT (v := (.pointer (some ⟨b5, 0, none⟩))) rfl rfl rfl rfl e9 rfl (Lk.fldAddr rfl Tryz.underlying77 rfl rfl T3 rfl rfl rfl) fun _ => R.lookT rfl rfl rfl rfl e9 rfl (Lk.load1 (v := (i6 p2_0)) rfl Tryz.underlying3 rfl rfl (H.rd_loc ok (i := 0) rfl rfl)) fun _ => R.lookT (v := (.pointer (some ⟨b3, 2, none⟩))) rfl rfl rfl rfl e9 rfl (Lk.fldAddr rfl Tryz.underlying79 rfl rfl T77 rfl rfl rfl) fun _ => R.lookT (v := (.pointer (some ⟨b3, 2, none⟩))) rfl rfl rfl rfl e9 rfl (Lk.fldAddr rfl Tryz.underlying77 rfl rfl T3 rfl rfl rfl) fun _ => R.lookT rfl rfl rfl rfl e9 rfl (Lk.load1 (v := (i6 p0_2)) rfl Tryz.underlying3 rfl rfl (H.rd_loc ok (i := 1) rfl rfl)) fun _ => R.lookT rfl rfl rfl rfl e9 rfl (Lk.arith rfl rfl rfl rfl) fun _ => Xk rfl rfl (Lk.pick rfl rfl (fun _ => rfl) (fun e => by rw [e9] at e; cases e)) fun _ => Xa rfl rfl rfl rfl fun _ => R.nil ?_; exact hIh_2 ((decide (p0_0 < p2_0)) && (decide (p2_0 < p0_2))) _ _ _ (lq rfl (lq rfl (lq rfl (lq rfl (lq (by rw [e9]; rfl) (lz _)))))) (ok.sub (.cons_cons _ (.cons_cons _ sl0))) (H.add_sub ok (.cons_cons _ (.cons_cons _ sl0))) hS
        · replace e9 := eq_false_of_ne_true e9; refine R.lookF rfl rfl rfl rfl e9 rfl fun _ => R.lookF rfl rfl rfl rfl e9 rfl fun _ => R.lookF rfl rfl rfl rfl e9 rfl fun _ => R.lookF rfl rfl rfl rfl e9 rfl fun _ => R.lookF rfl rfl rfl rfl e9 rfl fun _ => R.lookF rfl rfl rfl rfl e9 rfl fun _ => Xk rfl rfl (Lk.pick rfl rfl (fun e => by rw [e9] at e; cases e) (fun _ => rfl)) fun _ => Xa rfl rfl rfl rfl fun _ => R.nil ?_; exact hIh_2 ((decide (p0_0 < p2_0)) && (decide (p2_0 < p0_2))) _ _ _ (lq rfl (lq rfl (lq rfl (lq rfl (lq (by rw [e9]; rfl) (lz _)))))) (ok.sub (.cons_cons _ (.cons_cons _ sl0))) (H.add_sub ok (.cons_cons _ (.cons_cons _ sl0))) hS
    · exact hS.elim

theorem f66_ok {p0_0 : Sl} {p0_1 : Sl} {p1_0 : Int} {p1_1 : Int} {p1_2 : Sl} {h : H} {K : Int → Int → Int → ByteArray → Int → H → Prop} (hS : S66 p0_0 p0_1 p1_0 p1_1 p1_2 h K) : ACall Tryz.prog 66 ([(.agg ([(.slice p0_0.a p0_0.l p0_0.c), (.slice p0_1.a p0_1.l p0_1.c)] : List Value).toArray), (.agg ([(i6 p1_0), (i6 p1_1), (.slice p1_2.a p1_2.l p1_2.c)] : List Value).toArray)] : List Value).toArray h (fun r h' => ∃ r0_0 : Int, ∃ r0_1 : Int, ∃ r0_2 : Int, ∃ r0_3 : ByteArray, ∃ r1 : Int, r = tup [(.agg ([(i6 r0_0), (i6 r0_1), (i6 r0_2), (.string r0_3)] : List Value).toArray), (i6 r1)] ∧ K r0_0 r0_1 r0_2 r0_3 r1 h') := by
  refine ACall.enter (fn := Tryz.f66) Tryz.func66 rfl (Nat.le_of_ble_eq_true rfl) ?_; unfold S66 at hS; have ok := Lok.nil h; refine EvC.seq (Xr [.alc 0, .alc 1, .alc 2, .look 3] (R.var (blk := .row ⟨[(.slice p0_0.a p0_0.l p0_0.c), (.slice p0_1.a p0_1.l p0_1.c)], 2, 26, true, true⟩) ok rfl rfl rfl (Ac.box rfl rfl) rfl rfl fun b2 ok => ?_)); refine R.var (blk := .row ⟨[(i6 p1_0), (i6 p1_1), (.slice p1_2.a p1_2.l p1_2.c)], 3, 29, true, true⟩) ok rfl rfl rfl (Ac.box rfl rfl) rfl rfl fun b3 ok => ?_; refine R.var (blk := .row ⟨[(i6 0), (i6 0), (i6 0), (.string ⟨#[]⟩)], 4, 61, true, true⟩) ok rfl rfl rfl (Ac.alloc rfl T61) rfl rfl fun b4 ok => ?_; refine Xa rfl rfl rfl rfl fun _ => ?_; refine R.nil (EvC.seq (EvC.join (σ := Bool) (fun s => (Ep (Ep (Ep (Ep E0 29 (.bool s)) 4 (.pointer (some ⟨b4, 0, none⟩))) 3 (.pointer (some ⟨b3, 0, none⟩))) 2 (.pointer (some ⟨b2, 0, none⟩)))) (fun s => [(b4, .row ⟨[(i6 0), (i6 0), (i6 0), (.string ⟨#[]⟩)], 4, 61, true, true⟩), (b3, .row ⟨[(i6 p1_0), (i6 p1_1), (.slice p1_2.a p1_2.l p1_2.c)], 3, 29, true, true⟩), (b2, .row ⟨[(.slice p0_0.a p0_0.l p0_0.c), (.slice p0_1.a p0_1.l p0_1.c)], 2, 26, true, true⟩)]) (fun s h_1 => S66_j4 p0_0 p1_0 p1_1 p1_2 K s h_1) ?_ (fun Ih_1 hIh_1 => ?_)))
  · intro v29 h_1 ok hS; replace hS : S66_j4 p0_0 p1_0 p1_1 p1_2 K v29 h_1 := hS; unfold S66_j4 at hS
    by_cases e1 : v29 = true
    · rw [if_pos e1] at hS; refine EvC.condT rfl e1 (EvC.seq (Xr [.look 0, .eff 1 [], .look 2] (Xk rfl rfl (Lk.build (cs := [(i6 0), (i6 0), (i6 0), (.string ⟨#[]⟩)]) (pl := [(0, 1), (1, 1), (2, 1), (3, 1)]) rfl Tryz.underlying61 T61 (PlacesL.places (.cons T3 (.cons T3 (.cons T3 (.cons T9 PlacesL.nil))))) rfl rfl) fun _ => ?_))); refine R.effN rfl rfl rfl (Ef.storeLoc (i := 0) (vs := [(i6 0), (i6 0), (i6 0), (.string ⟨#[]⟩)]) (cs := [(i6 0), (i6 0), (i6 0), (.string ⟨#[]⟩)]) (l' := [(b4, .row ⟨[(i6 0), (i6 0), (i6 0), (.string ⟨#[]⟩)], 4, 61, true, true⟩), (b3, .row ⟨[(i6 p1_0), (i6 p1_1), (.slice p1_2.a p1_2.l p1_2.c)], 3, 29, true, true⟩), (b2, .row ⟨[(.slice p0_0.a p0_0.l p0_0.c), (.slice p0_1.a p0_1.l p0_1.c)], 2, 26, true, true⟩)]) ok rfl T61 rfl rfl rfl rfl rfl rfl rfl rfl rfl rfl fun ok => ⟨noChk, ?_⟩); refine Xa rfl rfl rfl rfl fun _ => ?_; refine R.nil (EvC.ret ?_); exact ⟨.inr rfl, _, _, (.cons (.cells rfl (fun w => Und.agg Tryz.underlying61 w) (fun w => T61.size_ w) (H.rdn_loc ok (i := 0) rfl rfl rfl)) (.cons (.tmp rfl) .nil)), ok.le, _, _, _, _, _, rfl, hS⟩
    · rw [if_neg e1] at hS; replace e1 := eq_false_of_ne_true e1; refine EvC.condF rfl e1 (EvC.skip (EvC.seq (EvC.seq (Xr [.look 0, .look 1, .look 2, .look 3] (Xk (v := (.pointer (some ⟨b3, 2, none⟩))) rfl rfl (Lk.fldAddr rfl Tryz.underlying29 rfl rfl T27 rfl rfl rfl) fun _ => ?_))))); refine Xk rfl rfl (Lk.load1 (v := (.slice p1_2.a p1_2.l p1_2.c)) rfl Tryz.underlying27 rfl rfl (H.rd_loc ok (i := 1) rfl rfl)) fun _ => ?_; refine Xk rfl rfl (Lk.len rfl Tryz.underlying27 rfl) fun _ => ?_; refine Xk rfl rfl (Lk.arith rfl rfl rfl rfl) fun _ => ?_; refine R.nil ?_
      by_cases e2 : (decide ((p1_2.l : Int) < 2)) = true
      · rw [if_pos e2] at hS; refine EvC.condT rfl e2 (EvC.seq (Xr [.look 0, .eff 1 [], .look 2] (Xk rfl rfl (Lk.build (cs := [(i6 0), (i6 0), (i6 0), (.string ⟨#[]⟩)]) (pl := [(0, 1), (1, 1), (2, 1), (3, 1)]) rfl Tryz.underlying61 T61 (PlacesL.places (.cons T3 (.cons T3 (.cons T3 (.cons T9 PlacesL.nil))))) rfl rfl) fun _ => ?_))); refine R.effN rfl rfl rfl (Ef.storeLoc (i := 0) (vs := [(i6 0), (i6 0), (i6 0), (.string ⟨#[]⟩)]) (cs := [(i6 0), (i6 0), (i6 0), (.string ⟨#[]⟩)]) (l' := [(b4, .row ⟨[(i6 0), (i6 0), (i6 0), (.string ⟨#[]⟩)], 4, 61, true, true⟩), (b3, .row ⟨[(i6 p1_0), (i6 p1_1), (.slice p1_2.a p1_2.l p1_2.c)], 3, 29, true, true⟩), (b2, .row ⟨[(.slice p0_0.a p0_0.l p0_0.c), (.slice p0_1.a p0_1.l p0_1.c)], 2, 26, true, true⟩)]) ok rfl T61 rfl rfl rfl rfl rfl rfl rfl rfl rfl rfl fun ok => ⟨noChk, ?_⟩); refine Xa rfl rfl rfl rfl fun _ => ?_; refine R.nil (EvC.ret ?_); exact ⟨.inr rfl, _, _, (.cons (.cells rfl (fun w => Und.agg Tryz.underlying61 w) (fun w => T61.size_ w) (H.rdn_loc ok (i := 0) rfl rfl rfl)) (.cons (.tmp rfl) .nil)), ok.le, _, _, _, _, _, rfl, hS⟩
      · rw [if_neg e2] at hS; replace e2 := eq_false_of_ne_true e2; refine EvC.condF rfl e2 (EvC.skip (EvC.join (σ := Int × Int × Int × ByteArray) (fun s => (Ep (Ep (Ep E0 4 (.pointer (some ⟨b4, 0, none⟩))) 3 (.pointer (some ⟨b3, 0, none⟩))) 2 (.pointer (some ⟨b2, 0, none⟩)))) (fun s => [(b4, .row ⟨[(i6 s.1), (i6 s.2.1), (i6 s.2.2.1), (.string s.2.2.2)], 4, 61, true, true⟩), (b3, .row ⟨[(i6 p1_0), (i6 p1_1), (.slice p1_2.a p1_2.l p1_2.c)], 3, 29, true, true⟩), (b2, .row ⟨[(.slice p0_0.a p0_0.l p0_0.c), (.slice p0_1.a p0_1.l p0_1.c)], 2, 26, true, true⟩)]) (fun s h_2 => S66_j2 p0_0 p1_0 p1_1 p1_2 K s.1 s.2.1 s.2.2.1 s.2.2.2 h_2) ?_ (fun Ih_2 hIh_2 => ?_)))
        · rintro ⟨c4_0, c4_1, c4_2, c4_3⟩ h_2 ok hS; replace hS : S66_j2 p0_0 p1_0 p1_1 p1_2 K c4_0 c4_1 c4_2 c4_3 h_2 := hS; unfold S66_j2 at hS; refine EvC.seq (Xr [.look 0, .eff 1 [], .look 2, .look 3, .look 4, .look 5, .alc 6, .eff 7 [], .look 8, .look 9] (Xk rfl rfl (Lk.loadN (vs := [(i6 p1_0), (i6 p1_1), (.slice p1_2.a p1_2.l p1_2.c)]) rfl Tryz.underlying29 rfl T29 rfl (H.rdn_loc ok (i := 1) rfl rfl rfl)) fun _ => ?_)); refine R.eff rfl rfl rfl (Eff.loc ok (Ef.call rfl CB111 rfl ((f111_ok hS).mono ?_))); rintro _ h_3 ⟨v49_0_0, v49_0_1, v49_0_2, v49_0_3, v49_1, v49_2, rfl, hS⟩; refine fun ok => ⟨noChk, ?_⟩; refine Xm rfl rfl rfl rfl fun _ => ?_; refine Xk rfl rfl (Lk.extract rfl rfl rfl) fun _ => ?_; refine Xk rfl rfl (Lk.extract rfl rfl rfl) fun _ => ?_; refine Xk rfl rfl (Lk.extract rfl rfl rfl) fun _ => ?_; refine R.var (blk := .row ⟨[(i6 0), (i6 0), (i6 0), (.string ⟨#[]⟩)], 4, 61, true, true⟩) ok rfl rfl rfl (Ac.alloc rfl T61) rfl rfl fun b8 ok => ?_; refine R.effN rfl rfl rfl (Ef.storeLoc (i := 0) (vs := [(i6 v49_0_0), (i6 v49_0_1), (i6 v49_0_2), (.string v49_0_3)]) (cs := [(i6 v49_0_0), (i6 v49_0_1), (i6 v49_0_2), (.string v49_0_3)]) (l' := [(b8, .row ⟨[(i6 v49_0_0), (i6 v49_0_1), (i6 v49_0_2), (.string v49_0_3)], 4, 61, true, true⟩), (b4, .row ⟨[(i6 c4_0), (i6 c4_1), (i6 c4_2), (.string c4_3)], 4, 61, true, true⟩), (b3, .row ⟨[(i6 p1_0), (i6 p1_1), (.slice p1_2.a p1_2.l p1_2.c)], 3, 29, true, true⟩), (b2, .row ⟨[(.slice p0_0.a p0_0.l p0_0.c), (.slice p0_1.a p0_1.l p0_1.c)], 2, 26, true, true⟩)]) ok rfl T61 rfl rfl rfl rfl rfl rfl rfl rfl rfl rfl fun ok => ⟨noChk, ?_⟩); refine Xa rfl rfl rfl rfl fun _ => ?_; refine Xa rfl rfl rfl rfl fun _ => ?_; refine R.nil (EvC.seq (EvC.seq (Xr [.look 0, .look 1] (Xm rfl rfl rfl rfl fun _ => Xk rfl rfl (Lk.arith rfl rfl rfl rfl) fun _ => R.nil ?_))))
          by_cases e3 : (v49_2 != 0) = true
          · rw [if_pos e3] at hS; refine EvC.condT rfl e3 (EvC.seq (Xr [.look 0, .look 1, .eff 2 [], .look 3] (Xk rfl rfl (Lk.build (cs := [(i6 0), (i6 0), (i6 0), (.string ⟨#[]⟩)]) (pl := [(0, 1), (1, 1), (2, 1), (3, 1)]) rfl Tryz.underlying61 T61 (PlacesL.places (.cons T3 (.cons T3 (.cons T3 (.cons T9 PlacesL.nil))))) rfl rfl) fun _ => ?_))); refine Xm rfl rfl rfl rfl fun _ => ?_; refine R.effN rfl rfl rfl (Ef.storeLoc (i := 1) (vs := [(i6 0), (i6 0), (i6 0), (.string ⟨#[]⟩)]) (cs := [(i6 0), (i6 0), (i6 0), (.string ⟨#[]⟩)]) (l' := [(b8, .row ⟨[(i6 v49_0_0), (i6 v49_0_1), (i6 v49_0_2), (.string v49_0_3)], 4, 61, true, true⟩), (b4, .row ⟨[(i6 0), (i6 0), (i6 0), (.string ⟨#[]⟩)], 4, 61, true, true⟩), (b3, .row ⟨[(i6 p1_0), (i6 p1_1), (.slice p1_2.a p1_2.l p1_2.c)], 3, 29, true, true⟩), (b2, .row ⟨[(.slice p0_0.a p0_0.l p0_0.c), (.slice p0_1.a p0_1.l p0_1.c)], 2, 26, true, true⟩)]) ok rfl T61 rfl rfl rfl rfl rfl rfl rfl rfl rfl rfl fun ok => ⟨noChk, ?_⟩); refine Xa rfl rfl rfl rfl fun _ => ?_; refine R.nil (EvC.ret ?_); exact ⟨.inr rfl, _, _, (.cons (.cells rfl (fun w => Und.agg Tryz.underlying61 w) (fun w => T61.size_ w) (H.rdn_loc ok (i := 1) rfl rfl rfl)) (.cons (.tmp rfl) .nil)), ok.le, _, _, _, _, _, rfl, hS⟩
          · rw [if_neg e3] at hS; replace e3 := eq_false_of_ne_true e3; refine EvC.condF rfl e3 (EvC.skip (EvC.seq (EvC.draw [0, 1, 3, 7, 0, 16, 0, 64, 192, 448, 1008, 2032, 0, 0, 12303, 32767] [Item.look 0, Item.look 1, Item.look 2, Item.look 3, Item.look 4, Item.look 5, Item.look 6, Item.look 7, Item.look 8, Item.look 9, Item.look 10, Item.look 11, Item.alc 12, Item.alc 13, Item.eff 14 [4, 5, 6, 7, 8, 9, 10, 11], Item.eff 15 []] MO (by kernel_rfl) ?_))); refine R.lookL (v := (.pointer (some ⟨b3, 2, none⟩))) rfl rfl rfl (Lk.fldAddr rfl Tryz.underlying29 rfl rfl T27 rfl rfl rfl) ?_; refine R.lookL rfl rfl rfl (Lk.load1 (v := (.slice p1_2.a p1_2.l p1_2.c)) rfl Tryz.underlying27 rfl rfl (H.rd_loc ok (i := 2) rfl rfl)) ?_
            obtain ⟨a59, e4, e5, e6, hS⟩ := hS
            refine R.lookL rfl rfl rfl (Lk.ixAddr rfl Tryz.underlying27 T77 rfl e4 rfl e5 e6) ?_
            obtain ⟨v60_0, v60_1, e7, hS⟩ := hS
            refine R.lookL rfl rfl rfl (Look.loc ok (Lk.loadN rfl Tryz.underlying77 rfl T77 rfl e7)) ?_; refine R.lookL (v := (.pointer (some ⟨b3, 2, none⟩))) rfl rfl rfl (Lk.fldAddr rfl Tryz.underlying29 rfl rfl T27 rfl rfl rfl) ?_; refine R.lookL rfl rfl rfl (Lk.load1 (v := (.slice p1_2.a p1_2.l p1_2.c)) rfl Tryz.underlying27 rfl rfl (H.rd_loc ok (i := 2) rfl rfl)) ?_; refine R.lookL (v := (.pointer (some ⟨b3, 2, none⟩))) rfl rfl rfl (Lk.fldAddr rfl Tryz.underlying29 rfl rfl T27 rfl rfl rfl) ?_; refine R.lookL rfl rfl rfl (Lk.load1 (v := (.slice p1_2.a p1_2.l p1_2.c)) rfl Tryz.underlying27 rfl rfl (H.rd_loc ok (i := 2) rfl rfl)) ?_; refine R.lookL rfl rfl rfl (Lk.len rfl Tryz.underlying27 rfl) ?_; refine R.lookL rfl rfl rfl (Lk.arith rfl rfl rfl rfl) ?_
            obtain ⟨a67, e8, e9, e10, hS⟩ := hS
            refine R.lookL rfl rfl rfl (Lk.ixAddr rfl Tryz.underlying27 T77 rfl e8 rfl e9 e10) ?_
            obtain ⟨v68_0, v68_1, e11, hS⟩ := hS
            refine R.lookL rfl rfl rfl (Look.loc ok (Lk.loadN rfl Tryz.underlying77 rfl T77 rfl e11)) ?_; refine R.var (blk := .row ⟨[(i6 0), (i6 0)], 2, 77, true, true⟩) ok rfl rfl rfl (Ac.alloc rfl T77) rfl rfl fun b11 ok => ?_; refine R.var (blk := .row ⟨[(i6 0), (i6 0)], 2, 77, true, true⟩) ok rfl rfl rfl (Ac.alloc rfl T77) rfl rfl fun b12 ok => ?_
            obtain ⟨e12, hS⟩ := hS
            refine R.effN rfl rfl rfl (Ef.storeLoc (i := 1) (vs := [(i6 v60_0), (i6 v60_1)]) (cs := [(i6 v60_0), (i6 v60_1)]) (l' := [(b12, .row ⟨[(i6 0), (i6 0)], 2, 77, true, true⟩), (b11, .row ⟨[(i6 v60_0), (i6 v60_1)], 2, 77, true, true⟩), (b8, .row ⟨[(i6 v49_0_0), (i6 v49_0_1), (i6 v49_0_2), (.string v49_0_3)], 4, 61, true, true⟩), (b4, .row ⟨[(i6 c4_0), (i6 c4_1), (i6 c4_2), (.string c4_3)], 4, 61, true, true⟩), (b3, .row ⟨[(i6 p1_0), (i6 p1_1), (.slice p1_2.a p1_2.l p1_2.c)], 3, 29, true, true⟩), (b2, .row ⟨[(.slice p0_0.a p0_0.l p0_0.c), (.slice p0_1.a p0_1.l p0_1.c)], 2, 26, true, true⟩)]) ok rfl T77 rfl rfl rfl rfl rfl rfl rfl rfl rfl rfl fun ok => ⟨(List.forall_mem_cons.2 ⟨(XP (XP (XP (XP (XP (XP (XP (Log.at_ (LookG.of rfl (Lk.fldAddr rfl Tryz.underlying29 rfl rfl T27 rfl rfl rfl)))))))))), (List.forall_mem_cons.2 ⟨(XP (XP (XP (XP (XP (XP (Log.at_ (LookG.of rfl (Lk.load1 (v := (.slice p1_2.a p1_2.l p1_2.c)) rfl Tryz.underlying27 rfl rfl (H.rd_loc ok (i := 4) rfl rfl)))))))))), (List.forall_mem_cons.2 ⟨(XP (XP (XP (XP (XP (Log.at_ (LookG.of rfl (Lk.fldAddr rfl Tryz.underlying29 rfl rfl T27 rfl rfl rfl)))))))), (List.forall_mem_cons.2 ⟨(XP (XP (XP (XP (Log.at_ (LookG.of rfl (Lk.load1 (v := (.slice p1_2.a p1_2.l p1_2.c)) rfl Tryz.underlying27 rfl rfl (H.rd_loc ok (i := 4) rfl rfl)))))))), (List.forall_mem_cons.2 ⟨(XP (XP (XP (Log.at_ (LookG.of rfl (Lk.len rfl Tryz.underlying27 rfl)))))), (List.forall_mem_cons.2 ⟨(XP (XP (Log.at_ (LookG.of rfl (Lk.arith rfl rfl rfl rfl))))), (List.forall_mem_cons.2 ⟨(XP (Log.at_ (LookG.of rfl (Lk.ixAddr rfl Tryz.underlying27 T77 rfl e8 rfl e9 e10)))), (List.forall_mem_cons.2 ⟨(Log.at_ (LookG.of rfl (Look.loc ok (Lk.loadN rfl Tryz.underlying77 rfl T77 rfl e12)))), noChk⟩)⟩)⟩)⟩)⟩)⟩)⟩)⟩), ?_⟩); refine R.effN rfl rfl rfl (Ef.storeLoc (i := 0) (vs := [(i6 v68_0), (i6 v68_1)]) (cs := [(i6 v68_0), (i6 v68_1)]) (l' := [(b12, .row ⟨[(i6 v68_0), (i6 v68_1)], 2, 77, true, true⟩), (b11, .row ⟨[(i6 v60_0), (i6 v60_1)], 2, 77, true, true⟩), (b8, .row ⟨[(i6 v49_0_0), (i6 v49_0_1), (i6 v49_0_2), (.string v49_0_3)], 4, 61, true, true⟩), (b4, .row ⟨[(i6 c4_0), (i6 c4_1), (i6 c4_2), (.string c4_3)], 4, 61, true, true⟩), (b3, .row ⟨[(i6 p1_0), (i6 p1_1), (.slice p1_2.a p1_2.l p1_2.c)], 3, 29, true, true⟩), (b2, .row ⟨[(.slice p0_0.a p0_0.l p0_0.c), (.slice p0_1.a p0_1.l p0_1.c)], 2, 26, true, true⟩)]) ok rfl T77 rfl rfl rfl rfl rfl rfl rfl rfl rfl rfl fun ok => ⟨noChk, ?_⟩); refine R.nil (EvC.seq (EvC.join (σ := Bool) (fun s => (Ep (Ep (Ep E0 92 (.bool s)) 8 (.pointer (some ⟨b8, 0, none⟩))) 4 (.pointer (some ⟨b4, 0, none⟩)))) (fun s => [(b8, .row ⟨[(i6 v49_0_0), (i6 v49_0_1), (i6 v49_0_2), (.string v49_0_3)], 4, 61, true, true⟩), (b4, .row ⟨[(i6 c4_0), (i6 c4_1), (i6 c4_2), (.string c4_3)], 4, 61, true, true⟩)]) (fun s h_4 => S66_j1 K v49_0_0 v49_0_1 v49_0_2 v49_0_3 s h_4) ?_ (fun Ih_4 hIh_4 => ?_)))
            · intro v92 h_4 ok hS; replace hS : S66_j1 K v49_0_0 v49_0_1 v49_0_2 v49_0_3 v92 h_4 := hS; unfold S66_j1 at hS
              by_cases e13 : v92 = true
              · rw [if_pos e13] at hS; refine EvC.condT rfl e13 (EvC.seq (Xr [.look 0, .eff 1 [], .look 2] (Xk rfl rfl (Lk.build (cs := [(i6 0), (i6 0), (i6 0), (.string ⟨#[]⟩)]) (pl := [(0, 1), (1, 1), (2, 1), (3, 1)]) rfl Tryz.underlying61 T61 (PlacesL.places (.cons T3 (.cons T3 (.cons T3 (.cons T9 PlacesL.nil))))) rfl rfl) fun _ => ?_))); refine R.effN rfl rfl rfl (Ef.storeLoc (i := 1) (vs := [(i6 0), (i6 0), (i6 0), (.string ⟨#[]⟩)]) (cs := [(i6 0), (i6 0), (i6 0), (.string ⟨#[]⟩)]) (l' := [(b8, .row ⟨[(i6 v49_0_0), (i6 v49_0_1), (i6 v49_0_2), (.string v49_0_3)], 4, 61, true, true⟩), (b4, .row ⟨[(i6 0), (i6 0), (i6 0), (.string ⟨#[]⟩)], 4, 61, true, true⟩)]) ok rfl T61 rfl rfl rfl rfl rfl rfl rfl rfl rfl rfl fun ok => ⟨noChk, ?_⟩); refine Xa rfl rfl rfl rfl fun _ => ?_; refine R.nil (EvC.ret ?_); exact ⟨.inr rfl, _, _, (.cons (.cells rfl (fun w => Und.agg Tryz.underlying61 w) (fun w => T61.size_ w) (H.rdn_loc ok (i := 1) rfl rfl rfl)) (.cons (.tmp rfl) .nil)), ok.le, _, _, _, _, _, rfl, hS⟩
              · rw [if_neg e13] at hS; replace e13 := eq_false_of_ne_true e13; refine EvC.condF rfl e13 (EvC.skip (EvC.seq (Xr [.look 0, .eff 1 [], .look 2] (Xk rfl rfl (Lk.loadN (vs := [(i6 v49_0_0), (i6 v49_0_1), (i6 v49_0_2), (.string v49_0_3)]) rfl Tryz.underlying61 rfl T61 rfl (H.rdn_loc ok (i := 0) rfl rfl rfl)) fun _ => ?_)))); refine R.effN rfl rfl rfl (Ef.storeLoc (i := 1) (vs := [(i6 v49_0_0), (i6 v49_0_1), (i6 v49_0_2), (.string v49_0_3)]) (cs := [(i6 v49_0_0), (i6 v49_0_1), (i6 v49_0_2), (.string v49_0_3)]) (l' := [(b8, .row ⟨[(i6 v49_0_0), (i6 v49_0_1), (i6 v49_0_2), (.string v49_0_3)], 4, 61, true, true⟩), (b4, .row ⟨[(i6 v49_0_0), (i6 v49_0_1), (i6 v49_0_2), (.string v49_0_3)], 4, 61, true, true⟩)]) ok rfl T61 rfl rfl rfl rfl rfl rfl rfl rfl rfl rfl fun ok => ⟨noChk, ?_⟩); refine Xa rfl rfl rfl rfl fun _ => ?_; refine R.nil (EvC.ret ?_); exact ⟨.inr rfl, _, _, (.cons (.cells rfl (fun w => Und.agg Tryz.underlying61 w) (fun w => T61.size_ w) (H.rdn_loc ok (i := 1) rfl rfl rfl)) (.cons (.tmp rfl) .nil)), ok.le, _, _, _, _, _, rfl, hS⟩
            · refine EvC.draw [0, 1, 0, 4, 15, 31, 0, 64, 0, 511, 1023, 2047, 4095, 8191, 4095, 20479, 65535, 131071, 4095, 266239, 4095, 2097151, 4194303, 8388607] [Item.look 0, Item.look 1, Item.look 2, Item.look 3, Item.look 4, Item.look 5, Item.look 6, Item.look 7, Item.look 8, Item.eff 9 [], Item.look 10, Item.look 11, Item.look 12, Item.look 13, Item.look 14, Item.look 15, Item.look 16, Item.look 17, Item.look 18, Item.look 20, Item.eff 19 [12, 13, 14, 15, 16, 17, 20], Item.eff 21 [], Item.look 22, Item.look 23] MO (by kernel_rfl) ?_; refine R.lookL (v := (.pointer (some ⟨b2, 0, none⟩))) rfl rfl rfl (Lk.fldAddr rfl Tryz.underlying26 rfl rfl T23 rfl rfl rfl) ?_; refine R.lookL rfl rfl rfl (Lk.load1 (v := (.slice p0_0.a p0_0.l p0_0.c)) rfl Tryz.underlying23 rfl rfl (H.rd_loc ok (i := 5) rfl rfl)) ?_; refine R.lookL (v := (.pointer (some ⟨b3, 0, none⟩))) rfl rfl rfl (Lk.fldAddr rfl Tryz.underlying29 rfl rfl T3 rfl rfl rfl) ?_; refine R.lookL rfl rfl rfl (Lk.load1 (v := (i6 p1_0)) rfl Tryz.underlying3 rfl rfl (H.rd_loc ok (i := 4) rfl rfl)) ?_
              obtain ⟨a73, e14, e15, e16, hS⟩ := hS
              refine R.lookL rfl rfl rfl (Lk.ixAddr rfl Tryz.underlying23 T79 rfl e14 rfl e15 e16) ?_
              obtain ⟨v74_0, v74_1, v74_2, v74_3, e17, hS⟩ := hS
              refine R.lookL rfl rfl rfl (Look.loc ok (Lk.loadN rfl Tryz.underlying79 rfl T79 rfl e17)) ?_; refine R.lookL (v := (.pointer (some ⟨b8, 2, none⟩))) rfl rfl rfl (Lk.fldAddr rfl Tryz.underlying61 rfl rfl T3 rfl rfl rfl) ?_; refine R.lookL rfl rfl rfl (Lk.load1 (v := (i6 v49_0_2)) rfl Tryz.underlying3 rfl rfl (H.rd_loc ok (i := 2) rfl rfl)) ?_; refine R.lookL rfl rfl rfl (Lk.loadN (vs := [(i6 v60_0), (i6 v60_1)]) rfl Tryz.underlying77 rfl T77 rfl (H.rdn_loc ok (i := 1) rfl rfl rfl)) ?_; refine R.eff rfl rfl rfl (Eff.loc ok (Ef.call rfl CB112 rfl ((f112_ok hS).mono ?_))); rintro _ h_5 ⟨v78, rfl, hS⟩; refine fun ok => ⟨noChk, ?_⟩; refine R.lookL rfl rfl rfl (Lk.not rfl rfl) ?_; refine R.lookL rfl rfl rfl (Lk.move rfl rfl) ?_
              by_cases e18 : (!v78) = true
              · rw [if_pos e18] at hS; refine R.lookFL rfl rfl rfl rfl e18 rfl ?_; refine R.lookFL rfl rfl rfl rfl e18 rfl ?_; refine R.lookFL rfl rfl rfl rfl e18 rfl ?_; refine R.lookFL rfl rfl rfl rfl e18 rfl ?_; refine R.lookFL rfl rfl rfl rfl e18 rfl ?_; refine R.lookFL rfl rfl rfl rfl e18 rfl ?_; refine R.lookFL rfl rfl rfl rfl e18 rfl ?_; refine R.lookFL rfl rfl rfl rfl e18 rfl ?_; refine R.effF rfl rfl rfl rfl e18 rfl ?_; refine R.effF rfl rfl rfl rfl e18 rfl ?_; refine R.lookFL rfl rfl rfl rfl e18 rfl ?_; refine R.lookL rfl rfl rfl (Lk.pick rfl rfl (fun _ => rfl) (fun e => by rw [e18] at e; cases e)) ?_; refine R.nil ?_; exact hIh_4 true _ _ _ (lq rfl (lq rfl (lq rfl (lz _)))) (ok.sub (.cons _ (.cons _ (.cons_cons _ (.cons_cons _ (.cons _ (.cons _ sl0))))))) (H.add_sub ok (.cons _ (.cons _ (.cons_cons _ (.cons_cons _ (.cons _ (.cons _ sl0))))))) hS
              · rw [if_neg e18] at hS; replace e18 := eq_false_of_ne_true e18; refine R.lookTL (v := (.pointer (some ⟨b2, 0, none⟩))) rfl rfl rfl rfl e18 rfl (Lk.fldAddr rfl Tryz.underlying26 rfl rfl T23 rfl rfl rfl) ?_; refine R.lookTL rfl rfl rfl rfl e18 rfl (Lk.load1 (v := (.slice p0_0.a p0_0.l p0_0.c)) rfl Tryz.underlying23 rfl rfl (H.rd_loc ok (i := 5) rfl rfl)) ?_; refine R.lookTL (v := (.pointer (some ⟨b3, 1, none⟩))) rfl rfl rfl rfl e18 rfl (Lk.fldAddr rfl Tryz.underlying29 rfl rfl T3 rfl rfl rfl) ?_; refine R.lookTL rfl rfl rfl rfl e18 rfl (Lk.load1 (v := (i6 p1_1)) rfl Tryz.underlying3 rfl rfl (H.rd_loc ok (i := 4) rfl rfl)) ?_
                obtain ⟨a85, e19, e20, e21, hS⟩ := hS
                refine R.lookTL rfl rfl rfl rfl e18 rfl (Lk.ixAddr rfl Tryz.underlying23 T79 rfl e19 rfl e20 e21) ?_
                obtain ⟨v86_0, v86_1, v86_2, v86_3, e22, hS⟩ := hS
                refine R.lookTL rfl rfl rfl rfl e18 rfl (Look.loc ok (Lk.loadN rfl Tryz.underlying79 rfl T79 rfl e22)) ?_; refine R.lookTL rfl rfl rfl rfl e18 rfl (Lk.move rfl rfl) ?_; refine R.lookTL rfl rfl rfl rfl e18 rfl (Lk.loadN (vs := [(i6 v68_0), (i6 v68_1)]) rfl Tryz.underlying77 rfl T77 rfl (H.rdn_loc ok (i := 0) rfl rfl rfl)) ?_; refine R.effT rfl rfl rfl rfl e18 rfl (Eff.loc ok (Ef.call rfl CB104 rfl ((f104_ok hS).mono ?_))); rintro _ h_6 ⟨v88, rfl, hS⟩
                obtain ⟨e23, hS⟩ := hS
                refine fun ok => ⟨(List.forall_mem_cons.2 ⟨(XP (XP (XP (XP (XP (XP (XP (Log.at_ (LookG.ofT rfl rfl rfl e18 (Lk.fldAddr rfl Tryz.underlying26 rfl rfl T23 rfl rfl rfl)))))))))), (List.forall_mem_cons.2 ⟨(XP (XP (XP (XP (XP (XP (Log.at_ (LookG.ofT rfl rfl rfl e18 (Lk.load1 (v := (.slice p0_0.a p0_0.l p0_0.c)) rfl Tryz.underlying23 rfl rfl (H.rd_loc ok (i := 5) rfl rfl)))))))))), (List.forall_mem_cons.2 ⟨(XP (XP (XP (XP (XP (Log.at_ (LookG.ofT rfl rfl rfl e18 (Lk.fldAddr rfl Tryz.underlying29 rfl rfl T3 rfl rfl rfl)))))))), (List.forall_mem_cons.2 ⟨(XP (XP (XP (XP (Log.at_ (LookG.ofT rfl rfl rfl e18 (Lk.load1 (v := (i6 p1_1)) rfl Tryz.underlying3 rfl rfl (H.rd_loc ok (i := 4) rfl rfl)))))))), (List.forall_mem_cons.2 ⟨(XP (XP (XP (Log.at_ (LookG.ofT rfl rfl rfl e18 (Lk.ixAddr rfl Tryz.underlying23 T79 rfl e19 rfl e20 e21)))))), (List.forall_mem_cons.2 ⟨(XP (XP (Log.at_ (LookG.ofT rfl rfl rfl e18 (Look.loc ok (Lk.loadN rfl Tryz.underlying79 rfl T79 rfl e23)))))), (List.forall_mem_cons.2 ⟨(Log.at_ (LookG.ofT rfl rfl rfl e18 (Lk.loadN (vs := [(i6 v68_0), (i6 v68_1)]) rfl Tryz.underlying77 rfl T77 rfl (H.rdn_loc ok (i := 0) rfl rfl rfl)))), noChk⟩)⟩)⟩)⟩)⟩)⟩)⟩), ?_⟩; refine R.effT rfl rfl rfl rfl e18 rfl (Eff.loc ok (Ef.call rfl CB112 rfl ((f112_ok hS).mono ?_))); rintro _ h_7 ⟨v90, rfl, hS⟩; refine fun ok => ⟨noChk, ?_⟩; refine R.lookTL rfl rfl rfl rfl e18 rfl (Lk.not rfl rfl) ?_; refine R.lookL rfl rfl rfl (Lk.pick rfl rfl (fun e => by rw [e18] at e; cases e) (fun _ => rfl)) ?_; refine R.nil ?_; exact hIh_4 (!v90) _ _ _ (lq rfl (lq rfl (lq rfl (lz _)))) (ok.sub (.cons _ (.cons _ (.cons_cons _ (.cons_cons _ (.cons _ (.cons _ sl0))))))) (H.add_sub ok (.cons _ (.cons _ (.cons_cons _ (.cons_cons _ (.cons _ (.cons _ sl0))))))) hS
        · refine EvC.seq (Xr [.look 0, .look 1, .look 2, .look 3] (Xk (v := (.pointer (some ⟨b3, 2, none⟩))) rfl rfl (Lk.fldAddr rfl Tryz.underlying29 rfl rfl T27 rfl rfl rfl) fun _ => ?_)); refine Xk rfl rfl (Lk.load1 (v := (.slice p1_2.a p1_2.l p1_2.c)) rfl Tryz.underlying27 rfl rfl (H.rd_loc ok (i := 1) rfl rfl)) fun _ => ?_; refine Xk rfl rfl (Lk.len rfl Tryz.underlying27 rfl) fun _ => ?_; refine Xm rfl rfl rfl rfl fun _ => ?_; refine R.nil (EvC.block (EvC.loop (LoopC.lfp (σ := Int × Int × Int × Int × ByteArray) (fun s => (Ep (Ep (Ep (Ep (Ep (Ep E0 39 (i6 s.1)) 38 (i6 (p1_2.l : Int))) 37 (.slice p1_2.a p1_2.l p1_2.c)) 4 (.pointer (some ⟨b4, 0, none⟩))) 3 (.pointer (some ⟨b3, 0, none⟩))) 2 (.pointer (some ⟨b2, 0, none⟩)))) (fun s => [(b4, .row ⟨[(i6 s.2.1), (i6 s.2.2.1), (i6 s.2.2.2.1), (.string s.2.2.2.2)], 4, 61, true, true⟩), (b3, .row ⟨[(i6 p1_0), (i6 p1_1), (.slice p1_2.a p1_2.l p1_2.c)], 3, 29, true, true⟩), (b2, .row ⟨[(.slice p0_0.a p0_0.l p0_0.c), (.slice p0_1.a p0_1.l p0_1.c)], 2, 26, true, true⟩)]) (fun X hX => ?_) hS (ok.sub (.cons_cons _ (.cons_cons _ (.cons_cons _ sl0)))) (lq rfl (lq rfl (lq rfl (lq rfl (lq rfl (lq rfl (lz _))))))) (H.add_sub ok (.cons_cons _ (.cons_cons _ (.cons_cons _ sl0))))))); rintro ⟨v39, c4_0_1, c4_1_1, c4_2_1, c4_3_1⟩ h_8 hS ok; replace hS : S66_l3 p0_0 p1_0 p1_1 p1_2 K X v39 c4_0_1 c4_1_1 c4_2_1 c4_3_1 h_8 := hS; unfold S66_l3 at hS; refine EvC.seq (Xr [.look 0] (Xk rfl rfl (Lk.arith rfl rfl rfl rfl) fun _ => ?_)); refine R.nil (EvC.seq ?_)
          by_cases e24 : (decide (v39 < (p1_2.l : Int))) = true
          · rw [if_pos e24] at hS; refine EvC.condT rfl e24 (EvC.skip (EvC.seq (EvC.block (EvC.seq (Xr [.look 0, .look 1, .alc 2, .eff 3 []] ?_)))))
            obtain ⟨a41, e25, e26, e27, hS⟩ := hS
            refine Xk rfl rfl (Lk.ixAddr rfl Tryz.underlying27 T77 rfl e25 rfl e26 e27) fun _ => ?_
            obtain ⟨v42_0, v42_1, e28, hS⟩ := hS
            refine Xk rfl rfl (Look.loc ok (Lk.loadN rfl Tryz.underlying77 rfl T77 rfl e28)) fun _ => ?_; refine R.var (blk := .row ⟨[(i6 0), (i6 0)], 2, 77, true, true⟩) ok rfl rfl rfl (Ac.alloc rfl T77) rfl rfl fun b7 ok => ?_; refine R.effN rfl rfl rfl (Ef.storeLoc (i := 0) (vs := [(i6 v42_0), (i6 v42_1)]) (cs := [(i6 v42_0), (i6 v42_1)]) (l' := [(b7, .row ⟨[(i6 v42_0), (i6 v42_1)], 2, 77, true, true⟩), (b4, .row ⟨[(i6 c4_0_1), (i6 c4_1_1), (i6 c4_2_1), (.string c4_3_1)], 4, 61, true, true⟩), (b3, .row ⟨[(i6 p1_0), (i6 p1_1), (.slice p1_2.a p1_2.l p1_2.c)], 3, 29, true, true⟩), (b2, .row ⟨[(.slice p0_0.a p0_0.l p0_0.c), (.slice p0_1.a p0_1.l p0_1.c)], 2, 26, true, true⟩)]) ok rfl T77 rfl rfl rfl rfl rfl rfl rfl rfl rfl rfl fun ok => ⟨noChk, ?_⟩); refine R.nil (EvC.seq (Xr [.look 0, .eff 1 []] (Xk rfl rfl (Lk.loadN (vs := [(i6 v42_0), (i6 v42_1)]) rfl Tryz.underlying77 rfl T77 rfl (H.rdn_loc ok (i := 0) rfl rfl rfl)) fun _ => R.eff rfl rfl rfl (Eff.loc ok (Ef.call rfl CB110 rfl ((f110_ok hS).mono ?_)))))); rintro _ h_9 ⟨v44, rfl, hS⟩; refine fun ok => ⟨noChk, ?_⟩; refine R.nil ?_
            by_cases e29 : v44 = true
            · rw [if_pos e29] at hS; refine EvC.condT rfl e29 (EvC.seq (Xr [.look 0, .eff 1 [], .look 2] (Xk rfl rfl (Lk.build (cs := [(i6 0), (i6 0), (i6 0), (.string ⟨#[]⟩)]) (pl := [(0, 1), (1, 1), (2, 1), (3, 1)]) rfl Tryz.underlying61 T61 (PlacesL.places (.cons T3 (.cons T3 (.cons T3 (.cons T9 PlacesL.nil))))) rfl rfl) fun _ => ?_))); refine R.effN rfl rfl rfl (Ef.storeLoc (i := 1) (vs := [(i6 0), (i6 0), (i6 0), (.string ⟨#[]⟩)]) (cs := [(i6 0), (i6 0), (i6 0), (.string ⟨#[]⟩)]) (l' := [(b7, .row ⟨[(i6 v42_0), (i6 v42_1)], 2, 77, true, true⟩), (b4, .row ⟨[(i6 0), (i6 0), (i6 0), (.string ⟨#[]⟩)], 4, 61, true, true⟩), (b3, .row ⟨[(i6 p1_0), (i6 p1_1), (.slice p1_2.a p1_2.l p1_2.c)], 3, 29, true, true⟩), (b2, .row ⟨[(.slice p0_0.a p0_0.l p0_0.c), (.slice p0_1.a p0_1.l p0_1.c)], 2, 26, true, true⟩)]) ok rfl T61 rfl rfl rfl rfl rfl rfl rfl rfl rfl rfl fun ok => ⟨noChk, ?_⟩); refine Xa rfl rfl rfl rfl fun _ => ?_; refine R.nil (EvC.ret ?_); exact ⟨.inr rfl, _, _, (.cons (.cells rfl (fun w => Und.agg Tryz.underlying61 w) (fun w => T61.size_ w) (H.rdn_loc ok (i := 1) rfl rfl rfl)) (.cons (.tmp rfl) .nil)), ok.le, _, _, _, _, _, rfl, hS⟩
            · rw [if_neg e29] at hS; replace e29 := eq_false_of_ne_true e29; refine EvC.condF rfl e29 (EvC.skip (Xr [.look 0, .look 1] (Xk rfl rfl (Lk.arith rfl rfl rfl rfl) fun _ => ?_))); refine Xm rfl rfl rfl rfl fun _ => ?_; refine R.nil ?_; exact hX ((IntKind.wrap .i64 (v39 + 1)), c4_0_1, c4_1_1, c4_2_1, c4_3_1) _ _ _ hS (ok.sub (.cons _ (.cons_cons _ (.cons_cons _ (.cons_cons _ sl0))))) (lq rfl (lq rfl (lq rfl (lq rfl (lq rfl (lq rfl (lz _))))))) (H.add_sub ok (.cons _ (.cons_cons _ (.cons_cons _ (.cons_cons _ sl0)))))
          · rw [if_neg e24] at hS; replace e24 := eq_false_of_ne_true e24; refine EvC.condF rfl e24 (EvC.exit ?_); exact hIh_2 (c4_0_1, c4_1_1, c4_2_1, c4_3_1) _ _ _ (lq rfl (lq rfl (lq rfl (lz _)))) (ok.sub (.cons_cons _ (.cons_cons _ (.cons_cons _ sl0)))) (H.add_sub ok (.cons_cons _ (.cons_cons _ (.cons_cons _ sl0)))) hS
  · refine Xr [.look 0, .look 1, .look 2, .look 3, .look 4, .look 5, .look 6, .look 7, .look 8, .look 9, .look 10, .look 11, .look 12, .look 13, .look 14, .look 15, .look 16] (Xk (v := (.pointer (some ⟨b3, 0, none⟩))) rfl rfl (Lk.fldAddr rfl Tryz.underlying29 rfl rfl T3 rfl rfl rfl) fun _ => ?_); refine Xk rfl rfl (Lk.load1 (v := (i6 p1_0)) rfl Tryz.underlying3 rfl rfl (H.rd_loc ok (i := 1) rfl rfl)) fun _ => ?_; refine Xk (v := (.pointer (some ⟨b3, 1, none⟩))) rfl rfl (Lk.fldAddr rfl Tryz.underlying29 rfl rfl T3 rfl rfl rfl) fun _ => ?_; refine Xk rfl rfl (Lk.load1 (v := (i6 p1_1)) rfl Tryz.underlying3 rfl rfl (H.rd_loc ok (i := 1) rfl rfl)) fun _ => ?_; refine Xk rfl rfl (Lk.min2 rfl rfl rfl) fun _ => ?_; refine Xk rfl rfl (Lk.arith rfl rfl rfl rfl) fun _ => ?_; refine Xm rfl rfl rfl rfl fun _ => ?_
    by_cases e30 : (decide ((if p1_1 < p1_0 then p1_1 else p1_0) < 0)) = true
    · refine R.lookF rfl rfl rfl rfl e30 rfl fun _ => R.lookF rfl rfl rfl rfl e30 rfl fun _ => R.lookF rfl rfl rfl rfl e30 rfl fun _ => R.lookF rfl rfl rfl rfl e30 rfl fun _ => R.lookF rfl rfl rfl rfl e30 rfl fun _ => R.lookF rfl rfl rfl rfl e30 rfl fun _ => R.lookF rfl rfl rfl rfl e30 rfl fun _ => R.lookF rfl rfl rfl rfl e30 rfl fun _ => R.lookF rfl rfl rfl rfl e30 rfl fun _ => Xk rfl rfl (Lk.pick rfl rfl (fun _ => rfl) (fun e => by rw [e30] at e; cases e)) fun _ => R.nil ?_; exact hIh_1 ((decide ((if p1_1 < p1_0 then p1_1 else p1_0) < 0)) || (decide ((if p1_1 > p1_0 then p1_1 else p1_0) ≥ (p0_0.l : Int)))) _ _ _ (lq rfl (lq rfl (lq rfl (lq (by rw [e30]; rfl) (lz _))))) (ok.sub (.cons_cons _ (.cons_cons _ (.cons_cons _ sl0)))) (H.add_sub ok (.cons_cons _ (.cons_cons _ (.cons_cons _ sl0)))) hS
    · replace e30 := eq_false_of_ne_true e30; refine R.lookT (v := (.pointer (some ⟨b3, 0, none⟩))) rfl rfl rfl rfl e30 rfl (Lk.fldAddr rfl Tryz.underlying29 rfl rfl T3 rfl rfl rfl) fun _ => R.lookT rfl rfl rfl rfl e30 rfl (Lk.load1 (v := (i6 p1_0)) rfl Tryz.underlying3 rfl rfl (H.rd_loc ok (i := 1) rfl rfl)) fun _ => R.lookT (v := (.pointer (some ⟨b3, 1, none⟩))) rfl rfl rfl rfl e30 rfl (Lk.fldAddr rfl Tryz.underlying29 rfl rfl T3 rfl rfl rfl) fun _ => R.lookT rfl rfl rfl rfl e30 rfl (Lk.load1 (v := (i6 p1_1)) rfl Tryz.underlying3 rfl rfl (H.rd_loc ok (i := 1) rfl rfl)) fun _ => R.lookT rfl rfl rfl rfl e30 rfl (Lk.max2 rfl rfl rfl) fun _ => R.lookT (v := (.pointer (some ⟨b2, 0, none⟩))) rfl rfl rfl rfl e30 rfl (Lk.fldAddr rfl Tryz.underlying26 rfl rfl T23 rfl rfl rfl) fun _ => R.lookT rfl rfl rfl rfl e30 rfl (Lk.load1 (v := (.slice p0_0.a p0_0.l p0_0.c)) rfl Tryz.underlying23 rfl rfl (H.rd_loc ok (i := 2) rfl rfl)) fun _ => R.lookT rfl rfl rfl rfl e30 rfl (Lk.len rfl Tryz.underlying23 rfl) fun _ => R.lookT rfl rfl rfl rfl e30 rfl (Lk.arith rfl rfl rfl rfl) fun _ => Xk rfl rfl (Lk.pick rfl rfl (fun e => by rw [e30] at e; cases e) (fun _ => rfl)) fun _ => R.nil ?_; exact hIh_1 ((decide ((if p1_1 < p1_0 then p1_1 else p1_0) < 0)) || (decide ((if p1_1 > p1_0 then p1_1 else p1_0) ≥ (p0_0.l : Int)))) _ _ _ (lq rfl (lq rfl (lq rfl (lq (by rw [e30]; rfl) (lz _))))) (ok.sub (.cons_cons _ (.cons_cons _ (.cons_cons _ sl0)))) (H.add_sub ok (.cons_cons _ (.cons_cons _ (.cons_cons _ sl0)))) hS

theorem f67_ok {p0_0 : Sl} {p0_1 : Sl} {p1_0 : Sl} {p1_1 : Sl} {h : H} {K : Sl → H → Prop} (hS : S67 p0_0 p0_1 p1_0 p1_1 h K) : ACall Tryz.prog 67 ([(.agg ([(.slice p0_0.a p0_0.l p0_0.c), (.slice p0_1.a p0_1.l p0_1.c)] : List Value).toArray), (.agg ([(.slice p1_0.a p1_0.l p1_0.c), (.slice p1_1.a p1_1.l p1_1.c)] : List Value).toArray)] : List Value).toArray h (fun r h' => ∃ r0 : Sl, r = tup [(.slice r0.a r0.l r0.c)] ∧ K r0 h') := by
  refine ACall.enter (fn := Tryz.f67) Tryz.func67 rfl (Nat.le_of_ble_eq_true rfl) ?_; unfold S67 at hS; have ok := Lok.nil h; refine EvC.seq (Xr [.alc 0, .alc 1, .look 2] (R.var (blk := .row ⟨[(.slice p0_0.a p0_0.l p0_0.c), (.slice p0_1.a p0_1.l p0_1.c)], 2, 26, true, true⟩) ok rfl rfl rfl (Ac.box rfl rfl) rfl rfl fun b2 ok => ?_)); refine R.var (blk := .row ⟨[(.slice p1_0.a p1_0.l p1_0.c), (.slice p1_1.a p1_1.l p1_1.c)], 2, 33, true, true⟩) ok rfl rfl rfl (Ac.box rfl rfl) rfl rfl fun b3 ok => ?_; refine Xa rfl rfl rfl rfl fun _ => ?_; refine R.nil (EvC.seq (Xr [.look 0, .look 1, .look 2, .alc 3, .look 4] (Xk (v := (.pointer (some ⟨b2, 0, none⟩))) rfl rfl (Lk.fldAddr rfl Tryz.underlying26 rfl rfl T23 rfl rfl rfl) fun _ => Xk rfl rfl (Lk.load1 (v := (.slice p0_0.a p0_0.l p0_0.c)) rfl Tryz.underlying23 rfl rfl (H.rd_loc ok (i := 1) rfl rfl)) fun _ => Xk rfl rfl (Lk.len rfl Tryz.underlying23 rfl) fun _ => ?_)))
  obtain ⟨e1, e2, e3, e4, hS⟩ := hS
  refine R.new (blk := (.row ⟨zeros (.agg #[(.slice none 0 0), (.slice none 0 0), (.slice none 0 0), (.slice none 0 0)]) (Int.toNat (p0_0.l : Int) * 4), (zeros (.agg #[(.slice none 0 0), (.slice none 0 0), (.slice none 0 0), (.slice none 0 0)]) (Int.toNat (p0_0.l : Int) * 4)).length, 128, true, true⟩)) ok rfl rfl rfl (Ac.makeSlice rfl Tryz.underlying126 T128 rfl rfl e1 e2 e3 e4) rfl rfl fun b17 e5 ok => ?_; replace hS := hS b17 _ e5 rfl; refine Xa rfl rfl rfl rfl fun _ => ?_; refine R.nil (EvC.join (σ := Unit) (fun s => (Ep E0 5 (.slice (some ⟨b17, 0, none⟩) (Int.toNat (p0_0.l : Int)) (Int.toNat (p0_0.l : Int))))) (fun s => []) (fun s h_2 => S67_j1 p0_0 K b17 h_2) ?_ (fun Ih_2 hIh_2 => ?_))
  · rintro ⟨⟩ h_2 ok hS; replace hS : S67_j1 p0_0 K b17 h_2 := hS; unfold S67_j1 at hS; refine EvC.seq (Xr [.look 0, .look 1] (Xm rfl rfl rfl rfl fun _ => ?_)); refine Xa rfl rfl rfl rfl fun _ => ?_; refine R.nil (EvC.ret ?_); exact ⟨.inr rfl, _, _, (.cons (.tmp rfl) .nil), ok.le, _, rfl, hS⟩
  · refine EvC.seq (Xr [.look 0, .look 1, .look 2, .look 3] (Xk (v := (.pointer (some ⟨b3, 1, none⟩))) rfl rfl (Lk.fldAddr rfl Tryz.underlying33 rfl rfl T31 rfl rfl rfl) fun _ => ?_)); refine Xk rfl rfl (Lk.load1 (v := (.slice p1_1.a p1_1.l p1_1.c)) rfl Tryz.underlying31 rfl rfl (H.rd_loc ok (i := 0) rfl rfl)) fun _ => ?_; refine Xk rfl rfl (Lk.len rfl Tryz.underlying31 rfl) fun _ => ?_; refine Xm rfl rfl rfl rfl fun _ => ?_; refine R.nil (EvC.block (EvC.loop (LoopC.lfp (σ := Int) (fun s => (Ep (Ep (Ep (Ep (Ep E0 21 (i6 s)) 20 (i6 (p1_1.l : Int))) 19 (.slice p1_1.a p1_1.l p1_1.c)) 5 (.slice (some ⟨b17, 0, none⟩) (Int.toNat (p0_0.l : Int)) (Int.toNat (p0_0.l : Int)))) 2 (.pointer (some ⟨b2, 0, none⟩)))) (fun s => [(b2, .row ⟨[(.slice p0_0.a p0_0.l p0_0.c), (.slice p0_1.a p0_1.l p0_1.c)], 2, 26, true, true⟩)]) (fun X hX => ?_) hS (ok.sub (.cons _ (.cons_cons _ sl0))) (lq rfl (lq rfl (lq rfl (lq rfl (lq rfl (lz _)))))) (H.add_sub ok (.cons _ (.cons_cons _ sl0)))))); intro v21 h_3 hS ok; replace hS : S67_l4 p0_0 p0_1 p1_1 K b17 X v21 h_3 := hS; unfold S67_l4 at hS; refine EvC.seq (Xr [.look 0] (Xk rfl rfl (Lk.arith rfl rfl rfl rfl) fun _ => ?_)); refine R.nil (EvC.seq ?_)
    by_cases e6 : (decide (v21 < (p1_1.l : Int))) = true
    · rw [if_pos e6] at hS; refine EvC.condT rfl e6 (EvC.skip (EvC.seq (EvC.block (EvC.seq (Xr [.look 0, .look 1, .look 2, .alc 3, .look 4, .eff 5 []] (Xm rfl rfl rfl rfl fun _ => ?_))))))
      obtain ⟨a24, e7, e8, e9, hS⟩ := hS
      refine Xk rfl rfl (Lk.ixAddr rfl Tryz.underlying31 T61 rfl e7 rfl e8 e9) fun _ => ?_
      obtain ⟨v25_0, v25_1, v25_2, v25_3, e10, hS⟩ := hS
      refine Xk rfl rfl (Look.loc ok (Lk.loadN rfl Tryz.underlying61 rfl T61 rfl e10)) fun _ => ?_; refine R.var (blk := .row ⟨[(i6 0), (i6 0), (i6 0), (.string ⟨#[]⟩)], 4, 61, true, true⟩) ok rfl rfl rfl (Ac.alloc rfl T61) rfl rfl fun b7 ok => ?_; refine Xa rfl rfl rfl rfl fun _ => ?_; refine R.effN rfl rfl rfl (Ef.storeLoc (i := 0) (vs := [(i6 v25_0), (i6 v25_1), (i6 v25_2), (.string v25_3)]) (cs := [(i6 v25_0), (i6 v25_1), (i6 v25_2), (.string v25_3)]) (l' := [(b7, .row ⟨[(i6 v25_0), (i6 v25_1), (i6 v25_2), (.string v25_3)], 4, 61, true, true⟩), (b2, .row ⟨[(.slice p0_0.a p0_0.l p0_0.c), (.slice p0_1.a p0_1.l p0_1.c)], 2, 26, true, true⟩)]) ok rfl T61 rfl rfl rfl rfl rfl rfl rfl rfl rfl rfl fun ok => ⟨noChk, ?_⟩); refine R.nil (EvC.seq (Xr [.look 0, .look 1, .look 2, .look 3, .look 4, .alc 5, .eff 6 []] (Xk (v := (.pointer (some ⟨b2, 1, none⟩))) rfl rfl (Lk.fldAddr rfl Tryz.underlying26 rfl rfl T24 rfl rfl rfl) fun _ => Xk rfl rfl (Lk.load1 (v := (.slice p0_1.a p0_1.l p0_1.c)) rfl Tryz.underlying24 rfl rfl (H.rd_loc ok (i := 1) rfl rfl)) fun _ => Xm rfl rfl rfl rfl fun _ => ?_)))
      obtain ⟨a29, e11, e12, e13, hS⟩ := hS
      refine Xk rfl rfl (Lk.ixAddr rfl Tryz.underlying24 T29 rfl e11 rfl e12 e13) fun _ => ?_
      obtain ⟨v30_0, v30_1, v30_2, e14, hS⟩ := hS
      refine Xk rfl rfl (Look.loc ok (Lk.loadN rfl Tryz.underlying29 rfl T29 rfl e14)) fun _ => ?_; refine R.var (blk := .row ⟨[(i6 0), (i6 0), (.slice none 0 0)], 3, 29, true, true⟩) ok rfl rfl rfl (Ac.alloc rfl T29) rfl rfl fun b8 ok => ?_; refine R.effN rfl rfl rfl (Ef.storeLoc (i := 0) (vs := [(i6 v30_0), (i6 v30_1), (.slice v30_2.a v30_2.l v30_2.c)]) (cs := [(i6 v30_0), (i6 v30_1), (.slice v30_2.a v30_2.l v30_2.c)]) (l' := [(b8, .row ⟨[(i6 v30_0), (i6 v30_1), (.slice v30_2.a v30_2.l v30_2.c)], 3, 29, true, true⟩), (b7, .row ⟨[(i6 v25_0), (i6 v25_1), (i6 v25_2), (.string v25_3)], 4, 61, true, true⟩), (b2, .row ⟨[(.slice p0_0.a p0_0.l p0_0.c), (.slice p0_1.a p0_1.l p0_1.c)], 2, 26, true, true⟩)]) ok rfl T29 rfl rfl rfl rfl rfl rfl rfl rfl rfl rfl fun ok => ⟨noChk, ?_⟩); refine R.nil (EvC.seq (Xr [.look 0, .look 1, .look 2] (Xk (v := (.pointer (some ⟨b7, 2, none⟩))) rfl rfl (Lk.fldAddr rfl Tryz.underlying61 rfl rfl T3 rfl rfl rfl) fun _ => Xk rfl rfl (Lk.load1 (v := (i6 v25_2)) rfl Tryz.underlying3 rfl rfl (H.rd_loc ok (i := 1) rfl rfl)) fun _ => Xa rfl rfl rfl rfl fun _ => R.nil (EvC.join (σ := Int) (fun s => (Ep (Ep (Ep (Ep (Ep (Ep (Ep (Ep E0 21 (i6 v21)) 20 (i6 (p1_1.l : Int))) 19 (.slice p1_1.a p1_1.l p1_1.c)) 9 (i6 s)) 8 (.pointer (some ⟨b8, 0, none⟩))) 7 (.pointer (some ⟨b7, 0, none⟩))) 5 (.slice (some ⟨b17, 0, none⟩) (Int.toNat (p0_0.l : Int)) (Int.toNat (p0_0.l : Int)))) 2 (.pointer (some ⟨b2, 0, none⟩)))) (fun s => [(b8, .row ⟨[(i6 v30_0), (i6 v30_1), (.slice v30_2.a v30_2.l v30_2.c)], 3, 29, true, true⟩), (b7, .row ⟨[(i6 v25_0), (i6 v25_1), (i6 v25_2), (.string v25_3)], 4, 61, true, true⟩), (b2, .row ⟨[(.slice p0_0.a p0_0.l p0_0.c), (.slice p0_1.a p0_1.l p0_1.c)], 2, 26, true, true⟩)]) (fun s h_4 => S67_j2 p0_0 b17 v21 X v25_0 v25_1 v25_2 v30_2 s h_4) ?_ (fun Ih_4 hIh_4 => ?_)))))
      · intro v9 h_4 ok hS; replace hS : S67_j2 p0_0 b17 v21 X v25_0 v25_1 v25_2 v30_2 v9 h_4 := hS; unfold S67_j2 at hS; refine EvC.seq (EvC.draw [0, 0, 2, 0, 8, 7, 63, 0, 0, 256, 0, 1024, 896, 8064, 3199, 32767] [Item.look 0, Item.look 1, Item.look 2, Item.look 3, Item.look 4, Item.look 5, Item.look 6, Item.look 7, Item.look 8, Item.look 9, Item.look 10, Item.look 12, Item.eff 11 [0, 1, 2, 3, 4, 5, 6, 7, 8, 9, 12], Item.look 13, Item.look 14, Item.look 15] MO (by kernel_rfl) ?_); refine R.lookL rfl rfl rfl (Lk.move rfl rfl) ?_; refine R.lookL (v := (.pointer (some ⟨b7, 0, none⟩))) rfl rfl rfl (Lk.fldAddr rfl Tryz.underlying61 rfl rfl T3 rfl rfl rfl) ?_; refine R.lookL rfl rfl rfl (Lk.load1 (v := (i6 v25_0)) rfl Tryz.underlying3 rfl rfl (H.rd_loc ok (i := 1) rfl rfl)) ?_; refine R.lookL (v := (.pointer (some ⟨b7, 2, none⟩))) rfl rfl rfl (Lk.fldAddr rfl Tryz.underlying61 rfl rfl T3 rfl rfl rfl) ?_; refine R.lookL rfl rfl rfl (Lk.load1 (v := (i6 v25_2)) rfl Tryz.underlying3 rfl rfl (H.rd_loc ok (i := 1) rfl rfl)) ?_
        obtain ⟨a50, e15, e16, e17, hS⟩ := hS
        refine R.lookL rfl rfl rfl (Lk.ixAddr rfl Tryz.underlying126 T128 rfl e15 rfl e16 e17) ?_
        obtain ⟨e18, e19, hS⟩ := hS
        refine R.lookL rfl rfl rfl (Lk.indexAddrA rfl Tryz.underlying128 T27 rfl rfl e18 e19) ?_; refine R.lookL rfl rfl rfl (Lk.move rfl rfl) ?_; refine R.lookL (v := (.pointer (some ⟨b7, 1, none⟩))) rfl rfl rfl (Lk.fldAddr rfl Tryz.underlying61 rfl rfl T3 rfl rfl rfl) ?_; refine R.lookL rfl rfl rfl (Lk.load1 (v := (i6 v25_1)) rfl Tryz.underlying3 rfl rfl (H.rd_loc ok (i := 1) rfl rfl)) ?_; refine R.lookL rfl rfl rfl (Lk.move rfl rfl) ?_
        obtain ⟨a57, e20, e21, e22, hS⟩ := hS
        refine R.lookL rfl rfl rfl (Lk.ixAddr rfl Tryz.underlying126 T128 rfl e20 rfl e21 e22) ?_; refine R.eff rfl rfl rfl (Eff.loc ok (Ef.call rfl CB104 rfl ((f104_ok hS).mono ?_))); rintro _ h_5 ⟨v56, rfl, hS⟩; refine fun ok => ⟨(List.forall_mem_cons.2 ⟨(XP (XP (XP (XP (XP (XP (XP (XP (XP (XP (XP (Log.at_ (LookG.of rfl (Lk.move rfl rfl)))))))))))))), (List.forall_mem_cons.2 ⟨(XP (XP (XP (XP (XP (XP (XP (XP (XP (XP (Log.at_ (LookG.of rfl (Lk.fldAddr rfl Tryz.underlying61 rfl rfl T3 rfl rfl rfl))))))))))))), (List.forall_mem_cons.2 ⟨(XP (XP (XP (XP (XP (XP (XP (XP (XP (Log.at_ (LookG.of rfl (Lk.load1 (v := (i6 v25_0)) rfl Tryz.underlying3 rfl rfl (H.rd_loc ok (i := 1) rfl rfl))))))))))))), (List.forall_mem_cons.2 ⟨(XP (XP (XP (XP (XP (XP (XP (XP (Log.at_ (LookG.of rfl (Lk.fldAddr rfl Tryz.underlying61 rfl rfl T3 rfl rfl rfl))))))))))), (List.forall_mem_cons.2 ⟨(XP (XP (XP (XP (XP (XP (XP (Log.at_ (LookG.of rfl (Lk.load1 (v := (i6 v25_2)) rfl Tryz.underlying3 rfl rfl (H.rd_loc ok (i := 1) rfl rfl))))))))))), (List.forall_mem_cons.2 ⟨(XP (XP (XP (XP (XP (XP (Log.at_ (LookG.of rfl (Lk.ixAddr rfl Tryz.underlying126 T128 rfl e15 rfl e16 e17))))))))), (List.forall_mem_cons.2 ⟨(XP (XP (XP (XP (XP (Log.at_ (LookG.of rfl (Lk.indexAddrA rfl Tryz.underlying128 T27 rfl rfl e18 e19)))))))), (List.forall_mem_cons.2 ⟨(XP (XP (XP (XP (Log.at_ (LookG.of rfl (Lk.move rfl rfl))))))), (List.forall_mem_cons.2 ⟨(XP (XP (XP (Log.at_ (LookG.of rfl (Lk.fldAddr rfl Tryz.underlying61 rfl rfl T3 rfl rfl rfl)))))), (List.forall_mem_cons.2 ⟨(XP (XP (Log.at_ (LookG.of rfl (Lk.load1 (v := (i6 v25_1)) rfl Tryz.underlying3 rfl rfl (H.rd_loc ok (i := 1) rfl rfl)))))), (List.forall_mem_cons.2 ⟨(Log.at_ (LookG.of rfl (Lk.ixAddr rfl Tryz.underlying126 T128 rfl e20 rfl e21 e22))), noChk⟩)⟩)⟩)⟩)⟩)⟩)⟩)⟩)⟩)⟩)⟩), ?_⟩
        obtain ⟨e23, e24, hS⟩ := hS
        refine R.lookL rfl rfl rfl (Lk.indexAddrA rfl Tryz.underlying128 T27 rfl rfl e23 e24) ?_; refine R.lookL rfl rfl rfl (Lk.assign rfl rfl) ?_; refine R.lookL rfl rfl rfl (Lk.assign rfl rfl) ?_; refine R.nil (EvC.seq (EvC.draw [0, 0, 2, 6, 0, 16, 48, 112, 240, 510, 1023, 2047] [Item.look 0, Item.look 1, Item.look 2, Item.look 3, Item.look 4, Item.look 5, Item.look 6, Item.look 7, Item.alc 8, Item.eff 9 [0], Item.look 10, Item.eff 11 []] MO (by kernel_rfl) ?_)); refine R.lookL rfl rfl rfl (Lk.move rfl rfl) ?_; refine R.lookL rfl rfl rfl (Lk.move rfl rfl) ?_; refine R.lookL rfl rfl rfl (Lk.nilCheck rfl rfl) ?_
        obtain ⟨v62, e25, hS⟩ := hS
        refine R.lookL rfl rfl rfl (Look.loc ok (Lk.load1 rfl Tryz.underlying27 rfl rfl e25)) ?_; refine R.lookL (v := (.pointer (some ⟨b8, 2, none⟩))) rfl rfl rfl (Lk.fldAddr rfl Tryz.underlying29 rfl rfl T27 rfl rfl rfl) ?_; refine R.lookL rfl rfl rfl (Lk.load1 (v := (.slice v30_2.a v30_2.l v30_2.c)) rfl Tryz.underlying27 rfl rfl (H.rd_loc ok (i := 0) rfl rfl)) ?_
        obtain ⟨a65, e26, e27, e28, hS⟩ := hS
        refine R.lookL rfl rfl rfl (Lk.ixAddr rfl Tryz.underlying27 T77 rfl e26 rfl e27 e28) ?_
        obtain ⟨v66_0, v66_1, e29, hS⟩ := hS
        refine R.lookL rfl rfl rfl (Look.loc ok (Lk.loadN rfl Tryz.underlying77 rfl T77 rfl e29)) ?_; refine R.appL (cs := [(i6 v66_0), (i6 v66_1)]) ok rfl rfl rfl rfl rfl rfl rfl rfl Tryz.underlying27 T77 rfl (by decide) (by decide) rfl rfl rfl rfl rfl (fun _ => rfl) hS ?_; intro bb67 v68 h_6 hS ok; refine ⟨(List.forall_mem_cons.2 ⟨(XP (XP (XP (XP (XP (XP (XP (Log.at_ (LookG.of rfl (Lk.move rfl rfl)))))))))), noChk⟩), ?_⟩; refine R.lookL rfl rfl rfl (Lk.nilCheck rfl rfl) ?_
        obtain ⟨h_7, e30, hS⟩ := hS
        refine R.effN rfl rfl rfl (Eff.loc ok (Ef.store rfl T27 rfl rfl rfl rfl rfl e30 fun ok => ⟨noChk, ?_⟩)); refine R.nil (EvC.draw [0, 0, 2, 6, 0, 16, 0, 64, 192, 448, 1008, 2032, 4080, 8190, 16383, 32767] [Item.look 0, Item.look 1, Item.look 2, Item.look 3, Item.look 4, Item.look 5, Item.look 6, Item.look 7, Item.look 8, Item.look 9, Item.look 10, Item.look 11, Item.alc 12, Item.eff 13 [0], Item.look 14, Item.eff 15 []] MO (by kernel_rfl) ?_); refine R.lookL rfl rfl rfl (Lk.move rfl rfl) ?_; refine R.lookL rfl rfl rfl (Lk.move rfl rfl) ?_; refine R.lookL rfl rfl rfl (Lk.nilCheck rfl rfl) ?_
        obtain ⟨v73, e31, hS⟩ := hS
        refine R.lookL rfl rfl rfl (Look.loc ok (Lk.load1 rfl Tryz.underlying27 rfl rfl e31)) ?_; refine R.lookL (v := (.pointer (some ⟨b8, 2, none⟩))) rfl rfl rfl (Lk.fldAddr rfl Tryz.underlying29 rfl rfl T27 rfl rfl rfl) ?_; refine R.lookL rfl rfl rfl (Lk.load1 (v := (.slice v30_2.a v30_2.l v30_2.c)) rfl Tryz.underlying27 rfl rfl (H.rd_loc ok (i := 0) rfl rfl)) ?_; refine R.lookL (v := (.pointer (some ⟨b8, 2, none⟩))) rfl rfl rfl (Lk.fldAddr rfl Tryz.underlying29 rfl rfl T27 rfl rfl rfl) ?_; refine R.lookL rfl rfl rfl (Lk.load1 (v := (.slice v30_2.a v30_2.l v30_2.c)) rfl Tryz.underlying27 rfl rfl (H.rd_loc ok (i := 0) rfl rfl)) ?_; refine R.lookL rfl rfl rfl (Lk.len rfl Tryz.underlying27 rfl) ?_; refine R.lookL rfl rfl rfl (Lk.arith rfl rfl rfl rfl) ?_
        obtain ⟨a80, e32, e33, e34, hS⟩ := hS
        refine R.lookL rfl rfl rfl (Lk.ixAddr rfl Tryz.underlying27 T77 rfl e32 rfl e33 e34) ?_
        obtain ⟨v81_0, v81_1, e35, hS⟩ := hS
        refine R.lookL rfl rfl rfl (Look.loc ok (Lk.loadN rfl Tryz.underlying77 rfl T77 rfl e35)) ?_; refine R.appL (cs := [(i6 v81_0), (i6 v81_1)]) ok rfl rfl rfl rfl rfl rfl rfl rfl Tryz.underlying27 T77 rfl (by decide) (by decide) rfl rfl rfl rfl rfl (fun _ => rfl) hS ?_; intro bb82 v83 h_8 hS ok; refine ⟨(List.forall_mem_cons.2 ⟨(XP (XP (XP (XP (XP (XP (XP (XP (XP (XP (XP (Log.at_ (LookG.of rfl (Lk.move rfl rfl)))))))))))))), noChk⟩), ?_⟩; refine R.lookL rfl rfl rfl (Lk.nilCheck rfl rfl) ?_
        obtain ⟨h_9, e36, hS⟩ := hS
        refine R.effN rfl rfl rfl (Eff.loc ok (Ef.store rfl T27 rfl rfl rfl rfl rfl e36 fun ok => ⟨noChk, ?_⟩)); refine R.nil (Xr [.look 0, .look 1] (Xk rfl rfl (Lk.arith rfl rfl rfl rfl) fun _ => Xm rfl rfl rfl rfl fun _ => R.nil ?_)); exact hX (IntKind.wrap .i64 (v21 + 1)) _ _ _ hS (ok.sub (.cons _ (.cons _ (.cons_cons _ sl0)))) (lq rfl (lq rfl (lq rfl (lq rfl (lq rfl (lz _)))))) (H.add_sub ok (.cons _ (.cons _ (.cons_cons _ sl0))))
      · refine EvC.seq (Xr [.look 0, .look 1, .alc 2] (Xk (v := (.pointer (some ⟨b7, 3, none⟩))) rfl rfl (Lk.fldAddr rfl Tryz.underlying61 rfl rfl T9 rfl rfl rfl) fun _ => ?_)); refine Xk rfl rfl (Lk.load1 (v := (.string v25_3)) rfl Tryz.underlying9 rfl rfl (H.rd_loc ok (i := 1) rfl rfl)) fun _ => ?_; refine R.var (blk := .obj (.stringIter v25_3 0)) ok rfl rfl rfl (Ac.range rfl Tryz.underlying9 rfl) trivial rfl fun b35 ok => ?_; refine R.nil (EvC.block (EvC.loop (LoopC.lfp (σ := Int × Nat) (fun s => (Ep (Ep (Ep (Ep (Ep (Ep (Ep (Ep (Ep E0 35 (.pointer (some ⟨b35, 0, none⟩))) 21 (i6 v21)) 20 (i6 (p1_1.l : Int))) 19 (.slice p1_1.a p1_1.l p1_1.c)) 9 (i6 s.1)) 8 (.pointer (some ⟨b8, 0, none⟩))) 7 (.pointer (some ⟨b7, 0, none⟩))) 5 (.slice (some ⟨b17, 0, none⟩) (Int.toNat (p0_0.l : Int)) (Int.toNat (p0_0.l : Int)))) 2 (.pointer (some ⟨b2, 0, none⟩)))) (fun s => [(b35, .obj (.stringIter v25_3 s.2)), (b8, .row ⟨[(i6 v30_0), (i6 v30_1), (.slice v30_2.a v30_2.l v30_2.c)], 3, 29, true, true⟩), (b7, .row ⟨[(i6 v25_0), (i6 v25_1), (i6 v25_2), (.string v25_3)], 4, 61, true, true⟩), (b2, .row ⟨[(.slice p0_0.a p0_0.l p0_0.c), (.slice p0_1.a p0_1.l p0_1.c)], 2, 26, true, true⟩)]) (fun X_1 hX_1 => ?_) hS (ok.sub (.cons_cons _ (.cons_cons _ (.cons_cons _ (.cons_cons _ sl0))))) (lq rfl (lq rfl (lq rfl (lq rfl (lq rfl (lq rfl (lq rfl (lq rfl (lq rfl (lz _)))))))))) (H.add_sub ok (.cons_cons _ (.cons_cons _ (.cons_cons _ (.cons_cons _ sl0)))))))); rintro ⟨v9_1, c35_1⟩ h_10 hS ok; replace hS : S67_l3 p0_0 b17 v21 X v25_0 v25_1 v25_2 v25_3 v30_2 v9_1 c35_1 h_10 := hS; unfold S67_l3 at hS; refine EvC.seq (Xr [.eff 0 [], .look 1] ?_)
        by_cases e37 : c35_1 < ByteArray.size v25_3
        · rw [if_pos e37] at hS; refine R.eff rfl rfl rfl (Ef.nextLoc (i := 0) (l' := [(b35, .obj (.stringIter v25_3 (c35_1 + (Utf8.decode v25_3 c35_1).2))), (b8, .row ⟨[(i6 v30_0), (i6 v30_1), (.slice v30_2.a v30_2.l v30_2.c)], 3, 29, true, true⟩), (b7, .row ⟨[(i6 v25_0), (i6 v25_1), (i6 v25_2), (.string v25_3)], 4, 61, true, true⟩), (b2, .row ⟨[(.slice p0_0.a p0_0.l p0_0.c), (.slice p0_1.a p0_1.l p0_1.c)], 2, 26, true, true⟩)]) ok rfl rfl rfl e37 rfl fun ok => ⟨noChk, ?_⟩); refine Xk rfl rfl (Lk.extract rfl rfl rfl) fun _ => ?_; refine R.nil (EvC.seq (EvC.condT rfl rfl (EvC.skip (EvC.block (EvC.seq ?_))))); exact hS.elim
        · rw [if_neg e37] at hS; refine R.eff rfl rfl rfl (Ef.nextEnd (i := 0) ok rfl rfl rfl e37 ⟨noChk, ?_⟩); refine Xk rfl rfl (Lk.extract rfl rfl rfl) fun _ => ?_; refine R.nil (EvC.seq (EvC.condF rfl rfl (EvC.exit ?_))); exact hIh_4 v9_1 _ _ _ (lq rfl (lq rfl (lq rfl (lq rfl (lq rfl (lq rfl (lq rfl (lq rfl (lz _))))))))) (ok.sub (.cons _ (.cons_cons _ (.cons_cons _ (.cons_cons _ sl0))))) (H.add_sub ok (.cons _ (.cons_cons _ (.cons_cons _ (.cons_cons _ sl0))))) hS
    · rw [if_neg e6] at hS; replace e6 := eq_false_of_ne_true e6; refine EvC.condF rfl e6 (EvC.exit ?_); exact hIh_2 () _ _ _ (lq rfl (lz _)) (ok.sub (.cons _ sl0)) (H.add_sub ok (.cons _ sl0)) hS

end Go.Proofs.YtimadnngfhbfiaaGreatDoor
end

section
/- BY HAND: muntin/trace.rises: never called here. -/
namespace Go.Proofs.YtimadnngfhbfiaaGreatDoor
open Go Go.Mu
theorem f68_ok {p0 : Int} {p1 : Sl} {h : H} {K : Bool → H → Prop} (hS : S68 p0 p1 h K) : ACall Tryz.prog 68 ([(.int .i64 p0), (.slice p1.a p1.l p1.c)] : List Value).toArray h (fun r h' => ∃ r0 : Bool, r = tup [(.bool r0)] ∧ K r0 h') := hS.elim
end Go.Proofs.YtimadnngfhbfiaaGreatDoor
end

section
namespace Go.Proofs.YtimadnngfhbfiaaGreatDoor
open Go Go.Mu
set_option maxHeartbeats 4000000
set_option maxRecDepth 100000
theorem f28_ok {p0_0 : Sl} {p0_1 : Sl} {h : H} {K : Sl → Sl → Int → H → Prop} (hS : S28 p0_0 p0_1 h K) : ACall Tryz.prog 28 ([(.agg ([(.slice p0_0.a p0_0.l p0_0.c), (.slice p0_1.a p0_1.l p0_1.c)] : List Value).toArray)] : List Value).toArray h (fun r h' => ∃ r0_0 : Sl, ∃ r0_1 : Sl, ∃ r1 : Int, r = tup [(.agg ([(.slice r0_0.a r0_0.l r0_0.c), (.slice r0_1.a r0_1.l r0_1.c)] : List Value).toArray), (i6 r1)] ∧ K r0_0 r0_1 r1 h') := by
  refine ACall.enter (fn := Tryz.f28) Tryz.func28 rfl (Nat.le_of_ble_eq_true rfl) ?_; unfold S28 at hS; have ok := Lok.nil h; refine EvC.seq (Xr [.alc 0, .alc 1, .look 2] (R.var (blk := .row ⟨[(.slice p0_0.a p0_0.l p0_0.c), (.slice p0_1.a p0_1.l p0_1.c)], 2, 26, true, true⟩) ok rfl rfl rfl (Ac.box rfl rfl) rfl rfl fun b1 ok => ?_)); refine R.var (blk := .row ⟨[(.slice none 0 0), (.slice none 0 0)], 2, 33, true, true⟩) ok rfl rfl rfl (Ac.alloc rfl T33) rfl rfl fun b2 ok => ?_; refine Xa rfl rfl rfl rfl fun _ => ?_; refine R.nil (EvC.seq (Xr [.alc 0] (R.var (blk := .row ⟨[(.slice none 0 0), (.slice none 0 0)], 2, 33, true, true⟩) ok rfl rfl rfl (Ac.alloc rfl T33) rfl rfl fun b4 ok => ?_))); refine R.nil (EvC.seq (EvC.seq (Xr [.look 0, .eff 1 []] (Xk rfl rfl (Lk.loadN (vs := [(.slice p0_0.a p0_0.l p0_0.c), (.slice p0_1.a p0_1.l p0_1.c)]) rfl Tryz.underlying26 rfl T26 rfl (H.rdn_loc ok (i := 2) rfl rfl rfl)) fun _ => R.eff rfl rfl rfl (Eff.loc ok (Ef.call rfl CB64 rfl ((f64_ok hS).mono ?_))))))); rintro _ h_1 ⟨v16, rfl, hS⟩; refine fun ok => ⟨noChk, ?_⟩; refine R.nil ?_
  by_cases e1 : v16 = true
  · rw [if_pos e1] at hS; refine EvC.condT rfl e1 (EvC.seq (Xr [.look 0, .eff 1 [], .look 2] (Xk rfl rfl (Lk.loadN (vs := [(.slice none 0 0), (.slice none 0 0)]) rfl Tryz.underlying33 rfl T33 rfl (H.rdn_loc ok (i := 0) rfl rfl rfl)) fun _ => ?_))); refine R.effN rfl rfl rfl (Ef.storeLoc (i := 1) (vs := [(.slice none 0 0), (.slice none 0 0)]) (cs := [(.slice none 0 0), (.slice none 0 0)]) (l' := [(b4, .row ⟨[(.slice none 0 0), (.slice none 0 0)], 2, 33, true, true⟩), (b2, .row ⟨[(.slice none 0 0), (.slice none 0 0)], 2, 33, true, true⟩), (b1, .row ⟨[(.slice p0_0.a p0_0.l p0_0.c), (.slice p0_1.a p0_1.l p0_1.c)], 2, 26, true, true⟩)]) ok rfl T33 rfl rfl rfl rfl rfl rfl rfl rfl rfl rfl fun ok => ⟨noChk, ?_⟩); refine Xa rfl rfl rfl rfl fun _ => ?_; refine R.nil (EvC.ret ?_); exact ⟨.inr rfl, _, _, (.cons (.cells rfl (fun w => Und.agg Tryz.underlying33 w) (fun w => T33.size_ w) (H.rdn_loc ok (i := 1) rfl rfl rfl)) (.cons (.tmp rfl) .nil)), ok.le, _, _, _, rfl, hS⟩
  · rw [if_neg e1] at hS; replace e1 := eq_false_of_ne_true e1; refine EvC.condF rfl e1 (EvC.skip (EvC.join (σ := Sl × Sl × Sl × Sl) (fun s => (Ep (Ep (Ep E0 4 (.pointer (some ⟨b4, 0, none⟩))) 2 (.pointer (some ⟨b2, 0, none⟩))) 1 (.pointer (some ⟨b1, 0, none⟩)))) (fun s => [(b4, .row ⟨[(.slice s.1.a s.1.l s.1.c), (.slice s.2.1.a s.2.1.l s.2.1.c)], 2, 33, true, true⟩), (b2, .row ⟨[(.slice s.2.2.1.a s.2.2.1.l s.2.2.1.c), (.slice s.2.2.2.a s.2.2.2.l s.2.2.2.c)], 2, 33, true, true⟩), (b1, .row ⟨[(.slice p0_0.a p0_0.l p0_0.c), (.slice p0_1.a p0_1.l p0_1.c)], 2, 26, true, true⟩)]) (fun s h_2 => S28_j8 p0_0 p0_1 K s.1 s.2.1 s.2.2.1 s.2.2.2 h_2) ?_ (fun Ih_2 hIh_2 => ?_)))
    · rintro ⟨c4_0, c4_1, c2_0, c2_1⟩ h_2 ok hS; replace hS : S28_j8 p0_0 p0_1 K c4_0 c4_1 c2_0 c2_1 h_2 := hS; unfold S28_j8 at hS; refine EvC.join (σ := Sl × Sl × Sl × Sl) (fun s => (Ep (Ep (Ep E0 4 (.pointer (some ⟨b4, 0, none⟩))) 2 (.pointer (some ⟨b2, 0, none⟩))) 1 (.pointer (some ⟨b1, 0, none⟩)))) (fun s => [(b4, .row ⟨[(.slice s.1.a s.1.l s.1.c), (.slice s.2.1.a s.2.1.l s.2.1.c)], 2, 33, true, true⟩), (b2, .row ⟨[(.slice s.2.2.1.a s.2.2.1.l s.2.2.1.c), (.slice s.2.2.2.a s.2.2.2.l s.2.2.2.c)], 2, 33, true, true⟩), (b1, .row ⟨[(.slice p0_0.a p0_0.l p0_0.c), (.slice p0_1.a p0_1.l p0_1.c)], 2, 26, true, true⟩)]) (fun s h_3 => S28_j6 p0_0 p0_1 K s.1 s.2.1 s.2.2.1 s.2.2.2 h_3) ?_ (fun Ih_3 hIh_3 => ?_)
      · rintro ⟨c4_0_1, c4_1_1, c2_0_1, c2_1_1⟩ h_3 ok hS; replace hS : S28_j6 p0_0 p0_1 K c4_0_1 c4_1_1 c2_0_1 c2_1_1 h_3 := hS; unfold S28_j6 at hS; refine EvC.join (σ := Sl × Sl) (fun s => (Ep (Ep E0 4 (.pointer (some ⟨b4, 0, none⟩))) 2 (.pointer (some ⟨b2, 0, none⟩)))) (fun s => [(b4, .row ⟨[(.slice c4_0_1.a c4_0_1.l c4_0_1.c), (.slice c4_1_1.a c4_1_1.l c4_1_1.c)], 2, 33, true, true⟩), (b2, .row ⟨[(.slice s.1.a s.1.l s.1.c), (.slice s.2.a s.2.l s.2.c)], 2, 33, true, true⟩)]) (fun s h_4 => S28_j1 K c4_0_1 c4_1_1 s.1 s.2 h_4) ?_ (fun Ih_4 hIh_4 => ?_)
        · rintro ⟨c2_0_2, c2_1_2⟩ h_4 ok hS; replace hS : S28_j1 K c4_0_1 c4_1_1 c2_0_2 c2_1_2 h_4 := hS; unfold S28_j1 at hS; refine EvC.seq (Xr [.look 0, .eff 1 [], .look 2] (Xk rfl rfl (Lk.loadN (vs := [(.slice c4_0_1.a c4_0_1.l c4_0_1.c), (.slice c4_1_1.a c4_1_1.l c4_1_1.c)]) rfl Tryz.underlying33 rfl T33 rfl (H.rdn_loc ok (i := 0) rfl rfl rfl)) fun _ => ?_)); refine R.effN rfl rfl rfl (Ef.storeLoc (i := 1) (vs := [(.slice c4_0_1.a c4_0_1.l c4_0_1.c), (.slice c4_1_1.a c4_1_1.l c4_1_1.c)]) (cs := [(.slice c4_0_1.a c4_0_1.l c4_0_1.c), (.slice c4_1_1.a c4_1_1.l c4_1_1.c)]) (l' := [(b4, .row ⟨[(.slice c4_0_1.a c4_0_1.l c4_0_1.c), (.slice c4_1_1.a c4_1_1.l c4_1_1.c)], 2, 33, true, true⟩), (b2, .row ⟨[(.slice c4_0_1.a c4_0_1.l c4_0_1.c), (.slice c4_1_1.a c4_1_1.l c4_1_1.c)], 2, 33, true, true⟩)]) ok rfl T33 rfl rfl rfl rfl rfl rfl rfl rfl rfl rfl fun ok => ⟨noChk, ?_⟩); refine Xa rfl rfl rfl rfl fun _ => ?_; refine R.nil (EvC.ret ?_); exact ⟨.inr rfl, _, _, (.cons (.cells rfl (fun w => Und.agg Tryz.underlying33 w) (fun w => T33.size_ w) (H.rdn_loc ok (i := 1) rfl rfl rfl)) (.cons (.tmp rfl) .nil)), ok.le, _, _, _, rfl, hS⟩
        · refine EvC.seq (Xr [.look 0, .look 1, .eff 2 [], .look 3, .look 4] (Xk rfl rfl (Lk.loadN (vs := [(.slice p0_0.a p0_0.l p0_0.c), (.slice p0_1.a p0_1.l p0_1.c)]) rfl Tryz.underlying26 rfl T26 rfl (H.rdn_loc ok (i := 2) rfl rfl rfl)) fun _ => ?_)); refine Xk rfl rfl (Lk.loadN (vs := [(.slice c4_0_1.a c4_0_1.l c4_0_1.c), (.slice c4_1_1.a c4_1_1.l c4_1_1.c)]) rfl Tryz.underlying33 rfl T33 rfl (H.rdn_loc ok (i := 0) rfl rfl rfl)) fun _ => ?_; refine R.eff rfl rfl rfl (Eff.loc ok (Ef.call rfl CB67 rfl ((f67_ok hS).mono ?_))); rintro _ h_5 ⟨v66, rfl, hS⟩; refine fun ok => ⟨noChk, ?_⟩; refine Xk rfl rfl (Lk.len rfl Tryz.underlying126 rfl) fun _ => ?_; refine Xm rfl rfl rfl rfl fun _ => ?_; refine R.nil (EvC.block (EvC.loop (LoopC.lfp (σ := Int × Sl × Sl) (fun s => (Ep (Ep (Ep (Ep (Ep E0 68 (i6 s.1)) 67 (i6 (v66.l : Int))) 66 (.slice v66.a v66.l v66.c)) 4 (.pointer (some ⟨b4, 0, none⟩))) 2 (.pointer (some ⟨b2, 0, none⟩)))) (fun s => [(b4, .row ⟨[(.slice c4_0_1.a c4_0_1.l c4_0_1.c), (.slice c4_1_1.a c4_1_1.l c4_1_1.c)], 2, 33, true, true⟩), (b2, .row ⟨[(.slice s.2.1.a s.2.1.l s.2.1.c), (.slice s.2.2.a s.2.2.l s.2.2.c)], 2, 33, true, true⟩)]) (fun X hX => ?_) hS (ok.sub (.cons_cons _ (.cons_cons _ (.cons _ sl0)))) (lq rfl (lq rfl (lq rfl (lq rfl (lq rfl (lz _)))))) (H.add_sub ok (.cons_cons _ (.cons_cons _ (.cons _ sl0))))))); rintro ⟨v68, c2_0_3, c2_1_3⟩ h_6 hS ok; replace hS : S28_l5 K c4_0_1 c4_1_1 v66 X v68 c2_0_3 c2_1_3 h_6 := hS; unfold S28_l5 at hS; refine EvC.seq (Xr [.look 0] (Xk rfl rfl (Lk.arith rfl rfl rfl rfl) fun _ => ?_)); refine R.nil (EvC.seq ?_)
          by_cases e2 : (decide (v68 < (v66.l : Int))) = true
          · rw [if_pos e2] at hS; refine EvC.condT rfl e2 (EvC.skip (EvC.join (σ := Sl × Sl) (fun s => (Ep (Ep (Ep (Ep (Ep E0 68 (i6 v68)) 67 (i6 (v66.l : Int))) 66 (.slice v66.a v66.l v66.c)) 4 (.pointer (some ⟨b4, 0, none⟩))) 2 (.pointer (some ⟨b2, 0, none⟩)))) (fun s => [(b4, .row ⟨[(.slice c4_0_1.a c4_0_1.l c4_0_1.c), (.slice c4_1_1.a c4_1_1.l c4_1_1.c)], 2, 33, true, true⟩), (b2, .row ⟨[(.slice s.1.a s.1.l s.1.c), (.slice s.2.a s.2.l s.2.c)], 2, 33, true, true⟩)]) (fun s h_7 => S28_j2 v68 X s.1 s.2 h_7) ?_ (fun Ih_7 hIh_7 => ?_)))
            · rintro ⟨c2_0_4, c2_1_4⟩ h_7 ok hS; replace hS : S28_j2 v68 X c2_0_4 c2_1_4 h_7 := hS; unfold S28_j2 at hS; refine Xr [.look 0, .look 1] (Xk rfl rfl (Lk.arith rfl rfl rfl rfl) fun _ => ?_); refine Xm rfl rfl rfl rfl fun _ => ?_; refine R.nil ?_; exact hX ((IntKind.wrap .i64 (v68 + 1)), c2_0_4, c2_1_4) _ _ _ hS (ok.sub (.cons_cons _ (.cons_cons _ sl0))) (lq rfl (lq rfl (lq rfl (lq rfl (lq rfl (lz _)))))) (H.add_sub ok (.cons_cons _ (.cons_cons _ sl0)))
            · refine EvC.block (EvC.seq (Xr [.look 0, .look 1, .look 2, .alc 3, .look 4, .eff 5 []] (Xm rfl rfl rfl rfl fun _ => ?_)))
              obtain ⟨a71, e3, e4, e5, hS⟩ := hS
              refine Xk rfl rfl (Lk.ixAddr rfl Tryz.underlying126 T128 rfl e3 rfl e4 e5) fun _ => ?_
              obtain ⟨v72_0, v72_1, v72_2, v72_3, e6, hS⟩ := hS
              refine Xk rfl rfl (Look.loc ok (Lk.loadN rfl Tryz.underlying128 rfl T128 rfl e6)) fun _ => ?_; refine R.var (blk := .row ⟨[(.slice none 0 0), (.slice none 0 0), (.slice none 0 0), (.slice none 0 0)], 4, 128, true, true⟩) ok rfl rfl rfl (Ac.alloc rfl T128) rfl rfl fun b12 ok => ?_; refine Xa rfl rfl rfl rfl fun _ => ?_; refine R.effN rfl rfl rfl (Ef.storeLoc (i := 0) (vs := [(.slice v72_0.a v72_0.l v72_0.c), (.slice v72_1.a v72_1.l v72_1.c), (.slice v72_2.a v72_2.l v72_2.c), (.slice v72_3.a v72_3.l v72_3.c)]) (cs := [(.slice v72_0.a v72_0.l v72_0.c), (.slice v72_1.a v72_1.l v72_1.c), (.slice v72_2.a v72_2.l v72_2.c), (.slice v72_3.a v72_3.l v72_3.c)]) (l' := [(b12, .row ⟨[(.slice v72_0.a v72_0.l v72_0.c), (.slice v72_1.a v72_1.l v72_1.c), (.slice v72_2.a v72_2.l v72_2.c), (.slice v72_3.a v72_3.l v72_3.c)], 4, 128, true, true⟩), (b4, .row ⟨[(.slice c4_0_1.a c4_0_1.l c4_0_1.c), (.slice c4_1_1.a c4_1_1.l c4_1_1.c)], 2, 33, true, true⟩), (b2, .row ⟨[(.slice c2_0_3.a c2_0_3.l c2_0_3.c), (.slice c2_1_3.a c2_1_3.l c2_1_3.c)], 2, 33, true, true⟩)]) ok rfl T128 rfl rfl rfl rfl rfl rfl rfl rfl rfl rfl fun ok => ⟨noChk, ?_⟩); refine R.nil (EvC.seq (Xr [.look 0, .look 1] (Xk rfl rfl (Lk.loadN (vs := [(.slice v72_0.a v72_0.l v72_0.c), (.slice v72_1.a v72_1.l v72_1.c), (.slice v72_2.a v72_2.l v72_2.c), (.slice v72_3.a v72_3.l v72_3.c)]) rfl Tryz.underlying128 rfl T128 rfl (H.rdn_loc ok (i := 0) rfl rfl rfl)) fun _ => Xm rfl rfl rfl rfl fun _ => R.nil (EvC.block (EvC.loop (LoopC.lfp (σ := Int × Sl × Sl) (fun s => (Ep (Ep (Ep (Ep (Ep (Ep (Ep (Ep E0 74 (i6 s.1)) 73 (.agg ([(.slice v72_0.a v72_0.l v72_0.c), (.slice v72_1.a v72_1.l v72_1.c), (.slice v72_2.a v72_2.l v72_2.c), (.slice v72_3.a v72_3.l v72_3.c)] : List Value).toArray)) 68 (i6 v68)) 67 (i6 (v66.l : Int))) 66 (.slice v66.a v66.l v66.c)) 11 (i6 v68)) 4 (.pointer (some ⟨b4, 0, none⟩))) 2 (.pointer (some ⟨b2, 0, none⟩)))) (fun s => [(b4, .row ⟨[(.slice c4_0_1.a c4_0_1.l c4_0_1.c), (.slice c4_1_1.a c4_1_1.l c4_1_1.c)], 2, 33, true, true⟩), (b2, .row ⟨[(.slice s.2.1.a s.2.1.l s.2.1.c), (.slice s.2.2.a s.2.2.l s.2.2.c)], 2, 33, true, true⟩)]) (fun X_1 hX_1 => ?_) hS (ok.sub (.cons _ (.cons_cons _ (.cons_cons _ sl0)))) (lq rfl (lq rfl (lq rfl (lq rfl (lq rfl (lq rfl (lq rfl (lq rfl (lz _))))))))) (H.add_sub ok (.cons _ (.cons_cons _ (.cons_cons _ sl0)))))))))); rintro ⟨v74, c2_0_5, c2_1_5⟩ h_8 hS ok; replace hS : S28_l4 K c4_0_1 c4_1_1 v68 X v72_0 v72_1 v72_2 v72_3 X_1 v74 c2_0_5 c2_1_5 h_8 := hS
              unfold S28_l4 at hS; refine EvC.seq (Xr [.look 0] (Xk rfl rfl (Lk.arith rfl rfl rfl rfl) fun _ => ?_)); refine R.nil (EvC.seq ?_)
              by_cases e7 : (decide (v74 < 4)) = true
              · rw [if_pos e7] at hS; refine EvC.condT rfl e7 (EvC.skip (EvC.seq (EvC.block (EvC.seq (Xr [.look 0, .look 1, .look 2, .look 3] (Xm rfl rfl rfl rfl fun _ => ?_))))))
                obtain ⟨e8, e9, hS⟩ := hS
                refine Xk rfl rfl (Lk.elemSel Sl.v ([v72_0, v72_1, v72_2, v72_3] : List Sl) rfl Tryz.underlying128 Tryz.underlying27 rfl T27 rfl rfl e8 e9 rfl) fun _ => ?_; refine Xa rfl rfl rfl rfl fun _ => ?_; refine Xa rfl rfl rfl rfl fun _ => ?_; refine R.nil (EvC.join (σ := Bool) (fun s => (Ep (Ep (Ep (Ep (Ep (Ep (Ep (Ep (Ep E0 101 (.bool s)) 74 (i6 v74)) 73 (.agg ([(.slice v72_0.a v72_0.l v72_0.c), (.slice v72_1.a v72_1.l v72_1.c), (.slice v72_2.a v72_2.l v72_2.c), (.slice v72_3.a v72_3.l v72_3.c)] : List Value).toArray)) 68 (i6 v68)) 67 (i6 (v66.l : Int))) 66 (.slice v66.a v66.l v66.c)) 11 (i6 v68)) 4 (.pointer (some ⟨b4, 0, none⟩))) 2 (.pointer (some ⟨b2, 0, none⟩)))) (fun s => [(b4, .row ⟨[(.slice c4_0_1.a c4_0_1.l c4_0_1.c), (.slice c4_1_1.a c4_1_1.l c4_1_1.c)], 2, 33, true, true⟩), (b2, .row ⟨[(.slice c2_0_5.a c2_0_5.l c2_0_5.c), (.slice c2_1_5.a c2_1_5.l c2_1_5.c)], 2, 33, true, true⟩)]) (fun s h_9 => S28_j3 K c4_0_1 c4_1_1 v74 c2_0_5 c2_1_5 X_1 s h_9) ?_ (fun Ih_9 hIh_9 => ?_))
                · intro v101 h_9 ok hS; replace hS : S28_j3 K c4_0_1 c4_1_1 v74 c2_0_5 c2_1_5 X_1 v101 h_9 := hS; unfold S28_j3 at hS
                  by_cases e10 : v101 = true
                  · rw [if_pos e10] at hS; refine EvC.condT rfl e10 (EvC.seq (Xr [.look 0, .eff 1 [], .look 2] (Xk rfl rfl (Lk.loadN (vs := [(.slice c4_0_1.a c4_0_1.l c4_0_1.c), (.slice c4_1_1.a c4_1_1.l c4_1_1.c)]) rfl Tryz.underlying33 rfl T33 rfl (H.rdn_loc ok (i := 0) rfl rfl rfl)) fun _ => ?_))); refine R.effN rfl rfl rfl (Ef.storeLoc (i := 1) (vs := [(.slice c4_0_1.a c4_0_1.l c4_0_1.c), (.slice c4_1_1.a c4_1_1.l c4_1_1.c)]) (cs := [(.slice c4_0_1.a c4_0_1.l c4_0_1.c), (.slice c4_1_1.a c4_1_1.l c4_1_1.c)]) (l' := [(b4, .row ⟨[(.slice c4_0_1.a c4_0_1.l c4_0_1.c), (.slice c4_1_1.a c4_1_1.l c4_1_1.c)], 2, 33, true, true⟩), (b2, .row ⟨[(.slice c4_0_1.a c4_0_1.l c4_0_1.c), (.slice c4_1_1.a c4_1_1.l c4_1_1.c)], 2, 33, true, true⟩)]) ok rfl T33 rfl rfl rfl rfl rfl rfl rfl rfl rfl rfl fun ok => ⟨noChk, ?_⟩); refine Xa rfl rfl rfl rfl fun _ => ?_; refine R.nil (EvC.ret ?_); exact ⟨.inr rfl, _, _, (.cons (.cells rfl (fun w => Und.agg Tryz.underlying33 w) (fun w => T33.size_ w) (H.rdn_loc ok (i := 1) rfl rfl rfl)) (.cons (.tmp rfl) .nil)), ok.le, _, _, _, rfl, hS⟩
                  · rw [if_neg e10] at hS; replace e10 := eq_false_of_ne_true e10; refine EvC.condF rfl e10 (EvC.skip (Xr [.look 0, .look 1] (Xk rfl rfl (Lk.arith rfl rfl rfl rfl) fun _ => ?_))); refine Xm rfl rfl rfl rfl fun _ => ?_; refine R.nil ?_; exact hX_1 ((IntKind.wrap .i64 (v74 + 1)), c2_0_5, c2_1_5) _ _ _ hS (ok.sub (.cons_cons _ (.cons_cons _ sl0))) (lq rfl (lq rfl (lq rfl (lq rfl (lq rfl (lq rfl (lq rfl (lq rfl (lz _))))))))) (H.add_sub ok (.cons_cons _ (.cons_cons _ sl0)))
                · refine Xr [.look 0, .look 1, .look 2, .look 3, .look 4, .look 5, .look 6, .look 7, .eff 8 [], .look 9, .look 10, .look 11, .look 12, .look 13, .look 14, .look 15, .look 16, .look 17, .look 18, .look 19, .look 20, .look 21, .look 22, .look 23] (Xk (v := (.pointer (some ⟨b4, 0, none⟩))) rfl rfl (Lk.fldAddr rfl Tryz.underlying33 rfl rfl T30 rfl rfl rfl) fun _ => ?_); refine Xk rfl rfl (Lk.load1 (v := (.slice c4_0_1.a c4_0_1.l c4_0_1.c)) rfl Tryz.underlying30 rfl rfl (H.rd_loc ok (i := 0) rfl rfl)) fun _ => ?_; refine Xm rfl rfl rfl rfl fun _ => ?_
                  obtain ⟨a81, e11, e12, e13, hS⟩ := hS
                  refine Xk rfl rfl (Lk.ixAddr rfl Tryz.underlying30 T4 rfl e11 rfl e12 e13) fun _ => ?_
                  obtain ⟨v82, e14, hS⟩ := hS
                  refine Xk rfl rfl (Look.loc ok (Lk.load1 rfl Tryz.underlying4 rfl rfl e14)) fun _ => ?_; refine Xm rfl rfl rfl rfl fun _ => ?_
                  by_cases e15 : v82 = true
                  · rw [if_pos e15] at hS; refine R.lookT rfl rfl rfl rfl e15 rfl (Lk.move rfl rfl) fun _ => R.lookT rfl rfl rfl rfl e15 rfl (Lk.move rfl rfl) fun _ => R.effT rfl rfl rfl rfl e15 rfl (Eff.loc ok (Ef.call rfl CB68 rfl ((f68_ok hS).mono ?_))); rintro _ h_10 ⟨v86, rfl, hS⟩; refine fun ok => ⟨noChk, ?_⟩; refine R.lookT rfl rfl rfl rfl e15 rfl (Lk.not rfl rfl) fun _ => Xk rfl rfl (Lk.pick rfl rfl (fun _ => rfl) (fun e => by rw [e15] at e; cases e)) fun _ => Xm rfl rfl rfl rfl fun _ => ?_
                    by_cases e16 : (!v86) = true
                    · rw [if_pos e16] at hS; refine R.lookF rfl rfl rfl rfl e16 rfl fun _ => R.lookF rfl rfl rfl rfl e16 rfl fun _ => R.lookF rfl rfl rfl rfl e16 rfl fun _ => R.lookF rfl rfl rfl rfl e16 rfl fun _ => R.lookF rfl rfl rfl rfl e16 rfl fun _ => R.lookF rfl rfl rfl rfl e16 rfl fun _ => R.lookF rfl rfl rfl rfl e16 rfl fun _ => R.lookU rfl rfl rfl rfl rfl fun _ => R.lookU rfl rfl rfl rfl rfl fun _ => R.lookU rfl rfl rfl rfl rfl fun _ => R.lookF rfl rfl rfl rfl e16 rfl fun _ => Xk rfl rfl (Lk.pick rfl rfl (fun _ => rfl) (fun e => by rw [e16] at e; cases e)) fun _ => R.nil ?_; exact hIh_9 true _ _ _ (lq rfl (lq rfl (lq rfl (lq rfl (lq rfl (lq rfl (lq rfl (lq rfl (lq rfl (lz _)))))))))) (ok.sub (.cons_cons _ (.cons_cons _ sl0))) (H.add_sub ok (.cons_cons _ (.cons_cons _ sl0))) hS
                    · rw [if_neg e16] at hS; replace e16 := eq_false_of_ne_true e16; refine R.lookT (v := (.pointer (some ⟨b4, 0, none⟩))) rfl rfl rfl rfl e16 rfl (Lk.fldAddr rfl Tryz.underlying33 rfl rfl T30 rfl rfl rfl) fun _ => R.lookT rfl rfl rfl rfl e16 rfl (Lk.load1 (v := (.slice c4_0_1.a c4_0_1.l c4_0_1.c)) rfl Tryz.underlying30 rfl rfl (H.rd_loc ok (i := 0) rfl rfl)) fun _ => R.lookT rfl rfl rfl rfl e16 rfl (Lk.move rfl rfl) fun _ => ?_
                      obtain ⟨a93, e17, e18, e19, hS⟩ := hS
                      refine R.lookT rfl rfl rfl rfl e16 rfl (Lk.ixAddr rfl Tryz.underlying30 T4 rfl e17 rfl e18 e19) fun _ => ?_
                      obtain ⟨v94, e20, hS⟩ := hS
                      refine R.lookT rfl rfl rfl rfl e16 rfl (Look.loc ok (Lk.load1 rfl Tryz.underlying4 rfl rfl e20)) fun _ => R.lookT rfl rfl rfl rfl e16 rfl (Lk.not rfl rfl) fun _ => R.lookT rfl rfl rfl rfl e16 rfl (Lk.move rfl rfl) fun _ => ?_
                      by_cases e21 : (!v94) = true
                      · rw [if_pos e21] at hS; refine R.lookT rfl rfl rfl rfl e21 rfl (Lk.move rfl rfl) fun _ => R.lookT rfl rfl rfl rfl e21 rfl (Lk.len rfl Tryz.underlying27 rfl) fun _ => R.lookT rfl rfl rfl rfl e21 rfl (Lk.arith rfl rfl rfl rfl) fun _ => R.lookT rfl rfl rfl rfl e16 rfl (Lk.pick rfl rfl (fun _ => rfl) (fun e => by rw [e21] at e; cases e)) fun _ => Xk rfl rfl (Lk.pick rfl rfl (fun e => by rw [e16] at e; cases e) (fun _ => rfl)) fun _ => R.nil ?_; exact hIh_9 (decide ((((sel ([v72_0, v72_1, v72_2, v72_3] : List Sl) v74).l) : Int) > 1)) _ _ _ (lq rfl (lq rfl (lq rfl (lq rfl (lq rfl (lq rfl (lq rfl (lq rfl (lq rfl (lz _)))))))))) (ok.sub (.cons_cons _ (.cons_cons _ sl0))) (H.add_sub ok (.cons_cons _ (.cons_cons _ sl0))) hS
                      · rw [if_neg e21] at hS; replace e21 := eq_false_of_ne_true e21; refine R.lookF rfl rfl rfl rfl e21 rfl fun _ => R.lookF rfl rfl rfl rfl e21 rfl fun _ => R.lookF rfl rfl rfl rfl e21 rfl fun _ => R.lookT rfl rfl rfl rfl e16 rfl (Lk.pick rfl rfl (fun e => by rw [e21] at e; cases e) (fun _ => rfl)) fun _ => Xk rfl rfl (Lk.pick rfl rfl (fun e => by rw [e16] at e; cases e) (fun _ => rfl)) fun _ => R.nil ?_; exact hIh_9 false _ _ _ (lq rfl (lq rfl (lq rfl (lq rfl (lq rfl (lq rfl (lq rfl (lq rfl (lq rfl (lz _)))))))))) (ok.sub (.cons_cons _ (.cons_cons _ sl0))) (H.add_sub ok (.cons_cons _ (.cons_cons _ sl0))) hS
                  · rw [if_neg e15] at hS; replace e15 := eq_false_of_ne_true e15; refine R.lookF rfl rfl rfl rfl e15 rfl fun _ => R.lookF rfl rfl rfl rfl e15 rfl fun _ => R.effF rfl rfl rfl rfl e15 rfl ?_; refine R.lookF rfl rfl rfl rfl e15 rfl fun _ => Xk rfl rfl (Lk.pick rfl rfl (fun e => by rw [e15] at e; cases e) (fun _ => rfl)) fun _ => Xm rfl rfl rfl rfl fun _ => R.lookT (v := (.pointer (some ⟨b4, 0, none⟩))) rfl rfl rfl rfl rfl rfl (Lk.fldAddr rfl Tryz.underlying33 rfl rfl T30 rfl rfl rfl) fun _ => R.lookT rfl rfl rfl rfl rfl rfl (Lk.load1 (v := (.slice c4_0_1.a c4_0_1.l c4_0_1.c)) rfl Tryz.underlying30 rfl rfl (H.rd_loc ok (i := 0) rfl rfl)) fun _ => R.lookT rfl rfl rfl rfl rfl rfl (Lk.move rfl rfl) fun _ => ?_
                    obtain ⟨a93, e22, e23, e24, hS⟩ := hS
                    refine R.lookT rfl rfl rfl rfl rfl rfl (Lk.ixAddr rfl Tryz.underlying30 T4 rfl e22 rfl e23 e24) fun _ => ?_
                    obtain ⟨v94, e25, hS⟩ := hS
                    refine R.lookT rfl rfl rfl rfl rfl rfl (Look.loc ok (Lk.load1 rfl Tryz.underlying4 rfl rfl e25)) fun _ => R.lookT rfl rfl rfl rfl rfl rfl (Lk.not rfl rfl) fun _ => R.lookT rfl rfl rfl rfl rfl rfl (Lk.move rfl rfl) fun _ => ?_
                    by_cases e26 : (!v94) = true
                    · rw [if_pos e26] at hS; refine R.lookT rfl rfl rfl rfl e26 rfl (Lk.move rfl rfl) fun _ => R.lookT rfl rfl rfl rfl e26 rfl (Lk.len rfl Tryz.underlying27 rfl) fun _ => R.lookT rfl rfl rfl rfl e26 rfl (Lk.arith rfl rfl rfl rfl) fun _ => R.lookT rfl rfl rfl rfl rfl rfl (Lk.pick rfl rfl (fun _ => rfl) (fun e => by rw [e26] at e; cases e)) fun _ => Xk rfl rfl (Lk.pick rfl rfl (fun e => by cases e) (fun _ => rfl)) fun _ => R.nil ?_; exact hIh_9 (decide ((((sel ([v72_0, v72_1, v72_2, v72_3] : List Sl) v74).l) : Int) > 1)) _ _ _ (lq rfl (lq rfl (lq rfl (lq rfl (lq rfl (lq rfl (lq rfl (lq rfl (lq rfl (lz _)))))))))) (ok.sub (.cons_cons _ (.cons_cons _ sl0))) (H.add_sub ok (.cons_cons _ (.cons_cons _ sl0))) hS
                    · rw [if_neg e26] at hS; replace e26 := eq_false_of_ne_true e26; refine R.lookF rfl rfl rfl rfl e26 rfl fun _ => R.lookF rfl rfl rfl rfl e26 rfl fun _ => R.lookF rfl rfl rfl rfl e26 rfl fun _ => R.lookT rfl rfl rfl rfl rfl rfl (Lk.pick rfl rfl (fun e => by rw [e26] at e; cases e) (fun _ => rfl)) fun _ => Xk rfl rfl (Lk.pick rfl rfl (fun e => by cases e) (fun _ => rfl)) fun _ => R.nil ?_; exact hIh_9 false _ _ _ (lq rfl (lq rfl (lq rfl (lq rfl (lq rfl (lq rfl (lq rfl (lq rfl (lq rfl (lz _)))))))))) (ok.sub (.cons_cons _ (.cons_cons _ sl0))) (H.add_sub ok (.cons_cons _ (.cons_cons _ sl0))) hS
              · rw [if_neg e7] at hS; replace e7 := eq_false_of_ne_true e7; refine EvC.condF rfl e7 (EvC.exit ?_); exact hIh_7 (c2_0_5, c2_1_5) _ _ _ (lq rfl (lq rfl (lq rfl (lq rfl (lq rfl (lz _)))))) (ok.sub (.cons_cons _ (.cons_cons _ sl0))) (H.add_sub ok (.cons_cons _ (.cons_cons _ sl0))) hS
          · rw [if_neg e2] at hS; replace e2 := eq_false_of_ne_true e2; refine EvC.condF rfl e2 (EvC.exit ?_); exact hIh_4 (c2_0_3, c2_1_3) _ _ _ (lq rfl (lq rfl (lz _))) (ok.sub (.cons_cons _ (.cons_cons _ sl0))) (H.add_sub ok (.cons_cons _ (.cons_cons _ sl0))) hS
      · refine EvC.seq (Xr [.look 0, .look 1, .look 2, .look 3] (Xk (v := (.pointer (some ⟨b1, 1, none⟩))) rfl rfl (Lk.fldAddr rfl Tryz.underlying26 rfl rfl T24 rfl rfl rfl) fun _ => ?_)); refine Xk rfl rfl (Lk.load1 (v := (.slice p0_1.a p0_1.l p0_1.c)) rfl Tryz.underlying24 rfl rfl (H.rd_loc ok (i := 2) rfl rfl)) fun _ => ?_; refine Xk rfl rfl (Lk.len rfl Tryz.underlying24 rfl) fun _ => ?_; refine Xm rfl rfl rfl rfl fun _ => ?_; refine R.nil (EvC.block (EvC.loop (LoopC.lfp (σ := Int × Sl × Sl × Sl × Sl) (fun s => (Ep (Ep (Ep (Ep (Ep (Ep E0 43 (i6 s.1)) 42 (i6 (p0_1.l : Int))) 41 (.slice p0_1.a p0_1.l p0_1.c)) 4 (.pointer (some ⟨b4, 0, none⟩))) 2 (.pointer (some ⟨b2, 0, none⟩))) 1 (.pointer (some ⟨b1, 0, none⟩)))) (fun s => [(b4, .row ⟨[(.slice s.2.1.a s.2.1.l s.2.1.c), (.slice s.2.2.1.a s.2.2.1.l s.2.2.1.c)], 2, 33, true, true⟩), (b2, .row ⟨[(.slice s.2.2.2.1.a s.2.2.2.1.l s.2.2.2.1.c), (.slice s.2.2.2.2.a s.2.2.2.2.l s.2.2.2.2.c)], 2, 33, true, true⟩), (b1, .row ⟨[(.slice p0_0.a p0_0.l p0_0.c), (.slice p0_1.a p0_1.l p0_1.c)], 2, 26, true, true⟩)]) (fun X_2 hX_2 => ?_) hS (ok.sub (.cons_cons _ (.cons_cons _ (.cons_cons _ sl0)))) (lq rfl (lq rfl (lq rfl (lq rfl (lq rfl (lq rfl (lz _))))))) (H.add_sub ok (.cons_cons _ (.cons_cons _ (.cons_cons _ sl0))))))); rintro ⟨v43, c4_0_2, c4_1_2, c2_0_6, c2_1_6⟩ h_11 hS ok; replace hS : S28_l7 p0_0 p0_1 K X_2 v43 c4_0_2 c4_1_2 c2_0_6 c2_1_6 h_11 := hS; unfold S28_l7 at hS; refine EvC.seq (Xr [.look 0] (Xk rfl rfl (Lk.arith rfl rfl rfl rfl) fun _ => ?_)); refine R.nil (EvC.seq ?_)
        by_cases e27 : (decide (v43 < (p0_1.l : Int))) = true
        · rw [if_pos e27] at hS; refine EvC.condT rfl e27 (EvC.skip (EvC.seq (EvC.block (EvC.seq (Xr [.look 0, .look 1, .alc 2, .eff 3 []] ?_)))))
          obtain ⟨a45, e28, e29, e30, hS⟩ := hS
          refine Xk rfl rfl (Lk.ixAddr rfl Tryz.underlying24 T29 rfl e28 rfl e29 e30) fun _ => ?_
          obtain ⟨v46_0, v46_1, v46_2, e31, hS⟩ := hS
          refine Xk rfl rfl (Look.loc ok (Lk.loadN rfl Tryz.underlying29 rfl T29 rfl e31)) fun _ => ?_; refine R.var (blk := .row ⟨[(i6 0), (i6 0), (.slice none 0 0)], 3, 29, true, true⟩) ok rfl rfl rfl (Ac.alloc rfl T29) rfl rfl fun b8 ok => ?_; refine R.effN rfl rfl rfl (Ef.storeLoc (i := 0) (vs := [(i6 v46_0), (i6 v46_1), (.slice v46_2.a v46_2.l v46_2.c)]) (cs := [(i6 v46_0), (i6 v46_1), (.slice v46_2.a v46_2.l v46_2.c)]) (l' := [(b8, .row ⟨[(i6 v46_0), (i6 v46_1), (.slice v46_2.a v46_2.l v46_2.c)], 3, 29, true, true⟩), (b4, .row ⟨[(.slice c4_0_2.a c4_0_2.l c4_0_2.c), (.slice c4_1_2.a c4_1_2.l c4_1_2.c)], 2, 33, true, true⟩), (b2, .row ⟨[(.slice c2_0_6.a c2_0_6.l c2_0_6.c), (.slice c2_1_6.a c2_1_6.l c2_1_6.c)], 2, 33, true, true⟩), (b1, .row ⟨[(.slice p0_0.a p0_0.l p0_0.c), (.slice p0_1.a p0_1.l p0_1.c)], 2, 26, true, true⟩)]) ok rfl T29 rfl rfl rfl rfl rfl rfl rfl rfl rfl rfl fun ok => ⟨noChk, ?_⟩); refine R.nil (EvC.seq (Xr [.look 0, .look 1, .eff 2 [], .look 3, .look 4, .look 5, .alc 6, .eff 7 [], .look 8] (Xk rfl rfl (Lk.loadN (vs := [(.slice p0_0.a p0_0.l p0_0.c), (.slice p0_1.a p0_1.l p0_1.c)]) rfl Tryz.underlying26 rfl T26 rfl (H.rdn_loc ok (i := 3) rfl rfl rfl)) fun _ => Xk rfl rfl (Lk.loadN (vs := [(i6 v46_0), (i6 v46_1), (.slice v46_2.a v46_2.l v46_2.c)]) rfl Tryz.underlying29 rfl T29 rfl (H.rdn_loc ok (i := 0) rfl rfl rfl)) fun _ => R.eff rfl rfl rfl (Eff.loc ok (Ef.call rfl CB66 rfl ((f66_ok hS).mono ?_)))))); rintro _ h_12 ⟨v50_0_0, v50_0_1, v50_0_2, v50_0_3, v50_1, rfl, hS⟩; refine fun ok => ⟨noChk, ?_⟩; refine Xm rfl rfl rfl rfl fun _ => ?_; refine Xk rfl rfl (Lk.extract rfl rfl rfl) fun _ => ?_; refine Xk rfl rfl (Lk.extract rfl rfl rfl) fun _ => ?_; refine R.var (blk := .row ⟨[(i6 0), (i6 0), (i6 0), (.string ⟨#[]⟩)], 4, 61, true, true⟩) ok rfl rfl rfl (Ac.alloc rfl T61) rfl rfl fun b9 ok => ?_; refine R.effN rfl rfl rfl (Ef.storeLoc (i := 0) (vs := [(i6 v50_0_0), (i6 v50_0_1), (i6 v50_0_2), (.string v50_0_3)]) (cs := [(i6 v50_0_0), (i6 v50_0_1), (i6 v50_0_2), (.string v50_0_3)]) (l' := [(b9, .row ⟨[(i6 v50_0_0), (i6 v50_0_1), (i6 v50_0_2), (.string v50_0_3)], 4, 61, true, true⟩), (b8, .row ⟨[(i6 v46_0), (i6 v46_1), (.slice v46_2.a v46_2.l v46_2.c)], 3, 29, true, true⟩), (b4, .row ⟨[(.slice c4_0_2.a c4_0_2.l c4_0_2.c), (.slice c4_1_2.a c4_1_2.l c4_1_2.c)], 2, 33, true, true⟩), (b2, .row ⟨[(.slice c2_0_6.a c2_0_6.l c2_0_6.c), (.slice c2_1_6.a c2_1_6.l c2_1_6.c)], 2, 33, true, true⟩), (b1, .row ⟨[(.slice p0_0.a p0_0.l p0_0.c), (.slice p0_1.a p0_1.l p0_1.c)], 2, 26, true, true⟩)]) ok rfl T61 rfl rfl rfl rfl rfl rfl rfl rfl rfl rfl fun ok => ⟨noChk, ?_⟩); refine Xa rfl rfl rfl rfl fun _ => ?_; refine R.nil (EvC.seq (EvC.seq (Xr [.look 0, .look 1] (Xm rfl rfl rfl rfl fun _ => Xk rfl rfl (Lk.arith rfl rfl rfl rfl) fun _ => R.nil ?_))))
          by_cases e32 : (v50_1 != 0) = true
          · rw [if_pos e32] at hS; refine EvC.condT rfl e32 (EvC.seq (Xr [.look 0, .look 1, .eff 2 [], .look 3] (Xk rfl rfl (Lk.loadN (vs := [(.slice c4_0_2.a c4_0_2.l c4_0_2.c), (.slice c4_1_2.a c4_1_2.l c4_1_2.c)]) rfl Tryz.underlying33 rfl T33 rfl (H.rdn_loc ok (i := 2) rfl rfl rfl)) fun _ => ?_))); refine Xm rfl rfl rfl rfl fun _ => ?_; refine R.effN rfl rfl rfl (Ef.storeLoc (i := 3) (vs := [(.slice c4_0_2.a c4_0_2.l c4_0_2.c), (.slice c4_1_2.a c4_1_2.l c4_1_2.c)]) (cs := [(.slice c4_0_2.a c4_0_2.l c4_0_2.c), (.slice c4_1_2.a c4_1_2.l c4_1_2.c)]) (l' := [(b9, .row ⟨[(i6 v50_0_0), (i6 v50_0_1), (i6 v50_0_2), (.string v50_0_3)], 4, 61, true, true⟩), (b8, .row ⟨[(i6 v46_0), (i6 v46_1), (.slice v46_2.a v46_2.l v46_2.c)], 3, 29, true, true⟩), (b4, .row ⟨[(.slice c4_0_2.a c4_0_2.l c4_0_2.c), (.slice c4_1_2.a c4_1_2.l c4_1_2.c)], 2, 33, true, true⟩), (b2, .row ⟨[(.slice c4_0_2.a c4_0_2.l c4_0_2.c), (.slice c4_1_2.a c4_1_2.l c4_1_2.c)], 2, 33, true, true⟩), (b1, .row ⟨[(.slice p0_0.a p0_0.l p0_0.c), (.slice p0_1.a p0_1.l p0_1.c)], 2, 26, true, true⟩)]) ok rfl T33 rfl rfl rfl rfl rfl rfl rfl rfl rfl rfl fun ok => ⟨noChk, ?_⟩); refine Xa rfl rfl rfl rfl fun _ => ?_; refine R.nil (EvC.ret ?_); exact ⟨.inr rfl, _, _, (.cons (.cells rfl (fun w => Und.agg Tryz.underlying33 w) (fun w => T33.size_ w) (H.rdn_loc ok (i := 3) rfl rfl rfl)) (.cons (.tmp rfl) .nil)), ok.le, _, _, _, rfl, hS⟩
          · rw [if_neg e32] at hS; replace e32 := eq_false_of_ne_true e32; refine EvC.condF rfl e32 (EvC.skip (Xr [.look 0, .look 1, .look 2, .alc 3, .eff 4 [], .look 5, .eff 6 []] (Xk (v := (.pointer (some ⟨b4, 1, none⟩))) rfl rfl (Lk.fldAddr rfl Tryz.underlying33 rfl rfl T31 rfl rfl rfl) fun _ => ?_))); refine Xk rfl rfl (Lk.load1 (v := (.slice c4_1_2.a c4_1_2.l c4_1_2.c)) rfl Tryz.underlying31 rfl rfl (H.rd_loc ok (i := 2) rfl rfl)) fun _ => ?_; refine Xk rfl rfl (Lk.loadN (vs := [(i6 v50_0_0), (i6 v50_0_1), (i6 v50_0_2), (.string v50_0_3)]) rfl Tryz.underlying61 rfl T61 rfl (H.rdn_loc ok (i := 0) rfl rfl rfl)) fun _ => ?_; refine R.appL (cs := [(i6 v50_0_0), (i6 v50_0_1), (i6 v50_0_2), (.string v50_0_3)]) ok rfl rfl rfl rfl rfl rfl rfl rfl Tryz.underlying31 T61 rfl (by decide) (by decide) rfl rfl rfl rfl rfl (fun _ => rfl) hS ?_; intro bb60 v61 h_13 hS ok; refine ⟨noChk, ?_⟩; refine Xk (v := (.pointer (some ⟨b4, 1, none⟩))) rfl rfl (Lk.fldAddr rfl Tryz.underlying33 rfl rfl T31 rfl rfl rfl) fun _ => ?_; refine R.effN rfl rfl rfl (Ef.storeLoc (i := 2) (vs := [(.slice v61.a v61.l v61.c)]) (cs := [(.slice c4_0_2.a c4_0_2.l c4_0_2.c), (.slice v61.a v61.l v61.c)]) (l' := [(b9, .row ⟨[(i6 v50_0_0), (i6 v50_0_1), (i6 v50_0_2), (.string v50_0_3)], 4, 61, true, true⟩), (b8, .row ⟨[(i6 v46_0), (i6 v46_1), (.slice v46_2.a v46_2.l v46_2.c)], 3, 29, true, true⟩), (b4, .row ⟨[(.slice c4_0_2.a c4_0_2.l c4_0_2.c), (.slice v61.a v61.l v61.c)], 2, 33, true, true⟩), (b2, .row ⟨[(.slice c2_0_6.a c2_0_6.l c2_0_6.c), (.slice c2_1_6.a c2_1_6.l c2_1_6.c)], 2, 33, true, true⟩), (b1, .row ⟨[(.slice p0_0.a p0_0.l p0_0.c), (.slice p0_1.a p0_1.l p0_1.c)], 2, 26, true, true⟩)]) ok rfl T31 rfl rfl rfl rfl rfl rfl rfl rfl rfl rfl fun ok => ⟨noChk, ?_⟩); refine R.nil (Xr [.look 0, .look 1] (Xk rfl rfl (Lk.arith rfl rfl rfl rfl) fun _ => Xm rfl rfl rfl rfl fun _ => R.nil ?_)); exact hX_2 ((IntKind.wrap .i64 (v43 + 1)), c4_0_2, v61, c2_0_6, c2_1_6) _ _ _ hS (ok.sub (.cons _ (.cons _ (.cons_cons _ (.cons_cons _ (.cons_cons _ sl0)))))) (lq rfl (lq rfl (lq rfl (lq rfl (lq rfl (lq rfl (lz _))))))) (H.add_sub ok (.cons _ (.cons _ (.cons_cons _ (.cons_cons _ (.cons_cons _ sl0))))))
        · rw [if_neg e27] at hS; replace e27 := eq_false_of_ne_true e27; refine EvC.condF rfl e27 (EvC.exit ?_); exact hIh_3 (c4_0_2, c4_1_2, c2_0_6, c2_1_6) _ _ _ (lq rfl (lq rfl (lq rfl (lz _)))) (ok.sub (.cons_cons _ (.cons_cons _ (.cons_cons _ sl0)))) (H.add_sub ok (.cons_cons _ (.cons_cons _ (.cons_cons _ sl0)))) hS
    · refine EvC.seq (Xr [.look 0, .look 1, .look 2, .look 3] (Xk (v := (.pointer (some ⟨b1, 0, none⟩))) rfl rfl (Lk.fldAddr rfl Tryz.underlying26 rfl rfl T23 rfl rfl rfl) fun _ => ?_)); refine Xk rfl rfl (Lk.load1 (v := (.slice p0_0.a p0_0.l p0_0.c)) rfl Tryz.underlying23 rfl rfl (H.rd_loc ok (i := 2) rfl rfl)) fun _ => ?_; refine Xk rfl rfl (Lk.len rfl Tryz.underlying23 rfl) fun _ => ?_; refine Xm rfl rfl rfl rfl fun _ => ?_; refine R.nil (EvC.block (EvC.loop (LoopC.lfp (σ := Int × Sl × Sl × Sl × Sl) (fun s => (Ep (Ep (Ep (Ep (Ep (Ep E0 21 (i6 s.1)) 20 (i6 (p0_0.l : Int))) 19 (.slice p0_0.a p0_0.l p0_0.c)) 4 (.pointer (some ⟨b4, 0, none⟩))) 2 (.pointer (some ⟨b2, 0, none⟩))) 1 (.pointer (some ⟨b1, 0, none⟩)))) (fun s => [(b4, .row ⟨[(.slice s.2.1.a s.2.1.l s.2.1.c), (.slice s.2.2.1.a s.2.2.1.l s.2.2.1.c)], 2, 33, true, true⟩), (b2, .row ⟨[(.slice s.2.2.2.1.a s.2.2.2.1.l s.2.2.2.1.c), (.slice s.2.2.2.2.a s.2.2.2.2.l s.2.2.2.2.c)], 2, 33, true, true⟩), (b1, .row ⟨[(.slice p0_0.a p0_0.l p0_0.c), (.slice p0_1.a p0_1.l p0_1.c)], 2, 26, true, true⟩)]) (fun X_3 hX_3 => ?_) hS (ok.sub (.cons_cons _ (.cons_cons _ (.cons_cons _ sl0)))) (lq rfl (lq rfl (lq rfl (lq rfl (lq rfl (lq rfl (lz _))))))) (H.add_sub ok (.cons_cons _ (.cons_cons _ (.cons_cons _ sl0))))))); rintro ⟨v21, c4_0_3, c4_1_3, c2_0_7, c2_1_7⟩ h_14 hS ok; replace hS : S28_l9 p0_0 p0_1 K X_3 v21 c4_0_3 c4_1_3 c2_0_7 c2_1_7 h_14 := hS; unfold S28_l9 at hS; refine EvC.seq (Xr [.look 0] (Xk rfl rfl (Lk.arith rfl rfl rfl rfl) fun _ => ?_)); refine R.nil (EvC.seq ?_)
      by_cases e33 : (decide (v21 < (p0_0.l : Int))) = true
      · rw [if_pos e33] at hS; refine EvC.condT rfl e33 (EvC.skip (EvC.seq (EvC.block (EvC.seq (Xr [.look 0, .look 1, .alc 2, .eff 3 []] ?_)))))
        obtain ⟨a23, e34, e35, e36, hS⟩ := hS
        refine Xk rfl rfl (Lk.ixAddr rfl Tryz.underlying23 T79 rfl e34 rfl e35 e36) fun _ => ?_
        obtain ⟨v24_0, v24_1, v24_2, v24_3, e37, hS⟩ := hS
        refine Xk rfl rfl (Look.loc ok (Lk.loadN rfl Tryz.underlying79 rfl T79 rfl e37)) fun _ => ?_; refine R.var (blk := .row ⟨[(i6 0), (i6 0), (i6 0), (i6 0)], 4, 79, true, true⟩) ok rfl rfl rfl (Ac.alloc rfl T79) rfl rfl fun b6 ok => ?_; refine R.effN rfl rfl rfl (Ef.storeLoc (i := 0) (vs := [(i6 v24_0), (i6 v24_1), (i6 v24_2), (i6 v24_3)]) (cs := [(i6 v24_0), (i6 v24_1), (i6 v24_2), (i6 v24_3)]) (l' := [(b6, .row ⟨[(i6 v24_0), (i6 v24_1), (i6 v24_2), (i6 v24_3)], 4, 79, true, true⟩), (b4, .row ⟨[(.slice c4_0_3.a c4_0_3.l c4_0_3.c), (.slice c4_1_3.a c4_1_3.l c4_1_3.c)], 2, 33, true, true⟩), (b2, .row ⟨[(.slice c2_0_7.a c2_0_7.l c2_0_7.c), (.slice c2_1_7.a c2_1_7.l c2_1_7.c)], 2, 33, true, true⟩), (b1, .row ⟨[(.slice p0_0.a p0_0.l p0_0.c), (.slice p0_1.a p0_1.l p0_1.c)], 2, 26, true, true⟩)]) ok rfl T79 rfl rfl rfl rfl rfl rfl rfl rfl rfl rfl fun ok => ⟨noChk, ?_⟩); refine R.nil (EvC.seq (EvC.seq (Xr [.look 0, .eff 1 [], .look 2] (Xk rfl rfl (Lk.loadN (vs := [(i6 v24_0), (i6 v24_1), (i6 v24_2), (i6 v24_3)]) rfl Tryz.underlying79 rfl T79 rfl (H.rdn_loc ok (i := 0) rfl rfl rfl)) fun _ => R.eff rfl rfl rfl (Eff.loc ok (Ef.call rfl CB65 rfl ((f65_ok hS).mono ?_))))))); rintro _ h_15 ⟨v26, rfl, hS⟩; refine fun ok => ⟨noChk, ?_⟩; refine Xk rfl rfl (Lk.not rfl rfl) fun _ => ?_; refine R.nil ?_
        by_cases e38 : (!v26) = true
        · rw [if_pos e38] at hS; refine EvC.condT rfl e38 (EvC.seq (Xr [.look 0, .eff 1 [], .look 2] (Xk rfl rfl (Lk.loadN (vs := [(.slice c4_0_3.a c4_0_3.l c4_0_3.c), (.slice c4_1_3.a c4_1_3.l c4_1_3.c)]) rfl Tryz.underlying33 rfl T33 rfl (H.rdn_loc ok (i := 1) rfl rfl rfl)) fun _ => ?_))); refine R.effN rfl rfl rfl (Ef.storeLoc (i := 2) (vs := [(.slice c4_0_3.a c4_0_3.l c4_0_3.c), (.slice c4_1_3.a c4_1_3.l c4_1_3.c)]) (cs := [(.slice c4_0_3.a c4_0_3.l c4_0_3.c), (.slice c4_1_3.a c4_1_3.l c4_1_3.c)]) (l' := [(b6, .row ⟨[(i6 v24_0), (i6 v24_1), (i6 v24_2), (i6 v24_3)], 4, 79, true, true⟩), (b4, .row ⟨[(.slice c4_0_3.a c4_0_3.l c4_0_3.c), (.slice c4_1_3.a c4_1_3.l c4_1_3.c)], 2, 33, true, true⟩), (b2, .row ⟨[(.slice c4_0_3.a c4_0_3.l c4_0_3.c), (.slice c4_1_3.a c4_1_3.l c4_1_3.c)], 2, 33, true, true⟩), (b1, .row ⟨[(.slice p0_0.a p0_0.l p0_0.c), (.slice p0_1.a p0_1.l p0_1.c)], 2, 26, true, true⟩)]) ok rfl T33 rfl rfl rfl rfl rfl rfl rfl rfl rfl rfl fun ok => ⟨noChk, ?_⟩); refine Xa rfl rfl rfl rfl fun _ => ?_; refine R.nil (EvC.ret ?_); exact ⟨.inr rfl, _, _, (.cons (.cells rfl (fun w => Und.agg Tryz.underlying33 w) (fun w => T33.size_ w) (H.rdn_loc ok (i := 2) rfl rfl rfl)) (.cons (.tmp rfl) .nil)), ok.le, _, _, _, rfl, hS⟩
        · rw [if_neg e38] at hS; replace e38 := eq_false_of_ne_true e38; refine EvC.condF rfl e38 (EvC.skip (EvC.draw [0, 1, 0, 4, 0, 16, 60, 124, 255, 511, 1023] [Item.look 0, Item.look 1, Item.look 2, Item.look 3, Item.look 4, Item.look 5, Item.look 6, Item.alc 7, Item.eff 8 [], Item.look 9, Item.eff 10 []] MO (by kernel_rfl) ?_)); refine Xk (v := (.pointer (some ⟨b4, 0, none⟩))) rfl rfl (Lk.fldAddr rfl Tryz.underlying33 rfl rfl T30 rfl rfl rfl) fun _ => ?_; refine Xk rfl rfl (Lk.load1 (v := (.slice c4_0_3.a c4_0_3.l c4_0_3.c)) rfl Tryz.underlying30 rfl rfl (H.rd_loc ok (i := 1) rfl rfl)) fun _ => ?_; refine Xk (v := (.pointer (some ⟨b6, 0, none⟩))) rfl rfl (Lk.fldAddr rfl Tryz.underlying79 rfl rfl T77 rfl rfl rfl) fun _ => ?_; refine Xk rfl rfl (Lk.loadN (vs := [(i6 v24_0), (i6 v24_1)]) rfl Tryz.underlying77 rfl T77 rfl (H.rdn_loc ok (i := 0) rfl rfl rfl)) fun _ => ?_; refine Xk (v := (.pointer (some ⟨b6, 2, none⟩))) rfl rfl (Lk.fldAddr rfl Tryz.underlying79 rfl rfl T77 rfl rfl rfl) fun _ => ?_; refine Xk rfl rfl (Lk.loadN (vs := [(i6 v24_2), (i6 v24_3)]) rfl Tryz.underlying77 rfl T77 rfl (H.rdn_loc ok (i := 0) rfl rfl rfl)) fun _ => ?_; refine R.look (v := (.bool (!((v24_0 == v24_2) && ((v24_1 == v24_3) && true))))) rfl rfl rfl (Lk.neS rfl EG77 rfl rfl (EqR.struct Tryz.underlying77 SH77 (EqF.cons (a := (i6 v24_0)) (b := (i6 v24_2)) (by decide) Tryz.underlying3 T3 rfl rfl (EqR.int Tryz.underlying3) (EqF.cons (a := (i6 v24_1)) (b := (i6 v24_3)) (by decide) Tryz.underlying3 T3 rfl rfl (EqR.int Tryz.underlying3) EqF.nil)))) fun _ => R.appL (cs := [(.bool (!((v24_0 == v24_2) && ((v24_1 == v24_3) && true))))]) ok rfl rfl rfl rfl rfl rfl rfl rfl Tryz.underlying30 T4 rfl (by decide) (by decide) rfl rfl rfl rfl rfl (fun _ => rfl) hS ?_; intro bb36 v37 h_16 hS ok; refine ⟨noChk, ?_⟩; refine Xk (v := (.pointer (some ⟨b4, 0, none⟩))) rfl rfl (Lk.fldAddr rfl Tryz.underlying33 rfl rfl T30 rfl rfl rfl) fun _ => ?_; refine R.effN rfl rfl rfl (Ef.storeLoc (i := 1) (vs := [(.slice v37.a v37.l v37.c)]) (cs := [(.slice v37.a v37.l v37.c), (.slice c4_1_3.a c4_1_3.l c4_1_3.c)]) (l' := [(b6, .row ⟨[(i6 v24_0), (i6 v24_1), (i6 v24_2), (i6 v24_3)], 4, 79, true, true⟩), (b4, .row ⟨[(.slice v37.a v37.l v37.c), (.slice c4_1_3.a c4_1_3.l c4_1_3.c)], 2, 33, true, true⟩), (b2, .row ⟨[(.slice c2_0_7.a c2_0_7.l c2_0_7.c), (.slice c2_1_7.a c2_1_7.l c2_1_7.c)], 2, 33, true, true⟩), (b1, .row ⟨[(.slice p0_0.a p0_0.l p0_0.c), (.slice p0_1.a p0_1.l p0_1.c)], 2, 26, true, true⟩)]) ok rfl T30 rfl rfl rfl rfl rfl rfl rfl rfl rfl rfl fun ok => ⟨noChk, ?_⟩); refine R.nil (Xr [.look 0, .look 1] (Xk rfl rfl (Lk.arith rfl rfl rfl rfl) fun _ => Xm rfl rfl rfl rfl fun _ => R.nil ?_))
          exact hX_3 ((IntKind.wrap .i64 (v21 + 1)), v37, c4_1_3, c2_0_7, c2_1_7) _ _ _ hS (ok.sub (.cons _ (.cons_cons _ (.cons_cons _ (.cons_cons _ sl0))))) (lq rfl (lq rfl (lq rfl (lq rfl (lq rfl (lq rfl (lz _))))))) (H.add_sub ok (.cons _ (.cons_cons _ (.cons_cons _ (.cons_cons _ sl0)))))
      · rw [if_neg e33] at hS; replace e33 := eq_false_of_ne_true e33; refine EvC.condF rfl e33 (EvC.exit ?_); exact hIh_2 (c4_0_3, c4_1_3, c2_0_7, c2_1_7) _ _ _ (lq rfl (lq rfl (lq rfl (lz _)))) (ok.sub (.cons_cons _ (.cons_cons _ (.cons_cons _ sl0)))) (H.add_sub ok (.cons_cons _ (.cons_cons _ (.cons_cons _ sl0)))) hS

theorem f96_ok {p0 : ByteArray} {p1 : ByteArray} {h : H} {K : ByteArray → H → Prop} (hS : S96 p0 p1 h K) : ACall Tryz.prog 96 ([(.string p0), (.string p1)] : List Value).toArray h (fun r h' => ∃ r0 : ByteArray, r = tup [(.string r0)] ∧ K r0 h') := by
  refine ACall.enter (fn := Tryz.f96) Tryz.func96 rfl (Nat.le_of_ble_eq_true rfl) ?_; unfold S96 at hS; have ok := Lok.nil h; refine EvC.seq (Xr [.look 0] (Xa rfl rfl rfl rfl fun _ => ?_)); refine R.nil (EvC.join (σ := ByteArray) (fun s => (Ep E0 0 (.string s))) (fun s => []) (fun s h_1 => S96_j1 K s h_1) ?_ (fun Ih_1 hIh_1 => ?_))
  · intro v0 h_1 ok hS; replace hS : S96_j1 K v0 h_1 := hS; unfold S96_j1 at hS; refine EvC.seq (Xr [.look 0, .look 1] (Xm rfl rfl rfl rfl fun _ => ?_)); refine Xa rfl rfl rfl rfl fun _ => ?_; refine R.nil (EvC.ret ?_); exact ⟨.inr rfl, _, _, (.cons (.tmp rfl) .nil), ok.le, _, rfl, hS⟩
  · refine EvC.block (EvC.loop (LoopC.lfp (σ := ByteArray) (fun s => (Ep (Ep E0 1 (.string p1)) 0 (.string s))) (fun s => []) (fun X hX => ?_) hS (ok.sub sl0) (lq rfl (lq rfl (lz _))) (H.add_sub ok sl0))); intro v0_1 h_2 hS ok; replace hS : S96_l2 K v0_1 h_2 := hS; unfold S96_l2 at hS; refine EvC.seq (EvC.seq (Xr [.look 0, .look 1, .look 2] (Xm rfl rfl rfl rfl fun _ => ?_))); refine Xk rfl rfl (Lk.lenS rfl Tryz.underlying9 rfl) fun _ => ?_; refine Xk rfl rfl (Lk.arith rfl rfl rfl rfl) fun _ => ?_; refine R.nil ?_
    by_cases e1 : (decide ((ByteArray.size v0_1 : Int) > 0)) = true
    · rw [if_pos e1] at hS; refine EvC.condT rfl e1 (EvC.skip (EvC.block (EvC.seq ?_))); exact hS.elim
    · rw [if_neg e1] at hS; replace e1 := eq_false_of_ne_true e1; refine EvC.condF rfl e1 (EvC.exit ?_); exact hIh_1 v0_1 _ _ _ (lq rfl (lz _)) (ok.sub sl0) (H.add_sub ok sl0) hS

theorem f97_ok {p0 : ByteArray} {p1 : ByteArray} {h : H} {K : ByteArray → H → Prop} (hS : S97 p0 p1 h K) : ACall Tryz.prog 97 ([(.string p0), (.string p1)] : List Value).toArray h (fun r h' => ∃ r0 : ByteArray, r = tup [(.string r0)] ∧ K r0 h') := by
  refine ACall.enter (fn := Tryz.f97) Tryz.func97 rfl (Nat.le_of_ble_eq_true rfl) ?_; unfold S97 at hS; have ok := Lok.nil h; refine EvC.seq (Xr [.look 0] (Xa rfl rfl rfl rfl fun _ => ?_)); refine R.nil (EvC.join (σ := Unit) (fun s => E0) (fun s => []) (fun s h_1 => S97_j1 K h_1) ?_ (fun Ih_1 hIh_1 => ?_))
  · rintro ⟨⟩ h_1 ok hS; replace hS : S97_j1 K h_1 := hS; unfold S97_j1 at hS; refine EvC.seq (Xr [.look 0] (Xa rfl rfl rfl rfl fun _ => ?_)); refine R.nil (EvC.ret ?_); exact ⟨.inr rfl, _, _, (.cons (.tmp rfl) .nil), ok.le, _, rfl, hS⟩
  · refine EvC.seq (Xr [.look 0, .alc 1] (Xm rfl rfl rfl rfl fun _ => ?_)); refine R.var (blk := .obj (.stringIter p0 0)) ok rfl rfl rfl (Ac.range rfl Tryz.underlying9 rfl) trivial rfl fun b11 ok => ?_; refine R.nil (EvC.block (EvC.loop (LoopC.lfp (σ := Nat) (fun s => (Ep (Ep (Ep E0 11 (.pointer (some ⟨b11, 0, none⟩))) 1 (.string p1)) 0 (.string p0))) (fun s => [(b11, .obj (.stringIter p0 s))]) (fun X hX => ?_) hS (ok.sub (.cons_cons _ sl0)) (lq rfl (lq rfl (lq rfl (lz _)))) (H.add_sub ok (.cons_cons _ sl0))))); intro c11_1 h_2 hS ok; replace hS : S97_l2 p0 K c11_1 h_2 := hS; unfold S97_l2 at hS; refine EvC.seq (Xr [.eff 0 [], .look 1] ?_)
    by_cases e1 : c11_1 < ByteArray.size p0
    · rw [if_pos e1] at hS; refine R.eff rfl rfl rfl (Ef.nextLoc (i := 0) (l' := [(b11, .obj (.stringIter p0 (c11_1 + (Utf8.decode p0 c11_1).2)))]) ok rfl rfl rfl e1 rfl fun ok => ⟨noChk, ?_⟩); refine Xk rfl rfl (Lk.extract rfl rfl rfl) fun _ => ?_; refine R.nil (EvC.seq (EvC.condT rfl rfl (EvC.skip (EvC.block (EvC.seq ?_))))); exact hS.elim
    · rw [if_neg e1] at hS; refine R.eff rfl rfl rfl (Ef.nextEnd (i := 0) ok rfl rfl rfl e1 ⟨noChk, ?_⟩); refine Xk rfl rfl (Lk.extract rfl rfl rfl) fun _ => ?_; refine R.nil (EvC.seq (EvC.condF rfl rfl (EvC.exit ?_))); exact hIh_1 () _ _ _ (lz _) (ok.sub (.cons _ sl0)) (H.add_sub ok (.cons _ sl0)) hS

theorem f49_ok {p0 : ByteArray} {p1 : ByteArray} {h : H} {K : Bool → H → Prop} (hS : S49 p0 p1 h K) : ACall Tryz.prog 49 ([(.string p0), (.string p1)] : List Value).toArray h (fun r h' => ∃ r0 : Bool, r = tup [(.bool r0)] ∧ K r0 h') := by
  refine ACall.enter (fn := Tryz.f49) Tryz.func49 rfl (Nat.le_of_ble_eq_true rfl) ?_; unfold S49 at hS; have ok := Lok.nil h; refine EvC.seq (Xr [.look 0] (Xa rfl rfl rfl rfl fun _ => ?_)); refine R.nil (EvC.seq (Xr [.look 0, .look 1, .eff 2 [], .look 3, .eff 4 [], .look 5, .look 6] (Xm rfl rfl rfl rfl fun _ => Xm rfl rfl rfl rfl fun _ => R.eff rfl rfl rfl (Eff.loc ok (Ef.call rfl CB97 rfl ((f97_ok hS).mono ?_)))))); rintro _ h_1 ⟨v7, rfl, hS⟩; refine fun ok => ⟨noChk, ?_⟩; refine Xm rfl rfl rfl rfl fun _ => ?_; refine R.eff rfl rfl rfl (Eff.loc ok (Ef.call rfl CB96 rfl ((f96_ok hS).mono ?_))); rintro _ h_2 ⟨v9, rfl, hS⟩; refine fun ok => ⟨noChk, ?_⟩; refine Xk rfl rfl (Lk.strEq rfl rfl rfl) fun _ => ?_; refine Xa rfl rfl rfl rfl fun _ => ?_; refine R.nil (EvC.ret ?_); exact ⟨.inr rfl, _, _, (.cons (.tmp rfl) .nil), ok.le, _, rfl, hS⟩

end Go.Proofs.YtimadnngfhbfiaaGreatDoor
end
