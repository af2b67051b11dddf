/-
  PROVED HERE: 'muntinlaw09.TextApart' answers true whatever the two raw shapes, and what was handed in reads as it did. Conditions: the package variables that the row lists hold what the program's text lays.
  Part 3 of 4.
-/
import Derived.Test.YtimadnngfhbfiaaDoorTaB
import Derived.Lib.SlTrimSet
import Derived.Lib.ItoaNum
import Derived.Laws.RangeString
import Derived.ProofKit
import Derived.Deep.Grids
import Derived.Deep.Slices
import Derived.Lib.SmallJoins
import Derived.Laws.IdiomArrays
import Derived.Carry
import Derived.Test.YtimadnngfhbfiaaDoorProg
import Derived.Shelf.Strings.SlTrimAscii
import Derived.Shelf.Strconv.Itoa3
import Derived.WalkKit
import Derived.Laws.Externs
import Derived.Lib.Builder

section
/- PRINTED by wip/gen.py: what muntin/muntinlaw11.NormBack does, in the words of Mu. -/
namespace Go.Proofs.YtimadnngfhbfiaaDoor
open Go Go.Mu
/- muntin/muntinlaw11.NormBack -/
def S5_j1 (K : Bool → H → Prop) (v4 : Bool) (h_11 : H) : Prop :=
  K v4 h_11
def S5_j2 (p1 : Int) (K : Bool → H → Prop) (v15_1 : Sl) (v18_0_2 : Sl) (v57_0_2 : Sl) (v124 : Bool) (h_10 : H) : Prop :=
  (if v124 = true then K true h_10 else (∃ a128 : Addr, v57_0_2.a = some a128 ∧ 0 ≤ (Int.tmod (IntKind.wrap .i64 p1) (v15_1.l : Int)) ∧ (Int.tmod (IntKind.wrap .i64 p1) (v15_1.l : Int)) < (v57_0_2.l : Int) ∧ (∃ (v129 : Sl), H.rd h_10 (Addr.add a128 (Int.toNat (Int.tmod (IntKind.wrap .i64 p1) (v15_1.l : Int)) * 1)) = some (.slice v129.a v129.l v129.c) ∧ (∃ a133 : Addr, v18_0_2.a = some a133 ∧ 0 ≤ (Int.tmod (IntKind.wrap .i64 p1) (v15_1.l : Int)) ∧ (Int.tmod (IntKind.wrap .i64 p1) (v15_1.l : Int)) < (v18_0_2.l : Int) ∧ (∃ (v134 : Sl), H.rd h_10 (Addr.add a133 (Int.toNat (Int.tmod (IntKind.wrap .i64 p1) (v15_1.l : Int)) * 1)) = some (.slice v134.a v134.l v134.c) ∧ (∃ a136 : Addr, v129.a = some a136 ∧ 0 ≤ (0 : Int) ∧ 0 < (v129.l : Int) ∧ (∃ (v137 : Int), H.rd h_10 (Addr.add a136 (Int.toNat 0 * 1)) = some (.int .i64 v137) ∧ (∃ a142 : Addr, v134.a = some a142 ∧ 0 ≤ (IntKind.wrap .i64 ((v134.l : Int) - 1)) ∧ (IntKind.wrap .i64 ((v134.l : Int) - 1)) < (v134.l : Int) ∧ (∃ (v143 : Int), H.rd h_10 (Addr.add a142 (Int.toNat (IntKind.wrap .i64 ((v134.l : Int) - 1)) * 1)) = some (.int .i64 v143) ∧ (if (v137 == v143) = true then (∃ a150 : Addr, v129.a = some a150 ∧ 0 ≤ (IntKind.wrap .i64 ((v129.l : Int) - 1)) ∧ (IntKind.wrap .i64 ((v129.l : Int) - 1)) < (v129.l : Int) ∧ (∃ (v151 : Int), H.rd h_10 (Addr.add a150 (Int.toNat (IntKind.wrap .i64 ((v129.l : Int) - 1)) * 1)) = some (.int .i64 v151) ∧ (∃ a153 : Addr, v134.a = some a153 ∧ 0 ≤ (0 : Int) ∧ 0 < (v134.l : Int) ∧ (∃ (v154 : Int), H.rd h_10 (Addr.add a153 (Int.toNat 0 * 1)) = some (.int .i64 v154) ∧ S5_j1 K (v151 == v154) h_10)))) else S5_j1 K false h_10))))))))))
def S5_j3 (p1 : Int) (K : Bool → H → Prop) (v15_0 : Sl) (v15_1 : Sl) (v18_0_2 : Sl) (v57_0_2 : Sl) (v102 : Bool) (h_9 : H) : Prop :=
  (if v102 = true then K false h_9 else (∃ a108 : Addr, v15_1.a = some a108 ∧ 0 ≤ (Int.tmod (IntKind.wrap .i64 p1) (v15_1.l : Int)) ∧ (Int.tmod (IntKind.wrap .i64 p1) (v15_1.l : Int)) < (v15_1.l : Int) ∧ (∃ (v110 : Int), H.rd h_9 (Addr.add a108 (Int.toNat (Int.tmod (IntKind.wrap .i64 p1) (v15_1.l : Int)) * 4)) = some (.int .i64 v110) ∧ (∃ a111 : Addr, v15_0.a = some a111 ∧ 0 ≤ v110 ∧ v110 < (v15_0.l : Int) ∧ (∃ (v112 : Bool), H.rd h_9 (Addr.add a111 (Int.toNat v110 * 1)) = some (.bool v112) ∧ (if v112 = true then S5_j2 p1 K v15_1 v18_0_2 v57_0_2 true h_9 else (∃ a119 : Addr, v15_1.a = some a119 ∧ 0 ≤ (Int.tmod (IntKind.wrap .i64 p1) (v15_1.l : Int)) ∧ (Int.tmod (IntKind.wrap .i64 p1) (v15_1.l : Int)) < (v15_1.l : Int) ∧ (∃ (v121 : Int), H.rd h_9 (Addr.add (Addr.add a119 (Int.toNat (Int.tmod (IntKind.wrap .i64 p1) (v15_1.l : Int)) * 4)) 1) = some (.int .i64 v121) ∧ (∃ a122 : Addr, v15_0.a = some a122 ∧ 0 ≤ v121 ∧ v121 < (v15_0.l : Int) ∧ (∃ (v123 : Bool), H.rd h_9 (Addr.add a122 (Int.toNat v121 * 1)) = some (.bool v123) ∧ S5_j2 p1 K v15_1 v18_0_2 v57_0_2 v123 h_9))))))))))
def S5_j4 (p1 : Int) (K : Bool → H → Prop) (v15_0 : Sl) (v15_1 : Sl) (v18_0_0 : Sl) (v18_0_1 : Sl) (v18_0_2 : Sl) (v32 : Bool) (h_3 : H) : Prop :=
  (if v32 = true then S14  h_3 (fun (v33 : Bool) (h_4 : H) => K v33 h_4) else ((v15_1.l : Int) ≠ 0 ∧ S20 v15_1 h_3 (fun (v43 : Sl) (h_5 : H) => (∃ a51 : Addr, v15_1.a = some a51 ∧ 0 ≤ (Int.tmod (IntKind.wrap .i64 p1) (v15_1.l : Int)) ∧ (Int.tmod (IntKind.wrap .i64 p1) (v15_1.l : Int)) < (v15_1.l : Int) ∧ (∃ (v52_0 : Int) (v52_1 : Int) (v52_2 : Int) (v52_3 : ByteArray), H.rdn h_5 (Addr.add a51 (Int.toNat (Int.tmod (IntKind.wrap .i64 p1) (v15_1.l : Int)) * 4)) 4 [(.int .i64 v52_0), (.int .i64 v52_1), (.int .i64 v52_2), (.string v52_3)] ∧ S21 v52_0 v52_1 v52_2 v52_3 h_5 (fun (v53_0 : Int) (v53_1 : Int) (v53_2 : Int) (v53_3 : ByteArray) (h_6 : H) => (∃ a54 : Addr, v43.a = some a54 ∧ 0 ≤ (Int.tmod (IntKind.wrap .i64 p1) (v15_1.l : Int)) ∧ (Int.tmod (IntKind.wrap .i64 p1) (v15_1.l : Int)) < (v43.l : Int) ∧ (∃ h_7 : H, H.wr h_6 (Addr.add a54 (Int.toNat (Int.tmod (IntKind.wrap .i64 p1) (v15_1.l : Int)) * 4)) [(.int .i64 v53_0), (.int .i64 v53_1), (.int .i64 v53_2), (.string v53_3)] h_7 ∧ S12 v15_0 v43 h_7 (fun (v57_0_0 : Sl) (v57_0_1 : Sl) (v57_0_2 : Sl) (v57_1 : Int) (h_8 : H) => (if (v57_1 != 0) = true then S5_j3 p1 K v15_0 v15_1 v18_0_2 v57_0_2 true h_8 else (if ((v57_0_0.l : Int) != (v18_0_0.l : Int)) = true then S5_j3 p1 K v15_0 v15_1 v18_0_2 v57_0_2 true h_8 else S17 v57_0_1 v18_0_1 h_8 (fun (v76 : Bool) (h_12 : H) => (if (!v76) = true then S5_j3 p1 K v15_0 v15_1 v18_0_2 v57_0_2 true h_12 else (if ((v57_0_2.l : Int) != (v18_0_2.l : Int)) = true then S5_j3 p1 K v15_0 v15_1 v18_0_2 v57_0_2 true h_12 else (∃ a92 : Addr, v57_0_2.a = some a92 ∧ 0 ≤ (Int.tmod (IntKind.wrap .i64 p1) (v15_1.l : Int)) ∧ (Int.tmod (IntKind.wrap .i64 p1) (v15_1.l : Int)) < (v57_0_2.l : Int) ∧ (∃ (v93 : Sl), H.rd h_12 (Addr.add a92 (Int.toNat (Int.tmod (IntKind.wrap .i64 p1) (v15_1.l : Int)) * 1)) = some (.slice v93.a v93.l v93.c) ∧ (∃ a98 : Addr, v18_0_2.a = some a98 ∧ 0 ≤ (Int.tmod (IntKind.wrap .i64 p1) (v15_1.l : Int)) ∧ (Int.tmod (IntKind.wrap .i64 p1) (v15_1.l : Int)) < (v18_0_2.l : Int) ∧ (∃ (v99 : Sl), H.rd h_12 (Addr.add a98 (Int.toNat (Int.tmod (IntKind.wrap .i64 p1) (v15_1.l : Int)) * 1)) = some (.slice v99.a v99.l v99.c) ∧ S5_j3 p1 K v15_0 v15_1 v18_0_2 v57_0_2 ((v93.l : Int) != (v99.l : Int)) h_12))))))))))))))))))
def S5 (p0_0 : Sl) (p0_1 : Sl) (p0_2 : Sl) (p1 : Int) (h : H) (K : Bool → H → Prop) : Prop :=
  S11 p0_0 p0_1 p0_2 8 h (fun (v15_0 : Sl) (v15_1 : Sl) (h_1 : H) => S12 v15_0 v15_1 h_1 (fun (v18_0_0 : Sl) (v18_0_1 : Sl) (v18_0_2 : Sl) (v18_1 : Int) (h_2 : H) => S14  h_2 (fun (v21 : Bool) (h_13 : H) => S5_j4 p1 K v15_0 v15_1 v18_0_0 v18_0_1 v18_0_2 (((!v21) || (v18_1 != 0)) || ((v15_1.l : Int) == 0)) h_13)))
end Go.Proofs.YtimadnngfhbfiaaDoor
end

section
/-
  NormBack: what the program's law answers.
-/
namespace Go.Proofs.YtimadnngfhbfiaaDoor
open Go Go.Mu Go.Shape
variable {h h0 : H}
set_option maxHeartbeats 2000000

theorem Rd.all {s : Sl} {size : Nat} {α : Type} {enc : α → List Value} {l : List α} (r : Rd h s size enc l) (hp : 0 < size) {a : Addr} (ha : s.a = some a) (hl : 0 < s.l) : h.rdn a (s.l * size) (l.flatMap enc) := by
  obtain ⟨h1, h2, h3⟩ := r
  obtain ⟨a', ha', q⟩ := h3 hl
  have : a' = a := by rw [ha] at ha'; exact (Option.some.inj ha').symm
  subst this
  have hlen : (l.flatMap enc).length = l.length * size := flatMap_len h2
  refine ⟨by rw [hlen, h1], fun j v hj => ?_⟩
  have hjl : j < l.length * size := by have := (List.getElem?_eq_some_iff.1 hj).1; omega
  have hi : j / size < l.length := (Nat.div_lt_iff_lt_mul hp).2 hjl
  have hx : l[j / size]? = some l[j / size] := List.getElem?_eq_getElem hi
  have hr := (q (j / size) _ hx)
  have hs := h2 _ (List.mem_of_getElem? hx)
  have hm : j % size < size := Nat.mod_lt _ hp
  have hv : (enc l[j / size])[j % size]? = some v := by
    have e1 : (enc l[j / size])[j % size]? = some ((enc l[j / size])[j % size]'(by omega)) := List.getElem?_eq_getElem (by omega)
    have := flatMap_at h2 hx e1
    rw [Nat.div_add_mod' j size, hj] at this
    rw [e1]; exact this.symm
  have := hr.at (j % size) hv
  rwa [Addr.add_add, Nat.div_add_mod' j size] at this
theorem oneCell_ed (es : List Ed) : ∀ u ∈ es.flatMap Ed.enc, u.oneCell' = true := by
  intro u hu
  obtain ⟨c, _, hc⟩ := List.mem_flatMap.1 hu
  simp only [Ed.enc, List.mem_cons, List.not_mem_nil, or_false] at hc
  rcases hc with rfl | rfl | rfl | rfl <;> rfl
theorem c20 {p : Sl} {es : List Ed} (r : Rd h p 4 Ed.enc es) (hp : 0 < es.length) (hn : es.length < 5000) {K : Sl → H → Prop}
    (k : ∀ s' h', St h h' (fun _ : Unit => .arr s' 54 4 (es.flatMap Ed.enc)) → K s' h') : S20 p h K := by
  have hl := r.1
  obtain ⟨a, ha, _⟩ := r.2.2 (by omega)
  unfold S20
  rw [if_neg (by simp [ha])]
  intro b1 h1 n1 e1
  have s1 : St h h1 (fun _ : Unit => .arr ⟨some ⟨b1, 0, none⟩, 0, 0⟩ 54 4 []) := by
    rw [e1]
    exact (St.init (ρ := Unit) h).allocArr (k := 0) (cap := 0) (e := 54) (size := 4) (xs := []) n1 () _ rfl (Nat.le_refl _) (by decide) rfl (fun i hi => (hi rfl).elim)
  have hxl : (es.flatMap Ed.enc).length = es.length * 4 := flatMap_len (fun _ _ => rfl)
  refine ⟨fun e => (by rw [ha] at e; cases e), _, _, s1.own () rfl, .inr ⟨a, es.flatMap Ed.enc, ha, Rd.all (r.le s1.le) (by decide) ha (by omega), oneCell_ed _, by show 0 + p.l ≤ maxLen; simp only [maxLen]; omega, by show (0 + p.l) * 40 ≤ _; omega, fun s' h2 ap => ?_⟩⟩
  obtain ⟨s2, _⟩ := s1.app () rfl rfl (by rw [hxl, hl]) ap (fun _ => .arr s' 54 4 (es.flatMap Ed.enc)) rfl (fun i hi => (hi rfl).elim)
  exact k s' h2 s2
theorem c21g {e : Ed} {f t : Int} (hd : e.d < 4) (hb : e.b.length < 1000000) {K : Int → Int → Int → ByteArray → H → Prop} (k : K t f (back e).d (bs (back e).b) h) : S21 f t e.d (bs e.b) h K := by
  unfold S21
  refine c53g hd hb ?_
  rw [bs_size]
  have hw : IntKind.i64.wrap ((e.b.length : Int) - 1) = (e.b.length : Int) - 1 := wrap64_id (by omega) (by omega)
  rw [hw]
  refine lfp.count e.b.length (fun j (s : ByteArray × Int) h' => h' = h ∧ s.1 = bs ((e.b.reverse.map fun x => !x).take j) ∧ s.2 = (e.b.length : Int) - 1 - j) (fun X j s h' hj ⟨q1, q2, q3⟩ next => ?_) ⟨rfl, rfl, by omega⟩
  obtain ⟨s1, s2⟩ := s
  simp only at q2 q3; subst q1 q2 q3
  unfold S21_l3 S21_j1 S21_j2
  rw [bs_size]
  by_cases hlt : j < e.b.length
  · rw [if_pos (by simp only [decide_eq_true_eq]; omega)]
    obtain ⟨i, hi⟩ : ∃ i : Nat, (e.b.length : Int) - 1 - j = i := ⟨e.b.length - 1 - j, by omega⟩
    rw [hi]
    have hil : i < e.b.length := by omega
    obtain ⟨x, hx⟩ : ∃ x, e.b[i]? = some x := ⟨_, List.getElem?_eq_getElem hil⟩
    have hr : (e.b.reverse.map fun x => !x)[j]? = some (!x) := by
      rw [List.getElem?_map, List.getElem?_reverse hlt, show e.b.length - 1 - j = i from by omega, hx]; rfl
    have ht : (e.b.reverse.map fun x => !x).take (j + 1) = (e.b.reverse.map fun x => !x).take j ++ [!x] := by
      rw [List.take_add_one, hr]; rfl
    have hw2 : IntKind.i64.wrap ((i : Int) - 1) = (e.b.length : Int) - 1 - ((j + 1 : Nat) : Int) := by
      rw [wrap64_id (by omega) (by omega)]; omega
    refine ⟨by omega, by omega, ?_⟩
    rw [byteAt_bs hx, letter_L, hw2]
    have sz : ∀ c : UInt8, (bs ((e.b.reverse.map fun x => !x).take j)).size + ByteArray.size ⟨#[c]⟩ ≤ 9223372036854775807 := fun c => by
      have h1 : ByteArray.size ⟨#[c]⟩ = 1 := rfl
      rw [bs_size, h1, List.length_take, List.length_map, List.length_reverse]; omega
    cases x with
    | true => rw [if_pos rfl]; exact ⟨sz _, next hlt _ _ ⟨rfl, by rw [ht]; exact bs_snoc _ false, rfl⟩⟩
    | false => rw [if_neg (by decide)]; exact ⟨sz _, next hlt _ _ ⟨rfl, by rw [ht]; exact bs_snoc _ true, rfl⟩⟩
  · rw [if_neg (by simp only [decide_eq_true_eq]; omega)]
    rw [List.take_of_length_le (by simp; omega), mod2 (lastOf_lt _ hd)]
    exact k
theorem c21 {e : Ed} {n : Nat} (ok : e.Ok n) {K : Int → Int → Int → ByteArray → H → Prop} (k : K (back e).f (back e).t (back e).d (bs (back e).b) h) : S21 e.f e.t e.d (bs e.b) h K := c21g ok.d (by have := ok.b; omega) k
theorem setL_mid : ∀ (c pre a b : List Value), a.length = c.length → setL (pre ++ a ++ b) pre.length c = pre ++ c ++ b
  | [], pre, a, b, e => by
    have : a = [] := List.eq_nil_of_length_eq_zero e
    subst this; rfl
  | v :: c, pre, [], b, e => by simp at e
  | v :: c, pre, x :: a, b, e => by
    have e1 : (pre ++ x :: a ++ b).set pre.length v = (pre ++ [v]) ++ a ++ b := by
      rw [List.append_assoc, List.set_append_right _ _ (Nat.le_refl _)]
      simp
    rw [setL, e1]
    have := setL_mid c (pre ++ [v]) a b (by simpa using e)
    rw [List.length_append, List.length_singleton] at this
    rw [this]; simp
theorem setL_all {α : Type} {enc : α → List Value} {size : Nat} {y : α} (hy : (enc y).length = size) : ∀ {l : List α} {i : Nat}, (∀ x ∈ l, (enc x).length = size) → i < l.length → setL (l.flatMap enc) (i * size) (enc y) = (l.set i y).flatMap enc := by
  intro l i hh hi
  have e1 : l = l.take i ++ l[i] :: l.drop (i + 1) := by rw [List.getElem_cons_drop, List.take_append_drop]
  have e2 : l.set i y = l.take i ++ y :: l.drop (i + 1) := by
    rw [List.set_eq_take_append_cons_drop, if_pos hi]
  have hl : ((l.take i).flatMap enc).length = i * size := by
    rw [flatMap_len (size := size) fun x hx => hh x (List.mem_of_mem_take hx), List.length_take, Nat.min_eq_left (Nat.le_of_lt hi)]
  have := setL_mid (enc y) ((l.take i).flatMap enc) (enc l[i]) ((l.drop (i + 1)).flatMap enc) (by rw [hy]; exact hh _ (List.getElem_mem hi))
  rw [hl] at this
  rw [e2, List.flatMap_append, List.flatMap_cons, ← List.append_assoc, ← this]
  congr 1
  rw [List.append_assoc, ← List.flatMap_cons, ← List.flatMap_append, ← e1]

theorem c5 {z0 z1 z2 : Sl} {p : Nat} (hp : p < 256) (raw : RawIn h z0 z1 z2) {K : Bool → H → Prop} (k : ∀ h', K true h') : S5 z0 z1 z2 p h K := by
  obtain ⟨zb, ze, zc, r0, r1, r2, u1, u2⟩ := raw.in'
  unfold S5
  refine c11 r0 r1 r2 u1 u2 fun bx es p0 p1 h1 st1 _ _ lb le ok => ?_
  have sh := two_shp st1 lb le ok
  have e1 := sh.e.len
  have fin : ∀ (x y : Sl) (a b c : Sl) (v : Bool) (hh : H), v = true → S5_j4 p K x y a b c v hh := fun x y a b c v hh hv => by
    unfold S5_j4
    rw [if_pos hv]
    exact c14 fun h' _ => k h'
  refine c12 sh (fun hs h2 l2 => ?_) (fun hs ht h2 l2 => ?_) (fun hs ht c f w ws h2 st2 hws => ?_)
  · exact c14 fun h3 l3 => fin _ _ _ _ _ _ _ (by simp)
  · exact c14 fun h3 l3 => fin _ _ _ _ _ _ _ (by simp)
  · refine c14 fun h3 l3 => ?_
    by_cases hne : es.length = 0
    · exact fin _ _ _ _ _ _ _ (by rw [e1, hne]; rfl)
    · unfold S5_j4
      rw [if_neg (by rw [e1]; simp; intro h0; exact hne (by rw [h0]; rfl)), e1]
      refine ⟨by omega, ?_⟩
      have st3 := st2.le' l3
      refine c20 (sh.e.le st3.le) (by omega) (by omega) fun s' h5 st5 => ?_
      have hpw : Int.tmod (IntKind.i64.wrap (p : Int)) (es.length : Int) = ((p % es.length : Nat) : Int) := by
        rw [wrapN (x := (p : Int)) rfl (by omega)]; rfl
      generalize hi : p % es.length = i at hpw
      have hil : i < es.length := by rw [← hi]; exact Nat.mod_lt _ (by omega)
      rw [hpw]
      obtain ⟨e, he⟩ : ∃ x, es[i]? = some x := ⟨_, List.getElem?_eq_getElem hil⟩
      have ek := ok e (List.mem_of_getElem? he)
      obtain ⟨a, ha, hrd⟩ := sh.e.ix he
      have l15 := st3.le.trans st5.le
      refine ⟨a, ha, by omega, by omega, e.f, e.t, e.d, bs e.b, by rw [Int.toNat_natCast]; exact l15.rdn hrd, ?_⟩
      refine c21 ek ?_
      have rs := st5.arr (enc := Ed.enc) () rfl (fun _ _ => rfl) (by decide)
      obtain ⟨a2, ha2, _⟩ := rs.ix he
      have hsl := rs.1
      obtain ⟨h7, w7, st7⟩ := st5.wrArr (vs := Ed.enc (back e)) (off := i * 4) () rfl ha2 (by rw [flatMap_len (size := 4) (fun _ _ => rfl), Ed.enc_len]; omega) (fun _ : Unit => .arr s' 54 4 ((es.set i (back e)).flatMap Ed.enc)) (by rw [setL_all (size := 4) (enc := Ed.enc) (y := back e) rfl (fun _ _ => rfl) hil]) (fun i hi => (hi rfl).elim)
      refine ⟨a2, ha2, by omega, by omega, h7, by rw [Int.toNat_natCast]; exact w7, ?_⟩
      have l17 := st3.le.trans st7.le
      have ok' : ∀ x ∈ es.set i (back e), x.Ok bx.length := fun x hx => by
        rcases List.mem_or_eq_of_mem_set hx with hx | hx
        · exact ok x hx
        · subst hx; exact back_ok ek
      have sh' : Shp h7 p0 s' bx (es.set i (back e)) := ⟨sh.b.le l17, st7.arr (enc := Ed.enc) () rfl (fun _ _ => rfl) (by decide), lb, by simpa using le, ok'⟩
      have hon := fun v d => on_back he ek v d
      refine c12 sh' (fun hs' => absurd hs' fun ⟨v, d, hv, hd, h1, h2⟩ => hs ⟨v, d, hv, hd, h1, by rw [← hon v d]; exact h2⟩) (fun _ ht' => absurd ht' fun hb => ?_) (fun hs' ht' c' f' w' ws' h8 st8 hws' => ?_)
      · obtain ⟨x, hx, h1, h2, h3⟩ := (turned_iff ok').1 hb
        refine ht ((turned_iff ok).2 ?_)
        rcases List.mem_or_eq_of_mem_set hx with hx | hx
        · exact ⟨x, hx, h1, h2, h3⟩
        · subst hx
          have hb0 : e.b = [] := by simpa [back] using h2
          have hft : e.t = e.f := h1
          exact ⟨e, List.mem_of_getElem? he, hft.symm, hb0, by rw [← hft]; exact h3⟩
      · have st9 := (st3.le' st7.le).le' st8.le
        have he' : (es.set i (back e))[i]? = some (back e) := by rw [List.getElem?_set_self hil]
        have vl := verts_len_eq (bx := bx) hon
        have fq := firsts_eq (bx := bx) hon bx.length
        have hel := fun es => edges_len_eq (verts bx es bx.length).2 (verts bx es bx.length).1 es es.length
        have a1 := (st9.arr (enc := Cell.enc) .cells rfl (enc8 _) (by decide)).1
        have a1' := (st8.arr (enc := Cell.enc) .cells rfl (enc8 _) (by decide)).1
        have hcl : c'.l = c.l := by
          have q1 := hel es
          have q2 := hel (es.set i (back e))
          rw [List.take_length] at q1 q2
          rw [a1, a1', q1, q2, vl bx.length, sum_set he (by simp [back])]
        have b1 := st9.arr (enc := encN) .first rfl (enc1N _) (by decide)
        have b1' := st8.arr (enc := encN) .first rfl (enc1N _) (by decide)
        rw [fq] at b1'
        have w1 := st9.arr (enc := fun p : Sl × List Nat => [p.1.v]) .ways rfl (fun _ _ => rfl) (by decide)
        have w1' := st8.arr (enc := fun p : Sl × List Nat => [p.1.v]) .ways rfl (fun _ _ => rfl) (by decide)
        have el := edges_len (en := (verts bx es bx.length).2) (cs := (verts bx es bx.length).1) ok es.length
        have el' := edges_len (en := (verts bx (es.set i (back e)) bx.length).2) (cs := (verts bx (es.set i (back e)) bx.length).1) ok' (es.set i (back e)).length
        rw [List.take_length] at el el'
        have hl1 : ws.length = es.length := by have := congrArg List.length hws; rw [List.length_map, el.2] at this; omega
        have hl2 : ws'.length = es.length := by have := congrArg List.length hws'; rw [List.length_map, el'.2, List.length_set] at this; omega
        have hwl := w1.1
        have hwl2 := w1'.1
        obtain ⟨x, hx⟩ : ∃ x, ws[i]? = some x := ⟨_, List.getElem?_eq_getElem (by omega)⟩
        obtain ⟨y, hy⟩ : ∃ x, ws'[i]? = some x := ⟨_, List.getElem?_eq_getElem (by omega)⟩
        have hxm : (ws.map (·.2))[i]? = some x.2 := by rw [List.getElem?_map, hx]; rfl
        have hym : (ws'.map (·.2))[i]? = some y.2 := by rw [List.getElem?_map, hy]; rfl
        rw [hws] at hxm
        rw [hws'] at hym
        obtain ⟨u, hu, hul⟩ := ways_at (en := (verts bx es bx.length).2) (cs := (verts bx es bx.length).1) he
        obtain ⟨u', hu', hul'⟩ := ways_at (en := (verts bx (es.set i (back e)) bx.length).2) (cs := (verts bx (es.set i (back e)) bx.length).1) he'
        rw [hu, Option.some.injEq] at hxm
        rw [hu', Option.some.injEq] at hym
        have hul2 : u'.length = e.b.length := by rw [hul']; simp [back]
        have rx : Rd h8 x.1 1 encN x.2 := st9.arr (e := 3) (.way i) (by simp only [refM, hx]) (enc1N _) (by decide)
        have ry : Rd h8 y.1 1 encN y.2 := st8.arr (e := 3) (.way i) (by simp only [refM, hy]) (enc1N _) (by decide)
        have hxl : x.1.l = e.b.length + 2 := by rw [rx.1, ← hxm]; simp; omega
        have hyl : y.1.l = e.b.length + 2 := by rw [ry.1, ← hym]; simp; omega
        have hb4 := ek.b
        obtain ⟨ax, hax, qx⟩ := w1.ix hx
        obtain ⟨ay, hay, qy⟩ := w1'.ix hy
        rw [if_neg (by decide), if_neg (by simp [hcl])]
        refine c17 b1' b1 (by simp [firsts]; omega) ?_
        rw [if_neg (by decide), if_neg (by simp; omega)]
        refine ⟨ay, hay, by omega, by omega, y.1, by rw [Int.toNat_natCast]; exact qy.at0, ax, hax, by omega, by omega, x.1, by rw [Int.toNat_natCast]; exact qx.at0, ?_⟩
        unfold S5_j3
        rw [if_neg (by simp; omega), e1, hpw]
        have l18 := l17.trans st8.le
        obtain ⟨a0, ha0, hrd0⟩ := sh.e.ix he
        obtain ⟨bf, hbf⟩ : ∃ x, bx[e.f]? = some x := ⟨_, List.getElem?_eq_getElem ek.f⟩
        obtain ⟨bt, hbt⟩ : ∃ x, bx[e.t]? = some x := ⟨_, List.getElem?_eq_getElem ek.t⟩
        obtain ⟨af, haf, qf⟩ := sh.b.ix hbf
        obtain ⟨at', hat, qt⟩ := sh.b.ix hbt
        have ebl := sh.b.len
        have hf := ek.f
        have htt := ek.t
        refine ⟨a0, ha0, by omega, by omega, e.f, by rw [Int.toNat_natCast]; exact (l18.rdn hrd0).at0, af, haf, by omega, by omega, bf, by rw [Int.toNat_natCast]; exact (l18.rdn qf).at0, ?_⟩
        have done : ∀ hh, S5_j2 p K p1 w w' true hh := fun hh => by
          unfold S5_j2; rw [if_pos rfl]; exact k hh
        cases bf with
        | true => rw [if_pos rfl]; exact done _
        | false =>
          rw [if_neg (by decide)]
          refine ⟨a0, ha0, by omega, by omega, e.t, by rw [Int.toNat_natCast]; exact (l18.rdn hrd0).at 1 rfl, at', hat, by omega, by omega, bt, by rw [Int.toNat_natCast]; exact (l18.rdn qt).at0, ?_⟩
          cases bt with
          | true => exact done _
          | false =>
            have hf0 : bx.getD e.f false = false := by rw [List.getD_eq_getElem?_getD, hbf]; rfl
            have ht0 : bx.getD e.t false = false := by rw [List.getD_eq_getElem?_getD, hbt]; rfl
            have p1' := (end_pt ok he).1 hf0
            have p2' := (end_pt ok he).2 ht0
            have p3' := (end_pt ok' he').1 ht0
            have p4' := (end_pt ok' he').2 hf0
            have vt : (verts bx (es.set i (back e)) (back e).f).1.length = (verts bx es e.t).1.length := vl e.t
            have vf : (verts bx (es.set i (back e)) (back e).t).1.length = (verts bx es e.f).1.length := vl e.f
            rw [vt] at p3'
            rw [vf] at p4'
            unfold S5_j2
            rw [if_neg (by decide), e1, hpw]
            have gx0 : x.2[0]? = some (verts bx es e.f).1.length := by rw [← hxm, p1']; rfl
            have gx1 : x.2[e.b.length + 1]? = some (verts bx es e.t).1.length := by
              rw [← hxm, p2']; rw [List.getElem?_append_right (by simp; omega)]; simp [hul]
            have gy0 : y.2[0]? = some (verts bx es e.t).1.length := by rw [← hym, p3']; rfl
            have gy1 : y.2[e.b.length + 1]? = some (verts bx es e.f).1.length := by
              rw [← hym, p4']; rw [List.getElem?_append_right (by simp; omega)]; simp [hul2]
            obtain ⟨m0, hm0, rx0⟩ := rx.ix gx0
            obtain ⟨m1, hm1, rx1⟩ := rx.ix gx1
            obtain ⟨n0, hn0, ry0⟩ := ry.ix gy0
            obtain ⟨n1, hn1, ry1⟩ := ry.ix gy1
            have hwx : IntKind.i64.wrap ((x.1.l : Int) - 1) = ((e.b.length + 1 : Nat) : Int) := wrapN (by omega) (by omega)
            have hwy : IntKind.i64.wrap ((y.1.l : Int) - 1) = ((e.b.length + 1 : Nat) : Int) := wrapN (by omega) (by omega)
            refine ⟨ay, hay, by omega, by omega, y.1, by rw [Int.toNat_natCast]; exact qy.at0, ax, hax, by omega, by omega, x.1, by rw [Int.toNat_natCast]; exact qx.at0, n0, hn0, by omega, by omega, _, ry0.at0, m1, hm1, by rw [hwx]; omega, by rw [hwx]; omega, _, by rw [hwx, Int.toNat_natCast]; exact rx1.at0, ?_⟩
            rw [if_pos (by simp)]
            refine ⟨n1, hn1, by rw [hwy]; omega, by rw [hwy]; omega, _, by rw [hwy, Int.toNat_natCast]; exact ry1.at0, m0, hm0, by omega, by omega, _, rx0.at0, ?_⟩
            unfold S5_j1
            simp only [beq_self_eq_true]
            exact k _
end Go.Proofs.YtimadnngfhbfiaaDoor
end

section
/- BY HAND: what strings.Trim does at the cutset "LR". -/
namespace Go.Proofs.YtimadnngfhbfiaaDoor
open Go Go.Mu
def S55 (p0 p1 : ByteArray) (h : H) (K : ByteArray → H → Prop) : Prop :=
  p0.size ≤ 9223372036854775807 ∧ p1 = ⟨#[76, 82]⟩ ∧ K ⟨(Lib.trimS p0.data.toList [76, 82]).toArray⟩ h
end Go.Proofs.YtimadnngfhbfiaaDoor
end

section
/- PRINTED by wip/gen.py: what muntin/text.Back does, in the words of Mu. -/
namespace Go.Proofs.YtimadnngfhbfiaaDoor
open Go Go.Mu
/- muntin/text.Back -/
def S22_j1 (p0_0 : Int) (p0_1 : Int) (K : Int → Int → Int → ByteArray → Int → H → Prop) (v23 : Sl) (v4 : Int) (h_3 : H) : Prop :=
  S57 v23 h_3 (fun  (h_4 : H) => (∃ v53 : ByteArray, isBytes h_4 v23 v53 ∧ S56 v4 2 h_4 (fun (v51 : Int) (h_5 : H) => isBytes h_5 v23 v53 ∧ K p0_1 p0_0 v51 v53 0 h_5)))
def S22_j2 (v26 : Int) (X : (Int × Int) → H → Prop) (v4_2 : Int) (h_7 : H) : Prop :=
  X (v4_2, (IntKind.wrap .i64 (v26 + 1))) h_7
def S22_l3 (p0_0 : Int) (p0_1 : Int) (K : Int → Int → Int → ByteArray → Int → H → Prop) (v23 : Sl) (X : (Int × Int) → H → Prop) (v4_1 : Int) (v26 : Int) (h_6 : H) : Prop :=
  (if (decide (v26 < (v23.l : Int))) = true then (∃ a29 : Addr, v23.a = some a29 ∧ 0 ≤ v26 ∧ v26 < (v23.l : Int) ∧ (∃ (v30 : Int), H.rd h_6 (Addr.add a29 (Int.toNat v26 * 1)) = some (.int .u8 v30) ∧ (if (v30 == 76) = true then S56 v4_1 1 h_6 (fun (v36 : Int) (h_8 : H) => (∃ a37 : Addr, v23.a = some a37 ∧ 0 ≤ v26 ∧ v26 < (v23.l : Int) ∧ (∃ h_9 : H, H.wr h_8 (Addr.add a37 (Int.toNat v26 * 1)) [(.int .u8 82)] h_9 ∧ S22_j2 v26 X v36 h_9))) else S56 v4_1 (-1) h_6 (fun (v41 : Int) (h_10 : H) => (∃ a42 : Addr, v23.a = some a42 ∧ 0 ≤ v26 ∧ v26 < (v23.l : Int) ∧ (∃ h_11 : H, H.wr h_10 (Addr.add a42 (Int.toNat v26 * 1)) [(.int .u8 76)] h_11 ∧ S22_j2 v26 X v41 h_11)))))) else S22_j1 p0_0 p0_1 K v23 v4_1 h_6)
def S22_j4 (p0_0 : Int) (p0_1 : Int) (p0_2 : Int) (p0_3 : ByteArray) (K : Int → Int → Int → ByteArray → Int → H → Prop) (v17 : Bool) (h_1 : H) : Prop :=
  (if v17 = true then K 0 0 0 ⟨#[]⟩ 2 h_1 else (toBytes 5 p0_3 h_1 (fun (v23 : Sl) (h_2 : H) => lfp (fun X s h_6 => S22_l3 p0_0 p0_1 K v23 X s.1 s.2 h_6) (p0_2, 0) h_2)))
def S22 (p0_0 : Int) (p0_1 : Int) (p0_2 : Int) (p0_3 : ByteArray) (h : H) (K : Int → Int → Int → ByteArray → Int → H → Prop) : Prop :=
  S54 p0_2 h (fun (v10 : Bool) (h_12 : H) => (if (!v10) = true then S22_j4 p0_0 p0_1 p0_2 p0_3 K true h_12 else S55 p0_3 ⟨#[76, 82]⟩ h_12 (fun (v15 : ByteArray) (h_13 : H) => S22_j4 p0_0 p0_1 p0_2 p0_3 K (!(ByteArray.toList v15 == ByteArray.toList ⟨#[]⟩)) h_13)))
end Go.Proofs.YtimadnngfhbfiaaDoor
end

section
/-
  An edge from its other end, whatever the edge: what the program's Back, the reference's turns and Check answer.
-/
namespace Go.Shape
open Go Go.Mu
open Go.Lib (strCells byteCells)
def lr (x : UInt8) : Bool := x == 76 || x == 82
def allLR (s : ByteArray) : Bool := s.data.toList.all lr
theorem bs_list (b : List Bool) : (bs b).data.toList = b.map letter := by simp [bs]
theorem allLR_bs (b : List Bool) : allLR (bs b) = true := by
  unfold allLR; rw [bs_list, List.all_map, List.all_eq_true]
  intro x _; cases x <;> rfl
theorem bs_of {s : ByteArray} (h : allLR s = true) : ∃ b : List Bool, s = bs b ∧ b.length = s.size := by
  refine ⟨s.data.toList.map (· == 76), ?_, by simp⟩
  apply ByteArray.ext
  apply Array.ext'
  rw [bs_list, List.map_map]
  have : ∀ l : List UInt8, l.all lr = true → l = l.map (letter ∘ fun x => x == 76) := by
    intro l
    induction l with
    | nil => intro _; rfl
    | cons x l ih =>
      intro hl
      rw [List.all_cons, Bool.and_eq_true] at hl
      rw [List.map_cons, ← ih hl.2]
      congr 1
      have h1 := hl.1
      simp only [lr, Bool.or_eq_true, beq_iff_eq] at h1
      rcases h1 with rfl | rfl <;> rfl
  exact this _ h
theorem mem_dropWhile {α : Type} {p : α → Bool} {x : α} (hx : p x = false) : ∀ {l : List α}, x ∈ l → x ∈ l.dropWhile p
  | y :: l, h => by
    rw [List.dropWhile_cons]
    by_cases hy : p y = true
    · rw [if_pos hy]
      rcases List.mem_cons.1 h with e | e
      · subst e; rw [hx] at hy; cases hy
      · exact mem_dropWhile hx e
    · rw [if_neg hy]; exact h
theorem dropWhile_all {α : Type} {p : α → Bool} : ∀ {l : List α}, (∀ x ∈ l, p x = true) → l.dropWhile p = []
  | [], _ => rfl
  | y :: l, h => by
    rw [List.dropWhile_cons, if_pos (h y List.mem_cons_self)]
    exact dropWhile_all fun x hx => h x (List.mem_cons_of_mem _ hx)
theorem trim_nil (l : List UInt8) : (Lib.trimS l [76, 82] = []) ↔ l.all lr = true := by
  have hp : ∀ x : UInt8, ([76, 82] : List UInt8).contains x = lr x := fun x => by
    simp only [lr, List.contains, List.elem]
    cases x == 76 <;> cases x == 82 <;> rfl
  constructor
  · intro h
    rw [List.all_eq_true]
    intro x hx
    cases hlr : lr x with
    | true => rfl
    | false =>
      exfalso
      have hf : ([76, 82] : List UInt8).contains x = false := by rw [hp]; exact hlr
      have h1 : x ∈ Lib.trimRightS l [76, 82] := by
        unfold Lib.trimRightS
        rw [List.mem_reverse]
        exact mem_dropWhile hf (List.mem_reverse.2 hx)
      have h2 : x ∈ Lib.trimS l [76, 82] := mem_dropWhile hf h1
      rw [h] at h2; cases h2
  · intro h
    rw [List.all_eq_true] at h
    have h1 : Lib.trimRightS l [76, 82] = [] := by
      unfold Lib.trimRightS
      rw [dropWhile_all fun x hx => by rw [hp]; exact h x (List.mem_reverse.1 hx)]
      rfl
    unfold Lib.trimS
    rw [h1]; rfl
theorem byteAt_of {s : ByteArray} {i : Nat} {x : UInt8} (e : s.data.toList[i]? = some x) : byteAt s (i : Int) = x.toNat := by
  have hl : i < s.data.toList.length := (List.getElem?_eq_some_iff.1 e).1
  have hi : (i : Int).toNat < s.size := by simpa using hl
  unfold byteAt
  rw [dif_pos hi]
  have h2 : s.data[i]? = some x := by rw [← Array.getElem?_toList]; exact e
  have h3 : s[(i : Int).toNat] = x := by
    have h4 : s.data[i]'(by simpa using hl) = x := by
      rw [Array.getElem?_eq_getElem (by simpa using hl)] at h2; exact Option.some.inj h2
    exact h4
  rw [h3]
theorem toList_eq (s t : ByteArray) : (ByteArray.toList s == ByteArray.toList t) = decide (s = t) := by
  rw [Go.Lib.toList_data, Go.Lib.toList_data]
  by_cases h : s = t
  · subst h; simp
  · have : s.data.toList ≠ t.data.toList := fun e => h (by
      apply ByteArray.ext; exact Array.ext' e)
    rw [decide_eq_false h]
    exact beq_eq_false_iff_ne.2 this
/-- The letters as numbers. -/
def lets (b : List Bool) : List Int := b.map fun x => ((letter x).toNat : Int)
/-- The first i are turned. -/
def half (b : List Bool) (i : Nat) : List Bool := (b.take i).map (fun x => !x) ++ b.drop i
theorem lets_len (b : List Bool) : (lets b).length = b.length := by simp [lets]
end Go.Shape
namespace Go.Proofs.YtimadnngfhbfiaaDoor
open Go Go.Mu Go.Shape
open Go.Lib (strCells byteCells)
variable {h h0 : H}
theorem ints_lets (b : List Bool) : ints (lets b) = strCells (bs b) := by
  rw [Go.Lib.strCells_eq, bs_list]; simp [ints, lets, byteCells]
theorem c54i (d : Int) {K : Bool → H → Prop} (k : K (decide (0 ≤ d ∧ d ≤ 3)) h) : S54 d h K := by
  unfold S54 S54_j1
  have e : decide (0 ≤ d ∧ d ≤ 3) = (decide (d ≥ 0) && decide (d ≤ 3)) := by
    by_cases h1 : 0 ≤ d <;> by_cases h2 : d ≤ 3 <;> simp [h1, h2]
  rw [← e]; exact k
theorem c58i (s : ByteArray) (hs : s.size < 1000000) {K : Bool → H → Prop} (k : K (allLR s) h) : S58 s h K := by
  have hsz : s.data.toList.length = s.size := by simp
  unfold S58
  refine lfp.count s.size (fun i (u : Int) h' => u = (i : Int) ∧ h' = h ∧ (s.data.toList.take i).all lr = true) (fun X i u h' hi ⟨q1, q2, q3⟩ next => ?_) ⟨rfl, rfl, rfl⟩
  subst q1 q2
  unfold S58_l3
  by_cases hlt : i < s.size
  · rw [if_pos (by simp only [decide_eq_true_eq]; omega)]
    obtain ⟨x, hx⟩ : ∃ x, s.data.toList[i]? = some x := ⟨_, List.getElem?_eq_getElem (by omega)⟩
    rw [byteAt_of hx]
    have good : lr x = true → S58_j2 K i X false h' := fun hl => by
      unfold S58_j2
      rw [if_neg (by decide), wsucc (by omega)]
      refine next hlt _ _ ⟨rfl, rfl, ?_⟩
      rw [List.take_add_one, hx, List.all_append, q3]
      simp [hl]
    refine ⟨by omega, by omega, ?_⟩
    have e76 : ((x.toNat : Int) != 76) = !(x == 76) := by
      by_cases hx2 : x = 76
      · subst hx2; rfl
      · have : x.toNat ≠ 76 := fun e => hx2 (UInt8.toNat_inj.1 e)
        simp only [beq_eq_false_iff_ne.2 hx2, Bool.not_false, bne_iff_ne, ne_eq]; omega
    have e82 : ((x.toNat : Int) != 82) = !(x == 82) := by
      by_cases hx2 : x = 82
      · subst hx2; rfl
      · have : x.toNat ≠ 82 := fun e => hx2 (UInt8.toNat_inj.1 e)
        simp only [beq_eq_false_iff_ne.2 hx2, Bool.not_false, bne_iff_ne, ne_eq]; omega
    rw [e76, e82]
    cases h1 : x == 76 with
    | true => rw [if_neg (by simp)]; exact good (by simp [lr, h1])
    | false =>
      rw [if_pos (by simp)]
      refine ⟨by omega, by omega, ?_⟩
      cases h2 : x == 82 with
      | true => exact good (by simp [lr, h2])
      | false =>
        unfold S58_j2
        rw [if_pos (by rfl)]
        have : allLR s = false := by
          unfold allLR
          rw [List.all_eq_false]
          exact ⟨x, List.mem_of_getElem? hx, by simp [lr, h1, h2]⟩
        rw [← this]; exact k
  · rw [if_neg (by simp only [decide_eq_true_eq]; omega)]
    unfold S58_j1
    rw [List.take_of_length_le (by omega)] at q3
    have : allLR s = true := q3
    rw [← this]; exact k

/-- May an edge be, by its direction and its bends? -/
def may (d : Int) (s : ByteArray) : Bool := decide (0 ≤ d ∧ d ≤ 3) && allLR s
theorem c22no {f t d : Int} {s : ByteArray} (hs : s.size < 1000000) (hm : may d s = false) {K : Int → Int → Int → ByteArray → Int → H → Prop} (k : K 0 0 0 ⟨#[]⟩ 2 h) : S22 f t d s h K := by
  unfold S22
  refine c54i d ?_
  cases hd : decide (0 ≤ d ∧ d ≤ 3) with
  | false =>
    rw [if_pos (by decide)]
    unfold S22_j4
    rw [if_pos rfl]; exact k
  | true =>
    rw [if_neg (by decide)]
    refine ⟨by omega, rfl, ?_⟩
    have ha : allLR s = false := by unfold may at hm; rw [hd] at hm; simpa using hm
    have hne : Lib.trimS s.data.toList [76, 82] ≠ [] := fun e => by
      have := (trim_nil _).1 e
      unfold allLR at ha; rw [this] at ha; cases ha
    simp only
    rw [toList_eq]
    have : decide ((⟨(Lib.trimS s.data.toList [76, 82]).toArray⟩ : ByteArray) = ⟨#[]⟩) = false := decide_eq_false fun e => hne (by
      have := congrArg (fun b : ByteArray => b.data.toList) e
      simpa using this)
    rw [this]
    unfold S22_j4
    rw [if_pos (by rfl)]; exact k
theorem c22 {f t : Int} {d : Nat} {b : List Bool} (hd : d < 4) (hb : b.length < 1000000) {K : Int → Int → Int → ByteArray → Int → H → Prop} (k : ∀ h', h.Le h' → K t f ((lastOf d b + 2) % 4 : Nat) (bs (b.reverse.map fun x => !x)) 0 h') : S22 f t d (bs b) h K := by
  unfold S22
  refine c54 hd ?_
  rw [if_neg (by decide)]
  refine ⟨by rw [bs_size]; omega, rfl, ?_⟩
  have htn : Lib.trimS (bs b).data.toList [76, 82] = [] := (trim_nil _).2 (allLR_bs b)
  rw [htn]
  simp only
  rw [toList_eq, decide_eq_true (show (⟨([] : List UInt8).toArray⟩ : ByteArray) = ⟨#[]⟩ from rfl)]
  unfold S22_j4
  rw [if_neg (by decide)]
  rintro v h1 ⟨g, cap, rfl, hg, hcap, e1⟩
  rw [bs_size] at hcap ⊢
  have st0 : St h h1 (fun _ : Unit => .blk g (.row ⟨ints (lets b), cap, 5, true, false⟩)) := by
    rw [e1, ← ints_lets]
    exact (St.init (ρ := Unit) h).alloc _ hg () _ rfl (fun i hi => (hi rfl).elim)
  refine lfp.count b.length (fun i (s : Int × Int) h' => s = (((lastOf d (b.take i) : Nat) : Int), (i : Int)) ∧ St h h' (fun _ : Unit => .blk g (.row ⟨ints (lets (half b i)), cap, 5, true, false⟩))) (fun X i s h' hi ⟨q1, st⟩ next => ?_) ⟨rfl, by simpa [half] using st0⟩
  subst q1
  simp only
  unfold S22_l3
  by_cases hlt : i < b.length
  · rw [if_pos (by simp only [decide_eq_true_eq]; omega)]
    obtain ⟨x, hx⟩ : ∃ x, b[i]? = some x := ⟨_, List.getElem?_eq_getElem hlt⟩
    have hti : ((b.take i).map (fun x => !x)).length = i := by rw [List.length_map, List.length_take]; omega
    have hat : (lets (half b i))[i]? = some ((letter x).toNat : Int) := by
      unfold lets half
      rw [List.getElem?_map, List.getElem?_append_right (by omega), hti, Nat.sub_self, List.getElem?_drop, Nat.add_zero, hx]; rfl
    have rd : h'.rd ⟨g, i, none⟩ = some (.int .u8 ((letter x).toNat : Int)) := st.rd () rfl (by simp only [ints, List.getElem?_map, hat]; rfl)
    refine ⟨_, rfl, by omega, by show (i : Int) < ((b.length : Nat) : Int); omega, _, by rw [lit_add, Nat.zero_add, Int.toNat_natCast, Nat.mul_one]; exact rd, ?_⟩
    have hlen : (lets (half b i)).length = b.length := by
      rw [lets_len, half, List.length_append, hti, List.length_drop]; omega
    have hset : (lets (half b i)).set i ((letter (!x)).toNat : Int) = lets (half b (i + 1)) := by
      apply List.ext_getElem?
      intro j
      rw [List.getElem?_set, hlen]
      have hti1 : ((b.take (i + 1)).map (fun x => !x)).length = i + 1 := by rw [List.length_map, List.length_take]; omega
      by_cases hj : i = j
      · subst hj
        rw [if_pos rfl, if_pos hlt]
        unfold lets half
        rw [List.getElem?_map, List.getElem?_append_left (by omega), List.getElem?_map, List.getElem?_take_of_lt (by omega), hx]; rfl
      · rw [if_neg hj]
        unfold lets half
        rw [List.getElem?_map, List.getElem?_map]
        by_cases hj2 : j < i
        · rw [List.getElem?_append_left (by omega), List.getElem?_append_left (by omega), List.getElem?_map, List.getElem?_map, List.getElem?_take_of_lt hj2, List.getElem?_take_of_lt (by omega)]
        · rw [List.getElem?_append_right (by omega), List.getElem?_append_right (by omega), hti, hti1, List.getElem?_drop, List.getElem?_drop]
          congr 2; omega
    obtain ⟨h2, w2, st2⟩ := st.wr (vs := [.int .u8 ((letter (!x)).toNat : Int)]) (off := i) () rfl rfl (by simp only [ints, List.length_map, hlen, List.length_cons, List.length_nil]; omega) (fun _ : Unit => .blk g (.row ⟨ints (lets (half b (i + 1))), cap, 5, true, false⟩)) (by
      rw [← hset]; simp [setL, ints, List.map_set]) (fun i hi => (hi rfl).elim)
    have fin : S22_j2 i X ((lastOf d (b.take (i + 1)) : Nat)) h2 := by
      unfold S22_j2
      exact next hlt _ _ ⟨by rw [wsucc (by omega)], st2⟩
    have hl := lastOf_lt (b.take i) hd
    rw [lastOf_take hx] at fin
    rw [letter_L]
    cases x with
    | true =>
      rw [if_pos rfl]
      refine c56 hl (left1 hl) ⟨_, rfl, by omega, by show (i : Int) < ((b.length : Nat) : Int); omega, h2, ?_, fin⟩
      rw [lit_add, Nat.zero_add, Int.toNat_natCast, Nat.mul_one]; exact w2
    | false =>
      rw [if_neg (by decide)]
      refine c56 hl (left3 hl) ⟨_, rfl, by omega, by show (i : Int) < ((b.length : Nat) : Int); omega, h2, ?_, fin⟩
      rw [lit_add, Nat.zero_add, Int.toNat_natCast, Nat.mul_one]; exact w2
  · rw [if_neg (by simp only [decide_eq_true_eq]; omega)]
    have hib : i = b.length := by omega
    subst hib
    have eh : half b b.length = b.map fun x => !x := by simp [half]
    rw [eh] at st
    rw [List.take_length]
    unfold S22_j1
    refine c57 st (r := ()) rfl rfl (by rw [lets_len, List.length_map]) (by rw [lets_len, List.length_map]; exact hb) fun h2 st2 => ?_
    have hrev : ints (lets (b.map fun x => !x)).reverse = strCells (bs (b.reverse.map fun x => !x)) := by
      rw [← ints_lets]
      unfold lets
      rw [← List.map_reverse, ← List.map_reverse]
    have hsl : (strCells (bs (b.reverse.map fun x => !x))).length = b.length := by rw [Go.Lib.strCells_length, bs_size]; simp
    have hib : isBytes h2 ⟨some ⟨g, 0, none⟩, b.length, cap⟩ (bs (b.reverse.map fun x => !x)) := by
      refine ⟨by rw [bs_size]; simp, .inr ⟨_, rfl, hsl, fun j v hj => ?_⟩⟩
      rw [lit_add, Nat.zero_add]
      exact st2.rd () (put_eq _ _ _) (by rw [hrev]; exact hj)
    have hl := lastOf_lt b hd
    exact ⟨_, hib, c56 hl (left2 hl) ⟨hib, k _ st2.le⟩⟩
end Go.Proofs.YtimadnngfhbfiaaDoor
end

section
/- BY HAND: what strconv.Itoa does at a small number. -/
namespace Go.Proofs.YtimadnngfhbfiaaDoor
open Go Go.Mu
def S88 (p0 : Int) (h : H) (K : ByteArray → H → Prop) : Prop :=
  ∃ i : Nat, p0 = i ∧ i < 100 ∧ K ⟨(Lib.decDigits i).toArray⟩ h
end Go.Proofs.YtimadnngfhbfiaaDoor
end

section
/- PRINTED by wip/gen.py: what muntin/lex.Digits does, in the words of Mu. -/
namespace Go.Proofs.YtimadnngfhbfiaaDoor
open Go Go.Mu
/- muntin/lex.Digits -/
def S60 (p0 : Int) (h : H) (K : ByteArray → H → Prop) : Prop :=
  S88 p0 h (fun (v4 : ByteArray) (h_1 : H) => K v4 h_1)
end Go.Proofs.YtimadnngfhbfiaaDoor
end

section
/- PRINTED by wip/gen.py: what muntin/compass.Letter does, in the words of Mu. -/
namespace Go.Proofs.YtimadnngfhbfiaaDoor
open Go Go.Mu
/- muntin/compass.Letter -/
def S61 (p0 : Int) (h : H) (K : ByteArray → H → Prop) : Prop :=
  S54 p0 h (fun (v4 : Bool) (h_1 : H) => (if (!v4) = true then K ⟨#[]⟩ h_1 else ((0 : Int) ≤ p0 ∧ p0 ≤ (IntKind.wrap .i64 (p0 + 1)) ∧ (IntKind.wrap .i64 (p0 + 1)) ≤ (ByteArray.size ⟨#[69, 78, 87, 83]⟩ : Int) ∧ K (ByteArray.extract ⟨#[69, 78, 87, 83]⟩ (Int.toNat p0) (Int.toNat (IntKind.wrap .i64 (p0 + 1)))) h_1)))
end Go.Proofs.YtimadnngfhbfiaaDoor
end

section
/- PRINTED by wip/gen.py: what muntin/text.Print does, in the words of Mu. -/
namespace Go.Proofs.YtimadnngfhbfiaaDoor
open Go Go.Mu
/- muntin/text.Print -/
def S25_j1 (K : ByteArray → Int → H → Prop) (b6 : Nat) (h_9 : H) : Prop :=
  S62 (some ⟨b6, 0, none⟩) h_9 (fun (v66 : ByteArray) (h_10 : H) => (ByteArray.size v66 + ByteArray.size ⟨#[10, 101, 110, 100, 10]⟩ ≤ 9223372036854775807 ∧ K (v66 ++ ⟨#[10, 101, 110, 100, 10]⟩) 0 h_10))
def S25_j2 (v39 : Int) (X : Int → H → Prop) (h_12 : H) : Prop :=
  X (IntKind.wrap .i64 (v39 + 1)) h_12
def S25_l3 (p0_1 : Sl) (K : ByteArray → Int → H → Prop) (b6 : Nat) (X : Int → H → Prop) (v39 : Int) (h_11 : H) : Prop :=
  (if (decide (v39 < (p0_1.l : Int))) = true then (∃ a41 : Addr, p0_1.a = some a41 ∧ 0 ≤ v39 ∧ v39 < (p0_1.l : Int) ∧ (∃ (v42_0 : Int) (v42_1 : Int) (v42_2 : Int) (v42_3 : ByteArray), H.rdn h_11 (Addr.add a41 (Int.toNat v39 * 4)) 4 [(.int .i64 v42_0), (.int .i64 v42_1), (.int .i64 v42_2), (.string v42_3)] ∧ S60 v42_0 h_11 (fun (v45 : ByteArray) (h_13 : H) => (ByteArray.size ⟨#[10]⟩ + ByteArray.size v45 ≤ 9223372036854775807 ∧ (ByteArray.size (⟨#[10]⟩ ++ v45) + ByteArray.size ⟨#[32]⟩ ≤ 9223372036854775807 ∧ S61 v42_2 h_13 (fun (v50 : ByteArray) (h_14 : H) => (ByteArray.size ((⟨#[10]⟩ ++ v45) ++ ⟨#[32]⟩) + ByteArray.size v50 ≤ 9223372036854775807 ∧ (ByteArray.size (((⟨#[10]⟩ ++ v45) ++ ⟨#[32]⟩) ++ v50) + ByteArray.size ⟨#[32]⟩ ≤ 9223372036854775807 ∧ S60 v42_1 h_14 (fun (v55 : ByteArray) (h_15 : H) => (ByteArray.size ((((⟨#[10]⟩ ++ v45) ++ ⟨#[32]⟩) ++ v50) ++ ⟨#[32]⟩) + ByteArray.size v55 ≤ 9223372036854775807 ∧ S59 (some ⟨b6, 0, none⟩) (((((⟨#[10]⟩ ++ v45) ++ ⟨#[32]⟩) ++ v50) ++ ⟨#[32]⟩) ++ v55) h_15 (fun (v57_0 : Int) (v57_1 : Value) (h_16 : H) => (if (!(ByteArray.toList v42_3 == ByteArray.toList ⟨#[]⟩)) = true then (ByteArray.size ⟨#[32]⟩ + ByteArray.size v42_3 ≤ 9223372036854775807 ∧ S59 (some ⟨b6, 0, none⟩) (⟨#[32]⟩ ++ v42_3) h_16 (fun (v64_0 : Int) (v64_1 : Value) (h_17 : H) => S25_j2 v39 X h_17)) else S25_j2 v39 X h_16)))))))))))) else S25_j1 K b6 h_11)
def S25_j4 (p0_1 : Sl) (K : ByteArray → Int → H → Prop) (b6 : Nat) (h_8 : H) : Prop :=
  lfp (fun X s h_11 => S25_l3 p0_1 K b6 X s h_11) 0 h_8
def S25_j5 (p0_0 : Sl) (p0_1 : Sl) (K : ByteArray → Int → H → Prop) (b6 : Nat) (h_7 : H) : Prop :=
  (if ((p0_0.l : Int) == 0) = true then S59 (some ⟨b6, 0, none⟩) ⟨#[45]⟩ h_7 (fun (v35_0 : Int) (v35_1 : Value) (h_18 : H) => S25_j4 p0_1 K b6 h_18) else S25_j4 p0_1 K b6 h_7)
def S25_l6 (p0_0 : Sl) (p0_1 : Sl) (K : ByteArray → Int → H → Prop) (b16 : Nat) (b6 : Nat) (X_1 : Int → H → Prop) (v22 : Int) (h_19 : H) : Prop :=
  (if (decide (v22 < (p0_0.l : Int))) = true then (∃ a24 : Addr, p0_0.a = some a24 ∧ 0 ≤ v22 ∧ v22 < (p0_0.l : Int) ∧ (∃ (v25 : Bool), H.rd h_19 (Addr.add a24 (Int.toNat v22 * 1)) = some (.bool v25) ∧ (∃ (v28 : ByteArray), mapGet .bool (some b16) (.bool v25) (.string ⟨#[]⟩) h_19 (.string v28) ∧ S59 (some ⟨b6, 0, none⟩) v28 h_19 (fun (v29_0 : Int) (v29_1 : Value) (h_20 : H) => X_1 (IntKind.wrap .i64 (v22 + 1)) h_20)))) else S25_j5 p0_0 p0_1 K b6 h_19)
def S25 (p0_0 : Sl) (p0_1 : Sl) (h : H) (K : ByteArray → Int → H → Prop) : Prop :=
  S39 p0_0 p0_1 h (fun (v12 : Int) (h_1 : H) => (if (v12 != 0) = true then K ⟨#[]⟩ v12 h_1 else (∀ (b16 : Nat) (h_2 : H), h_1 b16 = none → h_2 = H.set h_1 b16 (.obj (.map #[] 0)) → (∃ h_3 : H, mapPut .bool (some b16) (.bool false) (.string ⟨#[112]⟩) h_2 h_3 ∧ (∃ h_4 : H, mapPut .bool (some b16) (.bool true) (.string ⟨#[98]⟩) h_3 h_4 ∧ (∀ (b6 : Nat) (h_5 : H), h_4 b6 = none → h_5 = H.set h_4 b6 (.row ⟨[(.pointer none), (.slice none 0 0)], 2, 128, true, true⟩) → S59 (some ⟨b6, 0, none⟩) ⟨#[115, 104, 97, 112, 101, 32]⟩ h_5 (fun (v18_0 : Int) (v18_1 : Value) (h_6 : H) => lfp (fun X_1 s h_19 => S25_l6 p0_0 p0_1 K b16 b6 X_1 s h_19) 0 h_6)))))))
end Go.Proofs.YtimadnngfhbfiaaDoor
end

section
/-
  A shape's text: what the program's Print answers.
-/
namespace Go.Shape
open Go Go.Mu
/-- Bytes as a string. -/
abbrev B (l : List UInt8) : ByteArray := ⟨l.toArray⟩
theorem B_app (l m : List UInt8) : B l ++ B m = B (l ++ m) := by
  apply ByteArray.ext
  rw [ByteArray.data_append]
  simp
theorem B_size (l : List UInt8) : ByteArray.size (B l) = l.length := by simp [ByteArray.size]
theorem B_list (l : List UInt8) : (B l).data.toList = l := by simp
def dl : Nat → UInt8
  | 0 => 69
  | 1 => 78
  | 2 => 87
  | _ => 83
def dg (n : Nat) : UInt8 := UInt8.ofNat (48 + n)
def lineB (e : Ed) : List UInt8 := [10, dg e.f, 32, dl e.d, 32, dg e.t] ++ (if e.b = [] then [] else 32 :: e.b.map letter)
def vx (x : Bool) : UInt8 := if x then 98 else 112
def headB (bx : List Bool) : List UInt8 := [115, 104, 97, 112, 101, 32] ++ (if bx = [] then [45] else bx.map vx)
def textB (bx : List Bool) (es : List Ed) : List UInt8 := headB bx ++ es.flatMap lineB ++ [10, 101, 110, 100, 10]
theorem lineB_len (e : Ed) (n : Nat) (ok : e.Ok n) : (lineB e).length ≤ 10 := by
  have := ok.b
  unfold lineB
  split
  · simp
  · simp; omega
theorem lines_len {n : Nat} : ∀ {es : List Ed}, (∀ e ∈ es, e.Ok n) → (es.flatMap lineB).length ≤ 10 * es.length
  | [], _ => by simp
  | e :: es, ok => by
    have h1 := lineB_len e n (ok e List.mem_cons_self)
    have h2 := lines_len (es := es) fun x hx => ok x (List.mem_cons_of_mem _ hx)
    rw [List.flatMap_cons, List.length_append, List.length_cons]; omega
theorem bs_B (b : List Bool) : bs b = B (b.map letter) := rfl
end Go.Shape
namespace Go.Proofs.YtimadnngfhbfiaaDoor
open Go Go.Mu Go.Shape
variable {h h0 : H}
set_option maxHeartbeats 1000000

theorem c61 {d : Nat} (hd : d < 4) {K : ByteArray → H → Prop} (k : K (B [dl d]) h) : S61 d h K := by
  unfold S61
  refine c54 hd ?_
  rw [if_neg (by decide), wsucc (by omega)]
  have hsz : (ByteArray.size ⟨#[69, 78, 87, 83]⟩ : Int) = 4 := by rw [B_size]; rfl
  refine ⟨by omega, by omega, by rw [hsz]; omega, ?_⟩
  have e : ByteArray.extract ⟨#[69, 78, 87, 83]⟩ (Int.toNat (d : Int)) (Int.toNat ((d + 1 : Nat) : Int)) = B [dl d] := by
    rw [Int.toNat_natCast, Int.toNat_natCast]
    apply ByteArray.ext
    rw [ByteArray.data_extract]
    rcases cases4 hd with rfl | rfl | rfl | rfl <;> rfl
  rw [e]; exact k
theorem c60 {n : Nat} (hn : n < 10) {K : ByteArray → H → Prop} (k : K (B [dg n]) h) : S60 n h K := by
  unfold S60 S88
  refine ⟨n, rfl, by omega, ?_⟩
  have e : Lib.decDigits n = [dg n] := by unfold Lib.decDigits; rw [dif_pos hn]; rfl
  rw [e]; exact k
inductive Rp where
  | mp | b | g
abbrev mapB : Obj := .map #[{ key := .bool false, val := .string ⟨#[112]⟩, born := 0 }, { key := .bool true, val := .string ⟨#[98]⟩, born := 1 }] 2
/-- While a text is written. -/
structure Wr (h h' : H) (b16 b6 : Nat) (l : List UInt8) : Prop where
  st : ∃ M s, St h h' M ∧ Bld M Rp.b .g b6 s l ∧ M .mp = .blk b16 (.obj mapB)
theorem Wr.write {h' : H} {b16 b6 : Nat} {l : List UInt8} (w : Wr h h' b16 b6 l) {t : List UInt8} (hn : l.length + t.length ≤ 10000) {K : Int → Value → H → Prop} (k : ∀ n v h'', Wr h h'' b16 b6 (l ++ t) → K n v h'') : S59 (some ⟨b6, 0, none⟩) (B t) h' K := by
  obtain ⟨M, s, st, bl, hm⟩ := w.st
  refine c59 (by simp) st bl (by rw [B_size]; omega) fun n v s' h'' M' st' bl' hM' => k n v h'' ⟨M', s', st', ?_, by rw [hM' .mp (by simp) (by simp)]; exact hm⟩
  rw [B_list] at bl'; exact bl'
theorem Wr.vx {h' : H} {b16 b6 : Nat} {l : List UInt8} (w : Wr h h' b16 b6 l) (x : Bool) : mapGet .bool (some b16) (.bool x) (.string ⟨#[]⟩) h' (.string (B [vx x])) := by
  obtain ⟨M, s, st, _, hm⟩ := w.st
  have ok := st.ok .mp
  rw [hm] at ok
  refine ⟨b16, _, _, rfl, ok, ?_⟩
  cases x <;> rfl
theorem Wr.le {h' : H} {b16 b6 : Nat} {l : List UInt8} (w : Wr h h' b16 b6 l) : h.Le h' := by
  obtain ⟨M, s, st, _, _⟩ := w.st; exact st.le
theorem c25 {p0 p1 : Sl} {bx : List Bool} {es : List Ed} (sh : Shp h p0 p1 bx es) {K : ByteArray → Int → H → Prop} (k : ∀ h', h.Le h' → K (B (textB bx es)) 0 h') : S25 p0 p1 h K := by
  have lb := sh.lb
  have le := sh.le
  have e0 := sh.b.len
  have e1 := sh.e.len
  unfold S25
  refine c39 sh ?_
  rw [if_neg (by decide)]
  intro b16 h2 n2 eh2
  have r2 : h2 b16 = some (.obj (.map #[] 0)) := by rw [eh2]; exact H.set_eq _ _ _
  refine ⟨_, ⟨b16, _, _, rfl, r2, rfl, rfl⟩, _, ⟨b16, _, _, rfl, H.set_eq _ _ _, rfl, rfl⟩, fun b6 h5 n5 eh5 => ?_⟩
  rw [H.set_set, eh2, H.set_set] at n5 eh5
  have stm := (St.init (ρ := Rp) h).alloc (.obj mapB) n2 .mp (put _ .mp (.blk b16 (.obj mapB))) (put_eq _ _ _) (put_or _ _ _)
  have stb := (stm.alloc (.row ⟨[(.pointer none), (.slice none 0 0)], 2, 128, true, true⟩) n5 .b (put _ .b (.blk b6 (.row ⟨[.pointer none, Sl.nil.v], 2, 128, true, true⟩))) (put_eq _ _ _) (put_or _ _ _)).nilArr (e := 5) (size := 1) .g (put _ .g (.arr Sl.nil 5 1 [])) (put_eq _ _ _) (put_or _ _ _)
  have w0 : Wr h h5 b16 b6 [] := ⟨_, Sl.nil, by rw [eh5]; exact stb, ⟨⟨none, by rw [put_ne _ _ (by simp), put_eq], .inl rfl⟩, put_eq _ _ _⟩, by rw [put_ne _ _ (by simp), put_ne _ _ (by simp), put_eq]⟩
  refine w0.write (t := [115, 104, 97, 112, 101, 32]) (by simp) fun _ _ h6 w1 => ?_
  rw [List.nil_append] at w1
  refine lfp.count bx.length (fun i (s : Int) h' => s = (i : Int) ∧ Wr h h' b16 b6 ([115, 104, 97, 112, 101, 32] ++ (bx.take i).map vx)) (fun X i s h' hi ⟨q1, w⟩ next => ?_) ⟨rfl, by simpa using w1⟩
  subst q1
  have hlt6 : ([115, 104, 97, 112, 101, 32] ++ (bx.take i).map vx : List UInt8).length ≤ 14 := by
    rw [List.length_append, List.length_map, List.length_take]; simp; omega
  unfold S25_l6
  rw [e0]
  by_cases hlt : i < bx.length
  · rw [if_pos (by simp only [decide_eq_true_eq]; omega)]
    obtain ⟨x, hx⟩ : ∃ x, bx[i]? = some x := ⟨_, List.getElem?_eq_getElem hlt⟩
    obtain ⟨a, ha, hrd⟩ := sh.b.ix hx
    refine ⟨a, ha, by omega, by omega, x, by rw [Int.toNat_natCast]; exact (w.le.rdn hrd).at0, _, w.vx x, w.write (by simp only [List.length_cons, List.length_nil]; omega) fun _ _ h'' w' => ?_⟩
    rw [wsucc (by omega)]
    refine next hlt _ _ ⟨rfl, ?_⟩
    rw [List.take_add_one, hx, List.map_append, ← List.append_assoc]; exact w'
  · rw [if_neg (by simp only [decide_eq_true_eq]; omega)]
    rw [List.take_of_length_le (by omega)] at w hlt6
    clear next
    have tail : ∀ h', Wr h h' b16 b6 (headB bx) → S25_j4 p1 K b6 h' := fun h' w => by
      have hh : (headB bx).length ≤ 14 := by
        unfold headB
        by_cases hb : bx = []
        · rw [if_pos hb]; decide
        · rw [if_neg hb]; exact hlt6
      unfold S25_j4
      refine lfp.count es.length (fun i (s : Int) h' => s = (i : Int) ∧ Wr h h' b16 b6 (headB bx ++ (es.take i).flatMap lineB)) (fun X i s h' hi ⟨q1, w⟩ next => ?_) ⟨rfl, by simpa using w⟩
      subst q1
      have hll := lines_len (es := es.take i) (n := bx.length) fun y hy => sh.ok y (List.mem_of_mem_take hy)
      rw [List.length_take] at hll
      have htot : (headB bx ++ (es.take i).flatMap lineB).length ≤ 200 := by rw [List.length_append]; omega
      unfold S25_l3
      rw [e1]
      by_cases hlt : i < es.length
      · rw [if_pos (by simp only [decide_eq_true_eq]; omega)]
        obtain ⟨e, he⟩ : ∃ x, es[i]? = some x := ⟨_, List.getElem?_eq_getElem hlt⟩
        have ok := sh.ok e (List.mem_of_getElem? he)
        have o1 := ok.f
        have o2 := ok.t
        have o4 := ok.b
        obtain ⟨a, ha, hrd⟩ := sh.e.ix he
        have next' : ∀ h', Wr h h' b16 b6 (headB bx ++ (es.take i).flatMap lineB ++ lineB e) → S25_j2 i X h' := fun h' w' => by
          unfold S25_j2
          rw [wsucc (by omega)]
          refine next hlt _ _ ⟨rfl, ?_⟩
          rw [List.take_add_one, he, List.flatMap_append, ← List.append_assoc]; simpa using w'
        refine ⟨a, ha, by omega, by omega, e.f, e.t, e.d, bs e.b, by rw [Int.toNat_natCast]; exact w.le.rdn hrd, c60 (by omega) ?_⟩
        simp only [B_app, B_size]
        refine ⟨by simp, by simp, c61 ok.d ?_⟩
        simp only [B_app, B_size]
        refine ⟨by simp, by simp, c60 (by omega) ?_⟩
        simp only [B_app, B_size]
        refine ⟨by simp, w.write (by simp only [List.length_append, List.length_cons, List.length_nil] at htot ⊢; omega) fun _ _ h'' w' => ?_⟩
        rw [toList_eq]
        by_cases hb : e.b = []
        · rw [if_neg (by rw [hb]; simp; rfl)]
          refine next' _ ?_
          unfold lineB; rw [if_pos hb, List.append_nil]; exact w'
        · have hne : bs e.b ≠ ⟨#[]⟩ := fun q => hb (by
            have := congrArg (fun b : ByteArray => b.data.toList) q
            rw [bs_list] at this; simpa using this)
          rw [if_pos (by rw [decide_eq_false hne]; rfl)]
          refine ⟨by rw [bs_size]; simp only [List.length_cons, List.length_nil]; omega, ?_⟩
          rw [bs_B, B_app]
          refine w'.write (by simp only [List.length_append, List.length_cons, List.length_nil, List.length_map] at htot ⊢; omega) fun _ _ h3 w3 => next' _ ?_
          unfold lineB; rw [if_neg hb]
          rw [List.append_assoc] at w3; exact w3
      · rw [if_neg (by simp only [decide_eq_true_eq]; omega)]
        rw [List.take_of_length_le (by omega)] at w htot
        unfold S25_j1
        obtain ⟨M, s, st, bl, hm⟩ := w.st
        refine c62 (by simp) st bl (fun q => ?_) (by omega) fun h'' st' => ?_
        · have := congrArg List.length q
          unfold headB at this; simp at this
        · refine ⟨by rw [B_size, B_size]; simp only [List.length_cons, List.length_nil]; omega, ?_⟩
          rw [B_app]
          exact k _ st'.le
    unfold S25_j5
    rw [e0]
    by_cases hb : bx = []
    · rw [if_pos (by rw [hb]; rfl)]
      refine w.write (t := [45]) (by simp only [List.length_cons, List.length_nil]; omega) fun _ _ h'' w' => tail _ ?_
      unfold headB; rw [if_pos hb]
      rw [hb] at w'; exact w'
    · have : bx.length ≠ 0 := fun q => hb (List.eq_nil_of_length_eq_zero q)
      rw [if_neg (by simp only [beq_iff_eq]; omega)]
      refine tail _ ?_
      unfold headB; rw [if_neg hb]; exact w
end Go.Proofs.YtimadnngfhbfiaaDoor
end

section
/- PRINTED by wip/gen.py: what muntin/muntinlaw09.wakes does, in the words of Mu. -/
namespace Go.Proofs.YtimadnngfhbfiaaDoor
open Go Go.Mu
/- muntin/muntinlaw09.wakes -/
def S24_j1 (K : Bool → H → Prop) (v0 : Bool) (h_7 : H) : Prop :=
  K v0 h_7
def S24  (h : H) (K : Bool → H → Prop) : Prop :=
  (∀ (b8 : Nat) (h_1 : H), h b8 = none → h_1 = H.set h b8 (.row ⟨[(.bool false), (.bool true)], 2, 4, true, true⟩) → (∀ (b10 : Nat) (h_2 : H), h_1 b10 = none → h_2 = H.set h_1 b10 (.row ⟨[(.int .i64 0), (.int .i64 1), (.int .i64 0), (.string ⟨#[76]⟩)], 4, 54, true, true⟩) → S25 ⟨some ⟨b8, 0, none⟩, 2, 2⟩ ⟨some ⟨b10, 0, none⟩, 1, 1⟩ h_2 (fun (v12_0 : ByteArray) (v12_1 : Int) (h_3 : H) => S22 0 1 0 ⟨#[76]⟩ h_3 (fun (v17_0_0 : Int) (v17_0_1 : Int) (v17_0_2 : Int) (v17_0_3 : ByteArray) (v17_1 : Int) (h_4 : H) => (∀ (b22 : Nat) (h_5 : H), h_4 b22 = none → h_5 = H.set h_4 b22 (.row ⟨[(.int .i64 0), (.int .i64 0), (.int .i64 0), (.string ⟨#[]⟩)], 4, 54, true, true⟩) → S25 Sl.nil ⟨some ⟨b22, 0, none⟩, 1, 1⟩ h_5 (fun (v24_0 : ByteArray) (v24_1 : Int) (h_6 : H) => S24_j1 K (((((ByteArray.toList v12_0 == ByteArray.toList ⟨#[115, 104, 97, 112, 101, 32, 112, 98, 10, 48, 32, 69, 32, 49, 32, 76, 10, 101, 110, 100, 10]⟩) && (v12_1 == 0)) && ((v17_0_0 == 1) && ((v17_0_1 == 0) && ((v17_0_2 == 3) && ((ByteArray.toList v17_0_3 == ByteArray.toList ⟨#[82]⟩) && true))))) && (v17_1 == 0)) && (v24_1 == 3)) h_6))))))
end Go.Proofs.YtimadnngfhbfiaaDoor
end

section
/- PRINTED by wip/gen.py: what muntin/muntinlaw09.TextTurns does, in the words of Mu. -/
namespace Go.Proofs.YtimadnngfhbfiaaDoor
open Go Go.Mu
/- muntin/muntinlaw09.TextTurns -/
def S6_j1 (K : Bool → H → Prop) (v2 : Bool) (h_5 : H) : Prop :=
  K v2 h_5
def S6_j2 (K : Bool → H → Prop) (v2_1 : Bool) (h_8 : H) : Prop :=
  K v2_1 h_8
def S6 (p0_0 : Int) (p0_1 : Int) (p0_2 : Int) (p0_3 : ByteArray) (h : H) (K : Bool → H → Prop) : Prop :=
  ((0 : Int) ≤ (if 50 < (ByteArray.size p0_3 : Int) then 50 else (ByteArray.size p0_3 : Int)) ∧ (if 50 < (ByteArray.size p0_3 : Int) then 50 else (ByteArray.size p0_3 : Int)) ≤ (ByteArray.size p0_3 : Int) ∧ S22 p0_0 p0_1 p0_2 (ByteArray.extract p0_3 0 (Int.toNat (if 50 < (ByteArray.size p0_3 : Int) then 50 else (ByteArray.size p0_3 : Int)))) h (fun (v17_0_0 : Int) (v17_0_1 : Int) (v17_0_2 : Int) (v17_0_3 : ByteArray) (v17_1 : Int) (h_1 : H) => (∀ (b20 : Nat) (h_2 : H), h_1 b20 = none → h_2 = H.set h_1 b20 (.row ⟨[(.bool false)], 1, 4, true, true⟩) → (∀ (b26 : Nat) (h_3 : H), h_2 b26 = none → h_3 = H.set h_2 b26 (.row ⟨[(.int .i64 0), (.int .i64 0), (.int .i64 p0_2), (.string (ByteArray.extract p0_3 0 (Int.toNat (if 50 < (ByteArray.size p0_3 : Int) then 50 else (ByteArray.size p0_3 : Int)))))], 4, 54, true, true⟩) → S23 ⟨some ⟨b20, 0, none⟩, 1, 1⟩ ⟨some ⟨b26, 0, none⟩, 1, 1⟩ h_3 (fun (v28 : Int) (h_4 : H) => (if (v28 != 0) = true then S24  h_4 (fun (v30 : Bool) (h_6 : H) => S6_j1 K ((v30 && (v17_1 == 2)) && ((v17_0_0 == 0) && ((v17_0_1 == 0) && ((v17_0_2 == 0) && ((ByteArray.toList v17_0_3 == ByteArray.toList ⟨#[]⟩) && true))))) h_6) else S22 v17_0_0 v17_0_1 v17_0_2 v17_0_3 h_4 (fun (v42_0_0 : Int) (v42_0_1 : Int) (v42_0_2 : Int) (v42_0_3 : ByteArray) (v42_1 : Int) (h_7 : H) => S24  h_7 (fun (v45 : Bool) (h_9 : H) => (if v45 = true then (if (v17_1 == 0) = true then S21 p0_0 p0_1 p0_2 (ByteArray.extract p0_3 0 (Int.toNat (if 50 < (ByteArray.size p0_3 : Int) then 50 else (ByteArray.size p0_3 : Int)))) h_9 (fun (v53_0 : Int) (v53_1 : Int) (v53_2 : Int) (v53_3 : ByteArray) (h_10 : H) => (if ((v17_0_0 == v53_0) && ((v17_0_1 == v53_1) && ((v17_0_2 == v53_2) && ((ByteArray.toList v17_0_3 == ByteArray.toList v53_3) && true)))) = true then (if (v42_1 == 0) = true then S6_j2 K ((v42_0_0 == p0_0) && ((v42_0_1 == p0_1) && ((v42_0_2 == p0_2) && ((ByteArray.toList v42_0_3 == ByteArray.toList (ByteArray.extract p0_3 0 (Int.toNat (if 50 < (ByteArray.size p0_3 : Int) then 50 else (ByteArray.size p0_3 : Int))))) && true)))) h_10 else S6_j2 K false h_10) else S6_j2 K false h_10)) else S6_j2 K false h_9) else S6_j2 K false h_9)))))))))
end Go.Proofs.YtimadnngfhbfiaaDoor
end

section
/-
  TextTurns: what the law answers.
-/
namespace Go.Proofs.YtimadnngfhbfiaaDoor
open Go Go.Mu Go.Shape
variable {h h0 : H}
set_option maxHeartbeats 1000000

def encX (x : Int × Int × Int × ByteArray) : List Value := [.int .i64 x.1, .int .i64 x.2.1, .int .i64 x.2.2.1, .string x.2.2.2]
/-- The reference's Check of one edge at one vertex. -/
theorem c23e {p0 p1 : Sl} {d : Int} {s : ByteArray} (hp : p0.l = 1) (he : Rd h p1 4 encX [(0, 0, d, s)]) (hs : s.size ≤ 1000) {K : Int → H → Prop} (k : K (if may d s = true then 0 else 2) h) : S23 p0 p1 h K := by
  have e1 := he.1
  simp only [List.length_cons, List.length_nil, Nat.zero_add] at e1
  obtain ⟨a, ha, hrd⟩ := he.ix (i := 0) rfl
  unfold S23
  refine lfp.count 1 (fun i (u : Int × Int) h' => h' = h ∧ u.2 = (i : Int) ∧ u.1 = (i : Int) * s.size) (fun X i u h' hi ⟨q1, q2, q3⟩ next => ?_) ⟨rfl, rfl, by simp⟩
  obtain ⟨u1, u2⟩ := u
  simp only at q2 q3; subst q1 q2 q3
  simp only
  unfold S23_l7
  rw [e1]
  have hi2 : i = 0 ∨ i = 1 := by omega
  rcases hi2 with rfl | rfl
  · rw [if_pos (by decide)]
    refine ⟨a, ha, by decide, by decide, s, hrd.at 3 rfl, next (by decide) _ _ ⟨rfl, rfl, ?_⟩⟩
    rw [wrapN (n := s.size) (by simp) (by omega)]; simp
  · rw [if_neg (by decide)]
    unfold S23_j6 S23_j5
    rw [hp, e1, if_neg (by simp only [Bool.or_eq_true, decide_eq_true_eq]; omega)]
    refine lfp.count 1 (fun i (u : Int) h2 => h2 = h' ∧ u = (i : Int) ∧ (i = 1 → may d s = true)) (fun Y i u h2 hi2 ⟨q1, q2, q3⟩ next => ?_) ⟨rfl, rfl, fun h => by omega⟩
    subst q1 q2
    unfold S23_l4 S23_j1
    rw [e1]
    have hi3 : i = 0 ∨ i = 1 := by omega
    rcases hi3 with rfl | rfl
    · rw [if_pos (by decide)]
      refine ⟨a, ha, by decide, by decide, 0, 0, d, s, hrd, ?_⟩
      unfold S23_j3
      rw [hp, if_neg (by decide)]
      refine c58i s (by omega) ?_
      unfold S23_j2
      have em : ((decide (d < 0) || decide (d > 3)) || (!allLR s)) = !may d s := by
        unfold may
        cases allLR s <;> by_cases h1 : d < 0 <;> by_cases h2 : d > 3 <;> simp [h1, h2] <;> omega
      rw [em]
      cases hm : may d s with
      | false =>
        rw [if_pos (by decide)]
        rw [hm] at k; exact k
      | true =>
        rw [if_neg (by decide)]
        exact next (by decide) _ _ ⟨rfl, rfl, fun _ => hm⟩
    · rw [if_neg (by decide)]
      rw [q3 rfl] at k; exact k
def e00 : Ed := ⟨0, 0, 0, []⟩
def e01L : Ed := ⟨0, 1, 0, [true]⟩
/-- An edge without a vertex. -/
theorem c39r {p1 : Sl} (he : Rd h p1 4 Ed.enc [e00]) {K : Int → H → Prop} (k : K 3 h) : S39 Sl.nil p1 h K := by
  have e1 := he.1
  simp only [List.length_cons, List.length_nil, Nat.zero_add] at e1
  obtain ⟨a, ha, hrd⟩ := he.ix (i := 0) rfl
  unfold S39
  refine lfp.count 1 (fun i (u : Int × Int) h' => h' = h ∧ u.2 = (i : Int) ∧ u.1 = 0) (fun X i u h' hi ⟨q1, q2, q3⟩ next => ?_) ⟨rfl, rfl, rfl⟩
  obtain ⟨u1, u2⟩ := u
  simp only at q2 q3; subst q1 q2 q3
  unfold S39_l6
  rw [e1]
  have hi2 : i = 0 ∨ i = 1 := by omega
  rcases hi2 with rfl | rfl
  · rw [if_pos (by decide)]
    exact ⟨a, ha, by decide, by decide, 0, 0, 0, bs [], hrd, next (by decide) _ _ ⟨rfl, rfl, rfl⟩⟩
  · rw [if_neg (by decide)]
    unfold S39_j5
    rw [e1, if_neg (by decide)]
    refine lfp.count 1 (fun i (u : Int) h2 => h2 = h' ∧ u = 0) (fun Y i u h2 hi2 ⟨q1, q2⟩ next => ?_) ⟨rfl, rfl⟩
    subst q1 q2
    unfold S39_l4
    rw [e1, if_pos (by decide)]
    refine ⟨a, ha, by decide, by decide, 0, 0, 0, bs [], hrd, ?_⟩
    unfold S39_j3
    rw [if_pos (by decide)]; exact k
theorem c24 {K : Bool → H → Prop} (k : ∀ h', h.Le h' → K true h') : S24 h K := by
  unfold S24
  intro b8 h1 n1 e1 b10 h2 n2 e2
  have l1 := le_new n1 e1
  have l2 := le_new n2 e2
  have r1 : Rd h1 ⟨some ⟨b8, 0, none⟩, 2, 2⟩ 1 encB [false, true] := lit_Rd (l := [false, true]) (enc := encB) e1 (fun _ _ => rfl)
  have r2 : Rd h2 ⟨some ⟨b10, 0, none⟩, 1, 1⟩ 4 Ed.enc [e01L] := lit_Rd (l := [e01L]) (enc := Ed.enc) e2 (fun _ _ => rfl)
  have sh : Shp h2 ⟨some ⟨b8, 0, none⟩, 2, 2⟩ ⟨some ⟨b10, 0, none⟩, 1, 1⟩ [false, true] [e01L] := ⟨r1.le l2, r2, by decide, by decide, fun e he => by
    simp only [List.mem_singleton] at he; subst he; exact ⟨by decide, by decide, by decide, by decide⟩⟩
  refine c25 sh fun h3 l3 => ?_
  have hL : (⟨#[76]⟩ : ByteArray) = bs [true] := rfl
  rw [hL]
  refine c22 (d := 0) (b := [true]) (by decide) (by decide) fun h4 l4 b22 h5 n5 e5 => ?_
  have l5 := le_new n5 e5
  have r3 : Rd h5 ⟨some ⟨b22, 0, none⟩, 1, 1⟩ 4 Ed.enc [e00] := lit_Rd (l := [e00]) (enc := Ed.enc) e5 (fun _ _ => rfl)
  unfold S25
  refine c39r r3 ?_
  rw [if_pos (by decide)]
  unfold S24_j1
  have t1 : (ByteArray.toList (B (textB [false, true] [e01L])) == ByteArray.toList ⟨#[115, 104, 97, 112, 101, 32, 112, 98, 10, 48, 32, 69, 32, 49, 32, 76, 10, 101, 110, 100, 10]⟩) = true := by
    rw [toList_eq]; exact decide_eq_true rfl
  have t2 : (ByteArray.toList (bs (([true] : List Bool).reverse.map fun x => !x)) == ByteArray.toList ⟨#[82]⟩) = true := by
    rw [toList_eq]; exact decide_eq_true rfl
  rw [t1, t2]
  exact k _ ((((l1.trans l2).trans l3).trans l4).trans l5)
theorem c6 {f t d : Int} {s : ByteArray} {K : Bool → H → Prop} (k : ∀ h', K true h') : S6 f t d s h K := by
  unfold S6
  refine ⟨by split <;> omega, by split <;> omega, ?_⟩
  have hu : (ByteArray.extract s 0 (Int.toNat (if 50 < (ByteArray.size s : Int) then 50 else (ByteArray.size s : Int)))).size ≤ 50 := by
    rw [ByteArray.size_extract]
    split <;> omega
  generalize ByteArray.extract s 0 (Int.toNat (if 50 < (ByteArray.size s : Int) then 50 else (ByteArray.size s : Int))) = u at hu
  have sl : ∀ {h1 h2 h3 : H} {b20 b26 : Nat}, h2 = H.set h1 b20 (.row ⟨[(.bool false)], 1, 4, true, true⟩) → h3 = H.set h2 b26 (.row ⟨[(.int .i64 0), (.int .i64 0), (.int .i64 d), (.string u)], 4, 54, true, true⟩) → Rd h3 ⟨some ⟨b26, 0, none⟩, 1, 1⟩ 4 encX [(0, 0, d, u)] := fun _ e3 => lit_Rd (l := [(0, 0, d, u)]) (enc := encX) e3 (fun _ _ => rfl)
  cases hm : may d u with
  | false =>
    refine c22no (by omega) hm fun b20 h2 n2 e2 b26 h3 n3 e3 => c23e rfl (sl e2 e3) (by omega) ?_
    rw [hm, if_pos (by decide)]
    refine c24 fun h4 _ => ?_
    unfold S6_j1
    have t1 : (ByteArray.toList ⟨#[]⟩ == ByteArray.toList ⟨#[]⟩) = true := beq_self_eq_true _
    rw [t1]
    exact k h4
  | true =>
    have hm' := hm
    simp only [may, Bool.and_eq_true, decide_eq_true_eq] at hm'
    obtain ⟨⟨d0, d3⟩, ha⟩ := hm'
    obtain ⟨b, rfl, hb⟩ := bs_of ha
    obtain ⟨n, rfl⟩ : ∃ n : Nat, d = n := ⟨d.toNat, by omega⟩
    have hn : n < 4 := by omega
    refine c22 hn (by omega) fun h1 l1 b20 h2 n2 e2 b26 h3 n3 e3 => c23e rfl (sl e2 e3) (by omega) ?_
    rw [hm, if_pos rfl, if_neg (by decide)]
    refine c22 (d := (lastOf n b + 2) % 4) (b := b.reverse.map fun x => !x) (Nat.mod_lt _ (by decide)) (by rw [List.length_map, List.length_reverse]; omega) fun h4 l4 => c24 fun h5 l5 => ?_
    rw [if_pos rfl, if_pos (by decide)]
    refine c21g (e := ⟨0, 0, n, b⟩) hn (by show b.length < 1000000; omega) ?_
    have hbk : (back ⟨0, 0, n, b⟩).d = (lastOf n b + 2) % 4 := rfl
    have hbb : (back ⟨0, 0, n, b⟩).b = b.reverse.map fun x => !x := rfl
    rw [hbk, hbb]
    rw [if_pos (by simp)]
    rw [if_pos (by decide)]
    unfold S6_j2
    have hlb := last_back b n hn
    have e1 : ((lastOf ((lastOf n b + 2) % 4) (b.reverse.map fun x => !x) + 2) % 4 : Nat) = n := by rw [hlb]; omega
    have e2 : ((b.reverse.map fun x => !x).reverse.map fun x => !x) = b := by
      rw [← List.map_reverse, List.reverse_reverse, List.map_map]
      have : ((fun x => !x) ∘ fun x : Bool => !x) = id := by funext x; cases x <;> rfl
      rw [this, List.map_id]
    rw [e1, e2]
    simp only [beq_self_eq_true, Bool.and_self]
    exact k h5
end Go.Proofs.YtimadnngfhbfiaaDoor
end

section
/-
  The plain law of texts: shapes that are not the same have not the same text; how many lines there are, how long the first one is.
-/
namespace Go.Shape
open Go Go.Mu
def bodyB (e : Ed) : List UInt8 := [dg e.f, 32, dl e.d, 32, dg e.t] ++ (if e.b = [] then [] else 32 :: e.b.map letter)
def tailB : List Ed → List UInt8
  | [] => [101, 110, 100] ++ 10 :: []
  | e :: es => bodyB e ++ 10 :: tailB es
theorem lineB_eq (e : Ed) : lineB e = 10 :: bodyB e := rfl
theorem tailB_eq : ∀ es : List Ed, es.flatMap lineB ++ [10, 101, 110, 100, 10] = 10 :: tailB es
  | [] => rfl
  | e :: es => by
    rw [List.flatMap_cons, List.append_assoc, tailB_eq es, lineB_eq]; rfl
theorem textB_eq (bx : List Bool) (es : List Ed) : textB bx es = headB bx ++ 10 :: tailB es := by
  unfold textB; rw [List.append_assoc, tailB_eq]
theorem split10 : ∀ {x y r s : List UInt8}, (10 : UInt8) ∉ x → (10 : UInt8) ∉ y → x ++ 10 :: r = y ++ 10 :: s → x = y ∧ r = s
  | [], [], _, _, _, _, e => ⟨rfl, (List.cons.inj e).2⟩
  | [], c :: y, _, _, _, hy, e => by
    have := (List.cons.inj e).1
    exact absurd (this ▸ List.mem_cons_self) hy
  | c :: x, [], _, _, hx, _, e => by
    have := (List.cons.inj e).1
    exact absurd (this ▸ List.mem_cons_self) hx
  | c :: x, d :: y, _, _, hx, hy, e => by
    obtain ⟨e1, e2⟩ := List.cons.inj e
    obtain ⟨q1, q2⟩ := split10 (fun h => hx (List.mem_cons_of_mem _ h)) (fun h => hy (List.mem_cons_of_mem _ h)) e2
    exact ⟨by rw [e1, q1], q2⟩
theorem dg_nat {n : Nat} (hn : n < 10) : (dg n).toNat = 48 + n := by
  unfold dg
  rw [UInt8.toNat_ofNat']; omega
theorem dg_inj {n m : Nat} (hn : n < 10) (hm : m < 10) (e : dg n = dg m) : n = m := by
  have := congrArg UInt8.toNat e
  rw [dg_nat hn, dg_nat hm] at this; omega
theorem dl_inj {n m : Nat} (hn : n < 4) (hm : m < 4) (e : dl n = dl m) : n = m := by
  have h1 : n = 0 ∨ n = 1 ∨ n = 2 ∨ n = 3 := by omega
  have h2 : m = 0 ∨ m = 1 ∨ m = 2 ∨ m = 3 := by omega
  rcases h1 with rfl | rfl | rfl | rfl <;> rcases h2 with rfl | rfl | rfl | rfl <;> first | rfl | (revert e; decide)
theorem map_inj {α β : Type} {f : α → β} (hf : ∀ x y, f x = f y → x = y) : ∀ {l m : List α}, l.map f = m.map f → l = m
  | [], [], _ => rfl
  | [], _ :: _, e => by cases e
  | _ :: _, [], e => by cases e
  | x :: l, y :: m, e => by
    simp only [List.map_cons, List.cons.injEq] at e
    rw [hf _ _ e.1, map_inj hf e.2]
theorem letter_inj (x y : Bool) (e : letter x = letter y) : x = y := by
  cases x <;> cases y <;> first | rfl | (revert e; decide)
theorem vx_inj (x y : Bool) (e : vx x = vx y) : x = y := by
  cases x <;> cases y <;> first | rfl | (revert e; decide)
structure Ed.Few (e : Ed) : Prop where
  f : e.f < 10
  t : e.t < 10
  d : e.d < 4
theorem Ed.Ok.few {e : Ed} {n : Nat} (ok : e.Ok n) (hn : n ≤ 8) : e.Few := ⟨by have := ok.f; omega, by have := ok.t; omega, ok.d⟩
theorem ten_letter (x : Bool) : letter x ≠ 10 := by cases x <;> decide
theorem ten_vx (x : Bool) : vx x ≠ 10 := by cases x <;> decide
theorem ten_dg {n : Nat} (hn : n < 10) : dg n ≠ 10 := fun e => by
  have := congrArg UInt8.toNat e
  rw [dg_nat hn] at this
  have h2 : (10 : UInt8).toNat = 10 := rfl
  omega
theorem ten_dl (n : Nat) : dl n ≠ 10 := by unfold dl; split <;> decide
theorem ten_body {e : Ed} (k : e.Few) : (10 : UInt8) ∉ bodyB e := by
  unfold bodyB
  intro h
  rcases List.mem_append.1 h with h | h
  · simp only [List.mem_cons, List.not_mem_nil, or_false] at h
    rcases h with h | h | h | h | h
    · exact ten_dg k.f h.symm
    · revert h; decide
    · exact ten_dl _ h.symm
    · revert h; decide
    · exact ten_dg k.t h.symm
  · split at h
    · cases h
    · rcases List.mem_cons.1 h with h | h
      · revert h; decide
      · obtain ⟨x, _, hx⟩ := List.mem_map.1 h
        exact ten_letter x hx
theorem ten_head (bx : List Bool) : (10 : UInt8) ∉ headB bx := by
  unfold headB
  intro h
  rcases List.mem_append.1 h with h | h
  · revert h; decide
  · split at h
    · revert h; decide
    · obtain ⟨x, _, hx⟩ := List.mem_map.1 h
      exact ten_vx x hx
theorem body_inj {e e' : Ed} (k : e.Few) (k' : e'.Few) (h : bodyB e = bodyB e') : e = e' := by
  unfold bodyB at h
  simp only [List.cons_append, List.nil_append, List.cons.injEq, true_and] at h
  obtain ⟨h1, h2, h3, h4⟩ := h
  have hb : e.b = e'.b := by
    by_cases hb : e.b = [] <;> by_cases hb' : e'.b = []
    · rw [hb, hb']
    · rw [if_pos hb, if_neg hb'] at h4; cases h4
    · rw [if_neg hb, if_pos hb'] at h4; cases h4
    · rw [if_neg hb, if_neg hb'] at h4
      exact map_inj letter_inj (List.cons.inj h4).2
  have f1 := dg_inj k.f k'.f h1
  have f2 := dl_inj k.d k'.d h2
  have f3 := dg_inj k.t k'.t h3
  cases e; cases e'
  simp only at hb f1 f2 f3
  subst hb f1 f2 f3; rfl
theorem tail_inj : ∀ {es es' : List Ed}, (∀ e ∈ es, e.Few) → (∀ e ∈ es', e.Few) → tailB es = tailB es' → es = es'
  | [], [], _, _, _ => rfl
  | [], e :: es, _, k, h => by
    have := (split10 (by decide) (ten_body (k e List.mem_cons_self)) h).1
    unfold bodyB at this
    have h1 := (List.cons.inj this).1
    have h2 := congrArg UInt8.toNat h1
    have kf := (k e List.mem_cons_self).f
    rw [dg_nat kf] at h2
    have h3 : (101 : UInt8).toNat = 101 := rfl
    omega
  | e :: es, [], k, _, h => by
    have := (split10 (ten_body (k e List.mem_cons_self)) (by decide) h).1
    unfold bodyB at this
    have h1 := (List.cons.inj this).1
    have h2 := congrArg UInt8.toNat h1
    have kf := (k e List.mem_cons_self).f
    rw [dg_nat kf] at h2
    have h3 : (101 : UInt8).toNat = 101 := rfl
    omega
  | e :: es, e' :: es', k, k', h => by
    obtain ⟨q1, q2⟩ := split10 (ten_body (k e List.mem_cons_self)) (ten_body (k' e' List.mem_cons_self)) h
    rw [body_inj (k e List.mem_cons_self) (k' e' List.mem_cons_self) q1, tail_inj (fun x hx => k x (List.mem_cons_of_mem _ hx)) (fun x hx => k' x (List.mem_cons_of_mem _ hx)) q2]
theorem head_inj {bx bx' : List Bool} (h : headB bx = headB bx') : bx = bx' := by
  unfold headB at h
  have h := List.append_cancel_left h
  by_cases hb : bx = [] <;> by_cases hb' : bx' = []
  · rw [hb, hb']
  · rw [if_pos hb, if_neg hb'] at h
    cases bx' with
    | nil => exact absurd rfl hb'
    | cons x l => have := (List.cons.inj h).1; exact absurd this (by cases x <;> decide)
  · rw [if_neg hb, if_pos hb'] at h
    cases bx with
    | nil => exact absurd rfl hb
    | cons x l => have := (List.cons.inj h).1; exact absurd this (by cases x <;> decide)
  · rw [if_neg hb, if_neg hb'] at h
    exact map_inj vx_inj h
theorem text_inj {bx bx' : List Bool} {es es' : List Ed} (k : ∀ e ∈ es, e.Few) (k' : ∀ e ∈ es', e.Few) (h : textB bx es = textB bx' es') : bx = bx' ∧ es = es' := by
  rw [textB_eq, textB_eq] at h
  obtain ⟨h1, h2⟩ := split10 (ten_head bx) (ten_head bx') h
  exact ⟨head_inj h1, tail_inj k k' h2⟩
theorem head_len (bx : List Bool) (hb : bx ≠ []) : (headB bx).length = 6 + bx.length := by
  unfold headB; rw [if_neg hb]; simp; omega
theorem tail_ten : ∀ {es : List Ed}, (∀ e ∈ es, e.Few) → (tailB es).count 10 = es.length + 1
  | [], _ => rfl
  | e :: es, k => by
    have h1 := List.count_eq_zero.2 (ten_body (k e List.mem_cons_self))
    have h2 := tail_ten (es := es) fun x hx => k x (List.mem_cons_of_mem _ hx)
    unfold tailB
    rw [List.count_append, List.count_cons, h1, h2, List.length_cons]; simp
theorem text_ten {bx : List Bool} {es : List Ed} (k : ∀ e ∈ es, e.Few) : (textB bx es).count 10 = es.length + 2 := by
  rw [textB_eq, List.count_append, List.count_eq_zero.2 (ten_head bx), List.count_cons, tail_ten k]; simp
theorem dg_lt {n : Nat} (hn : n < 10) : (dg n).toNat < 128 := by rw [dg_nat hn]; omega
theorem body_ascii {e : Ed} (k : e.Few) : ∀ x ∈ bodyB e, x.toNat < 128 := by
  intro x h
  unfold bodyB at h
  rcases List.mem_append.1 h with h | h
  · simp only [List.mem_cons, List.not_mem_nil, or_false] at h
    rcases h with rfl | rfl | rfl | rfl | rfl
    · exact dg_lt k.f
    · decide
    · unfold dl; split <;> decide
    · decide
    · exact dg_lt k.t
  · split at h
    · cases h
    · rcases List.mem_cons.1 h with rfl | h
      · decide
      · obtain ⟨y, _, rfl⟩ := List.mem_map.1 h
        cases y <;> decide
theorem tail_ascii : ∀ {es : List Ed}, (∀ e ∈ es, e.Few) → ∀ x ∈ tailB es, x.toNat < 128
  | [], _, x, h => by
    simp only [tailB, List.cons_append, List.nil_append, List.mem_cons, List.not_mem_nil, or_false] at h
    rcases h with rfl | rfl | rfl | rfl <;> decide
  | e :: es, k, x, h => by
    rcases List.mem_append.1 h with h | h
    · exact body_ascii (k e List.mem_cons_self) x h
    · rcases List.mem_cons.1 h with rfl | h
      · decide
      · exact tail_ascii (fun y hy => k y (List.mem_cons_of_mem _ hy)) x h
theorem text_ascii {bx : List Bool} {es : List Ed} (k : ∀ e ∈ es, e.Few) : ∀ x ∈ textB bx es, x.toNat < 128 := by
  intro x h
  rw [textB_eq] at h
  rcases List.mem_append.1 h with h | h
  · unfold headB at h
    rcases List.mem_append.1 h with h | h
    · simp only [List.mem_cons, List.not_mem_nil, or_false] at h
      rcases h with rfl | rfl | rfl | rfl | rfl | rfl <;> decide
    · split at h
      · simp only [List.mem_cons, List.not_mem_nil, or_false] at h
        subst h; decide
      · obtain ⟨y, _, rfl⟩ := List.mem_map.1 h
        cases y <;> decide
  · rcases List.mem_cons.1 h with rfl | h
    · decide
    · exact tail_ascii k x h
/-- So long is the first line, of the first i bytes. -/
def firstOf (l : List UInt8) (i : Nat) : Nat := ((List.range i).filter fun k => (l.take (k + 1)).count 10 == 0).length
theorem firstOf_succ (l : List UInt8) (i : Nat) : firstOf l (i + 1) = firstOf l i + if (l.take (i + 1)).count 10 = 0 then 1 else 0 := by
  unfold firstOf
  rw [List.range_succ, List.filter_append, List.length_append]
  congr 1
  by_cases h : (l.take (i + 1)).count 10 = 0 <;> simp [h]
theorem firstOf_le (l : List UInt8) (i : Nat) : firstOf l i ≤ i := by
  unfold firstOf
  have := List.length_filter_le (fun k => (l.take (k + 1)).count 10 == 0) (List.range i)
  simpa using this
theorem firstOf_all {x r : List UInt8} (hx : (10 : UInt8) ∉ x) (i : Nat) : firstOf (x ++ 10 :: r) i = min i x.length := by
  induction i with
  | zero => simp [firstOf]
  | succ i ih =>
    rw [firstOf_succ, ih]
    by_cases hi : i < x.length
    · have : ((x ++ 10 :: r).take (i + 1)).count 10 = 0 := by
        rw [List.take_append_of_le_length (by omega)]
        exact List.count_eq_zero.2 fun h => hx (List.mem_of_mem_take h)
      rw [if_pos this]; omega
    · have : ((x ++ 10 :: r).take (i + 1)).count 10 ≠ 0 := by
        rw [List.take_append, List.count_append]
        have e : i + 1 - x.length = (i - x.length) + 1 := by omega
        rw [e, List.take_succ_cons, List.count_cons]; simp
      rw [if_neg this]; omega
end Go.Shape
end

section
/- PRINTED by wip/gen.py: what muntin/muntinref08.Same does, in the words of Mu. -/
namespace Go.Proofs.YtimadnngfhbfiaaDoor
open Go Go.Mu
/- muntin/muntinref08.Same -/
def S26_j1 (K : Bool → H → Prop) (h_3 : H) : Prop :=
  K true h_3
def S26_l2 (p0_1 : Sl) (p1_1 : Sl) (K : Bool → H → Prop) (X : Int → H → Prop) (v6 : Int) (h_4 : H) : Prop :=
  (if (decide (v6 < (p0_1.l : Int))) = true then (∃ a51 : Addr, p0_1.a = some a51 ∧ 0 ≤ v6 ∧ v6 < (p0_1.l : Int) ∧ (∃ (v52_0 : Int) (v52_1 : Int) (v52_2 : Int) (v52_3 : ByteArray), H.rdn h_4 (Addr.add a51 (Int.toNat v6 * 4)) 4 [(.int .i64 v52_0), (.int .i64 v52_1), (.int .i64 v52_2), (.string v52_3)] ∧ (∃ a56 : Addr, p1_1.a = some a56 ∧ 0 ≤ v6 ∧ v6 < (p1_1.l : Int) ∧ (∃ (v57_0 : Int) (v57_1 : Int) (v57_2 : Int) (v57_3 : ByteArray), H.rdn h_4 (Addr.add a56 (Int.toNat v6 * 4)) 4 [(.int .i64 v57_0), (.int .i64 v57_1), (.int .i64 v57_2), (.string v57_3)] ∧ (if (!((v52_0 == v57_0) && ((v52_1 == v57_1) && ((v52_2 == v57_2) && ((ByteArray.toList v52_3 == ByteArray.toList v57_3) && true))))) = true then K false h_4 else X (IntKind.wrap .i64 (v6 + 1)) h_4))))) else S26_j1 K h_4)
def S26_j3 (p0_1 : Sl) (p1_1 : Sl) (K : Bool → H → Prop) (h_2 : H) : Prop :=
  lfp (fun X s h_4 => S26_l2 p0_1 p1_1 K X s h_4) 0 h_2
def S26_l4 (p0_0 : Sl) (p0_1 : Sl) (p1_0 : Sl) (p1_1 : Sl) (K : Bool → H → Prop) (X_1 : Int → H → Prop) (v5 : Int) (h_5 : H) : Prop :=
  (if (decide (v5 < (p0_0.l : Int))) = true then (∃ a33 : Addr, p0_0.a = some a33 ∧ 0 ≤ v5 ∧ v5 < (p0_0.l : Int) ∧ (∃ (v34 : Bool), H.rd h_5 (Addr.add a33 (Int.toNat v5 * 1)) = some (.bool v34) ∧ (∃ a38 : Addr, p1_0.a = some a38 ∧ 0 ≤ v5 ∧ v5 < (p1_0.l : Int) ∧ (∃ (v39 : Bool), H.rd h_5 (Addr.add a38 (Int.toNat v5 * 1)) = some (.bool v39) ∧ (if (!(v34 == v39)) = true then K false h_5 else X_1 (IntKind.wrap .i64 (v5 + 1)) h_5))))) else S26_j3 p0_1 p1_1 K h_5)
def S26_j5 (p0_0 : Sl) (p0_1 : Sl) (p1_0 : Sl) (p1_1 : Sl) (K : Bool → H → Prop) (v22 : Bool) (h_1 : H) : Prop :=
  (if v22 = true then K false h_1 else lfp (fun X_1 s h_5 => S26_l4 p0_0 p0_1 p1_0 p1_1 K X_1 s h_5) 0 h_1)
def S26 (p0_0 : Sl) (p0_1 : Sl) (p1_0 : Sl) (p1_1 : Sl) (h : H) (K : Bool → H → Prop) : Prop :=
  S26_j5 p0_0 p0_1 p1_0 p1_1 K (((p0_0.l : Int) != (p1_0.l : Int)) || ((p0_1.l : Int) != (p1_1.l : Int))) h
end Go.Proofs.YtimadnngfhbfiaaDoor
end

section
/- PRINTED by wip/gen.py: what muntin/muntinlaw09.TextApart does, in the words of Mu. -/
namespace Go.Proofs.YtimadnngfhbfiaaDoor
open Go Go.Mu
/- muntin/muntinlaw09.TextApart -/
def S7_j1 (K : Bool → H → Prop) (v4 : Bool) (h_12 : H) : Prop :=
  K v4 h_12
def S7_j2 (K : Bool → H → Prop) (v19_0 : Sl) (v19_1 : Sl) (v14 : Int) (v15 : Int) (h_11 : H) : Prop :=
  S7_j1 K ((v14 == (IntKind.wrap .i64 ((v19_1.l : Int) + 3))) && (v15 == (IntKind.wrap .i64 ((IntKind.wrap .i64 (6 + (v19_0.l : Int))) + 1)))) h_11
def S7_j3 (v51_0 : ByteArray) (v15_1 : Int) (c78_1 : Nat) (X : (Int × Int × Nat) → H → Prop) (v14_2 : Int) (h_14 : H) : Prop :=
  (if (v14_2 == 0) = true then X (v14_2, (IntKind.wrap .i64 (v15_1 + 1)), (c78_1 + (Utf8.decode v51_0 c78_1).2)) h_14 else X (v14_2, v15_1, (c78_1 + (Utf8.decode v51_0 c78_1).2)) h_14)
def S7_l4 (K : Bool → H → Prop) (v19_0 : Sl) (v19_1 : Sl) (v51_0 : ByteArray) (X : (Int × Int × Nat) → H → Prop) (v14_1 : Int) (v15_1 : Int) (c78_1 : Nat) (h_13 : H) : Prop :=
  (if c78_1 < ByteArray.size v51_0 then (if (((Utf8.decode v51_0 c78_1).1 : Int) == 10) = true then S7_j3 v51_0 v15_1 c78_1 X (IntKind.wrap .i64 (v14_1 + 1)) h_13 else S7_j3 v51_0 v15_1 c78_1 X v14_1 h_13) else S7_j2 K v19_0 v19_1 v14_1 v15_1 h_13)
def S7_j5 (K : Bool → H → Prop) (v19_0 : Sl) (v19_1 : Sl) (v51_0 : ByteArray) (v76 : Bool) (h_10 : H) : Prop :=
  (if v76 = true then K false h_10 else lfp (fun X s h_13 => S7_l4 K v19_0 v19_1 v51_0 X s.1 s.2.1 s.2.2 h_13) (0, 0, 0) h_10)
def S7 (p0_0 : Sl) (p0_1 : Sl) (p0_2 : Sl) (p1_0 : Sl) (p1_1 : Sl) (p1_2 : Sl) (h : H) (K : Bool → H → Prop) : Prop :=
  S11 p0_0 p0_1 p0_2 5 h (fun (v19_0 : Sl) (v19_1 : Sl) (h_1 : H) => S11 p1_0 p1_1 p1_2 5 h_1 (fun (v21_0 : Sl) (v21_1 : Sl) (h_2 : H) => S25 v19_0 v19_1 h_2 (fun (v24_0 : ByteArray) (v24_1 : Int) (h_3 : H) => S25 v21_0 v21_1 h_3 (fun (v29_0 : ByteArray) (v29_1 : Int) (h_4 : H) => ((v19_0.a = none → v19_0.l = 0 → v19_0.c = 0) ∧ appS 4 1 1 Sl.nil v19_0 h_4 (fun (v35 : Sl) (h_5 : H) => app 4 1 1 v35 1 [(.bool true)] h_5 (fun (v37 : Sl) (h_6 : H) => ((v19_1.a = none → v19_1.l = 0 → v19_1.c = 0) ∧ appS 54 4 40 Sl.nil v19_1 h_6 (fun (v41 : Sl) (h_7 : H) => app 54 4 40 v41 1 [(.int .i64 (v19_0.l : Int)), (.int .i64 0), (.int .i64 0), (.string ⟨#[76]⟩)] h_7 (fun (v47 : Sl) (h_8 : H) => S25 v37 v47 h_8 (fun (v51_0 : ByteArray) (v51_1 : Int) (h_9 : H) => S24  h_9 (fun (v54 : Bool) (h_15 : H) => (if (!v54) = true then S7_j5 K v19_0 v19_1 v51_0 true h_15 else (if (v24_1 != 0) = true then S7_j5 K v19_0 v19_1 v51_0 true h_15 else (if (v29_1 != 0) = true then S7_j5 K v19_0 v19_1 v51_0 true h_15 else (if (v51_1 != 0) = true then S7_j5 K v19_0 v19_1 v51_0 true h_15 else S26 v19_0 v19_1 v21_0 v21_1 h_15 (fun (v74 : Bool) (h_16 : H) => S7_j5 K v19_0 v19_1 v51_0 (!((ByteArray.toList v24_0 == ByteArray.toList v29_0) == v74)) h_16)))))))))))))))))
end Go.Proofs.YtimadnngfhbfiaaDoor
end

section
/-
  TextApart: what the law answers.
-/
namespace Go.Proofs.YtimadnngfhbfiaaDoor
open Go Go.Mu Go.Shape
variable {h h0 : H}
set_option maxHeartbeats 2000000

theorem RawIn.mono {h' : H} {z0 z1 z2 : Sl} (r : RawIn h z0 z1 z2) (le : h.Le h') : RawIn h' z0 z1 z2 := by
  obtain ⟨zb, ze, zc, r0, r1, r2, u1, u2⟩ := r.in'
  exact ⟨zb, ze, zc, r0.le le, r1.le le, r2.le le, u1, u2⟩
/-- Two shapes are held against each other. -/
theorem c26 {p0 p1 q0 q1 : Sl} {bx bx' : List Bool} {es es' : List Ed} (s : Shp h p0 p1 bx es) (s' : Shp h q0 q1 bx' es') {K : Bool → H → Prop} (kt : bx = bx' → es = es' → K true h) (kf : ¬ (bx = bx' ∧ es = es') → K false h) : S26 p0 p1 q0 q1 h K := by
  have e0 := s.b.len
  have e1 := s.e.len
  have d0 := s'.b.len
  have d1 := s'.e.len
  have l0 := s.lb
  have l1 := s.le
  unfold S26 S26_j5
  by_cases hl : bx.length = bx'.length ∧ es.length = es'.length
  · obtain ⟨hl0, hl1⟩ := hl
    rw [if_neg (by simp only [Bool.or_eq_true, bne_iff_ne, ne_eq]; omega)]
    refine lfp.count bx.length (fun i (u : Int) h' => u = (i : Int) ∧ h' = h ∧ bx.take i = bx'.take i) (fun X i u h' hi ⟨q1, q2, q3⟩ next => ?_) ⟨rfl, rfl, rfl⟩
    subst q1 q2
    unfold S26_l4
    rw [e0]
    by_cases hlt : i < bx.length
    · rw [if_pos (by simp only [decide_eq_true_eq]; omega)]
      obtain ⟨x, hx⟩ : ∃ x, bx[i]? = some x := ⟨_, List.getElem?_eq_getElem hlt⟩
      obtain ⟨y, hy⟩ : ∃ x, bx'[i]? = some x := ⟨_, List.getElem?_eq_getElem (by omega)⟩
      obtain ⟨a, ha, r1⟩ := s.b.ix hx
      obtain ⟨a2, ha2, r2⟩ := s'.b.ix hy
      refine ⟨a, ha, by omega, by omega, x, by rw [Int.toNat_natCast]; exact r1.at0, a2, ha2, by omega, by omega, y, by rw [Int.toNat_natCast]; exact r2.at0, ?_⟩
      by_cases hxy : x = y
      · rw [if_neg (by simp [hxy]), wsucc (by omega)]
        refine next hlt _ _ ⟨rfl, rfl, ?_⟩
        rw [List.take_add_one, List.take_add_one, q3, hx, hy, hxy]
      · rw [if_pos (by simp [hxy])]
        exact kf fun q => hxy (by rw [q.1, hy] at hx; exact (Option.some.inj hx).symm)
    · rw [if_neg (by simp only [decide_eq_true_eq]; omega)]
      rw [List.take_of_length_le (by omega), List.take_of_length_le (by omega)] at q3
      clear next
      unfold S26_j3
      refine lfp.count es.length (fun i (u : Int) h2 => u = (i : Int) ∧ h2 = h' ∧ es.take i = es'.take i) (fun Y i u h2 hi ⟨q1, q2, q4⟩ next => ?_) ⟨rfl, rfl, rfl⟩
      subst q1 q2
      unfold S26_l2
      rw [e1]
      by_cases hlt : i < es.length
      · rw [if_pos (by simp only [decide_eq_true_eq]; omega)]
        obtain ⟨x, hx⟩ : ∃ x, es[i]? = some x := ⟨_, List.getElem?_eq_getElem hlt⟩
        obtain ⟨y, hy⟩ : ∃ x, es'[i]? = some x := ⟨_, List.getElem?_eq_getElem (by omega)⟩
        obtain ⟨a, ha, r1⟩ := s.e.ix hx
        obtain ⟨a2, ha2, r2⟩ := s'.e.ix hy
        refine ⟨a, ha, by omega, by omega, x.f, x.t, x.d, bs x.b, by rw [Int.toNat_natCast]; exact r1, a2, ha2, by omega, by omega, y.f, y.t, y.d, bs y.b, by rw [Int.toNat_natCast]; exact r2, ?_⟩
        rw [toList_eq]
        by_cases hxy : x = y
        · rw [if_neg (by simp [hxy]), wsucc (by omega)]
          refine next hlt _ _ ⟨rfl, rfl, ?_⟩
          rw [List.take_add_one, List.take_add_one, q4, hx, hy, hxy]
        · rw [if_pos ?_]
          · exact kf fun q => hxy (by rw [q.2, hy] at hx; exact (Option.some.inj hx).symm)
          · have : ((x.f : Int) == (y.f : Int) && ((x.t : Int) == (y.t : Int) && ((x.d : Int) == (y.d : Int) && (decide (bs x.b = bs y.b) && true)))) = false := by
              rw [← Bool.not_eq_true]
              intro hh
              simp only [Bool.and_true, Bool.and_eq_true, beq_iff_eq, decide_eq_true_eq] at hh
              obtain ⟨f1, f2, f3, f4⟩ := hh
              have hb : x.b = y.b := by
                have := congrArg (fun b : ByteArray => b.data.toList) f4
                rw [bs_list, bs_list] at this
                exact map_inj letter_inj this
              apply hxy
              cases x; cases y
              simp only at f1 f2 f3 hb
              have g1 := Int.ofNat.inj f1
              have g2 := Int.ofNat.inj f2
              have g3 := Int.ofNat.inj f3
              subst g1 g2 g3 hb; rfl
            rw [this]; rfl
      · rw [if_neg (by simp only [decide_eq_true_eq]; omega)]
        rw [List.take_of_length_le (by omega), List.take_of_length_le (by omega)] at q4
        exact kt q3 q4
  · rw [if_pos (by simp only [Bool.or_eq_true, bne_iff_ne, ne_eq]; omega)]
    exact kf fun q => hl ⟨by rw [q.1], by rw [q.2]⟩
/-- A copy, to be appended to. -/
theorem copyOf {α : Type} {enc : α → List Value} {size e bytes : Nat} {t : Sl} {l : List α} (r : Rd h t size enc l) (hp : 0 < size) (hl : l.length < 1000) (hb : bytes ≤ 1000) (h1 : ∀ u ∈ l.flatMap enc, u.oneCell' = true) {K : Sl → H → Prop}
    (k : ∀ s' h', St h h' (fun _ : Unit => .arr s' e size (l.flatMap enc)) → K s' h') : appS e size bytes Sl.nil t h K := by
  have st0 : St h h (fun _ : Unit => .arr Sl.nil e size []) := St.nil1 h
  refine ⟨_, _, st0.own () rfl, ?_⟩
  have hlen := r.1
  cases ha : t.a with
  | none =>
    have hz : t.l = 0 := by
      rcases Nat.eq_zero_or_pos t.l with h | h
      · exact h
      · obtain ⟨a, ha2, _⟩ := r.2.2 h
        rw [ha] at ha2; cases ha2
    have hn : l = [] := List.eq_nil_of_length_eq_zero (by omega)
    subst hn
    exact .inl ⟨rfl, hz, k _ _ st0⟩
  | some a =>
    refine .inr ⟨a, l.flatMap enc, rfl, ?_, h1, ?_, ?_, fun s' h' ap => ?_⟩
    · rcases Nat.eq_zero_or_pos t.l with h | h
      · have hn : l = [] := List.eq_nil_of_length_eq_zero (by omega)
        subst hn
        rw [h, Nat.zero_mul]
        exact ⟨rfl, fun j v hj => by simp at hj⟩
      · exact Rd.all r hp ha h
    · show 0 + t.l ≤ maxLen; simp only [maxLen]; omega
    · show (0 + t.l) * bytes ≤ _
      have : (0 + t.l) * bytes ≤ 1000 * 1000 := Nat.mul_le_mul (by omega) hb
      omega
    · obtain ⟨st1, _⟩ := st0.app () rfl rfl (by rw [flatMap_len r.2.1, hlen]) ap (fun _ => .arr s' e size (l.flatMap enc)) (by simp) (fun i hi => (hi rfl).elim)
      exact k _ _ st1
theorem oneCell_b (bx : List Bool) : ∀ u ∈ bx.flatMap encB, u.oneCell' = true := by
  intro u hu
  obtain ⟨c, _, hc⟩ := List.mem_flatMap.1 hu
  simp only [encB, List.mem_cons, List.not_mem_nil, or_false] at hc
  subst hc; rfl
theorem own_nil {st : H} {e size : Nat} {s : Sl} {xs : List Value} (o : Own st e size s.v s.l xs) : s.a = none → s.l = 0 → s.c = 0 := fun ha _ => by
  rcases o.2 with ⟨hv, _⟩ | ⟨g, cap, hv, _⟩
  · simp only [Value.slice.injEq] at hv; exact hv.2.2
  · simp only [Value.slice.injEq] at hv; rw [hv.1] at ha; cases ha
def eL (n : Nat) : Ed := ⟨n, 0, 0, [true]⟩
theorem c7 {z0 z1 z2 y0 y1 y2 : Sl} (raw : RawIn h z0 z1 z2) (raw' : RawIn h y0 y1 y2) {K : Bool → H → Prop} (k : ∀ h', K true h') : S7 z0 z1 z2 y0 y1 y2 h K := by
  obtain ⟨zb, ze, zc, r0, r1, r2, u1, u2⟩ := raw.in'
  unfold S7
  refine c11m (m := 5) (by decide) r0 r1 r2 u1 u2 fun bx es p0 p1 h1 st1 el0 el1 lb le ok => ?_
  obtain ⟨zb', ze', zc', r0', r1', r2', u1', u2'⟩ := (raw'.mono st1.le).in'
  refine c11m (m := 5) (by decide) r0' r1' r2' u1' u2' fun bx' es' q0 q1 h2 st2 _ _ lb' le' ok' => ?_
  have sh2 := (two_shp st1 (by omega) (by omega) ok).mono st2.le
  have sh2' := two_shp st2 (by omega) (by omega) ok'
  refine c25 sh2 fun h3 l3 => c25 (sh2'.mono l3) fun h4 l4 => ?_
  have st14 := ((st1.le' st2.le).le' l3).le' l4
  have sh4 := (sh2.mono l3).mono l4
  have sh4' := (sh2'.mono l3).mono l4
  refine ⟨own_nil (st14.own false rfl), copyOf (e := 4) sh4.b (by decide) (by omega) (by decide) (oneCell_b bx) fun v35 h5 st5 => ?_⟩
  refine ⟨_, _, st5.own () rfl, by have := (st5.arr (enc := encB) () rfl (fun _ _ => rfl) (by decide)).1; simp only [maxLen]; omega, by have := (st5.arr (enc := encB) () rfl (fun _ _ => rfl) (by decide)).1; omega, fun v37 h6 ap => ?_⟩
  obtain ⟨st6, _⟩ := st5.app () rfl rfl rfl ap (fun _ => .arr v37 4 1 ((bx ++ [true]).flatMap encB)) (by rw [List.flatMap_append]; rfl) (fun i hi => (hi rfl).elim)
  have st16 := st14.le' st6.le
  have sh6 := sh4.mono st6.le
  refine ⟨own_nil (st16.own true rfl), copyOf (e := 54) sh6.e (by decide) (by omega) (by decide) (oneCell_ed es) fun v41 h7 st7 => ?_⟩
  refine ⟨_, _, st7.own () rfl, by have := (st7.arr (enc := Ed.enc) () rfl (fun _ _ => rfl) (by decide)).1; simp only [maxLen]; omega, by have := (st7.arr (enc := Ed.enc) () rfl (fun _ _ => rfl) (by decide)).1; omega, fun v47 h8 ap2 => ?_⟩
  obtain ⟨st8, _⟩ := st7.app () rfl rfl rfl ap2 (fun _ => .arr v47 54 4 ((es ++ [eL bx.length]).flatMap Ed.enc)) (by rw [List.flatMap_append, el0]; rfl) (fun i hi => (hi rfl).elim)
  have okm : ∀ e ∈ es ++ [eL bx.length], e.Ok (bx ++ [true]).length := fun e he => by
    rw [List.length_append, List.length_singleton]
    rcases List.mem_append.1 he with he | he
    · have o := ok e he
      exact ⟨by have := o.f; omega, by have := o.t; omega, o.d, o.b⟩
    · simp only [List.mem_singleton] at he; subst he
      exact ⟨Nat.lt_succ_self _, Nat.succ_pos _, show 0 < 4 by decide, show 1 < 4 by decide⟩
  have rb : Rd h8 v37 1 encB (bx ++ [true]) := (st6.arr (enc := encB) () rfl (fun _ _ => rfl) (by decide)).le st8.le
  have re : Rd h8 v47 4 Ed.enc (es ++ [eL bx.length]) := st8.arr (enc := Ed.enc) () rfl (fun _ _ => rfl) (by decide)
  have sh8 : Shp h8 v37 v47 (bx ++ [true]) (es ++ [eL bx.length]) := ⟨rb, re, by rw [List.length_append, List.length_singleton]; omega, by rw [List.length_append, List.length_singleton]; omega, okm⟩
  refine c25 sh8 fun h9 l9 => c24 fun h10 l10 => ?_
  rw [if_neg (by decide), if_neg (by decide), if_neg (by decide), if_neg (by decide)]
  have few : ∀ e ∈ es, e.Few := fun e he => (ok e he).few (by omega)
  have few' : ∀ e ∈ es', e.Few := fun e he => (ok' e he).few (by omega)
  have few8 : ∀ e ∈ es ++ [eL bx.length], e.Few := fun e he => (okm e he).few (by rw [List.length_append, List.length_singleton]; omega)
  have sh10 := ((sh6.mono st8.le).mono l9).mono l10
  have sh10' := (((sh4'.mono st6.le).mono st8.le).mono l9).mono l10
  have hd := tailB_eq (es ++ [eL bx.length])
  have fin : S7_j5 K p0 p1 (B (textB (bx ++ [true]) (es ++ [eL bx.length]))) false h10 := by
    unfold S7_j5
    rw [if_neg (by decide)]
    have hct := text_ten (bx := bx ++ [true]) few8
    have hasc := text_ascii (bx := bx ++ [true]) few8
    have hfo : firstOf (textB (bx ++ [true]) (es ++ [eL bx.length])) (textB (bx ++ [true]) (es ++ [eL bx.length])).length = 6 + (bx.length + 1) := by
      rw [textB_eq, firstOf_all (ten_head _), head_len _ (by simp)]
      simp [head_len]
    have hlen : (textB (bx ++ [true]) (es ++ [eL bx.length])).length ≤ 1000 := by
      have h1 := lines_len okm
      have h2 := head_len (bx ++ [true]) (by simp)
      unfold textB
      simp only [List.length_append, List.length_cons, List.length_nil] at h1 h2 ⊢; omega
    rw [List.length_append, List.length_singleton] at hct
    generalize hT : textB (bx ++ [true]) (es ++ [eL bx.length]) = T at hct hasc hfo hlen
    refine lfp.count T.length (fun i (s : Int × Int × Nat) h' => s = ((((T.take i).count 10 : Nat) : Int), ((firstOf T i : Nat) : Int), i) ∧ h' = h10) (fun X i s h' hi ⟨q1, q2⟩ next => ?_) ⟨rfl, rfl⟩
    subst q1 q2
    simp only
    unfold S7_l4
    rw [B_size]
    have c1 : (T.take i).count 10 ≤ i := Nat.le_trans List.count_le_length (by rw [List.length_take]; omega)
    have c2 := firstOf_le T i
    by_cases hlt : i < T.length
    · rw [if_pos hlt]
      obtain ⟨x, hx⟩ : ∃ x, T[i]? = some x := ⟨_, List.getElem?_eq_getElem hlt⟩
      have hxl := hasc x (List.mem_of_getElem? hx)
      have hsz : i < (B T).size := by rw [B_size]; exact hlt
      have hg : (B T)[i]'hsz = x := by
        have h4 : T[i]'hlt = x := by rw [List.getElem?_eq_getElem hlt] at hx; exact Option.some.inj hx
        show (B T).data[i]'_ = x
        simpa using h4
      have hdec : Utf8.decode (B T) i = (x.toNat, 1) := by
        rw [decode_ascii (B T) i hsz (by rw [hg]; exact hxl), hg]
      have ht : (T.take (i + 1)).count 10 = (T.take i).count 10 + if x = 10 then 1 else 0 := by
        rw [List.take_add_one, hx, List.count_append]
        by_cases h10 : x = 10
        · subst h10; simp
        · simp [h10]
      have fin : ∀ m : Nat, (T.take (i + 1)).count 10 = m → S7_j3 (B T) (firstOf T i : Nat) i X m h' := fun m hm => by
        unfold S7_j3
        rw [hdec]
        simp only
        have hs := firstOf_succ T i
        rw [hm] at hs
        by_cases h0 : m = 0
        · rw [if_pos (by simp [h0]), wsucc (by omega)]
          refine next hlt _ _ ⟨?_, rfl⟩
          rw [hm, hs, if_pos h0]
        · rw [if_neg (by simp only [beq_iff_eq]; omega)]
          refine next hlt _ _ ⟨?_, rfl⟩
          rw [hm, hs, if_neg h0]; rfl
      rw [hdec]
      simp only
      by_cases h10 : x = 10
      · subst h10
        rw [if_pos (by rfl), wsucc (by omega)]
        exact fin _ (by rw [ht, if_pos rfl])
      · have : x.toNat ≠ 10 := fun e => h10 (UInt8.toNat_inj.1 e)
        rw [if_neg (by simp only [beq_iff_eq]; omega)]
        exact fin _ (by rw [ht, if_neg h10, Nat.add_zero])
    · rw [if_neg hlt]
      have hiT : i = T.length := by omega
      subst hiT
      rw [List.take_length]
      unfold S7_j2 S7_j1
      have e0 := sh10.b.len
      have e1 := sh10.e.len
      rw [e0, e1]
      have w1 : IntKind.i64.wrap ((es.length : Int) + 3) = ((es.length + 3 : Nat) : Int) := wrapN (by omega) (by omega)
      have w2 : IntKind.i64.wrap (6 + (bx.length : Int)) = ((6 + bx.length : Nat) : Int) := wrapN (by omega) (by omega)
      have w3 : IntKind.i64.wrap (((6 + bx.length : Nat) : Int) + 1) = ((6 + bx.length + 1 : Nat) : Int) := wsucc (by omega)
      rw [w1, w2, w3, hct, hfo]
      have a1 : es.length + 1 + 2 = es.length + 3 := by omega
      have a2 : 6 + (bx.length + 1) = 6 + bx.length + 1 := by omega
      rw [a1, a2]
      simp only [beq_self_eq_true, Bool.and_self]
      exact k _
  refine c26 sh10 sh10' (fun q1 q2 => ?_) (fun q => ?_)
  · subst q1 q2
    rw [toList_eq, decide_eq_true rfl]
    exact fin
  · rw [toList_eq]
    have hne : B (textB bx es) ≠ B (textB bx' es') := fun e => q (text_inj few few' (by
      have := congrArg (fun b : ByteArray => b.data.toList) e
      simpa using this))
    rw [decide_eq_false hne]
    exact fin
end Go.Proofs.YtimadnngfhbfiaaDoor
end

section
/-
  What lies in a world, as a heap that may not be written; the arguments read out of it; what stays.
-/
namespace Go.Mu
/-- All that the world's rows hold, none to be written. -/
def H.of (W : World) : H := fun b => match W.heap[b]? with
  | some (.cells c e _) => some (.row ⟨c.toList, c.size, e, false, false⟩)
  | _ => none
theorem H.of_sat (W : World) : Sat (H.of W) W := by
  intro b x hx
  unfold H.of at hx
  split at hx
  · rename_i c e fz hb
    cases hx
    exact ⟨c, fz, hb, rfl, List.prefix_rfl, fun h => (by cases h), fun h => (by cases h)⟩
  · cases hx
theorem H.of_own (W : World) (b : Nat) : Blk.own (H.of W b) = false := by
  unfold H.of
  split <;> rfl
theorem H.of_rd {W : World} {a : Addr} {v : Value} (e : W.cell? a = some v) : (H.of W).rd a = some v := by
  unfold World.cell? at e
  unfold H.rd H.of
  split at e
  · rename_i c t fz hb
    split at e
    · cases e
    · rename_i hs
      have : a.spot = none := by simpa using hs
      rw [this, hb]
      simpa using e
  · cases e
theorem Fr.below {W W' : World} {h' : H} (f : Fr (H.of W) W h' W') : Go.RowKit.Below W.heap.size W W' :=
  ⟨f.os, f.tape, f.output, f.size, fun k hk => (f.keep k hk (H.of_own W k)).1⟩
/-- A call, told of the world in which it begins. -/
theorem ACall.world {P : Program} {f : FuncId} {args : Array Value} {W : World} {K : Value → H → Prop} (a : ACall P f args (H.of W) K) : Calls P f args W fun e W' => ∃ r h', e = .returned r ∧ Go.RowKit.Below W.heap.size W W' ∧ K r h' :=
  (a W (H.of_sat W)).mono fun _ _ ⟨r, h', e, _, fr, k⟩ => ⟨r, h', e, fr.below, k⟩
end Go.Mu
namespace Go.Proofs.YtimadnngfhbfiaaDoor
open Go Go.Mu Go.Shape
open Go.ChangeShapes Go.WideShapes Go.ChangeAt Go.RowKit Go.Joins Go.Deep
section
variable {H' : Type} {enc : TypeId × Value → H'} {P : Program} {W : World} {held : Bool} {fuel : Nat} {base : Nat}
theorem Rd_nil {h : H} {size : Nat} {α : Type} {en : α → List Value} : Rd h Sl.nil size en [] := ⟨rfl, fun _ hx => (by cases hx), fun hp => absurd hp (Nat.lt_irrefl 0)⟩
/-- A slice of bools, of bytes, of arrays of three bytes, as it is read. -/
theorem rd_bools {t e : TypeId} {v : Value} {x : DataW H' × List MemPlace} (ht : P.underlying t = some (.slice e)) (he : P.underlying e = some .bool) (hc : P.cellsOf e = 1)
    (h : DataW.trod enc P W base (fun _ => true) held fuel t [v] = some x) : ∃ s : Sl, v = .slice s.a s.l s.c ∧ ∃ l : List Bool, Rd (H.of W) s 1 encB l := by
  rcases open_bools ht he hc h with ⟨hv, _⟩ | ⟨a, len, cap, B, hv, _, hl, _, _, hcell⟩
  · exact ⟨Sl.nil, by simpa using hv, [], Rd_nil⟩
  · refine ⟨⟨some a, len, cap⟩, by simpa using hv, (List.range len).map B, by simp, fun _ _ => rfl, fun _ => ⟨a, rfl, fun i y hi => ⟨rfl, fun j u hj => ?_⟩⟩⟩
    have hil : i < len := by have := (List.getElem?_eq_some_iff.1 hi).1; simpa using this
    have hy : B i = y := by simpa [hil] using hi
    match j, hj with
    | 0, hj =>
      have : u = .bool (B i) := by rw [hy]; simpa [encB] using hj.symm
      rw [this, Addr.add_add, Nat.mul_one, Nat.add_zero]
      exact H.of_rd (hcell i (by omega))
    | j + 1, hj => simp [encB] at hj
theorem u8_nat {n : Int} (hw : (Lit.int .u8 n).wf = true) : ∃ k : Nat, n = k ∧ k < 256 := by
  simp only [Lit.wf, Bool.and_eq_true] at hw
  have h1 : (0 : Int) ≤ n := of_decide_eq_true hw.1
  have h2 : n ≤ 255 := of_decide_eq_true hw.2
  exact ⟨n.toNat, by omega, by omega⟩
theorem rd_bytes {t e : TypeId} {v : Value} {x : DataW H' × List MemPlace} (ht : P.underlying t = some (.slice e)) (he : P.underlying e = some (.int .u8)) (hc : P.cellsOf e = 1)
    (h : DataW.trod enc P W base (fun _ => true) held fuel t [v] = some x) : ∃ s : Sl, v = .slice s.a s.l s.c ∧ ∃ l : List Nat, Rd (H.of W) s 1 encU l ∧ ∀ x ∈ l, x < 256 := by
  rcases open_ints ht he hc h with ⟨hv, _⟩ | ⟨a, len, cap, zs, hv, _, hl, _, hz, _, hcell, hwf⟩
  · exact ⟨Sl.nil, by simpa using hv, [], Rd_nil, fun _ hx => (by cases hx)⟩
  · simp only [if_true] at hz
    refine ⟨⟨some a, len, cap⟩, by simpa using hv, (zs.take len).map Int.toNat, ⟨by simp; omega, fun _ _ => rfl, fun _ => ⟨a, rfl, fun i y hi => ⟨rfl, fun j u hj => ?_⟩⟩⟩, fun x hx => ?_⟩
    · have hil : i < len := by have := (List.getElem?_eq_some_iff.1 hi).1; simp at this; omega
      have hzi : zs[i]? = some (zs.getD i 0) := by rw [List.getD_eq_getElem?_getD, List.getElem?_eq_getElem (by omega)]; rfl
      obtain ⟨k, hk, _⟩ := u8_nat (hwf (zs.getD i 0) (List.mem_of_getElem? hzi))
      have hy : y = (zs.getD i 0).toNat := by
        rw [List.getElem?_map, List.getElem?_take_of_lt hil, hzi] at hi
        simpa using hi.symm
      match j, hj with
      | 0, hj =>
        have : u = .int .u8 (zs.getD i 0) := by
          have h1 : u = .int .u8 (y : Int) := by simpa [encU] using hj.symm
          rw [h1, hy, hk]; rfl
        rw [this, Addr.add_add, Nat.mul_one, Nat.add_zero]
        exact H.of_rd (hcell i (by omega))
      | j + 1, hj => simp [encU] at hj
    · obtain ⟨z, hz2, rfl⟩ := List.mem_map.1 hx
      obtain ⟨k, rfl, hk⟩ := u8_nat (hwf z (List.mem_of_mem_take hz2))
      simpa using hk
theorem rd_threes {t e b : TypeId} {v : Value} {x : DataW H' × List MemPlace} (ht : P.underlying t = some (.slice e)) (he : P.underlying e = some (.array 3 b)) (hb : P.underlying b = some (.int .u8)) (hc : P.cellsOf e = 3) (hcb : P.cellsOf b = 1)
    (h : DataW.trod enc P W base (fun _ => true) held fuel t [v] = some x) : ∃ s : Sl, v = .slice s.a s.l s.c ∧ ∃ l : List (Nat × Nat × Nat), Rd (H.of W) s 3 enc3 l ∧ ∀ x ∈ l, x.1 < 256 ∧ x.2.1 < 256 ∧ x.2.2 < 256 := by
  rcases open_slice ht h with ⟨hv, _⟩ | ⟨a, len, cap, m, n, D, Pl, hv, _, hl, _, hm, _, hel⟩
  · exact ⟨Sl.nil, by simpa using hv, [], Rd_nil, fun _ hx => (by cases hx)⟩
  · simp only [if_true] at hm
    subst hm
    have one : ∀ i, i < m → ∃ y : Nat × Nat × Nat, (y.1 < 256 ∧ y.2.1 < 256 ∧ y.2.2 < 256) ∧ (H.of W).rdn (a.add (i * 3)) 3 (enc3 y) := fun i hi => by
      obtain ⟨cs, hcs, htr⟩ := hel i hi
      rw [hc] at hcs
      obtain ⟨_, hcl, hat⟩ := World.cells?_some hcs
      match cs, hcl with
      | [c0, c1, c2], _ =>
        obtain ⟨y0, y1, y2, n', _, t0, t1, t2⟩ := trod_array3 he hcb htr
        obtain ⟨z0, e0, _, w0⟩ := DataW.trod_int hb t0
        obtain ⟨z1, e1, _, w1⟩ := DataW.trod_int hb t1
        obtain ⟨z2, e2, _, w2⟩ := DataW.trod_int hb t2
        obtain ⟨k0, rfl, l0⟩ := u8_nat w0
        obtain ⟨k1, rfl, l1⟩ := u8_nat w1
        obtain ⟨k2, rfl, l2⟩ := u8_nat w2
        simp only [List.cons.injEq, and_true] at e0 e1 e2
        subst e0 e1 e2
        refine ⟨(k0, k1, k2), ⟨l0, l1, l2⟩, rfl, fun j u hj => ?_⟩
        refine H.of_rd ?_
        match j, hj with
        | 0, hj => rw [hat 0 (by decide)]; exact hj
        | 1, hj => rw [hat 1 (by decide)]; exact hj
        | 2, hj => rw [hat 2 (by decide)]; exact hj
        | j + 3, hj => simp [enc3] at hj
    -- gathered
    have all : ∀ k, k ≤ m → ∃ l : List (Nat × Nat × Nat), l.length = k ∧ (∀ x ∈ l, x.1 < 256 ∧ x.2.1 < 256 ∧ x.2.2 < 256) ∧ ∀ i y, l[i]? = some y → (H.of W).rdn (a.add (i * 3)) 3 (enc3 y) := by
      intro k
      induction k with
      | zero => intro _; exact ⟨[], rfl, fun _ hx => (by cases hx), fun i y hi => (by simp at hi)⟩
      | succ k ih =>
        intro hk
        obtain ⟨l, h1, h2, h3⟩ := ih (by omega)
        obtain ⟨y, hy, hr⟩ := one k (by omega)
        refine ⟨l ++ [y], by simp [h1], fun x hx => ?_, fun i z hi => ?_⟩
        · rcases List.mem_append.1 hx with hx | hx
          · exact h2 x hx
          · simp only [List.mem_singleton] at hx; subst hx; exact hy
        · by_cases hik : i < k
          · rw [List.getElem?_append_left (by omega)] at hi; exact h3 i z hi
          · have : i = k := by
              have := (List.getElem?_eq_some_iff.1 hi).1
              simp [h1] at this; omega
            subst this
            rw [List.getElem?_append_right (by omega), h1] at hi
            simp at hi; subst hi; exact hr
    obtain ⟨l, h1, h2, h3⟩ := all len hl
    exact ⟨⟨some a, len, m⟩, by simpa using hv, l, ⟨h1.symm, fun _ _ => rfl, fun _ => ⟨a, rfl, h3⟩⟩, h2⟩
end
end Go.Proofs.YtimadnngfhbfiaaDoor
end

section
/- PRINTED by wip/gen.py: facts of the program's types and calls. -/
namespace Go.Proofs.YtimadnngfhbfiaaDoor
open Go Go.Mu
set_option maxRecDepth 100000
theorem MO : Tryd.prog.follows .mixedOrders = true := by kernel_rfl
theorem CB11 : callB Tryd.prog 11 = true := by kernel_rfl
theorem CB12 : callB Tryd.prog 12 = true := by kernel_rfl
theorem CB13 : callB Tryd.prog 13 = true := by kernel_rfl
theorem CB14 : callB Tryd.prog 14 = true := by kernel_rfl
theorem CB15 : callB Tryd.prog 15 = true := by kernel_rfl
theorem CB16 : callB Tryd.prog 16 = true := by kernel_rfl
theorem CB17 : callB Tryd.prog 17 = true := by kernel_rfl
theorem CB18 : callB Tryd.prog 18 = true := by kernel_rfl
theorem CB19 : callB Tryd.prog 19 = true := by kernel_rfl
theorem CB20 : callB Tryd.prog 20 = true := by kernel_rfl
theorem CB21 : callB Tryd.prog 21 = true := by kernel_rfl
theorem CB22 : callB Tryd.prog 22 = true := by kernel_rfl
theorem CB23 : callB Tryd.prog 23 = true := by kernel_rfl
theorem CB24 : callB Tryd.prog 24 = true := by kernel_rfl
theorem CB25 : callB Tryd.prog 25 = true := by kernel_rfl
theorem CB26 : callB Tryd.prog 26 = true := by kernel_rfl
theorem CB39 : callB Tryd.prog 39 = true := by kernel_rfl
theorem CB40 : callB Tryd.prog 40 = true := by kernel_rfl
theorem CB41 : callB Tryd.prog 41 = true := by kernel_rfl
theorem CB42 : callB Tryd.prog 42 = true := by kernel_rfl
theorem CB43 : callB Tryd.prog 43 = true := by kernel_rfl
theorem CB44 : callB Tryd.prog 44 = true := by kernel_rfl
theorem CB45 : callB Tryd.prog 45 = true := by kernel_rfl
theorem CB46 : callB Tryd.prog 46 = true := by kernel_rfl
theorem CB47 : callB Tryd.prog 47 = true := by kernel_rfl
theorem CB48 : callB Tryd.prog 48 = true := by kernel_rfl
theorem CB49 : callB Tryd.prog 49 = true := by kernel_rfl
theorem CB50 : callB Tryd.prog 50 = true := by kernel_rfl
theorem CB51 : callB Tryd.prog 51 = true := by kernel_rfl
theorem CB52 : callB Tryd.prog 52 = true := by kernel_rfl
theorem CB53 : callB Tryd.prog 53 = true := by kernel_rfl
theorem CB54 : callB Tryd.prog 54 = true := by kernel_rfl
theorem CB55 : callB Tryd.prog 55 = true := by kernel_rfl
theorem CB56 : callB Tryd.prog 56 = true := by kernel_rfl
theorem CB57 : callB Tryd.prog 57 = true := by kernel_rfl
theorem CB58 : callB Tryd.prog 58 = true := by kernel_rfl
theorem CB59 : callB Tryd.prog 59 = true := by kernel_rfl
theorem CB60 : callB Tryd.prog 60 = true := by kernel_rfl
theorem CB61 : callB Tryd.prog 61 = true := by kernel_rfl
theorem CB62 : callB Tryd.prog 62 = true := by kernel_rfl
theorem CB70 : callB Tryd.prog 70 = true := by kernel_rfl
theorem CB71 : callB Tryd.prog 71 = true := by kernel_rfl
theorem CB72 : callB Tryd.prog 72 = true := by kernel_rfl
theorem CB73 : callB Tryd.prog 73 = true := by kernel_rfl
theorem CB74 : callB Tryd.prog 74 = true := by kernel_rfl
theorem CB75 : callB Tryd.prog 75 = true := by kernel_rfl
theorem CB76 : callB Tryd.prog 76 = true := by kernel_rfl
theorem CB77 : callB Tryd.prog 77 = true := by kernel_rfl
theorem CB78 : callB Tryd.prog 78 = true := by kernel_rfl
theorem CB79 : callB Tryd.prog 79 = true := by kernel_rfl
theorem CB87 : callB Tryd.prog 87 = true := by kernel_rfl
theorem CB88 : callB Tryd.prog 88 = true := by kernel_rfl
theorem CB92 : callB Tryd.prog 92 = true := by kernel_rfl
theorem CB93 : callB Tryd.prog 93 = true := by kernel_rfl
theorem CB94 : callB Tryd.prog 94 = true := by kernel_rfl
theorem CB95 : callB Tryd.prog 95 = true := by kernel_rfl
theorem CB96 : callB Tryd.prog 96 = true := by kernel_rfl
theorem CB97 : callB Tryd.prog 97 = true := by kernel_rfl
theorem CB99 : callB Tryd.prog 99 = true := by kernel_rfl
theorem CB101 : callB Tryd.prog 101 = true := by kernel_rfl
theorem CB106 : callB Tryd.prog 106 = true := by kernel_rfl
theorem CB107 : callB Tryd.prog 107 = true := by kernel_rfl
theorem CB109 : callB Tryd.prog 109 = true := by kernel_rfl
theorem EG51 : Program.eqGuardType Tryd.prog (Program.depth Tryd.prog) 51 = false := by kernel_rfl
theorem EG54 : Program.eqGuardType Tryd.prog (Program.depth Tryd.prog) 54 = false := by kernel_rfl
theorem SH51 : Program.stoodInHeld Tryd.prog 51 = false := by kernel_rfl
theorem SH54 : Program.stoodInHeld Tryd.prog 54 = false := by kernel_rfl
theorem CS5 : Tryd.prog.cellsOf 5 = 1 := by kernel_rfl
theorem T3 : TI Tryd.prog 3 (.int .i64 0) 1 8 := by unfold TI; kernel_rfl
theorem T4 : TI Tryd.prog 4 (.bool false) 1 1 := by unfold TI; kernel_rfl
theorem T5 : TI Tryd.prog 5 (.int .u8 0) 1 1 := by unfold TI; kernel_rfl
theorem T9 : TI Tryd.prog 9 (.string ⟨#[]⟩) 1 16 := by unfold TI; kernel_rfl
theorem T22 : TI Tryd.prog 22 (.slice none 0 0) 1 24 := by unfold TI; kernel_rfl
theorem T23 : TI Tryd.prog 23 (.slice none 0 0) 1 24 := by unfold TI; kernel_rfl
theorem T24 : TI Tryd.prog 24 (.slice none 0 0) 1 24 := by unfold TI; kernel_rfl
theorem T26 : TI Tryd.prog 26 (.agg #[(.slice none 0 0), (.slice none 0 0), (.slice none 0 0)]) 3 72 := by unfold TI; kernel_rfl
theorem T27 : TI Tryd.prog 27 (.slice none 0 0) 1 24 := by unfold TI; kernel_rfl
theorem T29 : TI Tryd.prog 29 (.agg #[(.slice none 0 0), (.slice none 0 0)]) 2 48 := by unfold TI; kernel_rfl
theorem T31 : TI Tryd.prog 31 (.slice none 0 0) 1 24 := by unfold TI; kernel_rfl
theorem T32 : TI Tryd.prog 32 (.slice none 0 0) 1 24 := by unfold TI; kernel_rfl
theorem T33 : TI Tryd.prog 33 (.slice none 0 0) 1 24 := by unfold TI; kernel_rfl
theorem T35 : TI Tryd.prog 35 (.agg #[(.slice none 0 0), (.slice none 0 0), (.slice none 0 0)]) 3 72 := by unfold TI; kernel_rfl
theorem T41 : TI Tryd.prog 41 (.slice none 0 0) 1 24 := by unfold TI; kernel_rfl
theorem T43 : TI Tryd.prog 43 (.agg #[(.slice none 0 0), (.slice none 0 0), (.slice none 0 0), (.slice none 0 0)]) 4 96 := by unfold TI; kernel_rfl
theorem T49 : TI Tryd.prog 49 (.agg #[(.int .i64 0), (.int .i64 0), (.int .i64 0), (.int .i64 0)]) 4 32 := by unfold TI; kernel_rfl
theorem T51 : TI Tryd.prog 51 (.agg #[(.int .i64 0), (.int .i64 0), (.int .i64 0), (.int .i64 0), (.int .i64 0), (.int .i64 0), (.int .i64 0), (.int .i64 0)]) 8 64 := by unfold TI; kernel_rfl
theorem T54 : TI Tryd.prog 54 (.agg #[(.int .i64 0), (.int .i64 0), (.int .i64 0), (.string ⟨#[]⟩)]) 4 40 := by unfold TI; kernel_rfl
theorem T100 : TI Tryd.prog 100 (.agg #[(.int .u8 0), (.int .u8 0), (.int .u8 0)]) 3 3 := by unfold TI; kernel_rfl
theorem T103 : TI Tryd.prog 103 (.pointer none) 1 8 := by unfold TI; kernel_rfl
theorem T104 : TI Tryd.prog 104 (.slice none 0 0) 1 24 := by unfold TI; kernel_rfl
theorem T106 : TI Tryd.prog 106 (.agg #[(.slice none 0 0), (.slice none 0 0), (.pointer none), (.slice none 0 0), (.slice none 0 0), (.slice none 0 0), (.slice none 0 0), (.slice none 0 0)]) 8 176 := by unfold TI; kernel_rfl
theorem T116 : TI Tryd.prog 116 (.agg #[(.int .i64 0), (.int .i64 0)]) 2 16 := by unfold TI; kernel_rfl
theorem T128 : TI Tryd.prog 128 (.agg #[(.pointer none), (.slice none 0 0)]) 2 32 := by unfold TI; kernel_rfl
theorem T144 : TI Tryd.prog 144 (.slice none 0 0) 1 24 := by unfold TI; kernel_rfl
theorem T145 : TI Tryd.prog 145 (.agg #[(.slice none 0 0), (.slice none 0 0), (.slice none 0 0), (.slice none 0 0)]) 4 96 := by unfold TI; kernel_rfl
theorem T147 : TI Tryd.prog 147 (.agg #[(.int .i64 0), (.int .i64 0)]) 2 16 := by unfold TI; kernel_rfl
theorem T151 : TI Tryd.prog 151 (.agg #[(.slice none 0 0)]) 1 24 := by unfold TI; kernel_rfl
end Go.Proofs.YtimadnngfhbfiaaDoor
end

section
/- PRINTED by wip/gen.py: the machine's call of muntin/muntinref08.Make does what S11 says. -/
namespace Go.Proofs.YtimadnngfhbfiaaDoor
open Go Go.Mu
set_option maxHeartbeats 4000000
set_option maxRecDepth 100000
theorem f11_ok {p0_0 : Sl} {p0_1 : Sl} {p0_2 : Sl} {p1 : Int} {h : H} {K : Sl → Sl → H → Prop} (hS : S11 p0_0 p0_1 p0_2 p1 h K) : ACall Tryd.prog 11 ([(.agg ([(.slice p0_0.a p0_0.l p0_0.c), (.slice p0_1.a p0_1.l p0_1.c), (.slice p0_2.a p0_2.l p0_2.c)] : List Value).toArray), (.int .i64 p1)] : List Value).toArray h (fun r h' => ∃ r0_0 : Sl, ∃ r0_1 : Sl, r = tup [(.agg ([(.slice r0_0.a r0_0.l r0_0.c), (.slice r0_1.a r0_1.l r0_1.c)] : List Value).toArray)] ∧ K r0_0 r0_1 h') := by
  refine ACall.enter (fn := Tryd.f11) Tryd.func11 rfl (Nat.le_of_ble_eq_true rfl) ?_
  unfold S11 at hS
  have ok := Lok.nil h
  change EvC _ _ _ _ (H.add h []) _
  refine EvC.seq ?_
  refine EvC.region [Item.alc 0, Item.alc 1] (by kernel_rfl) ?_
  refine R.var (blk := .row ⟨[(.slice p0_0.a p0_0.l p0_0.c), (.slice p0_1.a p0_1.l p0_1.c), (.slice p0_2.a p0_2.l p0_2.c)], 3, 26, true, true⟩) ok rfl rfl rfl (Ac.box rfl rfl) rfl rfl fun b2 ok => ?_
  refine R.var (blk := .row ⟨[(.slice none 0 0), (.slice none 0 0)], 2, 29, true, true⟩) ok rfl rfl rfl (Ac.alloc rfl T29) rfl rfl fun b4 ok => ?_
  refine R.nil ?_
  refine EvC.seq ?_
  refine EvC.region [Item.look 0, Item.alc 1, Item.eff 2 []] (by kernel_rfl) ?_
  refine R.look rfl rfl rfl (Lk.build (cs := [(.slice none 0 0), (.slice none 0 0)]) (pl := [(0, 1), (1, 1)]) rfl Tryd.underlying29 T29 (PlacesL.places (.cons T22 (.cons T27 PlacesL.nil))) rfl rfl) fun _ => ?_
  refine R.var (blk := .row ⟨[(.slice none 0 0), (.slice none 0 0)], 2, 29, true, true⟩) ok rfl rfl rfl (Ac.alloc rfl T29) rfl rfl fun b5 ok => ?_
  refine R.effN rfl rfl rfl (Ef.storeLoc (i := 0) (vs := [(.slice none 0 0), (.slice none 0 0)]) (cs := [(.slice none 0 0), (.slice none 0 0)]) (l' := [(b5, .row ⟨[(.slice none 0 0), (.slice none 0 0)], 2, 29, true, true⟩), (b4, .row ⟨[(.slice none 0 0), (.slice none 0 0)], 2, 29, true, true⟩), (b2, .row ⟨[(.slice p0_0.a p0_0.l p0_0.c), (.slice p0_1.a p0_1.l p0_1.c), (.slice p0_2.a p0_2.l p0_2.c)], 3, 26, true, true⟩)]) ok rfl T29 rfl rfl rfl rfl rfl rfl rfl rfl rfl rfl fun ok => ⟨noChk, ?_⟩)
  refine R.nil ?_
  refine EvC.join (σ := Sl × Sl) (fun s => (Env.put (Env.put (Env.put (Env.put Env.emp 5 (.pointer (some ⟨b5, 0, none⟩))) 4 (.pointer (some ⟨b4, 0, none⟩))) 2 (.pointer (some ⟨b2, 0, none⟩))) 1 (.int .i64 p1))) (fun s => [(b5, .row ⟨[(.slice s.1.a s.1.l s.1.c), (.slice s.2.a s.2.l s.2.c)], 2, 29, true, true⟩), (b4, .row ⟨[(.slice none 0 0), (.slice none 0 0)], 2, 29, true, true⟩), (b2, .row ⟨[(.slice p0_0.a p0_0.l p0_0.c), (.slice p0_1.a p0_1.l p0_1.c), (.slice p0_2.a p0_2.l p0_2.c)], 3, 26, true, true⟩)]) (fun s h_1 => S11_j7 p0_1 p0_2 p1 K s.1 s.2 h_1) ?_ (fun Ih_1 hIh_1 => ?_)
  · rintro ⟨c5_0, c5_1⟩ h_1 ok hS
    replace hS : S11_j7 p0_1 p0_2 p1 K c5_0 c5_1 h_1 := hS
    change EvC _ _ _ (Env.put (Env.put (Env.put (Env.put Env.emp 5 (.pointer (some ⟨b5, 0, none⟩))) 4 (.pointer (some ⟨b4, 0, none⟩))) 2 (.pointer (some ⟨b2, 0, none⟩))) 1 (.int .i64 p1)) (H.add h_1 [(b5, .row ⟨[(.slice c5_0.a c5_0.l c5_0.c), (.slice c5_1.a c5_1.l c5_1.c)], 2, 29, true, true⟩), (b4, .row ⟨[(.slice none 0 0), (.slice none 0 0)], 2, 29, true, true⟩), (b2, .row ⟨[(.slice p0_0.a p0_0.l p0_0.c), (.slice p0_1.a p0_1.l p0_1.c), (.slice p0_2.a p0_2.l p0_2.c)], 3, 26, true, true⟩)]) _
    unfold S11_j7 at hS
    refine EvC.join (σ := Sl × Sl) (fun s => (Env.put (Env.put Env.emp 5 (.pointer (some ⟨b5, 0, none⟩))) 4 (.pointer (some ⟨b4, 0, none⟩)))) (fun s => [(b5, .row ⟨[(.slice s.1.a s.1.l s.1.c), (.slice s.2.a s.2.l s.2.c)], 2, 29, true, true⟩), (b4, .row ⟨[(.slice none 0 0), (.slice none 0 0)], 2, 29, true, true⟩)]) (fun s h_2 => S11_j1 K s.1 s.2 h_2) ?_ (fun Ih_2 hIh_2 => ?_)
    · rintro ⟨c5_0_1, c5_1_1⟩ h_2 ok hS
      replace hS : S11_j1 K c5_0_1 c5_1_1 h_2 := hS
      change EvC _ _ _ (Env.put (Env.put Env.emp 5 (.pointer (some ⟨b5, 0, none⟩))) 4 (.pointer (some ⟨b4, 0, none⟩))) (H.add h_2 [(b5, .row ⟨[(.slice c5_0_1.a c5_0_1.l c5_0_1.c), (.slice c5_1_1.a c5_1_1.l c5_1_1.c)], 2, 29, true, true⟩), (b4, .row ⟨[(.slice none 0 0), (.slice none 0 0)], 2, 29, true, true⟩)]) _
      unfold S11_j1 at hS
      refine EvC.seq ?_
      refine EvC.region [Item.look 0, Item.eff 1 []] (by kernel_rfl) ?_
      refine R.look rfl rfl rfl (Lk.loadN (vs := [(.slice c5_0_1.a c5_0_1.l c5_0_1.c), (.slice c5_1_1.a c5_1_1.l c5_1_1.c)]) rfl Tryd.underlying29 rfl T29 rfl (H.rdn_loc ok (i := 0) rfl rfl rfl)) fun _ => ?_
      refine R.effN rfl rfl rfl (Ef.storeLoc (i := 1) (vs := [(.slice c5_0_1.a c5_0_1.l c5_0_1.c), (.slice c5_1_1.a c5_1_1.l c5_1_1.c)]) (cs := [(.slice c5_0_1.a c5_0_1.l c5_0_1.c), (.slice c5_1_1.a c5_1_1.l c5_1_1.c)]) (l' := [(b5, .row ⟨[(.slice c5_0_1.a c5_0_1.l c5_0_1.c), (.slice c5_1_1.a c5_1_1.l c5_1_1.c)], 2, 29, true, true⟩), (b4, .row ⟨[(.slice c5_0_1.a c5_0_1.l c5_0_1.c), (.slice c5_1_1.a c5_1_1.l c5_1_1.c)], 2, 29, true, true⟩)]) ok rfl T29 rfl rfl rfl rfl rfl rfl rfl rfl rfl rfl fun ok => ⟨noChk, ?_⟩)
      refine R.nil ?_
      refine EvC.ret ?_
      exact ⟨.inr rfl, _, _, (.cons (.cells rfl (fun w => Und.agg Tryd.underlying29 w) (fun w => T29.size_ w) (H.rdn_loc ok (i := 1) rfl rfl rfl)) .nil), ok.le, _, _, rfl, hS⟩
    · refine EvC.seq ?_
      refine EvC.region [Item.look 0] (by kernel_rfl) ?_
      refine R.look rfl rfl rfl (Lk.assign rfl rfl) fun _ => ?_
      refine R.nil ?_
      refine EvC.block ?_
      refine EvC.loop ?_
      refine LoopC.lfp (σ := Int × Sl × Sl) (fun s => (Env.put (Env.put (Env.put (Env.put (Env.put Env.emp 7 (.int .i64 s.1)) 5 (.pointer (some ⟨b5, 0, none⟩))) 4 (.pointer (some ⟨b4, 0, none⟩))) 2 (.pointer (some ⟨b2, 0, none⟩))) 1 (.int .i64 p1))) (fun s => [(b5, .row ⟨[(.slice s.2.1.a s.2.1.l s.2.1.c), (.slice s.2.2.a s.2.2.l s.2.2.c)], 2, 29, true, true⟩), (b4, .row ⟨[(.slice none 0 0), (.slice none 0 0)], 2, 29, true, true⟩), (b2, .row ⟨[(.slice p0_0.a p0_0.l p0_0.c), (.slice p0_1.a p0_1.l p0_1.c), (.slice p0_2.a p0_2.l p0_2.c)], 3, 26, true, true⟩)]) (fun X hX => ?_) hS (ok.sub (.cons_cons _ (.cons_cons _ (.cons_cons _ List.Sublist.slnil)))) (Env.le_put rfl (Env.le_put rfl (Env.le_put rfl (Env.le_put rfl (Env.le_put rfl (Env.le_emp _)))))) (H.add_sub ok (.cons_cons _ (.cons_cons _ (.cons_cons _ List.Sublist.slnil))))
      rintro ⟨v7, c5_0_2, c5_1_2⟩ h_3 hS ok
      replace hS : S11_l6 p0_1 p0_2 p1 K X v7 c5_0_2 c5_1_2 h_3 := hS
      change EvC _ _ _ (Env.put (Env.put (Env.put (Env.put (Env.put Env.emp 7 (.int .i64 v7)) 5 (.pointer (some ⟨b5, 0, none⟩))) 4 (.pointer (some ⟨b4, 0, none⟩))) 2 (.pointer (some ⟨b2, 0, none⟩))) 1 (.int .i64 p1)) (H.add h_3 [(b5, .row ⟨[(.slice c5_0_2.a c5_0_2.l c5_0_2.c), (.slice c5_1_2.a c5_1_2.l c5_1_2.c)], 2, 29, true, true⟩), (b4, .row ⟨[(.slice none 0 0), (.slice none 0 0)], 2, 29, true, true⟩), (b2, .row ⟨[(.slice p0_0.a p0_0.l p0_0.c), (.slice p0_1.a p0_1.l p0_1.c), (.slice p0_2.a p0_2.l p0_2.c)], 3, 26, true, true⟩)]) _
      unfold S11_l6 at hS
      refine EvC.seq ?_
      refine EvC.join (σ := Bool) (fun s => (Env.put (Env.put (Env.put (Env.put (Env.put (Env.put Env.emp 49 (.bool s)) 7 (.int .i64 v7)) 5 (.pointer (some ⟨b5, 0, none⟩))) 4 (.pointer (some ⟨b4, 0, none⟩))) 2 (.pointer (some ⟨b2, 0, none⟩))) 1 (.int .i64 p1))) (fun s => [(b5, .row ⟨[(.slice c5_0_2.a c5_0_2.l c5_0_2.c), (.slice c5_1_2.a c5_1_2.l c5_1_2.c)], 2, 29, true, true⟩), (b4, .row ⟨[(.slice none 0 0), (.slice none 0 0)], 2, 29, true, true⟩), (b2, .row ⟨[(.slice p0_0.a p0_0.l p0_0.c), (.slice p0_1.a p0_1.l p0_1.c), (.slice p0_2.a p0_2.l p0_2.c)], 3, 26, true, true⟩)]) (fun s h_4 => S11_j5 p0_1 p0_2 K v7 c5_0_2 c5_1_2 X s h_4) ?_ (fun Ih_4 hIh_4 => ?_)
      · intro v49 h_4 ok hS
        replace hS : S11_j5 p0_1 p0_2 K v7 c5_0_2 c5_1_2 X v49 h_4 := hS
        change EvC _ _ _ (Env.put (Env.put (Env.put (Env.put (Env.put (Env.put Env.emp 49 (.bool v49)) 7 (.int .i64 v7)) 5 (.pointer (some ⟨b5, 0, none⟩))) 4 (.pointer (some ⟨b4, 0, none⟩))) 2 (.pointer (some ⟨b2, 0, none⟩))) 1 (.int .i64 p1)) (H.add h_4 [(b5, .row ⟨[(.slice c5_0_2.a c5_0_2.l c5_0_2.c), (.slice c5_1_2.a c5_1_2.l c5_1_2.c)], 2, 29, true, true⟩), (b4, .row ⟨[(.slice none 0 0), (.slice none 0 0)], 2, 29, true, true⟩), (b2, .row ⟨[(.slice p0_0.a p0_0.l p0_0.c), (.slice p0_1.a p0_1.l p0_1.c), (.slice p0_2.a p0_2.l p0_2.c)], 3, 26, true, true⟩)]) _
        unfold S11_j5 at hS
        by_cases e1 : v49 = true
        · rw [if_pos e1] at hS
          refine EvC.condT rfl e1 ?_
          refine EvC.skip ?_
          refine EvC.seq ?_
          refine EvC.block ?_
          refine EvC.seq ?_
          refine EvC.draw [0, 1, 0, 7, 15, 31, 63, 0, 128, 384, 1023, 0, 2048, 0, 14336, 30720, 63488, 129024, 0, 262144, 786432, 2095104, 0, 4194304, 0, 29360128, 62914560, 130023424, 264241152, 532676608, 1073741823, 0, 4294967295] [Item.look 0, Item.look 1, Item.look 2, Item.look 3, Item.look 4, Item.look 5, Item.look 6, Item.look 7, Item.look 8, Item.look 9, Item.look 10, Item.look 11, Item.look 12, Item.look 13, Item.look 14, Item.look 15, Item.look 16, Item.look 17, Item.look 18, Item.look 19, Item.look 20, Item.look 21, Item.look 22, Item.look 23, Item.look 24, Item.look 25, Item.look 26, Item.look 27, Item.look 28, Item.look 29, Item.look 30, Item.alc 31, Item.eff 32 []] MO (by kernel_rfl) ?_
          refine R.look (v := (.pointer (some ⟨b2, 1, none⟩))) rfl rfl rfl (Lk.fldAddr rfl Tryd.underlying26 rfl rfl T23 rfl rfl rfl) fun _ => ?_
          refine R.look rfl rfl rfl (Lk.load1 (v := (.slice p0_1.a p0_1.l p0_1.c)) rfl Tryd.underlying23 rfl rfl (H.rd_loc ok (i := 2) rfl rfl)) fun _ => ?_
          refine R.look rfl rfl rfl (Lk.move rfl rfl) fun _ => ?_
          obtain ⟨a55, e2, e3, e4, hS⟩ := hS
          refine R.look rfl rfl rfl (Lk.ixAddr rfl Tryd.underlying23 T100 rfl e2 rfl e3 e4) fun _ => ?_
          refine R.look (v := (.pointer (some (Addr.add a55 (Int.toNat v7 * 3))))) rfl rfl rfl (Lk.ixConst rfl Tryd.underlying100 T5 rfl rfl rfl rfl) fun _ => ?_
          obtain ⟨v57, e5, hS⟩ := hS
          refine R.look rfl rfl rfl (Look.loc ok (Lk.load1 rfl Tryd.underlying5 rfl rfl e5)) fun _ => ?_
          refine R.look rfl rfl rfl (Lk.conv rfl Tryd.underlying5 Tryd.underlying3 rfl) fun _ => ?_
          refine R.look (v := (.pointer (some ⟨b5, 0, none⟩))) rfl rfl rfl (Lk.fldAddr rfl Tryd.underlying29 rfl rfl T22 rfl rfl rfl) fun _ => ?_
          refine R.look rfl rfl rfl (Lk.load1 (v := (.slice c5_0_2.a c5_0_2.l c5_0_2.c)) rfl Tryd.underlying22 rfl rfl (H.rd_loc ok (i := 0) rfl rfl)) fun _ => ?_
          refine R.look rfl rfl rfl (Lk.len rfl Tryd.underlying22 rfl) fun _ => ?_
          obtain ⟨e6, hS⟩ := hS
          refine R.look rfl rfl rfl (Lk.rem rfl rfl rfl e6) fun _ => ?_
          refine R.look (v := (.pointer (some ⟨b2, 1, none⟩))) rfl rfl rfl (Lk.fldAddr rfl Tryd.underlying26 rfl rfl T23 rfl rfl rfl) fun _ => ?_
          refine R.look rfl rfl rfl (Lk.load1 (v := (.slice p0_1.a p0_1.l p0_1.c)) rfl Tryd.underlying23 rfl rfl (H.rd_loc ok (i := 2) rfl rfl)) fun _ => ?_
          refine R.look rfl rfl rfl (Lk.move rfl rfl) fun _ => ?_
          obtain ⟨a66, e7, e8, e9, hS⟩ := hS
          refine R.look rfl rfl rfl (Lk.ixAddr rfl Tryd.underlying23 T100 rfl e7 rfl e8 e9) fun _ => ?_
          refine R.look (v := (.pointer (some (Addr.add (Addr.add a66 (Int.toNat v7 * 3)) 1)))) rfl rfl rfl (Lk.ixConst rfl Tryd.underlying100 T5 rfl rfl rfl rfl) fun _ => ?_
          obtain ⟨v68, e10, hS⟩ := hS
          refine R.look rfl rfl rfl (Look.loc ok (Lk.load1 rfl Tryd.underlying5 rfl rfl e10)) fun _ => ?_
          refine R.look rfl rfl rfl (Lk.conv rfl Tryd.underlying5 Tryd.underlying3 rfl) fun _ => ?_
          refine R.look (v := (.pointer (some ⟨b5, 0, none⟩))) rfl rfl rfl (Lk.fldAddr rfl Tryd.underlying29 rfl rfl T22 rfl rfl rfl) fun _ => ?_
          refine R.look rfl rfl rfl (Lk.load1 (v := (.slice c5_0_2.a c5_0_2.l c5_0_2.c)) rfl Tryd.underlying22 rfl rfl (H.rd_loc ok (i := 0) rfl rfl)) fun _ => ?_
          refine R.look rfl rfl rfl (Lk.len rfl Tryd.underlying22 rfl) fun _ => ?_
          obtain ⟨e11, hS⟩ := hS
          refine R.look rfl rfl rfl (Lk.rem rfl rfl rfl e11) fun _ => ?_
          refine R.look (v := (.pointer (some ⟨b2, 1, none⟩))) rfl rfl rfl (Lk.fldAddr rfl Tryd.underlying26 rfl rfl T23 rfl rfl rfl) fun _ => ?_
          refine R.look rfl rfl rfl (Lk.load1 (v := (.slice p0_1.a p0_1.l p0_1.c)) rfl Tryd.underlying23 rfl rfl (H.rd_loc ok (i := 2) rfl rfl)) fun _ => ?_
          refine R.look rfl rfl rfl (Lk.move rfl rfl) fun _ => ?_
          obtain ⟨a77, e12, e13, e14, hS⟩ := hS
          refine R.look rfl rfl rfl (Lk.ixAddr rfl Tryd.underlying23 T100 rfl e12 rfl e13 e14) fun _ => ?_
          refine R.look (v := (.pointer (some (Addr.add (Addr.add a77 (Int.toNat v7 * 3)) 2)))) rfl rfl rfl (Lk.ixConst rfl Tryd.underlying100 T5 rfl rfl rfl rfl) fun _ => ?_
          obtain ⟨v79, e15, hS⟩ := hS
          refine R.look rfl rfl rfl (Look.loc ok (Lk.load1 rfl Tryd.underlying5 rfl rfl e15)) fun _ => ?_
          refine R.look rfl rfl rfl (Lk.conv rfl Tryd.underlying5 Tryd.underlying3 rfl) fun _ => ?_
          refine R.look rfl rfl rfl (Lk.rem (j := 4) rfl rfl rfl (by decide)) fun _ => ?_
          refine R.look rfl rfl rfl (Lk.build (cs := [(.int .i64 (Int.tmod (IntKind.wrap .i64 v57) (c5_0_2.l : Int))), (.int .i64 (Int.tmod (IntKind.wrap .i64 v68) (c5_0_2.l : Int))), (.int .i64 (Int.tmod (IntKind.wrap .i64 v79) 4)), (.string ⟨#[]⟩)]) (pl := [(0, 1), (1, 1), (2, 1), (3, 1)]) rfl Tryd.underlying54 T54 (PlacesL.places (.cons T3 (.cons T3 (.cons T3 (.cons T9 PlacesL.nil))))) rfl rfl) fun _ => ?_
          refine R.var (blk := .row ⟨[(.int .i64 0), (.int .i64 0), (.int .i64 0), (.string ⟨#[]⟩)], 4, 54, true, true⟩) ok rfl rfl rfl (Ac.alloc rfl T54) rfl rfl fun b8 ok => ?_
          refine R.effN rfl rfl rfl (Ef.storeLoc (i := 0) (vs := [(.int .i64 (Int.tmod (IntKind.wrap .i64 v57) (c5_0_2.l : Int))), (.int .i64 (Int.tmod (IntKind.wrap .i64 v68) (c5_0_2.l : Int))), (.int .i64 (Int.tmod (IntKind.wrap .i64 v79) 4)), (.string ⟨#[]⟩)]) (cs := [(.int .i64 (Int.tmod (IntKind.wrap .i64 v57) (c5_0_2.l : Int))), (.int .i64 (Int.tmod (IntKind.wrap .i64 v68) (c5_0_2.l : Int))), (.int .i64 (Int.tmod (IntKind.wrap .i64 v79) 4)), (.string ⟨#[]⟩)]) (l' := [(b8, .row ⟨[(.int .i64 (Int.tmod (IntKind.wrap .i64 v57) (c5_0_2.l : Int))), (.int .i64 (Int.tmod (IntKind.wrap .i64 v68) (c5_0_2.l : Int))), (.int .i64 (Int.tmod (IntKind.wrap .i64 v79) 4)), (.string ⟨#[]⟩)], 4, 54, true, true⟩), (b5, .row ⟨[(.slice c5_0_2.a c5_0_2.l c5_0_2.c), (.slice c5_1_2.a c5_1_2.l c5_1_2.c)], 2, 29, true, true⟩), (b4, .row ⟨[(.slice none 0 0), (.slice none 0 0)], 2, 29, true, true⟩), (b2, .row ⟨[(.slice p0_0.a p0_0.l p0_0.c), (.slice p0_1.a p0_1.l p0_1.c), (.slice p0_2.a p0_2.l p0_2.c)], 3, 26, true, true⟩)]) ok rfl T54 rfl rfl rfl rfl rfl rfl rfl rfl rfl rfl fun ok => ⟨noChk, ?_⟩)
          refine R.nil ?_
          refine EvC.join (σ := Int × Int × Int × ByteArray) (fun s => (Env.put (Env.put (Env.put (Env.put (Env.put (Env.put Env.emp 8 (.pointer (some ⟨b8, 0, none⟩))) 7 (.int .i64 v7)) 5 (.pointer (some ⟨b5, 0, none⟩))) 4 (.pointer (some ⟨b4, 0, none⟩))) 2 (.pointer (some ⟨b2, 0, none⟩))) 1 (.int .i64 p1))) (fun s => [(b8, .row ⟨[(.int .i64 s.1), (.int .i64 s.2.1), (.int .i64 s.2.2.1), (.string s.2.2.2)], 4, 54, true, true⟩), (b5, .row ⟨[(.slice c5_0_2.a c5_0_2.l c5_0_2.c), (.slice c5_1_2.a c5_1_2.l c5_1_2.c)], 2, 29, true, true⟩), (b4, .row ⟨[(.slice none 0 0), (.slice none 0 0)], 2, 29, true, true⟩), (b2, .row ⟨[(.slice p0_0.a p0_0.l p0_0.c), (.slice p0_1.a p0_1.l p0_1.c), (.slice p0_2.a p0_2.l p0_2.c)], 3, 26, true, true⟩)]) (fun s h_5 => S11_j2 v7 c5_0_2 c5_1_2 X s.1 s.2.1 s.2.2.1 s.2.2.2 h_5) ?_ (fun Ih_5 hIh_5 => ?_)
          · rintro ⟨c8_0, c8_1, c8_2, c8_3⟩ h_5 ok hS
            replace hS : S11_j2 v7 c5_0_2 c5_1_2 X c8_0 c8_1 c8_2 c8_3 h_5 := hS
            change EvC _ _ _ (Env.put (Env.put (Env.put (Env.put (Env.put (Env.put Env.emp 8 (.pointer (some ⟨b8, 0, none⟩))) 7 (.int .i64 v7)) 5 (.pointer (some ⟨b5, 0, none⟩))) 4 (.pointer (some ⟨b4, 0, none⟩))) 2 (.pointer (some ⟨b2, 0, none⟩))) 1 (.int .i64 p1)) (H.add h_5 [(b8, .row ⟨[(.int .i64 c8_0), (.int .i64 c8_1), (.int .i64 c8_2), (.string c8_3)], 4, 54, true, true⟩), (b5, .row ⟨[(.slice c5_0_2.a c5_0_2.l c5_0_2.c), (.slice c5_1_2.a c5_1_2.l c5_1_2.c)], 2, 29, true, true⟩), (b4, .row ⟨[(.slice none 0 0), (.slice none 0 0)], 2, 29, true, true⟩), (b2, .row ⟨[(.slice p0_0.a p0_0.l p0_0.c), (.slice p0_1.a p0_1.l p0_1.c), (.slice p0_2.a p0_2.l p0_2.c)], 3, 26, true, true⟩)]) _
            unfold S11_j2 at hS
            refine EvC.region [Item.look 0, Item.look 1, Item.look 2, Item.alc 3, Item.eff 4 [], Item.look 5, Item.eff 6 []] (by kernel_rfl) ?_
            refine R.look (v := (.pointer (some ⟨b5, 1, none⟩))) rfl rfl rfl (Lk.fldAddr rfl Tryd.underlying29 rfl rfl T27 rfl rfl rfl) fun _ => ?_
            refine R.look rfl rfl rfl (Lk.load1 (v := (.slice c5_1_2.a c5_1_2.l c5_1_2.c)) rfl Tryd.underlying27 rfl rfl (H.rd_loc ok (i := 1) rfl rfl)) fun _ => ?_
            refine R.look rfl rfl rfl (Lk.loadN (vs := [(.int .i64 c8_0), (.int .i64 c8_1), (.int .i64 c8_2), (.string c8_3)]) rfl Tryd.underlying54 rfl T54 rfl (H.rdn_loc ok (i := 0) rfl rfl rfl)) fun _ => ?_
            refine R.appL (cs := [(.int .i64 c8_0), (.int .i64 c8_1), (.int .i64 c8_2), (.string c8_3)]) ok rfl rfl rfl rfl rfl rfl rfl rfl Tryd.underlying27 T54 rfl (by decide) (by decide) rfl rfl rfl rfl rfl (fun _ => rfl) hS ?_
            intro bb120 v121 h_6 hS ok
            refine ⟨noChk, ?_⟩
            refine R.look (v := (.pointer (some ⟨b5, 1, none⟩))) rfl rfl rfl (Lk.fldAddr rfl Tryd.underlying29 rfl rfl T27 rfl rfl rfl) fun _ => ?_
            refine R.effN rfl rfl rfl (Ef.storeLoc (i := 1) (vs := [(.slice v121.a v121.l v121.c)]) (cs := [(.slice c5_0_2.a c5_0_2.l c5_0_2.c), (.slice v121.a v121.l v121.c)]) (l' := [(b8, .row ⟨[(.int .i64 c8_0), (.int .i64 c8_1), (.int .i64 c8_2), (.string c8_3)], 4, 54, true, true⟩), (b5, .row ⟨[(.slice c5_0_2.a c5_0_2.l c5_0_2.c), (.slice v121.a v121.l v121.c)], 2, 29, true, true⟩), (b4, .row ⟨[(.slice none 0 0), (.slice none 0 0)], 2, 29, true, true⟩), (b2, .row ⟨[(.slice p0_0.a p0_0.l p0_0.c), (.slice p0_1.a p0_1.l p0_1.c), (.slice p0_2.a p0_2.l p0_2.c)], 3, 26, true, true⟩)]) ok rfl T27 rfl rfl rfl rfl rfl rfl rfl rfl rfl rfl fun ok => ⟨noChk, ?_⟩)
            refine R.nil ?_
            refine EvC.region [Item.look 0, Item.look 1, Item.look 2] (by kernel_rfl) ?_
            refine R.look rfl rfl rfl (Lk.move rfl rfl) fun _ => ?_
            refine R.look rfl rfl rfl (Lk.arith rfl rfl rfl rfl) fun _ => ?_
            refine R.look rfl rfl rfl (Lk.assign rfl rfl) fun _ => ?_
            refine R.nil ?_
            exact hX ((IntKind.wrap .i64 (v7 + 1)), c5_0_2, v121) _ _ _ hS (ok.sub (.cons _ (.cons_cons _ (.cons_cons _ (.cons_cons _ List.Sublist.slnil))))) (Env.le_put rfl (Env.le_put rfl (Env.le_put rfl (Env.le_put rfl (Env.le_put rfl (Env.le_emp _)))))) (H.add_sub ok (.cons _ (.cons_cons _ (.cons_cons _ (.cons_cons _ List.Sublist.slnil)))))
          · refine EvC.seq ?_
            refine EvC.region [Item.look 0, Item.look 1, Item.look 2, Item.look 3, Item.look 4] (by kernel_rfl) ?_
            refine R.look rfl rfl rfl (Lk.move rfl rfl) fun _ => ?_
            refine R.look (v := (.pointer (some ⟨b2, 2, none⟩))) rfl rfl rfl (Lk.fldAddr rfl Tryd.underlying26 rfl rfl T24 rfl rfl rfl) fun _ => ?_
            refine R.look rfl rfl rfl (Lk.load1 (v := (.slice p0_2.a p0_2.l p0_2.c)) rfl Tryd.underlying24 rfl rfl (H.rd_loc ok (i := 3) rfl rfl)) fun _ => ?_
            refine R.look rfl rfl rfl (Lk.len rfl Tryd.underlying24 rfl) fun _ => ?_
            refine R.look rfl rfl rfl (Lk.arith rfl rfl rfl rfl) fun _ => ?_
            refine R.nil ?_
            by_cases e16 : (decide (v7 < (p0_2.l : Int))) = true
            · rw [if_pos e16] at hS
              refine EvC.condT rfl e16 ?_
              refine EvC.seq ?_
              refine EvC.region [Item.look 0] (by kernel_rfl) ?_
              refine R.look rfl rfl rfl (Lk.assign rfl rfl) fun _ => ?_
              refine R.nil ?_
              refine EvC.block ?_
              refine EvC.loop ?_
              refine LoopC.lfp (σ := Int × Int × Int × Int × ByteArray) (fun s => (Env.put (Env.put (Env.put (Env.put (Env.put (Env.put (Env.put Env.emp 9 (.int .i64 s.1)) 8 (.pointer (some ⟨b8, 0, none⟩))) 7 (.int .i64 v7)) 5 (.pointer (some ⟨b5, 0, none⟩))) 4 (.pointer (some ⟨b4, 0, none⟩))) 2 (.pointer (some ⟨b2, 0, none⟩))) 1 (.int .i64 p1))) (fun s => [(b8, .row ⟨[(.int .i64 s.2.1), (.int .i64 s.2.2.1), (.int .i64 s.2.2.2.1), (.string s.2.2.2.2)], 4, 54, true, true⟩), (b5, .row ⟨[(.slice c5_0_2.a c5_0_2.l c5_0_2.c), (.slice c5_1_2.a c5_1_2.l c5_1_2.c)], 2, 29, true, true⟩), (b4, .row ⟨[(.slice none 0 0), (.slice none 0 0)], 2, 29, true, true⟩), (b2, .row ⟨[(.slice p0_0.a p0_0.l p0_0.c), (.slice p0_1.a p0_1.l p0_1.c), (.slice p0_2.a p0_2.l p0_2.c)], 3, 26, true, true⟩)]) (fun X_1 hX_1 => ?_) hS (ok.sub (.cons_cons _ (.cons_cons _ (.cons_cons _ (.cons_cons _ List.Sublist.slnil))))) (Env.le_put rfl (Env.le_put rfl (Env.le_put rfl (Env.le_put rfl (Env.le_put rfl (Env.le_put rfl (Env.le_put rfl (Env.le_emp _)))))))) (H.add_sub ok (.cons_cons _ (.cons_cons _ (.cons_cons _ (.cons_cons _ List.Sublist.slnil)))))
              rintro ⟨v9, c8_0_1, c8_1_1, c8_2_1, c8_3_1⟩ h_7 hS ok
              replace hS : S11_l4 p0_2 v7 c5_0_2 c5_1_2 X X_1 v9 c8_0_1 c8_1_1 c8_2_1 c8_3_1 h_7 := hS
              change EvC _ _ _ (Env.put (Env.put (Env.put (Env.put (Env.put (Env.put (Env.put Env.emp 9 (.int .i64 v9)) 8 (.pointer (some ⟨b8, 0, none⟩))) 7 (.int .i64 v7)) 5 (.pointer (some ⟨b5, 0, none⟩))) 4 (.pointer (some ⟨b4, 0, none⟩))) 2 (.pointer (some ⟨b2, 0, none⟩))) 1 (.int .i64 p1)) (H.add h_7 [(b8, .row ⟨[(.int .i64 c8_0_1), (.int .i64 c8_1_1), (.int .i64 c8_2_1), (.string c8_3_1)], 4, 54, true, true⟩), (b5, .row ⟨[(.slice c5_0_2.a c5_0_2.l c5_0_2.c), (.slice c5_1_2.a c5_1_2.l c5_1_2.c)], 2, 29, true, true⟩), (b4, .row ⟨[(.slice none 0 0), (.slice none 0 0)], 2, 29, true, true⟩), (b2, .row ⟨[(.slice p0_0.a p0_0.l p0_0.c), (.slice p0_1.a p0_1.l p0_1.c), (.slice p0_2.a p0_2.l p0_2.c)], 3, 26, true, true⟩)]) _
              unfold S11_l4 at hS
              refine EvC.seq ?_
              refine EvC.seq ?_
              refine EvC.region [Item.look 0, Item.look 1, Item.look 2, Item.look 3, Item.look 4, Item.look 5, Item.look 6, Item.look 7, Item.look 8] (by kernel_rfl) ?_
              refine R.look rfl rfl rfl (Lk.move rfl rfl) fun _ => ?_
              refine R.look (v := (.pointer (some ⟨b2, 2, none⟩))) rfl rfl rfl (Lk.fldAddr rfl Tryd.underlying26 rfl rfl T24 rfl rfl rfl) fun _ => ?_
              refine R.look rfl rfl rfl (Lk.load1 (v := (.slice p0_2.a p0_2.l p0_2.c)) rfl Tryd.underlying24 rfl rfl (H.rd_loc ok (i := 3) rfl rfl)) fun _ => ?_
              refine R.look rfl rfl rfl (Lk.move rfl rfl) fun _ => ?_
              obtain ⟨a92, e17, e18, e19, hS⟩ := hS
              refine R.look rfl rfl rfl (Lk.ixAddr rfl Tryd.underlying24 T5 rfl e17 rfl e18 e19) fun _ => ?_
              obtain ⟨v93, e20, hS⟩ := hS
              refine R.look rfl rfl rfl (Look.loc ok (Lk.load1 rfl Tryd.underlying5 rfl rfl e20)) fun _ => ?_
              refine R.look rfl rfl rfl (Lk.conv rfl Tryd.underlying5 Tryd.underlying3 rfl) fun _ => ?_
              refine R.look rfl rfl rfl (Lk.rem (j := 4) rfl rfl rfl (by decide)) fun _ => ?_
              refine R.look rfl rfl rfl (Lk.arith rfl rfl rfl rfl) fun _ => ?_
              refine R.nil ?_
              by_cases e21 : (decide (v9 < (Int.tmod (IntKind.wrap .i64 v93) 4))) = true
              · rw [if_pos e21] at hS
                refine EvC.condT rfl e21 ?_
                refine EvC.skip ?_
                refine EvC.join (σ := Int × Int × Int × ByteArray) (fun s => (Env.put (Env.put (Env.put (Env.put (Env.put (Env.put (Env.put Env.emp 9 (.int .i64 v9)) 8 (.pointer (some ⟨b8, 0, none⟩))) 7 (.int .i64 v7)) 5 (.pointer (some ⟨b5, 0, none⟩))) 4 (.pointer (some ⟨b4, 0, none⟩))) 2 (.pointer (some ⟨b2, 0, none⟩))) 1 (.int .i64 p1))) (fun s => [(b8, .row ⟨[(.int .i64 s.1), (.int .i64 s.2.1), (.int .i64 s.2.2.1), (.string s.2.2.2)], 4, 54, true, true⟩), (b5, .row ⟨[(.slice c5_0_2.a c5_0_2.l c5_0_2.c), (.slice c5_1_2.a c5_1_2.l c5_1_2.c)], 2, 29, true, true⟩), (b4, .row ⟨[(.slice none 0 0), (.slice none 0 0)], 2, 29, true, true⟩), (b2, .row ⟨[(.slice p0_0.a p0_0.l p0_0.c), (.slice p0_1.a p0_1.l p0_1.c), (.slice p0_2.a p0_2.l p0_2.c)], 3, 26, true, true⟩)]) (fun s h_8 => S11_j3 v9 X_1 s.1 s.2.1 s.2.2.1 s.2.2.2 h_8) ?_ (fun Ih_8 hIh_8 => ?_)
                · rintro ⟨c8_0_2, c8_1_2, c8_2_2, c8_3_2⟩ h_8 ok hS
                  replace hS : S11_j3 v9 X_1 c8_0_2 c8_1_2 c8_2_2 c8_3_2 h_8 := hS
                  change EvC _ _ _ (Env.put (Env.put (Env.put (Env.put (Env.put (Env.put (Env.put Env.emp 9 (.int .i64 v9)) 8 (.pointer (some ⟨b8, 0, none⟩))) 7 (.int .i64 v7)) 5 (.pointer (some ⟨b5, 0, none⟩))) 4 (.pointer (some ⟨b4, 0, none⟩))) 2 (.pointer (some ⟨b2, 0, none⟩))) 1 (.int .i64 p1)) (H.add h_8 [(b8, .row ⟨[(.int .i64 c8_0_2), (.int .i64 c8_1_2), (.int .i64 c8_2_2), (.string c8_3_2)], 4, 54, true, true⟩), (b5, .row ⟨[(.slice c5_0_2.a c5_0_2.l c5_0_2.c), (.slice c5_1_2.a c5_1_2.l c5_1_2.c)], 2, 29, true, true⟩), (b4, .row ⟨[(.slice none 0 0), (.slice none 0 0)], 2, 29, true, true⟩), (b2, .row ⟨[(.slice p0_0.a p0_0.l p0_0.c), (.slice p0_1.a p0_1.l p0_1.c), (.slice p0_2.a p0_2.l p0_2.c)], 3, 26, true, true⟩)]) _
                  unfold S11_j3 at hS
                  refine EvC.region [Item.look 0, Item.look 1, Item.look 2] (by kernel_rfl) ?_
                  refine R.look rfl rfl rfl (Lk.move rfl rfl) fun _ => ?_
                  refine R.look rfl rfl rfl (Lk.arith rfl rfl rfl rfl) fun _ => ?_
                  refine R.look rfl rfl rfl (Lk.assign rfl rfl) fun _ => ?_
                  refine R.nil ?_
                  exact hX_1 ((IntKind.wrap .i64 (v9 + 1)), c8_0_2, c8_1_2, c8_2_2, c8_3_2) _ _ _ hS (ok.sub (.cons_cons _ (.cons_cons _ (.cons_cons _ (.cons_cons _ List.Sublist.slnil))))) (Env.le_put rfl (Env.le_put rfl (Env.le_put rfl (Env.le_put rfl (Env.le_put rfl (Env.le_put rfl (Env.le_put rfl (Env.le_emp _)))))))) (H.add_sub ok (.cons_cons _ (.cons_cons _ (.cons_cons _ (.cons_cons _ List.Sublist.slnil)))))
                · refine EvC.block ?_
                  refine EvC.seq ?_
                  refine EvC.region [Item.look 0, Item.look 1, Item.look 2, Item.look 3, Item.look 4, Item.look 5, Item.look 6, Item.look 7, Item.look 8, Item.look 9] (by kernel_rfl) ?_
                  refine R.look (v := (.pointer (some ⟨b2, 2, none⟩))) rfl rfl rfl (Lk.fldAddr rfl Tryd.underlying26 rfl rfl T24 rfl rfl rfl) fun _ => ?_
                  refine R.look rfl rfl rfl (Lk.load1 (v := (.slice p0_2.a p0_2.l p0_2.c)) rfl Tryd.underlying24 rfl rfl (H.rd_loc ok (i := 3) rfl rfl)) fun _ => ?_
                  refine R.look rfl rfl rfl (Lk.move rfl rfl) fun _ => ?_
                  obtain ⟨a102, e22, e23, e24, hS⟩ := hS
                  refine R.look rfl rfl rfl (Lk.ixAddr rfl Tryd.underlying24 T5 rfl e22 rfl e23 e24) fun _ => ?_
                  obtain ⟨v103, e25, hS⟩ := hS
                  refine R.look rfl rfl rfl (Look.loc ok (Lk.load1 rfl Tryd.underlying5 rfl rfl e25)) fun _ => ?_
                  refine R.look rfl rfl rfl (Lk.move rfl rfl) fun _ => ?_
                  refine R.look rfl rfl rfl (Lk.arith rfl rfl rfl rfl) fun _ => ?_
                  obtain ⟨e26, hS⟩ := hS
                  refine R.look rfl rfl rfl (Lk.shr rfl rfl rfl e26) fun _ => ?_
                  refine R.look rfl rfl rfl (Lk.arith rfl rfl rfl rfl) fun _ => ?_
                  refine R.look rfl rfl rfl (Lk.arith rfl rfl rfl rfl) fun _ => ?_
                  refine R.nil ?_
                  by_cases e27 : ((IntKind.wrap .u8 (((BitVec.ofInt (IntKind.bits .u8) (Int.fdiv v103 (2 ^ (min (Int.toNat (IntKind.wrap .i64 (2 + v9))) (IntKind.bits .u8)))) &&& BitVec.ofInt (IntKind.bits .u8) 1).toNat : Nat) : Int)) == 1) = true
                  · rw [if_pos e27] at hS
                    refine EvC.condT rfl e27 ?_
                    refine EvC.region [Item.look 0, Item.look 1, Item.look 2, Item.look 3, Item.eff 4 []] (by kernel_rfl) ?_
                    refine R.look (v := (.pointer (some ⟨b8, 3, none⟩))) rfl rfl rfl (Lk.fldAddr rfl Tryd.underlying54 rfl rfl T9 rfl rfl rfl) fun _ => ?_
                    refine R.look rfl rfl rfl (Lk.load1 (v := (.string c8_3_1)) rfl Tryd.underlying9 rfl rfl (H.rd_loc ok (i := 0) rfl rfl)) fun _ => ?_
                    obtain ⟨e28, hS⟩ := hS
                    refine R.look rfl rfl rfl (Lk.strAdd rfl rfl rfl e28) fun _ => ?_
                    refine R.look (v := (.pointer (some ⟨b8, 3, none⟩))) rfl rfl rfl (Lk.fldAddr rfl Tryd.underlying54 rfl rfl T9 rfl rfl rfl) fun _ => ?_
                    refine R.effN rfl rfl rfl (Ef.storeLoc (i := 0) (vs := [(.string (c8_3_1 ++ ⟨#[76]⟩))]) (cs := [(.int .i64 c8_0_1), (.int .i64 c8_1_1), (.int .i64 c8_2_1), (.string (c8_3_1 ++ ⟨#[76]⟩))]) (l' := [(b8, .row ⟨[(.int .i64 c8_0_1), (.int .i64 c8_1_1), (.int .i64 c8_2_1), (.string (c8_3_1 ++ ⟨#[76]⟩))], 4, 54, true, true⟩), (b5, .row ⟨[(.slice c5_0_2.a c5_0_2.l c5_0_2.c), (.slice c5_1_2.a c5_1_2.l c5_1_2.c)], 2, 29, true, true⟩), (b4, .row ⟨[(.slice none 0 0), (.slice none 0 0)], 2, 29, true, true⟩), (b2, .row ⟨[(.slice p0_0.a p0_0.l p0_0.c), (.slice p0_1.a p0_1.l p0_1.c), (.slice p0_2.a p0_2.l p0_2.c)], 3, 26, true, true⟩)]) ok rfl T9 rfl rfl rfl rfl rfl rfl rfl rfl rfl rfl fun ok => ⟨noChk, ?_⟩)
                    refine R.nil ?_
                    exact hIh_8 (c8_0_1, c8_1_1, c8_2_1, (c8_3_1 ++ ⟨#[76]⟩)) _ _ _ (Env.le_put rfl (Env.le_put rfl (Env.le_put rfl (Env.le_put rfl (Env.le_put rfl (Env.le_put rfl (Env.le_put rfl (Env.le_emp _)))))))) (ok.sub (.cons_cons _ (.cons_cons _ (.cons_cons _ (.cons_cons _ List.Sublist.slnil))))) (H.add_sub ok (.cons_cons _ (.cons_cons _ (.cons_cons _ (.cons_cons _ List.Sublist.slnil))))) hS
                  · rw [if_neg e27] at hS
                    replace e27 := eq_false_of_ne_true e27
                    refine EvC.condF rfl e27 ?_
                    refine EvC.region [Item.look 0, Item.look 1, Item.look 2, Item.look 3, Item.eff 4 []] (by kernel_rfl) ?_
                    refine R.look (v := (.pointer (some ⟨b8, 3, none⟩))) rfl rfl rfl (Lk.fldAddr rfl Tryd.underlying54 rfl rfl T9 rfl rfl rfl) fun _ => ?_
                    refine R.look rfl rfl rfl (Lk.load1 (v := (.string c8_3_1)) rfl Tryd.underlying9 rfl rfl (H.rd_loc ok (i := 0) rfl rfl)) fun _ => ?_
                    obtain ⟨e29, hS⟩ := hS
                    refine R.look rfl rfl rfl (Lk.strAdd rfl rfl rfl e29) fun _ => ?_
                    refine R.look (v := (.pointer (some ⟨b8, 3, none⟩))) rfl rfl rfl (Lk.fldAddr rfl Tryd.underlying54 rfl rfl T9 rfl rfl rfl) fun _ => ?_
                    refine R.effN rfl rfl rfl (Ef.storeLoc (i := 0) (vs := [(.string (c8_3_1 ++ ⟨#[82]⟩))]) (cs := [(.int .i64 c8_0_1), (.int .i64 c8_1_1), (.int .i64 c8_2_1), (.string (c8_3_1 ++ ⟨#[82]⟩))]) (l' := [(b8, .row ⟨[(.int .i64 c8_0_1), (.int .i64 c8_1_1), (.int .i64 c8_2_1), (.string (c8_3_1 ++ ⟨#[82]⟩))], 4, 54, true, true⟩), (b5, .row ⟨[(.slice c5_0_2.a c5_0_2.l c5_0_2.c), (.slice c5_1_2.a c5_1_2.l c5_1_2.c)], 2, 29, true, true⟩), (b4, .row ⟨[(.slice none 0 0), (.slice none 0 0)], 2, 29, true, true⟩), (b2, .row ⟨[(.slice p0_0.a p0_0.l p0_0.c), (.slice p0_1.a p0_1.l p0_1.c), (.slice p0_2.a p0_2.l p0_2.c)], 3, 26, true, true⟩)]) ok rfl T9 rfl rfl rfl rfl rfl rfl rfl rfl rfl rfl fun ok => ⟨noChk, ?_⟩)
                    refine R.nil ?_
                    exact hIh_8 (c8_0_1, c8_1_1, c8_2_1, (c8_3_1 ++ ⟨#[82]⟩)) _ _ _ (Env.le_put rfl (Env.le_put rfl (Env.le_put rfl (Env.le_put rfl (Env.le_put rfl (Env.le_put rfl (Env.le_put rfl (Env.le_emp _)))))))) (ok.sub (.cons_cons _ (.cons_cons _ (.cons_cons _ (.cons_cons _ List.Sublist.slnil))))) (H.add_sub ok (.cons_cons _ (.cons_cons _ (.cons_cons _ (.cons_cons _ List.Sublist.slnil))))) hS
              · rw [if_neg e21] at hS
                replace e21 := eq_false_of_ne_true e21
                refine EvC.condF rfl e21 ?_
                refine EvC.exit ?_
                exact hIh_5 (c8_0_1, c8_1_1, c8_2_1, c8_3_1) _ _ _ (Env.le_put rfl (Env.le_put rfl (Env.le_put rfl (Env.le_put rfl (Env.le_put rfl (Env.le_put rfl (Env.le_emp _))))))) (ok.sub (.cons_cons _ (.cons_cons _ (.cons_cons _ (.cons_cons _ List.Sublist.slnil))))) (H.add_sub ok (.cons_cons _ (.cons_cons _ (.cons_cons _ (.cons_cons _ List.Sublist.slnil))))) hS
            · rw [if_neg e16] at hS
              replace e16 := eq_false_of_ne_true e16
              refine EvC.condF rfl e16 ?_
              refine EvC.skip ?_
              exact hIh_5 ((Int.tmod (IntKind.wrap .i64 v57) (c5_0_2.l : Int)), (Int.tmod (IntKind.wrap .i64 v68) (c5_0_2.l : Int)), (Int.tmod (IntKind.wrap .i64 v79) 4), ⟨#[]⟩) _ _ _ (Env.le_put rfl (Env.le_put rfl (Env.le_put rfl (Env.le_put rfl (Env.le_put rfl (Env.le_put rfl (Env.le_emp _))))))) (ok.sub (.cons_cons _ (.cons_cons _ (.cons_cons _ (.cons_cons _ List.Sublist.slnil))))) (H.add_sub ok (.cons_cons _ (.cons_cons _ (.cons_cons _ (.cons_cons _ List.Sublist.slnil))))) hS
        · rw [if_neg e1] at hS
          replace e1 := eq_false_of_ne_true e1
          refine EvC.condF rfl e1 ?_
          refine EvC.exit ?_
          exact hIh_2 (c5_0_2, c5_1_2) _ _ _ (Env.le_put rfl (Env.le_put rfl (Env.le_emp _))) (ok.sub (.cons_cons _ (.cons_cons _ (.cons _ List.Sublist.slnil)))) (H.add_sub ok (.cons_cons _ (.cons_cons _ (.cons _ List.Sublist.slnil)))) hS
      · refine EvC.region [Item.look 0, Item.look 1, Item.look 2, Item.look 3, Item.look 4, Item.look 5, Item.look 6, Item.look 7, Item.look 8, Item.look 9, Item.look 10, Item.look 11, Item.look 12, Item.look 13, Item.look 14, Item.look 15, Item.look 16] (by kernel_rfl) ?_
        refine R.look rfl rfl rfl (Lk.move rfl rfl) fun _ => ?_
        refine R.look (v := (.pointer (some ⟨b2, 1, none⟩))) rfl rfl rfl (Lk.fldAddr rfl Tryd.underlying26 rfl rfl T23 rfl rfl rfl) fun _ => ?_
        refine R.look rfl rfl rfl (Lk.load1 (v := (.slice p0_1.a p0_1.l p0_1.c)) rfl Tryd.underlying23 rfl rfl (H.rd_loc ok (i := 2) rfl rfl)) fun _ => ?_
        refine R.look rfl rfl rfl (Lk.len rfl Tryd.underlying23 rfl) fun _ => ?_
        refine R.look rfl rfl rfl (Lk.arith rfl rfl rfl rfl) fun _ => ?_
        refine R.look rfl rfl rfl (Lk.move rfl rfl) fun _ => ?_
        by_cases e30 : (decide (v7 < (p0_1.l : Int))) = true
        · refine R.lookT rfl rfl rfl rfl e30 rfl (Lk.move rfl rfl) fun _ => ?_
          refine R.lookT rfl rfl rfl rfl e30 rfl (Lk.move rfl rfl) fun _ => ?_
          refine R.lookT rfl rfl rfl rfl e30 rfl (Lk.arith rfl rfl rfl rfl) fun _ => ?_
          refine R.lookT rfl rfl rfl rfl e30 rfl (Lk.arith rfl rfl rfl rfl) fun _ => ?_
          refine R.look rfl rfl rfl (Lk.pick rfl rfl (fun _ => rfl) (fun e => by rw [e30] at e; cases e)) fun _ => ?_
          refine R.look rfl rfl rfl (Lk.move rfl rfl) fun _ => ?_
          by_cases e31 : (decide (v7 < (IntKind.wrap .i64 (2 * p1)))) = true
          · refine R.lookT (v := (.pointer (some ⟨b5, 0, none⟩))) rfl rfl rfl rfl e31 rfl (Lk.fldAddr rfl Tryd.underlying29 rfl rfl T22 rfl rfl rfl) fun _ => ?_
            refine R.lookT rfl rfl rfl rfl e31 rfl (Lk.load1 (v := (.slice c5_0_2.a c5_0_2.l c5_0_2.c)) rfl Tryd.underlying22 rfl rfl (H.rd_loc ok (i := 0) rfl rfl)) fun _ => ?_
            refine R.lookT rfl rfl rfl rfl e31 rfl (Lk.len rfl Tryd.underlying22 rfl) fun _ => ?_
            refine R.lookT rfl rfl rfl rfl e31 rfl (Lk.arith rfl rfl rfl rfl) fun _ => ?_
            refine R.look rfl rfl rfl (Lk.pick rfl rfl (fun _ => rfl) (fun e => by rw [e31] at e; cases e)) fun _ => ?_
            refine R.nil ?_
            exact hIh_4 (((decide (v7 < (p0_1.l : Int))) && (decide (v7 < (IntKind.wrap .i64 (2 * p1))))) && (decide ((c5_0_2.l : Int) > 0))) _ _ _ (Env.le_put rfl (Env.le_put rfl (Env.le_put rfl (Env.le_put rfl (Env.le_put rfl (Env.le_put (by rw [e30, e31]; rfl) (Env.le_emp _))))))) (ok.sub (.cons_cons _ (.cons_cons _ (.cons_cons _ List.Sublist.slnil)))) (H.add_sub ok (.cons_cons _ (.cons_cons _ (.cons_cons _ List.Sublist.slnil)))) hS
          · replace e31 := eq_false_of_ne_true e31
            refine R.lookF rfl rfl rfl rfl e31 rfl fun _ => ?_
            refine R.lookF rfl rfl rfl rfl e31 rfl fun _ => ?_
            refine R.lookF rfl rfl rfl rfl e31 rfl fun _ => ?_
            refine R.lookF rfl rfl rfl rfl e31 rfl fun _ => ?_
            refine R.look rfl rfl rfl (Lk.pick rfl rfl (fun e => by rw [e31] at e; cases e) (fun _ => rfl)) fun _ => ?_
            refine R.nil ?_
            exact hIh_4 (((decide (v7 < (p0_1.l : Int))) && (decide (v7 < (IntKind.wrap .i64 (2 * p1))))) && (decide ((c5_0_2.l : Int) > 0))) _ _ _ (Env.le_put rfl (Env.le_put rfl (Env.le_put rfl (Env.le_put rfl (Env.le_put rfl (Env.le_put (by rw [e30, e31]; rfl) (Env.le_emp _))))))) (ok.sub (.cons_cons _ (.cons_cons _ (.cons_cons _ List.Sublist.slnil)))) (H.add_sub ok (.cons_cons _ (.cons_cons _ (.cons_cons _ List.Sublist.slnil)))) hS
        · replace e30 := eq_false_of_ne_true e30
          refine R.lookF rfl rfl rfl rfl e30 rfl fun _ => ?_
          refine R.lookF rfl rfl rfl rfl e30 rfl fun _ => ?_
          refine R.lookF rfl rfl rfl rfl e30 rfl fun _ => ?_
          refine R.lookF rfl rfl rfl rfl e30 rfl fun _ => ?_
          refine R.look rfl rfl rfl (Lk.pick rfl rfl (fun e => by rw [e30] at e; cases e) (fun _ => rfl)) fun _ => ?_
          refine R.look rfl rfl rfl (Lk.move rfl rfl) fun _ => ?_
          refine R.lookF rfl rfl rfl rfl rfl rfl fun _ => ?_
          refine R.lookF rfl rfl rfl rfl rfl rfl fun _ => ?_
          refine R.lookF rfl rfl rfl rfl rfl rfl fun _ => ?_
          refine R.lookF rfl rfl rfl rfl rfl rfl fun _ => ?_
          refine R.look rfl rfl rfl (Lk.pick rfl rfl (fun e => by cases e) (fun _ => rfl)) fun _ => ?_
          refine R.nil ?_
          exact hIh_4 (((decide (v7 < (p0_1.l : Int))) && (decide (v7 < (IntKind.wrap .i64 (2 * p1))))) && (decide ((c5_0_2.l : Int) > 0))) _ _ _ (Env.le_put rfl (Env.le_put rfl (Env.le_put rfl (Env.le_put rfl (Env.le_put rfl (Env.le_put (by rw [e30]; rfl) (Env.le_emp _))))))) (ok.sub (.cons_cons _ (.cons_cons _ (.cons_cons _ List.Sublist.slnil)))) (H.add_sub ok (.cons_cons _ (.cons_cons _ (.cons_cons _ List.Sublist.slnil)))) hS
  · refine EvC.seq ?_
    refine EvC.region [Item.look 0] (by kernel_rfl) ?_
    refine R.look rfl rfl rfl (Lk.assign rfl rfl) fun _ => ?_
    refine R.nil ?_
    refine EvC.block ?_
    refine EvC.loop ?_
    refine LoopC.lfp (σ := Int × Sl × Sl) (fun s => (Env.put (Env.put (Env.put (Env.put (Env.put Env.emp 6 (.int .i64 s.1)) 5 (.pointer (some ⟨b5, 0, none⟩))) 4 (.pointer (some ⟨b4, 0, none⟩))) 2 (.pointer (some ⟨b2, 0, none⟩))) 1 (.int .i64 p1))) (fun s => [(b5, .row ⟨[(.slice s.2.1.a s.2.1.l s.2.1.c), (.slice s.2.2.a s.2.2.l s.2.2.c)], 2, 29, true, true⟩), (b4, .row ⟨[(.slice none 0 0), (.slice none 0 0)], 2, 29, true, true⟩), (b2, .row ⟨[(.slice p0_0.a p0_0.l p0_0.c), (.slice p0_1.a p0_1.l p0_1.c), (.slice p0_2.a p0_2.l p0_2.c)], 3, 26, true, true⟩)]) (fun X_2 hX_2 => ?_) hS (ok.sub (.cons_cons _ (.cons_cons _ (.cons_cons _ List.Sublist.slnil)))) (Env.le_put rfl (Env.le_put rfl (Env.le_put rfl (Env.le_put rfl (Env.le_put rfl (Env.le_emp _)))))) (H.add_sub ok (.cons_cons _ (.cons_cons _ (.cons_cons _ List.Sublist.slnil))))
    rintro ⟨v6, c5_0_3, c5_1_3⟩ h_9 hS ok
    replace hS : S11_l9 p0_0 p0_1 p0_2 p1 K X_2 v6 c5_0_3 c5_1_3 h_9 := hS
    change EvC _ _ _ (Env.put (Env.put (Env.put (Env.put (Env.put Env.emp 6 (.int .i64 v6)) 5 (.pointer (some ⟨b5, 0, none⟩))) 4 (.pointer (some ⟨b4, 0, none⟩))) 2 (.pointer (some ⟨b2, 0, none⟩))) 1 (.int .i64 p1)) (H.add h_9 [(b5, .row ⟨[(.slice c5_0_3.a c5_0_3.l c5_0_3.c), (.slice c5_1_3.a c5_1_3.l c5_1_3.c)], 2, 29, true, true⟩), (b4, .row ⟨[(.slice none 0 0), (.slice none 0 0)], 2, 29, true, true⟩), (b2, .row ⟨[(.slice p0_0.a p0_0.l p0_0.c), (.slice p0_1.a p0_1.l p0_1.c), (.slice p0_2.a p0_2.l p0_2.c)], 3, 26, true, true⟩)]) _
    unfold S11_l9 at hS
    refine EvC.seq ?_
    refine EvC.join (σ := Bool) (fun s => (Env.put (Env.put (Env.put (Env.put (Env.put (Env.put Env.emp 20 (.bool s)) 6 (.int .i64 v6)) 5 (.pointer (some ⟨b5, 0, none⟩))) 4 (.pointer (some ⟨b4, 0, none⟩))) 2 (.pointer (some ⟨b2, 0, none⟩))) 1 (.int .i64 p1))) (fun s => [(b5, .row ⟨[(.slice c5_0_3.a c5_0_3.l c5_0_3.c), (.slice c5_1_3.a c5_1_3.l c5_1_3.c)], 2, 29, true, true⟩), (b4, .row ⟨[(.slice none 0 0), (.slice none 0 0)], 2, 29, true, true⟩), (b2, .row ⟨[(.slice p0_0.a p0_0.l p0_0.c), (.slice p0_1.a p0_1.l p0_1.c), (.slice p0_2.a p0_2.l p0_2.c)], 3, 26, true, true⟩)]) (fun s h_10 => S11_j8 p0_0 p0_1 p0_2 p1 K v6 c5_0_3 c5_1_3 X_2 s h_10) ?_ (fun Ih_10 hIh_10 => ?_)
    · intro v20 h_10 ok hS
      replace hS : S11_j8 p0_0 p0_1 p0_2 p1 K v6 c5_0_3 c5_1_3 X_2 v20 h_10 := hS
      change EvC _ _ _ (Env.put (Env.put (Env.put (Env.put (Env.put (Env.put Env.emp 20 (.bool v20)) 6 (.int .i64 v6)) 5 (.pointer (some ⟨b5, 0, none⟩))) 4 (.pointer (some ⟨b4, 0, none⟩))) 2 (.pointer (some ⟨b2, 0, none⟩))) 1 (.int .i64 p1)) (H.add h_10 [(b5, .row ⟨[(.slice c5_0_3.a c5_0_3.l c5_0_3.c), (.slice c5_1_3.a c5_1_3.l c5_1_3.c)], 2, 29, true, true⟩), (b4, .row ⟨[(.slice none 0 0), (.slice none 0 0)], 2, 29, true, true⟩), (b2, .row ⟨[(.slice p0_0.a p0_0.l p0_0.c), (.slice p0_1.a p0_1.l p0_1.c), (.slice p0_2.a p0_2.l p0_2.c)], 3, 26, true, true⟩)]) _
      unfold S11_j8 at hS
      by_cases e32 : v20 = true
      · rw [if_pos e32] at hS
        refine EvC.condT rfl e32 ?_
        refine EvC.skip ?_
        refine EvC.seq ?_
        refine EvC.block ?_
        refine EvC.draw [0, 1, 0, 4, 0, 28, 60, 124, 255, 511, 1023] [Item.look 0, Item.look 1, Item.look 2, Item.look 3, Item.look 4, Item.look 5, Item.look 6, Item.alc 7, Item.eff 8 [], Item.look 9, Item.eff 10 []] MO (by kernel_rfl) ?_
        refine R.look (v := (.pointer (some ⟨b5, 0, none⟩))) rfl rfl rfl (Lk.fldAddr rfl Tryd.underlying29 rfl rfl T22 rfl rfl rfl) fun _ => ?_
        refine R.look rfl rfl rfl (Lk.load1 (v := (.slice c5_0_3.a c5_0_3.l c5_0_3.c)) rfl Tryd.underlying22 rfl rfl (H.rd_loc ok (i := 0) rfl rfl)) fun _ => ?_
        refine R.look (v := (.pointer (some ⟨b2, 0, none⟩))) rfl rfl rfl (Lk.fldAddr rfl Tryd.underlying26 rfl rfl T22 rfl rfl rfl) fun _ => ?_
        refine R.look rfl rfl rfl (Lk.load1 (v := (.slice p0_0.a p0_0.l p0_0.c)) rfl Tryd.underlying22 rfl rfl (H.rd_loc ok (i := 2) rfl rfl)) fun _ => ?_
        refine R.look rfl rfl rfl (Lk.move rfl rfl) fun _ => ?_
        obtain ⟨a28, e33, e34, e35, hS⟩ := hS
        refine R.look rfl rfl rfl (Lk.ixAddr rfl Tryd.underlying22 T4 rfl e33 rfl e34 e35) fun _ => ?_
        obtain ⟨v29, e36, hS⟩ := hS
        refine R.look rfl rfl rfl (Look.loc ok (Lk.load1 rfl Tryd.underlying4 rfl rfl e36)) fun _ => ?_
        refine R.appL (cs := [(.bool v29)]) ok rfl rfl rfl rfl rfl rfl rfl rfl Tryd.underlying22 T4 rfl (by decide) (by decide) rfl rfl rfl rfl rfl (fun _ => rfl) hS ?_
        intro bb30 v31 h_11 hS ok
        refine ⟨noChk, ?_⟩
        refine R.look (v := (.pointer (some ⟨b5, 0, none⟩))) rfl rfl rfl (Lk.fldAddr rfl Tryd.underlying29 rfl rfl T22 rfl rfl rfl) fun _ => ?_
        refine R.effN rfl rfl rfl (Ef.storeLoc (i := 0) (vs := [(.slice v31.a v31.l v31.c)]) (cs := [(.slice v31.a v31.l v31.c), (.slice c5_1_3.a c5_1_3.l c5_1_3.c)]) (l' := [(b5, .row ⟨[(.slice v31.a v31.l v31.c), (.slice c5_1_3.a c5_1_3.l c5_1_3.c)], 2, 29, true, true⟩), (b4, .row ⟨[(.slice none 0 0), (.slice none 0 0)], 2, 29, true, true⟩), (b2, .row ⟨[(.slice p0_0.a p0_0.l p0_0.c), (.slice p0_1.a p0_1.l p0_1.c), (.slice p0_2.a p0_2.l p0_2.c)], 3, 26, true, true⟩)]) ok rfl T22 rfl rfl rfl rfl rfl rfl rfl rfl rfl rfl fun ok => ⟨noChk, ?_⟩)
        refine R.nil ?_
        refine EvC.region [Item.look 0, Item.look 1, Item.look 2] (by kernel_rfl) ?_
        refine R.look rfl rfl rfl (Lk.move rfl rfl) fun _ => ?_
        refine R.look rfl rfl rfl (Lk.arith rfl rfl rfl rfl) fun _ => ?_
        refine R.look rfl rfl rfl (Lk.assign rfl rfl) fun _ => ?_
        refine R.nil ?_
        exact hX_2 ((IntKind.wrap .i64 (v6 + 1)), v31, c5_1_3) _ _ _ hS (ok.sub (.cons_cons _ (.cons_cons _ (.cons_cons _ List.Sublist.slnil)))) (Env.le_put rfl (Env.le_put rfl (Env.le_put rfl (Env.le_put rfl (Env.le_put rfl (Env.le_emp _)))))) (H.add_sub ok (.cons_cons _ (.cons_cons _ (.cons_cons _ List.Sublist.slnil))))
      · rw [if_neg e32] at hS
        replace e32 := eq_false_of_ne_true e32
        refine EvC.condF rfl e32 ?_
        refine EvC.exit ?_
        exact hIh_1 (c5_0_3, c5_1_3) _ _ _ (Env.le_put rfl (Env.le_put rfl (Env.le_put rfl (Env.le_put rfl (Env.le_emp _))))) (ok.sub (.cons_cons _ (.cons_cons _ (.cons_cons _ List.Sublist.slnil)))) (H.add_sub ok (.cons_cons _ (.cons_cons _ (.cons_cons _ List.Sublist.slnil)))) hS
    · refine EvC.region [Item.look 0, Item.look 1, Item.look 2, Item.look 3, Item.look 4, Item.look 5, Item.look 6, Item.look 7, Item.look 8, Item.look 9] (by kernel_rfl) ?_
      refine R.look rfl rfl rfl (Lk.move rfl rfl) fun _ => ?_
      refine R.look (v := (.pointer (some ⟨b2, 0, none⟩))) rfl rfl rfl (Lk.fldAddr rfl Tryd.underlying26 rfl rfl T22 rfl rfl rfl) fun _ => ?_
      refine R.look rfl rfl rfl (Lk.load1 (v := (.slice p0_0.a p0_0.l p0_0.c)) rfl Tryd.underlying22 rfl rfl (H.rd_loc ok (i := 2) rfl rfl)) fun _ => ?_
      refine R.look rfl rfl rfl (Lk.len rfl Tryd.underlying22 rfl) fun _ => ?_
      refine R.look rfl rfl rfl (Lk.arith rfl rfl rfl rfl) fun _ => ?_
      refine R.look rfl rfl rfl (Lk.move rfl rfl) fun _ => ?_
      by_cases e37 : (decide (v6 < (p0_0.l : Int))) = true
      · refine R.lookT rfl rfl rfl rfl e37 rfl (Lk.move rfl rfl) fun _ => ?_
        refine R.lookT rfl rfl rfl rfl e37 rfl (Lk.move rfl rfl) fun _ => ?_
        refine R.lookT rfl rfl rfl rfl e37 rfl (Lk.arith rfl rfl rfl rfl) fun _ => ?_
        refine R.look rfl rfl rfl (Lk.pick rfl rfl (fun _ => rfl) (fun e => by rw [e37] at e; cases e)) fun _ => ?_
        refine R.nil ?_
        exact hIh_10 ((decide (v6 < (p0_0.l : Int))) && (decide (v6 < p1))) _ _ _ (Env.le_put rfl (Env.le_put rfl (Env.le_put rfl (Env.le_put rfl (Env.le_put rfl (Env.le_put (by rw [e37]; rfl) (Env.le_emp _))))))) (ok.sub (.cons_cons _ (.cons_cons _ (.cons_cons _ List.Sublist.slnil)))) (H.add_sub ok (.cons_cons _ (.cons_cons _ (.cons_cons _ List.Sublist.slnil)))) hS
      · replace e37 := eq_false_of_ne_true e37
        refine R.lookF rfl rfl rfl rfl e37 rfl fun _ => ?_
        refine R.lookF rfl rfl rfl rfl e37 rfl fun _ => ?_
        refine R.lookF rfl rfl rfl rfl e37 rfl fun _ => ?_
        refine R.look rfl rfl rfl (Lk.pick rfl rfl (fun e => by rw [e37] at e; cases e) (fun _ => rfl)) fun _ => ?_
        refine R.nil ?_
        exact hIh_10 ((decide (v6 < (p0_0.l : Int))) && (decide (v6 < p1))) _ _ _ (Env.le_put rfl (Env.le_put rfl (Env.le_put rfl (Env.le_put rfl (Env.le_put rfl (Env.le_put (by rw [e37]; rfl) (Env.le_emp _))))))) (ok.sub (.cons_cons _ (.cons_cons _ (.cons_cons _ List.Sublist.slnil)))) (H.add_sub ok (.cons_cons _ (.cons_cons _ (.cons_cons _ List.Sublist.slnil)))) hS
end Go.Proofs.YtimadnngfhbfiaaDoor
end

section
/- PRINTED by wip/gen.py: the machine's call of muntin/compass.Good does what S54 says. -/
namespace Go.Proofs.YtimadnngfhbfiaaDoor
open Go Go.Mu
set_option maxHeartbeats 4000000
set_option maxRecDepth 100000
theorem f54_ok {p0 : Int} {h : H} {K : Bool → H → Prop} (hS : S54 p0 h K) : ACall Tryd.prog 54 ([(.int .i64 p0)] : List Value).toArray h (fun r h' => ∃ r0 : Bool, r = tup [(.bool r0)] ∧ K r0 h') := by
  refine ACall.enter (fn := Tryd.f54) Tryd.func54 rfl (Nat.le_of_ble_eq_true rfl) ?_
  unfold S54 at hS
  have ok := Lok.nil h
  change EvC _ _ _ _ (H.add h []) _
  refine EvC.seq ?_
  refine EvC.region [Item.look 0] (by kernel_rfl) ?_
  refine R.look rfl rfl rfl (Lk.assign rfl rfl) fun _ => ?_
  refine R.nil ?_
  refine EvC.join (σ := Bool) (fun s => (Env.put Env.emp 2 (.bool s))) (fun s => []) (fun s h_1 => S54_j1 K s h_1) ?_ (fun Ih_1 hIh_1 => ?_)
  · intro v2 h_1 ok hS
    replace hS : S54_j1 K v2 h_1 := hS
    change EvC _ _ _ (Env.put Env.emp 2 (.bool v2)) (H.add h_1 []) _
    unfold S54_j1 at hS
    refine EvC.ret ?_
    exact ⟨.inr rfl, _, _, (.cons (.tmp rfl) .nil), ok.le, _, rfl, hS⟩
  · refine EvC.region [Item.look 0, Item.look 1, Item.look 2, Item.look 3, Item.look 4, Item.look 5, Item.look 6] (by kernel_rfl) ?_
    refine R.look rfl rfl rfl (Lk.move rfl rfl) fun _ => ?_
    refine R.look rfl rfl rfl (Lk.arith rfl rfl rfl rfl) fun _ => ?_
    refine R.look rfl rfl rfl (Lk.move rfl rfl) fun _ => ?_
    by_cases e1 : (decide (p0 ≥ 0)) = true
    · refine R.lookT rfl rfl rfl rfl e1 rfl (Lk.move rfl rfl) fun _ => ?_
      refine R.lookT rfl rfl rfl rfl e1 rfl (Lk.arith rfl rfl rfl rfl) fun _ => ?_
      refine R.look rfl rfl rfl (Lk.pick rfl rfl (fun _ => rfl) (fun e => by rw [e1] at e; cases e)) fun _ => ?_
      refine R.look rfl rfl rfl (Lk.assign rfl rfl) fun _ => ?_
      refine R.nil ?_
      exact hIh_1 ((decide (p0 ≥ 0)) && (decide (p0 ≤ 3))) _ _ _ (Env.le_put (by rw [e1]; rfl) (Env.le_emp _)) (ok.sub List.Sublist.slnil) (H.add_sub ok List.Sublist.slnil) hS
    · replace e1 := eq_false_of_ne_true e1
      refine R.lookF rfl rfl rfl rfl e1 rfl fun _ => ?_
      refine R.lookF rfl rfl rfl rfl e1 rfl fun _ => ?_
      refine R.look rfl rfl rfl (Lk.pick rfl rfl (fun e => by rw [e1] at e; cases e) (fun _ => rfl)) fun _ => ?_
      refine R.look rfl rfl rfl (Lk.assign rfl rfl) fun _ => ?_
      refine R.nil ?_
      exact hIh_1 ((decide (p0 ≥ 0)) && (decide (p0 ≤ 3))) _ _ _ (Env.le_put (by rw [e1]; rfl) (Env.le_emp _)) (ok.sub List.Sublist.slnil) (H.add_sub ok List.Sublist.slnil) hS
end Go.Proofs.YtimadnngfhbfiaaDoor
end

section
/-
  The library's Trim at "LR", and the digits of a small number, as the kit's shelf lays them; the Builder's look at itself.
-/
namespace Go.Proofs
open Go.Shelf
def Tryd.lays160_ren : Go.Shelf.Ren := ⟨fun | 160 => 55 | 232 => 81 | 231 => 80 | 227 => 82 | 234 => 84 | 233 => 83 | 236 => 86 | 235 => 85 | 228 => 98 | 271 => 101 | 151 => 100 | 197 => 99 | 120 => 109 | 152 => 108 | 260 => 107 | 137 => 115 | 119 => 116 | 224 => 117 | 225 => 118 | 217 => 128 | 266 => 138 | n => n, fun | 9 => 9 | 4 => 4 | 3 => 3 | 5 => 5 | 117 => 159 | 116 => 158 | 0 => 0 | 124 => 162 | 21 => 21 | 105 => 174 | 46 => 166 | 119 => 193 | 139 => 196 | 138 => 195 | n => n, fun | 3 => 0 | 4 => 1 | n => n⟩
theorem Tryd.lays160 : Go.Proofs.Lays.n160 Tryd.prog Tryd.lays160_ren := {
  mixed := by kernel_rfl
  f119 := Tryd.func116.trans (congrArg some (by kernel_rfl))
  f120 := Tryd.func109.trans (congrArg some (by kernel_rfl))
  f137 := Tryd.func115.trans (congrArg some (by kernel_rfl))
  f151 := Tryd.func100.trans (congrArg some (by kernel_rfl))
  f152 := Tryd.func108.trans (congrArg some (by kernel_rfl))
  f160 := Tryd.func55.trans (congrArg some (by kernel_rfl))
  f197 := Tryd.func99.trans (congrArg some (by kernel_rfl))
  f217 := Tryd.func128.trans (congrArg some (by kernel_rfl))
  f224 := Tryd.func117.trans (congrArg some (by kernel_rfl))
  f225 := Tryd.func118.trans (congrArg some (by kernel_rfl))
  f227 := Tryd.func82.trans (congrArg some (by kernel_rfl))
  f228 := Tryd.func98.trans (congrArg some (by kernel_rfl))
  f231 := Tryd.func80.trans (congrArg some (by kernel_rfl))
  f232 := Tryd.func81.trans (congrArg some (by kernel_rfl))
  f233 := Tryd.func83.trans (congrArg some (by kernel_rfl))
  f234 := Tryd.func84.trans (congrArg some (by kernel_rfl))
  f235 := Tryd.func85.trans (congrArg some (by kernel_rfl))
  f236 := Tryd.func86.trans (congrArg some (by kernel_rfl))
  f260 := Tryd.func107.trans (congrArg some (by kernel_rfl))
  f266 := Tryd.func138.trans (congrArg some (by kernel_rfl))
  f271 := Tryd.func101.trans (congrArg some (by kernel_rfl))
  t0 := Tryd.underlying0
  a0 := Tryd.isAgg0
  z0 := Tryd.sizeOf0
  v0 := Tryd.zeroValue0
  t3 := Tryd.underlying3
  a3 := Tryd.isAgg3
  z3 := Tryd.sizeOf3
  v3 := Tryd.zeroValue3
  t4 := Tryd.underlying4
  a4 := Tryd.isAgg4
  z4 := Tryd.sizeOf4
  v4 := Tryd.zeroValue4
  t5 := Tryd.underlying5
  a5 := Tryd.isAgg5
  z5 := Tryd.sizeOf5
  v5 := Tryd.zeroValue5
  t9 := Tryd.underlying9
  a9 := Tryd.isAgg9
  z9 := Tryd.sizeOf9
  v9 := Tryd.zeroValue9
  t21 := Tryd.underlying21
  a21 := Tryd.isAgg21
  z21 := Tryd.sizeOf21
  v21 := Tryd.zeroValue21
  t46 := Tryd.underlying166
  a46 := Tryd.isAgg166
  z46 := Tryd.sizeOf166
  v46 := Tryd.zeroValue166
  t105 := Tryd.underlying174
  a105 := Tryd.isAgg174
  z105 := Tryd.sizeOf174
  v105 := Tryd.zeroValue174
  t116 := Tryd.underlying158
  a116 := Tryd.isAgg158
  z116 := Tryd.sizeOf158
  t117 := Tryd.underlying159
  a117 := Tryd.isAgg159
  z117 := Tryd.sizeOf159
  v117 := Tryd.zeroValue159
  t119 := Tryd.underlying193
  a119 := Tryd.isAgg193
  z119 := Tryd.sizeOf193
  t124 := Tryd.underlying162
  a124 := Tryd.isAgg162
  z124 := Tryd.sizeOf162
  v124 := Tryd.zeroValue162
  t138 := Tryd.underlying195
  a138 := Tryd.isAgg195
  z138 := Tryd.sizeOf195
  v138 := Tryd.zeroValue195
  t139 := Tryd.underlying196
  a139 := Tryd.isAgg196
  z139 := Tryd.sizeOf196
  v139 := Tryd.zeroValue196
  g3 := by kernel_rfl
  g4 := by kernel_rfl }
def Tryd.lays171_ren : Go.Shelf.Ren := ⟨fun | 171 => 88 | 243 => 103 | 246 => 110 | 283 => 119 | 284 => 120 | 285 => 121 | 286 => 122 | 129 => 130 | 317 => 129 | 318 => 131 | 319 => 132 | 320 => 133 | 337 => 139 | 338 => 140 | n => n, fun | 3 => 3 | 9 => 9 | 2 => 2 | 4 => 4 | 171 => 200 | 0 => 0 | 53 => 182 | 37 => 24 | 5 => 5 | 173 => 203 | 212 => 207 | 51 => 179 | 20 => 20 | 213 => 208 | 46 => 166 | 232 => 220 | 233 => 221 | n => n, fun | 17 => 3 | 18 => 4 | 19 => 5 | n => n⟩
theorem Tryd.lays171 : Go.Proofs.Lays.n171 Tryd.prog Tryd.lays171_ren := {
  mixed := by kernel_rfl
  f129 := Tryd.func130.trans (congrArg some (by kernel_rfl))
  f171 := Tryd.func88.trans (congrArg some (by kernel_rfl))
  f243 := Tryd.func103.trans (congrArg some (by kernel_rfl))
  f246 := Tryd.func110.trans (congrArg some (by kernel_rfl))
  f283 := Tryd.func119.trans (congrArg some (by kernel_rfl))
  f284 := Tryd.func120.trans (congrArg some (by kernel_rfl))
  f285 := Tryd.func121.trans (congrArg some (by kernel_rfl))
  f286 := Tryd.func122.trans (congrArg some (by kernel_rfl))
  f317 := Tryd.func129.trans (congrArg some (by kernel_rfl))
  f318 := Tryd.func131.trans (congrArg some (by kernel_rfl))
  f319 := Tryd.func132.trans (congrArg some (by kernel_rfl))
  f320 := Tryd.func133.trans (congrArg some (by kernel_rfl))
  f337 := Tryd.func139.trans (congrArg some (by kernel_rfl))
  f338 := Tryd.func140.trans (congrArg some (by kernel_rfl))
  t0 := Tryd.underlying0
  a0 := Tryd.isAgg0
  z0 := Tryd.sizeOf0
  v0 := Tryd.zeroValue0
  t2 := Tryd.underlying2
  a2 := Tryd.isAgg2
  z2 := Tryd.sizeOf2
  v2 := Tryd.zeroValue2
  t3 := Tryd.underlying3
  a3 := Tryd.isAgg3
  z3 := Tryd.sizeOf3
  v3 := Tryd.zeroValue3
  t4 := Tryd.underlying4
  a4 := Tryd.isAgg4
  z4 := Tryd.sizeOf4
  v4 := Tryd.zeroValue4
  t5 := Tryd.underlying5
  a5 := Tryd.isAgg5
  z5 := Tryd.sizeOf5
  v5 := Tryd.zeroValue5
  t9 := Tryd.underlying9
  a9 := Tryd.isAgg9
  z9 := Tryd.sizeOf9
  v9 := Tryd.zeroValue9
  t20 := Tryd.underlying20
  a20 := Tryd.isAgg20
  z20 := Tryd.sizeOf20
  v20 := Tryd.zeroValue20
  t37 := Tryd.underlying24
  a37 := Tryd.isAgg24
  z37 := Tryd.sizeOf24
  v37 := Tryd.zeroValue24
  t46 := Tryd.underlying166
  a46 := Tryd.isAgg166
  z46 := Tryd.sizeOf166
  v46 := Tryd.zeroValue166
  t51 := Tryd.underlying179
  a51 := Tryd.isAgg179
  z51 := Tryd.sizeOf179
  v51 := Tryd.zeroValue179
  t53 := Tryd.underlying182
  a53 := Tryd.isAgg182
  z53 := Tryd.sizeOf182
  v53 := Tryd.zeroValue182
  t171 := Tryd.underlying200
  a171 := Tryd.isAgg200
  z171 := Tryd.sizeOf200
  v171 := Tryd.zeroValue200
  t173 := Tryd.underlying203
  a173 := Tryd.isAgg203
  z173 := Tryd.sizeOf203
  v173 := Tryd.zeroValue203
  t212 := Tryd.underlying207
  a212 := Tryd.isAgg207
  z212 := Tryd.sizeOf207
  v212 := Tryd.zeroValue207
  t213 := Tryd.underlying208
  a213 := Tryd.isAgg208
  z213 := Tryd.sizeOf208
  t232 := Tryd.underlying220
  a232 := Tryd.isAgg220
  z232 := Tryd.sizeOf220
  v232 := Tryd.zeroValue220
  t233 := Tryd.underlying221
  a233 := Tryd.isAgg221
  z233 := Tryd.sizeOf221
  v233 := Tryd.zeroValue221
  g17 := by kernel_rfl
  g18 := by kernel_rfl
  g19 := by kernel_rfl }
open Go.RowKit Go.Sort Go.Lib in
theorem Tryd.strconv_Itoa_small (i : Nat) (hi : i < 100) (w : World) :
    Calls Tryd.prog 88 #[.int .i64 i] w fun e w' => e = .returned (.string ⟨(Lib.decDigits i).toArray⟩) ∧ w' = w := Any.strconv_Itoa_small Tryd.lays171 i hi w
theorem Tryd.trim_set : (Tryd.prog.info? 158).map (fun i => (i.zero, i.size)) = some (some (.agg (Array.replicate 256 (.bool false))), 256) := by kernel_rfl
theorem Tryd.info128 : (Tryd.prog.info? 128).map (·.size) = some 2 := by kernel_rfl
theorem Tryd.lies128 : liesAt Tryd.prog Tryd.prog.depth 128 (2 / Tryd.prog.cellsOf 128) 0 128 1 = true := by kernel_rfl
set_option maxHeartbeats 1000000 in
set_option maxRecDepth 100000 in
theorem Tryd.copyCheck_used (b : Nat) (w : World) (h0 : w.cell? ⟨b, 0, none⟩ = some (.pointer (some ⟨b, 0, none⟩))) :
    Calls Tryd.prog 87 #[.pointer (some ⟨b, 0, none⟩)] w fun e w' => e = .returned (.tuple #[]) ∧ w' = w := by
  obtain ⟨j, hj, _⟩ := Option.map_eq_some_iff.1 Tryd.info128
  go_enter Tryd.func87, Tryd.ntmps87
  go_wp2
  rw [Lib.run_neq_ptr_same w _ Tryd.underlying126 hj]
  go_wp2
  go_end0
  exact ⟨rfl, rfl⟩
set_option maxHeartbeats 1000000 in
set_option maxRecDepth 100000 in
theorem Tryd.copyCheck_fresh (b : Nat) (w : World) (h0 : w.cell? ⟨b, 0, none⟩ = some (.pointer none)) (hsh : w.shape? b = some (128, 2)) (hfz : w.frozen? ⟨b, 0, none⟩ = false) :
    Calls Tryd.prog 87 #[.pointer (some ⟨b, 0, none⟩)] w fun e w' => e = .returned (.tuple #[]) ∧ w' = w.setCell ⟨b, 0, none⟩ (.pointer (some ⟨b, 0, none⟩)) := by
  obtain ⟨j, hj, hjs⟩ := Option.map_eq_some_iff.1 Tryd.info128
  go_enter Tryd.func87, Tryd.ntmps87
  go_wp2
  rw [Lib.run_to_unsafe w ⟨b, 0, none⟩ Tryd.underlying126 Tryd.underlying177 hj (by rw [hjs]; decide) hsh (Nat.zero_lt_succ 1)]
  simp only [Result.andThen]
  rw [Oper.upon_value]
  go_wp2
  rw [run_callFunc_extern Tryd.func102 (by kernel_rfl) (by kernel_rfl) (by kernel_rfl) (e := Extern.AbiNoEscape.same) (by kernel_rfl)]
  rw [Lib.run_noEscape]
  simp only [Result.andThen]
  rw [Oper.upon_value]
  go_wp2
  rw [Lib.run_from_unsafe w ⟨b, 0, none⟩ Tryd.underlying177 Tryd.underlying126 hj hsh Tryd.lies128]
  simp only [Result.andThen]
  rw [Oper.upon_value]
  go_wp2
  go_end0
  exact ⟨rfl, rfl⟩
end Go.Proofs
end

section
/- BY HAND: strings.Trim at "LR". -/
namespace Go.Proofs.YtimadnngfhbfiaaDoor
open Go Go.Mu
theorem f55_ok {p0 p1 : ByteArray} {h : H} {K : ByteArray → H → Prop} (hS : S55 p0 p1 h K) : ACall Tryd.prog 55 ([(.string p0), (.string p1)] : List Value).toArray h (fun r h' => ∃ r0 : ByteArray, r = tup [(.string r0)] ∧ K r0 h') := by
  obtain ⟨h1, rfl, k⟩ := hS
  exact ACall.below (fun w _ => Any.strings_Trim_laid Tryd.lays160 Tryd.trim_set p0 ⟨#[76, 82]⟩ w h1 (by decide) (ascii_of_all (by decide))) ⟨_, rfl, k⟩
end Go.Proofs.YtimadnngfhbfiaaDoor
end

section
/- PRINTED by wip/gen.py: the machine's call of muntin/compass.Left does what S56 says. -/
namespace Go.Proofs.YtimadnngfhbfiaaDoor
open Go Go.Mu
set_option maxHeartbeats 4000000
set_option maxRecDepth 100000
theorem f56_ok {p0 : Int} {p1 : Int} {h : H} {K : Int → H → Prop} (hS : S56 p0 p1 h K) : ACall Tryd.prog 56 ([(.int .i64 p0), (.int .i64 p1)] : List Value).toArray h (fun r h' => ∃ r0 : Int, r = tup [(.int .i64 r0)] ∧ K r0 h') := by
  refine ACall.enter (fn := Tryd.f56) Tryd.func56 rfl (Nat.le_of_ble_eq_true rfl) ?_
  unfold S56 at hS
  have ok := Lok.nil h
  change EvC _ _ _ _ (H.add h []) _
  refine EvC.seq ?_
  refine EvC.region [Item.look 0] (by kernel_rfl) ?_
  refine R.look rfl rfl rfl (Lk.assign rfl rfl) fun _ => ?_
  refine R.nil ?_
  refine EvC.seq ?_
  refine EvC.seq ?_
  refine EvC.region [Item.look 0, Item.eff 1 [], Item.look 2] (by kernel_rfl) ?_
  refine R.look rfl rfl rfl (Lk.move rfl rfl) fun _ => ?_
  refine R.eff rfl rfl rfl (Eff.loc ok (Ef.call rfl CB54 rfl ((f54_ok hS).mono ?_)))
  rintro _ h_1 ⟨v6, rfl, hS⟩
  refine fun ok => ⟨noChk, ?_⟩
  refine R.look rfl rfl rfl (Lk.not rfl rfl) fun _ => ?_
  refine R.nil ?_
  by_cases e1 : (!v6) = true
  · rw [if_pos e1] at hS
    refine EvC.condT rfl e1 ?_
    refine EvC.seq ?_
    refine EvC.region [Item.look 0] (by kernel_rfl) ?_
    refine R.look rfl rfl rfl (Lk.assign rfl rfl) fun _ => ?_
    refine R.nil ?_
    refine EvC.ret ?_
    exact ⟨.inr rfl, _, _, (.cons (.tmp rfl) .nil), ok.le, _, rfl, hS⟩
  · rw [if_neg e1] at hS
    replace e1 := eq_false_of_ne_true e1
    refine EvC.condF rfl e1 ?_
    refine EvC.skip ?_
    refine EvC.seq ?_
    refine EvC.region [Item.look 0, Item.look 1, Item.look 2, Item.look 3, Item.look 4, Item.look 5, Item.look 6] (by kernel_rfl) ?_
    refine R.look rfl rfl rfl (Lk.move rfl rfl) fun _ => ?_
    refine R.look rfl rfl rfl (Lk.move rfl rfl) fun _ => ?_
    refine R.look rfl rfl rfl (Lk.rem (j := 4) rfl rfl rfl (by decide)) fun _ => ?_
    refine R.look rfl rfl rfl (Lk.arith rfl rfl rfl rfl) fun _ => ?_
    refine R.look rfl rfl rfl (Lk.arith rfl rfl rfl rfl) fun _ => ?_
    refine R.look rfl rfl rfl (Lk.rem (j := 4) rfl rfl rfl (by decide)) fun _ => ?_
    refine R.look rfl rfl rfl (Lk.assign rfl rfl) fun _ => ?_
    refine R.nil ?_
    refine EvC.ret ?_
    exact ⟨.inr rfl, _, _, (.cons (.tmp rfl) .nil), ok.le, _, rfl, hS⟩
end Go.Proofs.YtimadnngfhbfiaaDoor
end

section
/- PRINTED by wip/gen.py: the machine's call of slices.Reverse[[]byte,byte] does what S57 says. -/
namespace Go.Proofs.YtimadnngfhbfiaaDoor
open Go Go.Mu
set_option maxHeartbeats 4000000
set_option maxRecDepth 100000
theorem f57_ok {p0 : Sl} {h : H} {K : H → Prop} (hS : S57 p0 h K) : ACall Tryd.prog 57 ([(.slice p0.a p0.l p0.c)] : List Value).toArray h (fun r h' => r = tup [] ∧ K  h') := by
  refine ACall.enter (fn := Tryd.f57) Tryd.func57 rfl (Nat.le_of_ble_eq_true rfl) ?_
  unfold S57 at hS
  have ok := Lok.nil h
  change EvC _ _ _ _ (H.add h []) _
  refine EvC.seq ?_
  refine EvC.region [Item.look 0, Item.look 1, Item.look 2, Item.look 3, Item.look 4] (by kernel_rfl) ?_
  refine R.look rfl rfl rfl (Lk.move rfl rfl) fun _ => ?_
  refine R.look rfl rfl rfl (Lk.len rfl Tryd.underlying24 rfl) fun _ => ?_
  refine R.look rfl rfl rfl (Lk.arith rfl rfl rfl rfl) fun _ => ?_
  refine R.look rfl rfl rfl (Lk.assign rfl rfl) fun _ => ?_
  refine R.look rfl rfl rfl (Lk.assign rfl rfl) fun _ => ?_
  refine R.nil ?_
  refine EvC.block ?_
  refine EvC.loop ?_
  refine LoopC.lfp (σ := Int × Int) (fun s => (Env.put (Env.put (Env.put Env.emp 3 (.int .i64 s.2)) 2 (.int .i64 s.1)) 0 (.slice p0.a p0.l p0.c))) (fun s => []) (fun X hX => ?_) hS (ok.sub List.Sublist.slnil) (Env.le_put rfl (Env.le_put rfl (Env.le_put rfl (Env.le_emp _)))) (H.add_sub ok List.Sublist.slnil)
  rintro ⟨v2, v3⟩ h_1 hS ok
  replace hS : S57_l1 p0 K X v2 v3 h_1 := hS
  change EvC _ _ _ (Env.put (Env.put (Env.put Env.emp 3 (.int .i64 v3)) 2 (.int .i64 v2)) 0 (.slice p0.a p0.l p0.c)) (H.add h_1 []) _
  unfold S57_l1 at hS
  refine EvC.seq ?_
  refine EvC.seq ?_
  refine EvC.region [Item.look 0, Item.look 1, Item.look 2] (by kernel_rfl) ?_
  refine R.look rfl rfl rfl (Lk.move rfl rfl) fun _ => ?_
  refine R.look rfl rfl rfl (Lk.move rfl rfl) fun _ => ?_
  refine R.look rfl rfl rfl (Lk.arith rfl rfl rfl rfl) fun _ => ?_
  refine R.nil ?_
  by_cases e1 : (decide (v2 < v3)) = true
  · rw [if_pos e1] at hS
    refine EvC.condT rfl e1 ?_
    refine EvC.skip ?_
    refine EvC.seq ?_
    refine EvC.block ?_
    refine EvC.draw [0, 0, 0, 0, 0, 0, 48, 112, 0, 0, 768, 1792, 4083, 8179, 16383, 32767] [Item.look 0, Item.look 1, Item.look 2, Item.look 3, Item.look 4, Item.look 5, Item.look 6, Item.look 7, Item.look 8, Item.look 9, Item.look 10, Item.look 11, Item.look 12, Item.eff 13 [2, 3], Item.look 14, Item.eff 15 []] MO (by kernel_rfl) ?_
    refine R.lookL rfl rfl rfl (Lk.move rfl rfl) ?_
    refine R.lookL rfl rfl rfl (Lk.move rfl rfl) ?_
    refine R.lookL rfl rfl rfl (Lk.move rfl rfl) ?_
    refine R.lookL rfl rfl rfl (Lk.move rfl rfl) ?_
    refine R.lookL rfl rfl rfl (Lk.move rfl rfl) ?_
    refine R.lookL rfl rfl rfl (Lk.move rfl rfl) ?_
    obtain ⟨a20, e2, e3, e4, hS⟩ := hS
    refine R.lookL rfl rfl rfl (Lk.ixAddr rfl Tryd.underlying24 T5 rfl e2 rfl e3 e4) ?_
    obtain ⟨v21, e5, hS⟩ := hS
    refine R.lookL rfl rfl rfl (Look.loc ok (Lk.load1 rfl Tryd.underlying5 rfl rfl e5)) ?_
    refine R.lookL rfl rfl rfl (Lk.move rfl rfl) ?_
    refine R.lookL rfl rfl rfl (Lk.move rfl rfl) ?_
    obtain ⟨a24, e6, e7, e8, hS⟩ := hS
    refine R.lookL rfl rfl rfl (Lk.ixAddr rfl Tryd.underlying24 T5 rfl e6 rfl e7 e8) ?_
    obtain ⟨v25, e9, hS⟩ := hS
    refine R.lookL rfl rfl rfl (Look.loc ok (Lk.load1 rfl Tryd.underlying5 rfl rfl e9)) ?_
    obtain ⟨a26, e10, e11, e12, hS⟩ := hS
    refine R.lookL rfl rfl rfl (Lk.ixAddr rfl Tryd.underlying24 T5 rfl e10 rfl e11 e12) ?_
    obtain ⟨h_2, e13, hS⟩ := hS
    refine R.effN rfl rfl rfl (Eff.loc ok (Ef.store rfl T5 rfl rfl rfl rfl rfl e13 fun ok => ⟨(List.forall_mem_cons.2 ⟨(Log.past (by decide) (Log.past (by decide) (Log.past (by decide) (Log.past (by decide) (Log.past (by decide) (Log.past (by decide) (Log.past (by decide) (Log.past (by decide) (Log.past (by decide) (Log.past (by decide) (Log.at_ (LookG.of rfl (Lk.move rfl rfl))))))))))))), (List.forall_mem_cons.2 ⟨(Log.past (by decide) (Log.past (by decide) (Log.past (by decide) (Log.past (by decide) (Log.past (by decide) (Log.past (by decide) (Log.past (by decide) (Log.past (by decide) (Log.past (by decide) (Log.at_ (LookG.of rfl (Lk.move rfl rfl)))))))))))), noChk⟩)⟩), ?_⟩))
    obtain ⟨a27, e14, e15, e16, hS⟩ := hS
    refine R.lookL rfl rfl rfl (Lk.ixAddr rfl Tryd.underlying24 T5 rfl e14 rfl e15 e16) ?_
    obtain ⟨h_3, e17, hS⟩ := hS
    refine R.effN rfl rfl rfl (Eff.loc ok (Ef.store rfl T5 rfl rfl rfl rfl rfl e17 fun ok => ⟨noChk, ?_⟩))
    refine R.nil ?_
    refine EvC.region [Item.look 0, Item.look 1, Item.look 2, Item.look 3, Item.look 4, Item.look 5] (by kernel_rfl) ?_
    refine R.look rfl rfl rfl (Lk.move rfl rfl) fun _ => ?_
    refine R.look rfl rfl rfl (Lk.arith rfl rfl rfl rfl) fun _ => ?_
    refine R.look rfl rfl rfl (Lk.move rfl rfl) fun _ => ?_
    refine R.look rfl rfl rfl (Lk.arith rfl rfl rfl rfl) fun _ => ?_
    refine R.look rfl rfl rfl (Lk.assign rfl rfl) fun _ => ?_
    refine R.look rfl rfl rfl (Lk.assign rfl rfl) fun _ => ?_
    refine R.nil ?_
    exact hX ((IntKind.wrap .i64 (v2 + 1)), (IntKind.wrap .i64 (v3 - 1))) _ _ _ hS (ok.sub List.Sublist.slnil) (Env.le_put rfl (Env.le_put rfl (Env.le_put rfl (Env.le_emp _)))) (H.add_sub ok List.Sublist.slnil)
  · rw [if_neg e1] at hS
    replace e1 := eq_false_of_ne_true e1
    refine EvC.condF rfl e1 ?_
    refine EvC.exit ?_
    exact ⟨.inl rfl, _, _, .nil, ok.le, rfl, hS⟩
end Go.Proofs.YtimadnngfhbfiaaDoor
end

section
/- PRINTED by wip/gen.py: the machine's call of muntin/text.Back does what S22 says. -/
namespace Go.Proofs.YtimadnngfhbfiaaDoor
open Go Go.Mu
set_option maxHeartbeats 4000000
set_option maxRecDepth 100000
theorem f22_ok {p0_0 : Int} {p0_1 : Int} {p0_2 : Int} {p0_3 : ByteArray} {h : H} {K : Int → Int → Int → ByteArray → Int → H → Prop} (hS : S22 p0_0 p0_1 p0_2 p0_3 h K) : ACall Tryd.prog 22 ([(.agg ([(.int .i64 p0_0), (.int .i64 p0_1), (.int .i64 p0_2), (.string p0_3)] : List Value).toArray)] : List Value).toArray h (fun r h' => ∃ r0_0 : Int, ∃ r0_1 : Int, ∃ r0_2 : Int, ∃ r0_3 : ByteArray, ∃ r1 : Int, r = tup [(.agg ([(.int .i64 r0_0), (.int .i64 r0_1), (.int .i64 r0_2), (.string r0_3)] : List Value).toArray), (.int .i64 r1)] ∧ K r0_0 r0_1 r0_2 r0_3 r1 h') := by
  refine ACall.enter (fn := Tryd.f22) Tryd.func22 rfl (Nat.le_of_ble_eq_true rfl) ?_
  unfold S22 at hS
  have ok := Lok.nil h
  change EvC _ _ _ _ (H.add h []) _
  refine EvC.seq ?_
  refine EvC.region [Item.alc 0, Item.alc 1, Item.look 2] (by kernel_rfl) ?_
  refine R.var (blk := .row ⟨[(.int .i64 p0_0), (.int .i64 p0_1), (.int .i64 p0_2), (.string p0_3)], 4, 54, true, true⟩) ok rfl rfl rfl (Ac.box rfl rfl) rfl rfl fun b1 ok => ?_
  refine R.var (blk := .row ⟨[(.int .i64 0), (.int .i64 0), (.int .i64 0), (.string ⟨#[]⟩)], 4, 54, true, true⟩) ok rfl rfl rfl (Ac.alloc rfl T54) rfl rfl fun b2 ok => ?_
  refine R.look rfl rfl rfl (Lk.assign rfl rfl) fun _ => ?_
  refine R.nil ?_
  refine EvC.seq ?_
  refine EvC.join (σ := Bool) (fun s => (Env.put (Env.put (Env.put Env.emp 17 (.bool s)) 2 (.pointer (some ⟨b2, 0, none⟩))) 1 (.pointer (some ⟨b1, 0, none⟩)))) (fun s => [(b2, .row ⟨[(.int .i64 0), (.int .i64 0), (.int .i64 0), (.string ⟨#[]⟩)], 4, 54, true, true⟩), (b1, .row ⟨[(.int .i64 p0_0), (.int .i64 p0_1), (.int .i64 p0_2), (.string p0_3)], 4, 54, true, true⟩)]) (fun s h_1 => S22_j4 p0_0 p0_1 p0_2 p0_3 K s h_1) ?_ (fun Ih_1 hIh_1 => ?_)
  · intro v17 h_1 ok hS
    replace hS : S22_j4 p0_0 p0_1 p0_2 p0_3 K v17 h_1 := hS
    change EvC _ _ _ (Env.put (Env.put (Env.put Env.emp 17 (.bool v17)) 2 (.pointer (some ⟨b2, 0, none⟩))) 1 (.pointer (some ⟨b1, 0, none⟩))) (H.add h_1 [(b2, .row ⟨[(.int .i64 0), (.int .i64 0), (.int .i64 0), (.string ⟨#[]⟩)], 4, 54, true, true⟩), (b1, .row ⟨[(.int .i64 p0_0), (.int .i64 p0_1), (.int .i64 p0_2), (.string p0_3)], 4, 54, true, true⟩)]) _
    unfold S22_j4 at hS
    by_cases e1 : v17 = true
    · rw [if_pos e1] at hS
      refine EvC.condT rfl e1 ?_
      refine EvC.seq ?_
      refine EvC.region [Item.look 0, Item.eff 1 [], Item.look 2] (by kernel_rfl) ?_
      refine R.look rfl rfl rfl (Lk.build (cs := [(.int .i64 0), (.int .i64 0), (.int .i64 0), (.string ⟨#[]⟩)]) (pl := [(0, 1), (1, 1), (2, 1), (3, 1)]) rfl Tryd.underlying54 T54 (PlacesL.places (.cons T3 (.cons T3 (.cons T3 (.cons T9 PlacesL.nil))))) rfl rfl) fun _ => ?_
      refine R.effN rfl rfl rfl (Ef.storeLoc (i := 0) (vs := [(.int .i64 0), (.int .i64 0), (.int .i64 0), (.string ⟨#[]⟩)]) (cs := [(.int .i64 0), (.int .i64 0), (.int .i64 0), (.string ⟨#[]⟩)]) (l' := [(b2, .row ⟨[(.int .i64 0), (.int .i64 0), (.int .i64 0), (.string ⟨#[]⟩)], 4, 54, true, true⟩), (b1, .row ⟨[(.int .i64 p0_0), (.int .i64 p0_1), (.int .i64 p0_2), (.string p0_3)], 4, 54, true, true⟩)]) ok rfl T54 rfl rfl rfl rfl rfl rfl rfl rfl rfl rfl fun ok => ⟨noChk, ?_⟩)
      refine R.look rfl rfl rfl (Lk.assign rfl rfl) fun _ => ?_
      refine R.nil ?_
      refine EvC.ret ?_
      exact ⟨.inr rfl, _, _, (.cons (.cells rfl (fun w => Und.agg Tryd.underlying54 w) (fun w => T54.size_ w) (H.rdn_loc ok (i := 0) rfl rfl rfl)) (.cons (.tmp rfl) .nil)), ok.le, _, _, _, _, _, rfl, hS⟩
    · rw [if_neg e1] at hS
      replace e1 := eq_false_of_ne_true e1
      refine EvC.condF rfl e1 ?_
      refine EvC.skip ?_
      refine EvC.seq ?_
      refine EvC.region [Item.look 0, Item.look 1, Item.look 2] (by kernel_rfl) ?_
      refine R.look (v := (.pointer (some ⟨b1, 2, none⟩))) rfl rfl rfl (Lk.fldAddr rfl Tryd.underlying54 rfl rfl T3 rfl rfl rfl) fun _ => ?_
      refine R.look rfl rfl rfl (Lk.load1 (v := (.int .i64 p0_2)) rfl Tryd.underlying3 rfl rfl (H.rd_loc ok (i := 1) rfl rfl)) fun _ => ?_
      refine R.look rfl rfl rfl (Lk.assign rfl rfl) fun _ => ?_
      refine R.nil ?_
      refine EvC.seq ?_
      refine EvC.region [Item.look 0, Item.look 1, Item.eff 2 [], Item.look 3] (by kernel_rfl) ?_
      refine R.look (v := (.pointer (some ⟨b1, 3, none⟩))) rfl rfl rfl (Lk.fldAddr rfl Tryd.underlying54 rfl rfl T9 rfl rfl rfl) fun _ => ?_
      refine R.look rfl rfl rfl (Lk.load1 (v := (.string p0_3)) rfl Tryd.underlying9 rfl rfl (H.rd_loc ok (i := 1) rfl rfl)) fun _ => ?_
      refine R.eff rfl rfl rfl (Eff.loc ok (Ef.toBytes rfl Tryd.underlying9 Tryd.underlying24 Tryd.underlying5 rfl fun v23 h_2 q => ?_))
      replace hS := hS v23 h_2 q
      refine fun ok => ⟨noChk, ?_⟩
      refine R.look rfl rfl rfl (Lk.assign rfl rfl) fun _ => ?_
      refine R.nil ?_
      refine EvC.join (σ := Int) (fun s => (Env.put (Env.put (Env.put (Env.put Env.emp 5 (.slice v23.a v23.l v23.c)) 4 (.int .i64 s)) 2 (.pointer (some ⟨b2, 0, none⟩))) 1 (.pointer (some ⟨b1, 0, none⟩)))) (fun s => [(b2, .row ⟨[(.int .i64 0), (.int .i64 0), (.int .i64 0), (.string ⟨#[]⟩)], 4, 54, true, true⟩), (b1, .row ⟨[(.int .i64 p0_0), (.int .i64 p0_1), (.int .i64 p0_2), (.string p0_3)], 4, 54, true, true⟩)]) (fun s h_3 => S22_j1 p0_0 p0_1 K v23 s h_3) ?_ (fun Ih_3 hIh_3 => ?_)
      · intro v4 h_3 ok hS
        replace hS : S22_j1 p0_0 p0_1 K v23 v4 h_3 := hS
        change EvC _ _ _ (Env.put (Env.put (Env.put (Env.put Env.emp 5 (.slice v23.a v23.l v23.c)) 4 (.int .i64 v4)) 2 (.pointer (some ⟨b2, 0, none⟩))) 1 (.pointer (some ⟨b1, 0, none⟩))) (H.add h_3 [(b2, .row ⟨[(.int .i64 0), (.int .i64 0), (.int .i64 0), (.string ⟨#[]⟩)], 4, 54, true, true⟩), (b1, .row ⟨[(.int .i64 p0_0), (.int .i64 p0_1), (.int .i64 p0_2), (.string p0_3)], 4, 54, true, true⟩)]) _
        unfold S22_j1 at hS
        refine EvC.seq ?_
        refine EvC.region [Item.look 0, Item.eff 1 []] (by kernel_rfl) ?_
        refine R.look rfl rfl rfl (Lk.move rfl rfl) fun _ => ?_
        refine R.eff rfl rfl rfl (Eff.loc ok (Ef.call rfl CB57 rfl ((f57_ok hS).mono ?_)))
        rintro _ h_4 ⟨rfl, hS⟩
        refine fun ok => ⟨noChk, ?_⟩
        refine R.nil ?_
        refine EvC.seq ?_
        refine EvC.draw [0, 1, 0, 4, 0, 16, 0, 64, 255, 511, 1023] [Item.look 0, Item.look 1, Item.look 2, Item.look 3, Item.look 4, Item.look 6, Item.look 7, Item.eff 5 [0, 1, 2, 3, 6, 7], Item.look 8, Item.eff 9 [], Item.look 10] MO (by kernel_rfl) ?_
        refine R.lookL (v := (.pointer (some ⟨b1, 1, none⟩))) rfl rfl rfl (Lk.fldAddr rfl Tryd.underlying54 rfl rfl T3 rfl rfl rfl) ?_
        refine R.lookL rfl rfl rfl (Lk.load1 (v := (.int .i64 p0_1)) rfl Tryd.underlying3 rfl rfl (H.rd_loc ok (i := 1) rfl rfl)) ?_
        refine R.lookL (v := (.pointer (some ⟨b1, 0, none⟩))) rfl rfl rfl (Lk.fldAddr rfl Tryd.underlying54 rfl rfl T3 rfl rfl rfl) ?_
        refine R.lookL rfl rfl rfl (Lk.load1 (v := (.int .i64 p0_0)) rfl Tryd.underlying3 rfl rfl (H.rd_loc ok (i := 1) rfl rfl)) ?_
        refine R.lookL rfl rfl rfl (Lk.move rfl rfl) ?_
        refine R.lookL rfl rfl rfl (Lk.move rfl rfl) ?_
        obtain ⟨v53, e2, hS⟩ := hS
        refine R.lookL rfl rfl rfl (Look.loc ok (Lk.toStr rfl Tryd.underlying24 Tryd.underlying9 Tryd.underlying5 rfl e2)) ?_
        refine R.eff rfl rfl rfl (Eff.loc ok (Ef.call rfl CB56 rfl ((f56_ok hS).mono ?_)))
        rintro _ h_5 ⟨v51, rfl, hS⟩
        obtain ⟨e3, hS⟩ := hS
        refine fun ok => ⟨(List.forall_mem_cons.2 ⟨(Log.past (by decide) (Log.past (by decide) (Log.past (by decide) (Log.past (by decide) (Log.past (by decide) (Log.past (by decide) (Log.at_ (LookG.of rfl (Lk.fldAddr rfl Tryd.underlying54 rfl rfl T3 rfl rfl rfl))))))))), (List.forall_mem_cons.2 ⟨(Log.past (by decide) (Log.past (by decide) (Log.past (by decide) (Log.past (by decide) (Log.past (by decide) (Log.at_ (LookG.of rfl (Lk.load1 (v := (.int .i64 p0_1)) rfl Tryd.underlying3 rfl rfl (H.rd_loc ok (i := 1) rfl rfl))))))))), (List.forall_mem_cons.2 ⟨(Log.past (by decide) (Log.past (by decide) (Log.past (by decide) (Log.past (by decide) (Log.at_ (LookG.of rfl (Lk.fldAddr rfl Tryd.underlying54 rfl rfl T3 rfl rfl rfl))))))), (List.forall_mem_cons.2 ⟨(Log.past (by decide) (Log.past (by decide) (Log.past (by decide) (Log.at_ (LookG.of rfl (Lk.load1 (v := (.int .i64 p0_0)) rfl Tryd.underlying3 rfl rfl (H.rd_loc ok (i := 1) rfl rfl))))))), (List.forall_mem_cons.2 ⟨(Log.past (by decide) (Log.at_ (LookG.of rfl (Lk.move rfl rfl)))), (List.forall_mem_cons.2 ⟨(Log.at_ (LookG.of rfl (Look.loc ok (Lk.toStr rfl Tryd.underlying24 Tryd.underlying9 Tryd.underlying5 rfl e3)))), noChk⟩)⟩)⟩)⟩)⟩)⟩), ?_⟩
        refine R.lookL rfl rfl rfl (Lk.build (cs := [(.int .i64 p0_1), (.int .i64 p0_0), (.int .i64 v51), (.string v53)]) (pl := [(0, 1), (1, 1), (2, 1), (3, 1)]) rfl Tryd.underlying54 T54 (PlacesL.places (.cons T3 (.cons T3 (.cons T3 (.cons T9 PlacesL.nil))))) rfl rfl) ?_
        refine R.effN rfl rfl rfl (Ef.storeLoc (i := 0) (vs := [(.int .i64 p0_1), (.int .i64 p0_0), (.int .i64 v51), (.string v53)]) (cs := [(.int .i64 p0_1), (.int .i64 p0_0), (.int .i64 v51), (.string v53)]) (l' := [(b2, .row ⟨[(.int .i64 p0_1), (.int .i64 p0_0), (.int .i64 v51), (.string v53)], 4, 54, true, true⟩), (b1, .row ⟨[(.int .i64 p0_0), (.int .i64 p0_1), (.int .i64 p0_2), (.string p0_3)], 4, 54, true, true⟩)]) ok rfl T54 rfl rfl rfl rfl rfl rfl rfl rfl rfl rfl fun ok => ⟨noChk, ?_⟩)
        refine R.lookL rfl rfl rfl (Lk.assign rfl rfl) ?_
        refine R.nil ?_
        refine EvC.ret ?_
        exact ⟨.inr rfl, _, _, (.cons (.cells rfl (fun w => Und.agg Tryd.underlying54 w) (fun w => T54.size_ w) (H.rdn_loc ok (i := 0) rfl rfl rfl)) (.cons (.tmp rfl) .nil)), ok.le, _, _, _, _, _, rfl, hS⟩
      · refine EvC.seq ?_
        refine EvC.region [Item.look 0, Item.look 1, Item.look 2] (by kernel_rfl) ?_
        refine R.look rfl rfl rfl (Lk.move rfl rfl) fun _ => ?_
        refine R.look rfl rfl rfl (Lk.len rfl Tryd.underlying24 rfl) fun _ => ?_
        refine R.look rfl rfl rfl (Lk.move rfl rfl) fun _ => ?_
        refine R.nil ?_
        refine EvC.block ?_
        refine EvC.loop ?_
        refine LoopC.lfp (σ := Int × Int) (fun s => (Env.put (Env.put (Env.put (Env.put (Env.put (Env.put (Env.put Env.emp 26 (.int .i64 s.2)) 25 (.int .i64 (v23.l : Int))) 24 (.slice v23.a v23.l v23.c)) 5 (.slice v23.a v23.l v23.c)) 4 (.int .i64 s.1)) 2 (.pointer (some ⟨b2, 0, none⟩))) 1 (.pointer (some ⟨b1, 0, none⟩)))) (fun s => [(b2, .row ⟨[(.int .i64 0), (.int .i64 0), (.int .i64 0), (.string ⟨#[]⟩)], 4, 54, true, true⟩), (b1, .row ⟨[(.int .i64 p0_0), (.int .i64 p0_1), (.int .i64 p0_2), (.string p0_3)], 4, 54, true, true⟩)]) (fun X hX => ?_) hS (ok.sub (.cons_cons _ (.cons_cons _ List.Sublist.slnil))) (Env.le_put rfl (Env.le_put rfl (Env.le_put rfl (Env.le_put rfl (Env.le_put rfl (Env.le_put rfl (Env.le_put rfl (Env.le_emp _)))))))) (H.add_sub ok (.cons_cons _ (.cons_cons _ List.Sublist.slnil)))
        rintro ⟨v4_1, v26⟩ h_6 hS ok
        replace hS : S22_l3 p0_0 p0_1 K v23 X v4_1 v26 h_6 := hS
        change EvC _ _ _ (Env.put (Env.put (Env.put (Env.put (Env.put (Env.put (Env.put Env.emp 26 (.int .i64 v26)) 25 (.int .i64 (v23.l : Int))) 24 (.slice v23.a v23.l v23.c)) 5 (.slice v23.a v23.l v23.c)) 4 (.int .i64 v4_1)) 2 (.pointer (some ⟨b2, 0, none⟩))) 1 (.pointer (some ⟨b1, 0, none⟩))) (H.add h_6 [(b2, .row ⟨[(.int .i64 0), (.int .i64 0), (.int .i64 0), (.string ⟨#[]⟩)], 4, 54, true, true⟩), (b1, .row ⟨[(.int .i64 p0_0), (.int .i64 p0_1), (.int .i64 p0_2), (.string p0_3)], 4, 54, true, true⟩)]) _
        unfold S22_l3 at hS
        refine EvC.seq ?_
        refine EvC.region [Item.look 0] (by kernel_rfl) ?_
        refine R.look rfl rfl rfl (Lk.arith rfl rfl rfl rfl) fun _ => ?_
        refine R.nil ?_
        refine EvC.seq ?_
        by_cases e4 : (decide (v26 < (v23.l : Int))) = true
        · rw [if_pos e4] at hS
          refine EvC.condT rfl e4 ?_
          refine EvC.skip ?_
          refine EvC.join (σ := Int) (fun s => (Env.put (Env.put (Env.put (Env.put (Env.put (Env.put (Env.put Env.emp 26 (.int .i64 v26)) 25 (.int .i64 (v23.l : Int))) 24 (.slice v23.a v23.l v23.c)) 5 (.slice v23.a v23.l v23.c)) 4 (.int .i64 s)) 2 (.pointer (some ⟨b2, 0, none⟩))) 1 (.pointer (some ⟨b1, 0, none⟩)))) (fun s => [(b2, .row ⟨[(.int .i64 0), (.int .i64 0), (.int .i64 0), (.string ⟨#[]⟩)], 4, 54, true, true⟩), (b1, .row ⟨[(.int .i64 p0_0), (.int .i64 p0_1), (.int .i64 p0_2), (.string p0_3)], 4, 54, true, true⟩)]) (fun s h_7 => S22_j2 v26 X s h_7) ?_ (fun Ih_7 hIh_7 => ?_)
          · intro v4_2 h_7 ok hS
            replace hS : S22_j2 v26 X v4_2 h_7 := hS
            change EvC _ _ _ (Env.put (Env.put (Env.put (Env.put (Env.put (Env.put (Env.put Env.emp 26 (.int .i64 v26)) 25 (.int .i64 (v23.l : Int))) 24 (.slice v23.a v23.l v23.c)) 5 (.slice v23.a v23.l v23.c)) 4 (.int .i64 v4_2)) 2 (.pointer (some ⟨b2, 0, none⟩))) 1 (.pointer (some ⟨b1, 0, none⟩))) (H.add h_7 [(b2, .row ⟨[(.int .i64 0), (.int .i64 0), (.int .i64 0), (.string ⟨#[]⟩)], 4, 54, true, true⟩), (b1, .row ⟨[(.int .i64 p0_0), (.int .i64 p0_1), (.int .i64 p0_2), (.string p0_3)], 4, 54, true, true⟩)]) _
            unfold S22_j2 at hS
            refine EvC.region [Item.look 0, Item.look 1] (by kernel_rfl) ?_
            refine R.look rfl rfl rfl (Lk.arith rfl rfl rfl rfl) fun _ => ?_
            refine R.look rfl rfl rfl (Lk.move rfl rfl) fun _ => ?_
            refine R.nil ?_
            exact hX (v4_2, (IntKind.wrap .i64 (v26 + 1))) _ _ _ hS (ok.sub (.cons_cons _ (.cons_cons _ List.Sublist.slnil))) (Env.le_put rfl (Env.le_put rfl (Env.le_put rfl (Env.le_put rfl (Env.le_put rfl (Env.le_put rfl (Env.le_put rfl (Env.le_emp _)))))))) (H.add_sub ok (.cons_cons _ (.cons_cons _ List.Sublist.slnil)))
          · refine EvC.block ?_
            refine EvC.seq ?_
            refine EvC.region [Item.look 0, Item.look 1, Item.look 2, Item.look 3, Item.look 4] (by kernel_rfl) ?_
            refine R.look rfl rfl rfl (Lk.move rfl rfl) fun _ => ?_
            obtain ⟨a29, e5, e6, e7, hS⟩ := hS
            refine R.look rfl rfl rfl (Lk.ixAddr rfl Tryd.underlying24 T5 rfl e5 rfl e6 e7) fun _ => ?_
            obtain ⟨v30, e8, hS⟩ := hS
            refine R.look rfl rfl rfl (Look.loc ok (Lk.load1 rfl Tryd.underlying5 rfl rfl e8)) fun _ => ?_
            refine R.look rfl rfl rfl (Lk.assign rfl rfl) fun _ => ?_
            refine R.look rfl rfl rfl (Lk.assign rfl rfl) fun _ => ?_
            refine R.nil ?_
            refine EvC.seq ?_
            refine EvC.region [Item.look 0, Item.look 1] (by kernel_rfl) ?_
            refine R.look rfl rfl rfl (Lk.move rfl rfl) fun _ => ?_
            refine R.look rfl rfl rfl (Lk.arith rfl rfl rfl rfl) fun _ => ?_
            refine R.nil ?_
            by_cases e9 : (v30 == 76) = true
            · rw [if_pos e9] at hS
              refine EvC.condT rfl e9 ?_
              refine EvC.region [Item.look 0, Item.look 1, Item.look 2, Item.eff 3 [], Item.look 4, Item.look 5, Item.eff 6 []] (by kernel_rfl) ?_
              refine R.look rfl rfl rfl (Lk.move rfl rfl) fun _ => ?_
              refine R.look rfl rfl rfl (Lk.move rfl rfl) fun _ => ?_
              refine R.look rfl rfl rfl (Lk.move rfl rfl) fun _ => ?_
              refine R.eff rfl rfl rfl (Eff.loc ok (Ef.call rfl CB56 rfl ((f56_ok hS).mono ?_)))
              rintro _ h_8 ⟨v36, rfl, hS⟩
              refine fun ok => ⟨noChk, ?_⟩
              refine R.look rfl rfl rfl (Lk.assign rfl rfl) fun _ => ?_
              obtain ⟨a37, e10, e11, e12, hS⟩ := hS
              refine R.look rfl rfl rfl (Lk.ixAddr rfl Tryd.underlying24 T5 rfl e10 rfl e11 e12) fun _ => ?_
              obtain ⟨h_9, e13, hS⟩ := hS
              refine R.effN rfl rfl rfl (Eff.loc ok (Ef.store rfl T5 rfl rfl rfl rfl rfl e13 fun ok => ⟨noChk, ?_⟩))
              refine R.nil ?_
              exact hIh_7 v36 _ _ _ (Env.le_put rfl (Env.le_put rfl (Env.le_put rfl (Env.le_put rfl (Env.le_put rfl (Env.le_put rfl (Env.le_put rfl (Env.le_emp _)))))))) (ok.sub (.cons_cons _ (.cons_cons _ List.Sublist.slnil))) (H.add_sub ok (.cons_cons _ (.cons_cons _ List.Sublist.slnil))) hS
            · rw [if_neg e9] at hS
              replace e9 := eq_false_of_ne_true e9
              refine EvC.condF rfl e9 ?_
              refine EvC.region [Item.look 0, Item.look 1, Item.look 2, Item.eff 3 [], Item.look 4, Item.look 5, Item.eff 6 []] (by kernel_rfl) ?_
              refine R.look rfl rfl rfl (Lk.move rfl rfl) fun _ => ?_
              refine R.look rfl rfl rfl (Lk.move rfl rfl) fun _ => ?_
              refine R.look rfl rfl rfl (Lk.move rfl rfl) fun _ => ?_
              refine R.eff rfl rfl rfl (Eff.loc ok (Ef.call rfl CB56 rfl ((f56_ok hS).mono ?_)))
              rintro _ h_10 ⟨v41, rfl, hS⟩
              refine fun ok => ⟨noChk, ?_⟩
              refine R.look rfl rfl rfl (Lk.assign rfl rfl) fun _ => ?_
              obtain ⟨a42, e14, e15, e16, hS⟩ := hS
              refine R.look rfl rfl rfl (Lk.ixAddr rfl Tryd.underlying24 T5 rfl e14 rfl e15 e16) fun _ => ?_
              obtain ⟨h_11, e17, hS⟩ := hS
              refine R.effN rfl rfl rfl (Eff.loc ok (Ef.store rfl T5 rfl rfl rfl rfl rfl e17 fun ok => ⟨noChk, ?_⟩))
              refine R.nil ?_
              exact hIh_7 v41 _ _ _ (Env.le_put rfl (Env.le_put rfl (Env.le_put rfl (Env.le_put rfl (Env.le_put rfl (Env.le_put rfl (Env.le_put rfl (Env.le_emp _)))))))) (ok.sub (.cons_cons _ (.cons_cons _ List.Sublist.slnil))) (H.add_sub ok (.cons_cons _ (.cons_cons _ List.Sublist.slnil))) hS
        · rw [if_neg e4] at hS
          replace e4 := eq_false_of_ne_true e4
          refine EvC.condF rfl e4 ?_
          refine EvC.exit ?_
          exact hIh_3 v4_1 _ _ _ (Env.le_put rfl (Env.le_put rfl (Env.le_put rfl (Env.le_put rfl (Env.le_emp _))))) (ok.sub (.cons_cons _ (.cons_cons _ List.Sublist.slnil))) (H.add_sub ok (.cons_cons _ (.cons_cons _ List.Sublist.slnil))) hS
  · refine EvC.region [Item.look 0, Item.look 1, Item.eff 2 [], Item.look 3, Item.look 4, Item.look 5, Item.look 6, Item.eff 7 [], Item.look 8, Item.look 9] (by kernel_rfl) ?_
    refine R.look (v := (.pointer (some ⟨b1, 2, none⟩))) rfl rfl rfl (Lk.fldAddr rfl Tryd.underlying54 rfl rfl T3 rfl rfl rfl) fun _ => ?_
    refine R.look rfl rfl rfl (Lk.load1 (v := (.int .i64 p0_2)) rfl Tryd.underlying3 rfl rfl (H.rd_loc ok (i := 1) rfl rfl)) fun _ => ?_
    refine R.eff rfl rfl rfl (Eff.loc ok (Ef.call rfl CB54 rfl ((f54_ok hS).mono ?_)))
    rintro _ h_12 ⟨v10, rfl, hS⟩
    refine fun ok => ⟨noChk, ?_⟩
    refine R.look rfl rfl rfl (Lk.not rfl rfl) fun _ => ?_
    refine R.look rfl rfl rfl (Lk.move rfl rfl) fun _ => ?_
    by_cases e18 : (!v10) = true
    · rw [if_pos e18] at hS
      refine R.lookF rfl rfl rfl rfl e18 rfl fun _ => ?_
      refine R.lookF rfl rfl rfl rfl e18 rfl fun _ => ?_
      refine R.effF rfl rfl rfl rfl e18 rfl ?_
      refine R.lookF rfl rfl rfl rfl e18 rfl fun _ => ?_
      refine R.look rfl rfl rfl (Lk.pick rfl rfl (fun _ => rfl) (fun e => by rw [e18] at e; cases e)) fun _ => ?_
      refine R.nil ?_
      exact hIh_1 true _ _ _ (Env.le_put rfl (Env.le_put rfl (Env.le_put rfl (Env.le_emp _)))) (ok.sub (.cons_cons _ (.cons_cons _ List.Sublist.slnil))) (H.add_sub ok (.cons_cons _ (.cons_cons _ List.Sublist.slnil))) hS
    · rw [if_neg e18] at hS
      replace e18 := eq_false_of_ne_true e18
      refine R.lookT (v := (.pointer (some ⟨b1, 3, none⟩))) rfl rfl rfl rfl e18 rfl (Lk.fldAddr rfl Tryd.underlying54 rfl rfl T9 rfl rfl rfl) fun _ => ?_
      refine R.lookT rfl rfl rfl rfl e18 rfl (Lk.load1 (v := (.string p0_3)) rfl Tryd.underlying9 rfl rfl (H.rd_loc ok (i := 1) rfl rfl)) fun _ => ?_
      refine R.effT rfl rfl rfl rfl e18 rfl (Eff.loc ok (Ef.call rfl CB55 rfl ((f55_ok hS).mono ?_)))
      rintro _ h_13 ⟨v15, rfl, hS⟩
      refine fun ok => ⟨noChk, ?_⟩
      refine R.lookT rfl rfl rfl rfl e18 rfl (Lk.strNe rfl rfl rfl) fun _ => ?_
      refine R.look rfl rfl rfl (Lk.pick rfl rfl (fun e => by rw [e18] at e; cases e) (fun _ => rfl)) fun _ => ?_
      refine R.nil ?_
      exact hIh_1 (!(ByteArray.toList v15 == ByteArray.toList ⟨#[]⟩)) _ _ _ (Env.le_put rfl (Env.le_put rfl (Env.le_put rfl (Env.le_emp _)))) (ok.sub (.cons_cons _ (.cons_cons _ List.Sublist.slnil))) (H.add_sub ok (.cons_cons _ (.cons_cons _ List.Sublist.slnil))) hS
end Go.Proofs.YtimadnngfhbfiaaDoor
end

section
/- PRINTED by wip/gen.py: the machine's call of unicode/utf8.decodeRuneInStringSlow does what S107 says. -/
namespace Go.Proofs.YtimadnngfhbfiaaDoor
open Go Go.Mu
set_option maxHeartbeats 4000000
set_option maxRecDepth 100000
theorem f107_ok {p0 : ByteArray} {h : H} {K : Int → Int → H → Prop} (hS : S107 p0 h K) : ACall Tryd.prog 107 ([(.string p0)] : List Value).toArray h (fun r h' => ∃ r0 : Int, ∃ r1 : Int, r = tup [(.int .i32 r0), (.int .i64 r1)] ∧ K r0 r1 h') := by
  refine ACall.enter (fn := Tryd.f107) Tryd.func107 rfl (Nat.le_of_ble_eq_true rfl) ?_
  unfold S107 at hS
  have ok := Lok.nil h
  change EvC _ _ _ _ (H.add h []) _
  refine EvC.seq ?_
  refine EvC.region [Item.look 0, Item.look 1] (by kernel_rfl) ?_
  refine R.look rfl rfl rfl (Lk.assign rfl rfl) fun _ => ?_
  refine R.look rfl rfl rfl (Lk.assign rfl rfl) fun _ => ?_
  refine R.nil ?_
  refine EvC.seq ?_
  refine EvC.region [Item.look 0, Item.look 1, Item.look 2] (by kernel_rfl) ?_
  refine R.look rfl rfl rfl (Lk.move rfl rfl) fun _ => ?_
  refine R.look rfl rfl rfl (Lk.lenS rfl Tryd.underlying9 rfl) fun _ => ?_
  refine R.look rfl rfl rfl (Lk.assign rfl rfl) fun _ => ?_
  refine R.nil ?_
  refine EvC.seq ?_
  refine EvC.seq ?_
  refine EvC.region [Item.look 0, Item.look 1] (by kernel_rfl) ?_
  refine R.look rfl rfl rfl (Lk.move rfl rfl) fun _ => ?_
  refine R.look rfl rfl rfl (Lk.arith rfl rfl rfl rfl) fun _ => ?_
  refine R.nil ?_
  by_cases e1 : (decide ((ByteArray.size p0 : Int) < 1)) = true
  · rw [if_pos e1] at hS
    refine EvC.condT rfl e1 ?_
    refine EvC.seq ?_
    refine EvC.region [Item.look 0, Item.look 1] (by kernel_rfl) ?_
    refine R.look rfl rfl rfl (Lk.assign rfl rfl) fun _ => ?_
    refine R.look rfl rfl rfl (Lk.assign rfl rfl) fun _ => ?_
    refine R.nil ?_
    refine EvC.ret ?_
    exact ⟨.inr rfl, _, _, (.cons (.tmp rfl) (.cons (.tmp rfl) .nil)), ok.le, _, _, rfl, hS⟩
  · rw [if_neg e1] at hS
    replace e1 := eq_false_of_ne_true e1
    refine EvC.condF rfl e1 ?_
    refine EvC.skip ?_
    refine EvC.seq ?_
    refine EvC.region [Item.look 0, Item.look 1, Item.look 2] (by kernel_rfl) ?_
    refine R.look rfl rfl rfl (Lk.move rfl rfl) fun _ => ?_
    obtain ⟨e2, e3, hS⟩ := hS
    refine R.look rfl rfl rfl (Lk.byte rfl Tryd.underlying9 rfl rfl e2 e3) fun _ => ?_
    refine R.look rfl rfl rfl (Lk.assign rfl rfl) fun _ => ?_
    refine R.nil ?_
    refine EvC.seq ?_
    refine EvC.region [Item.look 0, Item.look 1, Item.look 2, Item.look 3] (by kernel_rfl) ?_
    refine R.look rfl rfl rfl (Lk.move rfl rfl) fun _ => ?_
    exact hS.elim
end Go.Proofs.YtimadnngfhbfiaaDoor
end

section
/- PRINTED by wip/gen.py: the machine's call of unicode/utf8.DecodeRuneInString does what S99 says. -/
namespace Go.Proofs.YtimadnngfhbfiaaDoor
open Go Go.Mu
set_option maxHeartbeats 4000000
set_option maxRecDepth 100000
theorem f99_ok {p0 : ByteArray} {h : H} {K : Int → Int → H → Prop} (hS : S99 p0 h K) : ACall Tryd.prog 99 ([(.string p0)] : List Value).toArray h (fun r h' => ∃ r0 : Int, ∃ r1 : Int, r = tup [(.int .i32 r0), (.int .i64 r1)] ∧ K r0 r1 h') := by
  refine ACall.enter (fn := Tryd.f99) Tryd.func99 rfl (Nat.le_of_ble_eq_true rfl) ?_
  unfold S99 at hS
  have ok := Lok.nil h
  change EvC _ _ _ _ (H.add h []) _
  refine EvC.seq ?_
  refine EvC.region [Item.look 0, Item.look 1] (by kernel_rfl) ?_
  refine R.look rfl rfl rfl (Lk.assign rfl rfl) fun _ => ?_
  refine R.look rfl rfl rfl (Lk.assign rfl rfl) fun _ => ?_
  refine R.nil ?_
  refine EvC.seq ?_
  refine EvC.join (σ := Bool) (fun s => (Env.put (Env.put Env.emp 10 (.bool s)) 0 (.string p0))) (fun s => []) (fun s h_1 => S99_j1 p0 K s h_1) ?_ (fun Ih_1 hIh_1 => ?_)
  · intro v10 h_1 ok hS
    replace hS : S99_j1 p0 K v10 h_1 := hS
    change EvC _ _ _ (Env.put (Env.put Env.emp 10 (.bool v10)) 0 (.string p0)) (H.add h_1 []) _
    unfold S99_j1 at hS
    by_cases e1 : v10 = true
    · rw [if_pos e1] at hS
      refine EvC.condT rfl e1 ?_
      refine EvC.seq ?_
      refine EvC.region [Item.look 0, Item.look 1, Item.look 2, Item.look 3, Item.look 4] (by kernel_rfl) ?_
      refine R.look rfl rfl rfl (Lk.move rfl rfl) fun _ => ?_
      obtain ⟨e2, e3, hS⟩ := hS
      refine R.look rfl rfl rfl (Lk.byte rfl Tryd.underlying9 rfl rfl e2 e3) fun _ => ?_
      refine R.look rfl rfl rfl (Lk.conv rfl Tryd.underlying5 Tryd.underlying21 rfl) fun _ => ?_
      refine R.look rfl rfl rfl (Lk.assign rfl rfl) fun _ => ?_
      refine R.look rfl rfl rfl (Lk.assign rfl rfl) fun _ => ?_
      refine R.nil ?_
      refine EvC.ret ?_
      exact ⟨.inr rfl, _, _, (.cons (.tmp rfl) (.cons (.tmp rfl) .nil)), ok.le, _, _, rfl, hS⟩
    · rw [if_neg e1] at hS
      replace e1 := eq_false_of_ne_true e1
      refine EvC.condF rfl e1 ?_
      refine EvC.region [Item.look 0, Item.eff 1 [], Item.look 2, Item.look 3, Item.look 4, Item.look 5, Item.look 6] (by kernel_rfl) ?_
      refine R.look rfl rfl rfl (Lk.move rfl rfl) fun _ => ?_
      refine R.eff rfl rfl rfl (Eff.loc ok (Ef.call rfl CB107 rfl ((f107_ok hS).mono ?_)))
      rintro _ h_2 ⟨v16_0, v16_1, rfl, hS⟩
      refine fun ok => ⟨noChk, ?_⟩
      refine R.look rfl rfl rfl (Lk.move rfl rfl) fun _ => ?_
      refine R.look rfl rfl rfl (Lk.extract rfl rfl rfl) fun _ => ?_
      refine R.look rfl rfl rfl (Lk.extract rfl rfl rfl) fun _ => ?_
      refine R.look rfl rfl rfl (Lk.assign rfl rfl) fun _ => ?_
      refine R.look rfl rfl rfl (Lk.assign rfl rfl) fun _ => ?_
      refine R.nil ?_
      refine EvC.ret ?_
      exact ⟨.inr rfl, _, _, (.cons (.tmp rfl) (.cons (.tmp rfl) .nil)), ok.le, _, _, rfl, hS⟩
  · refine EvC.region [Item.look 0, Item.look 1, Item.look 2, Item.look 3, Item.look 4, Item.look 5, Item.look 6] (by kernel_rfl) ?_
    refine R.look rfl rfl rfl (Lk.move rfl rfl) fun _ => ?_
    refine R.look rfl rfl rfl (Lk.strNe rfl rfl rfl) fun _ => ?_
    refine R.look rfl rfl rfl (Lk.move rfl rfl) fun _ => ?_
    by_cases e4 : (!(ByteArray.toList p0 == ByteArray.toList ⟨#[]⟩)) = true
    · rw [if_pos e4] at hS
      refine R.lookT rfl rfl rfl rfl e4 rfl (Lk.move rfl rfl) fun _ => ?_
      obtain ⟨e5, e6, hS⟩ := hS
      refine R.lookT rfl rfl rfl rfl e4 rfl (Lk.byte rfl Tryd.underlying9 rfl rfl e5 e6) fun _ => ?_
      refine R.lookT rfl rfl rfl rfl e4 rfl (Lk.arith rfl rfl rfl rfl) fun _ => ?_
      refine R.look rfl rfl rfl (Lk.pick rfl rfl (fun _ => rfl) (fun e => by rw [e4] at e; cases e)) fun _ => ?_
      refine R.nil ?_
      exact hIh_1 (decide ((byteAt p0 0) < 128)) _ _ _ (Env.le_put rfl (Env.le_put rfl (Env.le_emp _))) (ok.sub List.Sublist.slnil) (H.add_sub ok List.Sublist.slnil) hS
    · rw [if_neg e4] at hS
      replace e4 := eq_false_of_ne_true e4
      refine R.lookF rfl rfl rfl rfl e4 rfl fun _ => ?_
      refine R.lookF rfl rfl rfl rfl e4 rfl fun _ => ?_
      refine R.lookF rfl rfl rfl rfl e4 rfl fun _ => ?_
      refine R.look rfl rfl rfl (Lk.pick rfl rfl (fun e => by rw [e4] at e; cases e) (fun _ => rfl)) fun _ => ?_
      refine R.nil ?_
      exact hIh_1 false _ _ _ (Env.le_put rfl (Env.le_put rfl (Env.le_emp _))) (ok.sub List.Sublist.slnil) (H.add_sub ok List.Sublist.slnil) hS
end Go.Proofs.YtimadnngfhbfiaaDoor
end

section
/- PRINTED by wip/gen.py: the machine's call of unicode/utf8.RuneStart does what S109 says. -/
namespace Go.Proofs.YtimadnngfhbfiaaDoor
open Go Go.Mu
set_option maxHeartbeats 4000000
set_option maxRecDepth 100000
theorem f109_ok {p0 : Int} {h : H} {K : Bool → H → Prop} (hS : S109 p0 h K) : ACall Tryd.prog 109 ([(.int .u8 p0)] : List Value).toArray h (fun r h' => ∃ r0 : Bool, r = tup [(.bool r0)] ∧ K r0 h') := by
  refine ACall.enter (fn := Tryd.f109) Tryd.func109 rfl (Nat.le_of_ble_eq_true rfl) ?_
  unfold S109 at hS
  have ok := Lok.nil h
  change EvC _ _ _ _ (H.add h []) _
  refine EvC.seq ?_
  refine EvC.region [Item.look 0] (by kernel_rfl) ?_
  refine R.look rfl rfl rfl (Lk.assign rfl rfl) fun _ => ?_
  refine R.nil ?_
  refine EvC.seq ?_
  refine EvC.region [Item.look 0, Item.look 1, Item.look 2, Item.look 3] (by kernel_rfl) ?_
  refine R.look rfl rfl rfl (Lk.move rfl rfl) fun _ => ?_
  refine R.look rfl rfl rfl (Lk.arith rfl rfl rfl rfl) fun _ => ?_
  refine R.look rfl rfl rfl (Lk.arith rfl rfl rfl rfl) fun _ => ?_
  refine R.look rfl rfl rfl (Lk.assign rfl rfl) fun _ => ?_
  refine R.nil ?_
  refine EvC.ret ?_
  exact ⟨.inr rfl, _, _, (.cons (.tmp rfl) .nil), ok.le, _, rfl, hS⟩
end Go.Proofs.YtimadnngfhbfiaaDoor
end

section
/- PRINTED by wip/gen.py: the machine's call of unicode/utf8.DecodeLastRuneInString does what S101 says. -/
namespace Go.Proofs.YtimadnngfhbfiaaDoor
open Go Go.Mu
set_option maxHeartbeats 4000000
set_option maxRecDepth 100000
theorem f101_ok {p0 : ByteArray} {h : H} {K : Int → Int → H → Prop} (hS : S101 p0 h K) : ACall Tryd.prog 101 ([(.string p0)] : List Value).toArray h (fun r h' => ∃ r0 : Int, ∃ r1 : Int, r = tup [(.int .i32 r0), (.int .i64 r1)] ∧ K r0 r1 h') := by
  refine ACall.enter (fn := Tryd.f101) Tryd.func101 rfl (Nat.le_of_ble_eq_true rfl) ?_
  unfold S101 at hS
  have ok := Lok.nil h
  change EvC _ _ _ _ (H.add h []) _
  refine EvC.seq ?_
  refine EvC.region [Item.look 0, Item.look 1] (by kernel_rfl) ?_
  refine R.look rfl rfl rfl (Lk.assign rfl rfl) fun _ => ?_
  refine R.look rfl rfl rfl (Lk.assign rfl rfl) fun _ => ?_
  refine R.nil ?_
  refine EvC.seq ?_
  refine EvC.region [Item.look 0, Item.look 1, Item.look 2] (by kernel_rfl) ?_
  refine R.look rfl rfl rfl (Lk.move rfl rfl) fun _ => ?_
  refine R.look rfl rfl rfl (Lk.lenS rfl Tryd.underlying9 rfl) fun _ => ?_
  refine R.look rfl rfl rfl (Lk.assign rfl rfl) fun _ => ?_
  refine R.nil ?_
  refine EvC.seq ?_
  refine EvC.seq ?_
  refine EvC.region [Item.look 0, Item.look 1] (by kernel_rfl) ?_
  refine R.look rfl rfl rfl (Lk.move rfl rfl) fun _ => ?_
  refine R.look rfl rfl rfl (Lk.arith rfl rfl rfl rfl) fun _ => ?_
  refine R.nil ?_
  by_cases e1 : ((ByteArray.size p0 : Int) == 0) = true
  · rw [if_pos e1] at hS
    refine EvC.condT rfl e1 ?_
    refine EvC.seq ?_
    refine EvC.region [Item.look 0, Item.look 1] (by kernel_rfl) ?_
    refine R.look rfl rfl rfl (Lk.assign rfl rfl) fun _ => ?_
    refine R.look rfl rfl rfl (Lk.assign rfl rfl) fun _ => ?_
    refine R.nil ?_
    refine EvC.ret ?_
    exact ⟨.inr rfl, _, _, (.cons (.tmp rfl) (.cons (.tmp rfl) .nil)), ok.le, _, _, rfl, hS⟩
  · rw [if_neg e1] at hS
    replace e1 := eq_false_of_ne_true e1
    refine EvC.condF rfl e1 ?_
    refine EvC.skip ?_
    refine EvC.seq ?_
    refine EvC.region [Item.look 0, Item.look 1, Item.look 2] (by kernel_rfl) ?_
    refine R.look rfl rfl rfl (Lk.move rfl rfl) fun _ => ?_
    refine R.look rfl rfl rfl (Lk.arith rfl rfl rfl rfl) fun _ => ?_
    refine R.look rfl rfl rfl (Lk.assign rfl rfl) fun _ => ?_
    refine R.nil ?_
    refine EvC.seq ?_
    refine EvC.region [Item.look 0, Item.look 1, Item.look 2, Item.look 3, Item.look 4] (by kernel_rfl) ?_
    refine R.look rfl rfl rfl (Lk.move rfl rfl) fun _ => ?_
    refine R.look rfl rfl rfl (Lk.move rfl rfl) fun _ => ?_
    obtain ⟨e2, e3, hS⟩ := hS
    refine R.look rfl rfl rfl (Lk.byte rfl Tryd.underlying9 rfl rfl e2 e3) fun _ => ?_
    refine R.look rfl rfl rfl (Lk.conv rfl Tryd.underlying5 Tryd.underlying21 rfl) fun _ => ?_
    refine R.look rfl rfl rfl (Lk.assign rfl rfl) fun _ => ?_
    refine R.nil ?_
    refine EvC.seq ?_
    refine EvC.seq ?_
    refine EvC.region [Item.look 0, Item.look 1] (by kernel_rfl) ?_
    refine R.look rfl rfl rfl (Lk.move rfl rfl) fun _ => ?_
    refine R.look rfl rfl rfl (Lk.arith rfl rfl rfl rfl) fun _ => ?_
    refine R.nil ?_
    by_cases e4 : (decide ((IntKind.wrap .i32 (byteAt p0 (IntKind.wrap .i64 ((ByteArray.size p0 : Int) - 1)))) < 128)) = true
    · rw [if_pos e4] at hS
      refine EvC.condT rfl e4 ?_
      refine EvC.seq ?_
      refine EvC.region [Item.look 0, Item.look 1, Item.look 2] (by kernel_rfl) ?_
      refine R.look rfl rfl rfl (Lk.move rfl rfl) fun _ => ?_
      refine R.look rfl rfl rfl (Lk.assign rfl rfl) fun _ => ?_
      refine R.look rfl rfl rfl (Lk.assign rfl rfl) fun _ => ?_
      refine R.nil ?_
      refine EvC.ret ?_
      exact ⟨.inr rfl, _, _, (.cons (.tmp rfl) (.cons (.tmp rfl) .nil)), ok.le, _, _, rfl, hS⟩
    · rw [if_neg e4] at hS
      replace e4 := eq_false_of_ne_true e4
      refine EvC.condF rfl e4 ?_
      refine EvC.skip ?_
      refine EvC.seq ?_
      refine EvC.region [Item.look 0, Item.look 1, Item.look 2, Item.look 3] (by kernel_rfl) ?_
      refine R.look rfl rfl rfl (Lk.move rfl rfl) fun _ => ?_
      refine R.look rfl rfl rfl (Lk.arith rfl rfl rfl rfl) fun _ => ?_
      refine R.look rfl rfl rfl (Lk.max2 rfl rfl rfl) fun _ => ?_
      refine R.look rfl rfl rfl (Lk.assign rfl rfl) fun _ => ?_
      refine R.nil ?_
      refine EvC.join (σ := Int) (fun s => (Env.put (Env.put (Env.put Env.emp 5 (.int .i64 s)) 4 (.int .i64 (ByteArray.size p0 : Int))) 0 (.string p0))) (fun s => []) (fun s h_1 => S101_j2 p0 K s h_1) ?_ (fun Ih_1 hIh_1 => ?_)
      · intro v5 h_1 ok hS
        replace hS : S101_j2 p0 K v5 h_1 := hS
        change EvC _ _ _ (Env.put (Env.put (Env.put Env.emp 5 (.int .i64 v5)) 4 (.int .i64 (ByteArray.size p0 : Int))) 0 (.string p0)) (H.add h_1 []) _
        unfold S101_j2 at hS
        refine EvC.join (σ := Int) (fun s => (Env.put (Env.put (Env.put Env.emp 5 (.int .i64 s)) 4 (.int .i64 (ByteArray.size p0 : Int))) 0 (.string p0))) (fun s => []) (fun s h_2 => S101_j1 p0 K s h_2) ?_ (fun Ih_2 hIh_2 => ?_)
        · intro v5_1 h_2 ok hS
          replace hS : S101_j1 p0 K v5_1 h_2 := hS
          change EvC _ _ _ (Env.put (Env.put (Env.put Env.emp 5 (.int .i64 v5_1)) 4 (.int .i64 (ByteArray.size p0 : Int))) 0 (.string p0)) (H.add h_2 []) _
          unfold S101_j1 at hS
          refine EvC.seq ?_
          refine EvC.region [Item.look 0, Item.look 1, Item.look 2, Item.look 3, Item.eff 4 [], Item.look 5, Item.look 6, Item.look 7, Item.look 8, Item.look 9] (by kernel_rfl) ?_
          refine R.look rfl rfl rfl (Lk.move rfl rfl) fun _ => ?_
          refine R.look rfl rfl rfl (Lk.move rfl rfl) fun _ => ?_
          refine R.look rfl rfl rfl (Lk.move rfl rfl) fun _ => ?_
          obtain ⟨e5, e6, e7, hS⟩ := hS
          refine R.look rfl rfl rfl (Lk.subStr rfl Tryd.underlying9 rfl rfl rfl e5 e6 e7) fun _ => ?_
          refine R.eff rfl rfl rfl (Eff.loc ok (Ef.call rfl CB99 rfl ((f99_ok hS).mono ?_)))
          rintro _ h_3 ⟨v41_0, v41_1, rfl, hS⟩
          refine fun ok => ⟨noChk, ?_⟩
          refine R.look rfl rfl rfl (Lk.move rfl rfl) fun _ => ?_
          refine R.look rfl rfl rfl (Lk.extract rfl rfl rfl) fun _ => ?_
          refine R.look rfl rfl rfl (Lk.extract rfl rfl rfl) fun _ => ?_
          refine R.look rfl rfl rfl (Lk.assign rfl rfl) fun _ => ?_
          refine R.look rfl rfl rfl (Lk.assign rfl rfl) fun _ => ?_
          refine R.nil ?_
          refine EvC.seq ?_
          refine EvC.seq ?_
          refine EvC.region [Item.look 0, Item.look 1, Item.look 2, Item.look 3, Item.look 4] (by kernel_rfl) ?_
          refine R.look rfl rfl rfl (Lk.move rfl rfl) fun _ => ?_
          refine R.look rfl rfl rfl (Lk.move rfl rfl) fun _ => ?_
          refine R.look rfl rfl rfl (Lk.arith rfl rfl rfl rfl) fun _ => ?_
          refine R.look rfl rfl rfl (Lk.move rfl rfl) fun _ => ?_
          refine R.look rfl rfl rfl (Lk.arith rfl rfl rfl rfl) fun _ => ?_
          refine R.nil ?_
          by_cases e8 : ((IntKind.wrap .i64 (v5_1 + v41_1)) != (ByteArray.size p0 : Int)) = true
          · rw [if_pos e8] at hS
            refine EvC.condT rfl e8 ?_
            refine EvC.seq ?_
            refine EvC.region [Item.look 0, Item.look 1] (by kernel_rfl) ?_
            refine R.look rfl rfl rfl (Lk.assign rfl rfl) fun _ => ?_
            refine R.look rfl rfl rfl (Lk.assign rfl rfl) fun _ => ?_
            refine R.nil ?_
            refine EvC.ret ?_
            exact ⟨.inr rfl, _, _, (.cons (.tmp rfl) (.cons (.tmp rfl) .nil)), ok.le, _, _, rfl, hS⟩
          · rw [if_neg e8] at hS
            replace e8 := eq_false_of_ne_true e8
            refine EvC.condF rfl e8 ?_
            refine EvC.skip ?_
            refine EvC.seq ?_
            refine EvC.region [Item.look 0, Item.look 1, Item.look 2, Item.look 3] (by kernel_rfl) ?_
            refine R.look rfl rfl rfl (Lk.move rfl rfl) fun _ => ?_
            refine R.look rfl rfl rfl (Lk.move rfl rfl) fun _ => ?_
            refine R.look rfl rfl rfl (Lk.assign rfl rfl) fun _ => ?_
            refine R.look rfl rfl rfl (Lk.assign rfl rfl) fun _ => ?_
            refine R.nil ?_
            refine EvC.ret ?_
            exact ⟨.inr rfl, _, _, (.cons (.tmp rfl) (.cons (.tmp rfl) .nil)), ok.le, _, _, rfl, hS⟩
        · refine EvC.seq ?_
          refine EvC.region [Item.look 0, Item.look 1] (by kernel_rfl) ?_
          refine R.look rfl rfl rfl (Lk.move rfl rfl) fun _ => ?_
          refine R.look rfl rfl rfl (Lk.arith rfl rfl rfl rfl) fun _ => ?_
          refine R.nil ?_
          by_cases e9 : (decide (v5 < 0)) = true
          · rw [if_pos e9] at hS
            refine EvC.condT rfl e9 ?_
            refine EvC.region [Item.look 0] (by kernel_rfl) ?_
            refine R.look rfl rfl rfl (Lk.assign rfl rfl) fun _ => ?_
            refine R.nil ?_
            exact hIh_2 0 _ _ _ (Env.le_put rfl (Env.le_put rfl (Env.le_put rfl (Env.le_emp _)))) (ok.sub List.Sublist.slnil) (H.add_sub ok List.Sublist.slnil) hS
          · rw [if_neg e9] at hS
            replace e9 := eq_false_of_ne_true e9
            refine EvC.condF rfl e9 ?_
            refine EvC.skip ?_
            exact hIh_2 v5 _ _ _ (Env.le_put rfl (Env.le_put rfl (Env.le_put rfl (Env.le_emp _)))) (ok.sub List.Sublist.slnil) (H.add_sub ok List.Sublist.slnil) hS
      · refine EvC.seq ?_
        refine EvC.region [Item.look 0, Item.look 1, Item.look 2] (by kernel_rfl) ?_
        refine R.look rfl rfl rfl (Lk.move rfl rfl) fun _ => ?_
        refine R.look rfl rfl rfl (Lk.arith rfl rfl rfl rfl) fun _ => ?_
        refine R.look rfl rfl rfl (Lk.assign rfl rfl) fun _ => ?_
        refine R.nil ?_
        refine EvC.block ?_
        refine EvC.loop ?_
        refine LoopC.lfp (σ := Int) (fun s => (Env.put (Env.put (Env.put (Env.put Env.emp 6 (.int .i64 (if 0 > (IntKind.wrap .i64 ((ByteArray.size p0 : Int) - 4)) then 0 else (IntKind.wrap .i64 ((ByteArray.size p0 : Int) - 4))))) 5 (.int .i64 s)) 4 (.int .i64 (ByteArray.size p0 : Int))) 0 (.string p0))) (fun s => []) (fun X hX => ?_) hS (ok.sub List.Sublist.slnil) (Env.le_put rfl (Env.le_put rfl (Env.le_put rfl (Env.le_put rfl (Env.le_emp _))))) (H.add_sub ok List.Sublist.slnil)
        intro v5_2 h_4 hS ok
        replace hS : S101_l3 p0 K X v5_2 h_4 := hS
        change EvC _ _ _ (Env.put (Env.put (Env.put (Env.put Env.emp 6 (.int .i64 (if 0 > (IntKind.wrap .i64 ((ByteArray.size p0 : Int) - 4)) then 0 else (IntKind.wrap .i64 ((ByteArray.size p0 : Int) - 4))))) 5 (.int .i64 v5_2)) 4 (.int .i64 (ByteArray.size p0 : Int))) 0 (.string p0)) (H.add h_4 []) _
        unfold S101_l3 at hS
        refine EvC.seq ?_
        refine EvC.seq ?_
        refine EvC.region [Item.look 0, Item.look 1, Item.look 2] (by kernel_rfl) ?_
        refine R.look rfl rfl rfl (Lk.move rfl rfl) fun _ => ?_
        refine R.look rfl rfl rfl (Lk.move rfl rfl) fun _ => ?_
        refine R.look rfl rfl rfl (Lk.arith rfl rfl rfl rfl) fun _ => ?_
        refine R.nil ?_
        by_cases e10 : (decide (v5_2 ≥ (if 0 > (IntKind.wrap .i64 ((ByteArray.size p0 : Int) - 4)) then 0 else (IntKind.wrap .i64 ((ByteArray.size p0 : Int) - 4))))) = true
        · rw [if_pos e10] at hS
          refine EvC.condT rfl e10 ?_
          refine EvC.skip ?_
          refine EvC.seq ?_
          refine EvC.block ?_
          refine EvC.seq ?_
          refine EvC.region [Item.look 0, Item.look 1, Item.look 2, Item.eff 3 []] (by kernel_rfl) ?_
          refine R.look rfl rfl rfl (Lk.move rfl rfl) fun _ => ?_
          refine R.look rfl rfl rfl (Lk.move rfl rfl) fun _ => ?_
          obtain ⟨e11, e12, hS⟩ := hS
          refine R.look rfl rfl rfl (Lk.byte rfl Tryd.underlying9 rfl rfl e11 e12) fun _ => ?_
          refine R.eff rfl rfl rfl (Eff.loc ok (Ef.call rfl CB109 rfl ((f109_ok hS).mono ?_)))
          rintro _ h_5 ⟨v33, rfl, hS⟩
          refine fun ok => ⟨noChk, ?_⟩
          refine R.nil ?_
          by_cases e13 : v33 = true
          · rw [if_pos e13] at hS
            refine EvC.condT rfl e13 ?_
            refine EvC.exit ?_
            exact hIh_1 v5_2 _ _ _ (Env.le_put rfl (Env.le_put rfl (Env.le_put rfl (Env.le_emp _)))) (ok.sub List.Sublist.slnil) (H.add_sub ok List.Sublist.slnil) hS
          · rw [if_neg e13] at hS
            replace e13 := eq_false_of_ne_true e13
            refine EvC.condF rfl e13 ?_
            refine EvC.skip ?_
            refine EvC.region [Item.look 0, Item.look 1, Item.look 2] (by kernel_rfl) ?_
            refine R.look rfl rfl rfl (Lk.move rfl rfl) fun _ => ?_
            refine R.look rfl rfl rfl (Lk.arith rfl rfl rfl rfl) fun _ => ?_
            refine R.look rfl rfl rfl (Lk.assign rfl rfl) fun _ => ?_
            refine R.nil ?_
            exact hX (IntKind.wrap .i64 (v5_2 - 1)) _ _ _ hS (ok.sub List.Sublist.slnil) (Env.le_put rfl (Env.le_put rfl (Env.le_put rfl (Env.le_put rfl (Env.le_emp _))))) (H.add_sub ok List.Sublist.slnil)
        · rw [if_neg e10] at hS
          replace e10 := eq_false_of_ne_true e10
          refine EvC.condF rfl e10 ?_
          refine EvC.exit ?_
          exact hIh_1 v5_2 _ _ _ (Env.le_put rfl (Env.le_put rfl (Env.le_put rfl (Env.le_emp _)))) (ok.sub List.Sublist.slnil) (H.add_sub ok List.Sublist.slnil) hS
end Go.Proofs.YtimadnngfhbfiaaDoor
end

section
/- PRINTED by wip/gen.py: the machine's call of muntin/parse.cutRight does what S92 says. -/
namespace Go.Proofs.YtimadnngfhbfiaaDoor
open Go Go.Mu
set_option maxHeartbeats 4000000
set_option maxRecDepth 100000
theorem f92_ok {p0 : ByteArray} {p1 : ByteArray} {h : H} {K : ByteArray → H → Prop} (hS : S92 p0 p1 h K) : ACall Tryd.prog 92 ([(.string p0), (.string p1)] : List Value).toArray h (fun r h' => ∃ r0 : ByteArray, r = tup [(.string r0)] ∧ K r0 h') := by
  refine ACall.enter (fn := Tryd.f92) Tryd.func92 rfl (Nat.le_of_ble_eq_true rfl) ?_
  unfold S92 at hS
  have ok := Lok.nil h
  change EvC _ _ _ _ (H.add h []) _
  refine EvC.seq ?_
  refine EvC.region [Item.look 0] (by kernel_rfl) ?_
  refine R.look rfl rfl rfl (Lk.assign rfl rfl) fun _ => ?_
  refine R.nil ?_
  refine EvC.join (σ := ByteArray) (fun s => (Env.put Env.emp 0 (.string s))) (fun s => []) (fun s h_1 => S92_j1 K s h_1) ?_ (fun Ih_1 hIh_1 => ?_)
  · intro v0 h_1 ok hS
    replace hS : S92_j1 K v0 h_1 := hS
    change EvC _ _ _ (Env.put Env.emp 0 (.string v0)) (H.add h_1 []) _
    unfold S92_j1 at hS
    refine EvC.seq ?_
    refine EvC.region [Item.look 0, Item.look 1] (by kernel_rfl) ?_
    refine R.look rfl rfl rfl (Lk.move rfl rfl) fun _ => ?_
    refine R.look rfl rfl rfl (Lk.assign rfl rfl) fun _ => ?_
    refine R.nil ?_
    refine EvC.ret ?_
    exact ⟨.inr rfl, _, _, (.cons (.tmp rfl) .nil), ok.le, _, rfl, hS⟩
  · refine EvC.block ?_
    refine EvC.loop ?_
    refine LoopC.lfp (σ := ByteArray) (fun s => (Env.put (Env.put Env.emp 1 (.string p1)) 0 (.string s))) (fun s => []) (fun X hX => ?_) hS (ok.sub List.Sublist.slnil) (Env.le_put rfl (Env.le_put rfl (Env.le_emp _))) (H.add_sub ok List.Sublist.slnil)
    intro v0_1 h_2 hS ok
    replace hS : S92_l4 p1 K X v0_1 h_2 := hS
    change EvC _ _ _ (Env.put (Env.put Env.emp 1 (.string p1)) 0 (.string v0_1)) (H.add h_2 []) _
    unfold S92_l4 at hS
    refine EvC.seq ?_
    refine EvC.seq ?_
    refine EvC.region [Item.look 0, Item.look 1, Item.look 2] (by kernel_rfl) ?_
    refine R.look rfl rfl rfl (Lk.move rfl rfl) fun _ => ?_
    refine R.look rfl rfl rfl (Lk.lenS rfl Tryd.underlying9 rfl) fun _ => ?_
    refine R.look rfl rfl rfl (Lk.arith rfl rfl rfl rfl) fun _ => ?_
    refine R.nil ?_
    by_cases e1 : (decide ((ByteArray.size v0_1 : Int) > 0)) = true
    · rw [if_pos e1] at hS
      refine EvC.condT rfl e1 ?_
      refine EvC.skip ?_
      refine EvC.block ?_
      refine EvC.seq ?_
      refine EvC.region [Item.look 0, Item.eff 1 [], Item.look 2, Item.look 3, Item.look 4, Item.look 5, Item.look 6] (by kernel_rfl) ?_
      refine R.look rfl rfl rfl (Lk.move rfl rfl) fun _ => ?_
      refine R.eff rfl rfl rfl (Eff.loc ok (Ef.call rfl CB101 rfl ((f101_ok hS).mono ?_)))
      rintro _ h_3 ⟨v15_0, v15_1, rfl, hS⟩
      refine fun ok => ⟨noChk, ?_⟩
      refine R.look rfl rfl rfl (Lk.move rfl rfl) fun _ => ?_
      refine R.look rfl rfl rfl (Lk.extract rfl rfl rfl) fun _ => ?_
      refine R.look rfl rfl rfl (Lk.extract rfl rfl rfl) fun _ => ?_
      refine R.look rfl rfl rfl (Lk.assign rfl rfl) fun _ => ?_
      refine R.look rfl rfl rfl (Lk.assign rfl rfl) fun _ => ?_
      refine R.nil ?_
      refine EvC.seq ?_
      refine EvC.region [Item.look 0] (by kernel_rfl) ?_
      refine R.look rfl rfl rfl (Lk.assign rfl rfl) fun _ => ?_
      refine R.nil ?_
      refine EvC.join (σ := Bool) (fun s => (Env.put (Env.put (Env.put (Env.put Env.emp 7 (.bool s)) 6 (.int .i64 v15_1)) 1 (.string p1)) 0 (.string v0_1))) (fun s => []) (fun s h_4 => S92_j2 K v0_1 X v15_1 s h_4) ?_ (fun Ih_4 hIh_4 => ?_)
      · intro v7 h_4 ok hS
        replace hS : S92_j2 K v0_1 X v15_1 v7 h_4 := hS
        change EvC _ _ _ (Env.put (Env.put (Env.put (Env.put Env.emp 7 (.bool v7)) 6 (.int .i64 v15_1)) 1 (.string p1)) 0 (.string v0_1)) (H.add h_4 []) _
        unfold S92_j2 at hS
        refine EvC.seq ?_
        refine EvC.seq ?_
        refine EvC.region [Item.look 0, Item.look 1] (by kernel_rfl) ?_
        refine R.look rfl rfl rfl (Lk.move rfl rfl) fun _ => ?_
        refine R.look rfl rfl rfl (Lk.not rfl rfl) fun _ => ?_
        refine R.nil ?_
        by_cases e2 : (!v7) = true
        · rw [if_pos e2] at hS
          refine EvC.condT rfl e2 ?_
          refine EvC.seq ?_
          refine EvC.region [Item.look 0, Item.look 1] (by kernel_rfl) ?_
          refine R.look rfl rfl rfl (Lk.move rfl rfl) fun _ => ?_
          refine R.look rfl rfl rfl (Lk.assign rfl rfl) fun _ => ?_
          refine R.nil ?_
          refine EvC.ret ?_
          exact ⟨.inr rfl, _, _, (.cons (.tmp rfl) .nil), ok.le, _, rfl, hS⟩
        · rw [if_neg e2] at hS
          replace e2 := eq_false_of_ne_true e2
          refine EvC.condF rfl e2 ?_
          refine EvC.skip ?_
          refine EvC.region [Item.look 0, Item.look 1, Item.look 2, Item.look 3, Item.look 4, Item.look 5, Item.look 6] (by kernel_rfl) ?_
          refine R.look rfl rfl rfl (Lk.move rfl rfl) fun _ => ?_
          refine R.look rfl rfl rfl (Lk.move rfl rfl) fun _ => ?_
          refine R.look rfl rfl rfl (Lk.lenS rfl Tryd.underlying9 rfl) fun _ => ?_
          refine R.look rfl rfl rfl (Lk.move rfl rfl) fun _ => ?_
          refine R.look rfl rfl rfl (Lk.arith rfl rfl rfl rfl) fun _ => ?_
          obtain ⟨e3, e4, hS⟩ := hS
          refine R.look rfl rfl rfl (Lk.subStrTo rfl Tryd.underlying9 rfl rfl e3 e4) fun _ => ?_
          refine R.look rfl rfl rfl (Lk.assign rfl rfl) fun _ => ?_
          refine R.nil ?_
          exact hX (ByteArray.extract v0_1 0 (Int.toNat (IntKind.wrap .i64 ((ByteArray.size v0_1 : Int) - v15_1)))) _ _ _ hS (ok.sub List.Sublist.slnil) (Env.le_put rfl (Env.le_put rfl (Env.le_emp _))) (H.add_sub ok List.Sublist.slnil)
      · refine EvC.seq ?_
        refine EvC.region [Item.look 0, Item.alc 1] (by kernel_rfl) ?_
        refine R.look rfl rfl rfl (Lk.move rfl rfl) fun _ => ?_
        refine R.var (blk := .obj (.stringIter p1 0)) ok rfl rfl rfl (Ac.range rfl Tryd.underlying9 rfl) trivial rfl fun b19 ok => ?_
        refine R.nil ?_
        refine EvC.block ?_
        refine EvC.loop ?_
        refine LoopC.lfp (σ := Bool × Nat) (fun s => (Env.put (Env.put (Env.put (Env.put (Env.put (Env.put Env.emp 19 (.pointer (some ⟨b19, 0, none⟩))) 7 (.bool s.1)) 6 (.int .i64 v15_1)) 5 (.int .i32 v15_0)) 1 (.string p1)) 0 (.string v0_1))) (fun s => [(b19, .obj (.stringIter p1 s.2))]) (fun X_1 hX_1 => ?_) hS (ok.sub (.cons_cons _ List.Sublist.slnil)) (Env.le_put rfl (Env.le_put rfl (Env.le_put rfl (Env.le_put rfl (Env.le_put rfl (Env.le_put rfl (Env.le_emp _))))))) (H.add_sub ok (.cons_cons _ List.Sublist.slnil))
        rintro ⟨v7_1, c19_1⟩ h_5 hS ok
        replace hS : S92_l3 p1 K v0_1 X v15_0 v15_1 X_1 v7_1 c19_1 h_5 := hS
        change EvC _ _ _ (Env.put (Env.put (Env.put (Env.put (Env.put (Env.put Env.emp 19 (.pointer (some ⟨b19, 0, none⟩))) 7 (.bool v7_1)) 6 (.int .i64 v15_1)) 5 (.int .i32 v15_0)) 1 (.string p1)) 0 (.string v0_1)) (H.add h_5 [(b19, .obj (.stringIter p1 c19_1))]) _
        unfold S92_l3 at hS
        refine EvC.seq ?_
        refine EvC.region [Item.eff 0 [], Item.look 1] (by kernel_rfl) ?_
        by_cases e5 : c19_1 < ByteArray.size p1
        · rw [if_pos e5] at hS
          refine R.eff rfl rfl rfl (Ef.nextLoc (i := 0) (l' := [(b19, .obj (.stringIter p1 (c19_1 + (Utf8.decode p1 c19_1).2)))]) ok rfl rfl rfl e5 rfl fun ok => ⟨noChk, ?_⟩)
          refine R.look rfl rfl rfl (Lk.extract rfl rfl rfl) fun _ => ?_
          refine R.nil ?_
          refine EvC.seq ?_
          refine EvC.condT rfl rfl ?_
          refine EvC.skip ?_
          refine EvC.block ?_
          refine EvC.seq ?_
          refine EvC.region [Item.look 0, Item.look 1] (by kernel_rfl) ?_
          refine R.look rfl rfl rfl (Lk.extract rfl rfl rfl) fun _ => ?_
          refine R.look rfl rfl rfl (Lk.assign rfl rfl) fun _ => ?_
          refine R.nil ?_
          refine EvC.region [Item.look 0, Item.look 1, Item.look 2, Item.look 3, Item.look 4, Item.look 5, Item.look 6] (by kernel_rfl) ?_
          refine R.look rfl rfl rfl (Lk.move rfl rfl) fun _ => ?_
          refine R.look rfl rfl rfl (Lk.move rfl rfl) fun _ => ?_
          by_cases e6 : v7_1 = true
          · refine R.lookF rfl rfl rfl rfl e6 rfl fun _ => ?_
            refine R.lookF rfl rfl rfl rfl e6 rfl fun _ => ?_
            refine R.lookF rfl rfl rfl rfl e6 rfl fun _ => ?_
            refine R.look rfl rfl rfl (Lk.pick rfl rfl (fun _ => rfl) (fun e => by rw [e6] at e; cases e)) fun _ => ?_
            refine R.look rfl rfl rfl (Lk.assign rfl rfl) fun _ => ?_
            refine R.nil ?_
            exact hX_1 ((v7_1 || (v15_0 == ((Utf8.decode p1 c19_1).1 : Int))), (c19_1 + (Utf8.decode p1 c19_1).2)) _ _ _ hS (ok.sub (.cons_cons _ List.Sublist.slnil)) (Env.le_put rfl (Env.le_put rfl (Env.le_put rfl (Env.le_put rfl (Env.le_put (by rw [e6]; rfl) (Env.le_put rfl (Env.le_emp _))))))) (H.add_sub ok (.cons_cons _ List.Sublist.slnil))
          · replace e6 := eq_false_of_ne_true e6
            refine R.lookT rfl rfl rfl rfl e6 rfl (Lk.move rfl rfl) fun _ => ?_
            refine R.lookT rfl rfl rfl rfl e6 rfl (Lk.move rfl rfl) fun _ => ?_
            refine R.lookT rfl rfl rfl rfl e6 rfl (Lk.arith rfl rfl rfl rfl) fun _ => ?_
            refine R.look rfl rfl rfl (Lk.pick rfl rfl (fun e => by rw [e6] at e; cases e) (fun _ => rfl)) fun _ => ?_
            refine R.look rfl rfl rfl (Lk.assign rfl rfl) fun _ => ?_
            refine R.nil ?_
            exact hX_1 ((v7_1 || (v15_0 == ((Utf8.decode p1 c19_1).1 : Int))), (c19_1 + (Utf8.decode p1 c19_1).2)) _ _ _ hS (ok.sub (.cons_cons _ List.Sublist.slnil)) (Env.le_put rfl (Env.le_put rfl (Env.le_put rfl (Env.le_put rfl (Env.le_put (by rw [e6]; rfl) (Env.le_put rfl (Env.le_emp _))))))) (H.add_sub ok (.cons_cons _ List.Sublist.slnil))
        · rw [if_neg e5] at hS
          refine R.eff rfl rfl rfl (Ef.nextEnd (i := 0) ok rfl rfl rfl e5 ⟨noChk, ?_⟩)
          refine R.look rfl rfl rfl (Lk.extract rfl rfl rfl) fun _ => ?_
          refine R.nil ?_
          refine EvC.seq ?_
          refine EvC.condF rfl rfl ?_
          refine EvC.exit ?_
          exact hIh_4 v7_1 _ _ _ (Env.le_put rfl (Env.le_put rfl (Env.le_put rfl (Env.le_put rfl (Env.le_emp _))))) (ok.sub (.cons _ List.Sublist.slnil)) (H.add_sub ok (.cons _ List.Sublist.slnil)) hS
    · rw [if_neg e1] at hS
      replace e1 := eq_false_of_ne_true e1
      refine EvC.condF rfl e1 ?_
      refine EvC.exit ?_
      exact hIh_1 v0_1 _ _ _ (Env.le_put rfl (Env.le_emp _)) (ok.sub List.Sublist.slnil) (H.add_sub ok List.Sublist.slnil) hS
end Go.Proofs.YtimadnngfhbfiaaDoor
end

section
/- PRINTED by wip/gen.py: the machine's call of muntin/parse.cutLeft does what S93 says. -/
namespace Go.Proofs.YtimadnngfhbfiaaDoor
open Go Go.Mu
set_option maxHeartbeats 4000000
set_option maxRecDepth 100000
theorem f93_ok {p0 : ByteArray} {p1 : ByteArray} {h : H} {K : ByteArray → H → Prop} (hS : S93 p0 p1 h K) : ACall Tryd.prog 93 ([(.string p0), (.string p1)] : List Value).toArray h (fun r h' => ∃ r0 : ByteArray, r = tup [(.string r0)] ∧ K r0 h') := by
  refine ACall.enter (fn := Tryd.f93) Tryd.func93 rfl (Nat.le_of_ble_eq_true rfl) ?_
  unfold S93 at hS
  have ok := Lok.nil h
  change EvC _ _ _ _ (H.add h []) _
  refine EvC.seq ?_
  refine EvC.region [Item.look 0] (by kernel_rfl) ?_
  refine R.look rfl rfl rfl (Lk.assign rfl rfl) fun _ => ?_
  refine R.nil ?_
  refine EvC.join (σ := Unit) (fun s => Env.emp) (fun s => []) (fun s h_1 => S93_j1 K h_1) ?_ (fun Ih_1 hIh_1 => ?_)
  · rintro ⟨⟩ h_1 ok hS
    replace hS : S93_j1 K h_1 := hS
    change EvC _ _ _ Env.emp (H.add h_1 []) _
    unfold S93_j1 at hS
    refine EvC.seq ?_
    refine EvC.region [Item.look 0] (by kernel_rfl) ?_
    refine R.look rfl rfl rfl (Lk.assign rfl rfl) fun _ => ?_
    refine R.nil ?_
    refine EvC.ret ?_
    exact ⟨.inr rfl, _, _, (.cons (.tmp rfl) .nil), ok.le, _, rfl, hS⟩
  · refine EvC.seq ?_
    refine EvC.region [Item.look 0, Item.alc 1] (by kernel_rfl) ?_
    refine R.look rfl rfl rfl (Lk.move rfl rfl) fun _ => ?_
    refine R.var (blk := .obj (.stringIter p0 0)) ok rfl rfl rfl (Ac.range rfl Tryd.underlying9 rfl) trivial rfl fun b11 ok => ?_
    refine R.nil ?_
    refine EvC.block ?_
    refine EvC.loop ?_
    refine LoopC.lfp (σ := Nat) (fun s => (Env.put (Env.put (Env.put Env.emp 11 (.pointer (some ⟨b11, 0, none⟩))) 1 (.string p1)) 0 (.string p0))) (fun s => [(b11, .obj (.stringIter p0 s))]) (fun X hX => ?_) hS (ok.sub (.cons_cons _ List.Sublist.slnil)) (Env.le_put rfl (Env.le_put rfl (Env.le_put rfl (Env.le_emp _)))) (H.add_sub ok (.cons_cons _ List.Sublist.slnil))
    intro c11_1 h_2 hS ok
    replace hS : S93_l4 p0 p1 K X c11_1 h_2 := hS
    change EvC _ _ _ (Env.put (Env.put (Env.put Env.emp 11 (.pointer (some ⟨b11, 0, none⟩))) 1 (.string p1)) 0 (.string p0)) (H.add h_2 [(b11, .obj (.stringIter p0 c11_1))]) _
    unfold S93_l4 at hS
    refine EvC.seq ?_
    refine EvC.region [Item.eff 0 [], Item.look 1] (by kernel_rfl) ?_
    by_cases e1 : c11_1 < ByteArray.size p0
    · rw [if_pos e1] at hS
      refine R.eff rfl rfl rfl (Ef.nextLoc (i := 0) (l' := [(b11, .obj (.stringIter p0 (c11_1 + (Utf8.decode p0 c11_1).2)))]) ok rfl rfl rfl e1 rfl fun ok => ⟨noChk, ?_⟩)
      refine R.look rfl rfl rfl (Lk.extract rfl rfl rfl) fun _ => ?_
      refine R.nil ?_
      refine EvC.seq ?_
      refine EvC.condT rfl rfl ?_
      refine EvC.skip ?_
      refine EvC.block ?_
      refine EvC.seq ?_
      refine EvC.region [Item.look 0, Item.look 1, Item.look 2, Item.look 3] (by kernel_rfl) ?_
      refine R.look rfl rfl rfl (Lk.extract rfl rfl rfl) fun _ => ?_
      refine R.look rfl rfl rfl (Lk.extract rfl rfl rfl) fun _ => ?_
      refine R.look rfl rfl rfl (Lk.assign rfl rfl) fun _ => ?_
      refine R.look rfl rfl rfl (Lk.assign rfl rfl) fun _ => ?_
      refine R.nil ?_
      refine EvC.seq ?_
      refine EvC.region [Item.look 0] (by kernel_rfl) ?_
      refine R.look rfl rfl rfl (Lk.assign rfl rfl) fun _ => ?_
      refine R.nil ?_
      refine EvC.join (σ := Bool) (fun s => (Env.put (Env.put (Env.put (Env.put (Env.put Env.emp 11 (.pointer (some ⟨b11, 0, none⟩))) 7 (.bool s)) 5 (.int .i64 (c11_1 : Int))) 1 (.string p1)) 0 (.string p0))) (fun s => [(b11, .obj (.stringIter p0 (c11_1 + (Utf8.decode p0 c11_1).2)))]) (fun s h_3 => S93_j2 p0 K c11_1 X s h_3) ?_ (fun Ih_3 hIh_3 => ?_)
      · intro v7 h_3 ok hS
        replace hS : S93_j2 p0 K c11_1 X v7 h_3 := hS
        change EvC _ _ _ (Env.put (Env.put (Env.put (Env.put (Env.put Env.emp 11 (.pointer (some ⟨b11, 0, none⟩))) 7 (.bool v7)) 5 (.int .i64 (c11_1 : Int))) 1 (.string p1)) 0 (.string p0)) (H.add h_3 [(b11, .obj (.stringIter p0 (c11_1 + (Utf8.decode p0 c11_1).2)))]) _
        unfold S93_j2 at hS
        refine EvC.seq ?_
        refine EvC.region [Item.look 0, Item.look 1] (by kernel_rfl) ?_
        refine R.look rfl rfl rfl (Lk.move rfl rfl) fun _ => ?_
        refine R.look rfl rfl rfl (Lk.not rfl rfl) fun _ => ?_
        refine R.nil ?_
        by_cases e2 : (!v7) = true
        · rw [if_pos e2] at hS
          refine EvC.condT rfl e2 ?_
          refine EvC.seq ?_
          refine EvC.region [Item.look 0, Item.look 1, Item.look 2, Item.look 3] (by kernel_rfl) ?_
          refine R.look rfl rfl rfl (Lk.move rfl rfl) fun _ => ?_
          refine R.look rfl rfl rfl (Lk.move rfl rfl) fun _ => ?_
          obtain ⟨e3, e4, hS⟩ := hS
          refine R.look rfl rfl rfl (Lk.subStrFrom rfl Tryd.underlying9 rfl rfl e3 e4) fun _ => ?_
          refine R.look rfl rfl rfl (Lk.assign rfl rfl) fun _ => ?_
          refine R.nil ?_
          refine EvC.ret ?_
          exact ⟨.inr rfl, _, _, (.cons (.tmp rfl) .nil), ok.le, _, rfl, hS⟩
        · rw [if_neg e2] at hS
          replace e2 := eq_false_of_ne_true e2
          refine EvC.condF rfl e2 ?_
          refine EvC.skip ?_
          exact hX (c11_1 + (Utf8.decode p0 c11_1).2) _ _ _ hS (ok.sub (.cons_cons _ List.Sublist.slnil)) (Env.le_put rfl (Env.le_put rfl (Env.le_put rfl (Env.le_emp _)))) (H.add_sub ok (.cons_cons _ List.Sublist.slnil))
      · refine EvC.seq ?_
        refine EvC.region [Item.look 0, Item.alc 1] (by kernel_rfl) ?_
        refine R.look rfl rfl rfl (Lk.move rfl rfl) fun _ => ?_
        refine R.var (blk := .obj (.stringIter p1 0)) ok rfl rfl rfl (Ac.range rfl Tryd.underlying9 rfl) trivial rfl fun b17 ok => ?_
        refine R.nil ?_
        refine EvC.block ?_
        refine EvC.loop ?_
        refine LoopC.lfp (σ := Bool × Nat) (fun s => (Env.put (Env.put (Env.put (Env.put (Env.put (Env.put (Env.put Env.emp 17 (.pointer (some ⟨b17, 0, none⟩))) 11 (.pointer (some ⟨b11, 0, none⟩))) 7 (.bool s.1)) 6 (.int .i32 ((Utf8.decode p0 c11_1).1 : Int))) 5 (.int .i64 (c11_1 : Int))) 1 (.string p1)) 0 (.string p0))) (fun s => [(b17, .obj (.stringIter p1 s.2)), (b11, .obj (.stringIter p0 (c11_1 + (Utf8.decode p0 c11_1).2)))]) (fun X_1 hX_1 => ?_) hS (ok.sub (.cons_cons _ (.cons_cons _ List.Sublist.slnil))) (Env.le_put rfl (Env.le_put rfl (Env.le_put rfl (Env.le_put rfl (Env.le_put rfl (Env.le_put rfl (Env.le_put rfl (Env.le_emp _)))))))) (H.add_sub ok (.cons_cons _ (.cons_cons _ List.Sublist.slnil)))
        rintro ⟨v7_1, c17_1⟩ h_4 hS ok
        replace hS : S93_l3 p0 p1 K c11_1 X X_1 v7_1 c17_1 h_4 := hS
        change EvC _ _ _ (Env.put (Env.put (Env.put (Env.put (Env.put (Env.put (Env.put Env.emp 17 (.pointer (some ⟨b17, 0, none⟩))) 11 (.pointer (some ⟨b11, 0, none⟩))) 7 (.bool v7_1)) 6 (.int .i32 ((Utf8.decode p0 c11_1).1 : Int))) 5 (.int .i64 (c11_1 : Int))) 1 (.string p1)) 0 (.string p0)) (H.add h_4 [(b17, .obj (.stringIter p1 c17_1)), (b11, .obj (.stringIter p0 (c11_1 + (Utf8.decode p0 c11_1).2)))]) _
        unfold S93_l3 at hS
        refine EvC.seq ?_
        refine EvC.region [Item.eff 0 [], Item.look 1] (by kernel_rfl) ?_
        by_cases e5 : c17_1 < ByteArray.size p1
        · rw [if_pos e5] at hS
          refine R.eff rfl rfl rfl (Ef.nextLoc (i := 0) (l' := [(b17, .obj (.stringIter p1 (c17_1 + (Utf8.decode p1 c17_1).2))), (b11, .obj (.stringIter p0 (c11_1 + (Utf8.decode p0 c11_1).2)))]) ok rfl rfl rfl e5 rfl fun ok => ⟨noChk, ?_⟩)
          refine R.look rfl rfl rfl (Lk.extract rfl rfl rfl) fun _ => ?_
          refine R.nil ?_
          refine EvC.seq ?_
          refine EvC.condT rfl rfl ?_
          refine EvC.skip ?_
          refine EvC.block ?_
          refine EvC.seq ?_
          refine EvC.region [Item.look 0, Item.look 1] (by kernel_rfl) ?_
          refine R.look rfl rfl rfl (Lk.extract rfl rfl rfl) fun _ => ?_
          refine R.look rfl rfl rfl (Lk.assign rfl rfl) fun _ => ?_
          refine R.nil ?_
          refine EvC.region [Item.look 0, Item.look 1, Item.look 2, Item.look 3, Item.look 4, Item.look 5, Item.look 6] (by kernel_rfl) ?_
          refine R.look rfl rfl rfl (Lk.move rfl rfl) fun _ => ?_
          refine R.look rfl rfl rfl (Lk.move rfl rfl) fun _ => ?_
          by_cases e6 : v7_1 = true
          · refine R.lookF rfl rfl rfl rfl e6 rfl fun _ => ?_
            refine R.lookF rfl rfl rfl rfl e6 rfl fun _ => ?_
            refine R.lookF rfl rfl rfl rfl e6 rfl fun _ => ?_
            refine R.look rfl rfl rfl (Lk.pick rfl rfl (fun _ => rfl) (fun e => by rw [e6] at e; cases e)) fun _ => ?_
            refine R.look rfl rfl rfl (Lk.assign rfl rfl) fun _ => ?_
            refine R.nil ?_
            exact hX_1 ((v7_1 || (((Utf8.decode p0 c11_1).1 : Int) == ((Utf8.decode p1 c17_1).1 : Int))), (c17_1 + (Utf8.decode p1 c17_1).2)) _ _ _ hS (ok.sub (.cons_cons _ (.cons_cons _ List.Sublist.slnil))) (Env.le_put rfl (Env.le_put rfl (Env.le_put rfl (Env.le_put rfl (Env.le_put (by rw [e6]; rfl) (Env.le_put rfl (Env.le_put rfl (Env.le_emp _)))))))) (H.add_sub ok (.cons_cons _ (.cons_cons _ List.Sublist.slnil)))
          · replace e6 := eq_false_of_ne_true e6
            refine R.lookT rfl rfl rfl rfl e6 rfl (Lk.move rfl rfl) fun _ => ?_
            refine R.lookT rfl rfl rfl rfl e6 rfl (Lk.move rfl rfl) fun _ => ?_
            refine R.lookT rfl rfl rfl rfl e6 rfl (Lk.arith rfl rfl rfl rfl) fun _ => ?_
            refine R.look rfl rfl rfl (Lk.pick rfl rfl (fun e => by rw [e6] at e; cases e) (fun _ => rfl)) fun _ => ?_
            refine R.look rfl rfl rfl (Lk.assign rfl rfl) fun _ => ?_
            refine R.nil ?_
            exact hX_1 ((v7_1 || (((Utf8.decode p0 c11_1).1 : Int) == ((Utf8.decode p1 c17_1).1 : Int))), (c17_1 + (Utf8.decode p1 c17_1).2)) _ _ _ hS (ok.sub (.cons_cons _ (.cons_cons _ List.Sublist.slnil))) (Env.le_put rfl (Env.le_put rfl (Env.le_put rfl (Env.le_put rfl (Env.le_put (by rw [e6]; rfl) (Env.le_put rfl (Env.le_put rfl (Env.le_emp _)))))))) (H.add_sub ok (.cons_cons _ (.cons_cons _ List.Sublist.slnil)))
        · rw [if_neg e5] at hS
          refine R.eff rfl rfl rfl (Ef.nextEnd (i := 0) ok rfl rfl rfl e5 ⟨noChk, ?_⟩)
          refine R.look rfl rfl rfl (Lk.extract rfl rfl rfl) fun _ => ?_
          refine R.nil ?_
          refine EvC.seq ?_
          refine EvC.condF rfl rfl ?_
          refine EvC.exit ?_
          exact hIh_3 v7_1 _ _ _ (Env.le_put rfl (Env.le_put rfl (Env.le_put rfl (Env.le_put rfl (Env.le_put rfl (Env.le_emp _)))))) (ok.sub (.cons _ (.cons_cons _ List.Sublist.slnil))) (H.add_sub ok (.cons _ (.cons_cons _ List.Sublist.slnil))) hS
    · rw [if_neg e1] at hS
      refine R.eff rfl rfl rfl (Ef.nextEnd (i := 0) ok rfl rfl rfl e1 ⟨noChk, ?_⟩)
      refine R.look rfl rfl rfl (Lk.extract rfl rfl rfl) fun _ => ?_
      refine R.nil ?_
      refine EvC.seq ?_
      refine EvC.condF rfl rfl ?_
      refine EvC.exit ?_
      exact hIh_1 () _ _ _ (Env.le_emp _) (ok.sub (.cons _ List.Sublist.slnil)) (H.add_sub ok (.cons _ List.Sublist.slnil)) hS
end Go.Proofs.YtimadnngfhbfiaaDoor
end

section
/- PRINTED by wip/gen.py: the machine's call of muntin/parse.letters does what S70 says. -/
namespace Go.Proofs.YtimadnngfhbfiaaDoor
open Go Go.Mu
set_option maxHeartbeats 4000000
set_option maxRecDepth 100000
theorem f70_ok {p0 : ByteArray} {p1 : ByteArray} {h : H} {K : Bool → H → Prop} (hS : S70 p0 p1 h K) : ACall Tryd.prog 70 ([(.string p0), (.string p1)] : List Value).toArray h (fun r h' => ∃ r0 : Bool, r = tup [(.bool r0)] ∧ K r0 h') := by
  refine ACall.enter (fn := Tryd.f70) Tryd.func70 rfl (Nat.le_of_ble_eq_true rfl) ?_
  unfold S70 at hS
  have ok := Lok.nil h
  change EvC _ _ _ _ (H.add h []) _
  refine EvC.seq ?_
  refine EvC.region [Item.look 0] (by kernel_rfl) ?_
  refine R.look rfl rfl rfl (Lk.assign rfl rfl) fun _ => ?_
  refine R.nil ?_
  refine EvC.seq ?_
  refine EvC.region [Item.look 0, Item.look 1, Item.eff 2 [], Item.look 3, Item.eff 4 [], Item.look 5, Item.look 6] (by kernel_rfl) ?_
  refine R.look rfl rfl rfl (Lk.move rfl rfl) fun _ => ?_
  refine R.look rfl rfl rfl (Lk.move rfl rfl) fun _ => ?_
  refine R.eff rfl rfl rfl (Eff.loc ok (Ef.call rfl CB93 rfl ((f93_ok hS).mono ?_)))
  rintro _ h_1 ⟨v7, rfl, hS⟩
  refine fun ok => ⟨noChk, ?_⟩
  refine R.look rfl rfl rfl (Lk.move rfl rfl) fun _ => ?_
  refine R.eff rfl rfl rfl (Eff.loc ok (Ef.call rfl CB92 rfl ((f92_ok hS).mono ?_)))
  rintro _ h_2 ⟨v9, rfl, hS⟩
  refine fun ok => ⟨noChk, ?_⟩
  refine R.look rfl rfl rfl (Lk.strEq rfl rfl rfl) fun _ => ?_
  refine R.look rfl rfl rfl (Lk.assign rfl rfl) fun _ => ?_
  refine R.nil ?_
  refine EvC.ret ?_
  exact ⟨.inr rfl, _, _, (.cons (.tmp rfl) .nil), ok.le, _, rfl, hS⟩
end Go.Proofs.YtimadnngfhbfiaaDoor
end
