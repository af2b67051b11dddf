/-
  PROVED HERE: 'muntinlaw25.DrawTells' answers true whatever the raw shape and the numbers, and what was handed in reads as it did. Conditions: the package variables that the row lists hold what the program's text lays.
  Part 2 of 6.
-/
import Derived.Test.YtimadnngfhbfiaaDoorDtA
import Derived.Lib.RowBridge
import Derived.Laws.Strings

section
/- PRINTED by wip/gen.py: what slices.Repeat[[]muntin/api.Cell,muntin/api.Cell] does, in the words of Mu. -/
namespace Go.Proofs.YtimadnngfhbfiaaDoor
open Go Go.Mu
/- slices.Repeat[[]muntin/api.Cell,muntin/api.Cell] -/
def S72_j1 (K : Sl → H → Prop) (v18_1 : Int) (b30 : Nat) (h_5 : H) : Prop :=
  K ⟨some ⟨b30, 0, none⟩, Int.toNat (IntKind.wrap .i64 v18_1), Int.toNat (IntKind.wrap .i64 v18_1)⟩ h_5
def S72_l2 (K : Sl → H → Prop) (v18_1 : Int) (b30 : Nat) (X : Int → H → Prop) (v8 : Int) (h_6 : H) : Prop :=
  (if (decide (v8 < ((Int.toNat (IntKind.wrap .i64 v18_1)) : Int))) = true then ((0 : Int) ≤ v8 ∧ v8 ≤ ((Int.toNat (IntKind.wrap .i64 v18_1)) : Int) ∧ ((Int.toNat (IntKind.wrap .i64 v18_1)) : Int) ≤ ((Int.toNat (IntKind.wrap .i64 v18_1)) : Int) ∧ (Int.toNat (IntKind.wrap .i64 v18_1)) ≤ (Int.toNat (IntKind.wrap .i64 v18_1)) ∧ ((0 : Int) ≤ 0 ∧ (0 : Int) ≤ v8 ∧ v8 ≤ ((Int.toNat (IntKind.wrap .i64 v18_1)) : Int) ∧ (Int.toNat (IntKind.wrap .i64 v18_1)) ≤ (Int.toNat (IntKind.wrap .i64 v18_1)) ∧ ((Nat.sub (Int.toNat ((Int.toNat (IntKind.wrap .i64 v18_1)) : Int)) (Int.toNat v8)) = 0 ∧ X (IntKind.wrap .i64 (v8 + 0)) h_6))) else S72_j1 K v18_1 b30 h_6)
def S72_j3 (K : Sl → H → Prop) (v18_1 : Int) (h_3 : H) : Prop :=
  ((0 : Int) ≤ (IntKind.wrap .i64 v18_1) ∧ (IntKind.wrap .i64 v18_1) ≤ (IntKind.wrap .i64 v18_1) ∧ 64 * (IntKind.wrap .i64 v18_1) ≤ (281474976710656 : Int) ∧ (IntKind.wrap .i64 v18_1) ≤ 9223372036854775807 ∧ (∀ (b30 : Nat) (h_4 : H), h_3 b30 = none → h_4 = H.set h_3 b30 (.row ⟨zeros (.agg #[(.int .i64 0), (.int .i64 0), (.int .i64 0), (.int .i64 0), (.int .i64 0), (.int .i64 0), (.int .i64 0), (.int .i64 0)]) (Int.toNat (IntKind.wrap .i64 v18_1) * 8), (zeros (.agg #[(.int .i64 0), (.int .i64 0), (.int .i64 0), (.int .i64 0), (.int .i64 0), (.int .i64 0), (.int .i64 0), (.int .i64 0)]) (Int.toNat (IntKind.wrap .i64 v18_1) * 8)).length, 51, true, true⟩) → (Int.toNat (IntKind.wrap .i64 v18_1) = 0 ∧ lfp (fun X s h_6 => S72_l2 K v18_1 b30 X s h_6) 0 h_4)))
def S72_j4 (K : Sl → H → Prop) (v18_1 : Int) (v26 : Bool) (h_7 : H) : Prop :=
  (if v26 = true then False else S72_j3 K v18_1 h_7)
def S72_j5 (p0 : Sl) (p1 : Int) (K : Sl → H → Prop) (h_1 : H) : Prop :=
  S94 (IntKind.wrap .u64 (p0.l : Int)) (IntKind.wrap .u64 p1) h_1 (fun (v18_0 : Int) (v18_1 : Int) (h_2 : H) => S72_j4 K v18_1 ((decide (v18_0 > 0)) || (decide (v18_1 > 9223372036854775807))) h_2)
def S72 (p0 : Sl) (p1 : Int) (h : H) (K : Sl → H → Prop) : Prop :=
  (if (decide (p1 < 0)) = true then False else S72_j5 p0 p1 K h)
end Go.Proofs.YtimadnngfhbfiaaDoor
end

section
/- PRINTED by wip/gen.py: what muntin/grid.New does, in the words of Mu. -/
namespace Go.Proofs.YtimadnngfhbfiaaDoor
open Go Go.Mu
/- muntin/grid.New -/
def S42 (p0 : Int) (h : H) (K : Option Addr → Int → H → Prop) : Prop :=
  (if (decide (p0 < 0)) = true then K none 2 h else (if (decide (p0 > 4096)) = true then K none 6 h else S73  h (fun (v10_0 : Int) (v10_1 : Int) (v10_2 : Int) (v10_3 : Int) (v10_4 : Int) (v10_5 : Int) (v10_6 : Int) (v10_7 : Int) (h_1 : H) => (∀ (b11 : Nat) (h_2 : H), h_1 b11 = none → h_2 = H.set h_1 b11 (.row ⟨[(.int .i64 v10_0), (.int .i64 v10_1), (.int .i64 v10_2), (.int .i64 v10_3), (.int .i64 v10_4), (.int .i64 v10_5), (.int .i64 v10_6), (.int .i64 v10_7)], 8, 51, true, true⟩) → S72 ⟨some ⟨b11, 0, none⟩, 1, 1⟩ p0 h_2 (fun (v13 : Sl) (h_3 : H) => (∀ (b15 : Nat) (h_4 : H), h_3 b15 = none → h_4 = H.set h_3 b15 (.row ⟨[(.slice v13.a v13.l v13.c)], 1, 151, true, true⟩) → K (some ⟨b15, 0, none⟩) 0 h_4))))))
end Go.Proofs.YtimadnngfhbfiaaDoor
end

section
/-
  Cells: what joins do, in plain words and in the heap.
-/
namespace Go.Shape
open Go Go.Mu
structure Cell where
  n0 : Int
  n1 : Int
  n2 : Int
  n3 : Int
  o0 : Int
  o1 : Int
  o2 : Int
  o3 : Int
def Cell.enc (c : Cell) : List Value := [.int .i64 c.n0, .int .i64 c.n1, .int .i64 c.n2, .int .i64 c.n3, .int .i64 c.o0, .int .i64 c.o1, .int .i64 c.o2, .int .i64 c.o3]
def Cell.empty : Cell := ⟨-1, -1, -1, -1, 0, 0, 0, 0⟩
def Cell.zero : Cell := ⟨0, 0, 0, 0, 0, 0, 0, 0⟩
def Cell.next (c : Cell) : Nat → Int
  | 0 => c.n0
  | 1 => c.n1
  | 2 => c.n2
  | _ => c.n3
def Cell.own (c : Cell) : Nat → Int
  | 0 => c.o0
  | 1 => c.o1
  | 2 => c.o2
  | _ => c.o3
def Cell.lay (d : Nat) (w o : Int) (c : Cell) : Cell := match d with
  | 0 => { c with n0 := w, o0 := o }
  | 1 => { c with n1 := w, o1 := o }
  | 2 => { c with n2 := w, o2 := o }
  | _ => { c with n3 := w, o3 := o }
def opp (d : Nat) : Nat := (d + 2) % 4
theorem opp_lt (d : Nat) : opp d < 4 := Nat.mod_lt _ (by decide)
def free (cs : List Cell) (v d : Nat) : Bool := match cs[v]? with
  | some c => c.next d == -1
  | none => false
def laid (cs : List Cell) (v d w : Nat) (o : Int) : List Cell := (cs.modify v (Cell.lay d w o)).modify w (Cell.lay (opp d) v o)
def join (cs : List Cell) (v d w : Nat) (o : Int) : List Cell := if v ≠ w ∧ free cs v d = true ∧ free cs w (opp d) = true then laid cs v d w o else cs
theorem laid_len (cs : List Cell) (v d w : Nat) (o : Int) : (laid cs v d w o).length = cs.length := by simp [laid]
theorem join_len (cs : List Cell) (v d w : Nat) (o : Int) : (join cs v d w o).length = cs.length := by unfold join; split <;> simp [laid_len]
theorem Cell.enc_len (c : Cell) : c.enc.length = 8 := rfl
theorem enc8 (cs : List Cell) : ∀ c ∈ cs, c.enc.length = 8 := fun _ _ => rfl
theorem free_of {cs : List Cell} {v d : Nat} {c : Cell} (e : cs[v]? = some c) : free cs v d = (c.next d == -1) := by simp [free, e]
theorem free_lt {cs : List Cell} {v d : Nat} (e : free cs v d = true) : v < cs.length := by
  unfold free at e
  split at e
  · rename_i c hc; exact (List.getElem?_eq_some_iff.1 hc).1
  · cases e
theorem Cell.enc_next (c : Cell) {d : Nat} (hd : d < 4) : c.enc[d]? = some (.int .i64 (c.next d)) := by
  have : d = 0 ∨ d = 1 ∨ d = 2 ∨ d = 3 := by omega
  rcases this with rfl | rfl | rfl | rfl <;> rfl
end Go.Shape

namespace Go.Mu
open Classical in
/-- One role's row is another. -/
noncomputable def put {ρ : Type} (M : ρ → Res) (r : ρ) (x : Res) : ρ → Res := fun i => if i = r then x else M i
theorem put_eq {ρ : Type} (M : ρ → Res) (r : ρ) (x : Res) : put M r x r = x := by simp [put]
theorem put_ne {ρ : Type} (M : ρ → Res) {r i : ρ} (x : Res) (hi : i ≠ r) : put M r x i = M i := by simp [put, hi]
theorem put_or {ρ : Type} (M : ρ → Res) (r : ρ) (x : Res) : ∀ i, i ≠ r → put M r x i = M i ∨ put M r x i = .no := fun _ hi => .inl (put_ne M x hi)
theorem put_put {ρ : Type} (M : ρ → Res) (r : ρ) (x y : Res) : put (put M r x) r y = put M r y := by
  funext i
  by_cases hi : i = r
  · subst hi; rw [put_eq, put_eq]
  · rw [put_ne _ _ hi, put_ne _ _ hi, put_ne _ _ hi]
theorem put_self {ρ : Type} (M : ρ → Res) (r : ρ) (x : Res) (e : M r = x) : put M r x = M := by
  funext i
  by_cases hi : i = r
  · subst hi; rw [put_eq, e]
  · rw [put_ne _ _ hi]
theorem setL_append1 (a b : List Value) {i j : Nat} (v : Value) (hi : i = a.length + j) : setL (a ++ b) i [v] = a ++ setL b j [v] := by
  subst hi
  simp only [setL]
  rw [List.set_append_right _ _ (by omega)]
  simp
theorem setL_head1 (a b : List Value) {i : Nat} (v : Value) (hi : i < a.length) : setL (a ++ b) i [v] = setL a i [v] ++ b := by
  simp only [setL]
  rw [List.set_append_left _ _ hi]
/-- A cell of an element is written. -/
theorem setL_flatMap {α : Type} {enc : α → List Value} {size : Nat} {y : α} {j : Nat} {v : Value} (hj : j < size) : ∀ {l : List α} {i : Nat} {x : α}, (∀ x ∈ l, (enc x).length = size) → l[i]? = some x → setL (enc x) j [v] = enc y →
    setL (l.flatMap enc) (i * size + j) [v] = (l.set i y).flatMap enc
  | [], i, x, _, e, _ => by simp at e
  | z :: l, 0, x, hh, e, ev => by
    simp only [List.getElem?_cons_zero, Option.some.injEq] at e; subst e
    rw [List.flatMap_cons, Nat.zero_mul, Nat.zero_add, setL_head1 _ _ _ (by rw [hh z (by simp)]; exact hj), ev]; rfl
  | z :: l, i + 1, x, hh, e, ev => by
    rw [List.flatMap_cons, setL_append1 (j := i * size + j) _ _ _ (by rw [hh z (by simp), Nat.add_mul]; omega), setL_flatMap hj (fun q hq => hh q (List.mem_cons_of_mem _ hq)) (by simpa using e) ev]
    rfl
theorem zeros_agg {xs : List Value} {size m : Nat} (hx : xs.length = size) (hs : 0 < size) : zeros (.agg xs.toArray) (m * size) = (List.replicate m ()).flatMap fun _ => xs := by
  have hc : (Value.agg xs.toArray).cells.toList = xs := by simp [Value.cells]
  apply List.ext_getElem?
  intro i
  simp only [zeros, hc, hx]
  by_cases hi : i < m * size
  · have h1 : i / size < m := (Nat.div_lt_iff_lt_mul hs).2 hi
    have h2 : i % size < size := Nat.mod_lt _ hs
    have e2 : xs[i % size]? = some (xs.getD (i % size) default) := by
      rw [List.getD_eq_getElem?_getD, List.getElem?_eq_getElem (by omega)]; rfl
    have := flatMap_at (enc := fun _ : Unit => xs) (l := List.replicate m ()) (i := i / size) (j := i % size) (x := ()) (fun _ _ => hx) (by simp [h1]) e2
    rw [show i / size * size + i % size = i from Nat.div_add_mod' i size] at this
    rw [this]
    simp [hi]
  · rw [List.getElem?_eq_none (by simpa using Nat.le_of_not_lt hi), List.getElem?_eq_none]
    rw [flatMap_len (size := size) (fun _ _ => hx)]; simpa using Nat.le_of_not_lt hi
theorem zeros_len {xs : List Value} {size m : Nat} (hx : xs.length = size) (hs : 0 < size) : (zeros (.agg xs.toArray) (m * size)).length = m * size := by
  simp [zeros]
end Go.Mu

namespace Go.Proofs.YtimadnngfhbfiaaDoor
open Go Go.Mu Go.Shape
variable {h h0 : H}

/- ---------------------------------------------------------------- the reference's cells -/
theorem lay_sel {d : Nat} (hd : d < 4) (w o : Int) (c : Cell) : (⟨sel (upd ([c.n0, c.n1, c.n2, c.n3] : List Int) d w) 0, sel (upd ([c.n0, c.n1, c.n2, c.n3] : List Int) d w) 1, sel (upd ([c.n0, c.n1, c.n2, c.n3] : List Int) d w) 2, sel (upd ([c.n0, c.n1, c.n2, c.n3] : List Int) d w) 3,
    sel (upd ([c.o0, c.o1, c.o2, c.o3] : List Int) d o) 0, sel (upd ([c.o0, c.o1, c.o2, c.o3] : List Int) d o) 1, sel (upd ([c.o0, c.o1, c.o2, c.o3] : List Int) d o) 2, sel (upd ([c.o0, c.o1, c.o2, c.o3] : List Int) d o) 3⟩ : Cell) = c.lay d w o := by
  rcases cases4 hd with rfl | rfl | rfl | rfl <;> rfl
theorem c79 {p0 : Sl} {cs : List Cell} {v d w : Nat} {o : Int} (hcs : Rd h p0 8 Cell.enc cs) (hd : d < 4) (hn : cs.length < 5000) {K : Sl → H → Prop}
    (k : ∀ s h', St h h' (fun _ : Unit => .arr s 51 8 ((laid cs v d w o).flatMap Cell.enc)) → s.l = cs.length → K s h') : S79 p0 v d w o h K := by
  have hlen := hcs.len
  unfold S79
  refine lfp.count cs.length (fun i (s : Sl × Int) h' => St h h' (fun _ : Unit => .arr s.1 51 8 (((laid cs v d w o).take i).flatMap Cell.enc)) ∧ s.1.l = i ∧ s.2 = (i : Int)) (fun X i s h' hi ⟨st, q1, q2⟩ next => ?_) ⟨St.nil1 h, rfl, rfl⟩
  obtain ⟨s1, s2⟩ := s
  simp only at st q1 q2; subst q2
  unfold S79_l4 S79_j1
  simp only [decide_eq_true_eq]
  rw [hlen]
  by_cases hlt : i < cs.length
  · obtain ⟨c, hc⟩ : ∃ x, cs[i]? = some x := ⟨_, List.getElem?_eq_getElem hlt⟩
    obtain ⟨a, ha, hrd⟩ := hcs.ix hc
    rw [if_pos (by omega)]
    refine ⟨a, ha, by omega, by omega, c.n0, c.n1, c.n2, c.n3, c.o0, c.o1, c.o2, c.o3, st.le.rdn hrd, ?_⟩
    have hl : (laid cs v d w o)[i]? = some ((if w = i then Cell.lay (opp d) v o else id) ((if v = i then Cell.lay d w o else id) c)) := by
      simp only [laid, List.getElem?_modify, hc, Option.map_some]
      split <;> split <;> rfl
    have fin : ∀ c' : Cell, (laid cs v d w o)[i]? = some c' → S79_j2 s1 i X c'.n0 c'.n1 c'.n2 c'.n3 c'.o0 c'.o1 c'.o2 c'.o3 h' := by
      intro c' hc'
      unfold S79_j2
      refine ⟨_, _, st.own () rfl, by simp only [maxLen]; omega, by omega, fun s' h3 ap => ?_⟩
      have := st.app () rfl rfl rfl ap (fun _ => .arr s' 51 8 (((laid cs v d w o).take (i + 1)).flatMap Cell.enc)) (by rw [List.take_add_one, hc']; simp [Cell.enc]) (fun i hi => (hi rfl).elim)
      exact next hlt _ _ ⟨this.1, by rw [this.2, q1], wsucc (by omega)⟩
    have half : ∀ c' : Cell, (laid cs v d w o)[i]? = some ((if w = i then Cell.lay (opp d) v o else id) c') → S79_j3 v d w o s1 i X c'.n0 c'.n1 c'.n2 c'.n3 c'.o0 c'.o1 c'.o2 c'.o3 h' := by
      intro c' hc'
      unfold S79_j3
      rw [mod2 hd]
      by_cases hw : w = i
      · rw [if_pos (by simp [hw])]
        have hlt4 := opp_lt d
        have e := lay_sel (d := opp d) hlt4 v o c'
        rw [if_pos hw, ← e] at hc'
        exact ⟨by omega, by unfold opp at hlt4; omega, by omega, by unfold opp at hlt4; omega, fin _ hc'⟩
      · rw [if_neg (by simp; omega)]
        rw [if_neg hw] at hc'
        exact fin c' hc'
    by_cases hv : v = i
    · rw [if_pos (by simp [hv])]
      have e := lay_sel hd w o c
      rw [if_pos hv, ← e] at hl
      exact ⟨by omega, by omega, by omega, by omega, half _ hl⟩
    · rw [if_neg (by simp; omega)]
      rw [if_neg hv] at hl
      exact half c hl
  · rw [if_neg (by omega)]
    rw [List.take_of_length_le (by rw [laid_len]; omega)] at st
    exact k _ _ st (by omega)
theorem c52 {ρ : Type} {M : ρ → Res} {r : ρ} {p0 : Sl} {cs : List Cell} {v d w : Nat} {o : Int} (st : St h0 h M) (hr : M r = .arr p0 51 8 (cs.flatMap Cell.enc)) (hd : d < 4) (ho : -2 ≤ o) (hn : cs.length < 5000) {K : Sl → Int → H → Prop}
    (k : ∀ s e h', St h0 h' (put M r (.arr s 51 8 ((join cs v d w o).flatMap Cell.enc))) → s.l = cs.length → K s e h') : S52 p0 v d w o h K := by
  have hcs := st.arr r hr (enc8 cs) (by decide)
  have hlen := hcs.len
  have same : ∀ e, ¬ (v ≠ w ∧ free cs v d = true ∧ free cs w (opp d) = true) → K p0 e h := fun e hc => by
    refine k p0 e h ?_ hcs.1
    unfold join
    rw [if_neg hc, put_self _ _ _ hr]; exact st
  unfold S52
  by_cases hvw : v = w ∨ cs.length ≤ v ∨ cs.length ≤ w
  · rw [show ((((((((decide ((v : Int) < 0)) || (decide ((v : Int) ≥ (p0.l : Int)))) || (decide ((w : Int) < 0))) || (decide ((w : Int) ≥ (p0.l : Int)))) || ((v : Int) == (w : Int))) || (decide ((d : Int) < 0))) || (decide ((d : Int) > 3))) || (decide (o < (-2)))) = true from by
      simp only [Bool.or_eq_true, decide_eq_true_eq, beq_iff_eq]; omega]
    refine same 2 fun hc => ?_
    have f1 := free_lt hc.2.1
    have f2 := free_lt hc.2.2
    omega
  · rw [show ((((((((decide ((v : Int) < 0)) || (decide ((v : Int) ≥ (p0.l : Int)))) || (decide ((w : Int) < 0))) || (decide ((w : Int) ≥ (p0.l : Int)))) || ((v : Int) == (w : Int))) || (decide ((d : Int) < 0))) || (decide ((d : Int) > 3))) || (decide (o < (-2)))) = false from by
      simp only [Bool.or_eq_false_iff, decide_eq_false_iff_not, beq_eq_false_iff_ne]; omega]
    have hv : v < cs.length := by omega
    have hw : w < cs.length := by omega
    have hvw : v ≠ w := by omega
    unfold S52_j2
    rw [if_neg (by decide), mod2 hd]
    obtain ⟨cv, ev⟩ : ∃ x, cs[v]? = some x := ⟨_, List.getElem?_eq_getElem hv⟩
    obtain ⟨cw, ew⟩ : ∃ x, cs[w]? = some x := ⟨_, List.getElem?_eq_getElem hw⟩
    obtain ⟨a, ha, rv⟩ := hcs.ix ev
    obtain ⟨a2, ha2, rw'⟩ := hcs.ix ew
    refine ⟨a, ha, by omega, by omega, by omega, by omega, cv.next d, by simpa using rv.at d (cv.enc_next hd), ?_⟩
    by_cases f1 : cv.next d = -1
    · rw [if_neg (by simp [f1])]
      have hop := opp_lt d
      refine ⟨a2, ha2, by omega, by omega, by omega, by unfold opp at hop; omega, cw.next (opp d), by rw [Nat.mul_one, Int.toNat_natCast]; exact rw'.at (opp d) (cw.enc_next hop), ?_⟩
      unfold S52_j1
      by_cases f2 : cw.next (opp d) = -1
      · rw [if_neg (by simp [f2])]
        refine c79 hcs hd hn fun s h' st2 sl => k s 0 h' ?_ sl
        have hj : join cs v d w o = laid cs v d w o := by
          unfold join; rw [if_pos ⟨hvw, by rw [free_of ev]; simp [f1], by rw [free_of ew]; simp [f2]⟩]
        rw [hj]
        refine (st.plus st2).re _ (fun i => open Classical in if i = r then .inr () else .inl i) (fun i => ?_) (fun i j _ _ e => ?_)
        · by_cases hi : i = r
          · subst hi; rw [put_eq, if_pos rfl]; exact .inr rfl
          · rw [put_ne _ _ hi, if_neg hi]; exact .inr rfl
        · by_cases hi : i = r <;> by_cases hj : j = r
          · rw [hi, hj]
          · rw [if_pos hi, if_neg hj] at e; cases e
          · rw [if_neg hi, if_pos hj] at e; cases e
          · rw [if_neg hi, if_neg hj] at e; exact Sum.inl.inj e
      · rw [if_pos (by simp [f2])]
        exact same 9 (by rw [free_of ew]; simp [f2])
    · rw [if_pos (by simp [f1])]
      unfold S52_j1
      rw [if_pos rfl]
      exact same 9 (by rw [free_of ev]; simp [f1])
end Go.Proofs.YtimadnngfhbfiaaDoor
end

section
/-
  New cells; the grid.
-/
namespace Go.Proofs.YtimadnngfhbfiaaDoor
open Go Go.Mu Go.Shape
variable {h h0 : H} {ρ : Type} {M : ρ → Res}

/-- The first k sides of a new cell are set. -/
def part : Nat → Cell
  | 0 => ⟨0, 0, 0, 0, 0, 0, 0, 0⟩
  | 1 => ⟨-1, 0, 0, 0, 0, 0, 0, 0⟩
  | 2 => ⟨-1, -1, 0, 0, 0, 0, 0, 0⟩
  | 3 => ⟨-1, -1, -1, 0, 0, 0, 0, 0⟩
  | _ => ⟨-1, -1, -1, -1, 0, 0, 0, 0⟩
def fresh (n i k : Nat) : List Cell := (List.range n).map fun j => if j < i then Cell.empty else if j = i then part k else Cell.zero
theorem fresh_at {n i k : Nat} (hi : i < n) : (fresh n i k)[i]? = some (part k) := by simp [fresh, hi]
theorem fresh_set {n i k : Nat} (hi : i < n) : (fresh n i k).set i (part (k + 1)) = fresh n i (k + 1) := by
  apply List.ext_getElem?
  intro j
  rw [List.getElem?_set]
  by_cases hj : i = j
  · subst hj
    rw [if_pos rfl, if_pos (by simpa [fresh] using hi), fresh_at hi]
  · rw [if_neg hj]
    by_cases hjn : j < n
    · simp [fresh, hjn, Ne.symm hj]
    · simp [fresh, hjn]
theorem fresh_next {n i : Nat} : fresh n i 4 = fresh n (i + 1) 0 := by
  unfold fresh
  refine List.map_congr_left fun j _ => ?_
  by_cases h1 : j < i
  · rw [if_pos h1, if_pos (by omega)]
  · by_cases h2 : j = i
    · rw [if_neg h1, if_pos h2, if_pos (by omega)]; rfl
    · rw [if_neg h1, if_neg h2, if_neg (by omega)]
      by_cases h3 : j = i + 1
      · rw [if_pos h3]; rfl
      · rw [if_neg h3]
theorem fresh_zero {n : Nat} : fresh n 0 0 = List.replicate n Cell.zero := by
  unfold fresh
  rw [List.eq_replicate_iff]
  refine ⟨by simp, fun c hc => ?_⟩
  obtain ⟨j, _, rfl⟩ := List.mem_map.1 hc
  by_cases h2 : j = 0
  · subst h2; rfl
  · rw [if_neg (by omega), if_neg h2]
theorem fresh_done {n : Nat} : fresh n n 0 = List.replicate n Cell.empty := by
  unfold fresh
  rw [List.eq_replicate_iff]
  refine ⟨by simp, fun c hc => ?_⟩
  obtain ⟨j, hj, rfl⟩ := List.mem_map.1 hc
  rw [if_pos (by simpa using hj)]
theorem fresh_len (n i k : Nat) : (fresh n i k).length = n := by simp [fresh]
theorem part_set {k : Nat} (hk : k < 4) : setL (part k).enc k [.int .i64 (-1)] = (part (k + 1)).enc := by
  rcases cases4 hk with rfl | rfl | rfl | rfl <;> rfl

theorem oneCell_enc (cs : List Cell) : ∀ u ∈ cs.flatMap Cell.enc, u.oneCell' = true := by
  intro u hu
  obtain ⟨c, _, hc⟩ := List.mem_flatMap.1 hu
  simp only [Cell.enc, List.mem_cons, List.not_mem_nil, or_false] at hc
  rcases hc with rfl | rfl | rfl | rfl | rfl | rfl | rfl | rfl <;> rfl
theorem zeros8 (n : Nat) : zeros (.agg #[(.int .i64 0), (.int .i64 0), (.int .i64 0), (.int .i64 0), (.int .i64 0), (.int .i64 0), (.int .i64 0), (.int .i64 0)]) (n * 8) = (List.replicate n Cell.zero).flatMap Cell.enc := by
  have := zeros_agg (xs := Cell.zero.enc) (size := 8) (m := n) rfl (by decide)
  rw [show Cell.zero.enc.toArray = #[(.int .i64 0), (.int .i64 0), (.int .i64 0), (.int .i64 0), (.int .i64 0), (.int .i64 0), (.int .i64 0), (.int .i64 0)] from rfl] at this
  rw [this]
  clear this
  induction n with
  | zero => rfl
  | succ n ih => rw [List.replicate_succ, List.replicate_succ, List.flatMap_cons, List.flatMap_cons, ih]
theorem rep_len (n : Nat) (c : Cell) : ((List.replicate n c).flatMap Cell.enc).length = n * 8 := by rw [flatMap_len (size := 8) (enc8 _)]; simp
/-- New cells, appended. -/
theorem c51 {r : ρ} {c : Sl} {cs : List Cell} {n : Nat} (st : St h0 h M) (hr : M r = .arr c 51 8 (cs.flatMap Cell.enc)) (h1 : 0 < n) (h4 : n ≤ 4) (hn : cs.length < 5000) {K : Sl → H → Prop}
    (k : ∀ s h', St h0 h' (put M r (.arr s 51 8 ((cs ++ List.replicate n Cell.empty).flatMap Cell.enc))) → s.l = cs.length + n → K s h') : S51 n h (fun v h' => ((v.a = none → v.l = 0 → v.c = 0) ∧ appS 51 8 64 c v h' K)) := by
  have hcs := (st.arr r hr (enc8 cs) (by decide)).1
  unfold S51
  refine ⟨by omega, by omega, by omega, by omega, fun b hh hb e => ?_⟩
  subst e
  rw [Int.toNat_natCast, zeros8, rep_len]
  have st1 : St h (h.set b (.row ⟨(List.replicate n Cell.zero).flatMap Cell.enc, n * 8, 51, true, true⟩)) (fun _ : Unit => .arr ⟨some ⟨b, 0, none⟩, n, n⟩ 51 8 ((fresh n 0 0).flatMap Cell.enc)) := by
    have := (St.init (ρ := Unit) h).allocArr (b := b) (k := n) (cap := n) (e := 51) (size := 8) (xs := (fresh n 0 0).flatMap Cell.enc) hb () (fun _ => .arr ⟨some ⟨b, 0, none⟩, n, n⟩ 51 8 ((fresh n 0 0).flatMap Cell.enc)) (by rw [fresh_zero, rep_len]) (Nat.le_refl n) (by simp only [maxLen]; omega) rfl (fun i hi => (hi rfl).elim)
    rw [fresh_zero] at this ⊢; exact this
  refine lfp.count n (fun i (u : Int) h' => u = (i : Int) ∧ St h h' (fun _ : Unit => .arr ⟨some ⟨b, 0, none⟩, n, n⟩ 51 8 ((fresh n i 0).flatMap Cell.enc))) (fun X i u h' hi ⟨q1, st2⟩ next => ?_) ⟨rfl, st1⟩
  subst q1
  unfold S51_l4 S51_j1
  by_cases hlt : i < n
  · rw [if_pos (by simp only [decide_eq_true_eq]; omega)]
    refine lfp.count 4 (fun j (u : Int) h' => u = (j : Int) ∧ St h h' (fun _ : Unit => .arr ⟨some ⟨b, 0, none⟩, n, n⟩ 51 8 ((fresh n i j).flatMap Cell.enc))) (fun Y j u h' hj ⟨q1, st3⟩ nxt => ?_) ⟨rfl, st2⟩
    subst q1
    unfold S51_l3 S51_j2
    by_cases hj4 : j < 4
    · rw [if_pos (by simp only [decide_eq_true_eq]; omega)]
      refine ⟨_, rfl, by omega, by omega, by omega, by omega, ?_⟩
      rw [Addr.add_add, Int.toNat_natCast, Int.toNat_natCast, Nat.mul_one]
      have hl : i * 8 + j + ([(.int .i64 (-1))] : List Value).length ≤ ((fresh n i j).flatMap Cell.enc).length := by
        rw [flatMap_len (size := 8) (enc8 _), fresh_len]; simp only [List.length_cons, List.length_nil]; omega
      obtain ⟨h6, hw, st4⟩ := st3.wrArr () rfl rfl hl (fun _ : Unit => .arr ⟨some ⟨b, 0, none⟩, n, n⟩ 51 8 ((fresh n i (j + 1)).flatMap Cell.enc))
        (by rw [setL_flatMap (y := part (j + 1)) (by omega) (enc8 _) (fresh_at hlt) (part_set hj4), fresh_set hlt]) (fun i hi => (hi rfl).elim)
      exact ⟨h6, hw, nxt hj4 _ _ ⟨wsucc (by omega), st4⟩⟩
    · rw [if_neg (by simp only [decide_eq_true_eq]; omega)]
      have : j = 4 := by omega
      subst this
      rw [fresh_next] at st3
      exact next hlt _ _ ⟨wsucc (by omega), st3⟩
  · rw [if_neg (by simp only [decide_eq_true_eq]; omega)]
    have : i = n := by omega
    subst this
    rw [fresh_done] at st2
    refine ⟨fun e => (by cases e), ?_⟩
    have st5 := st.plus st2
    have rd2 := st2.arr () rfl (enc8 _) (by decide)
    have own5 : Own h' 51 8 c.v c.l (cs.flatMap Cell.enc) := st5.own (.inl r) hr
    refine ⟨_, _, own5, .inr ⟨_, (List.replicate i Cell.empty).flatMap Cell.enc, rfl, ?_, oneCell_enc _, by simp only [maxLen, Int.toNat_natCast]; omega, by simp only [Int.toNat_natCast]; omega, fun s' h'' ap => ?_⟩⟩
    · refine ⟨by rw [rep_len]; rfl, fun j v hj => ?_⟩
      have := st2.own () rfl
      rcases this.2 with ⟨hv, _⟩ | ⟨g, cap, hv, hg, _⟩
      · simp only [Value.slice.injEq] at hv; cases hv.1
      · simp only [Value.slice.injEq, Option.some.injEq] at hv
        have hbg : b = g := by have := hv.1; cases this; rfl
        subst hbg
        rw [Addr.add_n]
        simp only [H.rd, hg, Nat.zero_add]
        exact hj
    · simp only [Int.toNat_natCast] at ap
      have := st5.app (.inl r) hr rfl (by rw [rep_len]) ap (put (fun i : ρ ⊕ Unit => match i with | .inl r => M r | .inr _ => .no) (.inl r) (.arr s' 51 8 ((cs ++ List.replicate i Cell.empty).flatMap Cell.enc))) (by rw [put_eq, List.flatMap_append]) (fun q hq => by
        rw [put_ne _ _ hq]
        cases q with
        | inl q => exact .inl rfl
        | inr q => exact .inr rfl)
      refine k s' h'' (this.1.re _ (fun q => .inl q) (fun q => ?_) (fun q q' _ _ e => Sum.inl.inj e)) (by rw [this.2, hcs])
      by_cases hq : q = r
      · subst hq; rw [put_eq, put_eq]; exact .inr rfl
      · rw [put_ne _ _ hq, put_ne _ _ (fun e => hq (Sum.inl.inj e))]; exact .inr rfl

/- ---------------------------------------------------------------- the grid -/
abbrev gridRow (s : Sl) : Blk := .row ⟨[s.v], 1, 151, true, true⟩
/-- A grid by its roles. -/
structure Grd (M : ρ → Res) (rg rc : ρ) (bg : Nat) (s : Sl) (cs : List Cell) : Prop where
  g : M rg = .blk bg (gridRow s)
  c : M rc = .arr s 51 8 (cs.flatMap Cell.enc)
theorem Grd.rd {rg rc : ρ} {bg : Nat} {s : Sl} {cs : List Cell} (g : Grd M rg rc bg s cs) (st : St h0 h M) : h.rd ⟨bg, 0, none⟩ = some (.slice s.a s.l s.c) := st.rd rg g.g rfl
theorem Grd.len {rg rc : ρ} {bg : Nat} {s : Sl} {cs : List Cell} (g : Grd M rg rc bg s cs) (st : St h0 h M) : s.l = cs.length := (st.arr rc g.c (enc8 cs) (by decide)).1
theorem c43 {rg rc : ρ} {bg : Nat} {s : Sl} {cs : List Cell} (g : Grd M rg rc bg s cs) (st : St h0 h M) {K : Int → H → Prop} (k : K (cs.length : Nat) h) : S43 (some ⟨bg, 0, none⟩) h K := by
  unfold S43
  rw [if_neg (by simp)]
  exact ⟨_, rfl, s, g.rd st, by rw [g.len st]; exact k⟩
theorem c96 {rg rc : ρ} {bg : Nat} {s : Sl} {cs : List Cell} {v d : Nat} (g : Grd M rg rc bg s cs) (st : St h0 h M) (hv : v < cs.length) (hd : d < 4) {K : Bool → H → Prop} (k : K true h) : S96 (some ⟨bg, 0, none⟩) v d h K := by
  unfold S96 S96_j1
  rw [if_pos (by simp)]
  refine c43 g st ?_
  rw [if_pos (by simp only [decide_eq_true_eq]; omega)]
  exact c54 hd k
theorem c96' {rg rc : ρ} {bg : Nat} {s : Sl} {cs : List Cell} {v d : Nat} (g : Grd M rg rc bg s cs) (st : St h0 h M) (hv : ¬ v < cs.length) {K : Bool → H → Prop} (k : K false h) : S96 (some ⟨bg, 0, none⟩) v d h K := by
  unfold S96 S96_j1
  rw [if_pos (by simp)]
  refine c43 g st ?_
  rw [if_neg (by simp only [decide_eq_true_eq]; omega)]
  exact k
theorem c95 {rg rc : ρ} (hne : rg ≠ rc) {bg : Nat} {s : Sl} {cs : List Cell} (g : Grd M rg rc bg s cs) (st : St h0 h M) (hn : cs.length < 4096) {K : Int → Int → H → Prop}
    (k : ∀ s' h', St h0 h' (put (put M rc (.arr s' 51 8 ((cs ++ [Cell.empty]).flatMap Cell.enc))) rg (.blk bg (gridRow s'))) → K (cs.length : Nat) 0 h') : S95 (some ⟨bg, 0, none⟩) h K := by
  unfold S95
  rw [if_neg (by simp)]
  refine c43 g st ?_
  rw [if_neg (by simp only [beq_iff_eq]; omega)]
  refine ⟨_, rfl, s, g.rd st, ?_⟩
  unfold S73
  have hl := g.len st
  refine ⟨g.rd st, _, _, st.own rc g.c, by simp only [maxLen]; omega, by omega, fun s' h3 ap => ?_⟩
  obtain ⟨st2, sl⟩ := st.app rc g.c rfl rfl ap (put M rc (.arr s' 51 8 ((cs ++ [Cell.empty]).flatMap Cell.enc))) (by rw [put_eq, List.flatMap_append]; rfl) (put_or _ _ _)
  obtain ⟨h4, hw, st3⟩ := st2.wr (vs := [.slice s'.a s'.l s'.c]) (off := 0) rg (by rw [put_ne _ _ hne]; exact g.g) rfl (by simp) (put (put M rc (.arr s' 51 8 ((cs ++ [Cell.empty]).flatMap Cell.enc))) rg (.blk bg (gridRow s'))) (by rw [put_eq]; rfl) (put_or _ _ _)
  refine ⟨_, rfl, h4, hw, ?_⟩
  have g' : Grd (put (put M rc (.arr s' 51 8 ((cs ++ [Cell.empty]).flatMap Cell.enc))) rg (.blk bg (gridRow s'))) rg rc bg s' (cs ++ [Cell.empty]) := ⟨put_eq _ _ _, by rw [put_ne _ _ (Ne.symm hne), put_eq]⟩
  refine c43 g' st3 ?_
  have : IntKind.i64.wrap ((((cs ++ [Cell.empty]).length : Nat) : Int) - 1) = (cs.length : Nat) := wrapN (by simp) (by omega)
  rw [this]
  exact k s' h4 st3
theorem enc_own (c : Cell) {d : Nat} (hd : d < 4) : c.enc[4 + d]? = some (.int .i64 (c.own d)) := by
  rcases cases4 hd with rfl | rfl | rfl | rfl <;> rfl
def Cell.setN (d : Nat) (w : Int) (c : Cell) : Cell := match d with
  | 0 => { c with n0 := w }
  | 1 => { c with n1 := w }
  | 2 => { c with n2 := w }
  | _ => { c with n3 := w }
def Cell.setO (d : Nat) (w : Int) (c : Cell) : Cell := match d with
  | 0 => { c with o0 := w }
  | 1 => { c with o1 := w }
  | 2 => { c with o2 := w }
  | _ => { c with o3 := w }
theorem setN_enc (c : Cell) {d : Nat} (hd : d < 4) (w : Int) : setL c.enc d [.int .i64 w] = (Cell.setN d w c).enc := by
  rcases cases4 hd with rfl | rfl | rfl | rfl <;> rfl
theorem setO_enc (c : Cell) {d : Nat} (hd : d < 4) (w : Int) : setL c.enc (4 + d) [.int .i64 w] = (Cell.setO d w c).enc := by
  rcases cases4 hd with rfl | rfl | rfl | rfl <;> rfl
theorem setNO (c : Cell) (d : Nat) (hd : d < 4) (w o : Int) : Cell.setO d o (Cell.setN d w c) = c.lay d w o := by
  rcases cases4 hd with rfl | rfl | rfl | rfl <;> rfl
/-- Both halves of an edge's end are written. -/
theorem wr2 {rc : ρ} {s : Sl} {cs : List Cell} {v d : Nat} {w o : Int} {a : Addr} (st : St h0 h M) (hc : M rc = .arr s 51 8 (cs.flatMap Cell.enc)) (ha : s.a = some a) (hv : v < cs.length) (hd : d < 4) :
    ∃ h2 h3, H.wr h (a.add (v * 8 + d)) [.int .i64 w] h2 ∧ H.wr h2 (a.add (v * 8 + (4 + d))) [.int .i64 o] h3 ∧ St h0 h3 (put M rc (.arr s 51 8 ((cs.modify v (Cell.lay d w o)).flatMap Cell.enc))) := by
  obtain ⟨c, ec⟩ : ∃ x, cs[v]? = some x := ⟨_, List.getElem?_eq_getElem hv⟩
  have hl : ∀ (l : List Cell) (j : Nat) (x : Value), l.length = cs.length → j < 8 → v * 8 + j + ([x] : List Value).length ≤ (l.flatMap Cell.enc).length := fun l j x e hj => by
    rw [flatMap_len (size := 8) (enc8 _), e]; simp only [List.length_cons, List.length_nil]; omega
  obtain ⟨h2, w1, st1⟩ := st.wrArr (vs := [.int .i64 w]) rc hc ha (hl cs d _ rfl (by omega)) (put M rc (.arr s 51 8 ((cs.set v (Cell.setN d w c)).flatMap Cell.enc))) (by rw [put_eq, setL_flatMap (by omega) (enc8 _) ec (setN_enc c hd w)]) (put_or _ _ _)
  have ec2 : (cs.set v (Cell.setN d w c))[v]? = some (Cell.setN d w c) := by rw [List.getElem?_set_self hv]
  obtain ⟨h3, w2, st2⟩ := st1.wrArr (vs := [.int .i64 o]) rc (put_eq _ _ _) ha (hl _ (4 + d) _ (by simp) (by omega)) (put M rc (.arr s 51 8 ((cs.modify v (Cell.lay d w o)).flatMap Cell.enc))) (by
    rw [put_eq, setL_flatMap (by omega) (enc8 _) ec2 (setO_enc _ hd o), List.set_set, setNO _ _ hd]
    congr 2
    apply List.ext_getElem?
    intro j
    rw [List.getElem?_set, List.getElem?_modify]
    by_cases hj : v = j
    · subst hj; rw [if_pos rfl, if_pos hv, ec]; simp
    · rw [if_neg hj]; cases cs[j]? <;> simp [hj]) (fun i hi => by rw [put_ne _ _ hi, put_ne _ _ hi]; exact .inl rfl)
  exact ⟨h2, h3, w1, w2, st2⟩
theorem c97 {rg rc : ρ} (hne : rg ≠ rc) {bg : Nat} {s : Sl} {cs : List Cell} {v d w : Nat} {o : Int} (g : Grd M rg rc bg s cs) (st : St h0 h M) (hv : v < cs.length) (hw : w < cs.length) (hd : d < 4) {K : H → Prop}
    (k : ∀ h', St h0 h' (put M rc (.arr s 51 8 ((laid cs v d w o).flatMap Cell.enc))) → K h') : S97 (some ⟨bg, 0, none⟩) v d w o h K := by
  unfold S97
  refine c56 hd (left2 hd) ?_
  have hl := g.len st
  have hop := opp_lt d
  obtain ⟨c, ec⟩ : ∃ x, cs[v]? = some x := ⟨_, List.getElem?_eq_getElem hv⟩
  obtain ⟨a, ha, _⟩ := (st.arr rc g.c (enc8 cs) (by decide)).ix ec
  obtain ⟨h2, h3, w1, w2, st3⟩ := wr2 (w := w) (o := o) st g.c ha hv hd
  have hne' := Ne.symm hne
  have rd3 : h3.rd ⟨bg, 0, none⟩ = some (.slice s.a s.l s.c) := st3.rd rg (by rw [put_ne _ _ hne]; exact g.g) rfl
  obtain ⟨h4, h5, w3, w4, st5⟩ := wr2 (v := w) (d := opp d) (w := v) (o := o) st3 (put_eq _ _ _) ha (by simpa using hw) hop
  rw [put_put] at st5
  refine ⟨_, rfl, s, g.rd st, _, rfl, s, g.rd st, a, ha, by omega, by omega, by omega, by omega, a, ha, by omega, by omega, h2, ?_, by omega, by omega, h3, ?_, _, rfl, s, rd3, _, rfl, s, rd3, a, ha, by omega, by omega, by omega, by unfold opp at hop; omega, a, ha, by omega, by omega, h4, ?_, by omega, by unfold opp at hop; omega, h5, ?_, k h5 st5⟩
  · rw [Addr.add_add, Int.toNat_natCast, Int.toNat_natCast, Nat.mul_one]; exact w1
  · rw [Addr.add_add, Addr.add_add, Int.toNat_natCast, Int.toNat_natCast, Nat.mul_one]; exact w2
  · rw [Addr.add_add, Int.toNat_natCast, Int.toNat_natCast, Nat.mul_one]; exact w3
  · rw [Addr.add_add, Addr.add_add, Int.toNat_natCast, Int.toNat_natCast, Nat.mul_one]; exact w4
theorem c75 {rg rc : ρ} (hne : rg ≠ rc) {bg : Nat} {s : Sl} {cs : List Cell} {v d w : Nat} {o : Int} (g : Grd M rg rc bg s cs) (st : St h0 h M) (hd : d < 4) (ho : -2 ≤ o) {K : Int → H → Prop}
    (k : ∀ e h', St h0 h' (put M rc (.arr s 51 8 ((join cs v d w o).flatMap Cell.enc))) → K e h') : S75 (some ⟨bg, 0, none⟩) v d w o h K := by
  have hl := g.len st
  have same : ∀ e, ¬ (v ≠ w ∧ free cs v d = true ∧ free cs w (opp d) = true) → K e h := fun e hc => by
    refine k e h ?_
    unfold join
    rw [if_neg hc, put_self _ _ _ g.c]; exact st
  have hop := opp_lt d
  unfold S75
  rw [if_neg (by simp)]
  by_cases hv : v < cs.length
  case neg =>
    refine c96' g st hv ?_
    rw [if_pos (by decide)]
    unfold S75_j2
    rw [if_pos rfl]
    exact same 2 fun hc => hv (free_lt hc.2.1)
  refine c96 g st hv hd ?_
  rw [if_neg (by decide)]
  by_cases hw : w < cs.length
  case neg =>
    refine c96' g st hw ?_
    rw [if_pos (by decide)]
    unfold S75_j2
    rw [if_pos rfl]
    exact same 2 fun hc => hw (free_lt hc.2.2)
  refine c96 g st hw hd ?_
  rw [if_neg (by decide)]
  obtain ⟨cv, ev⟩ : ∃ x, cs[v]? = some x := ⟨_, List.getElem?_eq_getElem hv⟩
  obtain ⟨cw, ew⟩ : ∃ x, cs[w]? = some x := ⟨_, List.getElem?_eq_getElem hw⟩
  have hcs := st.arr rc g.c (enc8 cs) (by decide)
  obtain ⟨a, ha, rv⟩ := hcs.ix ev
  obtain ⟨a2, ha2, rw'⟩ := hcs.ix ew
  unfold S75_j2
  by_cases hvw : v = w
  · rw [if_pos (by simp [hvw]), if_pos rfl]; exact same 2 (by omega)
  · rw [if_neg (by simp; omega), if_neg (by simp only [decide_eq_true_eq]; omega)]
    refine ⟨_, rfl, s, g.rd st, a, ha, by omega, by omega, by omega, by omega, cv.next d, by rw [Nat.mul_one, Int.toNat_natCast, Int.toNat_natCast]; exact rv.at d (cv.enc_next hd), ?_⟩
    unfold S75_j1
    by_cases f1 : cv.next d = -1
    · rw [if_neg (by simp [f1])]
      refine ⟨_, rfl, s, g.rd st, a2, ha2, by omega, by omega, ?_⟩
      refine c56 hd (left2 hd) ?_
      refine ⟨g.rd st, by omega, by unfold opp at hop; omega, cw.next (opp d), by rw [Nat.mul_one, Int.toNat_natCast, Int.toNat_natCast]; exact rw'.at (opp d) (cw.enc_next hop), ?_⟩
      by_cases f2 : cw.next (opp d) = -1
      · rw [if_neg (by simp [f2])]
        refine c97 hne g st hv hw hd fun h' st' => k 0 h' ?_
        have hj : join cs v d w o = laid cs v d w o := by
          unfold join; rw [if_pos ⟨hvw, by rw [free_of ev]; simp [f1], by rw [free_of ew]; simp [f2]⟩]
        rw [hj]; exact st'
      · rw [if_pos (by simp [f2])]
        exact same 9 (by rw [free_of ew]; simp [f2])
    · rw [if_pos (by simp [f1]), if_pos rfl]
      exact same 9 (by rw [free_of ev]; simp [f1])
end Go.Proofs.YtimadnngfhbfiaaDoor
end

section
/-
  Norms in plain words.
-/
namespace Go.Shape
open Go Go.Mu
def wayP : Nat → Nat
  | 0 => 1
  | 1 => 0
  | 2 => 1
  | _ => 0
def fromP (c : Nat) : Nat → Nat
  | 0 => c + 1
  | 1 => c + 3
  | _ => c
def toP (c : Nat) : Nat → Nat
  | 0 => c + 2
  | 1 => c + 2
  | 2 => c + 3
  | _ => c + 1
theorem wayP_lt (d : Nat) : wayP d < 4 := by unfold wayP; split <;> decide
def bEnd (way : Nat) (s : List Cell × List Nat × Nat) (k : Nat) : List Cell × List Nat × Nat := (join (s.1 ++ [Cell.empty]) s.2.2 way s.1.length (-1), s.2.1.set k s.1.length, s.1.length)
def bEnds (way : Nat) (s : List Cell × List Nat × Nat) (l : List Nat) : List Cell × List Nat × Nat := l.foldl (bEnd way) s
def bSide (es : List Ed) (v c : Nat) (s : List Cell × List Nat) (d : Nat) : List Cell × List Nat :=
  (join (bEnds (wayP d) (s.1, s.2, fromP c d) (on es v d)).1 (bEnds (wayP d) (s.1, s.2, fromP c d) (on es v d)).2.2 (wayP d) (toP c d) (-1), (bEnds (wayP d) (s.1, s.2, fromP c d) (on es v d)).2.1)
def bSides (es : List Ed) (v c : Nat) (s : List Cell × List Nat) (n : Nat) : List Cell × List Nat := (List.range n).foldl (bSide es v c) s
def box (es : List Ed) (v : Nat) (s : List Cell × List Nat) : List Cell × List Nat := bSides es v s.1.length (s.1 ++ List.replicate 4 Cell.empty, s.2) 4
def pEnds (c : Nat) (en l : List Nat) : List Nat := l.foldl (fun en k => en.set k c) en
def pSides (es : List Ed) (v c : Nat) (en : List Nat) (n : Nat) : List Nat := (List.range n).foldl (fun en d => pEnds c en (on es v d)) en
def point (es : List Ed) (v : Nat) (s : List Cell × List Nat) : List Cell × List Nat := (s.1 ++ [Cell.empty], pSides es v s.1.length s.2 4)
def vtx (bx : List Bool) (es : List Ed) (s : List Cell × List Nat) (v : Nat) : List Cell × List Nat := if bx.getD v false then box es v s else point es v s
def verts (bx : List Bool) (es : List Ed) (n : Nat) : List Cell × List Nat := (List.range n).foldl (vtx bx es) ([], List.replicate (2 * es.length) 0)
def firsts (bx : List Bool) (es : List Ed) (n : Nat) : List Nat := (List.range n).map fun v => (verts bx es v).1.length
def bend (i : Nat) (s : List Cell × Nat × Nat × List Nat) (b : Bool) : List Cell × Nat × Nat × List Nat := (join (s.1 ++ [Cell.empty]) s.2.1 s.2.2.1 s.1.length i, s.1.length, turn s.2.2.1 b, s.2.2.2 ++ [s.1.length])
def bends (i : Nat) (s : List Cell × Nat × Nat × List Nat) (b : List Bool) : List Cell × Nat × Nat × List Nat := b.foldl (bend i) s
def edge0 (en : List Nat) (e : Ed) (i : Nat) (cs : List Cell) : List Cell × Nat × Nat × List Nat := bends i (cs, en.getD (2 * i) 0, e.d, [en.getD (2 * i) 0]) e.b
def edge (en : List Nat) (s : List Cell × List (List Nat)) (p : Ed × Nat) : List Cell × List (List Nat) :=
  (join (edge0 en p.1 p.2 s.1).1 (edge0 en p.1 p.2 s.1).2.1 (edge0 en p.1 p.2 s.1).2.2.1 (en.getD (2 * p.2 + 1) 0) p.2, s.2 ++ [(edge0 en p.1 p.2 s.1).2.2.2 ++ [en.getD (2 * p.2 + 1) 0]])
def edges (en : List Nat) (cs : List Cell) (es : List Ed) : List Cell × List (List Nat) := es.zipIdx.foldl (edge en) (cs, [])

theorem range_foldl {α : Type} (f : α → Nat → α) (s : α) (n : Nat) : (List.range (n + 1)).foldl f s = f ((List.range n).foldl f s) n := by rw [List.range_succ, List.foldl_append]; rfl
theorem take_foldl {α β : Type} (f : α → β → α) (s : α) (l : List β) {i : Nat} {x : β} (e : l[i]? = some x) : (l.take (i + 1)).foldl f s = f ((l.take i).foldl f s) x := by
  rw [List.take_add_one, e, List.foldl_append]; rfl
theorem on_lt {es : List Ed} {v d k : Nat} (hk : k ∈ on es v d) : k < 2 * es.length := by
  obtain ⟨⟨e, i⟩, hp, hm⟩ := List.mem_flatMap.1 hk
  have hi : i < es.length := by
    have := List.mem_zipIdx hp
    omega
  unfold endsOf at hm
  rcases List.mem_append.1 hm with hm | hm
  · split at hm
    · simp only [List.mem_singleton] at hm; omega
    · cases hm
  · split at hm
    · simp only [List.mem_singleton] at hm; omega
    · cases hm
theorem bEnds_len (way : Nat) : ∀ (l : List Nat) (s : List Cell × List Nat × Nat), (bEnds way s l).1.length = s.1.length + l.length ∧ (bEnds way s l).2.1.length = s.2.1.length
  | [], s => ⟨rfl, rfl⟩
  | k :: l, s => by
    have := bEnds_len way l (bEnd way s k)
    refine ⟨this.1.trans ?_, this.2.trans ?_⟩
    · simp [bEnd, join_len]; omega
    · simp [bEnd]
theorem bSides_len (es : List Ed) (v c : Nat) (s : List Cell × List Nat) : ∀ n, (bSides es v c s n).1.length ≤ s.1.length + n * (2 * es.length) ∧ (bSides es v c s n).2.length = s.2.length
  | 0 => ⟨by simp [bSides], rfl⟩
  | n + 1 => by
    have ih := bSides_len es v c s n
    have hl := on_len es v n
    have e : bSides es v c s (n + 1) = bSide es v c (bSides es v c s n) n := range_foldl _ _ _
    rw [e]
    have k := bEnds_len (wayP n) (on es v n) ((bSides es v c s n).1, (bSides es v c s n).2, fromP c n)
    simp only [bSide, join_len]
    refine ⟨?_, k.2.trans ih.2⟩
    rw [k.1, Nat.add_mul]; simp only; omega
theorem pEnds_len (c : Nat) : ∀ (l en : List Nat), (pEnds c en l).length = en.length
  | [], _ => rfl
  | k :: l, en => (pEnds_len c l (en.set k c)).trans (by simp)
theorem pSides_len (es : List Ed) (v c : Nat) (en : List Nat) : ∀ n, (pSides es v c en n).length = en.length
  | 0 => rfl
  | n + 1 => by
    have e : pSides es v c en (n + 1) = pEnds c (pSides es v c en n) (on es v n) := range_foldl _ _ _
    rw [e, pEnds_len, pSides_len es v c en n]
theorem vtx_len (bx : List Bool) (es : List Ed) (s : List Cell × List Nat) (v : Nat) : (vtx bx es s v).1.length ≤ s.1.length + 4 + 8 * es.length ∧ (vtx bx es s v).2.length = s.2.length := by
  unfold vtx
  split
  · have := bSides_len es v s.1.length (s.1 ++ List.replicate 4 Cell.empty, s.2) 4
    simp only [List.length_append, List.length_replicate] at this
    exact ⟨by unfold box; omega, this.2⟩
  · exact ⟨by simp only [point, List.length_append, List.length_cons, List.length_nil]; omega, pSides_len _ _ _ _ _⟩
theorem verts_succ (bx : List Bool) (es : List Ed) (n : Nat) : verts bx es (n + 1) = vtx bx es (verts bx es n) n := range_foldl _ _ _
theorem verts_len (bx : List Bool) (es : List Ed) : ∀ n, (verts bx es n).1.length ≤ n * (4 + 8 * es.length) ∧ (verts bx es n).2.length = 2 * es.length
  | 0 => ⟨by simp [verts], by simp [verts]⟩
  | n + 1 => by
    have ih := verts_len bx es n
    have k := vtx_len bx es (verts bx es n) n
    rw [verts_succ]
    exact ⟨by rw [Nat.add_mul]; omega, by omega⟩
theorem bends_len (i : Nat) : ∀ (b : List Bool) (s : List Cell × Nat × Nat × List Nat), (bends i s b).1.length = s.1.length + b.length ∧ (bends i s b).2.2.2.length = s.2.2.2.length + b.length
  | [], s => ⟨rfl, rfl⟩
  | x :: b, s => by
    have := bends_len i b (bend i s x)
    refine ⟨this.1.trans ?_, this.2.trans ?_⟩
    · simp [bend, join_len]; omega
    · simp [bend]; omega
theorem bends_dir (i : Nat) : ∀ (b : List Bool) (s : List Cell × Nat × Nat × List Nat), (bends i s b).2.2.1 = lastOf s.2.2.1 b
  | [], _ => rfl
  | x :: b, s => bends_dir i b (bend i s x)
theorem edges_take {en : List Nat} {cs : List Cell} {es : List Ed} {i : Nat} {e : Ed} (he : es[i]? = some e) : edges en cs (es.take (i + 1)) = edge en (edges en cs (es.take i)) (e, i) := by
  have hl : i < es.length := (List.getElem?_eq_some_iff.1 he).1
  rw [List.take_add_one, he]
  simp only [edges, Option.toList_some, List.zipIdx_append, List.foldl_append, List.length_take, Nat.min_eq_left (Nat.le_of_lt hl), Nat.zero_add, List.zipIdx_cons, List.zipIdx_nil, List.foldl_cons, List.foldl_nil]
theorem edges_len {en : List Nat} {cs : List Cell} {es : List Ed} {n : Nat} (ok : ∀ e ∈ es, e.Ok n) : ∀ i, (edges en cs (es.take i)).1.length ≤ cs.length + 3 * i ∧ (edges en cs (es.take i)).2.length = min i es.length
  | 0 => ⟨by simp [edges], by simp [edges]⟩
  | i + 1 => by
    have ih := edges_len (en := en) (cs := cs) ok i
    by_cases hi : i < es.length
    · obtain ⟨e, he⟩ : ∃ x, es[i]? = some x := ⟨_, List.getElem?_eq_getElem hi⟩
      have hb := (ok e (List.mem_of_getElem? he)).b
      rw [edges_take he]
      have k := bends_len i e.b ((edges en cs (es.take i)).1, en.getD (2 * i) 0, e.d, [en.getD (2 * i) 0])
      simp only [edge, edge0, join_len, List.length_append, List.length_cons, List.length_nil]
      refine ⟨?_, by omega⟩
      rw [k.1]; simp only; omega
    · have h1 : es.take (i + 1) = es.take i := by rw [List.take_of_length_le (by omega), List.take_of_length_le (by omega)]
      rw [h1]
      exact ⟨by omega, by omega⟩
end Go.Shape
end

section
/- PRINTED by wip/gen.py: what muntin/muntinref11.box does, in the words of Mu. -/
namespace Go.Proofs.YtimadnngfhbfiaaDoor
open Go Go.Mu
/- muntin/muntinref11.box -/
def S50_j1 (K : Sl → Sl → Sl → Sl → H → Prop) (c3_0 : Sl) (c3_1 : Sl) (c3_2 : Sl) (c3_3 : Sl) (h_3 : H) : Prop :=
  K c3_0 c3_1 c3_2 c3_3 h_3
def S50_j2 (v9 : Int) (X : (Int × Sl × Sl × Sl × Sl) → H → Prop) (v51 : Int) (v55 : Int) (v10 : Int) (c3_0_2 : Sl) (c3_1_2 : Sl) (c3_2_2 : Sl) (c3_3_2 : Sl) (h_9 : H) : Prop :=
  S52 c3_0_2 v10 v55 v51 (-1) h_9 (fun (v107_0 : Sl) (v107_1 : Int) (h_10 : H) => X ((IntKind.wrap .i64 (v9 + 1)), v107_0, c3_1_2, c3_2_2, c3_3_2) h_10)
def S50_l3 (v9 : Int) (X : (Int × Sl × Sl × Sl × Sl) → H → Prop) (v51 : Int) (v55 : Int) (v59 : Sl) (X_1 : (Int × Int × Sl × Sl × Sl × Sl) → H → Prop) (v10_1 : Int) (v14 : Int) (c3_0_3 : Sl) (c3_1_3 : Sl) (c3_2_3 : Sl) (c3_3_3 : Sl) (h_11 : H) : Prop :=
  (if (decide (v14 < (v59.l : Int))) = true then S51 1 h_11 (fun (v69 : Sl) (h_12 : H) => ((v69.a = none → v69.l = 0 → v69.c = 0) ∧ appS 51 8 64 c3_0_3 v69 h_12 (fun (v73 : Sl) (h_13 : H) => (∃ a79 : Addr, v59.a = some a79 ∧ 0 ≤ v14 ∧ v14 < (v59.l : Int) ∧ (∃ (v80 : Int), H.rd h_13 (Addr.add a79 (Int.toNat v14 * 1)) = some (.int .i64 v80) ∧ (∃ a84 : Addr, v59.a = some a84 ∧ 0 ≤ v14 ∧ v14 < (v59.l : Int) ∧ (∃ (v85 : Int), H.rd h_13 (Addr.add a84 (Int.toNat v14 * 1)) = some (.int .i64 v85) ∧ (∃ a88 : Addr, c3_2_3.a = some a88 ∧ 0 ≤ (IntKind.wrap .i64 (Int.tdiv v80 2)) ∧ (IntKind.wrap .i64 (Int.tdiv v80 2)) < (c3_2_3.l : Int) ∧ (0 ≤ (Int.tmod v85 2) ∧ (Int.tmod v85 2) < (2 : Int) ∧ (∃ h_14 : H, H.wr h_13 (Addr.add (Addr.add a88 (Int.toNat (IntKind.wrap .i64 (Int.tdiv v80 2)) * 2)) (Int.toNat (Int.tmod v85 2) * 1)) [(.int .i64 (c3_0_3.l : Int))] h_14 ∧ S52 v73 v10_1 v55 (c3_0_3.l : Int) (-1) h_14 (fun (v96_0 : Sl) (v96_1 : Int) (h_15 : H) => X_1 ((c3_0_3.l : Int), (IntKind.wrap .i64 (v14 + 1)), v96_0, c3_1_3, c3_2_3, c3_3_3) h_15))))))))))) else S50_j2 v9 X v51 v55 v10_1 c3_0_3 c3_1_3 c3_2_3 c3_3_3 h_11)
def S50_l4 (p0_0 : Sl) (p1_0 : Sl) (p1_1 : Sl) (p2 : Int) (K : Sl → Sl → Sl → Sl → H → Prop) (X : (Int × Sl × Sl × Sl × Sl) → H → Prop) (v9 : Int) (c3_0_1 : Sl) (c3_1_1 : Sl) (c3_2_1 : Sl) (c3_3_1 : Sl) (h_4 : H) : Prop :=
  (if (decide (v9 < 4)) = true then (∀ (b36 : Nat) (h_5 : H), h_4 b36 = none → h_5 = H.set h_4 b36 (.row ⟨[(.int .i64 (IntKind.wrap .i64 ((p0_0.l : Int) + 1))), (.int .i64 (IntKind.wrap .i64 ((p0_0.l : Int) + 3))), (.int .i64 (p0_0.l : Int)), (.int .i64 (p0_0.l : Int))], 4, 3, true, true⟩) → (∃ a38 : Addr, some ⟨b36, 0, none⟩ = some a38 ∧ 0 ≤ v9 ∧ v9 < (4 : Int) ∧ (∃ (v39 : Int), H.rd h_5 (Addr.add a38 (Int.toNat v9 * 1)) = some (.int .i64 v39) ∧ (∀ (b48 : Nat) (h_6 : H), h_5 b48 = none → h_6 = H.set h_5 b48 (.row ⟨[(.int .i64 (IntKind.wrap .i64 ((p0_0.l : Int) + 2))), (.int .i64 (IntKind.wrap .i64 ((p0_0.l : Int) + 2))), (.int .i64 (IntKind.wrap .i64 ((p0_0.l : Int) + 3))), (.int .i64 (IntKind.wrap .i64 ((p0_0.l : Int) + 1)))], 4, 3, true, true⟩) → (∃ a50 : Addr, some ⟨b48, 0, none⟩ = some a50 ∧ 0 ≤ v9 ∧ v9 < (4 : Int) ∧ (∃ (v51 : Int), H.rd h_6 (Addr.add a50 (Int.toNat v9 * 1)) = some (.int .i64 v51) ∧ (∀ (b52 : Nat) (h_7 : H), h_6 b52 = none → h_7 = H.set h_6 b52 (.row ⟨[(.int .i64 1), (.int .i64 0), (.int .i64 1), (.int .i64 0)], 4, 3, true, true⟩) → (∃ a54 : Addr, some ⟨b52, 0, none⟩ = some a54 ∧ 0 ≤ v9 ∧ v9 < (4 : Int) ∧ (∃ (v55 : Int), H.rd h_7 (Addr.add a54 (Int.toNat v9 * 1)) = some (.int .i64 v55) ∧ S49 p1_0 p1_1 p2 v9 h_7 (fun (v59 : Sl) (h_8 : H) => lfp (fun X_1 s h_11 => S50_l3 v9 X v51 v55 v59 X_1 s.1 s.2.1 s.2.2.1 s.2.2.2.1 s.2.2.2.2.1 s.2.2.2.2.2 h_11) (v39, 0, c3_0_1, c3_1_1, c3_2_1, c3_3_1) h_8)))))))))) else S50_j1 K c3_0_1 c3_1_1 c3_2_1 c3_3_1 h_4)
def S50 (p0_0 : Sl) (p0_1 : Sl) (p0_2 : Sl) (p0_3 : Sl) (p1_0 : Sl) (p1_1 : Sl) (p2 : Int) (h : H) (K : Sl → Sl → Sl → Sl → H → Prop) : Prop :=
  S51 4 h (fun (v20 : Sl) (h_1 : H) => ((v20.a = none → v20.l = 0 → v20.c = 0) ∧ appS 51 8 64 p0_0 v20 h_1 (fun (v24 : Sl) (h_2 : H) => lfp (fun X s h_4 => S50_l4 p0_0 p1_0 p1_1 p2 K X s.1 s.2.1 s.2.2.1 s.2.2.2.1 s.2.2.2.2 h_4) (0, v24, p0_1, p0_2, p0_3) h_2)))
end Go.Proofs.YtimadnngfhbfiaaDoor
end

section
/- PRINTED by wip/gen.py: what muntin/muntinref11.Of does, in the words of Mu. -/
namespace Go.Proofs.YtimadnngfhbfiaaDoor
open Go Go.Mu
/- muntin/muntinref11.Of -/
def S15_j1 (K : Sl → Sl → Sl → Sl → H → Prop) (c3_0_1 : Sl) (c3_1_1 : Sl) (c3_2_1 : Sl) (c3_3_1 : Sl) (h_3 : H) : Prop :=
  K c3_0_1 c3_1_1 c3_2_1 c3_3_1 h_3
def S15_j2 (v10 : Int) (X : (Int × Sl × Sl × Sl × Sl) → H → Prop) (v11 : Int) (v12 : Int) (v13 : Sl) (c3_0_3 : Sl) (c3_1_3 : Sl) (c3_2_3 : Sl) (c3_3_3 : Sl) (h_6 : H) : Prop :=
  (∃ a162 : Addr, c3_2_3.a = some a162 ∧ 0 ≤ v10 ∧ v10 < (c3_2_3.l : Int) ∧ (∃ (v164 : Int), H.rd h_6 (Addr.add (Addr.add a162 (Int.toNat v10 * 2)) 1) = some (.int .i64 v164) ∧ S52 c3_0_3 v11 v12 v164 v10 h_6 (fun (v166_0 : Sl) (v166_1 : Int) (h_7 : H) => (∃ a174 : Addr, c3_2_3.a = some a174 ∧ 0 ≤ v10 ∧ v10 < (c3_2_3.l : Int) ∧ (∃ (v176 : Int), H.rd h_7 (Addr.add (Addr.add a174 (Int.toNat v10 * 2)) 1) = some (.int .i64 v176) ∧ app 3 1 8 v13 1 [(.int .i64 v176)] h_7 (fun (v178 : Sl) (h_8 : H) => app 32 1 24 c3_3_3 1 [(.slice v178.a v178.l v178.c)] h_8 (fun (v183 : Sl) (h_9 : H) => X ((IntKind.wrap .i64 (v10 + 1)), v166_0, c3_1_3, c3_2_3, v183) h_9)))))))
def S15_j3 (v14 : Int) (X_1 : (Int × Int × Sl × Int × Sl × Sl × Sl × Sl) → H → Prop) (v11_2 : Int) (v12_2 : Int) (v13_2 : Sl) (c3_0_5 : Sl) (c3_1_5 : Sl) (c3_2_5 : Sl) (c3_3_5 : Sl) (h_11 : H) : Prop :=
  X_1 (v11_2, v12_2, v13_2, (IntKind.wrap .i64 (v14 + 1)), c3_0_5, c3_1_5, c3_2_5, c3_3_5) h_11
def S15_l4 (p0_1 : Sl) (v10 : Int) (X : (Int × Sl × Sl × Sl × Sl) → H → Prop) (X_1 : (Int × Int × Sl × Int × Sl × Sl × Sl × Sl) → H → Prop) (v11_1 : Int) (v12_1 : Int) (v13_1 : Sl) (v14 : Int) (c3_0_4 : Sl) (c3_1_4 : Sl) (c3_2_4 : Sl) (c3_3_4 : Sl) (h_10 : H) : Prop :=
  (∃ a107 : Addr, p0_1.a = some a107 ∧ 0 ≤ v10 ∧ v10 < (p0_1.l : Int) ∧ (∃ (v109 : ByteArray), H.rd h_10 (Addr.add (Addr.add a107 (Int.toNat v10 * 4)) 3) = some (.string v109) ∧ (if (decide (v14 < (ByteArray.size v109 : Int))) = true then S51 1 h_10 (fun (v117 : Sl) (h_12 : H) => ((v117.a = none → v117.l = 0 → v117.c = 0) ∧ appS 51 8 64 c3_0_4 v117 h_12 (fun (v121 : Sl) (h_13 : H) => S52 v121 v11_1 v12_1 (c3_0_4.l : Int) v10 h_13 (fun (v130_0 : Sl) (v130_1 : Int) (h_14 : H) => app 3 1 8 v13_1 1 [(.int .i64 (c3_0_4.l : Int))] h_14 (fun (v138 : Sl) (h_15 : H) => (∃ a142 : Addr, p0_1.a = some a142 ∧ 0 ≤ v10 ∧ v10 < (p0_1.l : Int) ∧ (∃ (v144 : ByteArray), H.rd h_15 (Addr.add (Addr.add a142 (Int.toNat v10 * 4)) 3) = some (.string v144) ∧ (0 ≤ v14 ∧ v14 < (ByteArray.size v144 : Int) ∧ (if ((byteAt v144 v14) == 76) = true then S15_j3 v14 X_1 (c3_0_4.l : Int) (Int.tmod (IntKind.wrap .i64 (v12_1 + 1)) 4) v138 v130_0 c3_1_4 c3_2_4 c3_3_4 h_15 else S15_j3 v14 X_1 (c3_0_4.l : Int) (Int.tmod (IntKind.wrap .i64 (v12_1 + 3)) 4) v138 v130_0 c3_1_4 c3_2_4 c3_3_4 h_15))))))))) else S15_j2 v10 X v11_1 v12_1 v13_1 c3_0_4 c3_1_4 c3_2_4 c3_3_4 h_10)))
def S15_l5 (p0_1 : Sl) (K : Sl → Sl → Sl → Sl → H → Prop) (X : (Int × Sl × Sl × Sl × Sl) → H → Prop) (v10 : Int) (c3_0_2 : Sl) (c3_1_2 : Sl) (c3_2_2 : Sl) (c3_3_2 : Sl) (h_4 : H) : Prop :=
  (if (decide (v10 < (p0_1.l : Int))) = true then (∃ a92 : Addr, c3_2_2.a = some a92 ∧ 0 ≤ v10 ∧ v10 < (c3_2_2.l : Int) ∧ (∃ (v94 : Int), H.rd h_4 (Addr.add a92 (Int.toNat v10 * 2)) = some (.int .i64 v94) ∧ (∃ a98 : Addr, p0_1.a = some a98 ∧ 0 ≤ v10 ∧ v10 < (p0_1.l : Int) ∧ (∃ (v100 : Int), H.rd h_4 (Addr.add (Addr.add a98 (Int.toNat v10 * 4)) 2) = some (.int .i64 v100) ∧ (∀ (b102 : Nat) (h_5 : H), h_4 b102 = none → h_5 = H.set h_4 b102 (.row ⟨[(.int .i64 v94)], 1, 3, true, true⟩) → lfp (fun X_1 s h_10 => S15_l4 p0_1 v10 X X_1 s.1 s.2.1 s.2.2.1 s.2.2.2.1 s.2.2.2.2.1 s.2.2.2.2.2.1 s.2.2.2.2.2.2.1 s.2.2.2.2.2.2.2 h_10) (v94, v100, ⟨some ⟨b102, 0, none⟩, 1, 1⟩, 0, c3_0_2, c3_1_2, c3_2_2, c3_3_2) h_5))))) else S15_j1 K c3_0_2 c3_1_2 c3_2_2 c3_3_2 h_4)
def S15_j6 (p0_1 : Sl) (K : Sl → Sl → Sl → Sl → H → Prop) (c3_0 : Sl) (c3_1 : Sl) (c3_2 : Sl) (c3_3 : Sl) (h_2 : H) : Prop :=
  lfp (fun X s h_4 => S15_l5 p0_1 K X s.1 s.2.1 s.2.2.1 s.2.2.2.1 s.2.2.2.2 h_4) (0, c3_0, c3_1, c3_2, c3_3) h_2
def S15_j7 (v4 : Int) (X_2 : (Int × Sl × Sl × Sl × Sl) → H → Prop) (c3_0_7 : Sl) (c3_1_7 : Sl) (c3_2_7 : Sl) (c3_3_7 : Sl) (h_17 : H) : Prop :=
  X_2 ((IntKind.wrap .i64 (v4 + 1)), c3_0_7, c3_1_7, c3_2_7, c3_3_7) h_17
def S15_j8 (v7 : Int) (X_3 : Int → H → Prop) (h_23 : H) : Prop :=
  X_3 (IntKind.wrap .i64 (v7 + 1)) h_23
def S15_l9 (c3_0_6 : Sl) (c3_2_6 : Sl) (v7 : Int) (X_3 : Int → H → Prop) (v60 : Sl) (X_4 : Int → H → Prop) (v9 : Int) (h_25 : H) : Prop :=
  (if (decide (v9 < (v60.l : Int))) = true then (∃ a71 : Addr, v60.a = some a71 ∧ 0 ≤ v9 ∧ v9 < (v60.l : Int) ∧ (∃ (v72 : Int), H.rd h_25 (Addr.add a71 (Int.toNat v9 * 1)) = some (.int .i64 v72) ∧ (∃ a76 : Addr, v60.a = some a76 ∧ 0 ≤ v9 ∧ v9 < (v60.l : Int) ∧ (∃ (v77 : Int), H.rd h_25 (Addr.add a76 (Int.toNat v9 * 1)) = some (.int .i64 v77) ∧ (∃ a80 : Addr, c3_2_6.a = some a80 ∧ 0 ≤ (IntKind.wrap .i64 (Int.tdiv v72 2)) ∧ (IntKind.wrap .i64 (Int.tdiv v72 2)) < (c3_2_6.l : Int) ∧ (0 ≤ (Int.tmod v77 2) ∧ (Int.tmod v77 2) < (2 : Int) ∧ (∃ h_26 : H, H.wr h_25 (Addr.add (Addr.add a80 (Int.toNat (IntKind.wrap .i64 (Int.tdiv v72 2)) * 2)) (Int.toNat (Int.tmod v77 2) * 1)) [(.int .i64 (c3_0_6.l : Int))] h_26 ∧ X_4 (IntKind.wrap .i64 (v9 + 1)) h_26))))))) else S15_j8 v7 X_3 h_25)
def S15_l10 (p0_0 : Sl) (p0_1 : Sl) (v4 : Int) (c3_0_6 : Sl) (c3_2_6 : Sl) (c3_3_6 : Sl) (X_2 : (Int × Sl × Sl × Sl × Sl) → H → Prop) (v36 : Sl) (v51 : Sl) (X_3 : Int → H → Prop) (v7 : Int) (h_22 : H) : Prop :=
  (if (decide (v7 < 4)) = true then S49 p0_0 p0_1 v4 v7 h_22 (fun (v60 : Sl) (h_24 : H) => lfp (fun X_4 s h_25 => S15_l9 c3_0_6 c3_2_6 v7 X_3 v60 X_4 s h_25) 0 h_24) else S15_j7 v4 X_2 v51 v36 c3_2_6 c3_3_6 h_22)
def S15_l11 (p0_0 : Sl) (p0_1 : Sl) (K : Sl → Sl → Sl → Sl → H → Prop) (X_2 : (Int × Sl × Sl × Sl × Sl) → H → Prop) (v4 : Int) (c3_0_6 : Sl) (c3_1_6 : Sl) (c3_2_6 : Sl) (c3_3_6 : Sl) (h_16 : H) : Prop :=
  (if (decide (v4 < (p0_0.l : Int))) = true then app 3 1 8 c3_1_6 1 [(.int .i64 (c3_0_6.l : Int))] h_16 (fun (v36 : Sl) (h_18 : H) => (∃ a41 : Addr, p0_0.a = some a41 ∧ 0 ≤ v4 ∧ v4 < (p0_0.l : Int) ∧ (∃ (v42 : Bool), H.rd h_18 (Addr.add a41 (Int.toNat v4 * 1)) = some (.bool v42) ∧ (if v42 = true then S50 c3_0_6 v36 c3_2_6 c3_3_6 p0_0 p0_1 v4 h_18 (fun (v46_0 : Sl) (v46_1 : Sl) (v46_2 : Sl) (v46_3 : Sl) (h_19 : H) => S15_j7 v4 X_2 v46_0 v46_1 v46_2 v46_3 h_19) else S51 1 h_18 (fun (v47 : Sl) (h_20 : H) => ((v47.a = none → v47.l = 0 → v47.c = 0) ∧ appS 51 8 64 c3_0_6 v47 h_20 (fun (v51 : Sl) (h_21 : H) => lfp (fun X_3 s h_22 => S15_l10 p0_0 p0_1 v4 c3_0_6 c3_2_6 c3_3_6 X_2 v36 v51 X_3 s h_22) 0 h_21))))))) else S15_j6 p0_1 K c3_0_6 c3_1_6 c3_2_6 c3_3_6 h_16)
def S15 (p0_0 : Sl) (p0_1 : Sl) (h : H) (K : Sl → Sl → Sl → Sl → H → Prop) : Prop :=
  ((0 : Int) ≤ (p0_1.l : Int) ∧ (p0_1.l : Int) ≤ (p0_1.l : Int) ∧ 16 * (p0_1.l : Int) ≤ (281474976710656 : Int) ∧ (p0_1.l : Int) ≤ 9223372036854775807 ∧ (∀ (b20 : Nat) (h_1 : H), h b20 = none → h_1 = H.set h b20 (.row ⟨zeros (.agg #[(.int .i64 0), (.int .i64 0)]) (Int.toNat (p0_1.l : Int) * 2), (zeros (.agg #[(.int .i64 0), (.int .i64 0)]) (Int.toNat (p0_1.l : Int) * 2)).length, 116, true, true⟩) → lfp (fun X_2 s h_16 => S15_l11 p0_0 p0_1 K X_2 s.1 s.2.1 s.2.2.1 s.2.2.2.1 s.2.2.2.2 h_16) (0, Sl.nil, Sl.nil, ⟨some ⟨b20, 0, none⟩, Int.toNat (p0_1.l : Int), Int.toNat (p0_1.l : Int)⟩, Sl.nil) h_1))
end Go.Proofs.YtimadnngfhbfiaaDoor
end

section
/-
  The reference's norm, in the heap.
-/
namespace Go.Proofs.YtimadnngfhbfiaaDoor
open Go Go.Mu Go.Shape
variable {h h0 : H}

inductive Ro where
  | cells | first | ends | ways | tmp | cur
  | way (i : Nat)
/-- The reference's norm, by roles. -/
def refM (c f e w : Sl) (cs : List Cell) (fi en : List Nat) (ws : List (Sl × List Nat)) (t u : Res) : Ro → Res
  | .cells => .arr c 51 8 (cs.flatMap Cell.enc)
  | .first => .arr f 3 1 (fi.flatMap encN)
  | .ends => .arr e 116 2 (en.flatMap encN)
  | .ways => .arr w 32 1 (ws.flatMap fun p => [p.1.v])
  | .tmp => t
  | .cur => u
  | .way i => match ws[i]? with
    | some p => .arr p.1 3 1 (p.2.flatMap encN)
    | none => .no
section
variable {c f e w : Sl} {cs : List Cell} {fi en : List Nat} {ws : List (Sl × List Nat)} {t u : Res}
theorem refM_cells (c' : Sl) (cs' : List Cell) : put (refM c f e w cs fi en ws t u) .cells (.arr c' 51 8 (cs'.flatMap Cell.enc)) = refM c' f e w cs' fi en ws t u := by funext r; cases r <;> simp [put, refM]
theorem refM_first (f' : Sl) (fi' : List Nat) : put (refM c f e w cs fi en ws t u) .first (.arr f' 3 1 (fi'.flatMap encN)) = refM c f' e w cs fi' en ws t u := by funext r; cases r <;> simp [put, refM]
theorem refM_ends (e' : Sl) (en' : List Nat) : put (refM c f e w cs fi en ws t u) .ends (.arr e' 116 2 (en'.flatMap encN)) = refM c f e' w cs fi en' ws t u := by funext r; cases r <;> simp [put, refM]
theorem refM_tmp (t' : Res) : put (refM c f e w cs fi en ws t u) .tmp t' = refM c f e w cs fi en ws t' u := by funext r; cases r <;> simp [put, refM]
theorem refM_cur (u' : Res) : put (refM c f e w cs fi en ws t u) .cur u' = refM c f e w cs fi en ws t u' := by funext r; cases r <;> simp [put, refM]
end

/-- What a call adds is held in a role. -/
theorem St.with {ρ : Type} {M : ρ → Res} {h' : H} {x : Res} (st : St h0 h M) (st2 : St h h' (fun _ : Unit => x)) (r : ρ) : St h0 h' (put M r x) := by
  refine (st.plus st2).re _ (fun i => open Classical in if i = r then .inr () else .inl i) (fun i => ?_) (fun i j _ _ e => ?_)
  · by_cases hi : i = r
    · subst hi; rw [put_eq, if_pos rfl]; exact .inr rfl
    · rw [put_ne _ _ hi, if_neg hi]; exact .inr rfl
  · by_cases hi : i = r <;> by_cases hj : j = r
    · rw [hi, hj]
    · rw [if_pos hi, if_neg hj] at e; cases e
    · rw [if_neg hi, if_pos hj] at e; cases e
    · rw [if_neg hi, if_neg hj] at e; exact Sum.inl.inj e
theorem enc1N (l : List Nat) : ∀ x ∈ l, (encN x).length = 1 := fun _ _ => rfl
/-- An end's place is written. -/
theorem wrEnd {ρ : Type} {M : ρ → Res} {r : ρ} {e : Sl} {en : List Nat} {k p : Nat} {ne : Nat} (st : St h0 h M) (hr : M r = .arr e 116 2 (en.flatMap encN)) (hk : k < en.length) (hl : en.length = 2 * ne) :
    e.l = ne ∧ ∃ a, e.a = some a ∧ ∃ h', H.wr h (a.add k) [.int .i64 (p : Int)] h' ∧ St h0 h' (put M r (.arr e 116 2 ((en.set k p).flatMap encN))) := by
  have o := st.own r hr
  have hlen : (en.flatMap encN).length = en.length := by rw [flatMap_len (size := 1) (enc1N en), Nat.mul_one]
  have h2 : e.l = ne := by have := o.1; omega
  refine ⟨h2, ?_⟩
  rcases o.2 with ⟨hv, hz⟩ | ⟨g, cap, hv, _⟩
  · omega
  · simp only [Value.slice.injEq] at hv
    refine ⟨_, hv.1, ?_⟩
    refine st.wrArr r hr hv.1 (by rw [hlen]; exact hk) _ ?_ (put_or _ _ _)
    have := setL_flatMap (enc := encN) (size := 1) (j := 0) (y := p) (v := .int .i64 (p : Int)) (by decide) (l := en) (i := k) (x := en[k]) (enc1N en) (List.getElem?_eq_getElem hk) rfl
    rw [Nat.mul_one, Nat.add_zero] at this
    rw [put_eq, this]
theorem rdEnd {ρ : Type} {M : ρ → Res} {r : ρ} {e : Sl} {en : List Nat} {k : Nat} {ne : Nat} (st : St h0 h M) (hr : M r = .arr e 116 2 (en.flatMap encN)) (hk : k < en.length) (hl : en.length = 2 * ne) :
    e.l = ne ∧ ∃ a, e.a = some a ∧ h.rd (a.add k) = some (.int .i64 ((en.getD k 0 : Nat) : Int)) := by
  have o := st.own r hr
  have hlen : (en.flatMap encN).length = en.length := by rw [flatMap_len (size := 1) (enc1N en), Nat.mul_one]
  have h2 : e.l = ne := by have := o.1; omega
  refine ⟨h2, ?_⟩
  rcases o.2 with ⟨hv, hz⟩ | ⟨g, cap, hv, hg, _⟩
  · omega
  · simp only [Value.slice.injEq] at hv
    refine ⟨_, hv.1, ?_⟩
    rw [Addr.add_n]
    simp only [H.rd, hg, Nat.zero_add]
    have := flatMap_at (enc := encN) (size := 1) (l := en) (i := k) (j := 0) (x := en[k]) (v := .int .i64 ((en[k] : Nat) : Int)) (enc1N en) (List.getElem?_eq_getElem hk) rfl
    rw [Nat.mul_one, Nat.add_zero] at this
    rw [this, List.getD_eq_getElem?_getD, List.getElem?_eq_getElem hk]; rfl
theorem div2 {k : Nat} (hk : k < 4611686018427387904) : IntKind.i64.wrap (Int.tdiv (k : Int) 2) = ((k / 2 : Nat) : Int) := wrapN rfl (by omega)
theorem mod2' (k : Nat) : Int.tmod (k : Int) 2 = ((k % 2 : Nat) : Int) := rfl
theorem lit_rd {b n e : Nat} {cells : List Value} {i : Nat} {v : Value} (hv : cells[i]? = some v) : (h.set b (.row ⟨cells, n, e, true, true⟩)).rd (Addr.add ⟨b, 0, none⟩ i) = some v := by
  rw [Addr.add_n]
  simp [H.rd, H.set_eq, hv]

theorem lit_rd' {h' : H} {b n e : Nat} {cells : List Value} {i : Nat} {v : Value} (eh : h' = h.set b (.row ⟨cells, n, e, true, true⟩)) (hv : cells[i]? = some v) : h'.rd (Addr.add ⟨b, 0, none⟩ i) = some v := by
  rw [eh]; exact lit_rd hv
theorem le_new {h' : H} {b : Nat} {x : Blk} (hb : h b = none) (e : h' = h.set b x) : h.Le h' := by rw [e]; exact H.Le.put x hb

theorem c50 {c f e w p0 p1 : Sl} {cs : List Cell} {fi en : List Nat} {bx : List Bool} {es : List Ed} {v : Nat} {ws : List (Sl × List Nat)} {t u : Res} (sh : Shp h0 p0 p1 bx es) (st : St h0 h (refM c f e w cs fi en ws t u)) (hn : cs.length < 4000)
    (hen : en.length = 2 * es.length) {K : Sl → Sl → Sl → Sl → H → Prop} (k : ∀ c' h', St h0 h' (refM c' f e w (box es v (cs, en)).1 fi (box es v (cs, en)).2 ws .no u) → K c' f e w h') : S50 c f e w p0 p1 v h K := by
  have hes := sh.le
  have hcl : c.l = cs.length := (st.arr .cells rfl (enc8 cs) (by decide)).1
  unfold S50
  refine c51 st (r := .cells) rfl (by decide) (by decide) (by omega) fun c4 h4 st4 _ => ?_
  rw [refM_cells] at st4
  refine lfp.count 4 (fun d (s : Int × Sl × Sl × Sl × Sl) h' => ∃ c', s = ((d : Int), c', f, e, w) ∧ ∃ t', St h0 h' (refM c' f e w (bSides es v cs.length (cs ++ List.replicate 4 Cell.empty, en) d).1 fi (bSides es v cs.length (cs ++ List.replicate 4 Cell.empty, en) d).2 ws t' u))
    (fun X d s h' hd ⟨c', q1, t', st5⟩ next => ?_) ⟨c4, rfl, t, st4⟩
  subst q1
  simp only
  have bl := bSides_len es v cs.length (cs ++ List.replicate 4 Cell.empty, en) d
  generalize hsd : bSides es v cs.length (cs ++ List.replicate 4 Cell.empty, en) d = sd at st5 bl
  have hm4 : d * (2 * es.length) ≤ 4 * 32 := Nat.mul_le_mul (by omega) (by omega)
  unfold S50_l4 S50_j1
  rw [hcl]
  by_cases hlt : d < 4
  · rw [if_pos (by simp only [decide_eq_true_eq]; omega)]
    have hfrom : ([(.int .i64 (IntKind.wrap .i64 ((cs.length : Int) + 1))), (.int .i64 (IntKind.wrap .i64 ((cs.length : Int) + 3))), (.int .i64 (cs.length : Int)), (.int .i64 (cs.length : Int))] : List Value)[d]? = some (.int .i64 ((fromP cs.length d : Nat) : Int)) := by
      rw [wrapN (x := (cs.length : Int) + 1) (n := cs.length + 1) (by omega) (by omega), wrapN (x := (cs.length : Int) + 3) (n := cs.length + 3) (by omega) (by omega)]
      rcases cases4 hlt with rfl | rfl | rfl | rfl <;> rfl
    have hto : ([(.int .i64 (IntKind.wrap .i64 ((cs.length : Int) + 2))), (.int .i64 (IntKind.wrap .i64 ((cs.length : Int) + 2))), (.int .i64 (IntKind.wrap .i64 ((cs.length : Int) + 3))), (.int .i64 (IntKind.wrap .i64 ((cs.length : Int) + 1)))] : List Value)[d]? = some (.int .i64 ((toP cs.length d : Nat) : Int)) := by
      rw [wrapN (x := (cs.length : Int) + 2) (n := cs.length + 2) (by omega) (by omega), wrapN (x := (cs.length : Int) + 3) (n := cs.length + 3) (by omega) (by omega), wrapN (x := (cs.length : Int) + 1) (n := cs.length + 1) (by omega) (by omega)]
      rcases cases4 hlt with rfl | rfl | rfl | rfl <;> rfl
    have hway : ([(.int .i64 1), (.int .i64 0), (.int .i64 1), (.int .i64 0)] : List Value)[d]? = some (.int .i64 ((wayP d : Nat) : Int)) := by
      rcases cases4 hlt with rfl | rfl | rfl | rfl <;> rfl
    intro b1 h1 n1 e1
    refine ⟨_, rfl, by omega, by omega, _, by rw [Nat.mul_one, Int.toNat_natCast]; exact lit_rd' e1 hfrom, ?_⟩
    intro b2 h2 n2 e2
    refine ⟨_, rfl, by omega, by omega, _, by rw [Nat.mul_one, Int.toNat_natCast]; exact lit_rd' e2 hto, ?_⟩
    intro b3 h3 n3 e3
    refine ⟨_, rfl, by omega, by omega, _, by rw [Nat.mul_one, Int.toNat_natCast]; exact lit_rd' e3 hway, ?_⟩
    have st6 := ((st5.le' (le_new n1 e1)).le' (le_new n2 e2)).le' (le_new n3 e3)
    refine c49 (sh.e.le st6.le) sh.ok (by omega) fun l h7 stl ll => ?_
    have st7 := St.with st6 stl .tmp
    rw [refM_tmp] at st7
    have hol := on_len es v d
    -- the ends, one after the other
    refine lfp.count (on es v d).length (fun i (s : Int × Int × Sl × Sl × Sl × Sl) h' => ∃ c', s = ((((bEnds (wayP d) (sd.1, sd.2, fromP cs.length d) ((on es v d).take i)).2.2 : Nat) : Int), (i : Int), c', f, e, w) ∧
        St h0 h' (refM c' f e w (bEnds (wayP d) (sd.1, sd.2, fromP cs.length d) ((on es v d).take i)).1 fi (bEnds (wayP d) (sd.1, sd.2, fromP cs.length d) ((on es v d).take i)).2.1 ws (.arr l 3 1 ((on es v d).flatMap encN)) u))
      (fun Y i s h' hi ⟨c', q1, st8⟩ nxt => ?_) ⟨c', rfl, st7⟩
    subst q1
    simp only
    have el := bEnds_len (wayP d) ((on es v d).take i) (sd.1, sd.2, fromP cs.length d)
    rw [List.length_take] at el
    simp only [List.length_append, List.length_replicate] at el bl
    generalize hr : bEnds (wayP d) (sd.1, sd.2, fromP cs.length d) ((on es v d).take i) = r at st8 el
    have hcl' : c'.l = r.1.length := (st8.arr .cells rfl (enc8 r.1) (by decide)).1
    have rdl : Rd h' l 1 encN (on es v d) := st8.arr .tmp rfl (enc1N _) (by decide)
    unfold S50_l3
    rw [ll]
    by_cases hi2 : i < (on es v d).length
    · rw [if_pos (by simp only [decide_eq_true_eq]; omega)]
      obtain ⟨x, hx⟩ : ∃ x, (on es v d)[i]? = some x := ⟨_, List.getElem?_eq_getElem hi2⟩
      have hxl := on_lt (List.mem_of_getElem? hx)
      refine c51 st8 (r := .cells) rfl (by decide) (by decide) (by omega) fun c9 h9 st9 _ => ?_
      rw [refM_cells, List.replicate_one] at st9
      have rdl9 : Rd h9 l 1 encN (on es v d) := st9.arr .tmp rfl (enc1N _) (by decide)
      obtain ⟨a, ha, hrd⟩ := rdl9.ix hx
      refine ⟨a, ha, by omega, by omega, x, by rw [Int.toNat_natCast]; exact hrd.at0, a, ha, by omega, by omega, x, by rw [Int.toNat_natCast]; exact hrd.at0, ?_⟩
      obtain ⟨hel, a2, ha2, h10, w10, st10⟩ := wrEnd (p := r.1.length) st9 (r := .ends) rfl (k := x) (by omega) (by omega : r.2.1.length = 2 * es.length)
      rw [refM_ends] at st10
      rw [div2 (by omega), mod2', hcl']
      refine ⟨a2, ha2, by omega, by omega, by omega, by omega, h10, ?_, ?_⟩
      · rw [Addr.add_add, Nat.mul_one, Int.toNat_natCast, Int.toNat_natCast, Nat.div_add_mod']; exact w10
      refine c52 st10 (r := .cells) rfl (wayP_lt d) (by decide) (by simp only [List.length_append, List.length_cons, List.length_nil]; omega) fun c11 ee h11 st11 _ => ?_
      rw [refM_cells] at st11
      have eq := take_foldl (bEnd (wayP d)) (sd.1, sd.2, fromP cs.length d) _ hx
      have hr' : ((on es v d).take i).foldl (bEnd (wayP d)) (sd.1, sd.2, fromP cs.length d) = r := hr
      rw [hr'] at eq
      refine nxt hi2 _ _ ⟨c11, ?_, ?_⟩
      · show _ = _
        unfold bEnds
        rw [eq, wsucc (by omega)]; rfl
      · unfold bEnds
        rw [eq]; exact st11
    · rw [if_neg (by simp only [decide_eq_true_eq]; omega)]
      unfold S50_j2
      refine c52 st8 (r := .cells) rfl (wayP_lt d) (by decide) (by omega) fun c11 ee h11 st11 _ => ?_
      rw [refM_cells] at st11
      have e9 : bSides es v cs.length (cs ++ List.replicate 4 Cell.empty, en) (d + 1) = bSide es v cs.length sd d := by
        rw [← hsd]; exact range_foldl _ _ _
      rw [List.take_of_length_le (by omega)] at hr
      refine next hlt _ _ ⟨c11, by rw [wsucc (by omega)], .arr l 3 1 ((on es v d).flatMap encN), ?_⟩
      rw [e9]
      unfold bSide
      rw [hr]
      exact st11
  · rw [if_neg (by simp only [decide_eq_true_eq]; omega)]
    have : d = 4 := by omega
    subst this
    refine k c' h' ?_
    have e : box es v (cs, en) = sd := hsd
    rw [e]
    refine st5.re _ id (fun i => ?_) (fun i j _ _ e => e)
    cases i <;> first | exact .inr rfl | exact .inl rfl
end Go.Proofs.YtimadnngfhbfiaaDoor
end

section
/- BY HAND: what slices.Compact does with its own row of numbers. -/
namespace Go.Proofs.YtimadnngfhbfiaaDoor
open Go Go.Mu
def S111 (p0 : Sl) (h : H) (K : Sl → H → Prop) : Prop :=
  (p0 = Sl.nil ∧ K p0 h) ∨ ∃ (g c : Nat) (r : Row) (zs : List Int), p0 = ⟨some ⟨g, 0, none⟩, zs.length, c⟩ ∧ zs.length ≤ c ∧ zs.length ≤ 1000000 ∧ h g = some (.row r) ∧ r.wr = true ∧ r.cells = zs.map (.int .i64) ∧
    ∀ r', r' = { r with cells := (Lib.compact zs ++ List.replicate (zs.length - (Lib.compact zs).length) 0).map (.int .i64) } → K ⟨some ⟨g, 0, none⟩, (Lib.compact zs).length, c⟩ (h.set g (.row r'))
end Go.Proofs.YtimadnngfhbfiaaDoor
end

section
/- BY HAND: what slices.Sorted(slices.Values(xs)) does. -/
namespace Go.Proofs.YtimadnngfhbfiaaDoor
open Go Go.Mu
def sorted (xs : List Int) : List Int := xs.mergeSort fun x y => decide (x ≤ y)
def S112 (p0 : Value) (h : H) (K : Sl → H → Prop) : Prop :=
  ∃ (b : Nat) (s : Sl) (xs : List Int), p0 = .func (.func 125) #[] #[.pointer (some ⟨b, 0, none⟩)] ∧ h.rd ⟨b, 0, none⟩ = some s.v ∧ xs.length ≤ 1000000 ∧
    ((s = Sl.nil ∧ xs = [] ∧ K Sl.nil h) ∨ (xs ≠ [] ∧ s.l = xs.length ∧ (∃ a, s.a = some a ∧ h.rdn a xs.length (xs.map (.int .i64))) ∧
      ∀ (g c : Nat) (h1 : H), h g = none → xs.length ≤ c → h1 = h.set g (.row ⟨(sorted xs).map (.int .i64), c, 3, true, true⟩) → K ⟨some ⟨g, 0, none⟩, xs.length, c⟩ h1))
end Go.Proofs.YtimadnngfhbfiaaDoor
end

section
/-
  Ranks: what the program's way and the document's give. Pure; and small laws of rows.
-/
namespace Go.Rk
open Go.Lib
theorem compactUpTo_mem (d : Array Int) (x : Int) : ∀ m, x ∈ compactUpTo d m ↔ ∃ j, j < m ∧ d[j]! = x
  | 0 => by simp [compactUpTo]
  | m + 1 => by
    rw [compactUpTo_succ, List.mem_append, compactUpTo_mem d x m]
    constructor
    · rintro (⟨j, hj, e⟩ | h)
      · exact ⟨j, by omega, e⟩
      · split at h
        · simp at h; exact ⟨m, by omega, h.symm⟩
        · simp at h
    · rintro ⟨j, hj, e⟩
      by_cases hm : j < m
      · exact .inl ⟨j, hm, e⟩
      · obtain rfl : j = m := by omega
        by_cases hk : keeps d j = true
        · right; rw [if_pos hk]; simp [e]
        · left
          have h1 : ¬ (d[j]! ≠ d[j - 1]!) := fun h => hk (keeps_pos h)
          have h0 : j ≠ 0 := fun h => hk (keeps_lt_one d j (by omega))
          exact ⟨j - 1, by omega, by rw [← e]; exact (Decidable.not_not.1 h1).symm⟩
theorem compactUpTo_lt (d : Array Int) (hs : ∀ i j, i ≤ j → j < d.size → d[i]! ≤ d[j]!) : ∀ m, m ≤ d.size → (compactUpTo d m).Pairwise (· < ·)
  | 0, _ => by simp [compactUpTo]
  | m + 1, hm => by
    rw [compactUpTo_succ, List.pairwise_append]
    refine ⟨compactUpTo_lt d hs m (by omega), by split <;> simp, ?_⟩
    intro a ha b hb
    split at hb
    · rename_i hk
      simp at hb; subst hb
      obtain ⟨j, hj, rfl⟩ := (compactUpTo_mem d a m).1 ha
      have h1 := hs j (m - 1) (by omega) (by omega)
      have h2 := hs (m - 1) m (by omega) (by omega)
      have h3 : d[m]! ≠ d[m - 1]! := by
        intro e; rw [keeps_neg (by omega) e] at hk; cases hk
      omega
    · simp at hb
def srt (xs : List Int) : List Int := xs.mergeSort fun x y => decide (x ≤ y)
theorem srt_pw (xs : List Int) : (srt xs).Pairwise (· ≤ ·) := by
  have := List.pairwise_mergeSort (le := fun x y : Int => decide (x ≤ y)) (by simp; omega) (by simp; omega) xs
  exact this.imp (by simp)
def dist (xs : List Int) : List Int := compact (srt xs)
theorem dist_mem (xs : List Int) (x : Int) : x ∈ dist xs ↔ x ∈ xs := by
  unfold dist compact
  rw [compactUpTo_mem]
  rw [← (List.mergeSort_perm xs fun x y => decide (x ≤ y)).mem_iff]
  show _ ↔ x ∈ srt xs
  constructor
  · rintro ⟨j, hj, rfl⟩
    simp [hj]
  · intro h
    obtain ⟨j, hj, e⟩ := List.getElem_of_mem h
    exact ⟨j, hj, by simp [hj, e]⟩
theorem dist_pw (xs : List Int) : (dist xs).Pairwise (· < ·) := by
  refine compactUpTo_lt _ (fun i j hij hj => ?_) _ (by simp)
  simp at hj
  rcases Nat.lt_or_ge i j with h | h
  · have := List.pairwise_iff_getElem.1 (srt_pw xs) i j (by omega) hj h
    simpa [hj, show i < (srt xs).length by omega] using this
  · obtain rfl : i = j := by omega
    exact Int.le_refl _
def rank (xs : List Int) (v : Int) : Nat := (dist xs).countP fun y => decide (y < v)
def lessF (v : Int) (l : List Int) (x : Int) : List Int := if x < v ∧ x ∉ l then l ++ [x] else l
def lessL (xs : List Int) (v : Int) : List Int := xs.foldl (lessF v) []
theorem lessF_mem (v : Int) (x : Int) : ∀ (xs l : List Int), x ∈ xs.foldl (lessF v) l ↔ x ∈ l ∨ (x ∈ xs ∧ x < v)
  | [], l => by simp
  | y :: xs, l => by
    rw [List.foldl_cons, lessF_mem v x xs]
    unfold lessF
    split
    · rename_i h
      simp only [List.mem_append, List.mem_cons, List.not_mem_nil, or_false]
      constructor
      · rintro ((h1 | rfl) | h1)
        · exact .inl h1
        · exact .inr ⟨.inl rfl, h.1⟩
        · exact .inr ⟨.inr h1.1, h1.2⟩
      · rintro (h1 | ⟨rfl | h1, h2⟩)
        · exact .inl (.inl h1)
        · exact .inl (.inr rfl)
        · exact .inr ⟨h1, h2⟩
    · rename_i h
      simp only [List.mem_cons]
      constructor
      · rintro (h1 | h1)
        · exact .inl h1
        · exact .inr ⟨.inr h1.1, h1.2⟩
      · rintro (h1 | ⟨rfl | h1, h2⟩)
        · exact .inl h1
        · refine .inl (Decidable.byContradiction fun h3 => h ⟨h2, h3⟩)
        · exact .inr ⟨h1, h2⟩
theorem lessF_nodup (v : Int) : ∀ (xs l : List Int), l.Nodup → (xs.foldl (lessF v) l).Nodup
  | [], _, h => h
  | y :: xs, l, h => by
    rw [List.foldl_cons]
    refine lessF_nodup v xs _ ?_
    unfold lessF
    split
    · rename_i h2
      rw [List.nodup_append]
      exact ⟨h, by simp, fun a ha b hb e => by simp at hb; subst hb; subst e; exact h2.2 ha⟩
    · exact h
theorem rank_eq (xs : List Int) (v : Int) : (lessL xs v).length = rank xs v := by
  unfold rank
  rw [List.countP_eq_length_filter]
  refine List.Perm.length_eq ((List.perm_ext_iff_of_nodup (lessF_nodup v xs [] (by simp)) ?_).2 fun a => ?_)
  · exact ((dist_pw xs).filter _).imp fun h => Int.ne_of_lt h
  · rw [lessF_mem]
    simp [dist_mem]
theorem lessL_take {xs : List Int} {v : Int} {i : Nat} {x : Int} (e : xs[i]? = some x) : lessL (xs.take (i + 1)) v = lessF v (lessL (xs.take i) v) x := by
  rw [List.take_add_one, e]; simp [lessL]
theorem lessL_len (xs : List Int) (v : Int) : (lessL xs v).length ≤ xs.length := by
  have key : ∀ (xs l : List Int), (xs.foldl (lessF v) l).length ≤ l.length + xs.length := by
    intro xs
    induction xs with
    | nil => simp
    | cons x xs ih =>
      intro l
      rw [List.foldl_cons]
      refine Nat.le_trans (ih _) ?_
      unfold lessF
      split <;> simp <;> omega
  simpa [lessL] using key xs []
theorem rank_le (xs : List Int) (v : Int) : rank xs v ≤ xs.length := by rw [← rank_eq]; exact lessL_len xs v
end Go.Rk
namespace Go.Mu
variable {h h0 : H}
theorem St.pre {ρ : Type} {M : ρ → Res} {h1 h2 : H} (le : h0.Le h1) (s : St h1 h2 M) : St h0 h2 M := ⟨le.trans s.le, s.ok, fun r b e => none_of_le le (s.new r b e), s.inj⟩
theorem setL_right (a : List Value) : ∀ (vs b : List Value) (j : Nat), setL (a ++ b) (a.length + j) vs = a ++ setL b j vs
  | [], _, _ => rfl
  | v :: vs, b, j => by
    rw [setL, setL, List.set_append_right _ _ (by omega), Nat.add_sub_cancel_left, Nat.add_assoc]
    exact setL_right a vs _ _
theorem setL_left : ∀ (vs a b : List Value) (j : Nat), j + vs.length = a.length → setL (a ++ b) j vs = a.take j ++ vs ++ b
  | [], a, b, j, e => by simp at e; rw [setL, e]; simp
  | v :: vs, a, b, j, e => by
    simp at e
    rw [setL, List.set_append_left _ _ (by omega), setL_left vs _ b _ (by simp; omega)]
    rw [List.take_set, List.take_succ_eq_append_getElem (show j < a.length by omega), List.set_append_right _ _ (by simp; omega)]
    simp [Nat.min_eq_left (show j ≤ a.length by omega)]
theorem setL_block {α : Type} {enc : α → List Value} {size : Nat} (hsz : ∀ x, (enc x).length = size) (y : α) : ∀ (l : List α) (i : Nat), i < l.length → setL (l.flatMap enc) (i * size) (enc y) = (l.set i y).flatMap enc
  | [], _, h => by simp at h
  | x :: l, 0, _ => by
    rw [List.flatMap_cons, Nat.zero_mul, setL_left _ _ _ _ (by rw [Nat.zero_add, hsz, hsz])]; simp
  | x :: l, i + 1, h => by
    rw [List.flatMap_cons, Nat.add_mul, Nat.one_mul, Nat.add_comm, ← hsz x, setL_right, hsz x, setL_block hsz y l i (by simpa using h)]; rfl
/-- An element is written. -/
theorem wrAt {ρ : Type} {M : ρ → Res} {r : ρ} {s : Sl} {e size : Nat} {α : Type} {enc : α → List Value} {l : List α} {i : Nat} {a : Addr} (y : α) (st : St h0 h M) (hr : M r = .arr s e size (l.flatMap enc)) (hsz : ∀ x, (enc x).length = size) (hi : i < l.length) (ha : s.a = some a) :
    ∃ h', H.wr h (a.add (i * size)) (enc y) h' ∧ St h0 h' (put M r (.arr s e size ((l.set i y).flatMap enc))) := by
  refine st.wrArr r hr ha ?_ _ ?_ (put_or _ _ _)
  · rw [hsz, flatMap_len (size := size) fun x _ => hsz x, ← Nat.succ_mul]
    exact Nat.mul_le_mul_right _ hi
  · rw [put_eq, setL_block hsz y l i hi]
theorem put_unit (x y : Res) : put (fun _ : Unit => x) () y = fun _ => y := by funext u; simp [put]
/-- An element is appended. -/
theorem app1 {ρ : Type} {M : ρ → Res} (r : ρ) {s : Sl} {e size bytes : Nat} {α : Type} {enc : α → List Value} {l : List α} (y : α) (st : St h0 h M) (hr : M r = .arr s e size (l.flatMap enc)) (hsz : ∀ x, (enc x).length = size) (hp : 0 < size) (hl : l.length < 100000) (hb : bytes ≤ 1000) {K : Sl → H → Prop}
    (k : ∀ s' h', St h0 h' (put M r (.arr s' e size ((l ++ [y]).flatMap enc))) → K s' h') : app e size bytes s 1 (enc y) h K := by
  have hlen := (st.arr r hr (fun x _ => hsz x) hp).1
  refine ⟨_, _, st.own r hr, by simp only [maxLen]; omega, ?_, fun s' h' ap => ?_⟩
  · have : (s.l + 1) * bytes ≤ 100001 * 1000 := Nat.mul_le_mul (by omega) hb
    omega
  · obtain ⟨st1, _⟩ := st.app r hr rfl (by rw [hsz, Nat.one_mul]) ap (put M r (.arr s' e size ((l ++ [y]).flatMap enc))) (by rw [put_eq, List.flatMap_append]; simp) (put_or _ _ _)
    exact k _ _ st1
end Go.Mu
end

section
/- BY HAND: what slices.Values does. -/
namespace Go.Proofs.YtimadnngfhbfiaaDoor
open Go Go.Mu
def S113 (p0 : Sl) (h : H) (K : Value → H → Prop) : Prop :=
  ∀ (b : Nat) (h1 : H), h b = none → h1 = h.set b (.row ⟨[p0.v], 1, 32, true, true⟩) → K (.func (.func 125) #[] #[.pointer (some ⟨b, 0, none⟩)]) h1
end Go.Proofs.YtimadnngfhbfiaaDoor
end

section
/- BY HAND: what slices.BinarySearch does. -/
namespace Go.Proofs.YtimadnngfhbfiaaDoor
open Go Go.Mu
def S114 (p0 : Sl) (p1 : Int) (h : H) (K : Int → Bool → H → Prop) : Prop :=
  ∃ zs : List Int, p0.l = zs.length ∧ zs.length ≤ 1000000 ∧ zs.Pairwise (· ≤ ·) ∧ (zs = [] ∨ ∃ b o, p0.a = some ⟨b, o, none⟩ ∧ h.rdn ⟨b, o, none⟩ zs.length (zs.map (.int .i64))) ∧
    K ((zs.countP fun y => decide (y < p1) : Nat) : Int) (zs.contains p1) h
end Go.Proofs.YtimadnngfhbfiaaDoor
end

section
/- PRINTED by wip/gen.py: what muntin/dag.ranks[int] does, in the words of Mu. -/
namespace Go.Proofs.YtimadnngfhbfiaaDoor
open Go Go.Mu
/- muntin/dag.ranks[int] -/
def S104_j1 (p0 : Sl) (K : Sl → H → Prop) (b13 : Nat) (h_5 : H) : Prop :=
  K ⟨some ⟨b13, 0, none⟩, Int.toNat (p0.l : Int), Int.toNat (p0.l : Int)⟩ h_5
def S104_l2 (p0 : Sl) (K : Sl → H → Prop) (v10 : Sl) (b13 : Nat) (X : Int → H → Prop) (v16 : Int) (h_6 : H) : Prop :=
  (if (decide (v16 < (p0.l : Int))) = true then (∃ a19 : Addr, p0.a = some a19 ∧ 0 ≤ v16 ∧ v16 < (p0.l : Int) ∧ (∃ (v20 : Int), H.rd h_6 (Addr.add a19 (Int.toNat v16 * 1)) = some (.int .i64 v20) ∧ S114 v10 v20 h_6 (fun (v26_0 : Int) (v26_1 : Bool) (h_7 : H) => (∃ a29 : Addr, some ⟨b13, 0, none⟩ = some a29 ∧ 0 ≤ v16 ∧ v16 < ((Int.toNat (p0.l : Int)) : Int) ∧ (∃ h_8 : H, H.wr h_7 (Addr.add a29 (Int.toNat v16 * 1)) [(.int .i64 v26_0)] h_8 ∧ X (IntKind.wrap .i64 (v16 + 1)) h_8))))) else S104_j1 p0 K b13 h_6)
def S104 (p0 : Sl) (h : H) (K : Sl → H → Prop) : Prop :=
  S113 p0 h (fun (v8 : Value) (h_1 : H) => S112 v8 h_1 (fun (v9 : Sl) (h_2 : H) => S111 v9 h_2 (fun (v10 : Sl) (h_3 : H) => ((0 : Int) ≤ (p0.l : Int) ∧ (p0.l : Int) ≤ (p0.l : Int) ∧ 8 * (p0.l : Int) ≤ (281474976710656 : Int) ∧ (p0.l : Int) ≤ 9223372036854775807 ∧ (∀ (b13 : Nat) (h_4 : H), h_3 b13 = none → h_4 = H.set h_3 b13 (.row ⟨zeros (.int .i64 0) (Int.toNat (p0.l : Int) * 1), (zeros (.int .i64 0) (Int.toNat (p0.l : Int) * 1)).length, 3, true, true⟩) → lfp (fun X s h_6 => S104_l2 p0 K v10 b13 X s h_6) 0 h_4)))))
end Go.Proofs.YtimadnngfhbfiaaDoor
end

section
/- PRINTED by wip/gen.py: what muntin/muntinref03.Ranks does, in the words of Mu. -/
namespace Go.Proofs.YtimadnngfhbfiaaDoor
open Go Go.Mu
/- muntin/muntinref03.Ranks -/
def S90_j1 (K : Sl → H → Prop) (v3 : Sl) (h_1 : H) : Prop :=
  K v3 h_1
def S90_j2 (v3_1 : Sl) (v4 : Int) (X : (Sl × Int) → H → Prop) (v5 : Sl) (h_3 : H) : Prop :=
  app 3 1 8 v3_1 1 [(.int .i64 (v5.l : Int))] h_3 (fun (v62 : Sl) (h_4 : H) => X (v62, (IntKind.wrap .i64 (v4 + 1))) h_4)
def S90_j3 (v6 : Int) (X_1 : (Sl × Int) → H → Prop) (v5_2 : Sl) (h_6 : H) : Prop :=
  X_1 (v5_2, (IntKind.wrap .i64 (v6 + 1))) h_6
def S90_j4 (p0 : Sl) (v5_1 : Sl) (v6 : Int) (X_1 : (Sl × Int) → H → Prop) (v7 : Bool) (h_7 : H) : Prop :=
  (if (!v7) = true then (∃ a54 : Addr, p0.a = some a54 ∧ 0 ≤ v6 ∧ v6 < (p0.l : Int) ∧ (∃ (v55 : Int), H.rd h_7 (Addr.add a54 (Int.toNat v6 * 1)) = some (.int .i64 v55) ∧ app 3 1 8 v5_1 1 [(.int .i64 v55)] h_7 (fun (v57 : Sl) (h_8 : H) => S90_j3 v6 X_1 v57 h_8))) else S90_j3 v6 X_1 v5_1 h_7)
def S90_j5 (p0 : Sl) (v5_1 : Sl) (v6 : Int) (X_1 : (Sl × Int) → H → Prop) (v7_1 : Bool) (v8 : Int) (X_2 : (Bool × Int) → H → Prop) (v37 : Bool) (h_10 : H) : Prop :=
  (if v37 = true then (∃ a42 : Addr, v5_1.a = some a42 ∧ 0 ≤ v8 ∧ v8 < (v5_1.l : Int) ∧ (∃ (v43 : Int), H.rd h_10 (Addr.add a42 (Int.toNat v8 * 1)) = some (.int .i64 v43) ∧ (∃ a46 : Addr, p0.a = some a46 ∧ 0 ≤ v6 ∧ v6 < (p0.l : Int) ∧ (∃ (v47 : Int), H.rd h_10 (Addr.add a46 (Int.toNat v6 * 1)) = some (.int .i64 v47) ∧ X_2 ((v43 == v47), (IntKind.wrap .i64 (v8 + 1))) h_10)))) else S90_j4 p0 v5_1 v6 X_1 v7_1 h_10)
def S90_l6 (p0 : Sl) (v5_1 : Sl) (v6 : Int) (X_1 : (Sl × Int) → H → Prop) (X_2 : (Bool × Int) → H → Prop) (v7_1 : Bool) (v8 : Int) (h_9 : H) : Prop :=
  S90_j5 p0 v5_1 v6 X_1 v7_1 v8 X_2 ((decide (v8 < (v5_1.l : Int))) && (!v7_1)) h_9
def S90_l7 (p0 : Sl) (v3_1 : Sl) (v4 : Int) (X : (Sl × Int) → H → Prop) (X_1 : (Sl × Int) → H → Prop) (v5_1 : Sl) (v6 : Int) (h_5 : H) : Prop :=
  (if (decide (v6 < (p0.l : Int))) = true then (∃ a23 : Addr, p0.a = some a23 ∧ 0 ≤ v6 ∧ v6 < (p0.l : Int) ∧ (∃ (v24 : Int), H.rd h_5 (Addr.add a23 (Int.toNat v6 * 1)) = some (.int .i64 v24) ∧ (∃ a27 : Addr, p0.a = some a27 ∧ 0 ≤ v4 ∧ v4 < (p0.l : Int) ∧ (∃ (v28 : Int), H.rd h_5 (Addr.add a27 (Int.toNat v4 * 1)) = some (.int .i64 v28) ∧ lfp (fun X_2 s h_9 => S90_l6 p0 v5_1 v6 X_1 X_2 s.1 s.2 h_9) ((decide (v24 ≥ v28)), 0) h_5)))) else S90_j2 v3_1 v4 X v5_1 h_5)
def S90_l8 (p0 : Sl) (K : Sl → H → Prop) (X : (Sl × Int) → H → Prop) (v3_1 : Sl) (v4 : Int) (h_2 : H) : Prop :=
  (if (decide (v4 < (p0.l : Int))) = true then lfp (fun X_1 s h_5 => S90_l7 p0 v3_1 v4 X X_1 s.1 s.2 h_5) (Sl.nil, 0) h_2 else S90_j1 K v3_1 h_2)
def S90 (p0 : Sl) (h : H) (K : Sl → H → Prop) : Prop :=
  lfp (fun X s h_2 => S90_l8 p0 K X s.1 s.2 h_2) (Sl.nil, 0) h
end Go.Proofs.YtimadnngfhbfiaaDoor
end

section
/-
  Ranks: what the program's function and the document's answer.
-/
namespace Go.Proofs.YtimadnngfhbfiaaDoor
open Go Go.Mu Go.Shape Go.Rk
variable {h h0 : H}
set_option maxHeartbeats 2000000
theorem zeros1 (n : Nat) : zeros (.int .i64 0) (n * 1) = (List.replicate n 0).flatMap encN := by
  rw [Nat.mul_one]
  apply List.ext_getElem
  · rw [flatMap_len (size := 1) fun _ _ => rfl]; simp [zeros]
  · intro i h1 h2
    have e : ∀ l : List Nat, l.flatMap encN = l.map fun x : Nat => Value.int .i64 (x : Int) := fun l => by
      induction l with
      | nil => rfl
      | cons x l ih => rw [List.flatMap_cons, ih]; rfl
    simp [zeros, e, Value.cells, Nat.mod_one]
theorem rdn_ints {b n : Nat} {l : List Int} {r : Row} (hb : h b = some (.row r)) (hp : l.map (Value.int .i64) <+: r.cells) (hn : n = l.length) : h.rdn ⟨b, 0, none⟩ n (l.map (.int .i64)) := by
  refine ⟨by rw [List.length_map, hn], fun j v hj => ?_⟩
  rw [Addr.add_n]
  obtain ⟨t, ht⟩ := hp
  have hl : j < (l.map (Value.int .i64)).length := (List.getElem?_eq_some_iff.1 hj).1
  simp only [H.rd, hb, Nat.zero_add]
  rw [← ht, List.getElem?_append_left hl]; exact hj
theorem rdn_of {p0 : Sl} {xs : List Int} (r0 : Rd h p0 1 enc1 xs) (hne : xs ≠ []) : ∃ a, p0.a = some a ∧ h.rdn a xs.length (xs.map (.int .i64)) := by
  obtain ⟨a, ha, q⟩ := r0.2.2 (by rw [r0.1]; exact List.length_pos_iff.2 hne)
  refine ⟨a, ha, by simp, fun j v hj => ?_⟩
  rw [List.getElem?_map] at hj
  cases hx : xs[j]? with
  | none => rw [hx] at hj; cases hj
  | some x =>
    rw [hx] at hj; cases hj
    have := (q j x hx).at0
    rwa [Nat.mul_one] at this
theorem c104 {p0 : Sl} {xs : List Int} (r0 : Rd h p0 1 enc1 xs) (hnil : xs = [] → p0 = Sl.nil) (hn : xs.length ≤ 2000) {K : Sl → H → Prop}
    (k : ∀ s' h', St h h' (fun _ : Unit => .arr s' 3 1 ((xs.map (rank xs)).flatMap encN)) → K s' h') : S104 p0 h K := by
  have hl0 := r0.len
  unfold S104 S113
  intro b h1 n1 e1
  have l1 : h.Le h1 := le_new n1 e1
  have rb : h1.rd ⟨b, 0, none⟩ = some p0.v := by rw [e1]; simp [H.rd, H.set_eq]
  -- what comes behind Compact
  have fin : ∀ (v10 : Sl) (h3 : H), h.Le h3 → v10.l = (dist xs).length → (dist xs = [] ∨ ∃ b o, v10.a = some ⟨b, o, none⟩ ∧ h3.rdn ⟨b, o, none⟩ (dist xs).length ((dist xs).map (.int .i64))) →
      ((0 : Int) ≤ (p0.l : Int) ∧ (p0.l : Int) ≤ (p0.l : Int) ∧ 8 * (p0.l : Int) ≤ (281474976710656 : Int) ∧ (p0.l : Int) ≤ 9223372036854775807 ∧ (∀ (b13 : Nat) (h_4 : H), h3 b13 = none → h_4 = H.set h3 b13 (.row ⟨zeros (.int .i64 0) (Int.toNat (p0.l : Int) * 1), (zeros (.int .i64 0) (Int.toNat (p0.l : Int) * 1)).length, 3, true, true⟩) → lfp (fun X s h_6 => S104_l2 p0 K v10 b13 X s h_6) 0 h_4)) := by
    intro v10 h3 l3 hv hd
    refine ⟨by omega, Int.le_refl _, by omega, by omega, fun b13 h4 n4 e4 => ?_⟩
    have hz : zeros (.int .i64 0) (Int.toNat (p0.l : Int) * 1) = (List.replicate xs.length 0).flatMap encN := by
      rw [hl0, Int.toNat_natCast]; exact zeros1 xs.length
    have st4 : St h3 h4 (fun _ : Unit => .arr ⟨some ⟨b13, 0, none⟩, xs.length, xs.length⟩ 3 1 ((List.replicate xs.length 0).flatMap encN)) := by
      have hzl : ((List.replicate xs.length 0).flatMap encN).length = xs.length := by rw [flatMap_len (size := 1) fun _ _ => rfl]; simp
      rw [e4, hz, hzl]
      have := (St.init (ρ := Unit) h3).allocArr (b := b13) (k := xs.length) (cap := xs.length) (e := 3) (size := 1) (xs := (List.replicate xs.length 0).flatMap encN) n4 () (fun _ => .arr ⟨some ⟨b13, 0, none⟩, xs.length, xs.length⟩ 3 1 ((List.replicate xs.length 0).flatMap encN)) (by omega) (Nat.le_refl _) (by simp only [maxLen]; omega) rfl (fun i hi => (hi rfl).elim)
      rwa [Nat.mul_one] at this
    refine lfp.count xs.length (fun i (u : Int) h' => u = (i : Int) ∧ St h3 h' (fun _ : Unit => .arr ⟨some ⟨b13, 0, none⟩, xs.length, xs.length⟩ 3 1 (((xs.take i).map (rank xs) ++ List.replicate (xs.length - i) 0).flatMap encN))) (fun X i u h' hi ⟨q1, st⟩ next => ?_) ⟨rfl, by simpa using st4⟩
    subst q1
    unfold S104_l2
    rw [hl0]
    by_cases hlt : i < xs.length
    · rw [if_pos (by simp only [decide_eq_true_eq]; omega)]
      obtain ⟨x, hx⟩ : ∃ x, xs[i]? = some x := ⟨_, List.getElem?_eq_getElem hlt⟩
      have l' := l3.trans st.le
      obtain ⟨a, ha, rx⟩ := (r0.le l').ix hx
      refine ⟨a, ha, by omega, by omega, x, by rw [Int.toNat_natCast]; exact rx.at0, ?_⟩
      refine ⟨dist xs, hv, by have := Lib.compact_length_le (srt xs); have h2 : (srt xs).length = xs.length := by simp [srt]
                              unfold dist; omega, (dist_pw xs).imp fun h => Int.le_of_lt h, hd.imp id fun ⟨b, o, ha, hr⟩ => ⟨b, o, ha, st.le.rdn hr⟩, ?_⟩
      obtain ⟨h8, hw, st8⟩ := wrAt (i := i) (a := ⟨b13, 0, none⟩) (rank xs x) st rfl (fun _ => rfl) (by simp; omega) rfl
      refine ⟨⟨b13, 0, none⟩, rfl, by omega, by rw [Int.toNat_natCast]; omega, h8, by rw [Int.toNat_natCast]; exact hw, ?_⟩
      rw [wsucc (by omega)]
      refine next hlt _ _ ⟨rfl, ?_⟩
      rw [put_unit] at st8
      have : ((xs.take i).map (rank xs) ++ List.replicate (xs.length - i) 0).set i (rank xs x) = (xs.take (i + 1)).map (rank xs) ++ List.replicate (xs.length - (i + 1)) 0 := by
        rw [List.set_append_right _ _ (by simp; omega), List.take_add_one, hx, show xs.length - i = (xs.length - (i + 1)) + 1 by omega, List.replicate_succ]
        simp [Nat.min_eq_left hi]
      rwa [this] at st8
    · rw [if_neg (by simp only [decide_eq_true_eq]; omega)]
      obtain rfl : i = xs.length := by omega
      unfold S104_j1
      rw [hl0, Int.toNat_natCast]
      refine k _ _ (St.pre l3 ?_)
      simpa using st
  refine ⟨b, p0, xs, rfl, rb, by omega, ?_⟩
  by_cases hne : xs = []
  · subst hne
    have hp := hnil rfl
    refine .inl ⟨hp, rfl, .inl ⟨rfl, fin _ _ l1 ?_ (.inl ?_)⟩⟩
    · simp [dist, srt, Lib.compact, Lib.compactUpTo, Sl.nil]
    · simp [dist, srt, Lib.compact, Lib.compactUpTo]
  · refine .inr ⟨hne, r0.1, rdn_of (r0.le l1) hne, fun g c h2 hg hc e2 => ?_⟩
    have hsl : (sorted xs).length = xs.length := by simp [sorted]
    have l2 : h.Le h2 := l1.trans (le_new hg e2)
    refine .inr ⟨g, c, _, sorted xs, by rw [hsl], by omega, by omega, by rw [e2]; exact H.set_eq _ _ _, rfl, rfl, fun r' hr' => ?_⟩
    have hh : h.Le (h2.set g (.row r')) := by
      rw [e2, H.set_set]
      exact l1.trans (H.Le.put _ hg)
    refine fin _ _ hh rfl (.inr ⟨g, 0, rfl, ?_⟩)
    refine rdn_ints (r := r') (H.set_eq _ _ _) ?_ rfl
    rw [hr']
    simp only [List.map_append]
    exact List.prefix_append _ _
theorem c90 {p0 : Sl} {xs : List Int} (r0 : Rd h p0 1 enc1 xs) (hn : xs.length ≤ 2000) {K : Sl → H → Prop}
    (k : ∀ s' h', St h h' (fun _ : Unit => .arr s' 3 1 ((xs.map (rank xs)).flatMap encN)) → K s' h') : S90 p0 h K := by
  have hl0 := r0.len
  unfold S90
  refine lfp.count xs.length (fun i (u : Sl × Int) h' => u.2 = (i : Int) ∧ St h h' (fun _ : Unit => .arr u.1 3 1 (((xs.take i).map (rank xs)).flatMap encN))) (fun X i u h2 hi ⟨q1, st⟩ next => ?_) ⟨rfl, St.nil1 h⟩
  obtain ⟨v3, u2⟩ := u
  simp only at q1 st; subst q1
  simp only
  unfold S90_l8
  rw [hl0]
  by_cases hlt : i < xs.length
  · rw [if_pos (by simp only [decide_eq_true_eq]; omega)]
    obtain ⟨v, hv⟩ : ∃ x, xs[i]? = some x := ⟨_, List.getElem?_eq_getElem hlt⟩
    refine lfp.count xs.length (fun j (u : Sl × Int) h' => u.2 = (j : Int) ∧ St h2 h' (fun _ : Unit => .arr u.1 3 1 ((lessL (xs.take j) v).flatMap enc1))) (fun Y j u h3 hj ⟨q1, st3⟩ next2 => ?_) ⟨rfl, St.nil1 h2⟩
    obtain ⟨v5, u2⟩ := u
    simp only at q1 st3; subst q1
    simp only
    unfold S90_l7
    rw [hl0]
    have l3 := st.le.trans st3.le
    by_cases hlt2 : j < xs.length
    · rw [if_pos (by simp only [decide_eq_true_eq]; omega)]
      obtain ⟨x, hx⟩ : ∃ x, xs[j]? = some x := ⟨_, List.getElem?_eq_getElem hlt2⟩
      obtain ⟨a, ha, rx⟩ := (r0.le l3).ix hx
      obtain ⟨a2, ha2, rv⟩ := (r0.le l3).ix hv
      refine ⟨a, ha, by omega, by omega, x, by rw [Int.toNat_natCast]; exact rx.at0, a2, ha2, by omega, by omega, v, by rw [Int.toNat_natCast]; exact rv.at0, ?_⟩
      have rl : Rd h3 v5 1 enc1 (lessL (xs.take j) v) := st3.arr (enc := enc1) () rfl (fun _ _ => rfl) (by decide)
      have hll : (lessL (xs.take j) v).length ≤ 2000 := Nat.le_trans (lessL_len _ _) (by simp; omega)
      have el := lessL_take (v := v) hx
      have fl := rl.len
      generalize hL : lessL (xs.take j) v = L at *
      refine lfp.count L.length (fun m (u : Bool × Int) h' => u.2 = (m : Int) ∧ h' = h3 ∧ (u.1 = true ↔ (v ≤ x ∨ x ∈ L.take m))) (fun Z m u h' hm ⟨q1, q2, q3⟩ next3 => ?_) ⟨rfl, rfl, by simp⟩
      obtain ⟨inn, u2⟩ := u
      simp only at q1 q2 q3; subst q1 q2
      simp only
      have out : ∀ hin : (inn = true ↔ (v ≤ x ∨ x ∈ L)), S90_j4 p0 v5 j Y inn h' := fun hin => by
        unfold S90_j4 S90_j3
        rw [hl0]
        cases inn with
        | true =>
          rw [if_neg (by decide), wsucc (by omega)]
          refine next2 hlt2 _ _ ⟨rfl, ?_⟩
          rw [el]
          have : lessF v L x = L := by
            unfold lessF
            rw [if_neg]
            rcases hin.1 rfl with h | h
            · intro q; omega
            · intro q; exact q.2 h
          rw [this]; exact st3
        | false =>
          rw [if_pos (by decide)]
          obtain ⟨a3, ha3, rx3⟩ := (r0.le l3).ix hx
          refine ⟨a3, ha3, by omega, by omega, x, by rw [Int.toNat_natCast]; exact rx3.at0, ?_⟩
          refine app1 (enc := enc1) () x st3 rfl (fun _ => rfl) (by decide) (by omega) (by decide) fun s' h5 st5 => ?_
          rw [put_unit] at st5
          rw [wsucc (by omega)]
          refine next2 hlt2 _ _ ⟨rfl, ?_⟩
          rw [el]
          have : lessF v L x = L ++ [x] := by
            unfold lessF
            rw [if_pos]
            have : ¬ (v ≤ x ∨ x ∈ L) := fun h => by have := hin.2 h; cases this
            exact ⟨by omega, fun h => this (.inr h)⟩
          rw [this]; exact st5
      unfold S90_l6 S90_j5
      rw [fl]
      by_cases hgo : m < L.length ∧ inn = false
      · obtain ⟨hm2, rfl⟩ := hgo
        rw [if_pos (by simp only [Bool.and_eq_true, decide_eq_true_eq]; exact ⟨by omega, rfl⟩)]
        obtain ⟨y, hy⟩ : ∃ x, L[m]? = some x := ⟨_, List.getElem?_eq_getElem hm2⟩
        obtain ⟨a4, ha4, ry⟩ := rl.ix hy
        obtain ⟨a5, ha5, rx5⟩ := (r0.le l3).ix hx
        refine ⟨a4, ha4, by omega, by omega, y, by rw [Int.toNat_natCast]; exact ry.at0, a5, ha5, by omega, by rw [hl0]; omega, x, by rw [Int.toNat_natCast]; exact rx5.at0, ?_⟩
        rw [wsucc (by omega)]
        refine next3 hm2 _ _ ⟨rfl, rfl, ?_⟩
        rw [List.take_add_one, hy]
        have hnot : ¬ (v ≤ x ∨ x ∈ L.take m) := fun h => by have := q3.2 h; cases this
        simp only [beq_iff_eq, Option.toList_some, List.mem_append, List.mem_singleton]
        constructor
        · intro e; exact .inr (.inr e.symm)
        · rintro (h | h | h)
          · exact absurd (.inl h) hnot
          · exact absurd (.inr h) hnot
          · exact h.symm
      · rw [if_neg (by
          simp only [Bool.and_eq_true, decide_eq_true_eq]
          rintro ⟨h1, h2⟩
          exact hgo ⟨by omega, by simpa using h2⟩)]
        refine out ?_
        by_cases hi2 : inn = true
        · rw [q3]
          constructor
          · rintro (h | h)
            · exact .inl h
            · exact .inr (List.mem_of_mem_take h)
          · intro _; exact q3.1 hi2
        · have : ¬ m < L.length := fun h => hgo ⟨h, by simpa using hi2⟩
          rw [List.take_of_length_le (by omega)] at q3
          exact q3
    · rw [if_neg (by simp only [decide_eq_true_eq]; omega)]
      obtain rfl : j = xs.length := by omega
      rw [List.take_length] at st3
      unfold S90_j2
      have rl := (st3.arr (enc := enc1) () rfl (fun _ _ => rfl) (by decide)).len
      have hr := rank_eq xs v
      rw [rl, hr]
      refine app1 (enc := encN) () (rank xs v) (st.le' st3.le) rfl (fun _ => rfl) (by decide) (by simp; omega) (by decide) fun s' h5 st5 => ?_
      rw [put_unit] at st5
      rw [wsucc (by omega)]
      refine next hlt _ _ ⟨rfl, ?_⟩
      rw [List.take_add_one, hv, List.map_append]
      exact st5
  · rw [if_neg (by simp only [decide_eq_true_eq]; omega)]
    obtain rfl : i = xs.length := by omega
    rw [List.take_length] at st
    unfold S90_j1
    exact k _ _ st
end Go.Proofs.YtimadnngfhbfiaaDoor
end

section
/- PRINTED by wip/gen.py: what muntin/dag.Ranks does, in the words of Mu. -/
namespace Go.Proofs.YtimadnngfhbfiaaDoor
open Go Go.Mu
/- muntin/dag.Ranks -/
def S89 (p0 : Sl) (h : H) (K : Sl → H → Prop) : Prop :=
  S104 p0 h (fun (v4 : Sl) (h_1 : H) => K v4 h_1)
end Go.Proofs.YtimadnngfhbfiaaDoor
end

section
/- PRINTED by wip/gen.py: what muntin/draw.ranked does, in the words of Mu. -/
namespace Go.Proofs.YtimadnngfhbfiaaDoor
open Go Go.Mu
/- muntin/draw.ranked -/
def S63_j1 (p0 : Sl) (K : Sl → H → Prop) (b32 : Nat) (h_5 : H) : Prop :=
  K ⟨some ⟨b32, 0, none⟩, Int.toNat (p0.l : Int), Int.toNat (p0.l : Int)⟩ h_5
def S63_l2 (p0 : Sl) (K : Sl → H → Prop) (v27 : Sl) (v29 : Sl) (b32 : Nat) (X : Int → H → Prop) (v35 : Int) (h_6 : H) : Prop :=
  (if (decide (v35 < ((Int.toNat (p0.l : Int)) : Int))) = true then (∃ a42 : Addr, v27.a = some a42 ∧ 0 ≤ v35 ∧ v35 < (v27.l : Int) ∧ (∃ (v43 : Int), H.rd h_6 (Addr.add a42 (Int.toNat v35 * 1)) = some (.int .i64 v43) ∧ (∃ a46 : Addr, v29.a = some a46 ∧ 0 ≤ v35 ∧ v35 < (v29.l : Int) ∧ (∃ (v47 : Int), H.rd h_6 (Addr.add a46 (Int.toNat v35 * 1)) = some (.int .i64 v47) ∧ (∃ a49 : Addr, some ⟨b32, 0, none⟩ = some a49 ∧ 0 ≤ v35 ∧ v35 < ((Int.toNat (p0.l : Int)) : Int) ∧ (∃ h_7 : H, H.wr h_6 (Addr.add a49 (Int.toNat v35 * 2)) [(.int .i64 v43), (.int .i64 v47)] h_7 ∧ X (IntKind.wrap .i64 (v35 + 1)) h_7)))))) else S63_j1 p0 K b32 h_6)
def S63_j3 (p0 : Sl) (K : Sl → H → Prop) (v3 : Sl) (v4 : Sl) (h_1 : H) : Prop :=
  S89 v3 h_1 (fun (v27 : Sl) (h_2 : H) => S89 v4 h_2 (fun (v29 : Sl) (h_3 : H) => ((0 : Int) ≤ (p0.l : Int) ∧ (p0.l : Int) ≤ (p0.l : Int) ∧ 16 * (p0.l : Int) ≤ (281474976710656 : Int) ∧ (p0.l : Int) ≤ 9223372036854775807 ∧ (∀ (b32 : Nat) (h_4 : H), h_3 b32 = none → h_4 = H.set h_3 b32 (.row ⟨zeros (.agg #[(.int .i64 0), (.int .i64 0)]) (Int.toNat (p0.l : Int) * 2), (zeros (.agg #[(.int .i64 0), (.int .i64 0)]) (Int.toNat (p0.l : Int) * 2)).length, 67, true, true⟩) → lfp (fun X s h_6 => S63_l2 p0 K v27 v29 b32 X s h_6) 0 h_4))))
def S63_l4 (p0 : Sl) (K : Sl → H → Prop) (X_1 : (Sl × Sl × Int) → H → Prop) (v3_1 : Sl) (v4_1 : Sl) (v11 : Int) (h_8 : H) : Prop :=
  (if (decide (v11 < (p0.l : Int))) = true then (∃ a13 : Addr, p0.a = some a13 ∧ 0 ≤ v11 ∧ v11 < (p0.l : Int) ∧ (∃ (v14_0 : Int) (v14_1 : Int), H.rdn h_8 (Addr.add a13 (Int.toNat v11 * 2)) 2 [(.int .i64 v14_0), (.int .i64 v14_1)] ∧ app 3 1 8 v3_1 1 [(.int .i64 v14_0)] h_8 (fun (v19 : Sl) (h_9 : H) => app 3 1 8 v4_1 1 [(.int .i64 v14_1)] h_9 (fun (v24 : Sl) (h_10 : H) => X_1 (v19, v24, (IntKind.wrap .i64 (v11 + 1))) h_10)))) else S63_j3 p0 K v3_1 v4_1 h_8)
def S63 (p0 : Sl) (h : H) (K : Sl → H → Prop) : Prop :=
  lfp (fun X_1 s h_8 => S63_l4 p0 K X_1 s.1 s.2.1 s.2.2 h_8) (Sl.nil, Sl.nil, 0) h
end Go.Proofs.YtimadnngfhbfiaaDoor
end

section
/- PRINTED by wip/gen.py: what muntin/muntinref25.Ranked does, in the words of Mu. -/
namespace Go.Proofs.YtimadnngfhbfiaaDoor
open Go Go.Mu
/- muntin/muntinref25.Ranked -/
def S64_j1 (K : Sl → H → Prop) (v8 : Sl) (h_4 : H) : Prop :=
  K v8 h_4
def S64_l2 (p0 : Sl) (K : Sl → H → Prop) (v33 : Sl) (v35 : Sl) (X : (Sl × Int) → H → Prop) (v8_1 : Sl) (v9 : Int) (h_5 : H) : Prop :=
  (if (decide (v9 < (p0.l : Int))) = true then (∃ a45 : Addr, v33.a = some a45 ∧ 0 ≤ v9 ∧ v9 < (v33.l : Int) ∧ (∃ (v46 : Int), H.rd h_5 (Addr.add a45 (Int.toNat v9 * 1)) = some (.int .i64 v46) ∧ (∃ a49 : Addr, v35.a = some a49 ∧ 0 ≤ v9 ∧ v9 < (v35.l : Int) ∧ (∃ (v50 : Int), H.rd h_5 (Addr.add a49 (Int.toNat v9 * 1)) = some (.int .i64 v50) ∧ app 67 2 16 v8_1 1 [(.int .i64 v46), (.int .i64 v50)] h_5 (fun (v53 : Sl) (h_6 : H) => X (v53, (IntKind.wrap .i64 (v9 + 1))) h_6))))) else S64_j1 K v8_1 h_5)
def S64_j3 (p0 : Sl) (K : Sl → H → Prop) (v3 : Sl) (v4 : Sl) (h_1 : H) : Prop :=
  S90 v3 h_1 (fun (v33 : Sl) (h_2 : H) => S90 v4 h_2 (fun (v35 : Sl) (h_3 : H) => lfp (fun X s h_5 => S64_l2 p0 K v33 v35 X s.1 s.2 h_5) (Sl.nil, 0) h_3))
def S64_l4 (p0 : Sl) (K : Sl → H → Prop) (X_1 : (Sl × Sl × Int) → H → Prop) (v3_1 : Sl) (v4_1 : Sl) (v5 : Int) (h_7 : H) : Prop :=
  (if (decide (v5 < (p0.l : Int))) = true then (∃ a19 : Addr, p0.a = some a19 ∧ 0 ≤ v5 ∧ v5 < (p0.l : Int) ∧ (∃ (v21 : Int), H.rd h_7 (Addr.add a19 (Int.toNat v5 * 2)) = some (.int .i64 v21) ∧ app 3 1 8 v3_1 1 [(.int .i64 v21)] h_7 (fun (v23 : Sl) (h_8 : H) => (∃ a27 : Addr, p0.a = some a27 ∧ 0 ≤ v5 ∧ v5 < (p0.l : Int) ∧ (∃ (v29 : Int), H.rd h_8 (Addr.add (Addr.add a27 (Int.toNat v5 * 2)) 1) = some (.int .i64 v29) ∧ app 3 1 8 v4_1 1 [(.int .i64 v29)] h_8 (fun (v31 : Sl) (h_9 : H) => X_1 (v23, v31, (IntKind.wrap .i64 (v5 + 1))) h_9)))))) else S64_j3 p0 K v3_1 v4_1 h_7)
def S64 (p0 : Sl) (h : H) (K : Sl → H → Prop) : Prop :=
  lfp (fun X_1 s h_7 => S64_l4 p0 K X_1 s.1 s.2.1 s.2.2 h_7) (Sl.nil, Sl.nil, 0) h
end Go.Proofs.YtimadnngfhbfiaaDoor
end

section
/-
  Points with ranks for numbers: the program's, the document's.
-/
namespace Go.Proofs.YtimadnngfhbfiaaDoor
open Go Go.Mu Go.Shape Go.Rk
variable {h h0 : H}
set_option maxHeartbeats 2000000
def encP (p : Int × Int) : List Value := [.int .i64 p.1, .int .i64 p.2]
def rkd (l : List (Int × Int)) : List (Int × Int) := l.map fun p => (((rank (l.map (·.1)) p.1 : Nat) : Int), ((rank (l.map (·.2)) p.2 : Nat) : Int))
theorem rkd_len (l : List (Int × Int)) : (rkd l).length = l.length := by simp [rkd]
def twoI (s t : Sl) (xs ys : List Int) : Bool → Res
  | false => .arr s 3 1 (xs.flatMap enc1)
  | true => .arr t 3 1 (ys.flatMap enc1)
theorem twoI_f (s t s' : Sl) (xs ys xs' : List Int) : put (twoI s t xs ys) false (.arr s' 3 1 (xs'.flatMap enc1)) = twoI s' t xs' ys := by funext b; cases b <;> simp [put, twoI]
theorem twoI_t (s t s' : Sl) (xs ys ys' : List Int) : put (twoI s t xs ys) true (.arr s' 3 1 (ys'.flatMap enc1)) = twoI s s' xs ys' := by funext b; cases b <;> simp [put, twoI]
theorem twoI_nil (h : H) : St h h (twoI Sl.nil Sl.nil [] []) :=
  ((St.init (ρ := Bool) h).nilArr (e := 3) (size := 1) false (fun b => match b with | false => .arr Sl.nil 3 1 [] | true => .no) rfl (fun i hi => by cases i <;> simp_all)).nilArr (e := 3) (size := 1) true _ rfl (fun i hi => by cases i <;> simp_all [twoI])
theorem zerosP (n : Nat) : zeros (.agg #[(.int .i64 0), (.int .i64 0)]) (n * 2) = (List.replicate n ((0, 0) : Int × Int)).flatMap encP := by
  have := zeros_agg (xs := [(.int .i64 0), (.int .i64 0)]) (size := 2) (m := n) rfl (by decide)
  rw [show ([(.int .i64 0), (.int .i64 0)] : List Value).toArray = #[(.int .i64 0), (.int .i64 0)] from rfl] at this
  rw [this]
  clear this
  induction n with
  | zero => rfl
  | succ n ih => rw [List.replicate_succ, List.flatMap_cons, ih, List.replicate_succ]; rfl
theorem rkd_at {l : List (Int × Int)} {i : Nat} {p : Int × Int} (e : l[i]? = some p) : (rkd l)[i]? = some (((rank (l.map (·.1)) p.1 : Nat) : Int), ((rank (l.map (·.2)) p.2 : Nat) : Int)) := by
  simp [rkd, e]
theorem c63 {p0 : Sl} {ats : List (Int × Int)} (r0 : Rd h p0 2 encP ats) (hn : ats.length ≤ 2000) {K : Sl → H → Prop}
    (k : ∀ s' h', St h h' (fun _ : Unit => .arr s' 67 2 ((rkd ats).flatMap encP)) → K s' h') : S63 p0 h K := by
  have hl0 := r0.len
  unfold S63
  refine lfp.count ats.length (fun i (u : Sl × Sl × Int) h' => u.2.2 = (i : Int) ∧ (i = 0 → u.1 = Sl.nil ∧ u.2.1 = Sl.nil) ∧ St h h' (twoI u.1 u.2.1 ((ats.take i).map (·.1)) ((ats.take i).map (·.2)))) (fun X i u h1 hi ⟨q1, q2, st⟩ next => ?_) ⟨rfl, fun _ => ⟨rfl, rfl⟩, twoI_nil h⟩
  obtain ⟨v3, v4, u2⟩ := u
  simp only at q1 q2 st; subst q1
  simp only
  unfold S63_l4
  rw [hl0]
  by_cases hlt : i < ats.length
  · rw [if_pos (by simp only [decide_eq_true_eq]; omega)]
    obtain ⟨x, hx⟩ : ∃ x, ats[i]? = some x := ⟨_, List.getElem?_eq_getElem hlt⟩
    obtain ⟨a, ha, rx⟩ := (r0.le st.le).ix hx
    refine ⟨a, ha, by omega, by omega, x.1, x.2, by rw [Int.toNat_natCast]; exact rx, ?_⟩
    refine app1 (enc := enc1) false x.1 st rfl (fun _ => rfl) (by decide) (by simp; omega) (by decide) fun s1 h2 st2 => ?_
    rw [twoI_f] at st2
    refine app1 (enc := enc1) true x.2 st2 rfl (fun _ => rfl) (by decide) (by simp; omega) (by decide) fun s2 h3 st3 => ?_
    rw [twoI_t] at st3
    rw [wsucc (by omega)]
    refine next hlt _ _ ⟨rfl, fun h => by omega, ?_⟩
    rw [List.take_add_one, hx, List.map_append, List.map_append]
    exact st3
  · rw [if_neg (by simp only [decide_eq_true_eq]; omega)]
    obtain rfl : i = ats.length := by omega
    rw [List.take_length] at st
    clear next
    unfold S63_j3 S89
    have rx : Rd h1 v3 1 enc1 (ats.map (·.1)) := st.arr (enc := enc1) false rfl (fun _ _ => rfl) (by decide)
    have ry : Rd h1 v4 1 enc1 (ats.map (·.2)) := st.arr (enc := enc1) true rfl (fun _ _ => rfl) (by decide)
    have hnil : ∀ {β : Type} (f : Int × Int → β), ats.map f = [] → ats.length = 0 := fun f h => by
      rw [List.map_eq_nil_iff] at h; rw [h]; rfl
    refine c104 rx (fun h => (q2 (hnil _ h)).1) (by simpa using hn) fun s1 h2 st2 => ?_
    refine c104 (ry.le st2.le) (fun h => (q2 (hnil _ h)).2) (by simpa using hn) fun s2 h3 st3 => ?_
    have r1 : Rd h3 s1 1 encN ((ats.map (·.1)).map (rank (ats.map (·.1)))) := (st2.arr (enc := encN) () rfl (fun _ _ => rfl) (by decide)).le st3.le
    have r2 : Rd h3 s2 1 encN ((ats.map (·.2)).map (rank (ats.map (·.2)))) := st3.arr (enc := encN) () rfl (fun _ _ => rfl) (by decide)
    have l3 := (st.le.trans st2.le).trans st3.le
    refine ⟨by omega, by omega, by omega, by omega, fun b32 h4 n4 e4 => ?_⟩
    rw [hl0, Int.toNat_natCast] at e4
    have st4 : St h3 h4 (fun _ : Unit => .arr ⟨some ⟨b32, 0, none⟩, ats.length, ats.length⟩ 67 2 ((List.replicate ats.length ((0, 0) : Int × Int)).flatMap encP)) := by
      have hzl : ((List.replicate ats.length ((0, 0) : Int × Int)).flatMap encP).length = ats.length * 2 := by rw [flatMap_len (size := 2) fun _ _ => rfl]; simp
      rw [e4, zerosP, hzl]
      exact (St.init (ρ := Unit) h3).allocArr n4 () (fun _ => .arr ⟨some ⟨b32, 0, none⟩, ats.length, ats.length⟩ 67 2 ((List.replicate ats.length ((0, 0) : Int × Int)).flatMap encP)) hzl (Nat.le_refl _) (by simp only [maxLen]; omega) rfl (fun i hi => (hi rfl).elim)
    refine lfp.count ats.length (fun i (u : Int) h' => u = (i : Int) ∧ St h3 h' (fun _ : Unit => .arr ⟨some ⟨b32, 0, none⟩, ats.length, ats.length⟩ 67 2 (((rkd ats).take i ++ List.replicate (ats.length - i) (0, 0)).flatMap encP))) (fun Y i u h' hi ⟨q1, st'⟩ next => ?_) ⟨rfl, by simpa using st4⟩
    subst q1
    unfold S63_l2
    rw [hl0, Int.toNat_natCast]
    have g1 := r1.len
    have g2 := r2.len
    simp only [List.length_map] at g1 g2
    by_cases hlt : i < ats.length
    · rw [if_pos (by simp only [decide_eq_true_eq]; omega)]
      obtain ⟨x, hx⟩ : ∃ x, ats[i]? = some x := ⟨_, List.getElem?_eq_getElem hlt⟩
      obtain ⟨a1, ha1, k1⟩ := (r1.le st'.le).ix (i := i) (y := rank (ats.map (·.1)) x.1) (by simp [hx])
      obtain ⟨a2, ha2, k2⟩ := (r2.le st'.le).ix (i := i) (y := rank (ats.map (·.2)) x.2) (by simp [hx])
      refine ⟨a1, ha1, by omega, by omega, _, by rw [Int.toNat_natCast]; exact k1.at0, a2, ha2, by omega, by omega, _, by rw [Int.toNat_natCast]; exact k2.at0, ?_⟩
      have hrl := rkd_len ats
      obtain ⟨h8, hw, st8⟩ := wrAt (i := i) (a := ⟨b32, 0, none⟩) (enc := encP) (((rank (ats.map (·.1)) x.1 : Nat) : Int), ((rank (ats.map (·.2)) x.2 : Nat) : Int)) st' rfl (fun _ => rfl) (by simp; omega) rfl
      refine ⟨⟨b32, 0, none⟩, rfl, by omega, by omega, h8, by rw [Int.toNat_natCast]; exact hw, ?_⟩
      rw [wsucc (by omega)]
      refine next hlt _ _ ⟨rfl, ?_⟩
      rw [put_unit] at st8
      have : ((rkd ats).take i ++ List.replicate (ats.length - i) ((0, 0) : Int × Int)).set i (((rank (ats.map (·.1)) x.1 : Nat) : Int), ((rank (ats.map (·.2)) x.2 : Nat) : Int)) = (rkd ats).take (i + 1) ++ List.replicate (ats.length - (i + 1)) (0, 0) := by
        rw [List.set_append_right _ _ (by simp; omega), List.take_add_one, rkd_at hx, show ats.length - i = (ats.length - (i + 1)) + 1 by omega, List.replicate_succ]
        simp [hrl, Nat.min_eq_left hi]
      rwa [this] at st8
    · rw [if_neg (by simp only [decide_eq_true_eq]; omega)]
      obtain rfl : i = ats.length := by omega
      unfold S63_j1
      rw [hl0, Int.toNat_natCast]
      refine k _ _ (St.pre l3 ?_)
      rw [List.take_of_length_le (by rw [rkd_len]; exact Nat.le_refl _)] at st'
      simpa using st'
theorem c64 {p0 : Sl} {ats : List (Int × Int)} (r0 : Rd h p0 2 encP ats) (hn : ats.length ≤ 2000) {K : Sl → H → Prop}
    (k : ∀ s' h', St h h' (fun _ : Unit => .arr s' 67 2 ((rkd ats).flatMap encP)) → K s' h') : S64 p0 h K := by
  have hl0 := r0.len
  unfold S64
  refine lfp.count ats.length (fun i (u : Sl × Sl × Int) h' => u.2.2 = (i : Int) ∧ St h h' (twoI u.1 u.2.1 ((ats.take i).map (·.1)) ((ats.take i).map (·.2)))) (fun X i u h1 hi ⟨q1, st⟩ next => ?_) ⟨rfl, twoI_nil h⟩
  obtain ⟨v3, v4, u2⟩ := u
  simp only at q1 st; subst q1
  simp only
  unfold S64_l4
  rw [hl0]
  by_cases hlt : i < ats.length
  · rw [if_pos (by simp only [decide_eq_true_eq]; omega)]
    obtain ⟨x, hx⟩ : ∃ x, ats[i]? = some x := ⟨_, List.getElem?_eq_getElem hlt⟩
    obtain ⟨a, ha, rx⟩ := (r0.le st.le).ix hx
    refine ⟨a, ha, by omega, by omega, x.1, by rw [Int.toNat_natCast]; exact rx.at0, ?_⟩
    refine app1 (enc := enc1) false x.1 st rfl (fun _ => rfl) (by decide) (by simp; omega) (by decide) fun s1 h2 st2 => ?_
    rw [twoI_f] at st2
    obtain ⟨a2, ha2, rx2⟩ := (r0.le st2.le).ix hx
    refine ⟨a2, ha2, by omega, by omega, x.2, by rw [Int.toNat_natCast]; exact rx2.at 1 rfl, ?_⟩
    refine app1 (enc := enc1) true x.2 st2 rfl (fun _ => rfl) (by decide) (by simp; omega) (by decide) fun s2 h3 st3 => ?_
    rw [twoI_t] at st3
    rw [wsucc (by omega)]
    refine next hlt _ _ ⟨rfl, ?_⟩
    rw [List.take_add_one, hx, List.map_append, List.map_append]
    exact st3
  · rw [if_neg (by simp only [decide_eq_true_eq]; omega)]
    obtain rfl : i = ats.length := by omega
    rw [List.take_length] at st
    clear next
    unfold S64_j3
    have rx : Rd h1 v3 1 enc1 (ats.map (·.1)) := st.arr (enc := enc1) false rfl (fun _ _ => rfl) (by decide)
    have ry : Rd h1 v4 1 enc1 (ats.map (·.2)) := st.arr (enc := enc1) true rfl (fun _ _ => rfl) (by decide)
    refine c90 rx (by simpa using hn) fun s1 h2 st2 => ?_
    refine c90 (ry.le st2.le) (by simpa using hn) fun s2 h3 st3 => ?_
    have r1 : Rd h3 s1 1 encN ((ats.map (·.1)).map (rank (ats.map (·.1)))) := (st2.arr (enc := encN) () rfl (fun _ _ => rfl) (by decide)).le st3.le
    have r2 : Rd h3 s2 1 encN ((ats.map (·.2)).map (rank (ats.map (·.2)))) := st3.arr (enc := encN) () rfl (fun _ _ => rfl) (by decide)
    have l3 := (st.le.trans st2.le).trans st3.le
    refine lfp.count ats.length (fun i (u : Sl × Int) h' => u.2 = (i : Int) ∧ St h3 h' (fun _ : Unit => .arr u.1 67 2 (((rkd ats).take i).flatMap encP))) (fun Y i u h' hi ⟨q1, st'⟩ next => ?_) ⟨rfl, St.nil1 h3⟩
    obtain ⟨v8, u2⟩ := u
    simp only at q1 st'; subst q1
    simp only
    unfold S64_l2
    rw [hl0]
    have g1 := r1.len
    have g2 := r2.len
    simp only [List.length_map] at g1 g2
    by_cases hlt : i < ats.length
    · rw [if_pos (by simp only [decide_eq_true_eq]; omega)]
      obtain ⟨x, hx⟩ : ∃ x, ats[i]? = some x := ⟨_, List.getElem?_eq_getElem hlt⟩
      obtain ⟨a1, ha1, k1⟩ := (r1.le st'.le).ix (i := i) (y := rank (ats.map (·.1)) x.1) (by simp [hx])
      obtain ⟨a2, ha2, k2⟩ := (r2.le st'.le).ix (i := i) (y := rank (ats.map (·.2)) x.2) (by simp [hx])
      refine ⟨a1, ha1, by omega, by omega, _, by rw [Int.toNat_natCast]; exact k1.at0, a2, ha2, by omega, by omega, _, by rw [Int.toNat_natCast]; exact k2.at0, ?_⟩
      refine app1 (bytes := 16) (enc := encP) () (((rank (ats.map (·.1)) x.1 : Nat) : Int), ((rank (ats.map (·.2)) x.2 : Nat) : Int)) st' rfl (fun _ => rfl) (by decide) (by simp; omega) (by decide) fun s5 h5 st5 => ?_
      rw [put_unit] at st5
      rw [wsucc (by omega)]
      refine next hlt _ _ ⟨rfl, ?_⟩
      rw [List.take_add_one, rkd_at hx]
      exact st5
    · rw [if_neg (by simp only [decide_eq_true_eq]; omega)]
      obtain rfl : i = ats.length := by omega
      unfold S64_j1
      rw [List.take_of_length_le (by rw [rkd_len]; exact Nat.le_refl _)] at st'
      exact k _ _ (St.pre l3 st')
end Go.Proofs.YtimadnngfhbfiaaDoor
end

section
/- PRINTED by wip/gen.py: what (*muntin/norm.maker).sort does, in the words of Mu. -/
namespace Go.Proofs.YtimadnngfhbfiaaDoor
open Go Go.Mu
/- (*muntin/norm.maker).sort -/
def S40_l1 (p0 : Option Addr) (K : H → Prop) (v20 : Sl) (X : Int → H → Prop) (v22 : Int) (h_3 : H) : Prop :=
  (if (decide (v22 < (v20.l : Int))) = true then (∃ a25 : Addr, v20.a = some a25 ∧ 0 ≤ v22 ∧ v22 < (v20.l : Int) ∧ (∃ (v26_0 : Int) (v26_1 : Int) (v26_2 : Int) (v26_3 : ByteArray), H.rdn h_3 (Addr.add a25 (Int.toNat v22 * 4)) 4 [(.int .i64 v26_0), (.int .i64 v26_1), (.int .i64 v26_2), (.string v26_3)] ∧ (∃ a28 : Addr, p0 = some a28 ∧ (∃ (v30 : Sl), H.rd h_3 (Addr.add a28 3) = some (.slice v30.a v30.l v30.c) ∧ (∃ a35 : Addr, v30.a = some a35 ∧ 0 ≤ v26_0 ∧ v26_0 < (v30.l : Int) ∧ (0 ≤ v26_2 ∧ v26_2 < (4 : Int) ∧ (∃ a38 : Addr, p0 = some a38 ∧ (∃ (v40 : Sl), H.rd h_3 (Addr.add a38 3) = some (.slice v40.a v40.l v40.c) ∧ (∃ a46 : Addr, v40.a = some a46 ∧ 0 ≤ v26_1 ∧ v26_1 < (v40.l : Int) ∧ S71 v26_0 v26_1 v26_2 v26_3 h_3 (fun (v44 : Int) (h_4 : H) => H.rd h_4 (Addr.add a28 3) = some (.slice v30.a v30.l v30.c) ∧ H.rd h_4 (Addr.add a38 3) = some (.slice v40.a v40.l v40.c) ∧ S56 v44 2 h_4 (fun (v45 : Int) (h_5 : H) => H.rd h_5 (Addr.add a28 3) = some (.slice v30.a v30.l v30.c) ∧ H.rd h_5 (Addr.add a38 3) = some (.slice v40.a v40.l v40.c) ∧ (0 ≤ v45 ∧ v45 < (4 : Int) ∧ (∃ (v51 : Sl), H.rd h_5 (Addr.add (Addr.add a35 (Int.toNat v26_0 * 4)) (Int.toNat v26_2 * 1)) = some (.slice v51.a v51.l v51.c) ∧ app 147 2 16 v51 1 [(.int .i64 v22), (.int .i64 0)] h_5 (fun (v55 : Sl) (h_6 : H) => (∃ h_7 : H, H.wr h_6 (Addr.add (Addr.add a35 (Int.toNat v26_0 * 4)) (Int.toNat v26_2 * 1)) [(.slice v55.a v55.l v55.c)] h_7 ∧ (∃ (v60 : Sl), H.rd h_7 (Addr.add (Addr.add a46 (Int.toNat v26_1 * 4)) (Int.toNat v45 * 1)) = some (.slice v60.a v60.l v60.c) ∧ app 147 2 16 v60 1 [(.int .i64 v22), (.int .i64 1)] h_7 (fun (v64 : Sl) (h_8 : H) => (∃ h_9 : H, H.wr h_8 (Addr.add (Addr.add a46 (Int.toNat v26_1 * 4)) (Int.toNat v45 * 1)) [(.slice v64.a v64.l v64.c)] h_9 ∧ X (IntKind.wrap .i64 (v22 + 1)) h_9)))))))))))))))))) else K  h_3)
def S40 (p0 : Option Addr) (h : H) (K : H → Prop) : Prop :=
  (∃ a8 : Addr, p0 = some a8 ∧ (∃ (v11 : Sl), H.rd h a8 = some (.slice v11.a v11.l v11.c) ∧ ((0 : Int) ≤ (v11.l : Int) ∧ (v11.l : Int) ≤ (v11.l : Int) ∧ 96 * (v11.l : Int) ≤ (281474976710656 : Int) ∧ (v11.l : Int) ≤ 9223372036854775807 ∧ (∀ (b13 : Nat) (h_1 : H), h b13 = none → h_1 = H.set h b13 (.row ⟨zeros (.agg #[(.slice none 0 0), (.slice none 0 0), (.slice none 0 0), (.slice none 0 0)]) (Int.toNat (v11.l : Int) * 4), (zeros (.agg #[(.slice none 0 0), (.slice none 0 0), (.slice none 0 0), (.slice none 0 0)]) (Int.toNat (v11.l : Int) * 4)).length, 145, true, true⟩) → (∃ a14 : Addr, p0 = some a14 ∧ (∃ h_2 : H, H.wr h_1 (Addr.add a14 3) [(.slice (some ⟨b13, 0, none⟩) (Int.toNat (v11.l : Int)) (Int.toNat (v11.l : Int)))] h_2 ∧ (∃ a17 : Addr, p0 = some a17 ∧ (∃ (v20 : Sl), H.rd h_2 (Addr.add a17 1) = some (.slice v20.a v20.l v20.c) ∧ lfp (fun X s h_3 => S40_l1 p0 K v20 X s h_3) 0 h_2))))))))
end Go.Proofs.YtimadnngfhbfiaaDoor
end

section
/- PRINTED by wip/gen.py: what (*muntin/norm.maker).count does, in the words of Mu. -/
namespace Go.Proofs.YtimadnngfhbfiaaDoor
open Go Go.Mu
/- (*muntin/norm.maker).count -/
def S41_j1 (K : Int → H → Prop) (v3_1 : Int) (h_2 : H) : Prop :=
  K v3_1 h_2
def S41_l2 (K : Int → H → Prop) (v46 : Sl) (X : (Int × Int) → H → Prop) (v3_2 : Int) (v48 : Int) (h_3 : H) : Prop :=
  (if (decide (v48 < (v46.l : Int))) = true then (∃ a50 : Addr, v46.a = some a50 ∧ 0 ≤ v48 ∧ v48 < (v46.l : Int) ∧ (∃ (v51_0 : Int) (v51_1 : Int) (v51_2 : Int) (v51_3 : ByteArray), H.rdn h_3 (Addr.add a50 (Int.toNat v48 * 4)) 4 [(.int .i64 v51_0), (.int .i64 v51_1), (.int .i64 v51_2), (.string v51_3)] ∧ X ((IntKind.wrap .i64 (v3_2 + (ByteArray.size v51_3 : Int))), (IntKind.wrap .i64 (v48 + 1))) h_3)) else S41_j1 K v3_2 h_3)
def S41_j3 (p0 : Option Addr) (K : Int → H → Prop) (v3 : Int) (h_1 : H) : Prop :=
  (∃ a43 : Addr, p0 = some a43 ∧ (∃ (v46 : Sl), H.rd h_1 (Addr.add a43 1) = some (.slice v46.a v46.l v46.c) ∧ lfp (fun X s h_3 => S41_l2 K v46 X s.1 s.2 h_3) (v3, 0) h_1))
def S41_j4 (v16 : Int) (X_1 : (Int × Int) → H → Prop) (v3_4 : Int) (h_5 : H) : Prop :=
  X_1 (v3_4, (IntKind.wrap .i64 (v16 + 1))) h_5
def S41_l5 (v16 : Int) (X_1 : (Int × Int) → H → Prop) (v32_0 : Sl) (v32_1 : Sl) (v32_2 : Sl) (v32_3 : Sl) (X_2 : (Int × Int) → H → Prop) (v3_5 : Int) (v33 : Int) (h_6 : H) : Prop :=
  (if (decide (v33 < 4)) = true then (0 ≤ v33 ∧ v33 < (4 : Int) ∧ X_2 ((IntKind.wrap .i64 (v3_5 + (((sel ([v32_0, v32_1, v32_2, v32_3] : List Sl) v33).l) : Int))), (IntKind.wrap .i64 (v33 + 1))) h_6) else S41_j4 v16 X_1 v3_5 h_6)
def S41_l6 (p0 : Option Addr) (K : Int → H → Prop) (v14 : Sl) (X_1 : (Int × Int) → H → Prop) (v3_3 : Int) (v16 : Int) (h_4 : H) : Prop :=
  (if (decide (v16 < (v14.l : Int))) = true then (∃ a19 : Addr, v14.a = some a19 ∧ 0 ≤ v16 ∧ v16 < (v14.l : Int) ∧ (∃ (v20 : Bool), H.rd h_4 (Addr.add a19 (Int.toNat v16 * 1)) = some (.bool v20) ∧ (if v20 = true then (∃ a27 : Addr, p0 = some a27 ∧ (∃ (v29 : Sl), H.rd h_4 (Addr.add a27 3) = some (.slice v29.a v29.l v29.c) ∧ (∃ a31 : Addr, v29.a = some a31 ∧ 0 ≤ v16 ∧ v16 < (v29.l : Int) ∧ (∃ (v32_0 : Sl) (v32_1 : Sl) (v32_2 : Sl) (v32_3 : Sl), H.rdn h_4 (Addr.add a31 (Int.toNat v16 * 4)) 4 [(.slice v32_0.a v32_0.l v32_0.c), (.slice v32_1.a v32_1.l v32_1.c), (.slice v32_2.a v32_2.l v32_2.c), (.slice v32_3.a v32_3.l v32_3.c)] ∧ lfp (fun X_2 s h_6 => S41_l5 v16 X_1 v32_0 v32_1 v32_2 v32_3 X_2 s.1 s.2 h_6) ((IntKind.wrap .i64 ((IntKind.wrap .i64 (v3_3 + 1)) + 3)), 0) h_4)))) else S41_j4 v16 X_1 (IntKind.wrap .i64 (v3_3 + 1)) h_4))) else S41_j3 p0 K v3_3 h_4)
def S41 (p0 : Option Addr) (h : H) (K : Int → H → Prop) : Prop :=
  (∃ a11 : Addr, p0 = some a11 ∧ (∃ (v14 : Sl), H.rd h a11 = some (.slice v14.a v14.l v14.c) ∧ lfp (fun X_1 s h_4 => S41_l6 p0 K v14 X_1 s.1 s.2 h_4) (0, 0) h))
end Go.Proofs.YtimadnngfhbfiaaDoor
end

section
/- PRINTED by wip/gen.py: what (*muntin/norm.maker).box does, in the words of Mu. -/
namespace Go.Proofs.YtimadnngfhbfiaaDoor
open Go Go.Mu
/- (*muntin/norm.maker).box -/
def S44_j1 (p0 : Option Addr) (v17 : Int) (v19 : Int) (v21 : Int) (v49 : Int) (X : Int → H → Prop) (v10 : Int) (h_6 : H) : Prop :=
  (∃ a88 : Addr, p0 = some a88 ∧ (∃ (v90 : Option Addr), H.rd h_6 (Addr.add a88 2) = some (.pointer v90) ∧ (0 ≤ v49 ∧ v49 < (4 : Int) ∧ (0 ≤ v49 ∧ v49 < (4 : Int) ∧ S75 v90 v10 (sel ([1, 0, 1, 0] : List Int) v49) (sel ([v19, v19, v21, v17] : List Int) v49) (-1) h_6 (fun (v98 : Int) (h_7 : H) => X (IntKind.wrap .i64 (v49 + 1)) h_7)))))
def S44_l2 (p0 : Option Addr) (v17 : Int) (v19 : Int) (v21 : Int) (v48_0 : Sl) (v48_1 : Sl) (v48_2 : Sl) (v48_3 : Sl) (v49 : Int) (X : Int → H → Prop) (X_1 : (Int × Int) → H → Prop) (v10_1 : Int) (v58 : Int) (h_8 : H) : Prop :=
  (if (decide (v58 < (((sel ([v48_0, v48_1, v48_2, v48_3] : List Sl) v49).l) : Int))) = true then (∃ a60 : Addr, (sel ([v48_0, v48_1, v48_2, v48_3] : List Sl) v49).a = some a60 ∧ 0 ≤ v58 ∧ v58 < (((sel ([v48_0, v48_1, v48_2, v48_3] : List Sl) v49).l) : Int) ∧ (∃ (v61_0 : Int) (v61_1 : Int), H.rdn h_8 (Addr.add a60 (Int.toNat v58 * 2)) 2 [(.int .i64 v61_0), (.int .i64 v61_1)] ∧ S74 p0 h_8 (fun (v63 : Int) (h_9 : H) => (∃ a65 : Addr, p0 = some a65 ∧ (∃ (v67 : Sl), H.rd h_9 (Addr.add a65 4) = some (.slice v67.a v67.l v67.c) ∧ (∃ a73 : Addr, v67.a = some a73 ∧ 0 ≤ v61_0 ∧ v61_0 < (v67.l : Int) ∧ (0 ≤ v61_1 ∧ v61_1 < (2 : Int) ∧ (∃ h_10 : H, H.wr h_9 (Addr.add (Addr.add a73 (Int.toNat v61_0 * 2)) (Int.toNat v61_1 * 1)) [(.int .i64 v63)] h_10 ∧ (∃ a76 : Addr, p0 = some a76 ∧ (∃ (v78 : Option Addr), H.rd h_10 (Addr.add a76 2) = some (.pointer v78) ∧ (0 ≤ v49 ∧ v49 < (4 : Int) ∧ S75 v78 v10_1 (sel ([1, 0, 1, 0] : List Int) v49) v63 (-1) h_10 (fun (v84 : Int) (h_11 : H) => X_1 (v63, (IntKind.wrap .i64 (v58 + 1))) h_11)))))))))))) else S44_j1 p0 v17 v19 v21 v49 X v10_1 h_8)
def S44_l3 (p0 : Option Addr) (K : H → Prop) (v15 : Int) (v17 : Int) (v19 : Int) (v21 : Int) (v48_0 : Sl) (v48_1 : Sl) (v48_2 : Sl) (v48_3 : Sl) (X : Int → H → Prop) (v49 : Int) (h_5 : H) : Prop :=
  (if (decide (v49 < 4)) = true then (0 ≤ v49 ∧ v49 < (4 : Int) ∧ (0 ≤ v49 ∧ v49 < (4 : Int) ∧ lfp (fun X_1 s h_8 => S44_l2 p0 v17 v19 v21 v48_0 v48_1 v48_2 v48_3 v49 X X_1 s.1 s.2 h_8) ((sel ([v17, v21, v15, v15] : List Int) v49), 0) h_5)) else K  h_5)
def S44 (p0 : Option Addr) (p1 : Int) (h : H) (K : H → Prop) : Prop :=
  S74 p0 h (fun (v15 : Int) (h_1 : H) => S74 p0 h_1 (fun (v17 : Int) (h_2 : H) => S74 p0 h_2 (fun (v19 : Int) (h_3 : H) => S74 p0 h_3 (fun (v21 : Int) (h_4 : H) => (∃ a43 : Addr, p0 = some a43 ∧ (∃ (v45 : Sl), H.rd h_4 (Addr.add a43 3) = some (.slice v45.a v45.l v45.c) ∧ (∃ a47 : Addr, v45.a = some a47 ∧ 0 ≤ p1 ∧ p1 < (v45.l : Int) ∧ (∃ (v48_0 : Sl) (v48_1 : Sl) (v48_2 : Sl) (v48_3 : Sl), H.rdn h_4 (Addr.add a47 (Int.toNat p1 * 4)) 4 [(.slice v48_0.a v48_0.l v48_0.c), (.slice v48_1.a v48_1.l v48_1.c), (.slice v48_2.a v48_2.l v48_2.c), (.slice v48_3.a v48_3.l v48_3.c)] ∧ lfp (fun X s h_5 => S44_l3 p0 K v15 v17 v19 v21 v48_0 v48_1 v48_2 v48_3 X s h_5) 0 h_4))))))))
end Go.Proofs.YtimadnngfhbfiaaDoor
end

section
/- PRINTED by wip/gen.py: what (*muntin/norm.maker).point does, in the words of Mu. -/
namespace Go.Proofs.YtimadnngfhbfiaaDoor
open Go Go.Mu
/- (*muntin/norm.maker).point -/
def S45_j1 (K : Int → H → Prop) (h_2 : H) : Prop :=
  K 0 h_2
def S45_j2 (v19 : Int) (X : Int → H → Prop) (h_4 : H) : Prop :=
  X (IntKind.wrap .i64 (v19 + 1)) h_4
def S45_l3 (p0 : Option Addr) (v11 : Int) (v18_0 : Sl) (v18_1 : Sl) (v18_2 : Sl) (v18_3 : Sl) (v19 : Int) (X : Int → H → Prop) (X_1 : Int → H → Prop) (v27 : Int) (h_5 : H) : Prop :=
  (if (decide (v27 < (((sel ([v18_0, v18_1, v18_2, v18_3] : List Sl) v19).l) : Int))) = true then (∃ a29 : Addr, (sel ([v18_0, v18_1, v18_2, v18_3] : List Sl) v19).a = some a29 ∧ 0 ≤ v27 ∧ v27 < (((sel ([v18_0, v18_1, v18_2, v18_3] : List Sl) v19).l) : Int) ∧ (∃ (v30_0 : Int) (v30_1 : Int), H.rdn h_5 (Addr.add a29 (Int.toNat v27 * 2)) 2 [(.int .i64 v30_0), (.int .i64 v30_1)] ∧ (∃ a32 : Addr, p0 = some a32 ∧ (∃ (v34 : Sl), H.rd h_5 (Addr.add a32 4) = some (.slice v34.a v34.l v34.c) ∧ (∃ a40 : Addr, v34.a = some a40 ∧ 0 ≤ v30_0 ∧ v30_0 < (v34.l : Int) ∧ (0 ≤ v30_1 ∧ v30_1 < (2 : Int) ∧ (∃ h_6 : H, H.wr h_5 (Addr.add (Addr.add a40 (Int.toNat v30_0 * 2)) (Int.toNat v30_1 * 1)) [(.int .i64 v11)] h_6 ∧ X_1 (IntKind.wrap .i64 (v27 + 1)) h_6))))))) else S45_j2 v19 X h_5)
def S45_l4 (p0 : Option Addr) (K : Int → H → Prop) (v11 : Int) (v18_0 : Sl) (v18_1 : Sl) (v18_2 : Sl) (v18_3 : Sl) (X : Int → H → Prop) (v19 : Int) (h_3 : H) : Prop :=
  (if (decide (v19 < 4)) = true then (0 ≤ v19 ∧ v19 < (4 : Int) ∧ (if (decide ((((sel ([v18_0, v18_1, v18_2, v18_3] : List Sl) v19).l) : Int) > 1)) = true then K 8 h_3 else lfp (fun X_1 s h_5 => S45_l3 p0 v11 v18_0 v18_1 v18_2 v18_3 v19 X X_1 s h_5) 0 h_3)) else S45_j1 K h_3)
def S45 (p0 : Option Addr) (p1 : Int) (h : H) (K : Int → H → Prop) : Prop :=
  S74 p0 h (fun (v11 : Int) (h_1 : H) => (∃ a13 : Addr, p0 = some a13 ∧ (∃ (v15 : Sl), H.rd h_1 (Addr.add a13 3) = some (.slice v15.a v15.l v15.c) ∧ (∃ a17 : Addr, v15.a = some a17 ∧ 0 ≤ p1 ∧ p1 < (v15.l : Int) ∧ (∃ (v18_0 : Sl) (v18_1 : Sl) (v18_2 : Sl) (v18_3 : Sl), H.rdn h_1 (Addr.add a17 (Int.toNat p1 * 4)) 4 [(.slice v18_0.a v18_0.l v18_0.c), (.slice v18_1.a v18_1.l v18_1.c), (.slice v18_2.a v18_2.l v18_2.c), (.slice v18_3.a v18_3.l v18_3.c)] ∧ lfp (fun X s h_3 => S45_l4 p0 K v11 v18_0 v18_1 v18_2 v18_3 X s h_3) 0 h_1)))))
end Go.Proofs.YtimadnngfhbfiaaDoor
end

section
/- PRINTED by wip/gen.py: what (*muntin/norm.maker).edge does, in the words of Mu. -/
namespace Go.Proofs.YtimadnngfhbfiaaDoor
open Go Go.Mu
/- (*muntin/norm.maker).edge -/
def S46_j1 (p0 : Option Addr) (p1 : Int) (K : Int → H → Prop) (v6 : Int) (v7 : Int) (v8 : Sl) (h_2 : H) : Prop :=
  (∃ a59 : Addr, p0 = some a59 ∧ (∃ (v61 : Sl), H.rd h_2 (Addr.add a59 4) = some (.slice v61.a v61.l v61.c) ∧ (∃ a63 : Addr, v61.a = some a63 ∧ 0 ≤ p1 ∧ p1 < (v61.l : Int) ∧ (∃ (v65 : Int), H.rd h_2 (Addr.add (Addr.add a63 (Int.toNat p1 * 2)) 1) = some (.int .i64 v65) ∧ (if (v6 == v65) = true then K 10 h_2 else (∃ a68 : Addr, p0 = some a68 ∧ (∃ (v70 : Option Addr), H.rd h_2 (Addr.add a68 2) = some (.pointer v70) ∧ (∃ a74 : Addr, p0 = some a74 ∧ (∃ (v76 : Sl), H.rd h_2 (Addr.add a74 4) = some (.slice v76.a v76.l v76.c) ∧ (∃ a78 : Addr, v76.a = some a78 ∧ 0 ≤ p1 ∧ p1 < (v76.l : Int) ∧ (∃ (v80 : Int), H.rd h_2 (Addr.add (Addr.add a78 (Int.toNat p1 * 2)) 1) = some (.int .i64 v80) ∧ S75 v70 v6 v7 v80 p1 h_2 (fun (v82 : Int) (h_3 : H) => (∃ a85 : Addr, p0 = some a85 ∧ (∃ (v88 : Sl), H.rd h_3 (Addr.add (Addr.add a85 5) 2) = some (.slice v88.a v88.l v88.c) ∧ (∃ a91 : Addr, p0 = some a91 ∧ (∃ (v93 : Sl), H.rd h_3 (Addr.add a91 4) = some (.slice v93.a v93.l v93.c) ∧ (∃ a95 : Addr, v93.a = some a95 ∧ 0 ≤ p1 ∧ p1 < (v93.l : Int) ∧ (∃ (v97 : Int), H.rd h_3 (Addr.add (Addr.add a95 (Int.toNat p1 * 2)) 1) = some (.int .i64 v97) ∧ app 3 1 8 v8 1 [(.int .i64 v97)] h_3 (fun (v99 : Sl) (h_4 : H) => H.rd h_4 (Addr.add (Addr.add a85 5) 2) = some (.slice v88.a v88.l v88.c) ∧ app 32 1 24 v88 1 [(.slice v99.a v99.l v99.c)] h_4 (fun (v101 : Sl) (h_5 : H) => (∃ a102 : Addr, p0 = some a102 ∧ (∃ h_6 : H, H.wr h_5 (Addr.add (Addr.add a102 5) 2) [(.slice v101.a v101.l v101.c)] h_6 ∧ K 0 h_6))))))))))))))))))))))
def S46_l2 (p0 : Option Addr) (p1 : Int) (K : Int → H → Prop) (v19_3 : ByteArray) (X : (Int × Int × Sl × Nat) → H → Prop) (v6_1 : Int) (v7_1 : Int) (v8_1 : Sl) (c34_1 : Nat) (h_7 : H) : Prop :=
  (if c34_1 < ByteArray.size v19_3 then S74 p0 h_7 (fun (v39 : Int) (h_8 : H) => (∃ a41 : Addr, p0 = some a41 ∧ (∃ (v43 : Option Addr), H.rd h_8 (Addr.add a41 2) = some (.pointer v43) ∧ S75 v43 v6_1 v7_1 v39 p1 h_8 (fun (v48 : Int) (h_9 : H) => S76 v7_1 ((Utf8.decode v19_3 c34_1).1 : Int) h_9 (fun (v52 : Int) (h_10 : H) => app 3 1 8 v8_1 1 [(.int .i64 v39)] h_10 (fun (v56 : Sl) (h_11 : H) => X (v39, v52, v56, (c34_1 + (Utf8.decode v19_3 c34_1).2)) h_11)))))) else S46_j1 p0 p1 K v6_1 v7_1 v8_1 h_7)
def S46 (p0 : Option Addr) (p1 : Int) (h : H) (K : Int → H → Prop) : Prop :=
  (∃ a13 : Addr, p0 = some a13 ∧ (∃ (v16 : Sl), H.rd h (Addr.add a13 1) = some (.slice v16.a v16.l v16.c) ∧ (∃ a18 : Addr, v16.a = some a18 ∧ 0 ≤ p1 ∧ p1 < (v16.l : Int) ∧ (∃ (v19_0 : Int) (v19_1 : Int) (v19_2 : Int) (v19_3 : ByteArray), H.rdn h (Addr.add a18 (Int.toNat p1 * 4)) 4 [(.int .i64 v19_0), (.int .i64 v19_1), (.int .i64 v19_2), (.string v19_3)] ∧ (∃ a21 : Addr, p0 = some a21 ∧ (∃ (v23 : Sl), H.rd h (Addr.add a21 4) = some (.slice v23.a v23.l v23.c) ∧ (∃ a25 : Addr, v23.a = some a25 ∧ 0 ≤ p1 ∧ p1 < (v23.l : Int) ∧ (∃ (v27 : Int), H.rd h (Addr.add a25 (Int.toNat p1 * 2)) = some (.int .i64 v27) ∧ (∀ (b31 : Nat) (h_1 : H), h b31 = none → h_1 = H.set h b31 (.row ⟨[(.int .i64 v27)], 1, 3, true, true⟩) → lfp (fun X s h_7 => S46_l2 p0 p1 K v19_3 X s.1 s.2.1 s.2.2.1 s.2.2.2 h_7) (v27, v19_2, ⟨some ⟨b31, 0, none⟩, 1, 1⟩, 0) h_1)))))))))
end Go.Proofs.YtimadnngfhbfiaaDoor
end

section
/- PRINTED by wip/gen.py: what slices.Clone[[]muntin/api.Cell,muntin/api.Cell] does, in the words of Mu. -/
namespace Go.Proofs.YtimadnngfhbfiaaDoor
open Go Go.Mu
/- slices.Clone[[]muntin/api.Cell,muntin/api.Cell] -/
def S77 (p0 : Sl) (h : H) (K : Sl → H → Prop) : Prop :=
  (if (Option.isNone p0.a) = true then K Sl.nil h else (∀ (b5 : Nat) (h_1 : H), h b5 = none → h_1 = H.set h b5 (.row ⟨[], 0, 51, true, true⟩) → ((p0.a = none → p0.l = 0 → p0.c = 0) ∧ appS 51 8 64 ⟨some ⟨b5, 0, none⟩, 0, 0⟩ p0 h_1 (fun (v7 : Sl) (h_2 : H) => K v7 h_2))))
end Go.Proofs.YtimadnngfhbfiaaDoor
end

section
/- PRINTED by wip/gen.py: what (*muntin/grid.Grid).Cells does, in the words of Mu. -/
namespace Go.Proofs.YtimadnngfhbfiaaDoor
open Go Go.Mu
/- (*muntin/grid.Grid).Cells -/
def S47 (p0 : Option Addr) (h : H) (K : Sl → H → Prop) : Prop :=
  (if (Option.isNone p0) = true then K Sl.nil h else (∃ a6 : Addr, p0 = some a6 ∧ (∃ (v8 : Sl), H.rd h a6 = some (.slice v8.a v8.l v8.c) ∧ S77 v8 h (fun (v9 : Sl) (h_1 : H) => K v9 h_1))))
end Go.Proofs.YtimadnngfhbfiaaDoor
end

section
/- PRINTED by wip/gen.py: what muntin/norm.Of does, in the words of Mu. -/
namespace Go.Proofs.YtimadnngfhbfiaaDoor
open Go Go.Mu
/- muntin/norm.Of -/
def S12_j1 (K : Sl → Sl → Sl → Int → H → Prop) (b23 : Nat) (c2_0_1 : Sl) (c2_1_1 : Sl) (c2_2_1 : Sl) (h_9 : H) : Prop :=
  (∃ (v91 : Option Addr), H.rd h_9 ⟨b23, 2, none⟩ = some (.pointer v91) ∧ S47 v91 h_9 (fun (v92 : Sl) (h_10 : H) => (∃ h_11 : H, H.wr h_10 ⟨b23, 5, none⟩ [(.slice v92.a v92.l v92.c)] h_11 ∧ (∃ (v99_0 : Sl) (v99_1 : Sl) (v99_2 : Sl), H.rdn h_11 ⟨b23, 5, none⟩ 3 [(.slice v99_0.a v99_0.l v99_0.c), (.slice v99_1.a v99_1.l v99_1.c), (.slice v99_2.a v99_2.l v99_2.c)] ∧ K v99_0 v99_1 v99_2 0 h_11))))
def S12_l2 (p0_1 : Sl) (K : Sl → Sl → Sl → Int → H → Prop) (b23 : Nat) (X : (Int × Sl × Sl × Sl) → H → Prop) (v76 : Int) (c2_0_2 : Sl) (c2_1_2 : Sl) (c2_2_2 : Sl) (h_12 : H) : Prop :=
  (if (decide (v76 < (p0_1.l : Int))) = true then S46 (some ⟨b23, 0, none⟩) v76 h_12 (fun (v81 : Int) (h_13 : H) => (if (v81 != 0) = true then K Sl.nil Sl.nil Sl.nil v81 h_13 else X ((IntKind.wrap .i64 (v76 + 1)), c2_0_2, c2_1_2, c2_2_2) h_13)) else S12_j1 K b23 c2_0_2 c2_1_2 c2_2_2 h_12)
def S12_j3 (p0_1 : Sl) (K : Sl → Sl → Sl → Int → H → Prop) (b23 : Nat) (c2_0 : Sl) (c2_1 : Sl) (c2_2 : Sl) (h_8 : H) : Prop :=
  lfp (fun X s h_12 => S12_l2 p0_1 K b23 X s.1 s.2.1 s.2.2.1 s.2.2.2 h_12) (0, c2_0, c2_1, c2_2) h_8
def S12_j4 (v40 : Int) (X_1 : (Int × Sl × Sl × Sl) → H → Prop) (c2_0_4 : Sl) (c2_1_4 : Sl) (c2_2_4 : Sl) (h_15 : H) : Prop :=
  X_1 ((IntKind.wrap .i64 (v40 + 1)), c2_0_4, c2_1_4, c2_2_4) h_15
def S12_l5 (p0_0 : Sl) (p0_1 : Sl) (K : Sl → Sl → Sl → Int → H → Prop) (b23 : Nat) (X_1 : (Int × Sl × Sl × Sl) → H → Prop) (v40 : Int) (c2_0_3 : Sl) (c2_1_3 : Sl) (c2_2_3 : Sl) (h_14 : H) : Prop :=
  (if (decide (v40 < (p0_0.l : Int))) = true then (∃ a43 : Addr, p0_0.a = some a43 ∧ 0 ≤ v40 ∧ v40 < (p0_0.l : Int) ∧ (∃ (v44 : Bool), H.rd h_14 (Addr.add a43 (Int.toNat v40 * 1)) = some (.bool v44) ∧ (∃ (v50 : Sl), H.rd h_14 ⟨b23, 6, none⟩ = some (.slice v50.a v50.l v50.c) ∧ (∃ (v54 : Option Addr), H.rd h_14 ⟨b23, 2, none⟩ = some (.pointer v54) ∧ S43 v54 h_14 (fun (v55 : Int) (h_16 : H) => H.rd h_16 ⟨b23, 6, none⟩ = some (.slice v50.a v50.l v50.c) ∧ app 3 1 8 v50 1 [(.int .i64 v55)] h_16 (fun (v57 : Sl) (h_17 : H) => (∃ h_18 : H, H.wr h_17 ⟨b23, 6, none⟩ [(.slice v57.a v57.l v57.c)] h_18 ∧ (if v44 = true then S44 (some ⟨b23, 0, none⟩) v40 h_18 (fun  (h_19 : H) => S12_j4 v40 X_1 c2_0_3 c2_1_3 c2_2_3 h_19) else S45 (some ⟨b23, 0, none⟩) v40 h_18 (fun (v67 : Int) (h_20 : H) => (if (v67 != 0) = true then K Sl.nil Sl.nil Sl.nil v67 h_20 else S12_j4 v40 X_1 c2_0_3 c2_1_3 c2_2_3 h_20)))))))))) else S12_j3 p0_1 K b23 c2_0_3 c2_1_3 c2_2_3 h_14)
def S12 (p0_0 : Sl) (p0_1 : Sl) (h : H) (K : Sl → Sl → Sl → Int → H → Prop) : Prop :=
  S39 p0_0 p0_1 h (fun (v12 : Int) (h_1 : H) => (if (v12 != 0) = true then K Sl.nil Sl.nil Sl.nil v12 h_1 else ((0 : Int) ≤ (p0_1.l : Int) ∧ (p0_1.l : Int) ≤ (p0_1.l : Int) ∧ 16 * (p0_1.l : Int) ≤ (281474976710656 : Int) ∧ (p0_1.l : Int) ≤ 9223372036854775807 ∧ (∀ (b21 : Nat) (h_2 : H), h_1 b21 = none → h_2 = H.set h_1 b21 (.row ⟨zeros (.agg #[(.int .i64 0), (.int .i64 0)]) (Int.toNat (p0_1.l : Int) * 2), (zeros (.agg #[(.int .i64 0), (.int .i64 0)]) (Int.toNat (p0_1.l : Int) * 2)).length, 116, true, true⟩) → (∀ (b23 : Nat) (h_3 : H), h_2 b23 = none → h_3 = H.set h_2 b23 (.row ⟨[(.slice p0_0.a p0_0.l p0_0.c), (.slice p0_1.a p0_1.l p0_1.c), (.pointer none), (.slice none 0 0), (.slice (some ⟨b21, 0, none⟩) (Int.toNat (p0_1.l : Int)) (Int.toNat (p0_1.l : Int))), (.slice none 0 0), (.slice none 0 0), (.slice none 0 0)], 8, 106, true, true⟩) → S40 (some ⟨b23, 0, none⟩) h_3 (fun  (h_4 : H) => S41 (some ⟨b23, 0, none⟩) h_4 (fun (v27 : Int) (h_5 : H) => (if (decide (v27 > 4096)) = true then K Sl.nil Sl.nil Sl.nil 6 h_5 else S42 0 h_5 (fun (v32_0 : Option Addr) (v32_1 : Int) (h_6 : H) => (∃ h_7 : H, H.wr h_6 ⟨b23, 2, none⟩ [(.pointer v32_0)] h_7 ∧ lfp (fun X_1 s h_14 => S12_l5 p0_0 p0_1 K b23 X_1 s.1 s.2.1 s.2.2.1 s.2.2.2 h_14) (0, Sl.nil, Sl.nil, Sl.nil) h_7))))))))))
end Go.Proofs.YtimadnngfhbfiaaDoor
end

section
/-
  The program's maker, by roles: its parts.
-/
namespace Go.Proofs.YtimadnngfhbfiaaDoor
open Go Go.Mu Go.Shape
variable {h h0 : H}

inductive Rm where
  | mk | grid | cells | first | ends | sides | ways | cur
  | way (i : Nat)
  | side (v d : Nat)
structure Mk where
  bm : Nat
  p0 : Sl
  p1 : Sl
  gr : Option Nat
  sS : Sl
  e : Sl
  f : Sl
  w : Sl
  c : Sl
  cs : List Cell
  fi : List Nat
  en : List Nat
  ws : List (Sl × List Nat)
  nv : Nat
  sd : Nat → Nat → Sl
  sds : Nat → Nat → List Nat
def encE (k : Nat) : List Value := [.int .i64 ((k / 2 : Nat) : Int), .int .i64 ((k % 2 : Nat) : Int)]
def encS (sd : Nat → Nat → Sl) (v : Nat) : List Value := [(sd v 0).v, (sd v 1).v, (sd v 2).v, (sd v 3).v]
def Mk.row (m : Mk) : Row := ⟨[m.p0.v, m.p1.v, .pointer (m.gr.map fun b => ⟨b, 0, none⟩), m.sS.v, m.e.v, .slice none 0 0, m.f.v, m.w.v], 8, 106, true, true⟩
def Mk.M (m : Mk) (u : Res) : Rm → Res
  | .mk => .blk m.bm (.row m.row)
  | .grid => match m.gr with
    | some b => .blk b (gridRow m.c)
    | none => .no
  | .cells => .arr m.c 51 8 (m.cs.flatMap Cell.enc)
  | .first => .arr m.f 3 1 (m.fi.flatMap encN)
  | .ends => .arr m.e 116 2 (m.en.flatMap encN)
  | .sides => .arr m.sS 145 4 ((List.range m.nv).flatMap (encS m.sd))
  | .ways => .arr m.w 32 1 (m.ws.flatMap fun p => [p.1.v])
  | .cur => u
  | .way i => match m.ws[i]? with
    | some p => .arr p.1 3 1 (p.2.flatMap encN)
    | none => .no
  | .side v d => if v < m.nv ∧ d < 4 then .arr (m.sd v d) 147 2 ((m.sds v d).flatMap encE) else .no
theorem Mk.at {m : Mk} {u : Res} (st : St h0 h (m.M u)) {off : Nat} {v : Value} (hv : m.row.cells[off]? = some v) : h.rd (Addr.add ⟨m.bm, 0, none⟩ off) = some v := by
  rw [Addr.add_n, Nat.zero_add]; exact st.rd .mk rfl hv
theorem Mk.gp {m : Mk} {u : Res} (st : St h0 h (m.M u)) {bg : Nat} (hg : m.gr = some bg) : h.rd (Addr.add ⟨m.bm, 0, none⟩ 2) = some (.pointer (some ⟨bg, 0, none⟩)) := by
  refine Mk.at st ?_
  simp [Mk.row, hg]
theorem Mk.grd {m : Mk} {u : Res} {bg : Nat} (hg : m.gr = some bg) : Grd (m.M u) .grid .cells bg m.c m.cs := ⟨by simp [Mk.M, hg], rfl⟩
theorem Mk.put_cells (m : Mk) (u : Res) (cs : List Cell) : put (m.M u) .cells (.arr m.c 51 8 (cs.flatMap Cell.enc)) = ({ m with cs := cs } : Mk).M u := by funext r; cases r <;> simp [put, Mk.M, Mk.row]
theorem Mk.put_grid (m : Mk) (u : Res) {bg : Nat} (hg : m.gr = some bg) (c : Sl) (cs : List Cell) : put (put (m.M u) .cells (.arr c 51 8 (cs.flatMap Cell.enc))) .grid (.blk bg (gridRow c)) = ({ m with c := c, cs := cs } : Mk).M u := by funext r; cases r <;> simp [put, Mk.M, Mk.row, hg]
theorem Mk.put_ends (m : Mk) (u : Res) (en : List Nat) : put (m.M u) .ends (.arr m.e 116 2 (en.flatMap encN)) = ({ m with en := en } : Mk).M u := by funext r; cases r <;> simp [put, Mk.M, Mk.row]
theorem Mk.put_cur (m : Mk) (u u' : Res) : put (m.M u) .cur u' = m.M u' := by funext r; cases r <;> simp [put, Mk.M]

theorem c74 {m : Mk} {u : Res} {bg : Nat} (st : St h0 h (m.M u)) (hg : m.gr = some bg) (hn : m.cs.length < 4096) {K : Int → H → Prop}
    (k : ∀ c' h', St h0 h' (({ m with c := c', cs := m.cs ++ [Cell.empty] } : Mk).M u) → K (m.cs.length : Nat) h') : S74 (some ⟨m.bm, 0, none⟩) h K := by
  unfold S74
  refine ⟨_, rfl, _, Mk.gp st hg, c95 (by simp) (Mk.grd hg) st hn fun s' h' st' => k s' h' ?_⟩
  rw [Mk.put_grid m u hg] at st'; exact st'
theorem cJ {m : Mk} {u : Res} {bg : Nat} (st : St h0 h (m.M u)) (hg : m.gr = some bg) {v d w : Nat} {o : Int} (hd : d < 4) (ho : -2 ≤ o) {K : Int → H → Prop}
    (k : ∀ e h', St h0 h' (({ m with cs := join m.cs v d w o } : Mk).M u) → K e h') : S75 (some ⟨bg, 0, none⟩) v d w o h K := by
  refine c75 (by simp) (Mk.grd hg) st hd ho fun e h' st' => k e h' ?_
  rw [Mk.put_cells] at st'; exact st'
theorem sel4 {α : Type} [Inhabited α] {d : Nat} (hd : d < 4) (f : Nat → α) : sel ([f 0, f 1, f 2, f 3] : List α) d = f d := by
  rcases cases4 hd with rfl | rfl | rfl | rfl <;> rfl
instance : Inhabited Sl := ⟨Sl.nil⟩
theorem encS_len (sd : Nat → Nat → Sl) (v : Nat) : (encS sd v).length = 4 := rfl
theorem encE_len (k : Nat) : (encE k).length = 2 := rfl
/-- The ends of a side are read. -/
theorem Mk.sideRd {m : Mk} {u : Res} (st : St h0 h (m.M u)) {v d : Nat} (hv : v < m.nv) (hd : d < 4) : Rd h (m.sd v d) 2 encE (m.sds v d) :=
  st.arr (e := 147) (.side v d) (by simp [Mk.M, hv, hd]) (fun _ _ => rfl) (by decide)
theorem Mk.sidesRd {m : Mk} {u : Res} (st : St h0 h (m.M u)) : Rd h m.sS 4 (encS m.sd) (List.range m.nv) := st.arr .sides rfl (fun _ _ => rfl) (by decide)

/-- What a maker has of a shape when it is sorted. -/
structure Mk.Has (m : Mk) (bx : List Bool) (es : List Ed) : Prop where
  nv : m.nv = bx.length
  sds : ∀ v d, v < bx.length → d < 4 → m.sds v d = on es v d
  en : m.en.length = 2 * es.length

theorem c45 {m : Mk} {u : Res} {bg v : Nat} {bx : List Bool} {es : List Ed} (st : St h0 h (m.M u)) (hg : m.gr = some bg) (hn : m.cs.length < 4096) (hs : m.Has bx es) (hv : v < bx.length) (hes : es.length ≤ 16) {K : Int → H → Prop}
    (kerr : (∃ d, d < 4 ∧ 1 < (on es v d).length) → ∀ h', h0.Le h' → K 8 h')
    (kok : (¬ ∃ d, d < 4 ∧ 1 < (on es v d).length) → ∀ c' h', St h0 h' (({ m with c := c', cs := m.cs ++ [Cell.empty], en := pSides es v m.cs.length m.en 4 } : Mk).M u) → K 0 h') : S45 (some ⟨m.bm, 0, none⟩) v h K := by
  unfold S45
  refine c74 st hg hn fun c' h1 st1 => ?_
  have nv := hs.nv
  have hvr : (List.range m.nv)[v]? = some v := by rw [List.getElem?_range]; omega
  obtain ⟨a, ha, hrd⟩ := (Mk.sidesRd st1).ix (i := v) (y := v) hvr
  have hsl : m.sS.l = m.nv := by have := (Mk.sidesRd st1).1; rw [List.length_range] at this; exact this
  refine ⟨_, rfl, m.sS, Mk.at st1 (off := 3) rfl, a, ha, by omega, by omega, m.sd v 0, m.sd v 1, m.sd v 2, m.sd v 3, by rw [Int.toNat_natCast]; exact hrd, ?_⟩
  refine lfp.count 4 (fun d (s : Int) h2 => s = (d : Int) ∧ (∀ c, c < d → ¬ 1 < (on es v c).length) ∧ St h0 h2 (({ m with c := c', cs := m.cs ++ [Cell.empty], en := pSides es v m.cs.length m.en d } : Mk).M u)) (fun X d s h2 hd ⟨q1, q2, st2⟩ next => ?_) ⟨rfl, fun c hc => by omega, st1⟩
  subst q1
  have psl := pSides_len es v m.cs.length m.en d
  have hen := hs.en
  unfold S45_l4
  by_cases hd4 : d < 4
  · rw [if_pos (by simp only [decide_eq_true_eq]; omega)]
    refine ⟨by omega, by omega, ?_⟩
    rw [sel4 hd4 (m.sd v)]
    have rs : Rd h2 (m.sd v d) 2 encE (m.sds v d) := Mk.sideRd st2 (by show v < m.nv; omega) hd4
    rw [hs.sds v d hv hd4] at rs
    have rl := rs.len
    by_cases h1' : 1 < (on es v d).length
    · rw [if_pos (by simp only [decide_eq_true_eq]; omega)]
      exact kerr ⟨d, hd4, h1'⟩ _ st2.le
    · rw [if_neg (by simp only [decide_eq_true_eq]; omega)]
      refine lfp.count (on es v d).length (fun i (s : Int) h3 => s = (i : Int) ∧ St h0 h3 (({ m with c := c', cs := m.cs ++ [Cell.empty], en := pEnds m.cs.length (pSides es v m.cs.length m.en d) ((on es v d).take i) } : Mk).M u)) (fun Y i s h3 hi ⟨q1, st3⟩ nxt => ?_) ⟨rfl, st2⟩
      subst q1
      have pel := pEnds_len m.cs.length ((on es v d).take i) (pSides es v m.cs.length m.en d)
      unfold S45_l3 S45_j2
      rw [sel4 hd4 (m.sd v), rl]
      by_cases hi2 : i < (on es v d).length
      · rw [if_pos (by simp only [decide_eq_true_eq]; omega)]
        obtain ⟨x, hx⟩ : ∃ x, (on es v d)[i]? = some x := ⟨_, List.getElem?_eq_getElem hi2⟩
        have hxl := on_lt (List.mem_of_getElem? hx)
        have rs3 : Rd h3 (m.sd v d) 2 encE (m.sds v d) := Mk.sideRd st3 (by show v < m.nv; omega) hd4
        rw [hs.sds v d hv hd4] at rs3
        obtain ⟨a2, ha2, hrd2⟩ := rs3.ix hx
        refine ⟨a2, ha2, by omega, by omega, _, _, by rw [Int.toNat_natCast]; exact hrd2, ?_⟩
        obtain ⟨hel, a3, ha3, h10, w10, st10⟩ := wrEnd (p := m.cs.length) st3 (r := .ends) rfl (k := x) (by show x < (pEnds _ _ _).length; omega) (by show (pEnds _ _ _).length = 2 * es.length; omega)
        have hel' : m.e.l = es.length := hel
        refine ⟨_, rfl, m.e, Mk.at st3 (off := 4) rfl, a3, ha3, by omega, by omega, by omega, by omega, h10, ?_, nxt hi2 _ _ ⟨wsucc (by omega), ?_⟩⟩
        · rw [Addr.add_add, Nat.mul_one, Int.toNat_natCast, Int.toNat_natCast, Nat.div_add_mod']; exact w10
        · have := Mk.put_ends ({ m with c := c', cs := m.cs ++ [Cell.empty], en := pEnds m.cs.length (pSides es v m.cs.length m.en d) ((on es v d).take i) } : Mk) u ((pEnds m.cs.length (pSides es v m.cs.length m.en d) ((on es v d).take i)).set x m.cs.length)
          rw [this] at st10
          unfold pEnds at st10 ⊢
          rw [take_foldl _ _ _ hx]; exact st10
      · rw [if_neg (by simp only [decide_eq_true_eq]; omega)]
        rw [List.take_of_length_le (by omega)] at st3
        have e2 : pSides es v m.cs.length m.en (d + 1) = pEnds m.cs.length (pSides es v m.cs.length m.en d) (on es v d) := range_foldl _ _ _
        refine next hd4 _ _ ⟨wsucc (by omega), fun c hc => ?_, by rw [e2]; exact st3⟩
        by_cases hc2 : c < d
        · exact q2 c hc2
        · have : c = d := by omega
          subst this; exact h1'
  · rw [if_neg (by simp only [decide_eq_true_eq]; omega)]
    have : d = 4 := by omega
    subst this
    unfold S45_j1
    exact kok (fun ⟨d, hd, hl⟩ => q2 d hd hl) _ _ st2

theorem c44 {m : Mk} {u : Res} {bg v : Nat} {bx : List Bool} {es : List Ed} (st : St h0 h (m.M u)) (hg : m.gr = some bg) (hn : m.cs.length < 3800) (hs : m.Has bx es) (hv : v < bx.length) (hes : es.length ≤ 16) {K : H → Prop}
    (k : ∀ c' h', St h0 h' (({ m with c := c', cs := (box es v (m.cs, m.en)).1, en := (box es v (m.cs, m.en)).2 } : Mk).M u) → K h') : S44 (some ⟨m.bm, 0, none⟩) v h K := by
  have nv := hs.nv
  have hen := hs.en
  unfold S44
  refine c74 st hg (by omega) fun c1 h1 st1 => ?_
  refine c74 st1 hg (by simp; omega) fun c2 h2 st2 => ?_
  refine c74 st2 hg (by simp; omega) fun c3 h3 st3 => ?_
  refine c74 st3 hg (by simp; omega) fun c4 h4 st4 => ?_
  simp only [List.length_append, List.length_cons, List.length_nil, List.append_assoc, List.singleton_append, List.cons_append, List.nil_append] at st4 ⊢
  have hvr : (List.range m.nv)[v]? = some v := by rw [List.getElem?_range]; omega
  obtain ⟨a, ha, hrd⟩ := (Mk.sidesRd st4).ix (i := v) (y := v) hvr
  have hsl : m.sS.l = m.nv := by have := (Mk.sidesRd st4).1; rw [List.length_range] at this; exact this
  refine ⟨_, rfl, m.sS, Mk.at st4 (off := 3) rfl, a, ha, by omega, by omega, m.sd v 0, m.sd v 1, m.sd v 2, m.sd v 3, by rw [Int.toNat_natCast]; exact hrd, ?_⟩
  refine lfp.count 4 (fun d (s : Int) h' => s = (d : Int) ∧ ∃ c', St h0 h' (({ m with c := c', cs := (bSides es v m.cs.length (m.cs ++ List.replicate 4 Cell.empty, m.en) d).1, en := (bSides es v m.cs.length (m.cs ++ List.replicate 4 Cell.empty, m.en) d).2 } : Mk).M u))
    (fun X d s h' hd ⟨q1, c', st5⟩ next => ?_) ⟨rfl, c4, st4⟩
  subst q1
  have bl := bSides_len es v m.cs.length (m.cs ++ List.replicate 4 Cell.empty, m.en) d
  have hm4 : d * (2 * es.length) ≤ 4 * 32 := Nat.mul_le_mul (by omega) (by omega)
  simp only [List.length_append, List.length_replicate] at bl
  generalize hsd : bSides es v m.cs.length (m.cs ++ List.replicate 4 Cell.empty, m.en) d = sd at st5 bl
  unfold S44_l3
  by_cases hd4 : d < 4
  · rw [if_pos (by simp only [decide_eq_true_eq]; omega)]
    refine ⟨by omega, by omega, by omega, by omega, ?_⟩
    have hfrom : sel ([((m.cs.length + (0 + 1) : Nat) : Int), ((m.cs.length + (0 + 1) + (0 + 1) + (0 + 1) : Nat) : Int), (m.cs.length : Int), (m.cs.length : Int)] : List Int) d = ((fromP m.cs.length d : Nat) : Int) := by
      rcases cases4 hd4 with rfl | rfl | rfl | rfl <;> rfl
    have hto : sel ([((m.cs.length + (0 + 1) + (0 + 1) : Nat) : Int), ((m.cs.length + (0 + 1) + (0 + 1) : Nat) : Int), ((m.cs.length + (0 + 1) + (0 + 1) + (0 + 1) : Nat) : Int), ((m.cs.length + (0 + 1) : Nat) : Int)] : List Int) d = ((toP m.cs.length d : Nat) : Int) := by
      rcases cases4 hd4 with rfl | rfl | rfl | rfl <;> rfl
    have hway : sel ([1, 0, 1, 0] : List Int) d = ((wayP d : Nat) : Int) := by
      rcases cases4 hd4 with rfl | rfl | rfl | rfl <;> rfl
    simp only [Nat.zero_add, Nat.add_assoc, Nat.reduceAdd] at hfrom hto ⊢
    have hff : (sel ([((m.cs.length + 1 : Nat) : Int), ((m.cs.length + 3 : Nat) : Int), (m.cs.length : Int), (m.cs.length : Int)] : List Int) d) = ((fromP m.cs.length d : Nat) : Int) := hfrom
    rw [hff]
    refine lfp.count (on es v d).length (fun i (s : Int × Int) h3 => s = ((((bEnds (wayP d) (sd.1, sd.2, fromP m.cs.length d) ((on es v d).take i)).2.2 : Nat) : Int), (i : Int)) ∧
        ∃ c', St h0 h3 (({ m with c := c', cs := (bEnds (wayP d) (sd.1, sd.2, fromP m.cs.length d) ((on es v d).take i)).1, en := (bEnds (wayP d) (sd.1, sd.2, fromP m.cs.length d) ((on es v d).take i)).2.1 } : Mk).M u))
      (fun Y i s h3 hi ⟨q1, c3', st6⟩ nxt => ?_) ⟨rfl, c', st5⟩
    subst q1
    simp only
    have hol := on_len es v d
    have el := bEnds_len (wayP d) ((on es v d).take i) (sd.1, sd.2, fromP m.cs.length d)
    rw [List.length_take] at el
    simp only at el
    generalize hr : bEnds (wayP d) (sd.1, sd.2, fromP m.cs.length d) ((on es v d).take i) = r at st6 el
    unfold S44_l2
    rw [sel4 hd4 (m.sd v)]
    have rs : Rd h3 (m.sd v d) 2 encE (m.sds v d) := Mk.sideRd st6 (by show v < m.nv; omega) hd4
    rw [hs.sds v d hv hd4] at rs
    rw [rs.len]
    by_cases hi2 : i < (on es v d).length
    · rw [if_pos (by simp only [decide_eq_true_eq]; omega)]
      obtain ⟨x, hx⟩ : ∃ x, (on es v d)[i]? = some x := ⟨_, List.getElem?_eq_getElem hi2⟩
      have hxl := on_lt (List.mem_of_getElem? hx)
      obtain ⟨a2, ha2, hrd2⟩ := rs.ix hx
      refine ⟨a2, ha2, by omega, by omega, _, _, by rw [Int.toNat_natCast]; exact hrd2, ?_⟩
      refine c74 st6 hg (by show r.1.length < 4096; omega) fun c7 h7 st7 => ?_
      obtain ⟨hel, a3, ha3, h10, w10, st10⟩ := wrEnd (p := r.1.length) st7 (r := .ends) rfl (k := x) (by show x < r.2.1.length; omega) (by show r.2.1.length = 2 * es.length; omega)
      have hel' : m.e.l = es.length := hel
      have hp := Mk.put_ends ({ m with c := c7, cs := r.1 ++ [Cell.empty], en := r.2.1 } : Mk) u (r.2.1.set x r.1.length)
      rw [hp] at st10
      refine ⟨_, rfl, m.e, Mk.at st7 (off := 4) rfl, a3, ha3, by omega, by omega, by omega, by omega, h10, ?_, _, rfl, _, Mk.gp st10 hg, by omega, by omega, ?_⟩
      · rw [Addr.add_add, Nat.mul_one, Int.toNat_natCast, Int.toNat_natCast, Nat.div_add_mod']; exact w10
      rw [hway]
      refine cJ st10 hg (wayP_lt d) (by decide) fun ee h11 st11 => ?_
      have eq := take_foldl (bEnd (wayP d)) (sd.1, sd.2, fromP m.cs.length d) _ hx
      have hr' : ((on es v d).take i).foldl (bEnd (wayP d)) (sd.1, sd.2, fromP m.cs.length d) = r := hr
      rw [hr'] at eq
      refine nxt hi2 _ _ ⟨?_, c7, ?_⟩
      · show _ = _
        unfold bEnds
        rw [eq, wsucc (by omega)]; rfl
      · unfold bEnds
        rw [eq]; exact st11
    · rw [if_neg (by simp only [decide_eq_true_eq]; omega)]
      rw [List.take_of_length_le (by omega)] at hr
      unfold S44_j1
      refine ⟨_, rfl, _, Mk.gp st6 hg, by omega, by omega, by omega, by omega, ?_⟩
      have htt : (sel ([((m.cs.length + 2 : Nat) : Int), ((m.cs.length + 2 : Nat) : Int), ((m.cs.length + 3 : Nat) : Int), ((m.cs.length + 1 : Nat) : Int)] : List Int) d) = ((toP m.cs.length d : Nat) : Int) := hto
      rw [hway, htt]
      refine cJ st6 hg (wayP_lt d) (by decide) fun ee h11 st11 => ?_
      have e9 : bSides es v m.cs.length (m.cs ++ List.replicate 4 Cell.empty, m.en) (d + 1) = bSide es v m.cs.length sd d := by
        rw [← hsd]; exact range_foldl _ _ _
      refine next hd4 _ _ ⟨wsucc (by omega), c3', ?_⟩
      rw [e9]
      unfold bSide
      rw [hr]
      exact st11
  · rw [if_neg (by simp only [decide_eq_true_eq]; omega)]
    have : d = 4 := by omega
    subst this
    have e : box es v (m.cs, m.en) = sd := hsd
    exact k c' h' (by rw [e]; exact st5)
end Go.Proofs.YtimadnngfhbfiaaDoor
end

section
/-
  The program's maker: edges.
-/
namespace Go.Proofs.YtimadnngfhbfiaaDoor
open Go Go.Mu Go.Shape
variable {h h0 : H}

theorem Mk.push {m : Mk} {w' wy : Sl} {way : List Nat}
    (st : St h0 h (put (put (m.M (.arr wy 3 1 (way.flatMap encN))) .ways (.arr w' 32 1 (m.ws.flatMap (fun p => [p.1.v]) ++ [wy.v]))) .mk (.blk m.bm (.row ({ m with w := w' } : Mk).row)))) : St h0 h (({ m with w := w', ws := m.ws ++ [(wy, way)] } : Mk).M .no) := by
  refine st.re _ (fun r => match r with | .way i => if i = m.ws.length then .cur else .way i | r => r) (fun r => ?_) (fun r r' h1 h2 e => ?_)
  · cases r with
    | ways => right; simp [Mk.M, put]
    | mk => right; simp [Mk.M, put, Mk.row]
    | way i =>
      right
      by_cases hi : i = m.ws.length
      · subst hi; simp [Mk.M, put]
      · simp only [hi, if_false, Mk.M, put, reduceCtorEq, if_false]
        by_cases hl : i < m.ws.length
        · rw [List.getElem?_append_left hl]
        · rw [List.getElem?_eq_none (by simp; omega), List.getElem?_eq_none (by omega)]
    | cur => exact .inl rfl
    | _ => right; simp [Mk.M, put]
  · cases r <;> cases r' <;> simp_all [Mk.M] <;> (try split at e) <;> (try split at e) <;> simp_all

theorem c46 {m : Mk} {u : Res} {bg i : Nat} {bx : List Bool} {es : List Ed} {x : Ed} (sh : Shp h0 m.p0 m.p1 bx es) (st : St h0 h (m.M u)) (hg : m.gr = some bg) (hn : m.cs.length < 4000) (hen : m.en.length = 2 * es.length) (hx : es[i]? = some x) (hw : m.ws.length < 100) {K : Int → H → Prop}
    (kerr : (edge0 m.en x i m.cs).2.1 = m.en.getD (2 * i + 1) 0 → ∀ h', h0.Le h' → K 10 h')
    (kok : (edge0 m.en x i m.cs).2.1 ≠ m.en.getD (2 * i + 1) 0 → ∀ c' w' wy h', St h0 h' (({ m with c := c', w := w', cs := join (edge0 m.en x i m.cs).1 (edge0 m.en x i m.cs).2.1 (edge0 m.en x i m.cs).2.2.1 (m.en.getD (2 * i + 1) 0) i, ws := m.ws ++ [(wy, (edge0 m.en x i m.cs).2.2.2 ++ [m.en.getD (2 * i + 1) 0])] } : Mk).M .no) → K 0 h') :
    S46 (some ⟨m.bm, 0, none⟩) i h K := by
  have le := sh.le
  have e1 := sh.e.len
  have hlt : i < es.length := (List.getElem?_eq_some_iff.1 hx).1
  have ek := sh.ok x (List.mem_of_getElem? hx)
  have hb4 := ek.b
  obtain ⟨a, ha, hrd⟩ := sh.e.ix hx
  unfold S46
  obtain ⟨hel, a2, ha2, rd0⟩ := rdEnd st (r := .ends) rfl (k := 2 * i) (by show 2 * i < m.en.length; omega) (hen : _ = 2 * es.length)
  have hel' : m.e.l = es.length := hel
  refine ⟨_, rfl, m.p1, Mk.at st (off := 1) rfl, a, ha, by omega, by omega, x.f, x.t, x.d, bs x.b, by rw [Int.toNat_natCast]; exact st.le.rdn hrd, _, rfl, m.e, Mk.at st (off := 4) rfl, a2, ha2, by omega, by omega, _, by rw [Int.toNat_natCast, Nat.mul_comm i 2]; exact rd0, fun b2 h2 n2 eh2 => ?_⟩
  have st2 : St h0 h2 (m.M (.arr ⟨some ⟨b2, 0, none⟩, 1, 1⟩ 3 1 ([m.en.getD (2 * i) 0].flatMap encN))) := by
    rw [eh2]
    have := st.allocArr (k := 1) (cap := 1) (e := 3) (size := 1) (xs := [m.en.getD (2 * i) 0].flatMap encN) n2 .cur (put _ .cur (.arr ⟨some ⟨b2, 0, none⟩, 1, 1⟩ 3 1 ([m.en.getD (2 * i) 0].flatMap encN))) rfl (Nat.le_refl _) (by decide) (put_eq _ _ _) (put_or _ _ _)
    rw [Mk.put_cur] at this; exact this
  refine lfp.count x.b.length (fun j (s : Int × Int × Sl × Nat) h' => ∃ wy c, s = ((((bends i (m.cs, m.en.getD (2 * i) 0, x.d, [m.en.getD (2 * i) 0]) (x.b.take j)).2.1 : Nat) : Int), (((bends i (m.cs, m.en.getD (2 * i) 0, x.d, [m.en.getD (2 * i) 0]) (x.b.take j)).2.2.1 : Nat) : Int), wy, j) ∧
      St h0 h' (({ m with c := c, cs := (bends i (m.cs, m.en.getD (2 * i) 0, x.d, [m.en.getD (2 * i) 0]) (x.b.take j)).1 } : Mk).M (.arr wy 3 1 ((bends i (m.cs, m.en.getD (2 * i) 0, x.d, [m.en.getD (2 * i) 0]) (x.b.take j)).2.2.2.flatMap encN))))
    (fun Y j s h' hj ⟨wy, c, q3, st3⟩ nxt => ?_) ⟨_, m.c, rfl, st2⟩
  subst q3
  simp only
  have bl := bends_len i (x.b.take j) (m.cs, m.en.getD (2 * i) 0, x.d, [m.en.getD (2 * i) 0])
  have bd := bends_dir i (x.b.take j) (m.cs, m.en.getD (2 * i) 0, x.d, [m.en.getD (2 * i) 0])
  have bdl := lastOf_lt (x.b.take j) ek.d
  rw [List.length_take] at bl
  simp only [List.length_cons, List.length_nil] at bl bd
  have hE0 : edge0 m.en x i m.cs = bends i (m.cs, m.en.getD (2 * i) 0, x.d, [m.en.getD (2 * i) 0]) x.b := rfl
  generalize hr : bends i (m.cs, m.en.getD (2 * i) 0, x.d, [m.en.getD (2 * i) 0]) (x.b.take j) = r at st3 bl bd
  rw [← bd] at bdl
  have hwy : wy.l = r.2.2.2.length := (st3.arr (enc := encN) .cur rfl (enc1N _) (by decide)).1
  unfold S46_l2
  rw [bs_size]
  by_cases hj2 : j < x.b.length
  · rw [if_pos hj2]
    obtain ⟨y, hy⟩ : ∃ y, x.b[j]? = some y := ⟨_, List.getElem?_eq_getElem hj2⟩
    rw [decode_bs hy]
    refine c74 st3 hg (by show r.1.length < 4096; omega) fun c4 h4 st4 => ?_
    refine ⟨_, rfl, _, Mk.gp st4 hg, ?_⟩
    refine cJ st4 hg bdl (by omega) fun ee h5 st5 => ?_
    refine c76 bdl y ?_
    refine ⟨_, _, st5.own .cur rfl, by simp only [maxLen]; omega, by omega, fun wy' h6 ap => ?_⟩
    obtain ⟨st6, _⟩ := st5.app .cur rfl rfl rfl ap (put _ .cur (.arr wy' 3 1 ((r.2.2.2 ++ [r.1.length]).flatMap encN))) (by rw [put_eq, List.flatMap_append]; rfl) (put_or _ _ _)
    rw [Mk.put_cur] at st6
    have eq : bends i (m.cs, m.en.getD (2 * i) 0, x.d, [m.en.getD (2 * i) 0]) (x.b.take (j + 1)) = bend i r y := by
      rw [← hr]; exact take_foldl _ _ _ hy
    refine nxt hj2 _ _ ⟨wy', c4, ?_, ?_⟩
    · rw [eq]; rfl
    · rw [eq]; exact st6
  · rw [if_neg hj2]
    have hjl : x.b.take j = x.b := List.take_of_length_le (by omega)
    rw [hjl] at hr
    rw [hE0, hr] at kerr kok
    unfold S46_j1
    obtain ⟨_, a3, ha3, rd3⟩ := rdEnd st3 (r := .ends) rfl (k := 2 * i + 1) (by show 2 * i + 1 < m.en.length; omega) (hen : _ = 2 * es.length)
    refine ⟨_, rfl, m.e, Mk.at st3 (off := 4) rfl, a3, ha3, by omega, by omega, _, by rw [Int.toNat_natCast, Addr.add_add, Nat.mul_comm i 2]; exact rd3, ?_⟩
    by_cases heq : r.2.1 = m.en.getD (2 * i + 1) 0
    · rw [if_pos (by simp only [beq_iff_eq]; exact congrArg Int.ofNat heq)]
      exact kerr heq _ st3.le
    · rw [if_neg (by simp only [beq_iff_eq]; exact fun h => heq (Int.ofNat.inj h))]
      refine ⟨_, rfl, _, Mk.gp st3 hg, _, rfl, m.e, Mk.at st3 (off := 4) rfl, a3, ha3, by omega, by omega, _, by rw [Int.toNat_natCast, Addr.add_add, Nat.mul_comm i 2]; exact rd3, ?_⟩
      refine cJ st3 hg bdl (by omega) fun ee h5 st5 => ?_
      obtain ⟨_, a4, ha4, rd4⟩ := rdEnd st5 (r := .ends) rfl (k := 2 * i + 1) (by show 2 * i + 1 < m.en.length; omega) (hen : _ = 2 * es.length)
      refine ⟨_, rfl, m.w, by rw [Addr.add_add]; exact Mk.at st5 (off := 7) rfl, _, rfl, m.e, Mk.at st5 (off := 4) rfl, a4, ha4, by omega, by omega, _, by rw [Int.toNat_natCast, Addr.add_add, Nat.mul_comm i 2]; exact rd4, ?_⟩
      refine ⟨_, _, st5.own .cur rfl, by simp only [maxLen]; omega, by omega, fun wy' h6 ap => ?_⟩
      obtain ⟨st6, _⟩ := st5.app .cur rfl rfl rfl ap (put _ .cur (.arr wy' 3 1 ((r.2.2.2 ++ [m.en.getD (2 * i + 1) 0]).flatMap encN))) (by rw [put_eq, List.flatMap_append]; rfl) (put_or _ _ _)
      rw [Mk.put_cur] at st6
      have hwl : m.w.l = m.ws.length := (st6.arr (enc := fun p : Sl × List Nat => [p.1.v]) .ways rfl (fun _ _ => rfl) (by decide)).1
      refine ⟨by rw [Addr.add_add]; exact Mk.at st6 (off := 7) rfl, ?_⟩
      refine ⟨_, _, st6.own .ways rfl, by simp only [maxLen]; omega, by omega, fun w' h7 ap2 => ?_⟩
      obtain ⟨st7, _⟩ := st6.app .ways rfl rfl rfl ap2 (put _ .ways (.arr w' 32 1 (m.ws.flatMap (fun p => [p.1.v]) ++ [wy'.v]))) (put_eq _ _ _) (put_or _ _ _)
      obtain ⟨h8, w8, st8⟩ := st7.wr (vs := [.slice w'.a w'.l w'.c]) (off := 7) .mk (by rw [put_ne _ _ (by simp)]; rfl) rfl (by simp [Mk.row]) (put _ .mk (.blk m.bm (.row ({ m with w := w' } : Mk).row))) (by rw [put_eq]; rfl) (put_or _ _ _)
      refine ⟨_, rfl, h8, by rw [Addr.add_add, Addr.add_n]; exact w8, kok heq c w' wy' h8 ?_⟩
      exact Mk.push (m := ({ m with c := c, cs := join r.1 r.2.1 r.2.2.1 (m.en.getD (2 * i + 1) 0) i } : Mk)) st8
end Go.Proofs.YtimadnngfhbfiaaDoor
end

section
/-
  The program's maker: ends sorted to sides, cells counted; a new grid; cells cloned.
-/
namespace Go.Proofs.YtimadnngfhbfiaaDoor
open Go Go.Mu Go.Shape
variable {h h0 : H}

def upS {α : Type} (f : Nat → Nat → α) (v d : Nat) (x : α) : Nat → Nat → α := fun v' d' => if v' = v ∧ d' = d then x else f v' d'
theorem upS_eq {α : Type} (f : Nat → Nat → α) (v d : Nat) (x : α) : upS f v d x v d = x := by simp [upS]
theorem upS_ne {α : Type} (f : Nat → Nat → α) {v d v' d' : Nat} (x : α) (hn : ¬ (v' = v ∧ d' = d)) : upS f v d x v' d' = f v' d' := by simp [upS, hn]
theorem flatMap_congr' {α β : Type} {f g : α → List β} : ∀ {l : List α}, (∀ x ∈ l, f x = g x) → l.flatMap f = l.flatMap g
  | [], _ => rfl
  | x :: l, hh => by rw [List.flatMap_cons, List.flatMap_cons, hh x (by simp), flatMap_congr' fun y hy => hh y (List.mem_cons_of_mem _ hy)]
theorem encS_up (sd : Nat → Nat → Sl) {v d : Nat} (hd : d < 4) (s : Sl) : setL (encS sd v) d [s.v] = encS (upS sd v d s) v := by
  rcases cases4 hd with rfl | rfl | rfl | rfl <;> simp [encS, setL, upS]
theorem range_set_up (sd : Nat → Nat → Sl) {v d n : Nat} (hv : v < n) (s : Sl) (hd : d < 4) : setL ((List.range n).flatMap (encS sd)) (v * 4 + d) [s.v] = (List.range n).flatMap (encS (upS sd v d s)) := by
  -- as a list of rows
  have key : ∀ (l : List Nat) (i : Nat), l[i]? = some v → l.Nodup → setL (l.flatMap (encS sd)) (i * 4 + d) [s.v] = l.flatMap (encS (upS sd v d s)) := by
    intro l
    induction l with
    | nil => intro i e; simp at e
    | cons z l ih =>
      intro i e nd
      have ndc := List.nodup_cons.1 nd
      cases i with
      | zero =>
        simp only [List.getElem?_cons_zero, Option.some.injEq] at e; subst e
        rw [List.flatMap_cons, Nat.zero_mul, Nat.zero_add, setL_head1 _ _ _ (by rw [encS_len]; exact hd), encS_up sd hd, List.flatMap_cons]
        congr 1
        have : ∀ y ∈ l, encS sd y = encS (upS sd z d s) y := fun y hy => by
          have hne : y ≠ z := fun e => ndc.1 (e ▸ hy)
          simp [encS, upS, hne]
        exact flatMap_congr' this
      | succ i =>
        have e2 : l[i]? = some v := by simpa using e
        have hne : z ≠ v := fun h => ndc.1 (h ▸ List.mem_of_getElem? e2)
        rw [List.flatMap_cons, setL_append1 (j := i * 4 + d) _ _ _ (by rw [encS_len]; omega), ih i e2 ndc.2, List.flatMap_cons]
        congr 1
        simp [encS, upS, hne]
  exact key (List.range n) v (by rw [List.getElem?_range]; exact hv) List.nodup_range
/-- An end is added to a side. -/
theorem Mk.add {m : Mk} {u : Res} {v d k : Nat} {a : Addr} (st : St h0 h (m.M u)) (hv : v < m.nv) (hd : d < 4) (ha : m.sS.a = some a) (hl : (m.sds v d).length < 1000) {K : Sl → H → Prop}
    (kk : ∀ s' h' h2, H.wr h' (a.add (v * 4 + d)) [.slice s'.a s'.l s'.c] h2 → St h0 h2 (({ m with sd := upS m.sd v d s', sds := upS m.sds v d (m.sds v d ++ [k]) } : Mk).M u) → K s' h') : Mu.app 147 2 16 (m.sd v d) 1 (encE k) h K := by
  have hM : m.M u (.side v d) = .arr (m.sd v d) 147 2 ((m.sds v d).flatMap encE) := by simp [Mk.M, hv, hd]
  have hsl := (Mk.sideRd st hv hd).1
  refine ⟨_, _, st.own _ hM, by simp only [maxLen]; omega, by omega, fun s' h' ap => ?_⟩
  obtain ⟨st1, _⟩ := st.app _ hM rfl rfl ap (put (m.M u) (.side v d) (.arr s' 147 2 ((m.sds v d ++ [k]).flatMap encE))) (by rw [put_eq, List.flatMap_append]; simp) (put_or _ _ _)
  have hoff : v * 4 + d + ([.slice s'.a s'.l s'.c] : List Value).length ≤ ((List.range m.nv).flatMap (encS m.sd)).length := by
    rw [flatMap_len (size := 4) (fun _ _ => rfl)]; simp; omega
  obtain ⟨h2, w2, st2⟩ := st1.wrArr (e := 145) (size := 4) (vs := [.slice s'.a s'.l s'.c]) .sides (by rw [put_ne _ _ (by simp)]; rfl) ha hoff (({ m with sd := upS m.sd v d s', sds := upS m.sds v d (m.sds v d ++ [k]) } : Mk).M u)
    (by
      have := range_set_up m.sd hv s' hd
      simp only [Sl.v] at this
      simp only [Mk.M]
      rw [this]) (fun r hr => by
      left
      cases r with
      | side v' d' =>
        by_cases hc : v' = v ∧ d' = d
        · obtain ⟨rfl, rfl⟩ := hc
          rw [put_eq]; simp [Mk.M, hv, hd, upS_eq]
        · have hne : Rm.side v' d' ≠ Rm.side v d := fun e => by cases e; exact hc ⟨rfl, rfl⟩
          rw [put_ne _ _ hne]; simp [Mk.M, upS_ne _ _ hc]
      | sides => exact absurd rfl hr
      | _ => rw [put_ne _ _ (by simp)]; rfl)
  exact kk s' h' h2 w2 st2

theorem zeros4 (n : Nat) : zeros (.agg #[(.slice none 0 0), (.slice none 0 0), (.slice none 0 0), (.slice none 0 0)]) (n * 4) = (List.range n).flatMap (encS fun _ _ => Sl.nil) := by
  have := zeros_agg (xs := encS (fun _ _ => Sl.nil) 0) (size := 4) (m := n) rfl (by decide)
  rw [show (encS (fun _ _ => Sl.nil) 0).toArray = #[(.slice none 0 0), (.slice none 0 0), (.slice none 0 0), (.slice none 0 0)] from rfl] at this
  rw [this]
  have key : ∀ l : List Nat, (List.replicate l.length ()).flatMap (fun _ => encS (fun _ _ => Sl.nil) 0) = l.flatMap (encS fun _ _ => Sl.nil) := by
    intro l
    induction l with
    | nil => rfl
    | cons z l ih => rw [List.length_cons, List.replicate_succ, List.flatMap_cons, ih, List.flatMap_cons]; rfl
  have := key (List.range n)
  rwa [List.length_range] at this

theorem c40 {m : Mk} {u : Res} {bx : List Bool} {es : List Ed} (sh : Shp h0 m.p0 m.p1 bx es) (st : St h0 h (m.M u)) (hnv : m.nv = 0) (hsS : m.sS = Sl.nil) {K : H → Prop}
    (k : ∀ (m' : Mk) h', m' = ({ m with sS := m'.sS, nv := bx.length, sd := m'.sd, sds := on es } : Mk) → St h0 h' (m'.M u) → K h') : S40 (some ⟨m.bm, 0, none⟩) h K := by
  have lb := sh.lb
  have le := sh.le
  have e0 := sh.b.len
  have e1 := sh.e.len
  unfold S40
  refine ⟨_, rfl, m.p0, Mk.at st (off := 0) rfl, ?_⟩
  rw [e0]
  refine ⟨by omega, by omega, by omega, by omega, fun b h1 n1 eh1 => ?_⟩
  rw [Int.toNat_natCast, zeros4] at eh1
  rw [Int.toNat_natCast]
  have hz : ((List.range bx.length).flatMap (encS fun _ _ => Sl.nil)).length = bx.length * 4 := by rw [flatMap_len (size := 4) (fun _ _ => rfl)]; simp
  rw [hz] at eh1
  have st1 : St h0 h1 (put (m.M u) .sides (.arr ⟨some ⟨b, 0, none⟩, bx.length, bx.length⟩ 145 4 ((List.range bx.length).flatMap (encS fun _ _ => Sl.nil)))) := by
    rw [eh1]
    exact st.allocArr (k := bx.length) (cap := bx.length) (e := 145) (size := 4) (xs := (List.range bx.length).flatMap (encS fun _ _ => Sl.nil)) n1 .sides _ hz (Nat.le_refl _) (by simp only [maxLen]; omega) (put_eq _ _ _) (put_or _ _ _)
  obtain ⟨h2, w2, st2⟩ := st1.wr (vs := [.slice (some ⟨b, 0, none⟩) bx.length bx.length]) (off := 3) .mk (by rw [put_ne _ _ (by simp)]; rfl) rfl (by simp [Mk.row]) (put _ .mk (.blk m.bm (.row ({ m with sS := ⟨some ⟨b, 0, none⟩, bx.length, bx.length⟩ } : Mk).row))) (by rw [put_eq]; rfl) (put_or _ _ _)
  refine ⟨_, rfl, h2, by rw [Addr.add_n]; exact w2, ?_⟩
  -- all sides are empty
  have st3 : St h0 h2 (({ m with sS := ⟨some ⟨b, 0, none⟩, bx.length, bx.length⟩, nv := bx.length, sd := fun _ _ => Sl.nil, sds := fun _ _ => [] } : Mk).M u) := by
    have base : St h0 h2 (fun r : Rm => match r with | .side _ _ => Res.no | r => ({ m with sS := ⟨some ⟨b, 0, none⟩, bx.length, bx.length⟩, nv := bx.length, sd := fun _ _ => Sl.nil, sds := fun _ _ => [] } : Mk).M u r) := by
      refine st2.re _ id (fun r => ?_) (fun _ _ _ _ e => e)
      cases r <;> first | exact .inl rfl | (right; simp [put, Mk.M, Mk.row])
    refine ⟨base.le, fun r => ?_, fun r q hb => ?_, fun r r' q hb hb' => ?_⟩
    · cases r with
      | side v d =>
        simp only [Mk.M]
        split
        · exact ⟨rfl, .inl ⟨rfl, rfl⟩⟩
        · trivial
      | _ => first | exact base.ok .mk | exact base.ok .grid | exact base.ok .cells | exact base.ok .first | exact base.ok .ends | exact base.ok .sides | exact base.ok .ways | exact base.ok .cur | exact base.ok (.way _)
    · cases r with
      | side v d => exfalso; simp only [Mk.M] at hb; split at hb <;> cases hb
      | _ => first | exact base.new .mk _ hb | exact base.new .grid _ hb | exact base.new .cells _ hb | exact base.new .first _ hb | exact base.new .ends _ hb | exact base.new .sides _ hb | exact base.new .ways _ hb | exact base.new .cur _ hb | exact base.new (.way _) _ hb
    · have key : ∀ r b', (({ m with sS := ⟨some ⟨b, 0, none⟩, bx.length, bx.length⟩, nv := bx.length, sd := fun _ _ => Sl.nil, sds := fun _ _ => [] } : Mk).M u r).own = some b' → ((fun r : Rm => match r with | .side _ _ => Res.no | r => ({ m with sS := ⟨some ⟨b, 0, none⟩, bx.length, bx.length⟩, nv := bx.length, sd := fun _ _ => Sl.nil, sds := fun _ _ => [] } : Mk).M u r) r).own = some b' := fun r b' e => by
        cases r with
        | side v d => exfalso; simp only [Mk.M] at e; split at e <;> cases e
        | _ => exact e
      exact base.inj r r' _ (key _ _ hb) (key _ _ hb')
  refine ⟨_, rfl, m.p1, Mk.at st3 (off := 1) rfl, ?_⟩
  refine lfp.count es.length (fun i (s : Int) h' => s = (i : Int) ∧ ∃ sd sds, (∀ v d, v < bx.length → d < 4 → sds v d = on (es.take i) v d) ∧ St h0 h' (({ m with sS := ⟨some ⟨b, 0, none⟩, bx.length, bx.length⟩, nv := bx.length, sd := sd, sds := sds } : Mk).M u)) (fun X i s h' hi ⟨q1, sd, sds, q2, st4⟩ next => ?_)
    ⟨rfl, _, _, fun v d _ _ => rfl, st3⟩
  subst q1
  unfold S40_l1
  rw [e1]
  by_cases hlt : i < es.length
  · rw [if_pos (by simp only [decide_eq_true_eq]; omega)]
    obtain ⟨x, hx⟩ : ∃ x, es[i]? = some x := ⟨_, List.getElem?_eq_getElem hlt⟩
    have ek := sh.ok x (List.mem_of_getElem? hx)
    have hf := ek.f
    have ht := ek.t
    have hd := ek.d
    have hsd := x.side_lt
    obtain ⟨a, ha, hrd⟩ := sh.e.ix hx
    have hl1 : (on (es.take i) x.f x.d).length ≤ 2 * i := by have := on_len (es.take i) x.f x.d; rw [List.length_take] at this; omega
    have hl2 : (on (es.take i) x.t x.side).length ≤ 2 * i := by have := on_len (es.take i) x.t x.side; rw [List.length_take] at this; omega
    have r3 : ∀ {sd' : Nat → Nat → Sl} {sds' : Nat → Nat → List Nat} {hh : H}, St h0 hh (({ m with sS := ⟨some ⟨b, 0, none⟩, bx.length, bx.length⟩, nv := bx.length, sd := sd', sds := sds' } : Mk).M u) → hh.rd (Addr.add ⟨m.bm, 0, none⟩ 3) = some (.slice (some ⟨b, 0, none⟩) bx.length bx.length) := fun s => Mk.at s (off := 3) rfl
    have rs : ∀ {sd' : Nat → Nat → Sl} {sds' : Nat → Nat → List Nat} {hh : H} (_ : St h0 hh (({ m with sS := ⟨some ⟨b, 0, none⟩, bx.length, bx.length⟩, nv := bx.length, sd := sd', sds := sds' } : Mk).M u)) (v d : Nat), v < bx.length → d < 4 → hh.rd (Addr.add ⟨b, 0, none⟩ (v * 4 + d)) = some (sd' v d).v := fun {sd' sds' hh} s v d hv hd => by
      have hvr : (List.range bx.length)[v]? = some v := by rw [List.getElem?_range]; exact hv
      obtain ⟨a', ha', q⟩ := (Mk.sidesRd s).ix (i := v) (y := v) hvr
      have e : a' = ⟨b, 0, none⟩ := (Option.some.inj ha').symm
      subst e
      have := q.at d (v := (sd' v d).v) (by rcases cases4 hd with rfl | rfl | rfl | rfl <;> rfl)
      rw [Addr.add_add] at this; exact this
    refine ⟨a, ha, by omega, by omega, x.f, x.t, x.d, bs x.b, by rw [Int.toNat_natCast]; exact st4.le.rdn hrd, _, rfl, ⟨some ⟨b, 0, none⟩, bx.length, bx.length⟩, r3 st4, _, rfl, by omega, by simp only []; omega, by omega, by omega, _, rfl, ⟨some ⟨b, 0, none⟩, bx.length, bx.length⟩, r3 st4, _, rfl, by omega, by simp only []; omega, ?_⟩
    refine c71 hd ek.b ?_
    refine ⟨r3 st4, r3 st4, ?_⟩
    refine c56 (lastOf_lt _ hd) (left2 (lastOf_lt _ hd)) ?_
    have hside : ((lastOf x.d x.b + 2) % 4) = x.side := rfl
    rw [hside]
    refine ⟨r3 st4, r3 st4, by omega, by omega, sd x.f x.d, by rw [Addr.add_add, Nat.mul_one, Int.toNat_natCast, Int.toNat_natCast]; exact rs st4 x.f x.d hf hd, ?_⟩
    have en0 : ([(.int .i64 (i : Int)), (.int .i64 0)] : List Value) = encE (2 * i) := by
      unfold encE; rw [show 2 * i / 2 = i from by omega, show 2 * i % 2 = 0 from by omega]; rfl
    have en1 : ([(.int .i64 (i : Int)), (.int .i64 1)] : List Value) = encE (2 * i + 1) := by
      unfold encE; rw [show (2 * i + 1) / 2 = i from by omega, show (2 * i + 1) % 2 = 1 from by omega]; rfl
    rw [en0]
    refine Mk.add st4 (a := ⟨b, 0, none⟩) hf hd rfl (by show (sds x.f x.d).length < 1000; rw [q2 _ _ hf hd]; omega) fun s1 h5 h6 w6 st6 => ?_
    refine ⟨h6, by rw [Addr.add_add, Nat.mul_one, Int.toNat_natCast, Int.toNat_natCast]; exact w6, ?_⟩
    refine ⟨_, by rw [Addr.add_add, Nat.mul_one, Int.toNat_natCast, Int.toNat_natCast]; exact rs st6 x.t x.side ht hsd, ?_⟩
    rw [en1]
    have hsds6 : (upS sds x.f x.d (sds x.f x.d ++ [2 * i]) x.t x.side).length < 1000 := by
      by_cases hc : x.t = x.f ∧ x.side = x.d
      · rw [hc.1, hc.2, upS_eq, List.length_append, q2 _ _ hf hd]; simp; omega
      · rw [upS_ne _ _ hc, q2 _ _ ht hsd]; omega
    refine Mk.add st6 (a := ⟨b, 0, none⟩) ht hsd rfl hsds6 fun s2 h7 h8 w8 st8 => ?_
    refine ⟨h8, by rw [Addr.add_add, Nat.mul_one, Int.toNat_natCast, Int.toNat_natCast]; exact w8, ?_⟩
    refine next hlt _ _ ⟨wsucc (by omega), _, _, fun v d hv hd2 => ?_, st8⟩
    rw [on_take hx]
    show upS (upS sds x.f x.d (sds x.f x.d ++ [2 * i])) x.t x.side (upS sds x.f x.d (sds x.f x.d ++ [2 * i]) x.t x.side ++ [2 * i + 1]) v d = _
    have h1 : upS sds x.f x.d (sds x.f x.d ++ [2 * i]) v d = on (es.take i) v d ++ (if x.f = v ∧ x.d = d then [2 * i] else []) := by
      by_cases hc : x.f = v ∧ x.d = d
      · obtain ⟨rfl, rfl⟩ := hc
        rw [upS_eq, q2 _ _ hf hd]; simp
      · rw [upS_ne _ _ (fun h => hc ⟨h.1.symm, h.2.symm⟩), q2 _ _ hv hd2, if_neg hc, List.append_nil]
    by_cases hc : x.t = v ∧ x.side = d
    · obtain ⟨rfl, rfl⟩ := hc
      rw [upS_eq, h1]
      simp [endsOf]
    · rw [upS_ne _ _ (fun h => hc ⟨h.1.symm, h.2.symm⟩), h1]
      simp [endsOf, hc]
  · rw [if_neg (by simp only [decide_eq_true_eq]; omega)]
    rw [List.take_of_length_le (by omega)] at q2
    refine k ({ m with sS := ⟨some ⟨b, 0, none⟩, bx.length, bx.length⟩, nv := bx.length, sd := sd, sds := on es } : Mk) h' rfl ?_
    refine st4.re _ id (fun r => .inr ?_) (fun _ _ _ _ e => e)
    cases r with
    | side v d =>
      simp only [Mk.M, id]
      by_cases hc : v < bx.length ∧ d < 4
      · rw [if_pos hc, if_pos hc, q2 _ _ hc.1 hc.2]
      · rw [if_neg hc, if_neg hc]
    | _ => rfl
end Go.Proofs.YtimadnngfhbfiaaDoor
end

section
/-
  The program's maker: count; a new grid; a clone.
-/
namespace Go.Proofs.YtimadnngfhbfiaaDoor
open Go Go.Mu Go.Shape
variable {h h0 : H}

theorem c41 {m : Mk} {u : Res} {bx : List Bool} {es : List Ed} (sh : Shp h0 m.p0 m.p1 bx es) (st : St h0 h (m.M u)) (hnv : m.nv = bx.length) (hsds : ∀ v d, v < bx.length → d < 4 → m.sds v d = on es v d) {K : Int → H → Prop}
    (k : ∀ n, n ≤ 4096 → K n h) : S41 (some ⟨m.bm, 0, none⟩) h K := by
  have lb := sh.lb
  have le := sh.le
  have e0 := sh.b.len
  have e1 := sh.e.len
  unfold S41
  refine ⟨_, rfl, m.p0, Mk.at st (off := 0) rfl, ?_⟩
  refine lfp.count bx.length (fun v (s : Int × Int) h' => h' = h ∧ s.2 = (v : Int) ∧ ∃ n : Nat, s.1 = (n : Int) ∧ n ≤ v * 132) (fun X v s h' hv ⟨q1, q2, n, q3, q4⟩ next => ?_) ⟨rfl, rfl, 0, rfl, Nat.le_refl _⟩
  obtain ⟨s1, s2⟩ := s
  simp only at q2 q3; subst q1 q2 q3
  unfold S41_l6
  rw [e0]
  by_cases hlt : v < bx.length
  · rw [if_pos (by simp only [decide_eq_true_eq]; omega)]
    obtain ⟨x, hx⟩ : ∃ x, bx[v]? = some x := ⟨_, List.getElem?_eq_getElem hlt⟩
    obtain ⟨a, ha, hrd⟩ := sh.b.ix hx
    refine ⟨a, ha, by omega, by omega, x, by rw [Int.toNat_natCast]; exact (st.le.rdn hrd).at0, ?_⟩
    rw [wsucc (i := n) (by omega)]
    unfold S41_j4
    cases x with
    | false =>
      rw [if_neg (by decide)]
      exact next hlt _ _ ⟨rfl, wsucc (by omega), n + 1, rfl, by omega⟩
    | true =>
      rw [if_pos rfl]
      have hvr : (List.range m.nv)[v]? = some v := by rw [List.getElem?_range]; omega
      obtain ⟨a2, ha2, hrd2⟩ := (Mk.sidesRd st).ix (i := v) (y := v) hvr
      have hsl : m.sS.l = m.nv := by have := (Mk.sidesRd st).1; rw [List.length_range] at this; exact this
      refine ⟨_, rfl, m.sS, Mk.at st (off := 3) rfl, a2, ha2, by omega, by omega, m.sd v 0, m.sd v 1, m.sd v 2, m.sd v 3, by rw [Int.toNat_natCast]; exact hrd2, ?_⟩
      rw [wrapN (x := ((n + 1 : Nat) : Int) + 3) (n := n + 4) (by omega) (by omega)]
      refine lfp.count 4 (fun d (s : Int × Int) h2 => h2 = h' ∧ s.2 = (d : Int) ∧ ∃ j : Nat, s.1 = (j : Int) ∧ j ≤ n + 4 + 32 * d) (fun Y d s h2 hd ⟨q1, q2, j, q3, q4⟩ nxt => ?_) ⟨rfl, rfl, n + 4, rfl, by omega⟩
      obtain ⟨s1, s2⟩ := s
      simp only at q2 q3; subst q1 q2 q3
      unfold S41_l5 S41_j4
      by_cases hd4 : d < 4
      · rw [if_pos (by simp only [decide_eq_true_eq]; omega), sel4 hd4 (m.sd v)]
        have rs := (Mk.sideRd st (by omega : v < m.nv) hd4).1
        rw [hsds v d hlt hd4] at rs
        have := on_len es v d
        refine ⟨by omega, by omega, nxt hd4 _ _ ⟨rfl, wsucc (by omega), j + (on es v d).length, ?_, by omega⟩⟩
        exact wrapN (by omega) (by omega)
      · rw [if_neg (by simp only [decide_eq_true_eq]; omega)]
        exact next hlt _ _ ⟨rfl, wsucc (by omega), j, rfl, by omega⟩
  · rw [if_neg (by simp only [decide_eq_true_eq]; omega)]
    unfold S41_j3
    refine ⟨_, rfl, m.p1, Mk.at st (off := 1) rfl, ?_⟩
    refine lfp.count es.length (fun i (s : Int × Int) h2 => h2 = h' ∧ s.2 = (i : Int) ∧ ∃ j : Nat, s.1 = (j : Int) ∧ j ≤ n + 3 * i) (fun Y i s h2 hi ⟨q1, q2, j, q3, q4⟩ nxt => ?_) ⟨rfl, rfl, n, rfl, by omega⟩
    obtain ⟨s1, s2⟩ := s
    simp only at q2 q3; subst q1 q2 q3
    unfold S41_l2 S41_j1
    rw [e1]
    by_cases hi2 : i < es.length
    · rw [if_pos (by simp only [decide_eq_true_eq]; omega)]
      obtain ⟨e, he⟩ : ∃ x, es[i]? = some x := ⟨_, List.getElem?_eq_getElem hi2⟩
      have hb := (sh.ok e (List.mem_of_getElem? he)).b
      obtain ⟨a, ha, hrd⟩ := sh.e.ix he
      refine ⟨a, ha, by omega, by omega, e.f, e.t, e.d, bs e.b, by rw [Int.toNat_natCast]; exact st.le.rdn hrd, nxt hi2 _ _ ⟨rfl, wsucc (by omega), j + e.b.length, ?_, by omega⟩⟩
      rw [bs_size]; exact wrapN (by omega) (by omega)
    · rw [if_neg (by simp only [decide_eq_true_eq]; omega)]
      exact k _ (by omega)

theorem c72 {s : Sl} (hs : s.l = 1) {K : Sl → H → Prop} (k : ∀ b h', h b = none → h' = h.set b (.row ⟨[], 0, 51, true, true⟩) → K ⟨some ⟨b, 0, none⟩, 0, 0⟩ h') : S72 s 0 h K := by
  unfold S72
  rw [if_neg (by decide)]
  unfold S72_j5
  rw [hs]
  unfold S94 S106
  have fin : S72_j4 K 0 ((decide ((0 : Int) > 0)) || (decide ((0 : Int) > 9223372036854775807))) h := by
    unfold S72_j4
    rw [if_neg (by decide)]
    unfold S72_j3
    refine ⟨by decide, by decide, by decide, by decide, fun b h' hb eh => ⟨by decide, ?_⟩⟩
    refine lfp.count 0 (fun i (s : Int) h2 => s = 0 ∧ h2 = h') (fun X i s h2 hi ⟨q1, q2⟩ next => ?_) ⟨rfl, rfl⟩
    subst q1 q2
    unfold S72_l2 S72_j1
    rw [if_neg (by decide)]
    exact k b h2 hb eh
  exact fin
theorem c42 {ρ : Type} {M : ρ → Res} (st : St h0 h M) {K : Option Addr → Int → H → Prop} (k : ∀ b b' h' , St h0 h' (fun i : ρ ⊕ Bool => match i with | .inl r => M r | .inr false => .arr ⟨some ⟨b, 0, none⟩, 0, 0⟩ 51 8 [] | .inr true => .blk b' (gridRow ⟨some ⟨b, 0, none⟩, 0, 0⟩)) → K (some ⟨b', 0, none⟩) 0 h') : S42 0 h K := by
  unfold S42
  rw [if_neg (by decide), if_neg (by decide)]
  unfold S73
  intro b1 h1 n1 e1
  refine c72 rfl fun b2 h2 n2 e2 => ?_
  intro b3 h3 n3 e3
  have s1 := st.le' (le_new n1 e1)
  have s2 : St h1 h2 (fun _ : Unit => .arr ⟨some ⟨b2, 0, none⟩, 0, 0⟩ 51 8 []) := by
    rw [e2]
    exact (St.init (ρ := Unit) h1).allocArr (k := 0) (cap := 0) (e := 51) (size := 8) (xs := []) n2 () _ rfl (Nat.le_refl _) (by decide) rfl (fun i hi => (hi rfl).elim)
  have s3 : St h2 h3 (fun _ : Unit => .blk b3 (gridRow ⟨some ⟨b2, 0, none⟩, 0, 0⟩)) := by
    rw [e3]
    exact (St.init (ρ := Unit) h2).alloc _ n3 () _ rfl (fun i hi => (hi rfl).elim)
  refine k b2 b3 h3 (((s1.plus s2).plus s3).re _ (fun i => match i with | .inl r => .inl (.inl r) | .inr false => .inl (.inr ()) | .inr true => .inr ()) (fun i => ?_) (fun i j _ _ e => ?_))
  · cases i with
    | inl r => exact .inr rfl
    | inr c => cases c <;> exact .inr rfl
  · rcases i with r | _ | _ <;> rcases j with r' | _ | _ <;> simp_all

theorem c47 {ρ : Type} {M : ρ → Res} {rg rc : ρ} {bg : Nat} {s : Sl} {cs : List Cell} (st : St h0 h M) (g : Grd M rg rc bg s cs) (hn : cs.length < 5000) {K : Sl → H → Prop}
    (k : ∀ s' h', St h h' (fun _ : Unit => .arr s' 51 8 (cs.flatMap Cell.enc)) → K s' h') : S47 (some ⟨bg, 0, none⟩) h K := by
  have hl := g.len st
  unfold S47
  rw [if_neg (by simp)]
  refine ⟨_, rfl, s, g.rd st, ?_⟩
  unfold S77
  by_cases hs : s.a = none
  · rw [if_pos (by simp [hs])]
    refine k _ _ ?_
    have o := st.own rc g.c
    have hxl : (cs.flatMap Cell.enc).length = cs.length * 8 := flatMap_len (enc8 cs)
    rcases o.2 with ⟨_, hk⟩ | ⟨gg, cap, hv, _⟩
    · have : cs = [] := List.eq_nil_of_length_eq_zero (by omega)
      subst this
      exact St.nil1 h
    · simp only [Value.slice.injEq] at hv; rw [hv.1] at hs; cases hs
  rw [if_neg (by simp; exact hs)]
  intro b1 h1 n1 e1
  have s1 : St h h1 (fun _ : Unit => .arr ⟨some ⟨b1, 0, none⟩, 0, 0⟩ 51 8 []) := by
    rw [e1]
    exact (St.init (ρ := Unit) h).allocArr (k := 0) (cap := 0) (e := 51) (size := 8) (xs := []) n1 () _ rfl (Nat.le_refl _) (by decide) rfl (fun i hi => (hi rfl).elim)
  refine ⟨fun e => absurd e hs, ?_⟩
  have o := (st.le' s1.le).own rc g.c
  have hxl : (cs.flatMap Cell.enc).length = cs.length * 8 := flatMap_len (enc8 cs)
  rcases o.2 with ⟨hv, _⟩ | ⟨gg, cap, hv, hg, hc, _⟩
  · simp only [Value.slice.injEq] at hv; exact absurd hv.1 hs
  · simp only [Value.slice.injEq] at hv
    refine ⟨_, _, s1.own () rfl, .inr ⟨_, cs.flatMap Cell.enc, hv.1, ⟨by rw [hxl, hl], fun j v hj => ?_⟩, oneCell_enc _, by show 0 + s.l ≤ maxLen; simp only [maxLen]; omega, by show (0 + s.l) * 64 ≤ _; omega, fun s' h2 ap => ?_⟩⟩
    · rw [Addr.add_n]
      simp only [H.rd, hg, Nat.zero_add]
      exact hj
    · obtain ⟨s2, _⟩ := s1.app () rfl rfl (by rw [hxl, hl]) ap (fun _ => .arr s' 51 8 (cs.flatMap Cell.enc)) rfl (fun i hi => (hi rfl).elim)
      exact k s' h2 s2
end Go.Proofs.YtimadnngfhbfiaaDoor
end

section
/-
  The reference's norm, whole.
-/
namespace Go.Proofs.YtimadnngfhbfiaaDoor
open Go Go.Mu Go.Shape
variable {h h0 : H}

/-- A way is done. -/
theorem refM_push {c f e w w' wy : Sl} {cs : List Cell} {fi en way : List Nat} {ws : List (Sl × List Nat)} {t : Res}
    (st : St h0 h (put (refM c f e w cs fi en ws t (.arr wy 3 1 (way.flatMap encN))) .ways (.arr w' 32 1 (ws.flatMap (fun p => [p.1.v]) ++ [wy.v])))) : St h0 h (refM c f e w' cs fi en (ws ++ [(wy, way)]) t .no) := by
  refine st.re _ (fun r => match r with | .way i => if i = ws.length then .cur else .way i | r => r) (fun r => ?_) (fun r r' h1 h2 e => ?_)
  · cases r with
    | ways => right; simp [refM, put]
    | way i =>
      right
      by_cases hi : i = ws.length
      · subst hi; simp [refM, put]
      · simp only [hi, if_false, refM, put, reduceCtorEq, if_false]
        by_cases hl : i < ws.length
        · rw [List.getElem?_append_left hl]
        · rw [List.getElem?_eq_none (by simp; omega), List.getElem?_eq_none (by omega)]
    | cur => exact .inl rfl
    | _ => right; simp [refM, put]
  · cases r <;> cases r' <;> simp_all [refM] <;> (try split at e) <;> (try split at e) <;> simp_all

theorem zeros2 (n : Nat) : zeros (.agg #[(.int .i64 0), (.int .i64 0)]) (n * 2) = (List.replicate (2 * n) 0).flatMap encN := by
  have := zeros_agg (xs := [(.int .i64 0), (.int .i64 0)]) (size := 2) (m := n) rfl (by decide)
  rw [show ([(.int .i64 0), (.int .i64 0)] : List Value).toArray = #[(.int .i64 0), (.int .i64 0)] from rfl] at this
  rw [this]
  clear this
  induction n with
  | zero => rfl
  | succ n ih => rw [List.replicate_succ, List.flatMap_cons, ih, show 2 * (n + 1) = 2 * n + 1 + 1 from by omega, List.replicate_succ, List.replicate_succ]; rfl

theorem firsts_succ (bx : List Bool) (es : List Ed) (n : Nat) : firsts bx es (n + 1) = firsts bx es n ++ [(verts bx es n).1.length] := by
  unfold firsts; rw [List.range_succ, List.map_append]; rfl

theorem c15 {p0 p1 : Sl} {bx : List Bool} {es : List Ed} (sh : Shp h p0 p1 bx es) {K : Sl → Sl → Sl → Sl → H → Prop}
    (k : ∀ c f e w ws h', St h h' (refM c f e w (edges (verts bx es bx.length).2 (verts bx es bx.length).1 es).1 (firsts bx es bx.length) (verts bx es bx.length).2 ws .no .no) → ws.map (·.2) = (edges (verts bx es bx.length).2 (verts bx es bx.length).1 es).2 → K c f e w h') : S15 p0 p1 h K := by
  have lb := sh.lb
  have le := sh.le
  have e0 := sh.b.len
  have e1 := sh.e.len
  have vl : ∀ n, n ≤ 8 → (verts bx es n).1.length ≤ 1056 ∧ (verts bx es n).2.length = 2 * es.length := fun n hn => by
    have := verts_len bx es n
    have h2 : n * (4 + 8 * es.length) ≤ 8 * 132 := Nat.mul_le_mul hn (by omega)
    exact ⟨by omega, this.2⟩
  unfold S15
  rw [e1]
  refine ⟨by omega, by omega, by omega, by omega, fun b hh hb eh => ?_⟩
  rw [Int.toNat_natCast] at eh ⊢
  have st0 : St h hh (refM Sl.nil Sl.nil ⟨some ⟨b, 0, none⟩, es.length, es.length⟩ Sl.nil [] [] (List.replicate (2 * es.length) 0) [] .no .no) := by
    have s1 := (((St.init (ρ := Ro) h).nilArr (e := 51) (size := 8) .cells _ (put_eq _ Ro.cells _) (put_or _ _ _)).nilArr (e := 3) (size := 1) .first _ (put_eq _ Ro.first _) (put_or _ _ _)).nilArr (e := 32) (size := 1) .ways _ (put_eq _ Ro.ways _) (put_or _ _ _)
    have hz : ((List.replicate (2 * es.length) 0).flatMap encN).length = es.length * 2 := by rw [flatMap_len (size := 1) (enc1N _)]; simp; omega
    have s2 := s1.allocArr (b := b) (k := es.length) (cap := es.length) (e := 116) (size := 2) (xs := (List.replicate (2 * es.length) 0).flatMap encN) hb .ends _ hz (Nat.le_refl _) (by simp only [maxLen]; omega) (put_eq _ _ _) (put_or _ _ _)
    have ez := zeros2 es.length
    rw [eh, ez, hz]
    refine s2.re _ id (fun r => ?_) (fun _ _ _ _ e => e)
    cases r <;> first | exact .inl rfl | (right; simp [refM, put])
  refine lfp.count bx.length (fun n (s : Int × Sl × Sl × Sl × Sl) h' => ∃ c f e w, s = ((n : Int), c, f, e, w) ∧ ∃ t, St h h' (refM c f e w (verts bx es n).1 (firsts bx es n) (verts bx es n).2 [] t .no)) (fun X n s h' hn ⟨c, f, e, w, q1, t, st⟩ next => ?_)
    ⟨_, _, _, _, rfl, .no, st0⟩
  subst q1
  simp only
  have vln := vl n (by omega)
  have hcl : c.l = (verts bx es n).1.length := (st.arr .cells rfl (enc8 _) (by decide)).1
  unfold S15_l11
  rw [e0]
  by_cases hlt : n < bx.length
  · rw [if_pos (by simp only [decide_eq_true_eq]; omega)]
    have hfl : f.l = n := by have := (st.arr .first rfl (enc1N _) (by decide)).1; simpa [firsts] using this
    refine ⟨_, _, st.own .first rfl, by simp only [maxLen]; omega, by omega, fun f' h1 ap => ?_⟩
    obtain ⟨st1, _⟩ := st.app .first rfl rfl rfl ap (refM c f' e w (verts bx es n).1 (firsts bx es (n + 1)) (verts bx es n).2 [] t .no) (by simp only [refM]; rw [firsts_succ, List.flatMap_append, hcl]; rfl) (fun i hi => .inl (by cases i <;> first | rfl | exact (hi rfl).elim))
    obtain ⟨x, hx⟩ : ∃ x, bx[n]? = some x := ⟨_, List.getElem?_eq_getElem hlt⟩
    obtain ⟨a, ha, hrd⟩ := sh.b.ix hx
    refine ⟨a, ha, by omega, by omega, x, (st1.le.rdn hrd).at0, ?_⟩
    have hxd : bx.getD n false = x := by rw [List.getD_eq_getElem?_getD, hx]; rfl
    cases x with
    | true =>
      rw [if_pos rfl]
      refine c50 sh st1 (by omega) vln.2 fun c' h2 st2 => ?_
      unfold S15_j7
      refine next hlt _ _ ⟨c', f', e, w, by rw [wsucc (by omega)], .no, ?_⟩
      rw [verts_succ, vtx, hxd, if_pos rfl]; exact st2
    | false =>
      rw [if_neg (by decide)]
      refine c51 st1 (r := .cells) rfl (by decide) (by decide) (by omega) fun c2 h2 st2 _ => ?_
      rw [refM_cells, List.replicate_one] at st2
      refine lfp.count 4 (fun d (s : Int) h3 => s = (d : Int) ∧ ∃ t, St h h3 (refM c2 f' e w ((verts bx es n).1 ++ [Cell.empty]) (firsts bx es (n + 1)) (pSides es n (verts bx es n).1.length (verts bx es n).2 d) [] t .no)) (fun Y d s h3 hd ⟨q1, t', st3⟩ nxt => ?_) ⟨rfl, t, st2⟩
      subst q1
      have psl := pSides_len es n (verts bx es n).1.length (verts bx es n).2 d
      unfold S15_l10
      by_cases hd4 : d < 4
      · rw [if_pos (by simp only [decide_eq_true_eq]; omega)]
        refine c49 (sh.e.le st3.le) sh.ok (by omega) fun l h4 stl ll => ?_
        have st4 := St.with st3 stl .tmp
        rw [refM_tmp] at st4
        have hol := on_len es n d
        refine lfp.count (on es n d).length (fun i (s : Int) h5 => s = (i : Int) ∧ St h h5 (refM c2 f' e w ((verts bx es n).1 ++ [Cell.empty]) (firsts bx es (n + 1)) (pEnds (verts bx es n).1.length (pSides es n (verts bx es n).1.length (verts bx es n).2 d) ((on es n d).take i)) [] (.arr l 3 1 ((on es n d).flatMap encN)) .no))
          (fun Z i s h5 hi ⟨q1, st5⟩ nx => ?_) ⟨rfl, st4⟩
        subst q1
        have pel := pEnds_len (verts bx es n).1.length ((on es n d).take i) (pSides es n (verts bx es n).1.length (verts bx es n).2 d)
        unfold S15_l9
        rw [ll, hcl]
        by_cases hi2 : i < (on es n d).length
        · rw [if_pos (by simp only [decide_eq_true_eq]; omega)]
          obtain ⟨x, hx⟩ : ∃ x, (on es n d)[i]? = some x := ⟨_, List.getElem?_eq_getElem hi2⟩
          have hxl := on_lt (List.mem_of_getElem? hx)
          have rdl : Rd h5 l 1 encN (on es n d) := st5.arr .tmp rfl (enc1N _) (by decide)
          obtain ⟨a, ha, hrd⟩ := rdl.ix hx
          refine ⟨a, ha, by omega, by omega, x, by rw [Int.toNat_natCast]; exact hrd.at0, a, ha, by omega, by omega, x, by rw [Int.toNat_natCast]; exact hrd.at0, ?_⟩
          obtain ⟨hel, a2, ha2, h10, w10, st10⟩ := wrEnd (p := (verts bx es n).1.length) st5 (r := .ends) rfl (k := x) (by omega) (by omega : _ = 2 * es.length)
          rw [refM_ends] at st10
          rw [div2 (by omega), mod2']
          refine ⟨a2, ha2, by omega, by omega, by omega, by omega, h10, ?_, nx hi2 _ _ ⟨wsucc (by omega), ?_⟩⟩
          · rw [Addr.add_add, Nat.mul_one, Int.toNat_natCast, Int.toNat_natCast, Nat.div_add_mod']; exact w10
          · unfold pEnds at st10 ⊢
            rw [take_foldl _ _ _ hx]; exact st10
        · rw [if_neg (by simp only [decide_eq_true_eq]; omega)]
          rw [List.take_of_length_le (by omega)] at st5
          unfold S15_j8
          refine nxt hd4 _ _ ⟨wsucc (by omega), .arr l 3 1 ((on es n d).flatMap encN), ?_⟩
          · have e2 : pSides es n (verts bx es n).1.length (verts bx es n).2 (d + 1) = pEnds (verts bx es n).1.length (pSides es n (verts bx es n).1.length (verts bx es n).2 d) (on es n d) := range_foldl _ _ _
            rw [e2]; exact st5
      · rw [if_neg (by simp only [decide_eq_true_eq]; omega)]
        have : d = 4 := by omega
        subst this
        unfold S15_j7
        refine next hlt _ _ ⟨c2, f', e, w, by rw [wsucc (by omega)], t', ?_⟩
        rw [verts_succ, vtx, hxd, if_neg (by decide)]; exact st3
  · rw [if_neg (by simp only [decide_eq_true_eq]; omega)]
    have hnl : n = bx.length := by omega
    subst hnl
    clear next
    generalize hV : verts bx es bx.length = V at st vln k
    unfold S15_j6
    refine lfp.count es.length (fun i (s : Int × Sl × Sl × Sl × Sl) h' => ∃ c w ws, s = ((i : Int), c, f, e, w) ∧ ws.map (·.2) = (edges V.2 V.1 (es.take i)).2 ∧ ∃ u, St h h' (refM c f e w (edges V.2 V.1 (es.take i)).1 (firsts bx es bx.length) V.2 ws t u)) (fun X i s h' hi ⟨c, w, ws, q1, q2, u, st⟩ next => ?_)
      ⟨_, _, [], rfl, rfl, _, st⟩
    subst q1
    simp only
    have el := edges_len (en := V.2) (cs := V.1) sh.ok i
    unfold S15_l5
    rw [e1]
    by_cases hlt : i < es.length
    · obtain ⟨x, hx⟩ : ∃ x, es[i]? = some x := ⟨_, List.getElem?_eq_getElem hlt⟩
      have ek := sh.ok x (List.mem_of_getElem? hx)
      have hb4 := ek.b
      obtain ⟨a, ha, hrd⟩ := sh.e.ix hx
      rw [if_pos (by simp only [decide_eq_true_eq]; omega)]
      obtain ⟨hel, a2, ha2, rd0⟩ := rdEnd st (r := .ends) rfl (k := 2 * i) (by omega) vln.2
      refine ⟨a2, ha2, by omega, by omega, _, by rw [Int.toNat_natCast, Nat.mul_comm i 2]; exact rd0, a, ha, by omega, by omega, x.d, (st.le.rdn hrd).at 2 rfl, fun b2 h2 n2 eh2 => ?_⟩
      have hwsl : ws.length = i := by
        have := congrArg List.length q2
        rw [List.length_map, el.2] at this; omega
      -- the first of the way
      have st2 : St h h2 (refM c f e w (edges V.2 V.1 (es.take i)).1 (firsts bx es bx.length) V.2 ws t (.arr ⟨some ⟨b2, 0, none⟩, 1, 1⟩ 3 1 ([V.2.getD (2 * i) 0].flatMap encN))) := by
        rw [eh2]
        have := st.allocArr (k := 1) (cap := 1) (e := 3) (size := 1) (xs := [V.2.getD (2 * i) 0].flatMap encN) n2 .cur (put _ .cur (.arr ⟨some ⟨b2, 0, none⟩, 1, 1⟩ 3 1 ([V.2.getD (2 * i) 0].flatMap encN))) rfl (Nat.le_refl _) (by decide) (put_eq _ _ _) (put_or _ _ _)
        rw [refM_cur] at this; exact this
      refine lfp.count x.b.length (fun j (s : Int × Int × Sl × Int × Sl × Sl × Sl × Sl) h' => ∃ wy c, s = ((((bends i ((edges V.2 V.1 (es.take i)).1, V.2.getD (2 * i) 0, x.d, [V.2.getD (2 * i) 0]) (x.b.take j)).2.1 : Nat) : Int), (((bends i ((edges V.2 V.1 (es.take i)).1, V.2.getD (2 * i) 0, x.d, [V.2.getD (2 * i) 0]) (x.b.take j)).2.2.1 : Nat) : Int), wy, (j : Int), c, f, e, w) ∧
          St h h' (refM c f e w (bends i ((edges V.2 V.1 (es.take i)).1, V.2.getD (2 * i) 0, x.d, [V.2.getD (2 * i) 0]) (x.b.take j)).1 (firsts bx es bx.length) V.2 ws t (.arr wy 3 1 ((bends i ((edges V.2 V.1 (es.take i)).1, V.2.getD (2 * i) 0, x.d, [V.2.getD (2 * i) 0]) (x.b.take j)).2.2.2.flatMap encN))))
        (fun Y j s h' hj ⟨wy, c, q3, st3⟩ nxt => ?_) ⟨_, _, rfl, st2⟩
      subst q3
      simp only
      have bl := bends_len i (x.b.take j) ((edges V.2 V.1 (es.take i)).1, V.2.getD (2 * i) 0, x.d, [V.2.getD (2 * i) 0])
      have bd := bends_dir i (x.b.take j) ((edges V.2 V.1 (es.take i)).1, V.2.getD (2 * i) 0, x.d, [V.2.getD (2 * i) 0])
      have bdl := lastOf_lt (x.b.take j) ek.d
      rw [List.length_take] at bl
      simp only [List.length_cons, List.length_nil] at bl bd
      generalize hr : bends i ((edges V.2 V.1 (es.take i)).1, V.2.getD (2 * i) 0, x.d, [V.2.getD (2 * i) 0]) (x.b.take j) = r at st3 bl bd
      rw [← bd] at bdl
      have hcl3 : c.l = r.1.length := (st3.arr .cells rfl (enc8 _) (by decide)).1
      have hwy : wy.l = r.2.2.2.length := (st3.arr .cur rfl (enc1N _) (by decide)).1
      unfold S15_l4
      refine ⟨a, ha, by omega, by omega, bs x.b, (st3.le.rdn hrd).at 3 rfl, ?_⟩
      rw [bs_size]
      by_cases hj2 : j < x.b.length
      · rw [if_pos (by simp only [decide_eq_true_eq]; omega)]
        obtain ⟨y, hy⟩ : ∃ y, x.b[j]? = some y := ⟨_, List.getElem?_eq_getElem hj2⟩
        refine c51 st3 (r := .cells) rfl (by decide) (by decide) (by omega) fun c4 h4 st4 _ => ?_
        rw [refM_cells, List.replicate_one] at st4
        rw [hcl3]
        refine c52 st4 (r := .cells) rfl bdl (by omega) (by simp only [List.length_append, List.length_cons, List.length_nil]; omega) fun c5 ee h5 st5 _ => ?_
        rw [refM_cells] at st5
        refine ⟨_, _, st5.own .cur rfl, by simp only [maxLen]; omega, by omega, fun wy' h6 ap => ?_⟩
        obtain ⟨st6, _⟩ := st5.app .cur rfl rfl rfl ap (put _ .cur (.arr wy' 3 1 ((r.2.2.2 ++ [r.1.length]).flatMap encN))) (by rw [put_eq, List.flatMap_append]; rfl) (put_or _ _ _)
        rw [refM_cur] at st6
        have eq : bends i ((edges V.2 V.1 (es.take i)).1, V.2.getD (2 * i) 0, x.d, [V.2.getD (2 * i) 0]) (x.b.take (j + 1)) = bend i r y := by
          rw [← hr]; exact take_foldl _ _ _ hy
        refine ⟨a, ha, by omega, by omega, bs x.b, (st6.le.rdn hrd).at 3 rfl, by omega, by rw [bs_size]; omega, ?_⟩
        rw [byteAt_bs hy, letter_L]
        unfold S15_j3
        have fin : ∀ d' : Int, d' = ((turn r.2.2.1 y : Nat) : Int) → Y ((r.1.length : Int), d', wy', IntKind.i64.wrap ((j : Int) + 1), c5, f, e, w) h6 := fun d' hd' => by
          refine nxt hj2 _ _ ⟨wy', c5, ?_, ?_⟩
          · rw [eq, hd', wsucc (by omega)]; rfl
          · rw [eq]; exact st6
        cases y with
        | true => rw [if_pos rfl]; exact fin _ (mod1 bdl)
        | false => rw [if_neg (by decide)]; exact fin _ (mod3 bdl)
      · rw [if_neg (by simp only [decide_eq_true_eq]; omega)]
        have hjl : x.b.take j = x.b := List.take_of_length_le (by omega)
        rw [hjl] at hr
        unfold S15_j2
        obtain ⟨_, a3, ha3, rd3⟩ := rdEnd st3 (r := .ends) rfl (k := 2 * i + 1) (by omega) vln.2
        have hE : edges V.2 V.1 (es.take (i + 1)) = (join r.1 r.2.1 r.2.2.1 (V.2.getD (2 * i + 1) 0) i, (edges V.2 V.1 (es.take i)).2 ++ [r.2.2.2 ++ [V.2.getD (2 * i + 1) 0]]) := by
          rw [edges_take hx]
          have : edge0 V.2 x i (edges V.2 V.1 (es.take i)).1 = r := hr
          simp only [edge, this]
        refine ⟨a3, ha3, by omega, by omega, _, by rw [Int.toNat_natCast, Addr.add_add, Nat.mul_comm i 2]; exact rd3, ?_⟩
        refine c52 st3 (r := .cells) rfl bdl (by omega) (by omega) fun c5 ee h5 st5 _ => ?_
        rw [refM_cells] at st5
        obtain ⟨_, a4, ha4, rd4⟩ := rdEnd st5 (r := .ends) rfl (k := 2 * i + 1) (by omega) vln.2
        refine ⟨a4, ha4, by omega, by omega, _, by rw [Int.toNat_natCast, Addr.add_add, Nat.mul_comm i 2]; exact rd4, ?_⟩
        refine ⟨_, _, st5.own .cur rfl, by simp only [maxLen]; omega, by omega, fun wy' h6 ap => ?_⟩
        obtain ⟨st6, _⟩ := st5.app .cur rfl rfl rfl ap (put _ .cur (.arr wy' 3 1 ((r.2.2.2 ++ [V.2.getD (2 * i + 1) 0]).flatMap encN))) (by rw [put_eq, List.flatMap_append]; rfl) (put_or _ _ _)
        rw [refM_cur] at st6
        have hwl : w.l = ws.length := (st6.arr (enc := fun p : Sl × List Nat => [p.1.v]) .ways rfl (fun _ _ => rfl) (by decide)).1
        refine ⟨_, _, st6.own .ways rfl, by simp only [maxLen]; omega, by omega, fun w' h7 ap2 => ?_⟩
        obtain ⟨st7, _⟩ := st6.app .ways rfl rfl rfl ap2 (put _ .ways (.arr w' 32 1 (ws.flatMap (fun p => [p.1.v]) ++ [wy'.v]))) (put_eq _ _ _) (put_or _ _ _)
        refine next hlt _ _ ⟨c5, w', ws ++ [(wy', r.2.2.2 ++ [V.2.getD (2 * i + 1) 0])], by rw [wsucc (by omega)], ?_, .no, ?_⟩
        · rw [List.map_append, q2, hE]; rfl
        · rw [hE]; exact refM_push st7
    · rw [if_neg (by simp only [decide_eq_true_eq]; omega)]
      rw [List.take_of_length_le (by omega)] at st q2
      unfold S15_j1
      refine k c f e w ws h' (st.re _ id (fun r => ?_) (fun _ _ _ _ e => e)) q2
      cases r <;> first | exact .inl rfl | exact .inr rfl
end Go.Proofs.YtimadnngfhbfiaaDoor
end

section
/- PRINTED by wip/gen.py: what muntin/muntinref11.Count does, in the words of Mu. -/
namespace Go.Proofs.YtimadnngfhbfiaaDoor
open Go Go.Mu
/- muntin/muntinref11.Count -/
def S48_j1 (K : Int → H → Prop) (v3_1 : Int) (h_2 : H) : Prop :=
  K v3_1 h_2
def S48_l2 (p0_1 : Sl) (K : Int → H → Prop) (X : (Int × Int) → H → Prop) (v3_2 : Int) (v7 : Int) (h_3 : H) : Prop :=
  (if (decide (v7 < (p0_1.l : Int))) = true then (∃ a54 : Addr, p0_1.a = some a54 ∧ 0 ≤ v7 ∧ v7 < (p0_1.l : Int) ∧ (∃ (v56 : ByteArray), H.rd h_3 (Addr.add (Addr.add a54 (Int.toNat v7 * 4)) 3) = some (.string v56) ∧ X ((IntKind.wrap .i64 (v3_2 + (ByteArray.size v56 : Int))), (IntKind.wrap .i64 (v7 + 1))) h_3)) else S48_j1 K v3_2 h_3)
def S48_j3 (p0_1 : Sl) (K : Int → H → Prop) (v3 : Int) (h_1 : H) : Prop :=
  lfp (fun X s h_3 => S48_l2 p0_1 K X s.1 s.2 h_3) (v3, 0) h_1
def S48_j4 (v4 : Int) (X_1 : (Int × Int) → H → Prop) (v3_4 : Int) (h_5 : H) : Prop :=
  X_1 (v3_4, (IntKind.wrap .i64 (v4 + 1))) h_5
def S48_j5 (p0_0 : Sl) (v4 : Int) (X_1 : (Int × Int) → H → Prop) (v3_5 : Int) (h_6 : H) : Prop :=
  (∃ a39 : Addr, p0_0.a = some a39 ∧ 0 ≤ v4 ∧ v4 < (p0_0.l : Int) ∧ (∃ (v40 : Bool), H.rd h_6 (Addr.add a39 (Int.toNat v4 * 1)) = some (.bool v40) ∧ (if v40 = true then S48_j4 v4 X_1 (IntKind.wrap .i64 (v3_5 + 3)) h_6 else S48_j4 v4 X_1 v3_5 h_6)))
def S48_j6 (p0_0 : Sl) (p0_1 : Sl) (v4 : Int) (X_1 : (Int × Int) → H → Prop) (v3_6 : Int) (v5 : Int) (X_2 : (Int × Int) → H → Prop) (v25 : Bool) (h_8 : H) : Prop :=
  (if v25 = true then S49 p0_0 p0_1 v4 v5 h_8 (fun (v31 : Sl) (h_9 : H) => X_2 ((IntKind.wrap .i64 (v3_6 + (v31.l : Int))), (IntKind.wrap .i64 (v5 + 1))) h_9) else S48_j5 p0_0 v4 X_1 v3_6 h_8)
def S48_l7 (p0_0 : Sl) (p0_1 : Sl) (v4 : Int) (X_1 : (Int × Int) → H → Prop) (X_2 : (Int × Int) → H → Prop) (v3_6 : Int) (v5 : Int) (h_7 : H) : Prop :=
  (if (decide (v5 < 4)) = true then (∃ a23 : Addr, p0_0.a = some a23 ∧ 0 ≤ v4 ∧ v4 < (p0_0.l : Int) ∧ (∃ (v24 : Bool), H.rd h_7 (Addr.add a23 (Int.toNat v4 * 1)) = some (.bool v24) ∧ S48_j6 p0_0 p0_1 v4 X_1 v3_6 v5 X_2 v24 h_7)) else S48_j6 p0_0 p0_1 v4 X_1 v3_6 v5 X_2 false h_7)
def S48_l8 (p0_0 : Sl) (p0_1 : Sl) (K : Int → H → Prop) (X_1 : (Int × Int) → H → Prop) (v3_3 : Int) (v4 : Int) (h_4 : H) : Prop :=
  (if (decide (v4 < (p0_0.l : Int))) = true then lfp (fun X_2 s h_7 => S48_l7 p0_0 p0_1 v4 X_1 X_2 s.1 s.2 h_7) ((IntKind.wrap .i64 (v3_3 + 1)), 0) h_4 else S48_j3 p0_1 K v3_3 h_4)
def S48 (p0_0 : Sl) (p0_1 : Sl) (h : H) (K : Int → H → Prop) : Prop :=
  lfp (fun X_1 s h_4 => S48_l8 p0_0 p0_1 K X_1 s.1 s.2 h_4) (0, 0) h
end Go.Proofs.YtimadnngfhbfiaaDoor
end

section
/- PRINTED by wip/gen.py: what muntin/muntinref11.Wrong does, in the words of Mu. -/
namespace Go.Proofs.YtimadnngfhbfiaaDoor
open Go Go.Mu
/- muntin/muntinref11.Wrong -/
def S13_j1 (K : Int → H → Prop) (h_4 : H) : Prop :=
  K 0 h_4
def S13_j2 (K : Int → H → Prop) (v8 : Int) (X : Int → H → Prop) (v75 : Bool) (h_6 : H) : Prop :=
  (if v75 = true then K 10 h_6 else X (IntKind.wrap .i64 (v8 + 1)) h_6)
def S13_l3 (p0_0 : Sl) (p0_1 : Sl) (K : Int → H → Prop) (X : Int → H → Prop) (v8 : Int) (h_5 : H) : Prop :=
  (if (decide (v8 < (p0_1.l : Int))) = true then (∃ a55 : Addr, p0_1.a = some a55 ∧ 0 ≤ v8 ∧ v8 < (p0_1.l : Int) ∧ (∃ (v56_0 : Int) (v56_1 : Int) (v56_2 : Int) (v56_3 : ByteArray), H.rdn h_5 (Addr.add a55 (Int.toNat v8 * 4)) 4 [(.int .i64 v56_0), (.int .i64 v56_1), (.int .i64 v56_2), (.string v56_3)] ∧ (if (v56_0 == v56_1) = true then (if (ByteArray.toList v56_3 == ByteArray.toList ⟨#[]⟩) = true then (∃ a72 : Addr, p0_0.a = some a72 ∧ 0 ≤ v56_0 ∧ v56_0 < (p0_0.l : Int) ∧ (∃ (v73 : Bool), H.rd h_5 (Addr.add a72 (Int.toNat v56_0 * 1)) = some (.bool v73) ∧ S13_j2 K v8 X (!v73) h_5)) else S13_j2 K v8 X false h_5) else S13_j2 K v8 X false h_5))) else S13_j1 K h_5)
def S13_j4 (p0_0 : Sl) (p0_1 : Sl) (K : Int → H → Prop) (h_3 : H) : Prop :=
  lfp (fun X s h_5 => S13_l3 p0_0 p0_1 K X s h_5) 0 h_3
def S13_j5 (v5 : Int) (X_1 : Int → H → Prop) (h_8 : H) : Prop :=
  X_1 (IntKind.wrap .i64 (v5 + 1)) h_8
def S13_j6 (p0_0 : Sl) (p0_1 : Sl) (K : Int → H → Prop) (v5 : Int) (X_1 : Int → H → Prop) (v6 : Int) (X_2 : Int → H → Prop) (v35 : Bool) (h_10 : H) : Prop :=
  (if v35 = true then S49 p0_0 p0_1 v5 v6 h_10 (fun (v41 : Sl) (h_11 : H) => (if (decide ((v41.l : Int) > 1)) = true then K 8 h_11 else X_2 (IntKind.wrap .i64 (v6 + 1)) h_11)) else S13_j5 v5 X_1 h_10)
def S13_l7 (p0_0 : Sl) (p0_1 : Sl) (K : Int → H → Prop) (v5 : Int) (X_1 : Int → H → Prop) (X_2 : Int → H → Prop) (v6 : Int) (h_9 : H) : Prop :=
  (if (decide (v6 < 4)) = true then (∃ a32 : Addr, p0_0.a = some a32 ∧ 0 ≤ v5 ∧ v5 < (p0_0.l : Int) ∧ (∃ (v33 : Bool), H.rd h_9 (Addr.add a32 (Int.toNat v5 * 1)) = some (.bool v33) ∧ S13_j6 p0_0 p0_1 K v5 X_1 v6 X_2 (!v33) h_9)) else S13_j6 p0_0 p0_1 K v5 X_1 v6 X_2 false h_9)
def S13_l8 (p0_0 : Sl) (p0_1 : Sl) (K : Int → H → Prop) (X_1 : Int → H → Prop) (v5 : Int) (h_7 : H) : Prop :=
  (if (decide (v5 < (p0_0.l : Int))) = true then lfp (fun X_2 s h_9 => S13_l7 p0_0 p0_1 K v5 X_1 X_2 s h_9) 0 h_7 else S13_j4 p0_0 p0_1 K h_7)
def S13 (p0_0 : Sl) (p0_1 : Sl) (h : H) (K : Int → H → Prop) : Prop :=
  S23 p0_0 p0_1 h (fun (v11 : Int) (h_1 : H) => (if (v11 != 0) = true then K v11 h_1 else S48 p0_0 p0_1 h_1 (fun (v16 : Int) (h_2 : H) => (if (decide (v16 > 4096)) = true then K 6 h_2 else lfp (fun X_1 s h_7 => S13_l8 p0_0 p0_1 K X_1 s h_7) 0 h_2))))
end Go.Proofs.YtimadnngfhbfiaaDoor
end

section
/-
  The reference's error.
-/
namespace Go.Shape
def sided (bx : List Bool) (es : List Ed) (v d : Nat) : Prop := bx.getD v false = false ∧ 1 < (on es v d).length
def turned (bx : List Bool) (e : Ed) : Prop := e.f = e.t ∧ e.b = [] ∧ bx.getD e.f false = false
structure Wrong (bx : List Bool) (es : List Ed) (r : Int) : Prop where
  side : (∃ v d, v < bx.length ∧ d < 4 ∧ sided bx es v d) → r = 8
  turn : ¬ (∃ v d, v < bx.length ∧ d < 4 ∧ sided bx es v d) → (∃ e ∈ es, turned bx e) → r = 10
  ok : ¬ (∃ v d, v < bx.length ∧ d < 4 ∧ sided bx es v d) → ¬ (∃ e ∈ es, turned bx e) → r = 0
end Go.Shape
namespace Go.Proofs.YtimadnngfhbfiaaDoor
open Go Go.Mu Go.Shape
variable {h h0 : H}

theorem c48 {p0 p1 : Sl} {bx : List Bool} {es : List Ed} (sh : Shp h p0 p1 bx es) {K : Int → H → Prop} (k : ∀ n h', n ≤ 4096 → h.Le h' → K n h') : S48 p0 p1 h K := by
  have lb := sh.lb
  have le := sh.le
  have e0 := sh.b.len
  have e1 := sh.e.len
  unfold S48
  refine lfp.count bx.length (fun v (s : Int × Int) h' => h.Le h' ∧ s.2 = (v : Int) ∧ ∃ m : Nat, s.1 = (m : Int) ∧ m ≤ v * 132) (fun X v s h' hv ⟨q1, q2, m, q3, q4⟩ next => ?_) ⟨H.Le.refl h, rfl, 0, rfl, Nat.le_refl _⟩
  obtain ⟨s1, s2⟩ := s
  simp only at q2 q3; subst q2 q3
  unfold S48_l8
  rw [e0]
  by_cases hlt : v < bx.length
  · rw [if_pos (by simp only [decide_eq_true_eq]; omega)]
    rw [wsucc (i := m) (by omega)]
    obtain ⟨x, hx⟩ : ∃ x, bx[v]? = some x := ⟨_, List.getElem?_eq_getElem hlt⟩
    obtain ⟨a, ha, hrd⟩ := sh.b.ix hx
    have fin : ∀ (n : Nat) (h2 : H), h.Le h2 → n ≤ m + 129 → S48_j5 p0 v X n h2 := fun n h2 l2 hn => by
      unfold S48_j5 S48_j4
      refine ⟨a, ha, by omega, by omega, x, (l2.rdn hrd).at0, ?_⟩
      cases x with
      | true =>
        rw [if_pos rfl]
        exact next hlt _ _ ⟨l2, wsucc (by omega), n + 3, wrapN (by omega) (by omega), by omega⟩
      | false =>
        rw [if_neg (by decide)]
        exact next hlt _ _ ⟨l2, wsucc (by omega), n, rfl, by omega⟩
    refine lfp.count 4 (fun d (s : Int × Int) h2 => h.Le h2 ∧ s.2 = (d : Int) ∧ ∃ n : Nat, s.1 = (n : Int) ∧ n ≤ m + 1 + 32 * d) (fun Y d s h2 hd ⟨q1, q2, n, q3, q4⟩ nxt => ?_) ⟨q1, rfl, m + 1, rfl, by omega⟩
    obtain ⟨s1, s2⟩ := s
    simp only at q2 q3; subst q2 q3
    unfold S48_l7
    by_cases hd4 : d < 4
    · rw [if_pos (by simp only [decide_eq_true_eq]; omega)]
      refine ⟨a, ha, by omega, by omega, x, (q1.rdn hrd).at0, ?_⟩
      unfold S48_j6
      cases x with
      | true =>
        rw [if_pos rfl]
        refine c49 (sh.e.le q1) sh.ok (by omega) fun l h3 st ll => ?_
        have := on_len es v d
        exact nxt hd4 _ _ ⟨q1.trans st.le, wsucc (by omega), n + (on es v d).length, by rw [ll]; exact wrapN (by omega) (by omega), by omega⟩
      | false =>
        rw [if_neg (by decide)]
        exact fin n h2 q1 (by omega)
    · rw [if_neg (by simp only [decide_eq_true_eq]; omega)]
      unfold S48_j6
      rw [if_neg (by decide)]
      exact fin n h2 q1 (by omega)
  · rw [if_neg (by simp only [decide_eq_true_eq]; omega)]
    unfold S48_j3
    refine lfp.count es.length (fun i (s : Int × Int) h2 => h.Le h2 ∧ s.2 = (i : Int) ∧ ∃ n : Nat, s.1 = (n : Int) ∧ n ≤ m + 3 * i) (fun Y i s h2 hi ⟨q1, q2, n, q3, q4⟩ nxt => ?_) ⟨q1, rfl, m, rfl, by omega⟩
    obtain ⟨s1, s2⟩ := s
    simp only at q2 q3; subst q2 q3
    unfold S48_l2 S48_j1
    rw [e1]
    by_cases hi2 : i < es.length
    · rw [if_pos (by simp only [decide_eq_true_eq]; omega)]
      obtain ⟨e, he⟩ : ∃ x, es[i]? = some x := ⟨_, List.getElem?_eq_getElem hi2⟩
      have hb := (sh.ok e (List.mem_of_getElem? he)).b
      obtain ⟨a, ha, hrd⟩ := sh.e.ix he
      refine ⟨a, ha, by omega, by omega, bs e.b, (q1.rdn hrd).at 3 rfl, nxt hi2 _ _ ⟨q1, wsucc (by omega), n + e.b.length, ?_, by omega⟩⟩
      rw [bs_size]; exact wrapN (by omega) (by omega)
    · rw [if_neg (by simp only [decide_eq_true_eq]; omega)]
      exact k _ _ (by omega) q1

theorem bs_empty (b : List Bool) : (ByteArray.toList (bs b) == ByteArray.toList ⟨#[]⟩) = b.isEmpty := by
  have e1 : (bs b).toList = b.map letter := by
    unfold bs; exact ByteArray.toList_mk _
  have e2 : ByteArray.toList ⟨#[]⟩ = [] := ByteArray.toList_mk []
  rw [e1, e2]
  cases b <;> simp
theorem c13 {p0 p1 : Sl} {bx : List Bool} {es : List Ed} (sh : Shp h p0 p1 bx es) {K : Int → H → Prop} (k : ∀ r h', Wrong bx es r → h.Le h' → K r h') : S13 p0 p1 h K := by
  have lb := sh.lb
  have le := sh.le
  have e0 := sh.b.len
  have e1 := sh.e.len
  unfold S13
  refine c23 sh ?_
  rw [if_neg (by decide)]
  refine c48 sh fun n h1 hn l1 => ?_
  rw [if_neg (by simp only [decide_eq_true_eq]; omega)]
  refine lfp.count bx.length (fun v (s : Int) h' => h.Le h' ∧ s = (v : Int) ∧ ∀ u d, u < v → d < 4 → ¬ sided bx es u d) (fun X v s h' hv ⟨q1, q2, q3⟩ next => ?_) ⟨l1, rfl, fun u d hu => by omega⟩
  subst q2
  unfold S13_l8
  rw [e0]
  by_cases hlt : v < bx.length
  · rw [if_pos (by simp only [decide_eq_true_eq]; omega)]
    obtain ⟨x, hx⟩ : ∃ x, bx[v]? = some x := ⟨_, List.getElem?_eq_getElem hlt⟩
    have hxd : bx.getD v false = x := by rw [List.getD_eq_getElem?_getD, hx]; rfl
    obtain ⟨a, ha, hrd⟩ := sh.b.ix hx
    refine lfp.count 4 (fun d (s : Int) h2 => h.Le h2 ∧ s = (d : Int) ∧ ∀ c, c < d → ¬ sided bx es v c) (fun Y d s h2 hd ⟨q4, q5, q6⟩ nxt => ?_) ⟨q1, rfl, fun c hc => by omega⟩
    subst q5
    have fin : (∀ c, c < 4 → ¬ sided bx es v c) → S13_j5 v X h2 := fun hs => by
      unfold S13_j5
      refine next hlt _ _ ⟨q4, wsucc (by omega), fun u d hu hd => ?_⟩
      by_cases hu2 : u < v
      · exact q3 u d hu2 hd
      · have : u = v := by omega
        subst this; exact hs d hd
    unfold S13_l7
    by_cases hd4 : d < 4
    · rw [if_pos (by simp only [decide_eq_true_eq]; omega)]
      refine ⟨a, ha, by omega, by omega, x, (q4.rdn hrd).at0, ?_⟩
      unfold S13_j6
      cases x with
      | true =>
        rw [if_neg (by decide)]
        exact fin fun c _ hs => by have := hs.1; rw [hxd] at this; cases this
      | false =>
        rw [if_pos (by decide)]
        refine c49 (sh.e.le q4) sh.ok (by omega) fun l h3 st ll => ?_
        rw [ll]
        by_cases hs : 1 < (on es v d).length
        · rw [if_pos (by simp only [decide_eq_true_eq]; omega)]
          have hs2 : ∃ v d, v < bx.length ∧ d < 4 ∧ sided bx es v d := ⟨v, d, hlt, hd4, hxd, hs⟩
          exact k 8 _ ⟨fun _ => rfl, fun hn => absurd hs2 hn, fun hn => absurd hs2 hn⟩ (q4.trans st.le)
        · rw [if_neg (by simp only [decide_eq_true_eq]; omega)]
          refine nxt hd4 _ _ ⟨q4.trans st.le, wsucc (by omega), fun c hc => ?_⟩
          by_cases hc2 : c < d
          · exact q6 c hc2
          · have : c = d := by omega
            subst this; exact fun hh => hs hh.2
    · rw [if_neg (by simp only [decide_eq_true_eq]; omega)]
      unfold S13_j6
      rw [if_neg (by decide)]
      exact fin fun c hc => q6 c (by omega)
  · rw [if_neg (by simp only [decide_eq_true_eq]; omega)]
    have hno : ¬ (∃ v d, v < bx.length ∧ d < 4 ∧ sided bx es v d) := fun ⟨u, d, hu, hd, hs⟩ => q3 u d (by omega) hd hs
    unfold S13_j4
    refine lfp.count es.length (fun i (s : Int) h2 => h.Le h2 ∧ s = (i : Int) ∧ ∀ e ∈ es.take i, ¬ turned bx e) (fun Y i s h2 hi ⟨q4, q5, q6⟩ nxt => ?_) ⟨q1, rfl, by simp⟩
    subst q5
    unfold S13_l3 S13_j1
    rw [e1]
    by_cases hi2 : i < es.length
    · rw [if_pos (by simp only [decide_eq_true_eq]; omega)]
      obtain ⟨e, he⟩ : ∃ x, es[i]? = some x := ⟨_, List.getElem?_eq_getElem hi2⟩
      have ek := sh.ok e (List.mem_of_getElem? he)
      have hf := ek.f
      obtain ⟨a, ha, hrd⟩ := sh.e.ix he
      refine ⟨a, ha, by omega, by omega, e.f, e.t, e.d, bs e.b, q4.rdn hrd, ?_⟩
      have go : ¬ turned bx e → S13_j2 K i Y false h2 := fun ht => by
        unfold S13_j2
        rw [if_neg (by decide), wsucc (by omega)]
        refine nxt hi2 _ _ ⟨q4, rfl, fun x hx => ?_⟩
        rw [List.take_add_one, he] at hx
        rcases List.mem_append.1 hx with hx | hx
        · exact q6 x hx
        · simp only [Option.toList_some, List.mem_singleton] at hx; subst hx; exact ht
      by_cases h1 : e.f = e.t
      · rw [if_pos (by simp [h1]), bs_empty]
        by_cases h2' : e.b = []
        · rw [if_pos (by simp [h2'])]
          obtain ⟨x, hx⟩ : ∃ x, bx[e.f]? = some x := ⟨_, List.getElem?_eq_getElem hf⟩
          have hxd : bx.getD e.f false = x := by rw [List.getD_eq_getElem?_getD, hx]; rfl
          obtain ⟨a2, ha2, hrd2⟩ := sh.b.ix hx
          refine ⟨a2, ha2, by omega, by omega, x, (q4.rdn hrd2).at0, ?_⟩
          cases x with
          | true => exact go fun ht => by rw [ht.2.2] at hxd; cases hxd
          | false =>
            have ht : ∃ e ∈ es, turned bx e := ⟨e, List.mem_of_getElem? he, h1, h2', hxd⟩
            unfold S13_j2
            rw [if_pos (by decide)]
            exact k 10 _ ⟨fun hh => absurd hh hno, fun _ _ => rfl, fun _ hh => absurd ht hh⟩ q4
        · rw [if_neg (by simp [h2'])]
          exact go fun ht => h2' ht.2.1
      · rw [if_neg (by simp only [beq_iff_eq]; omega)]
        exact go fun ht => h1 ht.1
    · rw [if_neg (by simp only [decide_eq_true_eq]; omega)]
      rw [List.take_of_length_le (by omega)] at q6
      have hnt : ¬ ∃ e ∈ es, turned bx e := fun ⟨e, hm, ht⟩ => q6 e hm ht
      exact k 0 _ ⟨fun hh => absurd hh hno, fun _ hh => absurd hh hnt, fun _ _ => rfl⟩ q4
end Go.Proofs.YtimadnngfhbfiaaDoor
end

section
/-
  The program's norm, whole.
-/
namespace Go.Shape
/-- An edge that ends where it is. -/
def bad (bx : List Bool) (es : List Ed) (i : Nat) (x : Ed) : Prop :=
  (edge0 (verts bx es bx.length).2 x i (edges (verts bx es bx.length).2 (verts bx es bx.length).1 (es.take i)).1).2.1 = (verts bx es bx.length).2.getD (2 * i + 1) 0
end Go.Shape
namespace Go.Proofs.YtimadnngfhbfiaaDoor
open Go Go.Mu Go.Shape
variable {h h0 : H}

set_option maxHeartbeats 2000000
/-- What stays of a maker. -/
structure Mk.Same (m : Mk) (bm bg : Nat) (p0 p1 : Sl) (bx : List Bool) (es : List Ed) : Prop where
  bm : m.bm = bm
  p0 : m.p0 = p0
  p1 : m.p1 = p1
  gr : m.gr = some bg
  nv : m.nv = bx.length
  sds : m.sds = on es

theorem c12 {p0 p1 : Sl} {bx : List Bool} {es : List Ed} (sh : Shp h p0 p1 bx es) {K : Sl → Sl → Sl → Int → H → Prop}
    (kerr8 : (∃ v d, v < bx.length ∧ d < 4 ∧ sided bx es v d) → ∀ h', h.Le h' → K Sl.nil Sl.nil Sl.nil 8 h')
    (kerr10 : ¬ (∃ v d, v < bx.length ∧ d < 4 ∧ sided bx es v d) → (∃ i x, es[i]? = some x ∧ bad bx es i x) → ∀ h', h.Le h' → K Sl.nil Sl.nil Sl.nil 10 h')
    (kok : ¬ (∃ v d, v < bx.length ∧ d < 4 ∧ sided bx es v d) → (¬ ∃ i x, es[i]? = some x ∧ bad bx es i x) → ∀ c f w ws h',
      St h h' (refM c f Sl.nil w (edges (verts bx es bx.length).2 (verts bx es bx.length).1 es).1 (firsts bx es bx.length) [] ws .no .no) → ws.map (·.2) = (edges (verts bx es bx.length).2 (verts bx es bx.length).1 es).2 → K c f w 0 h') : S12 p0 p1 h K := by
  have lb := sh.lb
  have le := sh.le
  have e0 := sh.b.len
  have e1 := sh.e.len
  have vl : ∀ n, n ≤ 8 → (verts bx es n).1.length ≤ 1056 ∧ (verts bx es n).2.length = 2 * es.length := fun n hn => by
    have := verts_len bx es n
    have h2 : n * (4 + 8 * es.length) ≤ 8 * 132 := Nat.mul_le_mul hn (by omega)
    exact ⟨by omega, this.2⟩
  unfold S12
  refine c39 sh ?_
  rw [if_neg (by decide), e1]
  refine ⟨by omega, by omega, by omega, by omega, fun b21 h2 n2 eh2 b23 h3 n3 eh3 => ?_⟩
  rw [Int.toNat_natCast] at eh2 eh3
  -- a maker is made
  have stM : St h h3 (({ bm := b23, p0 := p0, p1 := p1, gr := none, sS := Sl.nil, e := ⟨some ⟨b21, 0, none⟩, es.length, es.length⟩, f := Sl.nil, w := Sl.nil, c := Sl.nil, cs := [], fi := [], en := List.replicate (2 * es.length) 0, ws := [], nv := 0, sd := fun _ _ => Sl.nil, sds := fun _ _ => [] } : Mk).M .no) := by
    have s1 := ((((St.init (ρ := Rm) h).nilArr (e := 51) (size := 8) .cells _ (put_eq _ Rm.cells _) (put_or _ _ _)).nilArr (e := 3) (size := 1) .first _ (put_eq _ Rm.first _) (put_or _ _ _)).nilArr (e := 32) (size := 1) .ways _ (put_eq _ Rm.ways _) (put_or _ _ _)).nilArr (e := 145) (size := 4) .sides _ (put_eq _ Rm.sides _) (put_or _ _ _)
    have hz : ((List.replicate (2 * es.length) 0).flatMap encN).length = es.length * 2 := by rw [flatMap_len (size := 1) (enc1N _)]; simp; omega
    have s2 := s1.allocArr (b := b21) (k := es.length) (cap := es.length) (e := 116) (size := 2) (xs := (List.replicate (2 * es.length) 0).flatMap encN) n2 .ends _ hz (Nat.le_refl _) (by simp only [maxLen]; omega) (put_eq _ _ _) (put_or _ _ _)
    have ez := zeros2 es.length
    rw [ez, hz] at eh2
    rw [← eh2] at s2
    have s3 := s2.alloc (.row ⟨[(.slice p0.a p0.l p0.c), (.slice p1.a p1.l p1.c), (.pointer none), (.slice none 0 0), (.slice (some ⟨b21, 0, none⟩) es.length es.length), (.slice none 0 0), (.slice none 0 0), (.slice none 0 0)], 8, 106, true, true⟩) n3 .mk _ (put_eq _ _ _) (put_or _ _ _)
    rw [← eh3] at s3
    refine s3.re _ id (fun r => ?_) (fun _ _ _ _ e => e)
    cases r <;> first | exact .inl rfl | (right; simp [Mk.M, put]; done) | (left; simp [Mk.M]; done) | (right; simp [Mk.M, Mk.row, put]; done)
  refine c40 sh stM rfl rfl fun m1 h4 em1 st1 => ?_
  have hbm : m1.bm = b23 := by rw [em1]
  have hp0 : m1.p0 = p0 := by rw [em1]
  have hp1 : m1.p1 = p1 := by rw [em1]
  have hnv : m1.nv = bx.length := by rw [em1]
  have hsds : m1.sds = on es := by rw [em1]
  have hcs : m1.cs = [] := by rw [em1]
  have hfi : m1.fi = [] := by rw [em1]
  have hws : m1.ws = [] := by rw [em1]
  have hen : m1.en = List.replicate (2 * es.length) 0 := by rw [em1]
  clear em1
  have hq : (some (⟨b23, 0, none⟩ : Addr)) = some ⟨m1.bm, 0, none⟩ := by rw [hbm]
  rw [hq]
  refine c41 (bx := bx) (es := es) (by rw [hp0, hp1]; exact sh) st1 hnv (fun v d _ _ => by rw [hsds]) fun n hn => ?_
  rw [if_neg (by simp only [decide_eq_true_eq]; omega)]
  refine c42 st1 fun bc bg h6 st6 => ?_
  -- the grid is the maker's
  obtain ⟨h7, w7, st7⟩ := st6.wr (vs := [.pointer (some ⟨bg, 0, none⟩)]) (off := 2) (.inl .mk) rfl rfl (by simp [Mk.row]) (put _ (.inl .mk) (.blk m1.bm (.row ({ m1 with gr := some bg } : Mk).row))) (by rw [put_eq]; rfl) (put_or _ _ _)
  refine ⟨h7, by rw [← hbm]; exact w7, ?_⟩
  have st8 : St h h7 (({ m1 with gr := some bg, c := ⟨some ⟨bc, 0, none⟩, 0, 0⟩ } : Mk).M .no) := by
    refine st7.re _ (fun r => match r with | .grid => .inr true | .cells => .inr false | r => .inl r) (fun r => ?_) (fun r r' h1 h2 e => ?_)
    · cases r with
      | cells => right; simp [Mk.M, put, hcs]
      | grid => right; simp [Mk.M, put]
      | mk => right; simp [Mk.M, put, Mk.row]
      | cur => left; rfl
      | _ => right; simp [Mk.M, put]
    · have key : ∀ r : Rm, (match (match r with | .grid => .inr true | .cells => .inr false | r => .inl r : Rm ⊕ Bool) with | .inl r => r | .inr true => Rm.grid | .inr false => Rm.cells) = r := fun r => by cases r <;> rfl
      have := congrArg (fun q : Rm ⊕ Bool => match q with | .inl r => r | .inr true => Rm.grid | .inr false => Rm.cells) e
      rw [← key r, ← key r']; exact this
  refine lfp.count bx.length (fun v (s : Int × Sl × Sl × Sl) h' => s = ((v : Int), Sl.nil, Sl.nil, Sl.nil) ∧ (∀ u d, u < v → d < 4 → ¬ sided bx es u d) ∧ ∃ m : Mk, m.Same b23 bg p0 p1 bx es ∧ m.cs = (verts bx es v).1 ∧ m.en = (verts bx es v).2 ∧ m.fi = firsts bx es v ∧ m.ws = [] ∧ St h h' (m.M .no))
    (fun X v s h' hv ⟨q1, q2, m, sm, mcs, men, mfi, mws, st⟩ next => ?_) ⟨rfl, fun u d hu => by omega, ({ m1 with gr := some bg, c := ⟨some ⟨bc, 0, none⟩, 0, 0⟩ } : Mk), ⟨hbm, hp0, hp1, rfl, hnv, hsds⟩, hcs, hen, hfi, hws, st8⟩
  subst q1
  simp only
  have vlv := vl v (by omega)
  have hq2 : (some (⟨b23, 0, none⟩ : Addr)) = some ⟨m.bm, 0, none⟩ := by rw [sm.bm]
  unfold S12_l5
  rw [e0]
  by_cases hlt : v < bx.length
  · rw [if_pos (by simp only [decide_eq_true_eq]; omega)]
    obtain ⟨x, hx⟩ : ∃ x, bx[v]? = some x := ⟨_, List.getElem?_eq_getElem hlt⟩
    have hxd : bx.getD v false = x := by rw [List.getD_eq_getElem?_getD, hx]; rfl
    obtain ⟨a, ha, hrd⟩ := sh.b.ix hx
    have g6 : h'.rd ⟨b23, 6, none⟩ = some (.slice m.f.a m.f.l m.f.c) := by have := Mk.at st (off := 6) rfl; rw [Addr.add_n, sm.bm] at this; exact this
    have g2 : h'.rd ⟨b23, 2, none⟩ = some (.pointer (some ⟨bg, 0, none⟩)) := by have := Mk.gp st sm.gr; rw [Addr.add_n, sm.bm] at this; exact this
    refine ⟨a, ha, by omega, by omega, x, by rw [Int.toNat_natCast]; exact (st.le.rdn hrd).at0, m.f, g6, _, g2, c43 (Mk.grd sm.gr) st ⟨g6, ?_⟩⟩
    have hfl : m.f.l = v := by have := (st.arr (enc := encN) .first rfl (enc1N _) (by decide)).1; rw [mfi] at this; simpa [firsts] using this
    refine ⟨_, _, st.own .first rfl, by simp only [maxLen]; omega, by omega, fun f' h8 ap => ?_⟩
    obtain ⟨st9, _⟩ := st.app .first rfl rfl rfl ap (put _ .first (.arr f' 3 1 ((m.fi ++ [m.cs.length]).flatMap encN))) (by rw [put_eq, List.flatMap_append]; rfl) (put_or _ _ _)
    obtain ⟨h10, w10, st10⟩ := st9.wr (vs := [.slice f'.a f'.l f'.c]) (off := 6) .mk (by rw [put_ne _ _ (by simp)]; rfl) rfl (by simp [Mk.row]) (put _ .mk (.blk m.bm (.row ({ m with f := f' } : Mk).row))) (by rw [put_eq]; rfl) (put_or _ _ _)
    have st11 : St h h10 (({ m with f := f', fi := m.fi ++ [m.cs.length] } : Mk).M .no) := by
      refine st10.re _ id (fun r => ?_) (fun _ _ _ _ e => e)
      cases r <;> right <;> simp [put, Mk.M, Mk.row]
    refine ⟨h10, by rw [← sm.bm]; exact w10, ?_⟩
    rw [hq2]
    have hfi2 : m.fi ++ [m.cs.length] = firsts bx es (v + 1) := by rw [firsts_succ, mfi, mcs]
    have has : Mk.Has ({ m with f := f', fi := m.fi ++ [m.cs.length] } : Mk) bx es := ⟨sm.nv, fun v d _ _ => by show m.sds v d = _; rw [sm.sds], by show m.en.length = _; rw [men]; exact vlv.2⟩
    have nosd : (∀ d, d < 4 → ¬ sided bx es v d) → ∀ u d, u < v + 1 → d < 4 → ¬ sided bx es u d := fun hh u d hu hd => by
      by_cases hu2 : u < v
      · exact q2 u d hu2 hd
      · have : u = v := by omega
        subst this; exact hh d hd
    cases x with
    | true =>
      rw [if_pos rfl]
      refine c44 st11 sm.gr (by show m.cs.length < 3800; rw [mcs]; omega) has hlt le fun c' h12 st12 => ?_
      unfold S12_j4
      refine next hlt _ _ ⟨by rw [wsucc (by omega)], nosd fun d _ hs => (by have := hs.1; rw [hxd] at this; cases this), ({ m with f := f', fi := m.fi ++ [m.cs.length], c := c', cs := (box es v (m.cs, m.en)).1, en := (box es v (m.cs, m.en)).2 } : Mk), ⟨sm.bm, sm.p0, sm.p1, sm.gr, sm.nv, sm.sds⟩, ?_, ?_, hfi2, mws, st12⟩
      · show (box es v (m.cs, m.en)).1 = _
        rw [verts_succ, vtx, hxd, if_pos rfl, mcs, men]
      · show (box es v (m.cs, m.en)).2 = _
        rw [verts_succ, vtx, hxd, if_pos rfl, mcs, men]
    | false =>
      rw [if_neg (by decide)]
      refine c45 st11 sm.gr (by show m.cs.length < 4096; rw [mcs]; omega) has hlt le (fun ⟨d, hd, hl⟩ h12 l12 => ?_) (fun hno c' h12 st12 => ?_)
      · rw [if_pos (by decide)]
        exact kerr8 ⟨v, d, hlt, hd, hxd, hl⟩ _ l12
      · rw [if_neg (by decide)]
        unfold S12_j4
        refine next hlt _ _ ⟨by rw [wsucc (by omega)], nosd fun d hd hs => hno ⟨d, hd, hs.2⟩, ({ m with f := f', fi := m.fi ++ [m.cs.length], c := c', cs := m.cs ++ [Cell.empty], en := pSides es v m.cs.length m.en 4 } : Mk), ⟨sm.bm, sm.p0, sm.p1, sm.gr, sm.nv, sm.sds⟩, ?_, ?_, hfi2, mws, st12⟩
        · show m.cs ++ [Cell.empty] = _
          rw [verts_succ, vtx, hxd, if_neg (by decide), mcs]; rfl
        · show pSides es v m.cs.length m.en 4 = _
          rw [verts_succ, vtx, hxd, if_neg (by decide), mcs, men]; rfl
  · rw [if_neg (by simp only [decide_eq_true_eq]; omega)]
    have hvl : v = bx.length := by omega
    subst hvl
    clear next
    have hno : ¬ (∃ v d, v < bx.length ∧ d < 4 ∧ sided bx es v d) := fun ⟨u, d, hu, hd, hs⟩ => q2 u d hu hd hs
    have hbad : ∀ i x, bad bx es i x ↔ (edge0 (verts bx es bx.length).2 x i (edges (verts bx es bx.length).2 (verts bx es bx.length).1 (es.take i)).1).2.1 = (verts bx es bx.length).2.getD (2 * i + 1) 0 := fun i x => Iff.rfl
    generalize hV : verts bx es bx.length = V at mcs men vlv hbad kok
    unfold S12_j3
    refine lfp.count es.length (fun i (s : Int × Sl × Sl × Sl) h' => s = ((i : Int), Sl.nil, Sl.nil, Sl.nil) ∧ (∀ j x, j < i → es[j]? = some x → ¬ bad bx es j x) ∧ ∃ m : Mk, m.Same b23 bg p0 p1 bx es ∧ m.cs = (edges V.2 V.1 (es.take i)).1 ∧ m.en = V.2 ∧ m.fi = firsts bx es bx.length ∧ m.ws.map (·.2) = (edges V.2 V.1 (es.take i)).2 ∧ St h h' (m.M .no))
      (fun X i s h' hi ⟨q1, q2, m, sm, mcs, men, mfi, mws, st⟩ next => ?_) ⟨rfl, fun j x hj => by omega, m, sm, mcs, men, mfi, by rw [mws]; rfl, st⟩
    subst q1
    simp only
    have hq3 : (some (⟨b23, 0, none⟩ : Addr)) = some ⟨m.bm, 0, none⟩ := by rw [sm.bm]
    have el := edges_len (en := V.2) (cs := V.1) sh.ok i
    have hwsl : m.ws.length = i := by
      have := congrArg List.length mws
      rw [List.length_map, el.2] at this; omega
    unfold S12_l2
    rw [e1]
    by_cases hlt2 : i < es.length
    · rw [if_pos (by simp only [decide_eq_true_eq]; omega)]
      obtain ⟨x, hx⟩ : ∃ x, es[i]? = some x := ⟨_, List.getElem?_eq_getElem hlt2⟩
      rw [hq3]
      refine c46 (bx := bx) (es := es) (by rw [sm.p0, sm.p1]; exact sh) st sm.gr (by rw [mcs]; omega) (by rw [men]; exact vlv.2) hx (by omega) (fun hb h2 l2 => ?_) (fun hb c' w' wy h2 st2 => ?_)
      · rw [if_pos (by decide)]
        rw [men, mcs] at hb
        exact kerr10 hno ⟨i, x, hx, (hbad i x).2 hb⟩ _ l2
      · rw [if_neg (by decide)]
        have hE : edges V.2 V.1 (es.take (i + 1)) = edge V.2 (edges V.2 V.1 (es.take i)) (x, i) := edges_take hx
        refine next hlt2 _ _ ⟨by rw [wsucc (by omega)], fun j y hj hy => ?_, ({ m with c := c', w := w', cs := join (edge0 m.en x i m.cs).1 (edge0 m.en x i m.cs).2.1 (edge0 m.en x i m.cs).2.2.1 (m.en.getD (2 * i + 1) 0) i, ws := m.ws ++ [(wy, (edge0 m.en x i m.cs).2.2.2 ++ [m.en.getD (2 * i + 1) 0])] } : Mk), ⟨sm.bm, sm.p0, sm.p1, sm.gr, sm.nv, sm.sds⟩, ?_, men, mfi, ?_, st2⟩
        · by_cases hj2 : j < i
          · exact q2 j y hj2 hy
          · have : j = i := by omega
            subst this
            rw [hx] at hy; cases hy
            intro hb2
            rw [hbad, ← mcs, ← men] at hb2
            exact hb hb2
        · rw [hE]; simp only [edge, men, mcs]
        · rw [hE]; simp only [List.map_append, mws, edge, men, mcs]; rfl
    · rw [if_neg (by simp only [decide_eq_true_eq]; omega)]
      rw [List.take_of_length_le (by omega)] at mcs mws el
      have hnb : ¬ ∃ i x, es[i]? = some x ∧ bad bx es i x := fun ⟨j, x, hx, hb⟩ => q2 j x (by have := (List.getElem?_eq_some_iff.1 hx).1; omega) hx hb
      have g2 : h'.rd ⟨b23, 2, none⟩ = some (.pointer (some ⟨bg, 0, none⟩)) := by have := Mk.gp st sm.gr; rw [Addr.add_n, sm.bm] at this; exact this
      unfold S12_j1
      refine ⟨_, g2, c47 st (Mk.grd sm.gr) (by rw [mcs]; omega) fun s' h2 st2 => ?_⟩
      have st3 := st.plus st2
      obtain ⟨h4, w4, st4⟩ := st3.wr (vs := [.slice s'.a s'.l s'.c]) (off := 5) (.inl .mk) rfl rfl (by simp [Mk.row]) (put _ (.inl .mk) (.blk m.bm (.row ⟨[m.p0.v, m.p1.v, .pointer (m.gr.map fun b => ⟨b, 0, none⟩), m.sS.v, m.e.v, s'.v, m.f.v, m.w.v], 8, 106, true, true⟩))) (by rw [put_eq]; rfl) (put_or _ _ _)
      refine ⟨h4, by rw [← sm.bm]; exact w4, s', m.f, m.w, ⟨rfl, fun j y hj => ?_⟩, kok hno hnb s' m.f m.w m.ws h4 ?_ mws⟩
      · have r5 : ∀ off y, ([m.p0.v, m.p1.v, .pointer (m.gr.map fun b => ⟨b, 0, none⟩), m.sS.v, m.e.v, s'.v, m.f.v, m.w.v] : List Value)[off]? = some y → h4.rd ⟨m.bm, off, none⟩ = some y := fun off y hy => st4.rd (.inl .mk) (put_eq _ _ _) hy
        rw [Addr.add_n, ← sm.bm]
        match j, hj with
        | 0, hj => exact r5 5 y hj
        | 1, hj => exact r5 6 y hj
        | 2, hj => exact r5 7 y hj
        | j + 3, hj => simp at hj
      · have st5 := st4.nilArr (e := 116) (size := 2) (.inl .mk) (put _ (.inl .mk) (.arr Sl.nil 116 2 [])) (put_eq _ _ _) (put_or _ _ _)
        refine st5.re _ (fun r => match r with | .cells => .inr () | .first => .inl .first | .ways => .inl .ways | .way i => .inl (.way i) | .ends => .inl .mk | .tmp => .inl .cur | .cur => .inl .grid) (fun r => ?_) (fun r r' h1 h2 e => ?_)
        · cases r with
          | cells => right; rw [put_ne _ _ (by simp), put_ne _ _ (by simp)]; simp only [refM, mcs]
          | first => right; rw [put_ne _ _ (by simp), put_ne _ _ (by simp)]; simp only [refM, Mk.M, mfi]
          | ends => right; rw [put_eq]; rfl
          | ways => right; rw [put_ne _ _ (by simp), put_ne _ _ (by simp)]; rfl
          | tmp => left; rfl
          | cur => left; rfl
          | way i => right; rw [put_ne _ _ (by simp), put_ne _ _ (by simp)]; rfl
        · have key : ∀ r : Ro, (match (match r with | .cells => .inr () | .first => .inl .first | .ways => .inl .ways | .way i => .inl (.way i) | .ends => .inl .mk | .tmp => .inl .cur | .cur => .inl .grid : Rm ⊕ Unit) with | .inr _ => Ro.cells | .inl .first => .first | .inl .ways => .ways | .inl (.way i) => .way i | .inl .mk => .ends | .inl .cur => .tmp | .inl _ => .cur) = r := fun r => by cases r <;> rfl
          have := congrArg (fun q : Rm ⊕ Unit => match q with | .inr _ => Ro.cells | .inl .first => .first | .inl .ways => .ways | .inl (.way i) => .way i | .inl .mk => .ends | .inl .cur => .tmp | .inl _ => .cur) e
          rw [← key r, ← key r']; exact this
end Go.Proofs.YtimadnngfhbfiaaDoor
end

section
/- PRINTED by wip/gen.py: what slices.Equal[[]int,int] does, in the words of Mu. -/
namespace Go.Proofs.YtimadnngfhbfiaaDoor
open Go Go.Mu
/- slices.Equal[[]int,int] -/
def S17_j1 (K : Bool → H → Prop) (h_1 : H) : Prop :=
  K true h_1
def S17_l2 (p0 : Sl) (p1 : Sl) (K : Bool → H → Prop) (X : Int → H → Prop) (v13 : Int) (h_2 : H) : Prop :=
  (if (decide (v13 < (p0.l : Int))) = true then (∃ a18 : Addr, p0.a = some a18 ∧ 0 ≤ v13 ∧ v13 < (p0.l : Int) ∧ (∃ (v19 : Int), H.rd h_2 (Addr.add a18 (Int.toNat v13 * 1)) = some (.int .i64 v19) ∧ (∃ a22 : Addr, p1.a = some a22 ∧ 0 ≤ v13 ∧ v13 < (p1.l : Int) ∧ (∃ (v23 : Int), H.rd h_2 (Addr.add a22 (Int.toNat v13 * 1)) = some (.int .i64 v23) ∧ (if (v19 != v23) = true then K false h_2 else X (IntKind.wrap .i64 (v13 + 1)) h_2))))) else S17_j1 K h_2)
def S17 (p0 : Sl) (p1 : Sl) (h : H) (K : Bool → H → Prop) : Prop :=
  (if ((p0.l : Int) != (p1.l : Int)) = true then K false h else lfp (fun X s h_2 => S17_l2 p0 p1 K X s h_2) 0 h)
end Go.Proofs.YtimadnngfhbfiaaDoor
end

section
/- PRINTED by wip/gen.py: what muntin/muntinlaw11.wakes does, in the words of Mu. -/
namespace Go.Proofs.YtimadnngfhbfiaaDoor
open Go Go.Mu
/- muntin/muntinlaw11.wakes -/
def S14_j1 (K : Bool → H → Prop) (v0 : Bool) (h_7 : H) : Prop :=
  K v0 h_7
def S14  (h : H) (K : Bool → H → Prop) : Prop :=
  (∀ (b6 : Nat) (h_1 : H), h b6 = none → h_1 = H.set h b6 (.row ⟨[(.bool false), (.bool true)], 2, 4, true, true⟩) → (∀ (b8 : Nat) (h_2 : H), h_1 b8 = none → h_2 = H.set h_1 b8 (.row ⟨[(.int .i64 0), (.int .i64 1), (.int .i64 0), (.string ⟨#[]⟩)], 4, 54, true, true⟩) → S12 ⟨some ⟨b6, 0, none⟩, 2, 2⟩ ⟨some ⟨b8, 0, none⟩, 1, 1⟩ h_2 (fun (v10_0_0 : Sl) (v10_0_1 : Sl) (v10_0_2 : Sl) (v10_1 : Int) (h_3 : H) => (∀ (b14 : Nat) (h_4 : H), h_3 b14 = none → h_4 = H.set h_3 b14 (.row ⟨[(.bool false), (.bool false)], 2, 4, true, true⟩) → (∀ (b17 : Nat) (h_5 : H), h_4 b17 = none → h_5 = H.set h_4 b17 (.row ⟨[(.int .i64 0), (.int .i64 1), (.int .i64 0), (.string ⟨#[]⟩), (.int .i64 0), (.int .i64 1), (.int .i64 0), (.string ⟨#[]⟩)], 8, 54, true, true⟩) → S12 ⟨some ⟨b14, 0, none⟩, 2, 2⟩ ⟨some ⟨b17, 0, none⟩, 2, 2⟩ h_5 (fun (v19_0_0 : Sl) (v19_0_1 : Sl) (v19_0_2 : Sl) (v19_1 : Int) (h_6 : H) => (if (v10_1 == 0) = true then (if ((v10_0_0.l : Int) == 6) = true then (if ((v10_0_1.l : Int) == 2) = true then (∃ a39 : Addr, v10_0_1.a = some a39 ∧ 0 ≤ (1 : Int) ∧ 1 < (v10_0_1.l : Int) ∧ (∃ (v40 : Int), H.rd h_6 (Addr.add a39 (Int.toNat 1 * 1)) = some (.int .i64 v40) ∧ (if (v40 == 1) = true then (if ((v10_0_2.l : Int) == 1) = true then (∃ a52 : Addr, v10_0_2.a = some a52 ∧ 0 ≤ (0 : Int) ∧ 0 < (v10_0_2.l : Int) ∧ (∃ (v53 : Sl), H.rd h_6 (Addr.add a52 (Int.toNat 0 * 1)) = some (.slice v53.a v53.l v53.c) ∧ (∀ (b54 : Nat) (h_8 : H), h_6 b54 = none → h_8 = H.set h_6 b54 (.row ⟨[(.int .i64 0), (.int .i64 5)], 2, 3, true, true⟩) → S17 v53 ⟨some ⟨b54, 0, none⟩, 2, 2⟩ h_8 (fun (v55 : Bool) (h_9 : H) => (if v55 = true then S14_j1 K (v19_1 == 8) h_9 else S14_j1 K false h_9))))) else S14_j1 K false h_6) else S14_j1 K false h_6))) else S14_j1 K false h_6) else S14_j1 K false h_6) else S14_j1 K false h_6)))))))
end Go.Proofs.YtimadnngfhbfiaaDoor
end

section
/- PRINTED by wip/gen.py: what muntin/muntinref10.Same does, in the words of Mu. -/
namespace Go.Proofs.YtimadnngfhbfiaaDoor
open Go Go.Mu
/- muntin/muntinref10.Same -/
def S16_j1 (K : Bool → H → Prop) (h_1 : H) : Prop :=
  K true h_1
def S16_l2 (p0 : Sl) (p1 : Sl) (K : Bool → H → Prop) (X : Int → H → Prop) (v5 : Int) (h_2 : H) : Prop :=
  (if (decide (v5 < (p0.l : Int))) = true then (∃ a19 : Addr, p0.a = some a19 ∧ 0 ≤ v5 ∧ v5 < (p0.l : Int) ∧ (∃ (v20_0 : Int) (v20_1 : Int) (v20_2 : Int) (v20_3 : Int) (v20_4 : Int) (v20_5 : Int) (v20_6 : Int) (v20_7 : Int), H.rdn h_2 (Addr.add a19 (Int.toNat v5 * 8)) 8 [(.int .i64 v20_0), (.int .i64 v20_1), (.int .i64 v20_2), (.int .i64 v20_3), (.int .i64 v20_4), (.int .i64 v20_5), (.int .i64 v20_6), (.int .i64 v20_7)] ∧ (∃ a23 : Addr, p1.a = some a23 ∧ 0 ≤ v5 ∧ v5 < (p1.l : Int) ∧ (∃ (v24_0 : Int) (v24_1 : Int) (v24_2 : Int) (v24_3 : Int) (v24_4 : Int) (v24_5 : Int) (v24_6 : Int) (v24_7 : Int), H.rdn h_2 (Addr.add a23 (Int.toNat v5 * 8)) 8 [(.int .i64 v24_0), (.int .i64 v24_1), (.int .i64 v24_2), (.int .i64 v24_3), (.int .i64 v24_4), (.int .i64 v24_5), (.int .i64 v24_6), (.int .i64 v24_7)] ∧ (if (!((([v20_0, v20_1, v20_2, v20_3] : List Int) == ([v24_0, v24_1, v24_2, v24_3] : List Int)) && ((([v20_4, v20_5, v20_6, v20_7] : List Int) == ([v24_4, v24_5, v24_6, v24_7] : List Int)) && true))) = true then K false h_2 else X (IntKind.wrap .i64 (v5 + 1)) h_2))))) else S16_j1 K h_2)
def S16 (p0 : Sl) (p1 : Sl) (h : H) (K : Bool → H → Prop) : Prop :=
  (if ((p0.l : Int) != (p1.l : Int)) = true then K false h else lfp (fun X s h_2 => S16_l2 p0 p1 K X s h_2) 0 h)
end Go.Proofs.YtimadnngfhbfiaaDoor
end

section
/-
  Comparisons; what the document fixes.
-/
namespace Go.Proofs.YtimadnngfhbfiaaDoor
open Go Go.Mu Go.Shape
variable {h h0 : H}
set_option maxHeartbeats 2000000

theorem c17 {p q : Sl} {l : List Nat} (hp : Rd h p 1 encN l) (hq : Rd h q 1 encN l) (hn : l.length < 10000) {K : Bool → H → Prop} (k : K true h) : S17 p q h K := by
  have ep := hp.len
  have eq := hq.len
  unfold S17
  rw [ep, eq, if_neg (by simp)]
  refine lfp.count l.length (fun i (s : Int) h' => s = (i : Int) ∧ h' = h) (fun X i s h' hi ⟨q1, q2⟩ next => ?_) ⟨rfl, rfl⟩
  subst q1 q2
  unfold S17_l2 S17_j1
  rw [ep, eq]
  by_cases hlt : i < l.length
  · rw [if_pos (by simp only [decide_eq_true_eq]; omega)]
    obtain ⟨x, hx⟩ : ∃ x, l[i]? = some x := ⟨_, List.getElem?_eq_getElem hlt⟩
    obtain ⟨a, ha, r1⟩ := hp.ix hx
    obtain ⟨a2, ha2, r2⟩ := hq.ix hx
    refine ⟨a, ha, by omega, by omega, x, by rw [Int.toNat_natCast]; exact r1.at0, a2, ha2, by omega, by omega, x, by rw [Int.toNat_natCast]; exact r2.at0, ?_⟩
    rw [if_neg (by simp), wsucc (by omega)]
    exact next hlt _ _ ⟨rfl, rfl⟩
  · rw [if_neg (by simp only [decide_eq_true_eq]; omega)]
    exact k
theorem c16 {p q : Sl} {l : List Cell} (hp : Rd h p 8 Cell.enc l) (hq : Rd h q 8 Cell.enc l) (hn : l.length < 10000) {K : Bool → H → Prop} (k : K true h) : S16 p q h K := by
  have ep := hp.len
  have eq := hq.len
  unfold S16
  rw [ep, eq, if_neg (by simp)]
  refine lfp.count l.length (fun i (s : Int) h' => s = (i : Int) ∧ h' = h) (fun X i s h' hi ⟨q1, q2⟩ next => ?_) ⟨rfl, rfl⟩
  subst q1 q2
  unfold S16_l2 S16_j1
  rw [ep, eq]
  by_cases hlt : i < l.length
  · rw [if_pos (by simp only [decide_eq_true_eq]; omega)]
    obtain ⟨x, hx⟩ : ∃ x, l[i]? = some x := ⟨_, List.getElem?_eq_getElem hlt⟩
    obtain ⟨a, ha, r1⟩ := hp.ix hx
    obtain ⟨a2, ha2, r2⟩ := hq.ix hx
    refine ⟨a, ha, by omega, by omega, x.n0, x.n1, x.n2, x.n3, x.o0, x.o1, x.o2, x.o3, by rw [Int.toNat_natCast]; exact r1, a2, ha2, by omega, by omega, x.n0, x.n1, x.n2, x.n3, x.o0, x.o1, x.o2, x.o3, by rw [Int.toNat_natCast]; exact r2, ?_⟩
    rw [if_neg (by simp), wsucc (by omega)]
    exact next hlt _ _ ⟨rfl, rfl⟩
  · rw [if_neg (by simp only [decide_eq_true_eq]; omega)]
    exact k

/-- A literal in a new block is read. -/
theorem lit_Rd {h' : H} {b e n size : Nat} {α : Type} {enc : α → List Value} {l : List α} (eh : h' = h.set b (.row ⟨l.flatMap enc, n, e, true, true⟩)) (hsz : ∀ x ∈ l, (enc x).length = size) : Rd h' ⟨some ⟨b, 0, none⟩, l.length, l.length⟩ size enc l := by
  refine ⟨rfl, hsz, fun _ => ⟨_, rfl, fun i x hi => ⟨hsz x (List.mem_of_getElem? hi), fun j v hj => ?_⟩⟩⟩
  rw [eh, Addr.add_n, Addr.add_n]
  simp only [H.rd, H.set_eq, Nat.zero_add]
  exact flatMap_at hsz hi hj
def e01 : Ed := ⟨0, 1, 0, []⟩
theorem c14 {K : Bool → H → Prop} (k : ∀ h', h.Le h' → K true h') : S14 h K := by
  unfold S14
  intro b6 h1 n1 e1 b8 h2 n2 e2
  have l1 := le_new n1 e1
  have l2 := le_new n2 e2
  have r1 : Rd h1 ⟨some ⟨b6, 0, none⟩, 2, 2⟩ 1 encB [false, true] := lit_Rd (l := [false, true]) (enc := encB) e1 (fun _ _ => rfl)
  have r2 : Rd h2 ⟨some ⟨b8, 0, none⟩, 1, 1⟩ 4 Ed.enc [e01] := lit_Rd (l := [e01]) (enc := Ed.enc) e2 (fun _ _ => rfl)
  have ok : ∀ n, 1 < n → e01.Ok n := fun n hn => ⟨by show 0 < n; omega, by show 1 < n; omega, by decide, by decide⟩
  have sh : Shp h2 ⟨some ⟨b6, 0, none⟩, 2, 2⟩ ⟨some ⟨b8, 0, none⟩, 1, 1⟩ [false, true] [e01] := ⟨r1.le l2, r2, by decide, by decide, fun e he => by
    simp only [List.mem_singleton] at he; subst he; exact ok _ (by decide)⟩
  refine c12 sh (fun hs => absurd hs ?_) (fun _ hb => absurd hb ?_) (fun _ _ c f w ws h3 st hws => ?_)
  · rintro ⟨v, d, hv, hd, hs⟩
    have hv2 : v = 0 ∨ v = 1 := by simp only [List.length_cons, List.length_nil] at hv; omega
    rcases hv2 with rfl | rfl <;> rcases cases4 hd with rfl | rfl | rfl | rfl <;> revert hs <;> unfold sided <;> decide
  · rintro ⟨i, x, hx, hb⟩
    have hi : i = 0 := by have := (List.getElem?_eq_some_iff.1 hx).1; simp only [List.length_cons, List.length_nil] at this; omega
    subst hi
    simp only [List.getElem?_cons_zero, Option.some.injEq] at hx; subst hx
    revert hb; unfold bad; decide
  intro b14 h4 n4 e4 b17 h5 n5 e5
  have l4 := le_new n4 e4
  have l5 := le_new n5 e5
  have r3 : Rd h4 ⟨some ⟨b14, 0, none⟩, 2, 2⟩ 1 encB [false, false] := lit_Rd (l := [false, false]) (enc := encB) e4 (fun _ _ => rfl)
  have r4 : Rd h5 ⟨some ⟨b17, 0, none⟩, 2, 2⟩ 4 Ed.enc [e01, e01] := lit_Rd (l := [e01, e01]) (enc := Ed.enc) e5 (fun _ _ => rfl)
  have sh2 : Shp h5 ⟨some ⟨b14, 0, none⟩, 2, 2⟩ ⟨some ⟨b17, 0, none⟩, 2, 2⟩ [false, false] [e01, e01] := ⟨r3.le l5, r4, by decide, by decide, fun e he => by
    have : e = e01 := by simpa using he
    subst this; exact ok _ (by decide)⟩
  have sd2 : ∃ v d, v < ([false, false] : List Bool).length ∧ d < 4 ∧ sided [false, false] [e01, e01] v d := ⟨0, 0, by decide, by decide, by unfold sided; decide⟩
  have st5 := (st.le' l4).le' l5
  refine c12 sh2 (fun _ h6 l6 => ?_) (fun hs => absurd sd2 hs) (fun hs => absurd sd2 hs)
  have st6 := st5.le' l6
  have hcl : c.l = 6 := by have := (st6.arr (enc := Cell.enc) .cells rfl (enc8 _) (by decide)).1; rw [this]; decide
  have hF : firsts [false, true] [e01] ([false, true] : List Bool).length = [0, 1] := by decide
  rw [hF] at st6
  have rF := st6.arr (enc := encN) .first rfl (enc1N _) (by decide)
  have hfl : f.l = 2 := rF.1
  have hW : (edges (verts [false, true] [e01] ([false, true] : List Bool).length).2 (verts [false, true] [e01] ([false, true] : List Bool).length).1 [e01]).2 = [[0, 5]] := by decide
  rw [hW] at hws
  obtain ⟨wy, hwy⟩ : ∃ wy, ws = [(wy, [0, 5])] := by
    match ws, hws with
    | [(wy, l)], hws =>
      simp only [List.map_cons, List.map_nil, List.cons.injEq, and_true] at hws
      exact ⟨wy, by rw [hws]⟩
    | [], hws => simp at hws
    | _ :: _ :: _, hws => simp at hws
  subst hwy
  have rW := st6.arr (enc := fun p : Sl × List Nat => [p.1.v]) .ways rfl (fun _ _ => rfl) (by decide)
  have hwl : w.l = 1 := rW.1
  rw [if_pos (by decide), hcl, if_pos (by decide), hfl, if_pos (by decide)]
  obtain ⟨a, ha, rd1⟩ := rF.ix (i := 1) (y := 1) rfl
  refine ⟨a, ha, by decide, by decide, 1, rd1.at0, ?_⟩
  rw [if_pos (by decide), hwl, if_pos (by decide)]
  obtain ⟨a2, ha2, rd2⟩ := rW.ix (i := 0) rfl
  refine ⟨a2, ha2, by decide, by decide, wy, rd2.at0, fun b54 h8 n8 e8 => ?_⟩
  have l8 := le_new n8 e8
  have rl : Rd h6 wy 1 encN [0, 5] := st6.arr (e := 3) (.way 0) rfl (enc1N _) (by decide)
  refine c17 (rl.le l8) (lit_Rd (l := [0, 5]) (enc := encN) e8 (fun _ _ => rfl)) (by decide) ?_
  rw [if_pos rfl]
  exact k _ ((((((l1.trans l2).trans st.le).trans l4).trans l5).trans l6).trans l8)
end Go.Proofs.YtimadnngfhbfiaaDoor
end

section
/-
  The plain law: an edge ends where it is just if it is one from a point to itself without bends.
-/
namespace Go.Shape
open Go Go.Mu
def own (es : List Ed) (v k : Nat) : Prop := ∃ d, d < 4 ∧ k ∈ on es v d
theorem mem_on {es : List Ed} {v d k : Nat} (hk : k ∈ on es v d) : ∃ i e, es[i]? = some e ∧ ((k = 2 * i ∧ e.f = v ∧ e.d = d) ∨ (k = 2 * i + 1 ∧ e.t = v ∧ e.side = d)) := by
  obtain ⟨⟨e, i⟩, hp, hm⟩ := List.mem_flatMap.1 hk
  have he : es[i]? = some e := by
    have := List.mem_zipIdx_iff_getElem?.1 hp
    exact this
  refine ⟨i, e, he, ?_⟩
  unfold endsOf at hm
  rcases List.mem_append.1 hm with hm | hm
  · split at hm
    · rename_i hc; simp only [List.mem_singleton] at hm; exact .inl ⟨hm, hc⟩
    · cases hm
  · split at hm
    · rename_i hc; simp only [List.mem_singleton] at hm; exact .inr ⟨hm, hc⟩
    · cases hm
theorem on_mem {es : List Ed} {i : Nat} {e : Ed} (he : es[i]? = some e) : 2 * i ∈ on es e.f e.d ∧ 2 * i + 1 ∈ on es e.t e.side := by
  have hp : (e, i) ∈ es.zipIdx := List.mem_zipIdx_iff_getElem?.2 he
  exact ⟨List.mem_flatMap.2 ⟨_, hp, by simp [endsOf]⟩, List.mem_flatMap.2 ⟨_, hp, by simp [endsOf]⟩⟩
theorem own_inj {es : List Ed} {v v' k : Nat} (a : own es v k) (b : own es v' k) : v = v' := by
  obtain ⟨d, _, hm⟩ := a
  obtain ⟨d', _, hm'⟩ := b
  obtain ⟨i, e, he, h1⟩ := mem_on hm
  obtain ⟨i', e', he', h2⟩ := mem_on hm'
  have hi : i = i' := by omega
  subst hi
  rw [he] at he'; cases he'
  omega
/-- What is known within a box. -/
structure BI (c : Nat) (en0 : List Nat) (S : Nat → Prop) (s : List Cell × List Nat) : Prop where
  lo : ∀ k x, S k → s.2[k]? = some x → c ≤ x ∧ x < s.1.length
  ne : ∀ k k' x x', S k → S k' → k ≠ k' → s.2[k]? = some x → s.2[k']? = some x' → x ≠ x'
  un : ∀ k, ¬ S k → s.2[k]? = en0[k]?
  ge : c ≤ s.1.length
theorem BI.iff {c : Nat} {en0 : List Nat} {S S' : Nat → Prop} {s : List Cell × List Nat} (b : BI c en0 S s) (e : ∀ k, S k ↔ S' k) : BI c en0 S' s :=
  ⟨fun k x h => b.lo k x ((e k).2 h), fun k k' x x' h h' => b.ne k k' x x' ((e k).2 h) ((e k').2 h'), fun k h => b.un k fun h2 => h ((e k).1 h2), b.ge⟩
theorem BI.len {c : Nat} {en0 : List Nat} {S : Nat → Prop} {cs cs' : List Cell} {en : List Nat} (b : BI c en0 S (cs, en)) (e : cs.length = cs'.length) : BI c en0 S (cs', en) :=
  ⟨fun k x h hx => by have := b.lo k x h hx; simp only at this ⊢; omega, b.ne, b.un, by have := b.ge; simp only at this ⊢; omega⟩
theorem BI.step {c : Nat} {en0 : List Nat} {S : Nat → Prop} {s : List Cell × List Nat × Nat} {way k0 : Nat} (b : BI c en0 S (s.1, s.2.1)) : BI c en0 (fun k => S k ∨ k = k0) ((bEnd way s k0).1, (bEnd way s k0).2.1) := by
  have hl : (bEnd way s k0).1.length = s.1.length + 1 := by simp [bEnd, join_len]
  have hset : ∀ k x, (s.2.1.set k0 s.1.length)[k]? = some x → (k = k0 ∧ x = s.1.length) ∨ (k ≠ k0 ∧ s.2.1[k]? = some x) := fun k x e => by
    rw [List.getElem?_set] at e
    by_cases hk : k0 = k
    · rw [if_pos hk] at e
      split at e
      · simp only [Option.some.injEq] at e; exact .inl ⟨hk.symm, e.symm⟩
      · cases e
    · rw [if_neg hk] at e; exact .inr ⟨fun h => hk h.symm, e⟩
  have ge := b.ge
  refine ⟨fun k x h hx => ?_, fun k k' x x' h h' hne hx hx' => ?_, fun k h => ?_, by simp only at ge ⊢; omega⟩
  · simp only at ge ⊢
    rcases hset k x hx with ⟨_, e⟩ | ⟨hk, e⟩
    · omega
    · have := b.lo k x (h.resolve_right hk) e
      simp only at this; omega
  · rcases hset k x hx with ⟨hk, e⟩ | ⟨hk, e⟩ <;> rcases hset k' x' hx' with ⟨hk', e'⟩ | ⟨hk', e'⟩
    · exact absurd (hk.trans hk'.symm) hne
    · have := b.lo k' x' (h'.resolve_right hk') e'
      simp only at this; omega
    · have := b.lo k x (h.resolve_right hk) e
      simp only at this; omega
    · exact b.ne k k' x x' (h.resolve_right hk) (h'.resolve_right hk') hne e e'
  · have h1 : k ≠ k0 := fun e => h (.inr e)
    show (s.2.1.set k0 s.1.length)[k]? = _
    rw [List.getElem?_set_ne (fun e => h1 e.symm)]
    exact b.un k fun e => h (.inl e)
theorem BI.ends {c : Nat} {en0 : List Nat} {way : Nat} : ∀ (l : List Nat) {S : Nat → Prop} {s : List Cell × List Nat × Nat}, BI c en0 S (s.1, s.2.1) → BI c en0 (fun k => S k ∨ k ∈ l) ((bEnds way s l).1, (bEnds way s l).2.1)
  | [], S, s, b => b.iff fun k => by simp
  | k0 :: l, S, s, b => (BI.ends l (b.step (k0 := k0) (way := way))).iff fun k => by simp [or_assoc]
theorem BI.sides {c : Nat} {es : List Ed} {v : Nat} {s : List Cell × List Nat} {en0 : List Nat} (b : BI c en0 (fun _ => False) s) : ∀ n, BI c en0 (fun k => ∃ d, d < n ∧ k ∈ on es v d) (bSides es v c s n)
  | 0 => b.iff fun k => by simp
  | n + 1 => by
    have ih := BI.sides (es := es) (v := v) b n
    have e : bSides es v c s (n + 1) = bSide es v c (bSides es v c s n) n := range_foldl _ _ _
    rw [e]
    have k := BI.ends (way := wayP n) (on es v n) (s := ((bSides es v c s n).1, (bSides es v c s n).2, fromP c n)) ih
    refine (k.len (cs' := (bSide es v c (bSides es v c s n) n).1) (by simp [bSide, join_len])).iff fun k => ?_
    constructor
    · rintro (⟨d, hd, hm⟩ | hm)
      · exact ⟨d, by omega, hm⟩
      · exact ⟨n, by omega, hm⟩
    · rintro ⟨d, hd, hm⟩
      by_cases hdn : d < n
      · exact .inl ⟨d, hdn, hm⟩
      · have : d = n := by omega
        subst this; exact .inr hm
theorem pEnds_at (c : Nat) : ∀ (l en : List Nat) (k : Nat), (k ∈ l → ∀ x, (pEnds c en l)[k]? = some x → x = c) ∧ (k ∉ l → (pEnds c en l)[k]? = en[k]?)
  | [], en, k => ⟨fun h => (by cases h), fun _ => rfl⟩
  | k0 :: l, en, k => by
    have ih := pEnds_at c l (en.set k0 c) k
    refine ⟨fun h x hx => ?_, fun h => ?_⟩
    · by_cases hl : k ∈ l
      · exact ih.1 hl x hx
      · have hk : k = k0 := (List.mem_cons.1 h).resolve_right hl
        subst hk
        have e := ih.2 hl
        have hx : (pEnds c (en.set k c) l)[k]? = some x := hx
        rw [e, List.getElem?_set] at hx
        rw [if_pos rfl] at hx
        split at hx
        · simp only [Option.some.injEq] at hx; exact hx.symm
        · cases hx
    · have h1 : k ≠ k0 := fun e => h (by simp [e])
      have h2 : k ∉ l := fun e => h (List.mem_cons_of_mem _ e)
      have := ih.2 h2
      rw [List.getElem?_set_ne (fun e => h1 e.symm)] at this
      exact this
theorem pSides_at (es : List Ed) (v c : Nat) (en : List Nat) (k : Nat) : ∀ n, ((∃ d, d < n ∧ k ∈ on es v d) → ∀ x, (pSides es v c en n)[k]? = some x → x = c) ∧ ((¬ ∃ d, d < n ∧ k ∈ on es v d) → (pSides es v c en n)[k]? = en[k]?)
  | 0 => ⟨fun ⟨d, hd, _⟩ => by omega, fun _ => rfl⟩
  | n + 1 => by
    have ih := pSides_at es v c en k n
    have e : pSides es v c en (n + 1) = pEnds c (pSides es v c en n) (on es v n) := range_foldl _ _ _
    rw [e]
    have q := pEnds_at c (on es v n) (pSides es v c en n) k
    refine ⟨fun ⟨d, hd, hm⟩ x hx => ?_, fun h => ?_⟩
    · by_cases hn : k ∈ on es v n
      · exact q.1 hn x hx
      · rw [q.2 hn] at hx
        refine ih.1 ⟨d, ?_, hm⟩ x hx
        by_cases hdn : d = n
        · subst hdn; exact absurd hm hn
        · omega
    · have h1 : k ∉ on es v n := fun hm => h ⟨n, by omega, hm⟩
      rw [q.2 h1]
      exact ih.2 fun ⟨d, hd, hm⟩ => h ⟨d, by omega, hm⟩
theorem vtx_ge (bx : List Bool) (es : List Ed) (s : List Cell × List Nat) (v : Nat) : s.1.length < (vtx bx es s v).1.length := by
  unfold vtx
  split
  · have b : BI (s.1.length + 4) s.2 (fun _ => False) (s.1 ++ List.replicate 4 Cell.empty, s.2) := ⟨fun _ _ h => h.elim, fun _ _ _ _ h => h.elim, fun _ _ => rfl, by simp⟩
    have key : ∀ n, s.1.length + 4 ≤ (bSides es v s.1.length (s.1 ++ List.replicate 4 Cell.empty, s.2) n).1.length := by
      intro n
      induction n with
      | zero => simp [bSides]
      | succ n ih =>
        have e : bSides es v s.1.length (s.1 ++ List.replicate 4 Cell.empty, s.2) (n + 1) = bSide es v s.1.length (bSides es v s.1.length (s.1 ++ List.replicate 4 Cell.empty, s.2) n) n := range_foldl _ _ _
        rw [e]
        have k := bEnds_len (wayP n) (on es v n) ((bSides es v s.1.length (s.1 ++ List.replicate 4 Cell.empty, s.2) n).1, (bSides es v s.1.length (s.1 ++ List.replicate 4 Cell.empty, s.2) n).2, fromP s.1.length n)
        simp only [bSide, join_len]
        rw [k.1]; simp only; omega
    have := key 4
    unfold box; omega
  · simp [point]
theorem verts_mono (bx : List Bool) (es : List Ed) {v : Nat} : ∀ {n}, v ≤ n → (verts bx es v).1.length ≤ (verts bx es n).1.length
  | 0, hv => by have : v = 0 := by omega
                subst this; exact Nat.le_refl _
  | n + 1, hv => by
    by_cases hn : v = n + 1
    · subst hn; exact Nat.le_refl _
    · have ih := verts_mono bx es (v := v) (n := n) (by omega)
      have := vtx_ge bx es (verts bx es n) n
      rw [verts_succ]; omega
structure VI (bx : List Bool) (es : List Ed) (v : Nat) (en : List Nat) : Prop where
  lo : ∀ k x, own es v k → en[k]? = some x → (verts bx es v).1.length ≤ x ∧ x < (verts bx es (v + 1)).1.length
  pt : bx.getD v false = false → ∀ k x, own es v k → en[k]? = some x → x = (verts bx es v).1.length
  ne : bx.getD v false = true → ∀ k k' x x', own es v k → own es v k' → k ≠ k' → en[k]? = some x → en[k']? = some x' → x ≠ x'
theorem verts_inv (bx : List Bool) (es : List Ed) : ∀ n v, v < n → VI bx es v (verts bx es n).2
  | 0, v, hv => by omega
  | n + 1, v, hv => by
    have un : ∀ k, ¬ own es n k → (verts bx es (n + 1)).2[k]? = (verts bx es n).2[k]? := fun k hk => by
      rw [verts_succ]; unfold vtx
      split
      · have b : BI (verts bx es n).1.length (verts bx es n).2 (fun _ => False) ((verts bx es n).1 ++ List.replicate 4 Cell.empty, (verts bx es n).2) := ⟨fun _ _ h => h.elim, fun _ _ _ _ h => h.elim, fun _ _ => rfl, by simp⟩
        exact (b.sides (es := es) (v := n) 4).un k hk
      · exact (pSides_at es n _ _ k 4).2 hk
    by_cases hvn : v = n
    · subst hvn
      have el := vtx_ge bx es (verts bx es v) v
      cases hb : bx.getD v false with
      | true =>
        have b : BI (verts bx es v).1.length (verts bx es v).2 (fun _ => False) ((verts bx es v).1 ++ List.replicate 4 Cell.empty, (verts bx es v).2) := ⟨fun _ _ h => h.elim, fun _ _ _ _ h => h.elim, fun _ _ => rfl, by simp⟩
        have q := b.sides (es := es) (v := v) 4
        have e : verts bx es (v + 1) = bSides es v (verts bx es v).1.length ((verts bx es v).1 ++ List.replicate 4 Cell.empty, (verts bx es v).2) 4 := by
          rw [verts_succ, vtx, hb, if_pos rfl]; rfl
        rw [← e] at q
        exact ⟨fun k x hk hx => q.lo k x hk hx, fun h => (by rw [hb] at h; cases h), fun _ k k' x x' hk hk' => q.ne k k' x x' hk hk'⟩
      | false =>
        have e : verts bx es (v + 1) = point es v (verts bx es v) := by rw [verts_succ, vtx, hb, if_neg (by decide)]
        have pt : ∀ k x, own es v k → (verts bx es (v + 1)).2[k]? = some x → x = (verts bx es v).1.length := fun k x hk hx => by
          rw [e] at hx
          exact (pSides_at es v _ _ k 4).1 hk x hx
        refine ⟨fun k x hk hx => ?_, fun _ => pt, fun h => (by rw [hb] at h; cases h)⟩
        have := pt k x hk hx
        rw [verts_succ] at *
        omega
    · have ih := verts_inv bx es n v (by omega)
      have same : ∀ k, own es v k → (verts bx es (n + 1)).2[k]? = (verts bx es n).2[k]? := fun k hk => un k fun hk2 => hvn (own_inj hk hk2)
      exact ⟨fun k x hk hx => ih.lo k x hk (by rw [← same k hk]; exact hx), fun h k x hk hx => ih.pt h k x hk (by rw [← same k hk]; exact hx), fun h k k' x x' hk hk' hne hx hx' => ih.ne h k k' x x' hk hk' hne (by rw [← same k hk]; exact hx) (by rw [← same k' hk']; exact hx')⟩
theorem bends_at (i : Nat) : ∀ (b : List Bool) (s : List Cell × Nat × Nat × List Nat), b ≠ [] → s.1.length ≤ (bends i s b).2.1
  | [], s, hb => absurd rfl hb
  | [y], s, _ => Nat.le_refl _
  | y :: z :: b, s, _ => by
    have := bends_at i (z :: b) (bend i s y) (by simp)
    have hl : (bend i s y).1.length = s.1.length + 1 := by simp [bend, join_len]
    have e : bends i s (y :: z :: b) = bends i (bend i s y) (z :: b) := rfl
    rw [e]; omega
theorem edges_ge {en : List Nat} {cs : List Cell} {es : List Ed} : ∀ i, cs.length ≤ (edges en cs (es.take i)).1.length
  | 0 => by simp [edges]
  | i + 1 => by
    have ih := edges_ge (en := en) (cs := cs) (es := es) i
    by_cases hi : i < es.length
    · obtain ⟨e, he⟩ : ∃ x, es[i]? = some x := ⟨_, List.getElem?_eq_getElem hi⟩
      rw [edges_take he]
      have k := bends_len i e.b ((edges en cs (es.take i)).1, en.getD (2 * i) 0, e.d, [en.getD (2 * i) 0])
      simp only [edge, edge0, join_len]
      rw [k.1]; simp only; omega
    · rw [List.take_of_length_le (by omega)] at ih ⊢; exact ih
theorem bad_iff {bx : List Bool} {es : List Ed} (ok : ∀ e ∈ es, e.Ok bx.length) {i : Nat} {x : Ed} (hx : es[i]? = some x) : bad bx es i x ↔ turned bx x := by
  have ek := ok x (List.mem_of_getElem? hx)
  have hi : i < es.length := (List.getElem?_eq_some_iff.1 hx).1
  have hlen := (verts_len bx es bx.length).2
  have hm := on_mem hx
  have of : own es x.f (2 * i) := ⟨x.d, ek.d, hm.1⟩
  have ot : own es x.t (2 * i + 1) := ⟨x.side, x.side_lt, hm.2⟩
  have I1 := verts_inv bx es bx.length x.f ek.f
  have I2 := verts_inv bx es bx.length x.t ek.t
  have s1 : (verts bx es bx.length).2[2 * i]? = some ((verts bx es bx.length).2.getD (2 * i) 0) := by
    rw [List.getD_eq_getElem?_getD, List.getElem?_eq_getElem (by omega)]; rfl
  have s2 : (verts bx es bx.length).2[2 * i + 1]? = some ((verts bx es bx.length).2.getD (2 * i + 1) 0) := by
    rw [List.getD_eq_getElem?_getD, List.getElem?_eq_getElem (by omega)]; rfl
  have l1 := I1.lo _ _ of s1
  have l2 := I2.lo _ _ ot s2
  have mt := verts_mono bx es (v := x.t + 1) (n := bx.length) (by have := ek.t; omega)
  unfold bad turned
  by_cases hb : x.b = []
  · have e0 : (edge0 (verts bx es bx.length).2 x i (edges (verts bx es bx.length).2 (verts bx es bx.length).1 (es.take i)).1).2.1 = (verts bx es bx.length).2.getD (2 * i) 0 := by
      simp [edge0, bends, hb]
    rw [e0]
    constructor
    · intro e
      have hft : x.f = x.t := by
        rcases Nat.lt_trichotomy x.f x.t with h | h | h
        · have := verts_mono bx es (v := x.f + 1) (n := x.t) (by omega); omega
        · exact h
        · have := verts_mono bx es (v := x.t + 1) (n := x.f) (by omega); omega
      refine ⟨hft, hb, ?_⟩
      cases hbx : bx.getD x.f false with
      | false => rfl
      | true => exact absurd e (I1.ne hbx _ _ _ _ of (by rw [hft]; exact ot) (by omega) s1 s2)
    · rintro ⟨hft, _, hbx⟩
      have e1 := I1.pt hbx _ _ of s1
      have e2 := I1.pt hbx _ _ (by rw [hft]; exact ot) s2
      rw [e1, e2]
  · constructor
    · intro e
      have := bends_at i x.b ((edges (verts bx es bx.length).2 (verts bx es bx.length).1 (es.take i)).1, (verts bx es bx.length).2.getD (2 * i) 0, x.d, [(verts bx es bx.length).2.getD (2 * i) 0]) hb
      have ge := edges_ge (en := (verts bx es bx.length).2) (cs := (verts bx es bx.length).1) (es := es) i
      simp only [edge0] at e
      simp only at this
      omega
    · intro h; exact absurd h.2.1 hb
end Go.Shape
end

section
/-
  Raw shapes; the ways' lengths.
-/
namespace Go.Proofs.YtimadnngfhbfiaaDoor
open Go Go.Mu Go.Shape
variable {h h0 : H}
set_option maxHeartbeats 2000000

/-- A raw shape in the heap. -/
structure RawIn (h : H) (z0 z1 z2 : Sl) : Prop where
  in' : ∃ (zb : List Bool) (ze : List (Nat × Nat × Nat)) (zc : List Nat), Rd h z0 1 encB zb ∧ Rd h z1 3 enc3 ze ∧ Rd h z2 1 encU zc ∧ (∀ x ∈ ze, x.1 < 256 ∧ x.2.1 < 256 ∧ x.2.2 < 256) ∧ (∀ x ∈ zc, x < 256)
theorem two_shp {p0 p1 : Sl} {bx : List Bool} {es : List Ed} (st : St h0 h (two p0 p1 bx es)) (h1 : bx.length ≤ 8) (h2 : es.length ≤ 16) (ok : ∀ e ∈ es, e.Ok bx.length) : Shp h p0 p1 bx es :=
  ⟨st.arr (enc := encB) false rfl (fun _ _ => rfl) (by decide), st.arr (enc := Ed.enc) true rfl (fun _ _ => rfl) (by decide), h1, h2, ok⟩
theorem turned_iff {bx : List Bool} {es : List Ed} (ok : ∀ e ∈ es, e.Ok bx.length) : (∃ i x, es[i]? = some x ∧ bad bx es i x) ↔ ∃ e ∈ es, turned bx e := by
  constructor
  · rintro ⟨i, x, hx, hb⟩
    exact ⟨x, List.mem_of_getElem? hx, (bad_iff ok hx).1 hb⟩
  · rintro ⟨e, he, ht⟩
    obtain ⟨i, hi⟩ := List.getElem?_of_mem he
    exact ⟨i, e, hi, (bad_iff ok hi).2 ht⟩

theorem edges_ways {en : List Nat} {cs : List Cell} {es : List Ed} {n : Nat} (ok : ∀ e ∈ es, e.Ok n) : ∀ i, ∀ w ∈ (edges en cs (es.take i)).2, w.length ≤ 5
  | 0 => by simp [edges]
  | i + 1 => by
    have ih := edges_ways (en := en) (cs := cs) ok i
    by_cases hi : i < es.length
    · obtain ⟨e, he⟩ : ∃ x, es[i]? = some x := ⟨_, List.getElem?_eq_getElem hi⟩
      have hb := (ok e (List.mem_of_getElem? he)).b
      rw [edges_take he]
      intro w hw
      have k := bends_len i e.b ((edges en cs (es.take i)).1, en.getD (2 * i) 0, e.d, [en.getD (2 * i) 0])
      simp only [edge, edge0, List.mem_append, List.mem_singleton] at hw
      rcases hw with hw | hw
      · exact ih w hw
      · rw [hw, List.length_append, k.2]; simp only [List.length_cons, List.length_nil]; omega
    · have h1 : es.take (i + 1) = es.take i := by rw [List.take_of_length_le (by omega), List.take_of_length_le (by omega)]
      rw [h1]; exact ih
end Go.Proofs.YtimadnngfhbfiaaDoor
end
