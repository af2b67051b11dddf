/-
  PROVED HERE: 'muntinlaw11.NormCells' answers true whatever the raw shape, and what was handed in reads as it did. Conditions: the package variables that the row lists hold what the program's text lays.
  Part 3 of 5.
-/
import Derived.Test.YtimadnngfhbfiaaDoorNcB
import Derived.Test.YtimadnngfhbfiaaDoorProg

section
/-
  The plain law of NormCells: vertices' cells before any edge is laid.
-/
namespace Go.Shape
open Go Go.Mu
/-- What ends on a box's side leave alone. -/
structure BP (L0 f way : Nat) (cs0 : List Cell) (s : List Cell × List Nat × Nat) : Prop where
  ge : L0 ≤ s.1.length
  at_ : s.2.2 = f ∨ (L0 ≤ s.2.2 ∧ s.2.2 < s.1.length)
  old : ∀ u e, u < L0 → e < 4 → ¬ (u = f ∧ e = way) → nx s.1 u e = nx cs0 u e
  new : ∀ u e, L0 ≤ u → e < 4 → e ≠ way → e ≠ opp way → nx s.1 u e = -1
theorem BP.step {L0 f way : Nat} {cs0 : List Cell} {s : List Cell × List Nat × Nat} (b : BP L0 f way cs0 s) (hw : way < 4) (k : Nat) : BP L0 f way cs0 (bEnd way s k) := by
  have ge := b.ge
  have hl : (bEnd way s k).1.length = s.1.length + 1 := by simp [bEnd, join_len]
  refine ⟨by omega, .inr ⟨ge, by rw [hl]; exact Nat.lt_succ_self _⟩, fun u e hu he hn => ?_, fun u e hu he h1 h2 => ?_⟩
  · show nx (join (s.1 ++ [Cell.empty]) s.2.2 way s.1.length (-1)) u e = _
    rw [nx_join_other hw he (fun q => ?_) (fun q => by omega), nx_snoc]
    · exact b.old u e hu he hn
    · rcases b.at_ with h | h
      · exact hn ⟨by rw [q.1, h], q.2⟩
      · omega
  · show nx (join (s.1 ++ [Cell.empty]) s.2.2 way s.1.length (-1)) u e = _
    rw [nx_join_other hw he (fun q => h1 q.2) (fun q => h2 q.2), nx_snoc]
    exact b.new u e hu he h1 h2
theorem BP.ends {L0 f way : Nat} {cs0 : List Cell} (hw : way < 4) : ∀ (l : List Nat) {s : List Cell × List Nat × Nat}, BP L0 f way cs0 s → BP L0 f way cs0 (bEnds way s l)
  | [], _, b => b
  | k :: l, _, b => BP.ends hw l (b.step hw k)
theorem bEnds_keep {way u e : Nat} (hw : way < 4) (he : e < 4) : ∀ (l : List Nat) {s : List Cell × List Nat × Nat}, nx s.1 u e ≠ -1 → nx (bEnds way s l).1 u e ≠ -1
  | [], _, h => h
  | k :: l, s, h => bEnds_keep hw he l (s := bEnd way s k) (by
      show nx (join (s.1 ++ [Cell.empty]) s.2.2 way s.1.length (-1)) u e ≠ -1
      rw [nx_join_keep hw he (by rw [nx_snoc]; exact h), nx_snoc]; exact h)
theorem fromP_ge (c d : Nat) : c ≤ fromP c d ∧ fromP c d < c + 4 := by unfold fromP; split <;> omega
theorem toP_ge (c d : Nat) : c ≤ toP c d ∧ toP c d < c + 4 := by unfold toP; split <;> omega
theorem way_d {d : Nat} (hd : d < 4) : d ≠ wayP d ∧ d ≠ opp (wayP d) := by
  rcases four hd with rfl | rfl | rfl | rfl <;> decide
theorem BP.start {c d : Nat} {s : List Cell × List Nat} (hc : c + 4 ≤ s.1.length) : BP s.1.length (fromP c d) (wayP d) s.1 (s.1, s.2, fromP c d) :=
  ⟨Nat.le_refl _, .inl rfl, fun _ _ _ _ _ => rfl, fun _ _ hu _ _ _ => nx_out hu⟩
/-- What a side leaves alone, and what it joins. -/
theorem bSide_old {es : List Ed} {v c d u e : Nat} {s : List Cell × List Nat} (hd : d < 4) (hc : c + 4 ≤ s.1.length) (hu : u < s.1.length) (he : e < 4) (h1 : ¬ (u = fromP c d ∧ e = wayP d)) (h2 : ¬ (u = toP c d ∧ e = opp (wayP d))) :
    nx (bSide es v c s d).1 u e = nx s.1 u e := by
  have b := BP.ends (wayP_lt d) (on es v d) (BP.start (c := c) (d := d) hc)
  show nx (join _ _ (wayP d) (toP c d) (-1)) u e = _
  rw [nx_join_other (wayP_lt d) he (fun q => ?_) h2]
  · exact b.old u e hu he h1
  · rcases b.at_ with h | h
    · exact h1 ⟨by rw [q.1, h], q.2⟩
    · omega
theorem bSide_yes {es : List Ed} {v c d : Nat} {s : List Cell × List Nat} (hc : c + 4 ≤ s.1.length) (hft : fromP c d ≠ toP c d) (f1 : nx s.1 (fromP c d) (wayP d) = -1) (f2 : nx s.1 (toP c d) (opp (wayP d)) = -1) :
    nx (bSide es v c s d).1 (fromP c d) (wayP d) ≠ -1 := by
  have hw := wayP_lt d
  have hf := fromP_ge c d
  have ht := toP_ge c d
  show nx (join _ _ (wayP d) (toP c d) (-1)) _ _ ≠ _
  cases on es v d with
  | nil =>
    show nx (join s.1 (fromP c d) (wayP d) (toP c d) (-1)) _ _ ≠ _
    rw [join_yes hft (by omega) (by omega) f1 f2, nx_laid hft hw hw (by omega) (by omega), if_neg (fun q => hft q.1), if_pos ⟨rfl, rfl⟩]
    omega
  | cons k l =>
    have h1 : nx (bEnd (wayP d) (s.1, s.2, fromP c d) k).1 (fromP c d) (wayP d) ≠ -1 := by
      show nx (join (s.1 ++ [Cell.empty]) (fromP c d) (wayP d) s.1.length (-1)) _ _ ≠ _
      have hne : fromP c d ≠ s.1.length := by omega
      rw [join_yes hne (by simp; omega) (by simp) (by rw [nx_snoc]; exact f1) (by rw [nx_snoc]; exact nx_out (Nat.le_refl _)), nx_laid hne hw hw (by simp; omega) (by simp), if_neg (fun q => hne q.1), if_pos ⟨rfl, rfl⟩]
      omega
    have h2 := bEnds_keep hw hw l h1
    have h3 : nx (bEnds (wayP d) (s.1, s.2, fromP c d) (k :: l)).1 (fromP c d) (wayP d) ≠ -1 := h2
    rw [nx_join_keep hw hw h3]; exact h3
theorem bSide_len (es : List Ed) (v c d : Nat) (s : List Cell × List Nat) : s.1.length ≤ (bSide es v c s d).1.length := by
  have k := bEnds_len (wayP d) (on es v d) (s.1, s.2, fromP c d)
  simp only [bSide, join_len]; rw [k.1]; simp only; omega
theorem on_disj {es : List Ed} {v d d' k : Nat} (h : k ∈ on es v d) (h' : k ∈ on es v d') : d = d' := by
  obtain ⟨i, e, he, q⟩ := mem_on h
  obtain ⟨i', e', he', q'⟩ := mem_on h'
  have hi : i = i' := by omega
  subst hi
  rw [he] at he'; cases he'
  omega
/-- Sides so far: the ends' cells lie open to the outside. -/
structure BS (es : List Ed) (v c n : Nat) (s : List Cell × List Nat) : Prop where
  ge : c + 4 ≤ s.1.length
  port : ∀ d k x, d < n → k ∈ on es v d → s.2[k]? = some x → c + 4 ≤ x ∧ x < s.1.length ∧ nx s.1 x d = -1
theorem BS.step {es : List Ed} {v c n : Nat} {s : List Cell × List Nat} (b : BS es v c n s) (hn : n < 4) : BS es v c (n + 1) (bSide es v c s n) := by
  have ge := b.ge
  have hl := bSide_len es v c n s
  have bi : BI s.1.length s.2 (fun _ => False) (s.1, s.2) := ⟨fun _ _ h => h.elim, fun _ _ _ _ h => h.elim, fun _ _ => rfl, Nat.le_refl _⟩
  have q := BI.ends (way := wayP n) (on es v n) (s := (s.1, s.2, fromP c n)) bi
  have p := BP.ends (wayP_lt n) (on es v n) (BP.start (c := c) (d := n) ge)
  have hfl : (bSide es v c s n).1.length = (bEnds (wayP n) (s.1, s.2, fromP c n) (on es v n)).1.length := by simp [bSide, join_len]
  refine ⟨by omega, fun d k x hd hk hx => ?_⟩
  by_cases hdn : d = n
  · subst hdn
    have h1 := q.lo k x (.inr hk) hx
    simp only at h1
    refine ⟨by omega, by omega, ?_⟩
    show nx (join _ _ (wayP d) (toP c d) (-1)) x d = _
    have hw := way_d hn
    rw [nx_join_other (wayP_lt d) hn (fun q => hw.1 q.2) (fun q => hw.2 q.2)]
    exact p.new x d h1.1 hn hw.1 hw.2
  · have hk2 : ¬ (False ∨ k ∈ on es v n) := fun h => hdn (on_disj hk (h.resolve_left id))
    have hx2 : s.2[k]? = some x := by rw [← q.un k hk2]; exact hx
    have h1 := b.port d k x (by omega) hk hx2
    have hf := fromP_ge c n
    have ht := toP_ge c n
    refine ⟨h1.1, by omega, ?_⟩
    rw [bSide_old hn ge h1.2.1 (by omega) (fun q => by omega) (fun q => by omega)]
    exact h1.2.2
theorem BS.sides {es : List Ed} {v c : Nat} {s : List Cell × List Nat} (hc : c + 4 ≤ s.1.length) : ∀ n, n ≤ 4 → BS es v c n (bSides es v c s n)
  | 0, _ => ⟨hc, fun d k x hd => by omega⟩
  | n + 1, hn => by
    have e : bSides es v c s (n + 1) = bSide es v c (bSides es v c s n) n := range_foldl _ _ _
    rw [e]; exact (BS.sides hc n (by omega)).step (by omega)
theorem bSides_old {es : List Ed} {v c u e : Nat} {s : List Cell × List Nat} (hc : c + 4 ≤ s.1.length) (hu : u < c) (he : e < 4) : ∀ n, n ≤ 4 → nx (bSides es v c s n).1 u e = nx s.1 u e
  | 0, _ => rfl
  | n + 1, hn => by
    have e1 : bSides es v c s (n + 1) = bSide es v c (bSides es v c s n) n := range_foldl _ _ _
    have b := (BS.sides (es := es) (v := v) hc n (by omega)).ge
    have hf := fromP_ge c n
    have ht := toP_ge c n
    rw [e1, bSide_old (by omega) b (by omega) he (fun q => by omega) (fun q => by omega)]
    exact bSides_old hc hu he n (by omega)
theorem one_yes {x : Int} (h : x ≠ -1) : one x = 1 := if_neg h
/-- A box's first corner has two neighbours. -/
theorem box_deg (es : List Ed) (v : Nat) (s : List Cell × List Nat) : deg (box es v s).1 s.1.length = 2 := by
  generalize hc : s.1.length = c
  have h0 : ∀ i e, i < 4 → nx (s.1 ++ List.replicate 4 Cell.empty) (c + i) e = -1 := fun i e _ => by rw [nx_snocs]; exact nx_out (by omega)
  have g0 : c + 4 ≤ (s.1 ++ List.replicate 4 Cell.empty).length := by simp; omega
  have eb : box es v s = bSide es v c (bSide es v c (bSide es v c (bSide es v c (s.1 ++ List.replicate 4 Cell.empty, s.2) 0) 1) 2) 3 := by
    unfold box bSides; rw [hc]; rfl
  rw [eb]
  generalize hs0 : (s.1 ++ List.replicate 4 Cell.empty, s.2) = s0
  have g0' : c + 4 ≤ s0.1.length := by rw [← hs0]; exact g0
  have h0' : ∀ i e, i < 4 → nx s0.1 (c + i) e = -1 := by rw [← hs0]; exact h0
  generalize hs1 : bSide es v c s0 0 = s1
  have g1 : c + 4 ≤ s1.1.length := by rw [← hs1]; exact Nat.le_trans g0' (bSide_len _ _ _ _ _)
  have o1 : ∀ u e, u < c + 4 → e < 4 → ¬ (u = c + 1 ∧ e = 1) → ¬ (u = c + 2 ∧ e = 3) → nx s1.1 u e = nx s0.1 u e := fun u e hu he a1 a2 => by
    rw [← hs1]; exact bSide_old (by decide) g0' (by omega) he a1 a2
  generalize hs2 : bSide es v c s1 1 = s2
  have g2 : c + 4 ≤ s2.1.length := by rw [← hs2]; exact Nat.le_trans g1 (bSide_len _ _ _ _ _)
  have o2 : ∀ u e, u < c + 4 → e < 4 → ¬ (u = c + 3 ∧ e = 0) → ¬ (u = c + 2 ∧ e = 2) → nx s2.1 u e = nx s1.1 u e := fun u e hu he a1 a2 => by
    rw [← hs2]; exact bSide_old (by decide) g1 (by omega) he a1 a2
  generalize hs3 : bSide es v c s2 2 = s3
  have g3 : c + 4 ≤ s3.1.length := by rw [← hs3]; exact Nat.le_trans g2 (bSide_len _ _ _ _ _)
  have o3 : ∀ u e, u < c + 4 → e < 4 → ¬ (u = c ∧ e = 1) → ¬ (u = c + 3 ∧ e = 3) → nx s3.1 u e = nx s2.1 u e := fun u e hu he a1 a2 => by
    rw [← hs3]; exact bSide_old (by decide) g2 (by omega) he a1 a2
  have o4 : ∀ u e, u < c + 4 → e < 4 → ¬ (u = c ∧ e = 0) → ¬ (u = c + 1 ∧ e = 2) → nx (bSide es v c s3 3).1 u e = nx s3.1 u e := fun u e hu he a1 a2 =>
    bSide_old (by decide) g3 (by omega) he a1 a2
  have c2 : ∀ e, e < 4 → nx s2.1 c e = -1 := fun e he => by
    rw [o2 c e (by omega) he (by omega) (by omega), o1 c e (by omega) he (by omega) (by omega)]; exact h0' 0 e (by decide)
  have c3 : nx s2.1 (c + 3) 3 = -1 := by
    rw [o2 (c + 3) 3 (by omega) (by omega) (by omega) (by omega), o1 (c + 3) 3 (by omega) (by omega) (by omega) (by omega)]; exact h0' 3 3 (by decide)
  have c1 : nx s3.1 (c + 1) 2 = -1 := by
    rw [o3 (c + 1) 2 (by omega) (by omega) (by omega) (by omega), o2 (c + 1) 2 (by omega) (by omega) (by omega) (by omega), o1 (c + 1) 2 (by omega) (by omega) (by omega) (by omega)]; exact h0' 1 2 (by decide)
  have y3 : nx s3.1 c 1 ≠ -1 := by
    rw [← hs3]; exact bSide_yes (d := 2) g2 (by show c ≠ c + 3; omega) (c2 1 (by decide)) c3
  have y4 : nx (bSide es v c s3 3).1 c 0 ≠ -1 :=
    bSide_yes (d := 3) g3 (by show c ≠ c + 1; omega) (by show nx s3.1 c 0 = -1; rw [o3 c 0 (by omega) (by omega) (by omega) (by omega)]; exact c2 0 (by decide)) c1
  have z : ∀ e, e < 4 → e ≠ 0 → nx (bSide es v c s3 3).1 c e = nx s3.1 c e := fun e he h => o4 c e (by omega) he (by omega) (by omega)
  have z3 : ∀ e, e < 4 → e ≠ 1 → nx s3.1 c e = -1 := fun e he h => by rw [o3 c e (by omega) he (by omega) (by omega)]; exact c2 e he
  unfold deg
  rw [one_yes y4, z 1 (by decide) (by decide), one_yes y3, z 2 (by decide) (by decide), z 3 (by decide) (by decide), z3 2 (by decide) (by decide), z3 3 (by decide) (by decide)]
  rfl
theorem vtx_old {bx : List Bool} {es : List Ed} {s : List Cell × List Nat} {v u e : Nat} (hu : u < s.1.length) (he : e < 4) : nx (vtx bx es s v).1 u e = nx s.1 u e := by
  unfold vtx
  split
  · unfold box
    rw [bSides_old (by simp) hu he 4 (Nat.le_refl _)]
    exact nx_snocs
  · exact nx_snoc
/-- What new cells and cages keep. -/
structure Keeps (Q : List Cell → Prop) : Prop where
  nil : Q []
  snoc : ∀ cs, Q cs → Q (cs ++ [Cell.empty])
  join : ∀ cs v d w, d < 4 → Q cs → Q (join cs v d w (-1))
theorem Keeps.ends {Q : List Cell → Prop} (K : Keeps Q) {way : Nat} (hw : way < 4) : ∀ (l : List Nat) {s : List Cell × List Nat × Nat}, Q s.1 → Q (bEnds way s l).1
  | [], _, h => h
  | k :: l, s, h => Keeps.ends K hw l (s := bEnd way s k) (K.join _ _ _ _ hw (K.snoc _ h))
theorem Keeps.sides {Q : List Cell → Prop} (K : Keeps Q) {es : List Ed} {v c : Nat} {s : List Cell × List Nat} (h : Q s.1) : ∀ n, Q (bSides es v c s n).1
  | 0 => h
  | n + 1 => by
    have e : bSides es v c s (n + 1) = bSide es v c (bSides es v c s n) n := range_foldl _ _ _
    rw [e]
    exact K.join _ _ _ _ (wayP_lt n) (K.ends (wayP_lt n) _ (Keeps.sides K h n))
theorem Keeps.snocs {Q : List Cell → Prop} (K : Keeps Q) {cs : List Cell} (h : Q cs) : ∀ n, Q (cs ++ List.replicate n Cell.empty)
  | 0 => by simpa using h
  | n + 1 => by rw [List.replicate_succ', ← List.append_assoc]; exact K.snoc _ (Keeps.snocs K h n)
theorem Keeps.verts {Q : List Cell → Prop} (K : Keeps Q) (bx : List Bool) (es : List Ed) : ∀ n, Q (verts bx es n).1
  | 0 => K.nil
  | n + 1 => by
    rw [verts_succ]
    have ih := Keeps.verts K bx es n
    unfold vtx
    split
    · exact K.sides (K.snocs ih 4) 4
    · exact K.snoc _ ih
theorem good_verts (bx : List Bool) (es : List Ed) (n : Nat) : GoodC (verts bx es n).1 ∧ cnt (verts bx es n).1 = 0 :=
  Keeps.verts (Q := fun cs => GoodC cs ∧ cnt cs = 0) ⟨⟨GoodC.nil, rfl⟩, fun cs h => ⟨h.1.snoc, by rw [cnt_snoc]; exact h.2⟩, fun cs v d w hd h => ⟨h.1.join hd (by decide), by rw [cnt_join_neg hd]; exact h.2⟩⟩ bx es n
/-- Vertices so far. -/
structure VS (bx : List Bool) (es : List Ed) (n : Nat) : Prop where
  port : ∀ v d k x, v < n → d < 4 → k ∈ on es v d → (verts bx es n).2[k]? = some x → nx (verts bx es n).1 x d = -1
  pt : ∀ v e, v < n → bx.getD v false = false → e < 4 → nx (verts bx es n).1 (verts bx es v).1.length e = -1
  bx_ : ∀ v, v < n → bx.getD v false = true → deg (verts bx es n).1 (verts bx es v).1.length = 2
  far : ∀ v k x, v < n → bx.getD v false = true → own es v k → (verts bx es n).2[k]? = some x → (verts bx es v).1.length + 4 ≤ x
theorem verts_un (bx : List Bool) (es : List Ed) (n k : Nat) (hk : ¬ own es n k) : (verts bx es (n + 1)).2[k]? = (verts bx es n).2[k]? := by
  rw [verts_succ]; unfold vtx
  split
  · have b : BI (verts bx es n).1.length (verts bx es n).2 (fun _ => False) ((verts bx es n).1 ++ List.replicate 4 Cell.empty, (verts bx es n).2) := ⟨fun _ _ h => h.elim, fun _ _ _ _ h => h.elim, fun _ _ => rfl, by simp⟩
    exact (b.sides (es := es) (v := n) 4).un k hk
  · exact (pSides_at es n _ _ k 4).2 hk
theorem verts_vs (bx : List Bool) (es : List Ed) : ∀ n, VS bx es n
  | 0 => ⟨fun _ _ _ _ h => (by omega), fun _ _ h => (by omega), fun _ h => (by omega), fun _ _ _ h => (by omega)⟩
  | n + 1 => by
    have ih := verts_vs bx es n
    have lt : ∀ v, v < n → (verts bx es v).1.length < (verts bx es n).1.length := fun v hv => by
      have h1 := verts_mono bx es (v := v + 1) (n := n) (by omega)
      have h2 := vtx_ge bx es (verts bx es v) v
      rw [← verts_succ] at h2; omega
    have old : ∀ u e, u < (verts bx es n).1.length → e < 4 → nx (verts bx es (n + 1)).1 u e = nx (verts bx es n).1 u e := fun u e hu he => by
      rw [verts_succ]; exact vtx_old hu he
    have g4 : (verts bx es n).1.length + 4 ≤ ((verts bx es n).1 ++ List.replicate 4 Cell.empty, (verts bx es n).2).1.length := by simp
    have B := BS.sides (es := es) (v := n) (c := (verts bx es n).1.length) (s := ((verts bx es n).1 ++ List.replicate 4 Cell.empty, (verts bx es n).2)) g4 4 (Nat.le_refl _)
    have eB : bx.getD n false = true → verts bx es (n + 1) = bSides es n (verts bx es n).1.length ((verts bx es n).1 ++ List.replicate 4 Cell.empty, (verts bx es n).2) 4 := fun hb => by
      rw [verts_succ, vtx, hb, if_pos rfl]; rfl
    have eP : bx.getD n false = false → verts bx es (n + 1) = point es n (verts bx es n) := fun hb => by
      rw [verts_succ, vtx, hb, if_neg (by decide)]
    refine ⟨fun v d k x hv hd hk hx => ?_, fun v e hv hb he => ?_, fun v hv hb => ?_, fun v k x hv hb hk hx => ?_⟩
    · by_cases hvn : v = n
      · subst hvn
        cases hb : bx.getD v false with
        | true => rw [eB hb] at hx ⊢; exact (B.port d k x hd hk hx).2.2
        | false =>
          have := (verts_inv bx es (v + 1) v (Nat.lt_succ_self v)).pt hb k x ⟨d, hd, hk⟩ hx
          rw [this, eP hb]
          show nx ((verts bx es v).1 ++ [Cell.empty]) _ _ = _
          rw [nx_snoc]; exact nx_out (Nat.le_refl _)
      · have ho : own es v k := ⟨d, hd, hk⟩
        have hx2 : (verts bx es n).2[k]? = some x := by rw [← verts_un bx es n k fun h => hvn (own_inj ho h)]; exact hx
        have h1 := (verts_inv bx es n v (by omega)).lo k x ho hx2
        have h2 := verts_mono bx es (v := v + 1) (n := n) (by omega)
        rw [old x d (by omega) hd]
        exact ih.port v d k x (by omega) hd hk hx2
    · by_cases hvn : v = n
      · subst hvn
        rw [eP hb]
        show nx ((verts bx es v).1 ++ [Cell.empty]) _ _ = _
        rw [nx_snoc]; exact nx_out (Nat.le_refl _)
      · rw [old _ e (lt v (by omega)) he]; exact ih.pt v e (by omega) hb he
    · by_cases hvn : v = n
      · subst hvn
        have : verts bx es (v + 1) = box es v (verts bx es v) := by rw [verts_succ, vtx, hb, if_pos rfl]
        rw [this]; exact box_deg es v _
      · rw [deg_same fun e he => old _ e (lt v (by omega)) he]; exact ih.bx_ v (by omega) hb
    · by_cases hvn : v = n
      · subst hvn
        obtain ⟨d, hd, hm⟩ := hk
        rw [eB hb] at hx
        exact (B.port d k x hd hm hx).1
      · have hx2 : (verts bx es n).2[k]? = some x := by rw [← verts_un bx es n k fun h => hvn (own_inj hk h)]; exact hx
        exact ih.far v k x (by omega) hb hk hx2
end Go.Shape
end

section
/-
  The plain law of NormCells: edges laid among the vertices' cells.
-/
namespace Go.Shape
open Go Go.Mu
theorem turn_opp {d : Nat} (hd : d < 4) (y : Bool) : turn d y ≠ opp d := by
  rcases four hd with rfl | rfl | rfl | rfl <;> cases y <;> decide
/-- An edge under way: so many bends are laid. -/
structure BB (cs0 : List Cell) (at0 d0 m : Nat) (s : List Cell × Nat × Nat × List Nat) : Prop where
  len : s.1.length = cs0.length + m
  alt : s.2.1 < s.1.length
  dlt : s.2.2.1 < 4
  fr : nx s.1 s.2.1 s.2.2.1 = -1
  at_ : (s.2.1 = at0 ∧ s.2.2.1 = d0) ∨ cs0.length ≤ s.2.1
  old : ∀ u e, u < cs0.length → e < 4 → ¬ (u = at0 ∧ e = d0) → nx s.1 u e = nx cs0 u e
  dg : ∀ u, u < cs0.length → deg s.1 u + bi (u = s.2.1) = deg cs0 u + bi (u = at0)
  dn : ∀ u, cs0.length ≤ u → u < s.1.length → deg s.1 u + bi (u = s.2.1) = 2
  cn : cnt s.1 = cnt cs0 + 2 * m
  good : GoodC s.1
theorem BB.step {cs0 : List Cell} {at0 d0 m i : Nat} {s : List Cell × Nat × Nat × List Nat} (b : BB cs0 at0 d0 m s) (y : Bool) : BB cs0 at0 d0 (m + 1) (bend i s y) := by
  obtain ⟨len, alt, dlt, fr, at_, old, dg, dn, cn, good⟩ := b
  have hne : s.2.1 ≠ s.1.length := by omega
  have la : s.2.1 < (s.1 ++ [Cell.empty]).length := by simp; omega
  have lp : s.1.length < (s.1 ++ [Cell.empty]).length := by simp
  have f1 : nx (s.1 ++ [Cell.empty]) s.2.1 s.2.2.1 = -1 := by rw [nx_snoc]; exact fr
  have f2 : nx (s.1 ++ [Cell.empty]) s.1.length (opp s.2.2.1) = -1 := by rw [nx_snoc]; exact nx_out (Nat.le_refl _)
  have ej : (bend i s y).1 = laid (s.1 ++ [Cell.empty]) s.2.1 s.2.2.1 s.1.length i := join_yes hne la lp f1 f2
  have e1 : (bend i s y).2.1 = s.1.length := rfl
  have e2 : (bend i s y).2.2.1 = turn s.2.2.1 y := rfl
  have tl := turn_lt s.2.2.1 y
  have key := fun u e (he : e < 4) => nx_laid (cs := s.1 ++ [Cell.empty]) (u := u) (o := (i : Int)) hne dlt he la lp
  have kd := fun u => deg_laid (cs := s.1 ++ [Cell.empty]) (u := u) (o := (i : Int)) hne dlt la lp f1 f2
  have ll : (bend i s y).1.length = cs0.length + (m + 1) := by rw [ej, laid_len]; simp; omega
  refine ⟨ll, by omega, by rw [e2]; exact tl, ?_, .inr (by omega), fun u e hu he hn => ?_, fun u hu => ?_, fun u hu hu2 => ?_, ?_, ?_⟩
  · rw [e1, e2, ej, key _ _ tl, if_neg (fun q => turn_opp dlt y q.2), if_neg (fun q => hne q.1.symm), nx_snoc]
    exact nx_out (Nat.le_refl _)
  · rw [ej, key u e he, if_neg (fun q => by omega), if_neg (fun q => ?_), nx_snoc]
    · exact old u e hu he hn
    · rcases at_ with h | h
      · exact hn ⟨by rw [q.1, h.1], by rw [q.2, h.2]⟩
      · omega
  · have := dg u hu
    rw [e1, ej, kd u, deg_snoc]
    have h1 : ¬ u = s.1.length := by omega
    rw [bi_no h1]; omega
  · rw [e1, ej, kd u, deg_snoc]
    by_cases h1 : u = s.1.length
    · have h2 : ¬ u = s.2.1 := by omega
      rw [bi_no h2, bi_yes h1, deg_out (by omega)]
    · have := dn u hu (by rw [ll] at hu2; omega)
      rw [bi_no h1]; omega
  · rw [ej, cnt_laid hne dlt la lp f1 f2, cnt_snoc, cn, if_pos (by omega)]; omega
  · rw [show (bend i s y).1 = join (s.1 ++ [Cell.empty]) s.2.1 s.2.2.1 s.1.length i from rfl]
    exact good.snoc.join dlt (by omega)
theorem BB.bends {cs0 : List Cell} {at0 d0 i : Nat} : ∀ (l : List Bool) {m : Nat} {s : List Cell × Nat × Nat × List Nat}, BB cs0 at0 d0 m s → BB cs0 at0 d0 (m + l.length) (bends i s l)
  | [], _, _, b => b
  | y :: l, m, s, b => by
    have := BB.bends (i := i) l (b.step (i := i) y)
    rw [List.length_cons, show m + (l.length + 1) = m + 1 + l.length from by omega]; exact this
theorem bends_way (i : Nat) : ∀ (l : List Bool) (s : List Cell × Nat × Nat × List Nat), (bends i s l).2.2.2 = s.2.2.2 ++ List.range' s.1.length l.length
  | [], s => by simp [bends]
  | y :: l, s => by
    have e : bends i s (y :: l) = bends i (bend i s y) l := rfl
    have hl : (bend i s y).1.length = s.1.length + 1 := by simp [bend, join_len]
    rw [e, bends_way i l, hl, List.length_cons, List.range'_succ]
    show s.2.2.2 ++ [s.1.length] ++ _ = _
    rw [List.append_assoc]; rfl
/-- The side on which an end is. -/
def sd (es : List Ed) (k : Nat) : Nat := match es[k / 2]? with
  | some e => if k % 2 = 0 then e.d else e.side
  | none => 0
theorem sd0 {es : List Ed} {i : Nat} {e : Ed} (he : es[i]? = some e) : sd es (2 * i) = e.d ∧ sd es (2 * i + 1) = e.side := by
  have h1 : 2 * i / 2 = i := by omega
  have h2 : (2 * i + 1) / 2 = i := by omega
  have h3 : 2 * i % 2 = 0 := by omega
  have h4 : ¬ (2 * i + 1) % 2 = 0 := by omega
  unfold sd
  rw [h1, h2, he]; simp only
  rw [if_pos h3, if_neg h4]; exact ⟨rfl, rfl⟩
theorem sd_lt {es : List Ed} {n : Nat} (hok : ∀ e ∈ es, e.Ok n) (k : Nat) : sd es k < 4 := by
  cases hx : es[k / 2]? with
  | none => have e : sd es k = 0 := by simp [sd, hx]
            rw [e]; decide
  | some x =>
    have e : sd es k = if k % 2 = 0 then x.d else x.side := by simp [sd, hx]
    rw [e]
    split
    · exact (hok x (List.mem_of_getElem? hx)).d
    · exact x.side_lt
/-- Edges so far, laid among the cells cs0 of vertices. -/
structure EI (es : List Ed) (en : List Nat) (cs0 : List Cell) (i : Nat) (cs : List Cell) : Prop where
  ge : cs0.length ≤ cs.length
  good : GoodC cs
  cn : cnt cs = 2 * (i + ((es.take i).map fun e => e.b.length).sum)
  port : ∀ k, 2 * i ≤ k → k < 2 * es.length → nx cs (en.getD k 0) (sd es k) = -1
  dg : ∀ u, u < cs0.length → deg cs u = deg cs0 u + ((List.range i).map fun j => bi (u = en.getD (2 * j) 0) + bi (u = en.getD (2 * j + 1) 0)).sum
  dn : ∀ u, cs0.length ≤ u → u < cs.length → deg cs u = 2
theorem EI.step {es : List Ed} {en : List Nat} {cs0 cs : List Cell} {i n : Nat} {e : Ed} {ws : List (List Nat)} (I : EI es en cs0 i cs) (he : es[i]? = some e) (hok : ∀ e ∈ es, e.Ok n)
    (hen : ∀ k, k < 2 * es.length → en.getD k 0 < cs0.length) (hdist : ∀ k k', k < 2 * es.length → k' < 2 * es.length → k ≠ k' → ¬ (en.getD k 0 = en.getD k' 0 ∧ sd es k = sd es k'))
    (hb : (edge0 en e i cs).2.1 ≠ en.getD (2 * i + 1) 0) : EI es en cs0 (i + 1) (edge en (cs, ws) (e, i)).1 := by
  have hi : i < es.length := (List.getElem?_eq_some_iff.1 he).1
  have ok := hok e (List.mem_of_getElem? he)
  obtain ⟨s0, s1⟩ := sd0 he
  have ge := I.ge
  have p0 := I.port (2 * i) (by omega) (by omega)
  have p1 := I.port (2 * i + 1) (by omega) (by omega)
  rw [s0] at p0
  rw [s1] at p1
  have l0 := hen (2 * i) (by omega)
  have l1 := hen (2 * i + 1) (by omega)
  have B0 : BB cs (en.getD (2 * i) 0) e.d 0 (cs, en.getD (2 * i) 0, e.d, [en.getD (2 * i) 0]) :=
    ⟨rfl, by simp only; omega, ok.d, p0, .inl ⟨rfl, rfl⟩, fun _ _ _ _ _ => rfl, fun _ _ => rfl, fun u h1 h2 => absurd h1 (Nat.not_le.2 h2), rfl, I.good⟩
  have B := BB.bends (i := i) e.b B0
  have hd' : (edge0 en e i cs).2.2.1 = lastOf e.d e.b := bends_dir i e.b _
  rw [Nat.zero_add] at B
  have hE : (edge en (cs, ws) (e, i)).1 = join (edge0 en e i cs).1 (edge0 en e i cs).2.1 (edge0 en e i cs).2.2.1 (en.getD (2 * i + 1) 0) i := rfl
  rw [hE]
  have hB : bends i (cs, en.getD (2 * i) 0, e.d, [en.getD (2 * i) 0]) e.b = edge0 en e i cs := rfl
  rw [hB] at B
  generalize edge0 en e i cs = s at B hb hd'
  obtain ⟨len, alt, dlt, fr, at_, old, dg, dn, cn, good⟩ := B
  have hop : opp s.2.2.1 = e.side := by rw [hd']; rfl
  have hdd := hdist (2 * i) (2 * i + 1) (by omega) (by omega) (by omega)
  rw [s0, s1] at hdd
  have lw : en.getD (2 * i + 1) 0 < s.1.length := by omega
  have fw : nx s.1 (en.getD (2 * i + 1) 0) (opp s.2.2.1) = -1 := by
    rw [hop, old _ _ (by omega) e.side_lt (fun q => hdd ⟨q.1.symm, q.2.symm⟩)]; exact p1
  have kd := fun u => deg_laid (u := u) (o := (i : Int)) hb dlt alt lw fr fw
  rw [join_yes hb alt lw fr fw]
  refine ⟨by rw [laid_len]; omega, ?_, ?_, fun k hk hk2 => ?_, fun u hu => ?_, fun u hu hu2 => ?_⟩
  · rw [← join_yes hb alt lw fr fw]; exact good.join dlt (by omega)
  · rw [cnt_laid hb dlt alt lw fr fw, cn, I.cn, if_pos (by omega), List.take_add_one, he]
    simp only [Option.toList_some, List.map_append, List.sum_append, List.map_cons, List.map_nil, List.sum_cons, List.sum_nil]
    omega
  · have hp := I.port k (by omega) hk2
    have hkl := hen k hk2
    have sl := sd_lt hok k
    have d0 := hdist k (2 * i) hk2 (by omega) (by omega)
    have d1 := hdist k (2 * i + 1) hk2 (by omega) (by omega)
    rw [s0] at d0
    rw [s1] at d1
    rw [nx_laid hb dlt sl alt lw, if_neg (fun q => d1 ⟨q.1, by rw [← hop]; exact q.2⟩), if_neg (fun q => ?_), old _ _ (by omega) sl d0]
    · exact hp
    · rcases at_ with h | h
      · exact d0 ⟨by rw [q.1, h.1], by rw [q.2, h.2]⟩
      · omega
  · have h1 := dg u (by omega)
    have h2 := I.dg u hu
    rw [kd u, List.range_succ, List.map_append, List.sum_append]
    simp only [List.map_cons, List.map_nil, List.sum_cons, List.sum_nil]
    omega
  · rw [kd u]
    have hul : u < s.1.length := by rw [laid_len] at hu2; exact hu2
    have h1 : ¬ u = en.getD (2 * i + 1) 0 := by omega
    rw [bi_no h1]
    rcases Nat.lt_or_ge u cs.length with h | h
    · have := dg u h
      rw [I.dn u hu h] at this
      have h2 : ¬ u = en.getD (2 * i) 0 := by omega
      rw [bi_no h2] at this
      omega
    · have := dn u h hul
      omega
theorem EI.all {bx : List Bool} {es : List Ed} {en : List Nat} {cs0 : List Cell} (hok : ∀ e ∈ es, e.Ok bx.length) (I0 : EI es en cs0 0 cs0)
    (hen : ∀ k, k < 2 * es.length → en.getD k 0 < cs0.length) (hdist : ∀ k k', k < 2 * es.length → k' < 2 * es.length → k ≠ k' → ¬ (en.getD k 0 = en.getD k' 0 ∧ sd es k = sd es k'))
    (hb : ∀ i e, es[i]? = some e → (edge0 en e i (edges en cs0 (es.take i)).1).2.1 ≠ en.getD (2 * i + 1) 0) : ∀ i, i ≤ es.length → EI es en cs0 i (edges en cs0 (es.take i)).1
  | 0, _ => by simpa [edges] using I0
  | i + 1, hi => by
    have ih := EI.all hok I0 hen hdist hb i (by omega)
    obtain ⟨e, he⟩ : ∃ x, es[i]? = some x := ⟨_, List.getElem?_eq_getElem (by omega)⟩
    rw [edges_take he]
    exact ih.step (ws := (edges en cs0 (es.take i)).2) he hok hen hdist (hb i e he)

/- ---------------------------------------------------------------- all together -/
def want (es : List Ed) (v : Nat) : Nat := (es.map fun e => bi (e.f = v) + bi (e.t = v)).sum
theorem two_on {es : List Ed} {v d k k' : Nat} (hk : k ∈ on es v d) (hk' : k' ∈ on es v d) (hne : k ≠ k') : 1 < (on es v d).length := by
  match h : on es v d with
  | [] => rw [h] at hk; cases hk
  | [x] =>
    rw [h] at hk hk'
    simp only [List.mem_singleton] at hk hk'
    exact absurd (hk.trans hk'.symm) hne
  | x :: y :: l => simp
theorem own_of {es : List Ed} {n k : Nat} (hok : ∀ e ∈ es, e.Ok n) (hk : k < 2 * es.length) : ∃ v, v < n ∧ k ∈ on es v (sd es k) ∧ sd es k < 4 := by
  obtain ⟨e, he⟩ : ∃ x, es[k / 2]? = some x := ⟨_, List.getElem?_eq_getElem (by omega)⟩
  have ok := hok e (List.mem_of_getElem? he)
  have hm := on_mem he
  obtain ⟨s0, s1⟩ := sd0 he
  rcases Nat.mod_two_eq_zero_or_one k with h | h
  · have e0 : 2 * (k / 2) = k := by omega
    rw [e0] at hm s0
    exact ⟨e.f, ok.f, by rw [s0]; exact hm.1, sd_lt hok k⟩
  · have e0 : 2 * (k / 2) + 1 = k := by omega
    rw [e0] at hm s1
    exact ⟨e.t, ok.t, by rw [s1]; exact hm.2, sd_lt hok k⟩
structure Told (bx : List Bool) (es : List Ed) (cs : List Cell) : Prop where
  good : GoodC cs
  cn : cnt cs = 2 * (es.length + (es.map fun e => e.b.length).sum)
  dn : ∀ u, (verts bx es bx.length).1.length ≤ u → u < cs.length → deg cs u = 2
  pt : ∀ v, v < bx.length → bx.getD v false = false → deg cs (verts bx es v).1.length = want es v
  bx_ : ∀ v, v < bx.length → bx.getD v false = true → deg cs (verts bx es v).1.length = 2
theorem told {bx : List Bool} {es : List Ed} (hok : ∀ e ∈ es, e.Ok bx.length) (hs : ¬ ∃ v d, v < bx.length ∧ d < 4 ∧ sided bx es v d) (ht : ¬ ∃ i x, es[i]? = some x ∧ bad bx es i x) :
    Told bx es (edges (verts bx es bx.length).2 (verts bx es bx.length).1 es).1 := by
  have hlen := (verts_len bx es bx.length).2
  have S := verts_vs bx es bx.length
  have G := good_verts bx es bx.length
  have at_ : ∀ k, k < 2 * es.length → (verts bx es bx.length).2[k]? = some ((verts bx es bx.length).2.getD k 0) := fun k hk => by
    rw [List.getD_eq_getElem?_getD, List.getElem?_eq_getElem (by omega)]; rfl
  have rng : ∀ v k, v < bx.length → own es v k → k < 2 * es.length → (verts bx es v).1.length ≤ (verts bx es bx.length).2.getD k 0 ∧ (verts bx es bx.length).2.getD k 0 < (verts bx es (v + 1)).1.length := fun v k hv ho hk =>
    (verts_inv bx es bx.length v hv).lo k _ ho (at_ k hk)
  have mono : ∀ v w, v ≤ w → (verts bx es v).1.length ≤ (verts bx es w).1.length := fun v w h => verts_mono bx es h
  have same : ∀ v v' x, (verts bx es v).1.length ≤ x ∧ x < (verts bx es (v + 1)).1.length → (verts bx es v').1.length ≤ x ∧ x < (verts bx es (v' + 1)).1.length → v = v' := fun v v' x h h' => by
    rcases Nat.lt_trichotomy v v' with q | q | q
    · have := mono (v + 1) v' q; omega
    · exact q
    · have := mono (v' + 1) v q; omega
  have hen : ∀ k, k < 2 * es.length → (verts bx es bx.length).2.getD k 0 < (verts bx es bx.length).1.length := fun k hk => by
    obtain ⟨v, hv, hm, hl⟩ := own_of hok hk
    have h1 := rng v k hv ⟨_, hl, hm⟩ hk
    have h2 := mono (v + 1) bx.length hv
    omega
  have hdist : ∀ k k', k < 2 * es.length → k' < 2 * es.length → k ≠ k' → ¬ ((verts bx es bx.length).2.getD k 0 = (verts bx es bx.length).2.getD k' 0 ∧ sd es k = sd es k') := fun k k' hk hk' hne ⟨q1, q2⟩ => by
    obtain ⟨v, hv, hm, hl⟩ := own_of hok hk
    obtain ⟨v', hv', hm', hl'⟩ := own_of hok hk'
    have r1 := rng v k hv ⟨_, hl, hm⟩ hk
    have r2 := rng v' k' hv' ⟨_, hl', hm'⟩ hk'
    rw [← q1] at r2
    have hvv := same v v' _ r1 r2
    subst hvv
    cases hb : bx.getD v false with
    | true => exact (verts_inv bx es bx.length v hv).ne hb k k' _ _ ⟨_, hl, hm⟩ ⟨_, hl', hm'⟩ hne (at_ k hk) (at_ k' hk') q1
    | false =>
      rw [← q2] at hm'
      exact hs ⟨v, sd es k, hv, hl, hb, two_on hm hm' hne⟩
  have I0 : EI es (verts bx es bx.length).2 (verts bx es bx.length).1 0 (verts bx es bx.length).1 := by
    refine ⟨Nat.le_refl _, G.1, by rw [G.2]; simp, fun k _ hk => ?_, fun u _ => by simp, fun u h1 h2 => absurd h1 (Nat.not_le.2 h2)⟩
    obtain ⟨v, hv, hm, hl⟩ := own_of hok hk
    exact S.port v _ k _ hv hl hm (at_ k hk)
  have I := EI.all hok I0 hen hdist (fun i e he hq => ht ⟨i, e, he, hq⟩) es.length (Nat.le_refl _)
  rw [List.take_length] at I
  have lt : ∀ v, v < bx.length → (verts bx es v).1.length < (verts bx es bx.length).1.length := fun v hv => by
    have h1 := mono (v + 1) bx.length hv
    have h2 := vtx_ge bx es (verts bx es v) v
    rw [← verts_succ] at h2; omega
  have st : ∀ v, (verts bx es v).1.length ≤ (verts bx es v).1.length ∧ (verts bx es v).1.length < (verts bx es (v + 1)).1.length := fun v => by
    have h2 := vtx_ge bx es (verts bx es v) v
    rw [← verts_succ] at h2; exact ⟨Nat.le_refl _, h2⟩
  refine ⟨I.good, by rw [I.cn, List.take_length], I.dn, fun v hv hb => ?_, fun v hv hb => ?_⟩
  · rw [I.dg _ (lt v hv)]
    have z : deg (verts bx es bx.length).1 (verts bx es v).1.length = 0 := by
      have := fun e (he : e < 4) => S.pt v e hv hb he
      unfold deg; rw [this 0 (by decide), this 1 (by decide), this 2 (by decide), this 3 (by decide)]; rfl
    rw [z, Nat.zero_add]
    have key : ∀ k, k < 2 * es.length → ∀ u, u < bx.length → own es u k → bi ((verts bx es v).1.length = (verts bx es bx.length).2.getD k 0) = bi (u = v) := fun k hk u hu ho => by
      by_cases huv : u = v
      · subst huv
        rw [bi_yes rfl, bi_yes]
        exact ((verts_inv bx es bx.length u hu).pt hb k _ ho (at_ k hk)).symm
      · rw [bi_no huv, bi_no]
        intro q
        have r := rng u k hu ho hk
        rw [← q] at r
        exact huv (same u v _ r (st v))
    have all : ∀ i, i ≤ es.length → ((List.range i).map fun j => bi ((verts bx es v).1.length = (verts bx es bx.length).2.getD (2 * j) 0) + bi ((verts bx es v).1.length = (verts bx es bx.length).2.getD (2 * j + 1) 0)).sum = ((es.take i).map fun e => bi (e.f = v) + bi (e.t = v)).sum := by
      intro i
      induction i with
      | zero => intro _; simp
      | succ i ih =>
        intro hi
        obtain ⟨e, he⟩ : ∃ x, es[i]? = some x := ⟨_, List.getElem?_eq_getElem (by omega)⟩
        have ok := hok e (List.mem_of_getElem? he)
        have hm := on_mem he
        rw [List.range_succ, List.map_append, List.sum_append, ih (by omega), List.take_add_one, he]
        simp only [Option.toList_some, List.map_append, List.sum_append, List.map_cons, List.map_nil, List.sum_cons, List.sum_nil]
        rw [key (2 * i) (by omega) e.f ok.f ⟨e.d, ok.d, hm.1⟩, key (2 * i + 1) (by omega) e.t ok.t ⟨e.side, e.side_lt, hm.2⟩]
    have := all es.length (Nat.le_refl _)
    rw [List.take_length] at this
    exact this
  · rw [I.dg _ (lt v hv), S.bx_ v hv hb]
    have z : ∀ k, k < 2 * es.length → bi ((verts bx es v).1.length = (verts bx es bx.length).2.getD k 0) = 0 := fun k hk => by
      refine bi_no fun q => ?_
      obtain ⟨u, hu, hm, hl⟩ := own_of hok hk
      have r := rng u k hu ⟨_, hl, hm⟩ hk
      rw [← q] at r
      have huv := same u v _ r (st v)
      subst huv
      have := S.far u k _ hu hb ⟨_, hl, hm⟩ (at_ k hk)
      omega
    have all : ∀ i, i ≤ es.length → ((List.range i).map fun j => bi ((verts bx es v).1.length = (verts bx es bx.length).2.getD (2 * j) 0) + bi ((verts bx es v).1.length = (verts bx es bx.length).2.getD (2 * j + 1) 0)).sum = 0 := by
      intro i
      induction i with
      | zero => intro _; simp
      | succ i ih =>
        intro hi
        rw [List.range_succ, List.map_append, List.sum_append, ih (by omega)]
        simp only [List.map_cons, List.map_nil, List.sum_cons, List.sum_nil]
        rw [z (2 * i) (by omega), z (2 * i + 1) (by omega)]; rfl
    rw [all es.length (Nat.le_refl _)]
/-- An edge's way: where it begins and ends, what is within. -/
theorem ways_in {en : List Nat} {cs : List Cell} {es : List Ed} {i : Nat} {e : Ed} (he : es[i]? = some e) :
    ∃ w : List Nat, (edges en cs es).2[i]? = some (en.getD (2 * i) 0 :: w ++ [en.getD (2 * i + 1) 0]) ∧ w.length = e.b.length ∧ ∀ x ∈ w, cs.length ≤ x ∧ x < (edges en cs es).1.length := by
  have key : ∀ k, i < k → k ≤ es.length → ∃ w : List Nat, (edges en cs (es.take k)).2[i]? = some (en.getD (2 * i) 0 :: w ++ [en.getD (2 * i + 1) 0]) ∧ w.length = e.b.length ∧ ∀ x ∈ w, cs.length ≤ x ∧ x < (edges en cs (es.take k)).1.length := by
    intro k
    induction k with
    | zero => intro h; omega
    | succ k ih =>
      intro hk hkl
      obtain ⟨x, hx⟩ : ∃ x, es[k]? = some x := ⟨_, List.getElem?_eq_getElem (by omega)⟩
      have hlen : (edges en cs (es.take k)).2.length = k := by
        have : ∀ j, j ≤ es.length → (edges en cs (es.take j)).2.length = j := by
          intro j
          induction j with
          | zero => intro _; simp [edges]
          | succ j ih =>
            intro hj
            obtain ⟨y, hy⟩ : ∃ x, es[j]? = some x := ⟨_, List.getElem?_eq_getElem (by omega)⟩
            rw [edges_take hy]
            simp [edge, ih (by omega)]
        exact this k (by omega)
      have hg := edges_ge (en := en) (cs := cs) (es := es) k
      have bl := bends_len k x.b ((edges en cs (es.take k)).1, en.getD (2 * k) 0, x.d, [en.getD (2 * k) 0])
      rw [edges_take hx]
      simp only [edge, join_len]
      have e0 : (edge0 en x k (edges en cs (es.take k)).1).1.length = (edges en cs (es.take k)).1.length + x.b.length := bl.1
      rw [e0]
      by_cases hik : i < k
      · rw [List.getElem?_append_left (by omega)]
        obtain ⟨w, h1, h2, h3⟩ := ih hik (by omega)
        exact ⟨w, h1, h2, fun y hy => by have := h3 y hy; omega⟩
      · have : i = k := by omega
        subst this
        rw [he] at hx; cases hx
        rw [List.getElem?_append_right (by omega), hlen]
        simp only [Nat.sub_self, List.getElem?_cons_zero, Option.some.injEq]
        refine ⟨List.range' (edges en cs (es.take i)).1.length e.b.length, ?_, by simp, fun y hy => ?_⟩
        · unfold edge0; rw [bends_way]; rfl
        · have := List.mem_range'_1.1 hy
          omega
  have := key es.length (List.getElem?_eq_some_iff.1 he).1 (Nat.le_refl _)
  rwa [List.take_length] at this
end Go.Shape
end

section
/- PRINTED by wip/gen.py: what muntin/muntinref10.Check does, in the words of Mu. -/
namespace Go.Proofs.YtimadnngfhbfiaaDoor
open Go Go.Mu
/- muntin/muntinref10.Check -/
def S18_j1 (K : Int → H → Prop) (h_1 : H) : Prop :=
  K 0 h_1
def S18_j2 (v3 : Int) (X : Int → H → Prop) (h_3 : H) : Prop :=
  X (IntKind.wrap .i64 (v3 + 1)) h_3
def S18_j3 (v4 : Int) (X_1 : Int → H → Prop) (h_5 : H) : Prop :=
  X_1 (IntKind.wrap .i64 (v4 + 1)) h_5
def S18_j4 (K : Int → H → Prop) (v4 : Int) (X_1 : Int → H → Prop) (v78 : Bool) (h_7 : H) : Prop :=
  (if v78 = true then K 9 h_7 else S18_j3 v4 X_1 h_7)
def S18_j5 (p0 : Sl) (K : Int → H → Prop) (v3 : Int) (v4 : Int) (X_1 : Int → H → Prop) (v26 : Int) (v33 : Int) (v50 : Bool) (h_6 : H) : Prop :=
  (if v50 = true then K 3 h_6 else (∃ a56 : Addr, p0.a = some a56 ∧ 0 ≤ v26 ∧ v26 < (p0.l : Int) ∧ (0 ≤ (Int.tmod (IntKind.wrap .i64 (v4 + 2)) 4) ∧ (Int.tmod (IntKind.wrap .i64 (v4 + 2)) 4) < (4 : Int) ∧ (∃ (v59 : Int), H.rd h_6 (Addr.add (Addr.add a56 (Int.toNat v26 * 8)) (Int.toNat (Int.tmod (IntKind.wrap .i64 (v4 + 2)) 4) * 1)) = some (.int .i64 v59) ∧ (if (v59 != v3) = true then S18_j4 K v4 X_1 true h_6 else (∃ a68 : Addr, p0.a = some a68 ∧ 0 ≤ v26 ∧ v26 < (p0.l : Int) ∧ (0 ≤ (Int.tmod (IntKind.wrap .i64 (v4 + 2)) 4) ∧ (Int.tmod (IntKind.wrap .i64 (v4 + 2)) 4) < (4 : Int) ∧ (∃ (v71 : Int), H.rd h_6 (Addr.add (Addr.add (Addr.add a68 (Int.toNat v26 * 8)) 4) (Int.toNat (Int.tmod (IntKind.wrap .i64 (v4 + 2)) 4) * 1)) = some (.int .i64 v71) ∧ (if (v71 != v33) = true then S18_j4 K v4 X_1 true h_6 else S18_j4 K v4 X_1 (decide (v33 < (-2))) h_6)))))))))
def S18_l6 (p0 : Sl) (K : Int → H → Prop) (v3 : Int) (X : Int → H → Prop) (X_1 : Int → H → Prop) (v4 : Int) (h_4 : H) : Prop :=
  (if (decide (v4 < 4)) = true then (∃ a23 : Addr, p0.a = some a23 ∧ 0 ≤ v3 ∧ v3 < (p0.l : Int) ∧ (0 ≤ v4 ∧ v4 < (4 : Int) ∧ (∃ (v26 : Int), H.rd h_4 (Addr.add (Addr.add a23 (Int.toNat v3 * 8)) (Int.toNat v4 * 1)) = some (.int .i64 v26) ∧ (∃ a30 : Addr, p0.a = some a30 ∧ 0 ≤ v3 ∧ v3 < (p0.l : Int) ∧ (0 ≤ v4 ∧ v4 < (4 : Int) ∧ (∃ (v33 : Int), H.rd h_4 (Addr.add (Addr.add (Addr.add a30 (Int.toNat v3 * 8)) 4) (Int.toNat v4 * 1)) = some (.int .i64 v33) ∧ (if (v26 == (-1)) = true then (if (v33 != 0) = true then K 9 h_4 else S18_j3 v4 X_1 h_4) else S18_j5 p0 K v3 v4 X_1 v26 v33 (((decide (v26 < 0)) || (decide (v26 ≥ (p0.l : Int)))) || (v26 == v3)) h_4))))))) else S18_j2 v3 X h_4)
def S18_l7 (p0 : Sl) (K : Int → H → Prop) (X : Int → H → Prop) (v3 : Int) (h_2 : H) : Prop :=
  (if (decide (v3 < (p0.l : Int))) = true then lfp (fun X_1 s h_4 => S18_l6 p0 K v3 X X_1 s h_4) 0 h_2 else S18_j1 K h_2)
def S18 (p0 : Sl) (h : H) (K : Int → H → Prop) : Prop :=
  (if (decide ((p0.l : Int) > 4096)) = true then K 6 h else lfp (fun X s h_2 => S18_l7 p0 K X s h_2) 0 h)
end Go.Proofs.YtimadnngfhbfiaaDoor
end

section
/- PRINTED by wip/gen.py: what muntin/muntinlaw11.NormCells$1 does, in the words of Mu. -/
namespace Go.Proofs.YtimadnngfhbfiaaDoor
open Go Go.Mu
/- muntin/muntinlaw11.NormCells$1 -/
def S19_j1 (K : Int → H → Prop) (v4 : Int) (h_1 : H) : Prop :=
  K v4 h_1
def S19_j2 (v13 : Int) (X : (Int × Int) → H → Prop) (v4_2 : Int) (h_3 : H) : Prop :=
  X (v4_2, (IntKind.wrap .i64 (v13 + 1))) h_3
def S19_l3 (K : Int → H → Prop) (v12_0 : Int) (v12_1 : Int) (v12_2 : Int) (v12_3 : Int) (X : (Int × Int) → H → Prop) (v4_1 : Int) (v13 : Int) (h_2 : H) : Prop :=
  (if (decide (v13 < 4)) = true then (0 ≤ v13 ∧ v13 < (4 : Int) ∧ (if (decide ((sel ([v12_0, v12_1, v12_2, v12_3] : List Int) v13) ≥ 0)) = true then S19_j2 v13 X (IntKind.wrap .i64 (v4_1 + 1)) h_2 else S19_j2 v13 X v4_1 h_2)) else S19_j1 K v4_1 h_2)
def S19 (p0 : Int) (q0 : Addr) (h : H) (K : Int → H → Prop) : Prop :=
  (∃ (v8 : Sl), H.rd h q0 = some (.slice v8.a v8.l v8.c) ∧ (∃ a10 : Addr, v8.a = some a10 ∧ 0 ≤ p0 ∧ p0 < (v8.l : Int) ∧ (∃ (v12_0 : Int) (v12_1 : Int) (v12_2 : Int) (v12_3 : Int), H.rdn h (Addr.add a10 (Int.toNat p0 * 8)) 4 [(.int .i64 v12_0), (.int .i64 v12_1), (.int .i64 v12_2), (.int .i64 v12_3)] ∧ lfp (fun X s h_2 => S19_l3 K v12_0 v12_1 v12_2 v12_3 X s.1 s.2 h_2) (0, 0) h)))
end Go.Proofs.YtimadnngfhbfiaaDoor
end

section
/- PRINTED by wip/gen.py: what muntin/muntinlaw11.NormCells does, in the words of Mu. -/
namespace Go.Proofs.YtimadnngfhbfiaaDoor
open Go Go.Mu
/- muntin/muntinlaw11.NormCells -/
def S4_j1 (K : Bool → H → Prop) (v23_1 : Sl) (v6 : Int) (v7 : Int) (h_10 : H) : Prop :=
  K (v6 == (IntKind.wrap .i64 (2 * (IntKind.wrap .i64 ((v23_1.l : Int) + v7))))) h_10
def S4_j2 (K : Bool → H → Prop) (v141 : Int) (X : Int → H → Prop) (v191 : Bool) (h_13 : H) : Prop :=
  (if v191 = true then K false h_13 else X (IntKind.wrap .i64 (v141 + 1)) h_13)
def S4_j3 (K : Bool → H → Prop) (b4 : Nat) (v141 : Int) (X : Int → H → Prop) (v145 : Bool) (v19 : Int) (h_12 : H) : Prop :=
  (if (!v145) = true then (∃ (v171 : Sl), H.rd h_12 ⟨b4, 1, none⟩ = some (.slice v171.a v171.l v171.c) ∧ (∃ a173 : Addr, v171.a = some a173 ∧ 0 ≤ v141 ∧ v141 < (v171.l : Int) ∧ (∃ (v174 : Int), H.rd h_12 (Addr.add a173 (Int.toNat v141 * 1)) = some (.int .i64 v174) ∧ S19 v174 ⟨b4, 0, none⟩ h_12 (fun (v175 : Int) (h_14 : H) => (if (v175 != v19) = true then S4_j2 K v141 X true h_14 else (if v145 = true then (∃ (v184 : Sl), H.rd h_14 ⟨b4, 1, none⟩ = some (.slice v184.a v184.l v184.c) ∧ (∃ a186 : Addr, v184.a = some a186 ∧ 0 ≤ v141 ∧ v141 < (v184.l : Int) ∧ (∃ (v187 : Int), H.rd h_14 (Addr.add a186 (Int.toNat v141 * 1)) = some (.int .i64 v187) ∧ S19 v187 ⟨b4, 0, none⟩ h_14 (fun (v188 : Int) (h_15 : H) => S4_j2 K v141 X (v188 != 2) h_15)))) else S4_j2 K v141 X false h_14)))))) else (if v145 = true then (∃ (v184 : Sl), H.rd h_12 ⟨b4, 1, none⟩ = some (.slice v184.a v184.l v184.c) ∧ (∃ a186 : Addr, v184.a = some a186 ∧ 0 ≤ v141 ∧ v141 < (v184.l : Int) ∧ (∃ (v187 : Int), H.rd h_12 (Addr.add a186 (Int.toNat v141 * 1)) = some (.int .i64 v187) ∧ S19 v187 ⟨b4, 0, none⟩ h_12 (fun (v188 : Int) (h_15 : H) => S4_j2 K v141 X (v188 != 2) h_15)))) else S4_j2 K v141 X false h_12))
def S4_j4 (v149 : Int) (X_1 : (Int × Int) → H → Prop) (v19_2 : Int) (h_17 : H) : Prop :=
  X_1 (v19_2, (IntKind.wrap .i64 (v149 + 1))) h_17
def S4_j5 (v141 : Int) (v149 : Int) (X_1 : (Int × Int) → H → Prop) (v152_1 : Int) (v19_3 : Int) (h_18 : H) : Prop :=
  (if (v152_1 == v141) = true then S4_j4 v149 X_1 (IntKind.wrap .i64 (v19_3 + 1)) h_18 else S4_j4 v149 X_1 v19_3 h_18)
def S4_l6 (K : Bool → H → Prop) (v23_1 : Sl) (b4 : Nat) (v141 : Int) (X : Int → H → Prop) (v145 : Bool) (X_1 : (Int × Int) → H → Prop) (v19_1 : Int) (v149 : Int) (h_16 : H) : Prop :=
  (if (decide (v149 < (v23_1.l : Int))) = true then (∃ a151 : Addr, v23_1.a = some a151 ∧ 0 ≤ v149 ∧ v149 < (v23_1.l : Int) ∧ (∃ (v152_0 : Int) (v152_1 : Int) (v152_2 : Int) (v152_3 : ByteArray), H.rdn h_16 (Addr.add a151 (Int.toNat v149 * 4)) 4 [(.int .i64 v152_0), (.int .i64 v152_1), (.int .i64 v152_2), (.string v152_3)] ∧ (if (v152_0 == v141) = true then S4_j5 v141 v149 X_1 v152_1 (IntKind.wrap .i64 (v19_1 + 1)) h_16 else S4_j5 v141 v149 X_1 v152_1 v19_1 h_16))) else S4_j3 K b4 v141 X v145 v19_1 h_16)
def S4_l7 (K : Bool → H → Prop) (v23_0 : Sl) (v23_1 : Sl) (b4 : Nat) (v6 : Int) (v7 : Int) (X : Int → H → Prop) (v141 : Int) (h_11 : H) : Prop :=
  (if (decide (v141 < (v23_0.l : Int))) = true then (∃ a144 : Addr, v23_0.a = some a144 ∧ 0 ≤ v141 ∧ v141 < (v23_0.l : Int) ∧ (∃ (v145 : Bool), H.rd h_11 (Addr.add a144 (Int.toNat v141 * 1)) = some (.bool v145) ∧ lfp (fun X_1 s h_16 => S4_l6 K v23_1 b4 v141 X v145 X_1 s.1 s.2 h_16) (0, 0) h_11)) else S4_j1 K v23_1 v6 v7 h_11)
def S4_j8 (K : Bool → H → Prop) (v23_0 : Sl) (v23_1 : Sl) (b4 : Nat) (v6 : Int) (v7 : Int) (h_9 : H) : Prop :=
  lfp (fun X s h_11 => S4_l7 K v23_0 v23_1 b4 v6 v7 X s h_11) 0 h_9
def S4_j9 (v100 : Int) (X_2 : (Int × Int) → H → Prop) (v7_2 : Int) (h_20 : H) : Prop :=
  X_2 (v7_2, (IntKind.wrap .i64 (v100 + 1))) h_20
def S4_l10 (K : Bool → H → Prop) (b4 : Nat) (v7_1 : Int) (v100 : Int) (X_2 : (Int × Int) → H → Prop) (v104_3 : ByteArray) (v114 : Sl) (X_3 : Int → H → Prop) (v128 : Int) (h_21 : H) : Prop :=
  (if (decide (v128 < ((Nat.sub (Int.toNat (IntKind.wrap .i64 ((v114.l : Int) - 1))) (Int.toNat 1)) : Int))) = true then (∃ a130 : Addr, (if v114.c = Int.toNat 1 then v114.a else Option.map (fun x => Addr.add x (Int.toNat 1 * 1)) v114.a) = some a130 ∧ 0 ≤ v128 ∧ v128 < ((Nat.sub (Int.toNat (IntKind.wrap .i64 ((v114.l : Int) - 1))) (Int.toNat 1)) : Int) ∧ (∃ (v131 : Int), H.rd h_21 (Addr.add a130 (Int.toNat v128 * 1)) = some (.int .i64 v131) ∧ S19 v131 ⟨b4, 0, none⟩ h_21 (fun (v134 : Int) (h_22 : H) => (if (v134 != 2) = true then K false h_22 else X_3 (IntKind.wrap .i64 (v128 + 1)) h_22)))) else S4_j9 v100 X_2 (IntKind.wrap .i64 (v7_1 + (ByteArray.size v104_3 : Int))) h_21)
def S4_l11 (K : Bool → H → Prop) (v23_0 : Sl) (v23_1 : Sl) (b4 : Nat) (v6 : Int) (X_2 : (Int × Int) → H → Prop) (v7_1 : Int) (v100 : Int) (h_19 : H) : Prop :=
  (if (decide (v100 < (v23_1.l : Int))) = true then (∃ a103 : Addr, v23_1.a = some a103 ∧ 0 ≤ v100 ∧ v100 < (v23_1.l : Int) ∧ (∃ (v104_0 : Int) (v104_1 : Int) (v104_2 : Int) (v104_3 : ByteArray), H.rdn h_19 (Addr.add a103 (Int.toNat v100 * 4)) 4 [(.int .i64 v104_0), (.int .i64 v104_1), (.int .i64 v104_2), (.string v104_3)] ∧ (∃ (v111 : Sl), H.rd h_19 ⟨b4, 2, none⟩ = some (.slice v111.a v111.l v111.c) ∧ (∃ a113 : Addr, v111.a = some a113 ∧ 0 ≤ v100 ∧ v100 < (v111.l : Int) ∧ (∃ (v114 : Sl), H.rd h_19 (Addr.add a113 (Int.toNat v100 * 1)) = some (.slice v114.a v114.l v114.c) ∧ (if ((v114.l : Int) != (IntKind.wrap .i64 ((ByteArray.size v104_3 : Int) + 2))) = true then K false h_19 else ((0 : Int) ≤ 1 ∧ 1 ≤ (IntKind.wrap .i64 ((v114.l : Int) - 1)) ∧ (IntKind.wrap .i64 ((v114.l : Int) - 1)) ≤ (v114.l : Int) ∧ v114.l ≤ v114.c ∧ lfp (fun X_3 s h_21 => S4_l10 K b4 v7_1 v100 X_2 v104_3 v114 X_3 s h_21) 0 h_19))))))) else S4_j8 K v23_0 v23_1 b4 v6 v7_1 h_19)
def S4_j12 (K : Bool → H → Prop) (v23_0 : Sl) (v23_1 : Sl) (b4 : Nat) (v6 : Int) (h_8 : H) : Prop :=
  lfp (fun X_2 s h_19 => S4_l11 K v23_0 v23_1 b4 v6 X_2 s.1 s.2 h_19) (0, 0) h_8
def S4_j13 (v61 : Int) (X_4 : (Int × Int) → H → Prop) (v6_2 : Int) (h_24 : H) : Prop :=
  X_4 (v6_2, (IntKind.wrap .i64 (v61 + 1))) h_24
def S4_j14 (K : Bool → H → Prop) (v65 : Int) (X_5 : (Int × Int) → H → Prop) (v6_4 : Int) (v93 : Bool) (h_27 : H) : Prop :=
  (if v93 = true then K false h_27 else X_5 (v6_4, (IntKind.wrap .i64 (v65 + 1))) h_27)
def S4_j15 (K : Bool → H → Prop) (v64_0 : Int) (v64_1 : Int) (v64_2 : Int) (v64_3 : Int) (v64_4 : Int) (v64_5 : Int) (v64_6 : Int) (v64_7 : Int) (v65 : Int) (X_5 : (Int × Int) → H → Prop) (v6_4 : Int) (h_26 : H) : Prop :=
  (0 ≤ v65 ∧ v65 < (4 : Int) ∧ (if (decide ((sel ([v64_0, v64_1, v64_2, v64_3] : List Int) v65) ≥ 0)) = true then (0 ≤ v65 ∧ v65 < (4 : Int) ∧ S4_j14 K v65 X_5 v6_4 ((sel ([v64_4, v64_5, v64_6, v64_7] : List Int) v65) == (-2)) h_26) else S4_j14 K v65 X_5 v6_4 false h_26))
def S4_j16 (K : Bool → H → Prop) (v64_0 : Int) (v64_1 : Int) (v64_2 : Int) (v64_3 : Int) (v64_4 : Int) (v64_5 : Int) (v64_6 : Int) (v64_7 : Int) (v6_3 : Int) (v65 : Int) (X_5 : (Int × Int) → H → Prop) (v79 : Bool) (h_28 : H) : Prop :=
  (if v79 = true then S4_j15 K v64_0 v64_1 v64_2 v64_3 v64_4 v64_5 v64_6 v64_7 v65 X_5 (IntKind.wrap .i64 (v6_3 + 1)) h_28 else S4_j15 K v64_0 v64_1 v64_2 v64_3 v64_4 v64_5 v64_6 v64_7 v65 X_5 v6_3 h_28)
def S4_l17 (K : Bool → H → Prop) (v61 : Int) (X_4 : (Int × Int) → H → Prop) (v64_0 : Int) (v64_1 : Int) (v64_2 : Int) (v64_3 : Int) (v64_4 : Int) (v64_5 : Int) (v64_6 : Int) (v64_7 : Int) (X_5 : (Int × Int) → H → Prop) (v6_3 : Int) (v65 : Int) (h_25 : H) : Prop :=
  (if (decide (v65 < 4)) = true then (0 ≤ v65 ∧ v65 < (4 : Int) ∧ (if (decide ((sel ([v64_0, v64_1, v64_2, v64_3] : List Int) v65) ≥ 0)) = true then (0 ≤ v65 ∧ v65 < (4 : Int) ∧ S4_j16 K v64_0 v64_1 v64_2 v64_3 v64_4 v64_5 v64_6 v64_7 v6_3 v65 X_5 (decide ((sel ([v64_4, v64_5, v64_6, v64_7] : List Int) v65) ≥ 0)) h_25) else S4_j16 K v64_0 v64_1 v64_2 v64_3 v64_4 v64_5 v64_6 v64_7 v6_3 v65 X_5 false h_25)) else S4_j13 v61 X_4 v6_3 h_25)
def S4_l18 (K : Bool → H → Prop) (v23_0 : Sl) (v23_1 : Sl) (b4 : Nat) (v59 : Sl) (X_4 : (Int × Int) → H → Prop) (v6_1 : Int) (v61 : Int) (h_23 : H) : Prop :=
  (if (decide (v61 < (v59.l : Int))) = true then (∃ a63 : Addr, v59.a = some a63 ∧ 0 ≤ v61 ∧ v61 < (v59.l : Int) ∧ (∃ (v64_0 : Int) (v64_1 : Int) (v64_2 : Int) (v64_3 : Int) (v64_4 : Int) (v64_5 : Int) (v64_6 : Int) (v64_7 : Int), H.rdn h_23 (Addr.add a63 (Int.toNat v61 * 8)) 8 [(.int .i64 v64_0), (.int .i64 v64_1), (.int .i64 v64_2), (.int .i64 v64_3), (.int .i64 v64_4), (.int .i64 v64_5), (.int .i64 v64_6), (.int .i64 v64_7)] ∧ lfp (fun X_5 s h_25 => S4_l17 K v61 X_4 v64_0 v64_1 v64_2 v64_3 v64_4 v64_5 v64_6 v64_7 X_5 s.1 s.2 h_25) (v6_1, 0) h_23)) else S4_j12 K v23_0 v23_1 b4 v6_1 h_23)
def S4_j19 (K : Bool → H → Prop) (v23_0 : Sl) (v23_1 : Sl) (b4 : Nat) (v57 : Bool) (h_7 : H) : Prop :=
  (if v57 = true then K false h_7 else (∃ (v59 : Sl), H.rd h_7 ⟨b4, 0, none⟩ = some (.slice v59.a v59.l v59.c) ∧ lfp (fun X_4 s h_23 => S4_l18 K v23_0 v23_1 b4 v59 X_4 s.1 s.2 h_23) (0, 0) h_7))
def S4_j20 (K : Bool → H → Prop) (v23_0 : Sl) (v23_1 : Sl) (b4 : Nat) (v34 : Bool) (h_5 : H) : Prop :=
  (if v34 = true then S14  h_5 (fun (v35 : Bool) (h_6 : H) => K v35 h_6) else (∃ (v37 : Sl), H.rd h_5 ⟨b4, 0, none⟩ = some (.slice v37.a v37.l v37.c) ∧ S18 v37 h_5 (fun (v38 : Int) (h_29 : H) => (if (v38 != 0) = true then S4_j19 K v23_0 v23_1 b4 true h_29 else (∃ (v42 : Sl), H.rd h_29 ⟨b4, 1, none⟩ = some (.slice v42.a v42.l v42.c) ∧ (if ((v42.l : Int) != (v23_0.l : Int)) = true then S4_j19 K v23_0 v23_1 b4 true h_29 else (∃ (v51 : Sl), H.rd h_29 ⟨b4, 2, none⟩ = some (.slice v51.a v51.l v51.c) ∧ S4_j19 K v23_0 v23_1 b4 ((v51.l : Int) != (v23_1.l : Int)) h_29)))))))
def S4 (p0_0 : Sl) (p0_1 : Sl) (p0_2 : Sl) (h : H) (K : Bool → H → Prop) : Prop :=
  S11 p0_0 p0_1 p0_2 8 h (fun (v23_0 : Sl) (v23_1 : Sl) (h_1 : H) => S12 v23_0 v23_1 h_1 (fun (v26_0_0 : Sl) (v26_0_1 : Sl) (v26_0_2 : Sl) (v26_1 : Int) (h_2 : H) => (∀ (b4 : Nat) (h_3 : H), h_2 b4 = none → h_3 = H.set h_2 b4 (.row ⟨[(.slice none 0 0), (.slice none 0 0), (.slice none 0 0)], 3, 35, true, true⟩) → (∃ h_4 : H, H.wr h_3 ⟨b4, 0, none⟩ [(.slice v26_0_0.a v26_0_0.l v26_0_0.c), (.slice v26_0_1.a v26_0_1.l v26_0_1.c), (.slice v26_0_2.a v26_0_2.l v26_0_2.c)] h_4 ∧ S14  h_4 (fun (v29 : Bool) (h_30 : H) => S4_j20 K v23_0 v23_1 b4 ((!v29) || (v26_1 != 0)) h_30)))))
end Go.Proofs.YtimadnngfhbfiaaDoor
end

section
/-
  NormCells: what the program's law answers.
-/
namespace Go.Proofs.YtimadnngfhbfiaaDoor
open Go Go.Mu Go.Shape
variable {h h0 : H}
set_option maxHeartbeats 2000000

theorem sel_next (c : Cell) {d : Nat} (hd : d < 4) : sel ([c.n0, c.n1, c.n2, c.n3] : List Int) (d : Int) = c.next d := by
  rcases four hd with rfl | rfl | rfl | rfl <;> rfl
theorem sel_own (c : Cell) {d : Nat} (hd : d < 4) : sel ([c.o0, c.o1, c.o2, c.o3] : List Int) (d : Int) = c.own d := by
  rcases four hd with rfl | rfl | rfl | rfl <;> rfl
theorem good_at {cs : List Cell} (g : GoodC cs) {v d : Nat} {c : Cell} (hc : cs[v]? = some c) (hd : d < 4) : (c.next d = -1 ∧ c.own d = 0) ∨ ∃ w : Nat, w < cs.length ∧ w ≠ v ∧ c.next d = w ∧ nx cs w (opp d) = v ∧ ow cs w (opp d) = c.own d ∧ -1 ≤ c.own d := by
  have := g v d (List.getElem?_eq_some_iff.1 hc).1 hd
  rwa [nx_of hc, ow_of hc] at this
theorem c18 {p : Sl} {cs : List Cell} (r : Rd h p 8 Cell.enc cs) (g : GoodC cs) (hn : cs.length ≤ 4096) {K : Int → H → Prop} (k : K 0 h) : S18 p h K := by
  have hl := r.len
  unfold S18
  rw [hl, if_neg (by simp only [decide_eq_true_eq]; omega)]
  refine lfp.count cs.length (fun i (s : Int) h' => s = (i : Int) ∧ h' = h) (fun X i s h' hi ⟨q1, q2⟩ next => ?_) ⟨rfl, rfl⟩
  subst q1 q2
  unfold S18_l7
  rw [hl]
  by_cases hlt : i < cs.length
  · rw [if_pos (by simp only [decide_eq_true_eq]; omega)]
    obtain ⟨c, hc⟩ : ∃ x, cs[i]? = some x := ⟨_, List.getElem?_eq_getElem hlt⟩
    obtain ⟨a, ha, rc⟩ := r.ix hc
    refine lfp.count 4 (fun d (s : Int) h2 => s = (d : Int) ∧ h2 = h') (fun Y d s h2 hd ⟨q1, q2⟩ nxt => ?_) ⟨rfl, rfl⟩
    subst q1 q2
    unfold S18_l6
    by_cases hd4 : d < 4
    · rw [if_pos (by simp only [decide_eq_true_eq]; omega)]
      refine ⟨a, ha, by omega, by omega, by omega, by omega, c.next d, by rw [Nat.mul_one, Int.toNat_natCast]; exact rc.at d (c.enc_next hd4), a, ha, by omega, by omega, by omega, by omega, c.own d, by rw [Nat.mul_one, Int.toNat_natCast, Int.toNat_natCast, Addr.add_add _ 4]; exact rc.at (4 + d) (enc_own c hd4), ?_⟩
      have fin : S18_j3 d Y h2 := by unfold S18_j3; exact nxt hd4 _ _ ⟨wsucc (by omega), rfl⟩
      rcases good_at g hc hd4 with ⟨e1, e2⟩ | ⟨w, w1, w2, w3, w4, w5, w6⟩
      · rw [if_pos (by simp [e1]), if_neg (by simp [e2])]; exact fin
      · rw [w3, if_neg (by simp only [beq_iff_eq]; omega)]
        unfold S18_j5
        rw [if_neg (by simp only [Bool.or_eq_true, decide_eq_true_eq, beq_iff_eq]; omega)]
        obtain ⟨cw, hcw⟩ : ∃ x, cs[w]? = some x := ⟨_, List.getElem?_eq_getElem w1⟩
        obtain ⟨a2, ha2, rw2⟩ := r.ix hcw
        have hop := opp_lt d
        rw [nx_of hcw] at w4
        rw [ow_of hcw] at w5
        have m2 : Int.tmod (IntKind.wrap .i64 ((d : Int) + 2)) 4 = ((opp d : Nat) : Int) := mod2 hd4
        rw [m2]
        refine ⟨a2, ha2, by omega, by omega, by omega, by omega, (i : Int), by rw [Nat.mul_one, Int.toNat_natCast, Int.toNat_natCast, ← w4]; exact rw2.at (opp d) (cw.enc_next hop), ?_⟩
        rw [if_neg (by simp)]
        refine ⟨a2, ha2, by omega, by omega, by omega, by omega, c.own d, by rw [Nat.mul_one, Int.toNat_natCast, Int.toNat_natCast, Addr.add_add _ 4, ← w5]; exact rw2.at (4 + opp d) (enc_own cw hop), ?_⟩
        rw [if_neg (by simp)]
        unfold S18_j4
        rw [if_neg (by simp only [decide_eq_true_eq]; omega)]; exact fin
    · rw [if_neg (by simp only [decide_eq_true_eq]; omega)]
      unfold S18_j2
      exact next hlt _ _ ⟨wsucc (by omega), rfl⟩
  · rw [if_neg (by simp only [decide_eq_true_eq]; omega)]
    exact k

/-- So many of the first sides lead somewhere. -/
def pdeg (c : Cell) : Nat → Nat
  | 0 => 0
  | d + 1 => pdeg c d + one (c.next d)
theorem pdeg_le (c : Cell) : ∀ d, pdeg c d ≤ d
  | 0 => Nat.le_refl _
  | d + 1 => by have := pdeg_le c d; unfold pdeg one; split <;> omega
theorem deg_of {cs : List Cell} {v : Nat} {c : Cell} (hc : cs[v]? = some c) : deg cs v = pdeg c 4 := by
  simp [deg, pdeg, nx_of hc]
theorem c19 {s : Sl} {q : Addr} {cs : List Cell} {v : Nat} (hq : h.rd q = some s.v) (r : Rd h s 8 Cell.enc cs) (g : GoodC cs) (hv : v < cs.length) {K : Int → H → Prop} (k : K (deg cs v : Nat) h) : S19 v q h K := by
  have hl := r.len
  obtain ⟨c, hc⟩ : ∃ x, cs[v]? = some x := ⟨_, List.getElem?_eq_getElem hv⟩
  obtain ⟨a, ha, rc⟩ := r.ix hc
  unfold S19
  refine ⟨s, hq, a, ha, by omega, by omega, c.n0, c.n1, c.n2, c.n3, ⟨rfl, fun j u hj => ?_⟩, ?_⟩
  · rw [Int.toNat_natCast]
    match j, hj with
    | 0, hj => exact rc.at 0 hj
    | 1, hj => exact rc.at 1 hj
    | 2, hj => exact rc.at 2 hj
    | 3, hj => exact rc.at 3 hj
    | j + 4, hj => simp at hj
  · refine lfp.count 4 (fun d (s : Int × Int) h2 => s = (((pdeg c d : Nat) : Int), (d : Int)) ∧ h2 = h) (fun Y d s h2 hd ⟨q1, q2⟩ nxt => ?_) ⟨rfl, rfl⟩
    subst q1 q2
    simp only
    unfold S19_l3
    have hp := pdeg_le c d
    by_cases hd4 : d < 4
    · rw [if_pos (by simp only [decide_eq_true_eq]; omega), sel_next c hd4]
      refine ⟨by omega, by omega, ?_⟩
      unfold S19_j2
      have fin : ∀ m : Nat, pdeg c d + one (c.next d) = m → Y ((m : Int), IntKind.i64.wrap ((d : Int) + 1)) h2 := fun m hm => nxt hd4 _ _ ⟨by rw [wsucc (by omega), ← hm]; rfl, rfl⟩
      rcases good_at g hc hd4 with ⟨e1, _⟩ | ⟨w, _, _, w3, _⟩
      · rw [if_neg (by simp only [decide_eq_true_eq]; omega)]
        exact fin _ (by rw [e1]; rfl)
      · rw [if_pos (by simp only [decide_eq_true_eq]; omega), wsucc (by omega)]
        exact fin _ (by rw [w3, one_nat])
    · rw [if_neg (by simp only [decide_eq_true_eq]; omega)]
      have : d = 4 := by omega
      subst this
      unfold S19_j1
      rw [← deg_of hc]; exact k
/-- So many of the first sides have an owner. -/
def pmn (c : Cell) : Nat → Nat
  | 0 => 0
  | d + 1 => pmn c d + mn1 (c.next d) (c.own d)
theorem pmn_le (c : Cell) : ∀ d, pmn c d ≤ d
  | 0 => Nat.le_refl _
  | d + 1 => by have := pmn_le c d; unfold pmn mn1; split <;> omega
theorem mn_of (c : Cell) : mn c = pmn c 4 := by simp [mn, pmn, Cell.next, Cell.own]
theorem cnt_le : ∀ (cs : List Cell), cnt cs ≤ 4 * cs.length
  | [] => Nat.le_refl _
  | c :: cs => by
    have := cnt_le cs
    have h2 := pmn_le c 4
    rw [← mn_of] at h2
    simp only [cnt, List.map_cons, List.sum_cons, List.length_cons] at this ⊢; omega
theorem cnt_take {cs : List Cell} {i : Nat} {c : Cell} (hc : cs[i]? = some c) : cnt (cs.take (i + 1)) = cnt (cs.take i) + mn c := by
  unfold cnt; rw [List.take_add_one, hc]; simp
/-- Three slices are laid into a variable of their own. -/
theorem alloc3 {x y z : Sl} {Kn : Nat → H → Prop} (k : ∀ b h4, St h h4 (fun _ : Unit => .blk b (.row ⟨[x.v, y.v, z.v], 3, 35, true, true⟩)) → Kn b h4) :
    ∀ (b : Nat) (h3 : H), h b = none → h3 = H.set h b (.row ⟨[(.slice none 0 0), (.slice none 0 0), (.slice none 0 0)], 3, 35, true, true⟩) → ∃ h4 : H, H.wr h3 ⟨b, 0, none⟩ [(.slice x.a x.l x.c), (.slice y.a y.l y.c), (.slice z.a z.l z.c)] h4 ∧ Kn b h4 := by
  intro b h3 hb e
  have s1 := (St.init (ρ := Unit) h).alloc (.row ⟨[(.slice none 0 0), (.slice none 0 0), (.slice none 0 0)], 3, 35, true, true⟩) hb () (fun _ => .blk b (.row ⟨[(.slice none 0 0), (.slice none 0 0), (.slice none 0 0)], 3, 35, true, true⟩)) rfl (fun i hi => (hi rfl).elim)
  rw [← e] at s1
  obtain ⟨h4, w4, s2⟩ := s1.wr (vs := [(.slice x.a x.l x.c), (.slice y.a y.l y.c), (.slice z.a z.l z.c)]) (off := 0) () rfl rfl (by simp) (fun _ : Unit => .blk b (.row ⟨[x.v, y.v, z.v], 3, 35, true, true⟩)) rfl (fun i hi => (hi rfl).elim)
  exact ⟨h4, w4, k b h4 s2⟩
end Go.Proofs.YtimadnngfhbfiaaDoor
end

section
/-
  NormCells: the whole law.
-/
namespace Go.Proofs.YtimadnngfhbfiaaDoor
open Go Go.Mu Go.Shape
variable {h h0 : H}
set_option maxHeartbeats 4000000

theorem want_take {es : List Ed} {v i : Nat} {e : Ed} (he : es[i]? = some e) : want (es.take (i + 1)) v = want (es.take i) v + (bi (e.f = v) + bi (e.t = v)) := by
  unfold want; rw [List.take_add_one, he]; simp
theorem want_le (es : List Ed) (v : Nat) : want es v ≤ 2 * es.length := by
  unfold want
  induction es with
  | nil => simp
  | cons e es ih =>
    simp only [List.map_cons, List.sum_cons, List.length_cons]
    have h1 : bi (e.f = v) ≤ 1 := by unfold bi; split <;> omega
    have h2 : bi (e.t = v) ≤ 1 := by unfold bi; split <;> omega
    omega
theorem bsum_take {es : List Ed} {i : Nat} {e : Ed} (he : es[i]? = some e) : ((es.take (i + 1)).map fun e => e.b.length).sum = ((es.take i).map fun e => e.b.length).sum + e.b.length := by
  rw [List.take_add_one, he]; simp
theorem bsum_le {n : Nat} : ∀ {es : List Ed}, (∀ e ∈ es, e.Ok n) → (es.map fun e => e.b.length).sum ≤ 3 * es.length
  | [], _ => by simp
  | e :: es, ok => by
    have ih := bsum_le (es := es) fun x hx => ok x (List.mem_cons_of_mem _ hx)
    have := (ok e List.mem_cons_self).b
    simp only [List.map_cons, List.sum_cons, List.length_cons]; omega
theorem firsts_at (bx : List Bool) (es : List Ed) {v : Nat} (hv : v < bx.length) : (firsts bx es bx.length)[v]? = some (verts bx es v).1.length := by
  simp [firsts, hv]

theorem c4 {z0 z1 z2 : Sl} (raw : RawIn h z0 z1 z2) {K : Bool → H → Prop} (k : ∀ h', K true h') : S4 z0 z1 z2 h K := by
  obtain ⟨zb, ze, zc, r0, r1, r2, u1, u2⟩ := raw.in'
  unfold S4
  refine c11 r0 r1 r2 u1 u2 fun bx es p0 p1 h1 st1 _ _ lb le ok => ?_
  have sh := two_shp st1 lb le ok
  refine c12 sh (fun hs h2 l2 => ?_) (fun hs ht h2 l2 => ?_) (fun hs ht c f w ws h2 st2 hws => ?_)
  · refine alloc3 fun b h4 s4 => c14 fun h5 l5 => ?_
    unfold S4_j20
    rw [if_pos (by simp)]
    exact c14 fun h6 _ => k h6
  · refine alloc3 fun b h4 s4 => c14 fun h5 l5 => ?_
    unfold S4_j20
    rw [if_pos (by simp)]
    exact c14 fun h6 _ => k h6
  refine alloc3 fun b h4 s4 => c14 fun h5 l5 => ?_
  unfold S4_j20
  rw [if_neg (by simp)]
  have st4 := (St.with st2 s4 .tmp).le' l5
  rw [refM_tmp] at st4
  have g : ∀ off y, ([c.v, f.v, w.v] : List Value)[off]? = some y → h5.rd ⟨b, off, none⟩ = some y := fun off y e => st4.rd .tmp rfl e
  have T := told ok hs ht
  have W := fun i e (he : es[i]? = some e) => ways_in (en := (verts bx es bx.length).2) (cs := (verts bx es bx.length).1) he
  have hvl := verts_len bx es bx.length
  have hbound : bx.length * (4 + 8 * es.length) ≤ 8 * 132 := Nat.mul_le_mul lb (by omega)
  have el := edges_len (en := (verts bx es bx.length).2) (cs := (verts bx es bx.length).1) ok es.length
  rw [List.take_length] at el
  have wl : ws.length = es.length := by have := congrArg List.length hws; rw [List.length_map, el.2] at this; omega
  have ge := edges_ge (en := (verts bx es bx.length).2) (cs := (verts bx es bx.length).1) (es := es) es.length
  rw [List.take_length] at ge
  generalize hE : edges (verts bx es bx.length).2 (verts bx es bx.length).1 es = E at T W st4 hws el ge
  have rc : Rd h5 c 8 Cell.enc E.1 := st4.arr .cells rfl (enc8 _) (by decide)
  have rf : Rd h5 f 1 encN (firsts bx es bx.length) := st4.arr .first rfl (enc1N _) (by decide)
  have rw_ : Rd h5 w 1 (fun p : Sl × List Nat => [p.1.v]) ws := st4.arr .ways rfl (fun _ _ => rfl) (by decide)
  have fl : (firsts bx es bx.length).length = bx.length := by simp [firsts]
  have sh5 := sh.mono st4.le
  have e0 := sh5.b.len
  have e1 := sh5.e.len
  have ecl := rc.len
  have efl := rf.len
  have ewl := rw_.len
  have bs_le := bsum_le ok
  refine ⟨c, g 0 _ rfl, c18 rc T.good (by omega) ?_⟩
  rw [if_neg (by decide)]
  refine ⟨f, g 1 _ rfl, ?_⟩
  rw [if_neg (by simp only [bne_iff_ne, ne_eq, Decidable.not_not]; omega)]
  refine ⟨w, g 2 _ rfl, ?_⟩
  unfold S4_j19
  rw [if_neg (by simp only [bne_iff_ne, ne_eq, Decidable.not_not]; omega)]
  refine ⟨c, g 0 _ rfl, ?_⟩
  -- how many ends have an owner
  refine lfp.count E.1.length (fun i (s : Int × Int) h' => s = (((cnt (E.1.take i) : Nat) : Int), (i : Int)) ∧ h' = h5) (fun X i s h' hi ⟨q1, q2⟩ next => ?_) ⟨rfl, rfl⟩
  subst q1 q2
  simp only
  unfold S4_l18
  rw [ecl]
  by_cases hlt : i < E.1.length
  · rw [if_pos (by simp only [decide_eq_true_eq]; omega)]
    obtain ⟨x, hx⟩ : ∃ x, E.1[i]? = some x := ⟨_, List.getElem?_eq_getElem hlt⟩
    obtain ⟨a, ha, ra⟩ := rc.ix hx
    have hcl := cnt_le (E.1.take i)
    rw [List.length_take] at hcl
    refine ⟨a, ha, by omega, by omega, x.n0, x.n1, x.n2, x.n3, x.o0, x.o1, x.o2, x.o3, by rw [Int.toNat_natCast]; exact ra, ?_⟩
    refine lfp.count 4 (fun d (s : Int × Int) h2 => s = (((cnt (E.1.take i) + pmn x d : Nat) : Int), (d : Int)) ∧ h2 = h') (fun Y d s h2 hd ⟨q1, q2⟩ nxt => ?_) ⟨rfl, rfl⟩
    subst q1 q2
    simp only
    unfold S4_l17
    have hp := pmn_le x d
    by_cases hd4 : d < 4
    · rw [if_pos (by simp only [decide_eq_true_eq]; omega), sel_next x hd4, sel_own x hd4]
      refine ⟨by omega, by omega, ?_⟩
      have fin : ∀ m : Nat, cnt (E.1.take i) + (pmn x d + mn1 (x.next d) (x.own d)) = m → S4_j15 K x.n0 x.n1 x.n2 x.n3 x.o0 x.o1 x.o2 x.o3 d Y m h2 := fun m hm => by
        have last : ∀ b : Bool, b = false → S4_j14 K d Y m b h2 := fun b hb => by
          subst hb
          unfold S4_j14
          rw [if_neg (by decide)]
          exact nxt hd4 _ _ ⟨by rw [wsucc (by omega), ← hm]; rfl, rfl⟩
        unfold S4_j15
        rw [sel_next x hd4, sel_own x hd4]
        refine ⟨by omega, by omega, ?_⟩
        rcases good_at T.good hx hd4 with ⟨e1, e2⟩ | ⟨y, y1, y2, y3, y4, y5, y6⟩
        · rw [if_neg (by simp only [decide_eq_true_eq]; omega)]; exact last _ rfl
        · rw [if_pos (by simp only [decide_eq_true_eq]; omega)]
          exact ⟨by omega, by omega, last _ (by simp only [beq_eq_false_iff_ne]; omega)⟩
      rcases good_at T.good hx hd4 with ⟨e1, e2⟩ | ⟨y, y1, y2, y3, y4, y5, y6⟩
      · rw [if_neg (by simp only [decide_eq_true_eq]; omega)]
        unfold S4_j16
        rw [if_neg (by decide)]
        exact fin _ (by rw [e1]; rfl)
      · rw [if_pos (by simp only [decide_eq_true_eq]; omega)]
        refine ⟨by omega, by omega, ?_⟩
        unfold S4_j16
        by_cases ho : 0 ≤ x.own d
        · rw [if_pos (by simp only [decide_eq_true_eq]; omega), wsucc (by omega)]
          exact fin _ (by rw [y3, mn1_nat, if_pos ho]; omega)
        · rw [if_neg (by simp only [decide_eq_true_eq]; omega)]
          exact fin _ (by rw [y3, mn1_nat, if_neg ho]; omega)
    · rw [if_neg (by simp only [decide_eq_true_eq]; omega)]
      have : d = 4 := by omega
      subst this
      unfold S4_j13
      exact next hlt _ _ ⟨by rw [wsucc (by omega), cnt_take hx, mn_of], rfl⟩
  rw [if_neg (by simp only [decide_eq_true_eq]; omega), List.take_of_length_le (by omega)]
  clear next
  -- the ways
  unfold S4_j12
  refine lfp.count es.length (fun i (s : Int × Int) h2 => s = (((((es.take i).map fun e => e.b.length).sum : Nat) : Int), (i : Int)) ∧ h2 = h') (fun X i s h2 hi ⟨q1, q2⟩ next => ?_) ⟨rfl, rfl⟩
  subst q1 q2
  simp only
  unfold S4_l11
  rw [e1]
  by_cases hlt2 : i < es.length
  · rw [if_pos (by simp only [decide_eq_true_eq]; omega)]
    obtain ⟨e, he⟩ : ∃ x, es[i]? = some x := ⟨_, List.getElem?_eq_getElem hlt2⟩
    obtain ⟨a, ha, ra⟩ := sh5.e.ix he
    have hb4 := (ok e (List.mem_of_getElem? he)).b
    obtain ⟨x, hx⟩ : ∃ x, ws[i]? = some x := ⟨_, List.getElem?_eq_getElem (by omega)⟩
    obtain ⟨aw, haw, qw⟩ := rw_.ix hx
    obtain ⟨u, hu1, hu2, hu3⟩ := W i e he
    have hx2 : x.2 = (verts bx es bx.length).2.getD (2 * i) 0 :: u ++ [(verts bx es bx.length).2.getD (2 * i + 1) 0] := by
      have q : (ws.map (·.2))[i]? = some x.2 := by rw [List.getElem?_map, hx]; rfl
      rw [hws, hu1] at q
      exact (Option.some.inj q).symm
    have rx : Rd h2 x.1 1 encN x.2 := st4.arr (e := 3) (.way i) (by simp only [refM, hx]) (enc1N _) (by decide)
    have hxl : x.1.l = e.b.length + 2 := by rw [rx.1, hx2]; simp; omega
    have hcap : x.1.l ≤ x.1.c := by
      have o := st4.own (sl := x.1) (e := 3) (size := 1) (xs := x.2.flatMap encN) (.way i) (by simp only [refM, hx])
      rcases o.2 with ⟨hv, hz⟩ | ⟨gb, cap, hv, _, hc, _⟩
      · omega
      · simp only [Value.slice.injEq] at hv; omega
    have hbl := bsum_le (es := es.take i) (n := bx.length) fun y hy => ok y (List.mem_of_mem_take hy)
    rw [List.length_take] at hbl
    refine ⟨a, ha, by omega, by omega, e.f, e.t, e.d, bs e.b, by rw [Int.toNat_natCast]; exact ra, w, g 2 _ rfl, aw, haw, by omega, by omega, x.1, by rw [Int.toNat_natCast]; exact qw.at0, ?_⟩
    rw [bs_size, wrapN (x := (e.b.length : Int) + 2) (n := e.b.length + 2) (by omega) (by omega), if_neg (by simp only [bne_iff_ne, ne_eq, Decidable.not_not]; omega)]
    have hw : IntKind.i64.wrap ((x.1.l : Int) - 1) = ((e.b.length + 1 : Nat) : Int) := wrapN (by omega) (by omega)
    rw [hw]
    refine ⟨by decide, by omega, by omega, hcap, ?_⟩
    refine lfp.count e.b.length (fun j (s : Int) h3 => s = (j : Int) ∧ h3 = h2) (fun Y j s h3 hj ⟨q1, q2⟩ nxt => ?_) ⟨rfl, rfl⟩
    subst q1 q2
    unfold S4_l10
    rw [hw]
    have hsub : Nat.sub (Int.toNat ((e.b.length + 1 : Nat) : Int)) (Int.toNat 1) = e.b.length := rfl
    rw [hsub]
    by_cases hj2 : j < e.b.length
    · rw [if_pos (by simp only [decide_eq_true_eq]; omega)]
      obtain ⟨ax, hax, qx⟩ := rx.ix (i := j + 1) (y := u[j]'(by omega)) (by rw [hx2]; simp [List.getElem?_append_left (show j < u.length by omega)])
      have hy := hu3 (u[j]'(by omega)) (List.getElem_mem _)
      refine ⟨ax.add 1, by rw [if_neg (show ¬ x.1.c = Int.toNat 1 by show ¬ x.1.c = 1; omega), hax]; rfl, by omega, by omega, (u[j]'(by omega) : Nat), ?_, c19 (g 0 _ rfl) rc T.good hy.2 ?_⟩
      · rw [Addr.add_add, Int.toNat_natCast, Nat.mul_one, Nat.add_comm 1 j]
        have := qx.at0; rwa [Nat.mul_one] at this
      · rw [T.dn _ hy.1 hy.2, if_neg (by decide), wsucc (by omega)]
        exact nxt hj2 _ _ ⟨rfl, rfl⟩
    · rw [if_neg (by simp only [decide_eq_true_eq]; omega)]
      unfold S4_j9
      refine next hlt2 _ _ ⟨?_, rfl⟩
      rw [bs_size, wsucc (by omega), bsum_take he, wrapN (n := ((es.take i).map fun e => e.b.length).sum + e.b.length) (by omega) (by omega)]
  rw [if_neg (by simp only [decide_eq_true_eq]; omega), List.take_of_length_le (by omega)]
  clear next
  -- the vertices
  unfold S4_j8
  refine lfp.count bx.length (fun v (s : Int) h3 => s = (v : Int) ∧ h3 = h2) (fun X v s h3 hv ⟨q1, q2⟩ next => ?_) ⟨rfl, rfl⟩
  subst q1 q2
  unfold S4_l7
  rw [e0]
  by_cases hlt3 : v < bx.length
  · rw [if_pos (by simp only [decide_eq_true_eq]; omega)]
    obtain ⟨x, hx⟩ : ∃ x, bx[v]? = some x := ⟨_, List.getElem?_eq_getElem hlt3⟩
    obtain ⟨a, ha, ra⟩ := sh5.b.ix hx
    have hxd : bx.getD v false = x := by rw [List.getD_eq_getElem?_getD, hx]; rfl
    refine ⟨a, ha, by omega, by omega, x, by rw [Int.toNat_natCast]; exact ra.at0, ?_⟩
    refine lfp.count es.length (fun i (s : Int × Int) h4 => s = (((want (es.take i) v : Nat) : Int), (i : Int)) ∧ h4 = h3) (fun Y i s h4 hi ⟨q1, q2⟩ nxt => ?_) ⟨rfl, rfl⟩
    subst q1 q2
    simp only
    unfold S4_l6
    rw [e1]
    have hwl := want_le (es.take i) v
    rw [List.length_take] at hwl
    by_cases hi2 : i < es.length
    · rw [if_pos (by simp only [decide_eq_true_eq]; omega)]
      obtain ⟨e, he⟩ : ∃ x, es[i]? = some x := ⟨_, List.getElem?_eq_getElem hi2⟩
      obtain ⟨a, ha, ra⟩ := sh5.e.ix he
      refine ⟨a, ha, by omega, by omega, e.f, e.t, e.d, bs e.b, by rw [Int.toNat_natCast]; exact ra, ?_⟩
      have fin : ∀ m : Nat, want (es.take i) v + (bi (e.f = v) + bi (e.t = v)) = m → S4_j4 i Y m h4 := fun m hm => by
        unfold S4_j4
        exact nxt hi2 _ _ ⟨by rw [wsucc (by omega), want_take he, hm], rfl⟩
      have half : ∀ m : Nat, m ≤ 1000 → want (es.take i) v + bi (e.f = v) = m → S4_j5 v i Y e.t m h4 := fun m hml hm => by
        unfold S4_j5
        by_cases ht2 : e.t = v
        · rw [if_pos (by simp [ht2]), wsucc (by omega)]
          exact fin _ (by rw [bi_yes ht2]; omega)
        · rw [if_neg (by simp only [beq_iff_eq]; omega)]
          exact fin _ (by rw [bi_no ht2]; omega)
      by_cases hf2 : e.f = v
      · rw [if_pos (by simp [hf2]), wsucc (by omega)]
        exact half _ (by omega) (by rw [bi_yes hf2])
      · rw [if_neg (by simp only [beq_iff_eq]; omega)]
        exact half _ (by omega) (by rw [bi_no hf2]; rfl)
    · rw [if_neg (by simp only [decide_eq_true_eq]; omega), List.take_of_length_le (by omega)]
      clear nxt
      have hfv := firsts_at bx es hlt3
      obtain ⟨af, haf, qf⟩ := rf.ix hfv
      have hvlt : (verts bx es v).1.length < E.1.length := by
        have h1 := verts_mono bx es (v := v + 1) (n := bx.length) (by omega)
        have h2 := vtx_ge bx es (verts bx es v) v
        rw [← verts_succ] at h2; omega
      have fin : S4_j2 K v X false h4 := by
        unfold S4_j2
        rw [if_neg (by decide), wsucc (by omega)]
        exact next hlt3 _ _ ⟨rfl, rfl⟩
      unfold S4_j3
      cases x with
      | false =>
        rw [if_pos (by decide)]
        refine ⟨f, g 1 _ rfl, af, haf, by omega, by omega, _, by rw [Int.toNat_natCast]; exact qf.at0, c19 (g 0 _ rfl) rc T.good hvlt ?_⟩
        rw [T.pt v hlt3 hxd, if_neg (by simp), if_neg (by decide)]
        exact fin
      | true =>
        rw [if_neg (by decide), if_pos rfl]
        refine ⟨f, g 1 _ rfl, af, haf, by omega, by omega, _, by rw [Int.toNat_natCast]; exact qf.at0, c19 (g 0 _ rfl) rc T.good hvlt ?_⟩
        rw [T.bx_ v hlt3 hxd]
        exact fin
  rw [if_neg (by simp only [decide_eq_true_eq]; omega)]
  unfold S4_j1
  have w1 : IntKind.i64.wrap ((es.length : Int) + ((es.map fun e => e.b.length).sum : Nat)) = ((es.length + (es.map fun e => e.b.length).sum : Nat) : Int) := wrapN (by omega) (by omega)
  have w2 : IntKind.i64.wrap (2 * ((es.length + (es.map fun e => e.b.length).sum : Nat) : Int)) = ((2 * (es.length + (es.map fun e => e.b.length).sum) : Nat) : Int) := wrapN (by omega) (by omega)
  rw [e1, w1, w2, T.cn]
  simp only [beq_self_eq_true]
  exact k _
end Go.Proofs.YtimadnngfhbfiaaDoor
end

section
/- PRINTED by wip/gen.py: facts of the program's types and calls. -/
namespace Go.Proofs.YtimadnngfhbfiaaDoor
open Go Go.Mu
set_option maxRecDepth 100000
theorem MO : Tryd.prog.follows .mixedOrders = true := by kernel_rfl
theorem CB11 : callB Tryd.prog 11 = true := by kernel_rfl
theorem CB12 : callB Tryd.prog 12 = true := by kernel_rfl
theorem CB13 : callB Tryd.prog 13 = true := by kernel_rfl
theorem CB14 : callB Tryd.prog 14 = true := by kernel_rfl
theorem CB15 : callB Tryd.prog 15 = true := by kernel_rfl
theorem CB16 : callB Tryd.prog 16 = true := by kernel_rfl
theorem CB17 : callB Tryd.prog 17 = true := by kernel_rfl
theorem CB18 : callB Tryd.prog 18 = true := by kernel_rfl
theorem CB19 : callB Tryd.prog 19 = true := by kernel_rfl
theorem CB20 : callB Tryd.prog 20 = true := by kernel_rfl
theorem CB21 : callB Tryd.prog 21 = true := by kernel_rfl
theorem CB23 : callB Tryd.prog 23 = true := by kernel_rfl
theorem CB39 : callB Tryd.prog 39 = true := by kernel_rfl
theorem CB40 : callB Tryd.prog 40 = true := by kernel_rfl
theorem CB41 : callB Tryd.prog 41 = true := by kernel_rfl
theorem CB42 : callB Tryd.prog 42 = true := by kernel_rfl
theorem CB43 : callB Tryd.prog 43 = true := by kernel_rfl
theorem CB44 : callB Tryd.prog 44 = true := by kernel_rfl
theorem CB45 : callB Tryd.prog 45 = true := by kernel_rfl
theorem CB46 : callB Tryd.prog 46 = true := by kernel_rfl
theorem CB47 : callB Tryd.prog 47 = true := by kernel_rfl
theorem CB48 : callB Tryd.prog 48 = true := by kernel_rfl
theorem CB49 : callB Tryd.prog 49 = true := by kernel_rfl
theorem CB50 : callB Tryd.prog 50 = true := by kernel_rfl
theorem CB51 : callB Tryd.prog 51 = true := by kernel_rfl
theorem CB52 : callB Tryd.prog 52 = true := by kernel_rfl
theorem CB53 : callB Tryd.prog 53 = true := by kernel_rfl
theorem CB54 : callB Tryd.prog 54 = true := by kernel_rfl
theorem CB56 : callB Tryd.prog 56 = true := by kernel_rfl
theorem CB58 : callB Tryd.prog 58 = true := by kernel_rfl
theorem CB70 : callB Tryd.prog 70 = true := by kernel_rfl
theorem CB71 : callB Tryd.prog 71 = true := by kernel_rfl
theorem CB72 : callB Tryd.prog 72 = true := by kernel_rfl
theorem CB73 : callB Tryd.prog 73 = true := by kernel_rfl
theorem CB74 : callB Tryd.prog 74 = true := by kernel_rfl
theorem CB75 : callB Tryd.prog 75 = true := by kernel_rfl
theorem CB76 : callB Tryd.prog 76 = true := by kernel_rfl
theorem CB77 : callB Tryd.prog 77 = true := by kernel_rfl
theorem CB78 : callB Tryd.prog 78 = true := by kernel_rfl
theorem CB79 : callB Tryd.prog 79 = true := by kernel_rfl
theorem CB92 : callB Tryd.prog 92 = true := by kernel_rfl
theorem CB93 : callB Tryd.prog 93 = true := by kernel_rfl
theorem CB94 : callB Tryd.prog 94 = true := by kernel_rfl
theorem CB95 : callB Tryd.prog 95 = true := by kernel_rfl
theorem CB96 : callB Tryd.prog 96 = true := by kernel_rfl
theorem CB97 : callB Tryd.prog 97 = true := by kernel_rfl
theorem CB99 : callB Tryd.prog 99 = true := by kernel_rfl
theorem CB101 : callB Tryd.prog 101 = true := by kernel_rfl
theorem CB106 : callB Tryd.prog 106 = true := by kernel_rfl
theorem CB107 : callB Tryd.prog 107 = true := by kernel_rfl
theorem CB109 : callB Tryd.prog 109 = true := by kernel_rfl
theorem EG51 : Program.eqGuardType Tryd.prog (Program.depth Tryd.prog) 51 = false := by kernel_rfl
theorem SH51 : Program.stoodInHeld Tryd.prog 51 = false := by kernel_rfl
theorem T3 : TI Tryd.prog 3 (.int .i64 0) 1 8 := by unfold TI; kernel_rfl
theorem T4 : TI Tryd.prog 4 (.bool false) 1 1 := by unfold TI; kernel_rfl
theorem T5 : TI Tryd.prog 5 (.int .u8 0) 1 1 := by unfold TI; kernel_rfl
theorem T9 : TI Tryd.prog 9 (.string ⟨#[]⟩) 1 16 := by unfold TI; kernel_rfl
theorem T22 : TI Tryd.prog 22 (.slice none 0 0) 1 24 := by unfold TI; kernel_rfl
theorem T23 : TI Tryd.prog 23 (.slice none 0 0) 1 24 := by unfold TI; kernel_rfl
theorem T24 : TI Tryd.prog 24 (.slice none 0 0) 1 24 := by unfold TI; kernel_rfl
theorem T26 : TI Tryd.prog 26 (.agg #[(.slice none 0 0), (.slice none 0 0), (.slice none 0 0)]) 3 72 := by unfold TI; kernel_rfl
theorem T27 : TI Tryd.prog 27 (.slice none 0 0) 1 24 := by unfold TI; kernel_rfl
theorem T29 : TI Tryd.prog 29 (.agg #[(.slice none 0 0), (.slice none 0 0)]) 2 48 := by unfold TI; kernel_rfl
theorem T31 : TI Tryd.prog 31 (.slice none 0 0) 1 24 := by unfold TI; kernel_rfl
theorem T32 : TI Tryd.prog 32 (.slice none 0 0) 1 24 := by unfold TI; kernel_rfl
theorem T33 : TI Tryd.prog 33 (.slice none 0 0) 1 24 := by unfold TI; kernel_rfl
theorem T35 : TI Tryd.prog 35 (.agg #[(.slice none 0 0), (.slice none 0 0), (.slice none 0 0)]) 3 72 := by unfold TI; kernel_rfl
theorem T41 : TI Tryd.prog 41 (.slice none 0 0) 1 24 := by unfold TI; kernel_rfl
theorem T43 : TI Tryd.prog 43 (.agg #[(.slice none 0 0), (.slice none 0 0), (.slice none 0 0), (.slice none 0 0)]) 4 96 := by unfold TI; kernel_rfl
theorem T49 : TI Tryd.prog 49 (.agg #[(.int .i64 0), (.int .i64 0), (.int .i64 0), (.int .i64 0)]) 4 32 := by unfold TI; kernel_rfl
theorem T51 : TI Tryd.prog 51 (.agg #[(.int .i64 0), (.int .i64 0), (.int .i64 0), (.int .i64 0), (.int .i64 0), (.int .i64 0), (.int .i64 0), (.int .i64 0)]) 8 64 := by unfold TI; kernel_rfl
theorem T54 : TI Tryd.prog 54 (.agg #[(.int .i64 0), (.int .i64 0), (.int .i64 0), (.string ⟨#[]⟩)]) 4 40 := by unfold TI; kernel_rfl
theorem T100 : TI Tryd.prog 100 (.agg #[(.int .u8 0), (.int .u8 0), (.int .u8 0)]) 3 3 := by unfold TI; kernel_rfl
theorem T103 : TI Tryd.prog 103 (.pointer none) 1 8 := by unfold TI; kernel_rfl
theorem T104 : TI Tryd.prog 104 (.slice none 0 0) 1 24 := by unfold TI; kernel_rfl
theorem T106 : TI Tryd.prog 106 (.agg #[(.slice none 0 0), (.slice none 0 0), (.pointer none), (.slice none 0 0), (.slice none 0 0), (.slice none 0 0), (.slice none 0 0), (.slice none 0 0)]) 8 176 := by unfold TI; kernel_rfl
theorem T116 : TI Tryd.prog 116 (.agg #[(.int .i64 0), (.int .i64 0)]) 2 16 := by unfold TI; kernel_rfl
theorem T144 : TI Tryd.prog 144 (.slice none 0 0) 1 24 := by unfold TI; kernel_rfl
theorem T145 : TI Tryd.prog 145 (.agg #[(.slice none 0 0), (.slice none 0 0), (.slice none 0 0), (.slice none 0 0)]) 4 96 := by unfold TI; kernel_rfl
theorem T147 : TI Tryd.prog 147 (.agg #[(.int .i64 0), (.int .i64 0)]) 2 16 := by unfold TI; kernel_rfl
theorem T151 : TI Tryd.prog 151 (.agg #[(.slice none 0 0)]) 1 24 := by unfold TI; kernel_rfl
end Go.Proofs.YtimadnngfhbfiaaDoor
end

section
/- PRINTED by wip/gen.py: the machine's call of muntin/muntinref08.Make does what S11 says. -/
namespace Go.Proofs.YtimadnngfhbfiaaDoor
open Go Go.Mu
set_option maxHeartbeats 4000000
set_option maxRecDepth 100000
theorem f11_ok {p0_0 : Sl} {p0_1 : Sl} {p0_2 : Sl} {p1 : Int} {h : H} {K : Sl → Sl → H → Prop} (hS : S11 p0_0 p0_1 p0_2 p1 h K) : ACall Tryd.prog 11 ([(.agg ([(.slice p0_0.a p0_0.l p0_0.c), (.slice p0_1.a p0_1.l p0_1.c), (.slice p0_2.a p0_2.l p0_2.c)] : List Value).toArray), (.int .i64 p1)] : List Value).toArray h (fun r h' => ∃ r0_0 : Sl, ∃ r0_1 : Sl, r = tup [(.agg ([(.slice r0_0.a r0_0.l r0_0.c), (.slice r0_1.a r0_1.l r0_1.c)] : List Value).toArray)] ∧ K r0_0 r0_1 h') := by
  refine ACall.enter (fn := Tryd.f11) Tryd.func11 rfl (Nat.le_of_ble_eq_true rfl) ?_
  unfold S11 at hS
  have ok := Lok.nil h
  change EvC _ _ _ _ (H.add h []) _
  refine EvC.seq ?_
  refine EvC.region [Item.alc 0, Item.alc 1] (by kernel_rfl) ?_
  refine R.var (blk := .row ⟨[(.slice p0_0.a p0_0.l p0_0.c), (.slice p0_1.a p0_1.l p0_1.c), (.slice p0_2.a p0_2.l p0_2.c)], 3, 26, true, true⟩) ok rfl rfl rfl (Ac.box rfl rfl) rfl rfl fun b2 ok => ?_
  refine R.var (blk := .row ⟨[(.slice none 0 0), (.slice none 0 0)], 2, 29, true, true⟩) ok rfl rfl rfl (Ac.alloc rfl T29) rfl rfl fun b4 ok => ?_
  refine R.nil ?_
  refine EvC.seq ?_
  refine EvC.region [Item.look 0, Item.alc 1, Item.eff 2 []] (by kernel_rfl) ?_
  refine R.look rfl rfl rfl (Lk.build (cs := [(.slice none 0 0), (.slice none 0 0)]) (pl := [(0, 1), (1, 1)]) rfl Tryd.underlying29 T29 (PlacesL.places (.cons T22 (.cons T27 PlacesL.nil))) rfl rfl) fun _ => ?_
  refine R.var (blk := .row ⟨[(.slice none 0 0), (.slice none 0 0)], 2, 29, true, true⟩) ok rfl rfl rfl (Ac.alloc rfl T29) rfl rfl fun b5 ok => ?_
  refine R.effN rfl rfl rfl (Ef.storeLoc (i := 0) (vs := [(.slice none 0 0), (.slice none 0 0)]) (cs := [(.slice none 0 0), (.slice none 0 0)]) (l' := [(b5, .row ⟨[(.slice none 0 0), (.slice none 0 0)], 2, 29, true, true⟩), (b4, .row ⟨[(.slice none 0 0), (.slice none 0 0)], 2, 29, true, true⟩), (b2, .row ⟨[(.slice p0_0.a p0_0.l p0_0.c), (.slice p0_1.a p0_1.l p0_1.c), (.slice p0_2.a p0_2.l p0_2.c)], 3, 26, true, true⟩)]) ok rfl T29 rfl rfl rfl rfl rfl rfl rfl rfl rfl rfl fun ok => ⟨noChk, ?_⟩)
  refine R.nil ?_
  refine EvC.join (σ := Sl × Sl) (fun s => (Env.put (Env.put (Env.put (Env.put Env.emp 5 (.pointer (some ⟨b5, 0, none⟩))) 4 (.pointer (some ⟨b4, 0, none⟩))) 2 (.pointer (some ⟨b2, 0, none⟩))) 1 (.int .i64 p1))) (fun s => [(b5, .row ⟨[(.slice s.1.a s.1.l s.1.c), (.slice s.2.a s.2.l s.2.c)], 2, 29, true, true⟩), (b4, .row ⟨[(.slice none 0 0), (.slice none 0 0)], 2, 29, true, true⟩), (b2, .row ⟨[(.slice p0_0.a p0_0.l p0_0.c), (.slice p0_1.a p0_1.l p0_1.c), (.slice p0_2.a p0_2.l p0_2.c)], 3, 26, true, true⟩)]) (fun s h_1 => S11_j7 p0_1 p0_2 p1 K s.1 s.2 h_1) ?_ (fun Ih_1 hIh_1 => ?_)
  · rintro ⟨c5_0, c5_1⟩ h_1 ok hS
    replace hS : S11_j7 p0_1 p0_2 p1 K c5_0 c5_1 h_1 := hS
    change EvC _ _ _ (Env.put (Env.put (Env.put (Env.put Env.emp 5 (.pointer (some ⟨b5, 0, none⟩))) 4 (.pointer (some ⟨b4, 0, none⟩))) 2 (.pointer (some ⟨b2, 0, none⟩))) 1 (.int .i64 p1)) (H.add h_1 [(b5, .row ⟨[(.slice c5_0.a c5_0.l c5_0.c), (.slice c5_1.a c5_1.l c5_1.c)], 2, 29, true, true⟩), (b4, .row ⟨[(.slice none 0 0), (.slice none 0 0)], 2, 29, true, true⟩), (b2, .row ⟨[(.slice p0_0.a p0_0.l p0_0.c), (.slice p0_1.a p0_1.l p0_1.c), (.slice p0_2.a p0_2.l p0_2.c)], 3, 26, true, true⟩)]) _
    unfold S11_j7 at hS
    refine EvC.join (σ := Sl × Sl) (fun s => (Env.put (Env.put Env.emp 5 (.pointer (some ⟨b5, 0, none⟩))) 4 (.pointer (some ⟨b4, 0, none⟩)))) (fun s => [(b5, .row ⟨[(.slice s.1.a s.1.l s.1.c), (.slice s.2.a s.2.l s.2.c)], 2, 29, true, true⟩), (b4, .row ⟨[(.slice none 0 0), (.slice none 0 0)], 2, 29, true, true⟩)]) (fun s h_2 => S11_j1 K s.1 s.2 h_2) ?_ (fun Ih_2 hIh_2 => ?_)
    · rintro ⟨c5_0_1, c5_1_1⟩ h_2 ok hS
      replace hS : S11_j1 K c5_0_1 c5_1_1 h_2 := hS
      change EvC _ _ _ (Env.put (Env.put Env.emp 5 (.pointer (some ⟨b5, 0, none⟩))) 4 (.pointer (some ⟨b4, 0, none⟩))) (H.add h_2 [(b5, .row ⟨[(.slice c5_0_1.a c5_0_1.l c5_0_1.c), (.slice c5_1_1.a c5_1_1.l c5_1_1.c)], 2, 29, true, true⟩), (b4, .row ⟨[(.slice none 0 0), (.slice none 0 0)], 2, 29, true, true⟩)]) _
      unfold S11_j1 at hS
      refine EvC.seq ?_
      refine EvC.region [Item.look 0, Item.eff 1 []] (by kernel_rfl) ?_
      refine R.look rfl rfl rfl (Lk.loadN (vs := [(.slice c5_0_1.a c5_0_1.l c5_0_1.c), (.slice c5_1_1.a c5_1_1.l c5_1_1.c)]) rfl Tryd.underlying29 rfl T29 rfl (H.rdn_loc ok (i := 0) rfl rfl rfl)) fun _ => ?_
      refine R.effN rfl rfl rfl (Ef.storeLoc (i := 1) (vs := [(.slice c5_0_1.a c5_0_1.l c5_0_1.c), (.slice c5_1_1.a c5_1_1.l c5_1_1.c)]) (cs := [(.slice c5_0_1.a c5_0_1.l c5_0_1.c), (.slice c5_1_1.a c5_1_1.l c5_1_1.c)]) (l' := [(b5, .row ⟨[(.slice c5_0_1.a c5_0_1.l c5_0_1.c), (.slice c5_1_1.a c5_1_1.l c5_1_1.c)], 2, 29, true, true⟩), (b4, .row ⟨[(.slice c5_0_1.a c5_0_1.l c5_0_1.c), (.slice c5_1_1.a c5_1_1.l c5_1_1.c)], 2, 29, true, true⟩)]) ok rfl T29 rfl rfl rfl rfl rfl rfl rfl rfl rfl rfl fun ok => ⟨noChk, ?_⟩)
      refine R.nil ?_
      refine EvC.ret ?_
      exact ⟨.inr rfl, _, _, (.cons (.cells rfl (fun w => Und.agg Tryd.underlying29 w) (fun w => T29.size_ w) (H.rdn_loc ok (i := 1) rfl rfl rfl)) .nil), ok.le, _, _, rfl, hS⟩
    · refine EvC.seq ?_
      refine EvC.region [Item.look 0] (by kernel_rfl) ?_
      refine R.look rfl rfl rfl (Lk.assign rfl rfl) fun _ => ?_
      refine R.nil ?_
      refine EvC.block ?_
      refine EvC.loop ?_
      refine LoopC.lfp (σ := Int × Sl × Sl) (fun s => (Env.put (Env.put (Env.put (Env.put (Env.put Env.emp 7 (.int .i64 s.1)) 5 (.pointer (some ⟨b5, 0, none⟩))) 4 (.pointer (some ⟨b4, 0, none⟩))) 2 (.pointer (some ⟨b2, 0, none⟩))) 1 (.int .i64 p1))) (fun s => [(b5, .row ⟨[(.slice s.2.1.a s.2.1.l s.2.1.c), (.slice s.2.2.a s.2.2.l s.2.2.c)], 2, 29, true, true⟩), (b4, .row ⟨[(.slice none 0 0), (.slice none 0 0)], 2, 29, true, true⟩), (b2, .row ⟨[(.slice p0_0.a p0_0.l p0_0.c), (.slice p0_1.a p0_1.l p0_1.c), (.slice p0_2.a p0_2.l p0_2.c)], 3, 26, true, true⟩)]) (fun X hX => ?_) hS (ok.sub (.cons_cons _ (.cons_cons _ (.cons_cons _ List.Sublist.slnil)))) (Env.le_put rfl (Env.le_put rfl (Env.le_put rfl (Env.le_put rfl (Env.le_put rfl (Env.le_emp _)))))) (H.add_sub ok (.cons_cons _ (.cons_cons _ (.cons_cons _ List.Sublist.slnil))))
      rintro ⟨v7, c5_0_2, c5_1_2⟩ h_3 hS ok
      replace hS : S11_l6 p0_1 p0_2 p1 K X v7 c5_0_2 c5_1_2 h_3 := hS
      change EvC _ _ _ (Env.put (Env.put (Env.put (Env.put (Env.put Env.emp 7 (.int .i64 v7)) 5 (.pointer (some ⟨b5, 0, none⟩))) 4 (.pointer (some ⟨b4, 0, none⟩))) 2 (.pointer (some ⟨b2, 0, none⟩))) 1 (.int .i64 p1)) (H.add h_3 [(b5, .row ⟨[(.slice c5_0_2.a c5_0_2.l c5_0_2.c), (.slice c5_1_2.a c5_1_2.l c5_1_2.c)], 2, 29, true, true⟩), (b4, .row ⟨[(.slice none 0 0), (.slice none 0 0)], 2, 29, true, true⟩), (b2, .row ⟨[(.slice p0_0.a p0_0.l p0_0.c), (.slice p0_1.a p0_1.l p0_1.c), (.slice p0_2.a p0_2.l p0_2.c)], 3, 26, true, true⟩)]) _
      unfold S11_l6 at hS
      refine EvC.seq ?_
      refine EvC.join (σ := Bool) (fun s => (Env.put (Env.put (Env.put (Env.put (Env.put (Env.put Env.emp 49 (.bool s)) 7 (.int .i64 v7)) 5 (.pointer (some ⟨b5, 0, none⟩))) 4 (.pointer (some ⟨b4, 0, none⟩))) 2 (.pointer (some ⟨b2, 0, none⟩))) 1 (.int .i64 p1))) (fun s => [(b5, .row ⟨[(.slice c5_0_2.a c5_0_2.l c5_0_2.c), (.slice c5_1_2.a c5_1_2.l c5_1_2.c)], 2, 29, true, true⟩), (b4, .row ⟨[(.slice none 0 0), (.slice none 0 0)], 2, 29, true, true⟩), (b2, .row ⟨[(.slice p0_0.a p0_0.l p0_0.c), (.slice p0_1.a p0_1.l p0_1.c), (.slice p0_2.a p0_2.l p0_2.c)], 3, 26, true, true⟩)]) (fun s h_4 => S11_j5 p0_1 p0_2 K v7 c5_0_2 c5_1_2 X s h_4) ?_ (fun Ih_4 hIh_4 => ?_)
      · intro v49 h_4 ok hS
        replace hS : S11_j5 p0_1 p0_2 K v7 c5_0_2 c5_1_2 X v49 h_4 := hS
        change EvC _ _ _ (Env.put (Env.put (Env.put (Env.put (Env.put (Env.put Env.emp 49 (.bool v49)) 7 (.int .i64 v7)) 5 (.pointer (some ⟨b5, 0, none⟩))) 4 (.pointer (some ⟨b4, 0, none⟩))) 2 (.pointer (some ⟨b2, 0, none⟩))) 1 (.int .i64 p1)) (H.add h_4 [(b5, .row ⟨[(.slice c5_0_2.a c5_0_2.l c5_0_2.c), (.slice c5_1_2.a c5_1_2.l c5_1_2.c)], 2, 29, true, true⟩), (b4, .row ⟨[(.slice none 0 0), (.slice none 0 0)], 2, 29, true, true⟩), (b2, .row ⟨[(.slice p0_0.a p0_0.l p0_0.c), (.slice p0_1.a p0_1.l p0_1.c), (.slice p0_2.a p0_2.l p0_2.c)], 3, 26, true, true⟩)]) _
        unfold S11_j5 at hS
        by_cases e1 : v49 = true
        · rw [if_pos e1] at hS
          refine EvC.condT rfl e1 ?_
          refine EvC.skip ?_
          refine EvC.seq ?_
          refine EvC.block ?_
          refine EvC.seq ?_
          refine EvC.draw [0, 1, 0, 7, 15, 31, 63, 0, 128, 384, 1023, 0, 2048, 0, 14336, 30720, 63488, 129024, 0, 262144, 786432, 2095104, 0, 4194304, 0, 29360128, 62914560, 130023424, 264241152, 532676608, 1073741823, 0, 4294967295] [Item.look 0, Item.look 1, Item.look 2, Item.look 3, Item.look 4, Item.look 5, Item.look 6, Item.look 7, Item.look 8, Item.look 9, Item.look 10, Item.look 11, Item.look 12, Item.look 13, Item.look 14, Item.look 15, Item.look 16, Item.look 17, Item.look 18, Item.look 19, Item.look 20, Item.look 21, Item.look 22, Item.look 23, Item.look 24, Item.look 25, Item.look 26, Item.look 27, Item.look 28, Item.look 29, Item.look 30, Item.alc 31, Item.eff 32 []] MO (by kernel_rfl) ?_
          refine R.look (v := (.pointer (some ⟨b2, 1, none⟩))) rfl rfl rfl (Lk.fldAddr rfl Tryd.underlying26 rfl rfl T23 rfl rfl rfl) fun _ => ?_
          refine R.look rfl rfl rfl (Lk.load1 (v := (.slice p0_1.a p0_1.l p0_1.c)) rfl Tryd.underlying23 rfl rfl (H.rd_loc ok (i := 2) rfl rfl)) fun _ => ?_
          refine R.look rfl rfl rfl (Lk.move rfl rfl) fun _ => ?_
          obtain ⟨a55, e2, e3, e4, hS⟩ := hS
          refine R.look rfl rfl rfl (Lk.ixAddr rfl Tryd.underlying23 T100 rfl e2 rfl e3 e4) fun _ => ?_
          refine R.look (v := (.pointer (some (Addr.add a55 (Int.toNat v7 * 3))))) rfl rfl rfl (Lk.ixConst rfl Tryd.underlying100 T5 rfl rfl rfl rfl) fun _ => ?_
          obtain ⟨v57, e5, hS⟩ := hS
          refine R.look rfl rfl rfl (Look.loc ok (Lk.load1 rfl Tryd.underlying5 rfl rfl e5)) fun _ => ?_
          refine R.look rfl rfl rfl (Lk.conv rfl Tryd.underlying5 Tryd.underlying3 rfl) fun _ => ?_
          refine R.look (v := (.pointer (some ⟨b5, 0, none⟩))) rfl rfl rfl (Lk.fldAddr rfl Tryd.underlying29 rfl rfl T22 rfl rfl rfl) fun _ => ?_
          refine R.look rfl rfl rfl (Lk.load1 (v := (.slice c5_0_2.a c5_0_2.l c5_0_2.c)) rfl Tryd.underlying22 rfl rfl (H.rd_loc ok (i := 0) rfl rfl)) fun _ => ?_
          refine R.look rfl rfl rfl (Lk.len rfl Tryd.underlying22 rfl) fun _ => ?_
          obtain ⟨e6, hS⟩ := hS
          refine R.look rfl rfl rfl (Lk.rem rfl rfl rfl e6) fun _ => ?_
          refine R.look (v := (.pointer (some ⟨b2, 1, none⟩))) rfl rfl rfl (Lk.fldAddr rfl Tryd.underlying26 rfl rfl T23 rfl rfl rfl) fun _ => ?_
          refine R.look rfl rfl rfl (Lk.load1 (v := (.slice p0_1.a p0_1.l p0_1.c)) rfl Tryd.underlying23 rfl rfl (H.rd_loc ok (i := 2) rfl rfl)) fun _ => ?_
          refine R.look rfl rfl rfl (Lk.move rfl rfl) fun _ => ?_
          obtain ⟨a66, e7, e8, e9, hS⟩ := hS
          refine R.look rfl rfl rfl (Lk.ixAddr rfl Tryd.underlying23 T100 rfl e7 rfl e8 e9) fun _ => ?_
          refine R.look (v := (.pointer (some (Addr.add (Addr.add a66 (Int.toNat v7 * 3)) 1)))) rfl rfl rfl (Lk.ixConst rfl Tryd.underlying100 T5 rfl rfl rfl rfl) fun _ => ?_
          obtain ⟨v68, e10, hS⟩ := hS
          refine R.look rfl rfl rfl (Look.loc ok (Lk.load1 rfl Tryd.underlying5 rfl rfl e10)) fun _ => ?_
          refine R.look rfl rfl rfl (Lk.conv rfl Tryd.underlying5 Tryd.underlying3 rfl) fun _ => ?_
          refine R.look (v := (.pointer (some ⟨b5, 0, none⟩))) rfl rfl rfl (Lk.fldAddr rfl Tryd.underlying29 rfl rfl T22 rfl rfl rfl) fun _ => ?_
          refine R.look rfl rfl rfl (Lk.load1 (v := (.slice c5_0_2.a c5_0_2.l c5_0_2.c)) rfl Tryd.underlying22 rfl rfl (H.rd_loc ok (i := 0) rfl rfl)) fun _ => ?_
          refine R.look rfl rfl rfl (Lk.len rfl Tryd.underlying22 rfl) fun _ => ?_
          obtain ⟨e11, hS⟩ := hS
          refine R.look rfl rfl rfl (Lk.rem rfl rfl rfl e11) fun _ => ?_
          refine R.look (v := (.pointer (some ⟨b2, 1, none⟩))) rfl rfl rfl (Lk.fldAddr rfl Tryd.underlying26 rfl rfl T23 rfl rfl rfl) fun _ => ?_
          refine R.look rfl rfl rfl (Lk.load1 (v := (.slice p0_1.a p0_1.l p0_1.c)) rfl Tryd.underlying23 rfl rfl (H.rd_loc ok (i := 2) rfl rfl)) fun _ => ?_
          refine R.look rfl rfl rfl (Lk.move rfl rfl) fun _ => ?_
          obtain ⟨a77, e12, e13, e14, hS⟩ := hS
          refine R.look rfl rfl rfl (Lk.ixAddr rfl Tryd.underlying23 T100 rfl e12 rfl e13 e14) fun _ => ?_
          refine R.look (v := (.pointer (some (Addr.add (Addr.add a77 (Int.toNat v7 * 3)) 2)))) rfl rfl rfl (Lk.ixConst rfl Tryd.underlying100 T5 rfl rfl rfl rfl) fun _ => ?_
          obtain ⟨v79, e15, hS⟩ := hS
          refine R.look rfl rfl rfl (Look.loc ok (Lk.load1 rfl Tryd.underlying5 rfl rfl e15)) fun _ => ?_
          refine R.look rfl rfl rfl (Lk.conv rfl Tryd.underlying5 Tryd.underlying3 rfl) fun _ => ?_
          refine R.look rfl rfl rfl (Lk.rem (j := 4) rfl rfl rfl (by decide)) fun _ => ?_
          refine R.look rfl rfl rfl (Lk.build (cs := [(.int .i64 (Int.tmod (IntKind.wrap .i64 v57) (c5_0_2.l : Int))), (.int .i64 (Int.tmod (IntKind.wrap .i64 v68) (c5_0_2.l : Int))), (.int .i64 (Int.tmod (IntKind.wrap .i64 v79) 4)), (.string ⟨#[]⟩)]) (pl := [(0, 1), (1, 1), (2, 1), (3, 1)]) rfl Tryd.underlying54 T54 (PlacesL.places (.cons T3 (.cons T3 (.cons T3 (.cons T9 PlacesL.nil))))) rfl rfl) fun _ => ?_
          refine R.var (blk := .row ⟨[(.int .i64 0), (.int .i64 0), (.int .i64 0), (.string ⟨#[]⟩)], 4, 54, true, true⟩) ok rfl rfl rfl (Ac.alloc rfl T54) rfl rfl fun b8 ok => ?_
          refine R.effN rfl rfl rfl (Ef.storeLoc (i := 0) (vs := [(.int .i64 (Int.tmod (IntKind.wrap .i64 v57) (c5_0_2.l : Int))), (.int .i64 (Int.tmod (IntKind.wrap .i64 v68) (c5_0_2.l : Int))), (.int .i64 (Int.tmod (IntKind.wrap .i64 v79) 4)), (.string ⟨#[]⟩)]) (cs := [(.int .i64 (Int.tmod (IntKind.wrap .i64 v57) (c5_0_2.l : Int))), (.int .i64 (Int.tmod (IntKind.wrap .i64 v68) (c5_0_2.l : Int))), (.int .i64 (Int.tmod (IntKind.wrap .i64 v79) 4)), (.string ⟨#[]⟩)]) (l' := [(b8, .row ⟨[(.int .i64 (Int.tmod (IntKind.wrap .i64 v57) (c5_0_2.l : Int))), (.int .i64 (Int.tmod (IntKind.wrap .i64 v68) (c5_0_2.l : Int))), (.int .i64 (Int.tmod (IntKind.wrap .i64 v79) 4)), (.string ⟨#[]⟩)], 4, 54, true, true⟩), (b5, .row ⟨[(.slice c5_0_2.a c5_0_2.l c5_0_2.c), (.slice c5_1_2.a c5_1_2.l c5_1_2.c)], 2, 29, true, true⟩), (b4, .row ⟨[(.slice none 0 0), (.slice none 0 0)], 2, 29, true, true⟩), (b2, .row ⟨[(.slice p0_0.a p0_0.l p0_0.c), (.slice p0_1.a p0_1.l p0_1.c), (.slice p0_2.a p0_2.l p0_2.c)], 3, 26, true, true⟩)]) ok rfl T54 rfl rfl rfl rfl rfl rfl rfl rfl rfl rfl fun ok => ⟨noChk, ?_⟩)
          refine R.nil ?_
          refine EvC.join (σ := Int × Int × Int × ByteArray) (fun s => (Env.put (Env.put (Env.put (Env.put (Env.put (Env.put Env.emp 8 (.pointer (some ⟨b8, 0, none⟩))) 7 (.int .i64 v7)) 5 (.pointer (some ⟨b5, 0, none⟩))) 4 (.pointer (some ⟨b4, 0, none⟩))) 2 (.pointer (some ⟨b2, 0, none⟩))) 1 (.int .i64 p1))) (fun s => [(b8, .row ⟨[(.int .i64 s.1), (.int .i64 s.2.1), (.int .i64 s.2.2.1), (.string s.2.2.2)], 4, 54, true, true⟩), (b5, .row ⟨[(.slice c5_0_2.a c5_0_2.l c5_0_2.c), (.slice c5_1_2.a c5_1_2.l c5_1_2.c)], 2, 29, true, true⟩), (b4, .row ⟨[(.slice none 0 0), (.slice none 0 0)], 2, 29, true, true⟩), (b2, .row ⟨[(.slice p0_0.a p0_0.l p0_0.c), (.slice p0_1.a p0_1.l p0_1.c), (.slice p0_2.a p0_2.l p0_2.c)], 3, 26, true, true⟩)]) (fun s h_5 => S11_j2 v7 c5_0_2 c5_1_2 X s.1 s.2.1 s.2.2.1 s.2.2.2 h_5) ?_ (fun Ih_5 hIh_5 => ?_)
          · rintro ⟨c8_0, c8_1, c8_2, c8_3⟩ h_5 ok hS
            replace hS : S11_j2 v7 c5_0_2 c5_1_2 X c8_0 c8_1 c8_2 c8_3 h_5 := hS
            change EvC _ _ _ (Env.put (Env.put (Env.put (Env.put (Env.put (Env.put Env.emp 8 (.pointer (some ⟨b8, 0, none⟩))) 7 (.int .i64 v7)) 5 (.pointer (some ⟨b5, 0, none⟩))) 4 (.pointer (some ⟨b4, 0, none⟩))) 2 (.pointer (some ⟨b2, 0, none⟩))) 1 (.int .i64 p1)) (H.add h_5 [(b8, .row ⟨[(.int .i64 c8_0), (.int .i64 c8_1), (.int .i64 c8_2), (.string c8_3)], 4, 54, true, true⟩), (b5, .row ⟨[(.slice c5_0_2.a c5_0_2.l c5_0_2.c), (.slice c5_1_2.a c5_1_2.l c5_1_2.c)], 2, 29, true, true⟩), (b4, .row ⟨[(.slice none 0 0), (.slice none 0 0)], 2, 29, true, true⟩), (b2, .row ⟨[(.slice p0_0.a p0_0.l p0_0.c), (.slice p0_1.a p0_1.l p0_1.c), (.slice p0_2.a p0_2.l p0_2.c)], 3, 26, true, true⟩)]) _
            unfold S11_j2 at hS
            refine EvC.region [Item.look 0, Item.look 1, Item.look 2, Item.alc 3, Item.eff 4 [], Item.look 5, Item.eff 6 []] (by kernel_rfl) ?_
            refine R.look (v := (.pointer (some ⟨b5, 1, none⟩))) rfl rfl rfl (Lk.fldAddr rfl Tryd.underlying29 rfl rfl T27 rfl rfl rfl) fun _ => ?_
            refine R.look rfl rfl rfl (Lk.load1 (v := (.slice c5_1_2.a c5_1_2.l c5_1_2.c)) rfl Tryd.underlying27 rfl rfl (H.rd_loc ok (i := 1) rfl rfl)) fun _ => ?_
            refine R.look rfl rfl rfl (Lk.loadN (vs := [(.int .i64 c8_0), (.int .i64 c8_1), (.int .i64 c8_2), (.string c8_3)]) rfl Tryd.underlying54 rfl T54 rfl (H.rdn_loc ok (i := 0) rfl rfl rfl)) fun _ => ?_
            refine R.appL (cs := [(.int .i64 c8_0), (.int .i64 c8_1), (.int .i64 c8_2), (.string c8_3)]) ok rfl rfl rfl rfl rfl rfl rfl rfl Tryd.underlying27 T54 rfl (by decide) (by decide) rfl rfl rfl rfl rfl (fun _ => rfl) hS ?_
            intro bb120 v121 h_6 hS ok
            refine ⟨noChk, ?_⟩
            refine R.look (v := (.pointer (some ⟨b5, 1, none⟩))) rfl rfl rfl (Lk.fldAddr rfl Tryd.underlying29 rfl rfl T27 rfl rfl rfl) fun _ => ?_
            refine R.effN rfl rfl rfl (Ef.storeLoc (i := 1) (vs := [(.slice v121.a v121.l v121.c)]) (cs := [(.slice c5_0_2.a c5_0_2.l c5_0_2.c), (.slice v121.a v121.l v121.c)]) (l' := [(b8, .row ⟨[(.int .i64 c8_0), (.int .i64 c8_1), (.int .i64 c8_2), (.string c8_3)], 4, 54, true, true⟩), (b5, .row ⟨[(.slice c5_0_2.a c5_0_2.l c5_0_2.c), (.slice v121.a v121.l v121.c)], 2, 29, true, true⟩), (b4, .row ⟨[(.slice none 0 0), (.slice none 0 0)], 2, 29, true, true⟩), (b2, .row ⟨[(.slice p0_0.a p0_0.l p0_0.c), (.slice p0_1.a p0_1.l p0_1.c), (.slice p0_2.a p0_2.l p0_2.c)], 3, 26, true, true⟩)]) ok rfl T27 rfl rfl rfl rfl rfl rfl rfl rfl rfl rfl fun ok => ⟨noChk, ?_⟩)
            refine R.nil ?_
            refine EvC.region [Item.look 0, Item.look 1, Item.look 2] (by kernel_rfl) ?_
            refine R.look rfl rfl rfl (Lk.move rfl rfl) fun _ => ?_
            refine R.look rfl rfl rfl (Lk.arith rfl rfl rfl rfl) fun _ => ?_
            refine R.look rfl rfl rfl (Lk.assign rfl rfl) fun _ => ?_
            refine R.nil ?_
            exact hX ((IntKind.wrap .i64 (v7 + 1)), c5_0_2, v121) _ _ _ hS (ok.sub (.cons _ (.cons_cons _ (.cons_cons _ (.cons_cons _ List.Sublist.slnil))))) (Env.le_put rfl (Env.le_put rfl (Env.le_put rfl (Env.le_put rfl (Env.le_put rfl (Env.le_emp _)))))) (H.add_sub ok (.cons _ (.cons_cons _ (.cons_cons _ (.cons_cons _ List.Sublist.slnil)))))
          · refine EvC.seq ?_
            refine EvC.region [Item.look 0, Item.look 1, Item.look 2, Item.look 3, Item.look 4] (by kernel_rfl) ?_
            refine R.look rfl rfl rfl (Lk.move rfl rfl) fun _ => ?_
            refine R.look (v := (.pointer (some ⟨b2, 2, none⟩))) rfl rfl rfl (Lk.fldAddr rfl Tryd.underlying26 rfl rfl T24 rfl rfl rfl) fun _ => ?_
            refine R.look rfl rfl rfl (Lk.load1 (v := (.slice p0_2.a p0_2.l p0_2.c)) rfl Tryd.underlying24 rfl rfl (H.rd_loc ok (i := 3) rfl rfl)) fun _ => ?_
            refine R.look rfl rfl rfl (Lk.len rfl Tryd.underlying24 rfl) fun _ => ?_
            refine R.look rfl rfl rfl (Lk.arith rfl rfl rfl rfl) fun _ => ?_
            refine R.nil ?_
            by_cases e16 : (decide (v7 < (p0_2.l : Int))) = true
            · rw [if_pos e16] at hS
              refine EvC.condT rfl e16 ?_
              refine EvC.seq ?_
              refine EvC.region [Item.look 0] (by kernel_rfl) ?_
              refine R.look rfl rfl rfl (Lk.assign rfl rfl) fun _ => ?_
              refine R.nil ?_
              refine EvC.block ?_
              refine EvC.loop ?_
              refine LoopC.lfp (σ := Int × Int × Int × Int × ByteArray) (fun s => (Env.put (Env.put (Env.put (Env.put (Env.put (Env.put (Env.put Env.emp 9 (.int .i64 s.1)) 8 (.pointer (some ⟨b8, 0, none⟩))) 7 (.int .i64 v7)) 5 (.pointer (some ⟨b5, 0, none⟩))) 4 (.pointer (some ⟨b4, 0, none⟩))) 2 (.pointer (some ⟨b2, 0, none⟩))) 1 (.int .i64 p1))) (fun s => [(b8, .row ⟨[(.int .i64 s.2.1), (.int .i64 s.2.2.1), (.int .i64 s.2.2.2.1), (.string s.2.2.2.2)], 4, 54, true, true⟩), (b5, .row ⟨[(.slice c5_0_2.a c5_0_2.l c5_0_2.c), (.slice c5_1_2.a c5_1_2.l c5_1_2.c)], 2, 29, true, true⟩), (b4, .row ⟨[(.slice none 0 0), (.slice none 0 0)], 2, 29, true, true⟩), (b2, .row ⟨[(.slice p0_0.a p0_0.l p0_0.c), (.slice p0_1.a p0_1.l p0_1.c), (.slice p0_2.a p0_2.l p0_2.c)], 3, 26, true, true⟩)]) (fun X_1 hX_1 => ?_) hS (ok.sub (.cons_cons _ (.cons_cons _ (.cons_cons _ (.cons_cons _ List.Sublist.slnil))))) (Env.le_put rfl (Env.le_put rfl (Env.le_put rfl (Env.le_put rfl (Env.le_put rfl (Env.le_put rfl (Env.le_put rfl (Env.le_emp _)))))))) (H.add_sub ok (.cons_cons _ (.cons_cons _ (.cons_cons _ (.cons_cons _ List.Sublist.slnil)))))
              rintro ⟨v9, c8_0_1, c8_1_1, c8_2_1, c8_3_1⟩ h_7 hS ok
              replace hS : S11_l4 p0_2 v7 c5_0_2 c5_1_2 X X_1 v9 c8_0_1 c8_1_1 c8_2_1 c8_3_1 h_7 := hS
              change EvC _ _ _ (Env.put (Env.put (Env.put (Env.put (Env.put (Env.put (Env.put Env.emp 9 (.int .i64 v9)) 8 (.pointer (some ⟨b8, 0, none⟩))) 7 (.int .i64 v7)) 5 (.pointer (some ⟨b5, 0, none⟩))) 4 (.pointer (some ⟨b4, 0, none⟩))) 2 (.pointer (some ⟨b2, 0, none⟩))) 1 (.int .i64 p1)) (H.add h_7 [(b8, .row ⟨[(.int .i64 c8_0_1), (.int .i64 c8_1_1), (.int .i64 c8_2_1), (.string c8_3_1)], 4, 54, true, true⟩), (b5, .row ⟨[(.slice c5_0_2.a c5_0_2.l c5_0_2.c), (.slice c5_1_2.a c5_1_2.l c5_1_2.c)], 2, 29, true, true⟩), (b4, .row ⟨[(.slice none 0 0), (.slice none 0 0)], 2, 29, true, true⟩), (b2, .row ⟨[(.slice p0_0.a p0_0.l p0_0.c), (.slice p0_1.a p0_1.l p0_1.c), (.slice p0_2.a p0_2.l p0_2.c)], 3, 26, true, true⟩)]) _
              unfold S11_l4 at hS
              refine EvC.seq ?_
              refine EvC.seq ?_
              refine EvC.region [Item.look 0, Item.look 1, Item.look 2, Item.look 3, Item.look 4, Item.look 5, Item.look 6, Item.look 7, Item.look 8] (by kernel_rfl) ?_
              refine R.look rfl rfl rfl (Lk.move rfl rfl) fun _ => ?_
              refine R.look (v := (.pointer (some ⟨b2, 2, none⟩))) rfl rfl rfl (Lk.fldAddr rfl Tryd.underlying26 rfl rfl T24 rfl rfl rfl) fun _ => ?_
              refine R.look rfl rfl rfl (Lk.load1 (v := (.slice p0_2.a p0_2.l p0_2.c)) rfl Tryd.underlying24 rfl rfl (H.rd_loc ok (i := 3) rfl rfl)) fun _ => ?_
              refine R.look rfl rfl rfl (Lk.move rfl rfl) fun _ => ?_
              obtain ⟨a92, e17, e18, e19, hS⟩ := hS
              refine R.look rfl rfl rfl (Lk.ixAddr rfl Tryd.underlying24 T5 rfl e17 rfl e18 e19) fun _ => ?_
              obtain ⟨v93, e20, hS⟩ := hS
              refine R.look rfl rfl rfl (Look.loc ok (Lk.load1 rfl Tryd.underlying5 rfl rfl e20)) fun _ => ?_
              refine R.look rfl rfl rfl (Lk.conv rfl Tryd.underlying5 Tryd.underlying3 rfl) fun _ => ?_
              refine R.look rfl rfl rfl (Lk.rem (j := 4) rfl rfl rfl (by decide)) fun _ => ?_
              refine R.look rfl rfl rfl (Lk.arith rfl rfl rfl rfl) fun _ => ?_
              refine R.nil ?_
              by_cases e21 : (decide (v9 < (Int.tmod (IntKind.wrap .i64 v93) 4))) = true
              · rw [if_pos e21] at hS
                refine EvC.condT rfl e21 ?_
                refine EvC.skip ?_
                refine EvC.join (σ := Int × Int × Int × ByteArray) (fun s => (Env.put (Env.put (Env.put (Env.put (Env.put (Env.put (Env.put Env.emp 9 (.int .i64 v9)) 8 (.pointer (some ⟨b8, 0, none⟩))) 7 (.int .i64 v7)) 5 (.pointer (some ⟨b5, 0, none⟩))) 4 (.pointer (some ⟨b4, 0, none⟩))) 2 (.pointer (some ⟨b2, 0, none⟩))) 1 (.int .i64 p1))) (fun s => [(b8, .row ⟨[(.int .i64 s.1), (.int .i64 s.2.1), (.int .i64 s.2.2.1), (.string s.2.2.2)], 4, 54, true, true⟩), (b5, .row ⟨[(.slice c5_0_2.a c5_0_2.l c5_0_2.c), (.slice c5_1_2.a c5_1_2.l c5_1_2.c)], 2, 29, true, true⟩), (b4, .row ⟨[(.slice none 0 0), (.slice none 0 0)], 2, 29, true, true⟩), (b2, .row ⟨[(.slice p0_0.a p0_0.l p0_0.c), (.slice p0_1.a p0_1.l p0_1.c), (.slice p0_2.a p0_2.l p0_2.c)], 3, 26, true, true⟩)]) (fun s h_8 => S11_j3 v9 X_1 s.1 s.2.1 s.2.2.1 s.2.2.2 h_8) ?_ (fun Ih_8 hIh_8 => ?_)
                · rintro ⟨c8_0_2, c8_1_2, c8_2_2, c8_3_2⟩ h_8 ok hS
                  replace hS : S11_j3 v9 X_1 c8_0_2 c8_1_2 c8_2_2 c8_3_2 h_8 := hS
                  change EvC _ _ _ (Env.put (Env.put (Env.put (Env.put (Env.put (Env.put (Env.put Env.emp 9 (.int .i64 v9)) 8 (.pointer (some ⟨b8, 0, none⟩))) 7 (.int .i64 v7)) 5 (.pointer (some ⟨b5, 0, none⟩))) 4 (.pointer (some ⟨b4, 0, none⟩))) 2 (.pointer (some ⟨b2, 0, none⟩))) 1 (.int .i64 p1)) (H.add h_8 [(b8, .row ⟨[(.int .i64 c8_0_2), (.int .i64 c8_1_2), (.int .i64 c8_2_2), (.string c8_3_2)], 4, 54, true, true⟩), (b5, .row ⟨[(.slice c5_0_2.a c5_0_2.l c5_0_2.c), (.slice c5_1_2.a c5_1_2.l c5_1_2.c)], 2, 29, true, true⟩), (b4, .row ⟨[(.slice none 0 0), (.slice none 0 0)], 2, 29, true, true⟩), (b2, .row ⟨[(.slice p0_0.a p0_0.l p0_0.c), (.slice p0_1.a p0_1.l p0_1.c), (.slice p0_2.a p0_2.l p0_2.c)], 3, 26, true, true⟩)]) _
                  unfold S11_j3 at hS
                  refine EvC.region [Item.look 0, Item.look 1, Item.look 2] (by kernel_rfl) ?_
                  refine R.look rfl rfl rfl (Lk.move rfl rfl) fun _ => ?_
                  refine R.look rfl rfl rfl (Lk.arith rfl rfl rfl rfl) fun _ => ?_
                  refine R.look rfl rfl rfl (Lk.assign rfl rfl) fun _ => ?_
                  refine R.nil ?_
                  exact hX_1 ((IntKind.wrap .i64 (v9 + 1)), c8_0_2, c8_1_2, c8_2_2, c8_3_2) _ _ _ hS (ok.sub (.cons_cons _ (.cons_cons _ (.cons_cons _ (.cons_cons _ List.Sublist.slnil))))) (Env.le_put rfl (Env.le_put rfl (Env.le_put rfl (Env.le_put rfl (Env.le_put rfl (Env.le_put rfl (Env.le_put rfl (Env.le_emp _)))))))) (H.add_sub ok (.cons_cons _ (.cons_cons _ (.cons_cons _ (.cons_cons _ List.Sublist.slnil)))))
                · refine EvC.block ?_
                  refine EvC.seq ?_
                  refine EvC.region [Item.look 0, Item.look 1, Item.look 2, Item.look 3, Item.look 4, Item.look 5, Item.look 6, Item.look 7, Item.look 8, Item.look 9] (by kernel_rfl) ?_
                  refine R.look (v := (.pointer (some ⟨b2, 2, none⟩))) rfl rfl rfl (Lk.fldAddr rfl Tryd.underlying26 rfl rfl T24 rfl rfl rfl) fun _ => ?_
                  refine R.look rfl rfl rfl (Lk.load1 (v := (.slice p0_2.a p0_2.l p0_2.c)) rfl Tryd.underlying24 rfl rfl (H.rd_loc ok (i := 3) rfl rfl)) fun _ => ?_
                  refine R.look rfl rfl rfl (Lk.move rfl rfl) fun _ => ?_
                  obtain ⟨a102, e22, e23, e24, hS⟩ := hS
                  refine R.look rfl rfl rfl (Lk.ixAddr rfl Tryd.underlying24 T5 rfl e22 rfl e23 e24) fun _ => ?_
                  obtain ⟨v103, e25, hS⟩ := hS
                  refine R.look rfl rfl rfl (Look.loc ok (Lk.load1 rfl Tryd.underlying5 rfl rfl e25)) fun _ => ?_
                  refine R.look rfl rfl rfl (Lk.move rfl rfl) fun _ => ?_
                  refine R.look rfl rfl rfl (Lk.arith rfl rfl rfl rfl) fun _ => ?_
                  obtain ⟨e26, hS⟩ := hS
                  refine R.look rfl rfl rfl (Lk.shr rfl rfl rfl e26) fun _ => ?_
                  refine R.look rfl rfl rfl (Lk.arith rfl rfl rfl rfl) fun _ => ?_
                  refine R.look rfl rfl rfl (Lk.arith rfl rfl rfl rfl) fun _ => ?_
                  refine R.nil ?_
                  by_cases e27 : ((IntKind.wrap .u8 (((BitVec.ofInt (IntKind.bits .u8) (Int.fdiv v103 (2 ^ (min (Int.toNat (IntKind.wrap .i64 (2 + v9))) (IntKind.bits .u8)))) &&& BitVec.ofInt (IntKind.bits .u8) 1).toNat : Nat) : Int)) == 1) = true
                  · rw [if_pos e27] at hS
                    refine EvC.condT rfl e27 ?_
                    refine EvC.region [Item.look 0, Item.look 1, Item.look 2, Item.look 3, Item.eff 4 []] (by kernel_rfl) ?_
                    refine R.look (v := (.pointer (some ⟨b8, 3, none⟩))) rfl rfl rfl (Lk.fldAddr rfl Tryd.underlying54 rfl rfl T9 rfl rfl rfl) fun _ => ?_
                    refine R.look rfl rfl rfl (Lk.load1 (v := (.string c8_3_1)) rfl Tryd.underlying9 rfl rfl (H.rd_loc ok (i := 0) rfl rfl)) fun _ => ?_
                    obtain ⟨e28, hS⟩ := hS
                    refine R.look rfl rfl rfl (Lk.strAdd rfl rfl rfl e28) fun _ => ?_
                    refine R.look (v := (.pointer (some ⟨b8, 3, none⟩))) rfl rfl rfl (Lk.fldAddr rfl Tryd.underlying54 rfl rfl T9 rfl rfl rfl) fun _ => ?_
                    refine R.effN rfl rfl rfl (Ef.storeLoc (i := 0) (vs := [(.string (c8_3_1 ++ ⟨#[76]⟩))]) (cs := [(.int .i64 c8_0_1), (.int .i64 c8_1_1), (.int .i64 c8_2_1), (.string (c8_3_1 ++ ⟨#[76]⟩))]) (l' := [(b8, .row ⟨[(.int .i64 c8_0_1), (.int .i64 c8_1_1), (.int .i64 c8_2_1), (.string (c8_3_1 ++ ⟨#[76]⟩))], 4, 54, true, true⟩), (b5, .row ⟨[(.slice c5_0_2.a c5_0_2.l c5_0_2.c), (.slice c5_1_2.a c5_1_2.l c5_1_2.c)], 2, 29, true, true⟩), (b4, .row ⟨[(.slice none 0 0), (.slice none 0 0)], 2, 29, true, true⟩), (b2, .row ⟨[(.slice p0_0.a p0_0.l p0_0.c), (.slice p0_1.a p0_1.l p0_1.c), (.slice p0_2.a p0_2.l p0_2.c)], 3, 26, true, true⟩)]) ok rfl T9 rfl rfl rfl rfl rfl rfl rfl rfl rfl rfl fun ok => ⟨noChk, ?_⟩)
                    refine R.nil ?_
                    exact hIh_8 (c8_0_1, c8_1_1, c8_2_1, (c8_3_1 ++ ⟨#[76]⟩)) _ _ _ (Env.le_put rfl (Env.le_put rfl (Env.le_put rfl (Env.le_put rfl (Env.le_put rfl (Env.le_put rfl (Env.le_put rfl (Env.le_emp _)))))))) (ok.sub (.cons_cons _ (.cons_cons _ (.cons_cons _ (.cons_cons _ List.Sublist.slnil))))) (H.add_sub ok (.cons_cons _ (.cons_cons _ (.cons_cons _ (.cons_cons _ List.Sublist.slnil))))) hS
                  · rw [if_neg e27] at hS
                    replace e27 := eq_false_of_ne_true e27
                    refine EvC.condF rfl e27 ?_
                    refine EvC.region [Item.look 0, Item.look 1, Item.look 2, Item.look 3, Item.eff 4 []] (by kernel_rfl) ?_
                    refine R.look (v := (.pointer (some ⟨b8, 3, none⟩))) rfl rfl rfl (Lk.fldAddr rfl Tryd.underlying54 rfl rfl T9 rfl rfl rfl) fun _ => ?_
                    refine R.look rfl rfl rfl (Lk.load1 (v := (.string c8_3_1)) rfl Tryd.underlying9 rfl rfl (H.rd_loc ok (i := 0) rfl rfl)) fun _ => ?_
                    obtain ⟨e29, hS⟩ := hS
                    refine R.look rfl rfl rfl (Lk.strAdd rfl rfl rfl e29) fun _ => ?_
                    refine R.look (v := (.pointer (some ⟨b8, 3, none⟩))) rfl rfl rfl (Lk.fldAddr rfl Tryd.underlying54 rfl rfl T9 rfl rfl rfl) fun _ => ?_
                    refine R.effN rfl rfl rfl (Ef.storeLoc (i := 0) (vs := [(.string (c8_3_1 ++ ⟨#[82]⟩))]) (cs := [(.int .i64 c8_0_1), (.int .i64 c8_1_1), (.int .i64 c8_2_1), (.string (c8_3_1 ++ ⟨#[82]⟩))]) (l' := [(b8, .row ⟨[(.int .i64 c8_0_1), (.int .i64 c8_1_1), (.int .i64 c8_2_1), (.string (c8_3_1 ++ ⟨#[82]⟩))], 4, 54, true, true⟩), (b5, .row ⟨[(.slice c5_0_2.a c5_0_2.l c5_0_2.c), (.slice c5_1_2.a c5_1_2.l c5_1_2.c)], 2, 29, true, true⟩), (b4, .row ⟨[(.slice none 0 0), (.slice none 0 0)], 2, 29, true, true⟩), (b2, .row ⟨[(.slice p0_0.a p0_0.l p0_0.c), (.slice p0_1.a p0_1.l p0_1.c), (.slice p0_2.a p0_2.l p0_2.c)], 3, 26, true, true⟩)]) ok rfl T9 rfl rfl rfl rfl rfl rfl rfl rfl rfl rfl fun ok => ⟨noChk, ?_⟩)
                    refine R.nil ?_
                    exact hIh_8 (c8_0_1, c8_1_1, c8_2_1, (c8_3_1 ++ ⟨#[82]⟩)) _ _ _ (Env.le_put rfl (Env.le_put rfl (Env.le_put rfl (Env.le_put rfl (Env.le_put rfl (Env.le_put rfl (Env.le_put rfl (Env.le_emp _)))))))) (ok.sub (.cons_cons _ (.cons_cons _ (.cons_cons _ (.cons_cons _ List.Sublist.slnil))))) (H.add_sub ok (.cons_cons _ (.cons_cons _ (.cons_cons _ (.cons_cons _ List.Sublist.slnil))))) hS
              · rw [if_neg e21] at hS
                replace e21 := eq_false_of_ne_true e21
                refine EvC.condF rfl e21 ?_
                refine EvC.exit ?_
                exact hIh_5 (c8_0_1, c8_1_1, c8_2_1, c8_3_1) _ _ _ (Env.le_put rfl (Env.le_put rfl (Env.le_put rfl (Env.le_put rfl (Env.le_put rfl (Env.le_put rfl (Env.le_emp _))))))) (ok.sub (.cons_cons _ (.cons_cons _ (.cons_cons _ (.cons_cons _ List.Sublist.slnil))))) (H.add_sub ok (.cons_cons _ (.cons_cons _ (.cons_cons _ (.cons_cons _ List.Sublist.slnil))))) hS
            · rw [if_neg e16] at hS
              replace e16 := eq_false_of_ne_true e16
              refine EvC.condF rfl e16 ?_
              refine EvC.skip ?_
              exact hIh_5 ((Int.tmod (IntKind.wrap .i64 v57) (c5_0_2.l : Int)), (Int.tmod (IntKind.wrap .i64 v68) (c5_0_2.l : Int)), (Int.tmod (IntKind.wrap .i64 v79) 4), ⟨#[]⟩) _ _ _ (Env.le_put rfl (Env.le_put rfl (Env.le_put rfl (Env.le_put rfl (Env.le_put rfl (Env.le_put rfl (Env.le_emp _))))))) (ok.sub (.cons_cons _ (.cons_cons _ (.cons_cons _ (.cons_cons _ List.Sublist.slnil))))) (H.add_sub ok (.cons_cons _ (.cons_cons _ (.cons_cons _ (.cons_cons _ List.Sublist.slnil))))) hS
        · rw [if_neg e1] at hS
          replace e1 := eq_false_of_ne_true e1
          refine EvC.condF rfl e1 ?_
          refine EvC.exit ?_
          exact hIh_2 (c5_0_2, c5_1_2) _ _ _ (Env.le_put rfl (Env.le_put rfl (Env.le_emp _))) (ok.sub (.cons_cons _ (.cons_cons _ (.cons _ List.Sublist.slnil)))) (H.add_sub ok (.cons_cons _ (.cons_cons _ (.cons _ List.Sublist.slnil)))) hS
      · refine EvC.region [Item.look 0, Item.look 1, Item.look 2, Item.look 3, Item.look 4, Item.look 5, Item.look 6, Item.look 7, Item.look 8, Item.look 9, Item.look 10, Item.look 11, Item.look 12, Item.look 13, Item.look 14, Item.look 15, Item.look 16] (by kernel_rfl) ?_
        refine R.look rfl rfl rfl (Lk.move rfl rfl) fun _ => ?_
        refine R.look (v := (.pointer (some ⟨b2, 1, none⟩))) rfl rfl rfl (Lk.fldAddr rfl Tryd.underlying26 rfl rfl T23 rfl rfl rfl) fun _ => ?_
        refine R.look rfl rfl rfl (Lk.load1 (v := (.slice p0_1.a p0_1.l p0_1.c)) rfl Tryd.underlying23 rfl rfl (H.rd_loc ok (i := 2) rfl rfl)) fun _ => ?_
        refine R.look rfl rfl rfl (Lk.len rfl Tryd.underlying23 rfl) fun _ => ?_
        refine R.look rfl rfl rfl (Lk.arith rfl rfl rfl rfl) fun _ => ?_
        refine R.look rfl rfl rfl (Lk.move rfl rfl) fun _ => ?_
        by_cases e30 : (decide (v7 < (p0_1.l : Int))) = true
        · refine R.lookT rfl rfl rfl rfl e30 rfl (Lk.move rfl rfl) fun _ => ?_
          refine R.lookT rfl rfl rfl rfl e30 rfl (Lk.move rfl rfl) fun _ => ?_
          refine R.lookT rfl rfl rfl rfl e30 rfl (Lk.arith rfl rfl rfl rfl) fun _ => ?_
          refine R.lookT rfl rfl rfl rfl e30 rfl (Lk.arith rfl rfl rfl rfl) fun _ => ?_
          refine R.look rfl rfl rfl (Lk.pick rfl rfl (fun _ => rfl) (fun e => by rw [e30] at e; cases e)) fun _ => ?_
          refine R.look rfl rfl rfl (Lk.move rfl rfl) fun _ => ?_
          by_cases e31 : (decide (v7 < (IntKind.wrap .i64 (2 * p1)))) = true
          · refine R.lookT (v := (.pointer (some ⟨b5, 0, none⟩))) rfl rfl rfl rfl e31 rfl (Lk.fldAddr rfl Tryd.underlying29 rfl rfl T22 rfl rfl rfl) fun _ => ?_
            refine R.lookT rfl rfl rfl rfl e31 rfl (Lk.load1 (v := (.slice c5_0_2.a c5_0_2.l c5_0_2.c)) rfl Tryd.underlying22 rfl rfl (H.rd_loc ok (i := 0) rfl rfl)) fun _ => ?_
            refine R.lookT rfl rfl rfl rfl e31 rfl (Lk.len rfl Tryd.underlying22 rfl) fun _ => ?_
            refine R.lookT rfl rfl rfl rfl e31 rfl (Lk.arith rfl rfl rfl rfl) fun _ => ?_
            refine R.look rfl rfl rfl (Lk.pick rfl rfl (fun _ => rfl) (fun e => by rw [e31] at e; cases e)) fun _ => ?_
            refine R.nil ?_
            exact hIh_4 (((decide (v7 < (p0_1.l : Int))) && (decide (v7 < (IntKind.wrap .i64 (2 * p1))))) && (decide ((c5_0_2.l : Int) > 0))) _ _ _ (Env.le_put rfl (Env.le_put rfl (Env.le_put rfl (Env.le_put rfl (Env.le_put rfl (Env.le_put (by rw [e30, e31]; rfl) (Env.le_emp _))))))) (ok.sub (.cons_cons _ (.cons_cons _ (.cons_cons _ List.Sublist.slnil)))) (H.add_sub ok (.cons_cons _ (.cons_cons _ (.cons_cons _ List.Sublist.slnil)))) hS
          · replace e31 := eq_false_of_ne_true e31
            refine R.lookF rfl rfl rfl rfl e31 rfl fun _ => ?_
            refine R.lookF rfl rfl rfl rfl e31 rfl fun _ => ?_
            refine R.lookF rfl rfl rfl rfl e31 rfl fun _ => ?_
            refine R.lookF rfl rfl rfl rfl e31 rfl fun _ => ?_
            refine R.look rfl rfl rfl (Lk.pick rfl rfl (fun e => by rw [e31] at e; cases e) (fun _ => rfl)) fun _ => ?_
            refine R.nil ?_
            exact hIh_4 (((decide (v7 < (p0_1.l : Int))) && (decide (v7 < (IntKind.wrap .i64 (2 * p1))))) && (decide ((c5_0_2.l : Int) > 0))) _ _ _ (Env.le_put rfl (Env.le_put rfl (Env.le_put rfl (Env.le_put rfl (Env.le_put rfl (Env.le_put (by rw [e30, e31]; rfl) (Env.le_emp _))))))) (ok.sub (.cons_cons _ (.cons_cons _ (.cons_cons _ List.Sublist.slnil)))) (H.add_sub ok (.cons_cons _ (.cons_cons _ (.cons_cons _ List.Sublist.slnil)))) hS
        · replace e30 := eq_false_of_ne_true e30
          refine R.lookF rfl rfl rfl rfl e30 rfl fun _ => ?_
          refine R.lookF rfl rfl rfl rfl e30 rfl fun _ => ?_
          refine R.lookF rfl rfl rfl rfl e30 rfl fun _ => ?_
          refine R.lookF rfl rfl rfl rfl e30 rfl fun _ => ?_
          refine R.look rfl rfl rfl (Lk.pick rfl rfl (fun e => by rw [e30] at e; cases e) (fun _ => rfl)) fun _ => ?_
          refine R.look rfl rfl rfl (Lk.move rfl rfl) fun _ => ?_
          refine R.lookF rfl rfl rfl rfl rfl rfl fun _ => ?_
          refine R.lookF rfl rfl rfl rfl rfl rfl fun _ => ?_
          refine R.lookF rfl rfl rfl rfl rfl rfl fun _ => ?_
          refine R.lookF rfl rfl rfl rfl rfl rfl fun _ => ?_
          refine R.look rfl rfl rfl (Lk.pick rfl rfl (fun e => by cases e) (fun _ => rfl)) fun _ => ?_
          refine R.nil ?_
          exact hIh_4 (((decide (v7 < (p0_1.l : Int))) && (decide (v7 < (IntKind.wrap .i64 (2 * p1))))) && (decide ((c5_0_2.l : Int) > 0))) _ _ _ (Env.le_put rfl (Env.le_put rfl (Env.le_put rfl (Env.le_put rfl (Env.le_put rfl (Env.le_put (by rw [e30]; rfl) (Env.le_emp _))))))) (ok.sub (.cons_cons _ (.cons_cons _ (.cons_cons _ List.Sublist.slnil)))) (H.add_sub ok (.cons_cons _ (.cons_cons _ (.cons_cons _ List.Sublist.slnil)))) hS
  · refine EvC.seq ?_
    refine EvC.region [Item.look 0] (by kernel_rfl) ?_
    refine R.look rfl rfl rfl (Lk.assign rfl rfl) fun _ => ?_
    refine R.nil ?_
    refine EvC.block ?_
    refine EvC.loop ?_
    refine LoopC.lfp (σ := Int × Sl × Sl) (fun s => (Env.put (Env.put (Env.put (Env.put (Env.put Env.emp 6 (.int .i64 s.1)) 5 (.pointer (some ⟨b5, 0, none⟩))) 4 (.pointer (some ⟨b4, 0, none⟩))) 2 (.pointer (some ⟨b2, 0, none⟩))) 1 (.int .i64 p1))) (fun s => [(b5, .row ⟨[(.slice s.2.1.a s.2.1.l s.2.1.c), (.slice s.2.2.a s.2.2.l s.2.2.c)], 2, 29, true, true⟩), (b4, .row ⟨[(.slice none 0 0), (.slice none 0 0)], 2, 29, true, true⟩), (b2, .row ⟨[(.slice p0_0.a p0_0.l p0_0.c), (.slice p0_1.a p0_1.l p0_1.c), (.slice p0_2.a p0_2.l p0_2.c)], 3, 26, true, true⟩)]) (fun X_2 hX_2 => ?_) hS (ok.sub (.cons_cons _ (.cons_cons _ (.cons_cons _ List.Sublist.slnil)))) (Env.le_put rfl (Env.le_put rfl (Env.le_put rfl (Env.le_put rfl (Env.le_put rfl (Env.le_emp _)))))) (H.add_sub ok (.cons_cons _ (.cons_cons _ (.cons_cons _ List.Sublist.slnil))))
    rintro ⟨v6, c5_0_3, c5_1_3⟩ h_9 hS ok
    replace hS : S11_l9 p0_0 p0_1 p0_2 p1 K X_2 v6 c5_0_3 c5_1_3 h_9 := hS
    change EvC _ _ _ (Env.put (Env.put (Env.put (Env.put (Env.put Env.emp 6 (.int .i64 v6)) 5 (.pointer (some ⟨b5, 0, none⟩))) 4 (.pointer (some ⟨b4, 0, none⟩))) 2 (.pointer (some ⟨b2, 0, none⟩))) 1 (.int .i64 p1)) (H.add h_9 [(b5, .row ⟨[(.slice c5_0_3.a c5_0_3.l c5_0_3.c), (.slice c5_1_3.a c5_1_3.l c5_1_3.c)], 2, 29, true, true⟩), (b4, .row ⟨[(.slice none 0 0), (.slice none 0 0)], 2, 29, true, true⟩), (b2, .row ⟨[(.slice p0_0.a p0_0.l p0_0.c), (.slice p0_1.a p0_1.l p0_1.c), (.slice p0_2.a p0_2.l p0_2.c)], 3, 26, true, true⟩)]) _
    unfold S11_l9 at hS
    refine EvC.seq ?_
    refine EvC.join (σ := Bool) (fun s => (Env.put (Env.put (Env.put (Env.put (Env.put (Env.put Env.emp 20 (.bool s)) 6 (.int .i64 v6)) 5 (.pointer (some ⟨b5, 0, none⟩))) 4 (.pointer (some ⟨b4, 0, none⟩))) 2 (.pointer (some ⟨b2, 0, none⟩))) 1 (.int .i64 p1))) (fun s => [(b5, .row ⟨[(.slice c5_0_3.a c5_0_3.l c5_0_3.c), (.slice c5_1_3.a c5_1_3.l c5_1_3.c)], 2, 29, true, true⟩), (b4, .row ⟨[(.slice none 0 0), (.slice none 0 0)], 2, 29, true, true⟩), (b2, .row ⟨[(.slice p0_0.a p0_0.l p0_0.c), (.slice p0_1.a p0_1.l p0_1.c), (.slice p0_2.a p0_2.l p0_2.c)], 3, 26, true, true⟩)]) (fun s h_10 => S11_j8 p0_0 p0_1 p0_2 p1 K v6 c5_0_3 c5_1_3 X_2 s h_10) ?_ (fun Ih_10 hIh_10 => ?_)
    · intro v20 h_10 ok hS
      replace hS : S11_j8 p0_0 p0_1 p0_2 p1 K v6 c5_0_3 c5_1_3 X_2 v20 h_10 := hS
      change EvC _ _ _ (Env.put (Env.put (Env.put (Env.put (Env.put (Env.put Env.emp 20 (.bool v20)) 6 (.int .i64 v6)) 5 (.pointer (some ⟨b5, 0, none⟩))) 4 (.pointer (some ⟨b4, 0, none⟩))) 2 (.pointer (some ⟨b2, 0, none⟩))) 1 (.int .i64 p1)) (H.add h_10 [(b5, .row ⟨[(.slice c5_0_3.a c5_0_3.l c5_0_3.c), (.slice c5_1_3.a c5_1_3.l c5_1_3.c)], 2, 29, true, true⟩), (b4, .row ⟨[(.slice none 0 0), (.slice none 0 0)], 2, 29, true, true⟩), (b2, .row ⟨[(.slice p0_0.a p0_0.l p0_0.c), (.slice p0_1.a p0_1.l p0_1.c), (.slice p0_2.a p0_2.l p0_2.c)], 3, 26, true, true⟩)]) _
      unfold S11_j8 at hS
      by_cases e32 : v20 = true
      · rw [if_pos e32] at hS
        refine EvC.condT rfl e32 ?_
        refine EvC.skip ?_
        refine EvC.seq ?_
        refine EvC.block ?_
        refine EvC.draw [0, 1, 0, 4, 0, 28, 60, 124, 255, 511, 1023] [Item.look 0, Item.look 1, Item.look 2, Item.look 3, Item.look 4, Item.look 5, Item.look 6, Item.alc 7, Item.eff 8 [], Item.look 9, Item.eff 10 []] MO (by kernel_rfl) ?_
        refine R.look (v := (.pointer (some ⟨b5, 0, none⟩))) rfl rfl rfl (Lk.fldAddr rfl Tryd.underlying29 rfl rfl T22 rfl rfl rfl) fun _ => ?_
        refine R.look rfl rfl rfl (Lk.load1 (v := (.slice c5_0_3.a c5_0_3.l c5_0_3.c)) rfl Tryd.underlying22 rfl rfl (H.rd_loc ok (i := 0) rfl rfl)) fun _ => ?_
        refine R.look (v := (.pointer (some ⟨b2, 0, none⟩))) rfl rfl rfl (Lk.fldAddr rfl Tryd.underlying26 rfl rfl T22 rfl rfl rfl) fun _ => ?_
        refine R.look rfl rfl rfl (Lk.load1 (v := (.slice p0_0.a p0_0.l p0_0.c)) rfl Tryd.underlying22 rfl rfl (H.rd_loc ok (i := 2) rfl rfl)) fun _ => ?_
        refine R.look rfl rfl rfl (Lk.move rfl rfl) fun _ => ?_
        obtain ⟨a28, e33, e34, e35, hS⟩ := hS
        refine R.look rfl rfl rfl (Lk.ixAddr rfl Tryd.underlying22 T4 rfl e33 rfl e34 e35) fun _ => ?_
        obtain ⟨v29, e36, hS⟩ := hS
        refine R.look rfl rfl rfl (Look.loc ok (Lk.load1 rfl Tryd.underlying4 rfl rfl e36)) fun _ => ?_
        refine R.appL (cs := [(.bool v29)]) ok rfl rfl rfl rfl rfl rfl rfl rfl Tryd.underlying22 T4 rfl (by decide) (by decide) rfl rfl rfl rfl rfl (fun _ => rfl) hS ?_
        intro bb30 v31 h_11 hS ok
        refine ⟨noChk, ?_⟩
        refine R.look (v := (.pointer (some ⟨b5, 0, none⟩))) rfl rfl rfl (Lk.fldAddr rfl Tryd.underlying29 rfl rfl T22 rfl rfl rfl) fun _ => ?_
        refine R.effN rfl rfl rfl (Ef.storeLoc (i := 0) (vs := [(.slice v31.a v31.l v31.c)]) (cs := [(.slice v31.a v31.l v31.c), (.slice c5_1_3.a c5_1_3.l c5_1_3.c)]) (l' := [(b5, .row ⟨[(.slice v31.a v31.l v31.c), (.slice c5_1_3.a c5_1_3.l c5_1_3.c)], 2, 29, true, true⟩), (b4, .row ⟨[(.slice none 0 0), (.slice none 0 0)], 2, 29, true, true⟩), (b2, .row ⟨[(.slice p0_0.a p0_0.l p0_0.c), (.slice p0_1.a p0_1.l p0_1.c), (.slice p0_2.a p0_2.l p0_2.c)], 3, 26, true, true⟩)]) ok rfl T22 rfl rfl rfl rfl rfl rfl rfl rfl rfl rfl fun ok => ⟨noChk, ?_⟩)
        refine R.nil ?_
        refine EvC.region [Item.look 0, Item.look 1, Item.look 2] (by kernel_rfl) ?_
        refine R.look rfl rfl rfl (Lk.move rfl rfl) fun _ => ?_
        refine R.look rfl rfl rfl (Lk.arith rfl rfl rfl rfl) fun _ => ?_
        refine R.look rfl rfl rfl (Lk.assign rfl rfl) fun _ => ?_
        refine R.nil ?_
        exact hX_2 ((IntKind.wrap .i64 (v6 + 1)), v31, c5_1_3) _ _ _ hS (ok.sub (.cons_cons _ (.cons_cons _ (.cons_cons _ List.Sublist.slnil)))) (Env.le_put rfl (Env.le_put rfl (Env.le_put rfl (Env.le_put rfl (Env.le_put rfl (Env.le_emp _)))))) (H.add_sub ok (.cons_cons _ (.cons_cons _ (.cons_cons _ List.Sublist.slnil))))
      · rw [if_neg e32] at hS
        replace e32 := eq_false_of_ne_true e32
        refine EvC.condF rfl e32 ?_
        refine EvC.exit ?_
        exact hIh_1 (c5_0_3, c5_1_3) _ _ _ (Env.le_put rfl (Env.le_put rfl (Env.le_put rfl (Env.le_put rfl (Env.le_emp _))))) (ok.sub (.cons_cons _ (.cons_cons _ (.cons_cons _ List.Sublist.slnil)))) (H.add_sub ok (.cons_cons _ (.cons_cons _ (.cons_cons _ List.Sublist.slnil)))) hS
    · refine EvC.region [Item.look 0, Item.look 1, Item.look 2, Item.look 3, Item.look 4, Item.look 5, Item.look 6, Item.look 7, Item.look 8, Item.look 9] (by kernel_rfl) ?_
      refine R.look rfl rfl rfl (Lk.move rfl rfl) fun _ => ?_
      refine R.look (v := (.pointer (some ⟨b2, 0, none⟩))) rfl rfl rfl (Lk.fldAddr rfl Tryd.underlying26 rfl rfl T22 rfl rfl rfl) fun _ => ?_
      refine R.look rfl rfl rfl (Lk.load1 (v := (.slice p0_0.a p0_0.l p0_0.c)) rfl Tryd.underlying22 rfl rfl (H.rd_loc ok (i := 2) rfl rfl)) fun _ => ?_
      refine R.look rfl rfl rfl (Lk.len rfl Tryd.underlying22 rfl) fun _ => ?_
      refine R.look rfl rfl rfl (Lk.arith rfl rfl rfl rfl) fun _ => ?_
      refine R.look rfl rfl rfl (Lk.move rfl rfl) fun _ => ?_
      by_cases e37 : (decide (v6 < (p0_0.l : Int))) = true
      · refine R.lookT rfl rfl rfl rfl e37 rfl (Lk.move rfl rfl) fun _ => ?_
        refine R.lookT rfl rfl rfl rfl e37 rfl (Lk.move rfl rfl) fun _ => ?_
        refine R.lookT rfl rfl rfl rfl e37 rfl (Lk.arith rfl rfl rfl rfl) fun _ => ?_
        refine R.look rfl rfl rfl (Lk.pick rfl rfl (fun _ => rfl) (fun e => by rw [e37] at e; cases e)) fun _ => ?_
        refine R.nil ?_
        exact hIh_10 ((decide (v6 < (p0_0.l : Int))) && (decide (v6 < p1))) _ _ _ (Env.le_put rfl (Env.le_put rfl (Env.le_put rfl (Env.le_put rfl (Env.le_put rfl (Env.le_put (by rw [e37]; rfl) (Env.le_emp _))))))) (ok.sub (.cons_cons _ (.cons_cons _ (.cons_cons _ List.Sublist.slnil)))) (H.add_sub ok (.cons_cons _ (.cons_cons _ (.cons_cons _ List.Sublist.slnil)))) hS
      · replace e37 := eq_false_of_ne_true e37
        refine R.lookF rfl rfl rfl rfl e37 rfl fun _ => ?_
        refine R.lookF rfl rfl rfl rfl e37 rfl fun _ => ?_
        refine R.lookF rfl rfl rfl rfl e37 rfl fun _ => ?_
        refine R.look rfl rfl rfl (Lk.pick rfl rfl (fun e => by rw [e37] at e; cases e) (fun _ => rfl)) fun _ => ?_
        refine R.nil ?_
        exact hIh_10 ((decide (v6 < (p0_0.l : Int))) && (decide (v6 < p1))) _ _ _ (Env.le_put rfl (Env.le_put rfl (Env.le_put rfl (Env.le_put rfl (Env.le_put rfl (Env.le_put (by rw [e37]; rfl) (Env.le_emp _))))))) (ok.sub (.cons_cons _ (.cons_cons _ (.cons_cons _ List.Sublist.slnil)))) (H.add_sub ok (.cons_cons _ (.cons_cons _ (.cons_cons _ List.Sublist.slnil)))) hS
end Go.Proofs.YtimadnngfhbfiaaDoor
end

section
/- PRINTED by wip/gen.py: the machine's call of muntin/compass.Good does what S54 says. -/
namespace Go.Proofs.YtimadnngfhbfiaaDoor
open Go Go.Mu
set_option maxHeartbeats 4000000
set_option maxRecDepth 100000
theorem f54_ok {p0 : Int} {h : H} {K : Bool → H → Prop} (hS : S54 p0 h K) : ACall Tryd.prog 54 ([(.int .i64 p0)] : List Value).toArray h (fun r h' => ∃ r0 : Bool, r = tup [(.bool r0)] ∧ K r0 h') := by
  refine ACall.enter (fn := Tryd.f54) Tryd.func54 rfl (Nat.le_of_ble_eq_true rfl) ?_
  unfold S54 at hS
  have ok := Lok.nil h
  change EvC _ _ _ _ (H.add h []) _
  refine EvC.seq ?_
  refine EvC.region [Item.look 0] (by kernel_rfl) ?_
  refine R.look rfl rfl rfl (Lk.assign rfl rfl) fun _ => ?_
  refine R.nil ?_
  refine EvC.join (σ := Bool) (fun s => (Env.put Env.emp 2 (.bool s))) (fun s => []) (fun s h_1 => S54_j1 K s h_1) ?_ (fun Ih_1 hIh_1 => ?_)
  · intro v2 h_1 ok hS
    replace hS : S54_j1 K v2 h_1 := hS
    change EvC _ _ _ (Env.put Env.emp 2 (.bool v2)) (H.add h_1 []) _
    unfold S54_j1 at hS
    refine EvC.ret ?_
    exact ⟨.inr rfl, _, _, (.cons (.tmp rfl) .nil), ok.le, _, rfl, hS⟩
  · refine EvC.region [Item.look 0, Item.look 1, Item.look 2, Item.look 3, Item.look 4, Item.look 5, Item.look 6] (by kernel_rfl) ?_
    refine R.look rfl rfl rfl (Lk.move rfl rfl) fun _ => ?_
    refine R.look rfl rfl rfl (Lk.arith rfl rfl rfl rfl) fun _ => ?_
    refine R.look rfl rfl rfl (Lk.move rfl rfl) fun _ => ?_
    by_cases e1 : (decide (p0 ≥ 0)) = true
    · refine R.lookT rfl rfl rfl rfl e1 rfl (Lk.move rfl rfl) fun _ => ?_
      refine R.lookT rfl rfl rfl rfl e1 rfl (Lk.arith rfl rfl rfl rfl) fun _ => ?_
      refine R.look rfl rfl rfl (Lk.pick rfl rfl (fun _ => rfl) (fun e => by rw [e1] at e; cases e)) fun _ => ?_
      refine R.look rfl rfl rfl (Lk.assign rfl rfl) fun _ => ?_
      refine R.nil ?_
      exact hIh_1 ((decide (p0 ≥ 0)) && (decide (p0 ≤ 3))) _ _ _ (Env.le_put (by rw [e1]; rfl) (Env.le_emp _)) (ok.sub List.Sublist.slnil) (H.add_sub ok List.Sublist.slnil) hS
    · replace e1 := eq_false_of_ne_true e1
      refine R.lookF rfl rfl rfl rfl e1 rfl fun _ => ?_
      refine R.lookF rfl rfl rfl rfl e1 rfl fun _ => ?_
      refine R.look rfl rfl rfl (Lk.pick rfl rfl (fun e => by rw [e1] at e; cases e) (fun _ => rfl)) fun _ => ?_
      refine R.look rfl rfl rfl (Lk.assign rfl rfl) fun _ => ?_
      refine R.nil ?_
      exact hIh_1 ((decide (p0 ≥ 0)) && (decide (p0 ≤ 3))) _ _ _ (Env.le_put (by rw [e1]; rfl) (Env.le_emp _)) (ok.sub List.Sublist.slnil) (H.add_sub ok List.Sublist.slnil) hS
end Go.Proofs.YtimadnngfhbfiaaDoor
end

section
/- PRINTED by wip/gen.py: the machine's call of unicode/utf8.decodeRuneInStringSlow does what S107 says. -/
namespace Go.Proofs.YtimadnngfhbfiaaDoor
open Go Go.Mu
set_option maxHeartbeats 4000000
set_option maxRecDepth 100000
theorem f107_ok {p0 : ByteArray} {h : H} {K : Int → Int → H → Prop} (hS : S107 p0 h K) : ACall Tryd.prog 107 ([(.string p0)] : List Value).toArray h (fun r h' => ∃ r0 : Int, ∃ r1 : Int, r = tup [(.int .i32 r0), (.int .i64 r1)] ∧ K r0 r1 h') := by
  refine ACall.enter (fn := Tryd.f107) Tryd.func107 rfl (Nat.le_of_ble_eq_true rfl) ?_
  unfold S107 at hS
  have ok := Lok.nil h
  change EvC _ _ _ _ (H.add h []) _
  refine EvC.seq ?_
  refine EvC.region [Item.look 0, Item.look 1] (by kernel_rfl) ?_
  refine R.look rfl rfl rfl (Lk.assign rfl rfl) fun _ => ?_
  refine R.look rfl rfl rfl (Lk.assign rfl rfl) fun _ => ?_
  refine R.nil ?_
  refine EvC.seq ?_
  refine EvC.region [Item.look 0, Item.look 1, Item.look 2] (by kernel_rfl) ?_
  refine R.look rfl rfl rfl (Lk.move rfl rfl) fun _ => ?_
  refine R.look rfl rfl rfl (Lk.lenS rfl Tryd.underlying9 rfl) fun _ => ?_
  refine R.look rfl rfl rfl (Lk.assign rfl rfl) fun _ => ?_
  refine R.nil ?_
  refine EvC.seq ?_
  refine EvC.seq ?_
  refine EvC.region [Item.look 0, Item.look 1] (by kernel_rfl) ?_
  refine R.look rfl rfl rfl (Lk.move rfl rfl) fun _ => ?_
  refine R.look rfl rfl rfl (Lk.arith rfl rfl rfl rfl) fun _ => ?_
  refine R.nil ?_
  by_cases e1 : (decide ((ByteArray.size p0 : Int) < 1)) = true
  · rw [if_pos e1] at hS
    refine EvC.condT rfl e1 ?_
    refine EvC.seq ?_
    refine EvC.region [Item.look 0, Item.look 1] (by kernel_rfl) ?_
    refine R.look rfl rfl rfl (Lk.assign rfl rfl) fun _ => ?_
    refine R.look rfl rfl rfl (Lk.assign rfl rfl) fun _ => ?_
    refine R.nil ?_
    refine EvC.ret ?_
    exact ⟨.inr rfl, _, _, (.cons (.tmp rfl) (.cons (.tmp rfl) .nil)), ok.le, _, _, rfl, hS⟩
  · rw [if_neg e1] at hS
    replace e1 := eq_false_of_ne_true e1
    refine EvC.condF rfl e1 ?_
    refine EvC.skip ?_
    refine EvC.seq ?_
    refine EvC.region [Item.look 0, Item.look 1, Item.look 2] (by kernel_rfl) ?_
    refine R.look rfl rfl rfl (Lk.move rfl rfl) fun _ => ?_
    obtain ⟨e2, e3, hS⟩ := hS
    refine R.look rfl rfl rfl (Lk.byte rfl Tryd.underlying9 rfl rfl e2 e3) fun _ => ?_
    refine R.look rfl rfl rfl (Lk.assign rfl rfl) fun _ => ?_
    refine R.nil ?_
    refine EvC.seq ?_
    refine EvC.region [Item.look 0, Item.look 1, Item.look 2, Item.look 3] (by kernel_rfl) ?_
    refine R.look rfl rfl rfl (Lk.move rfl rfl) fun _ => ?_
    exact hS.elim
end Go.Proofs.YtimadnngfhbfiaaDoor
end

section
/- PRINTED by wip/gen.py: the machine's call of unicode/utf8.DecodeRuneInString does what S99 says. -/
namespace Go.Proofs.YtimadnngfhbfiaaDoor
open Go Go.Mu
set_option maxHeartbeats 4000000
set_option maxRecDepth 100000
theorem f99_ok {p0 : ByteArray} {h : H} {K : Int → Int → H → Prop} (hS : S99 p0 h K) : ACall Tryd.prog 99 ([(.string p0)] : List Value).toArray h (fun r h' => ∃ r0 : Int, ∃ r1 : Int, r = tup [(.int .i32 r0), (.int .i64 r1)] ∧ K r0 r1 h') := by
  refine ACall.enter (fn := Tryd.f99) Tryd.func99 rfl (Nat.le_of_ble_eq_true rfl) ?_
  unfold S99 at hS
  have ok := Lok.nil h
  change EvC _ _ _ _ (H.add h []) _
  refine EvC.seq ?_
  refine EvC.region [Item.look 0, Item.look 1] (by kernel_rfl) ?_
  refine R.look rfl rfl rfl (Lk.assign rfl rfl) fun _ => ?_
  refine R.look rfl rfl rfl (Lk.assign rfl rfl) fun _ => ?_
  refine R.nil ?_
  refine EvC.seq ?_
  refine EvC.join (σ := Bool) (fun s => (Env.put (Env.put Env.emp 10 (.bool s)) 0 (.string p0))) (fun s => []) (fun s h_1 => S99_j1 p0 K s h_1) ?_ (fun Ih_1 hIh_1 => ?_)
  · intro v10 h_1 ok hS
    replace hS : S99_j1 p0 K v10 h_1 := hS
    change EvC _ _ _ (Env.put (Env.put Env.emp 10 (.bool v10)) 0 (.string p0)) (H.add h_1 []) _
    unfold S99_j1 at hS
    by_cases e1 : v10 = true
    · rw [if_pos e1] at hS
      refine EvC.condT rfl e1 ?_
      refine EvC.seq ?_
      refine EvC.region [Item.look 0, Item.look 1, Item.look 2, Item.look 3, Item.look 4] (by kernel_rfl) ?_
      refine R.look rfl rfl rfl (Lk.move rfl rfl) fun _ => ?_
      obtain ⟨e2, e3, hS⟩ := hS
      refine R.look rfl rfl rfl (Lk.byte rfl Tryd.underlying9 rfl rfl e2 e3) fun _ => ?_
      refine R.look rfl rfl rfl (Lk.conv rfl Tryd.underlying5 Tryd.underlying21 rfl) fun _ => ?_
      refine R.look rfl rfl rfl (Lk.assign rfl rfl) fun _ => ?_
      refine R.look rfl rfl rfl (Lk.assign rfl rfl) fun _ => ?_
      refine R.nil ?_
      refine EvC.ret ?_
      exact ⟨.inr rfl, _, _, (.cons (.tmp rfl) (.cons (.tmp rfl) .nil)), ok.le, _, _, rfl, hS⟩
    · rw [if_neg e1] at hS
      replace e1 := eq_false_of_ne_true e1
      refine EvC.condF rfl e1 ?_
      refine EvC.region [Item.look 0, Item.eff 1 [], Item.look 2, Item.look 3, Item.look 4, Item.look 5, Item.look 6] (by kernel_rfl) ?_
      refine R.look rfl rfl rfl (Lk.move rfl rfl) fun _ => ?_
      refine R.eff rfl rfl rfl (Eff.loc ok (Ef.call rfl CB107 rfl ((f107_ok hS).mono ?_)))
      rintro _ h_2 ⟨v16_0, v16_1, rfl, hS⟩
      refine fun ok => ⟨noChk, ?_⟩
      refine R.look rfl rfl rfl (Lk.move rfl rfl) fun _ => ?_
      refine R.look rfl rfl rfl (Lk.extract rfl rfl rfl) fun _ => ?_
      refine R.look rfl rfl rfl (Lk.extract rfl rfl rfl) fun _ => ?_
      refine R.look rfl rfl rfl (Lk.assign rfl rfl) fun _ => ?_
      refine R.look rfl rfl rfl (Lk.assign rfl rfl) fun _ => ?_
      refine R.nil ?_
      refine EvC.ret ?_
      exact ⟨.inr rfl, _, _, (.cons (.tmp rfl) (.cons (.tmp rfl) .nil)), ok.le, _, _, rfl, hS⟩
  · refine EvC.region [Item.look 0, Item.look 1, Item.look 2, Item.look 3, Item.look 4, Item.look 5, Item.look 6] (by kernel_rfl) ?_
    refine R.look rfl rfl rfl (Lk.move rfl rfl) fun _ => ?_
    refine R.look rfl rfl rfl (Lk.strNe rfl rfl rfl) fun _ => ?_
    refine R.look rfl rfl rfl (Lk.move rfl rfl) fun _ => ?_
    by_cases e4 : (!(ByteArray.toList p0 == ByteArray.toList ⟨#[]⟩)) = true
    · rw [if_pos e4] at hS
      refine R.lookT rfl rfl rfl rfl e4 rfl (Lk.move rfl rfl) fun _ => ?_
      obtain ⟨e5, e6, hS⟩ := hS
      refine R.lookT rfl rfl rfl rfl e4 rfl (Lk.byte rfl Tryd.underlying9 rfl rfl e5 e6) fun _ => ?_
      refine R.lookT rfl rfl rfl rfl e4 rfl (Lk.arith rfl rfl rfl rfl) fun _ => ?_
      refine R.look rfl rfl rfl (Lk.pick rfl rfl (fun _ => rfl) (fun e => by rw [e4] at e; cases e)) fun _ => ?_
      refine R.nil ?_
      exact hIh_1 (decide ((byteAt p0 0) < 128)) _ _ _ (Env.le_put rfl (Env.le_put rfl (Env.le_emp _))) (ok.sub List.Sublist.slnil) (H.add_sub ok List.Sublist.slnil) hS
    · rw [if_neg e4] at hS
      replace e4 := eq_false_of_ne_true e4
      refine R.lookF rfl rfl rfl rfl e4 rfl fun _ => ?_
      refine R.lookF rfl rfl rfl rfl e4 rfl fun _ => ?_
      refine R.lookF rfl rfl rfl rfl e4 rfl fun _ => ?_
      refine R.look rfl rfl rfl (Lk.pick rfl rfl (fun e => by rw [e4] at e; cases e) (fun _ => rfl)) fun _ => ?_
      refine R.nil ?_
      exact hIh_1 false _ _ _ (Env.le_put rfl (Env.le_put rfl (Env.le_emp _))) (ok.sub List.Sublist.slnil) (H.add_sub ok List.Sublist.slnil) hS
end Go.Proofs.YtimadnngfhbfiaaDoor
end

section
/- PRINTED by wip/gen.py: the machine's call of unicode/utf8.RuneStart does what S109 says. -/
namespace Go.Proofs.YtimadnngfhbfiaaDoor
open Go Go.Mu
set_option maxHeartbeats 4000000
set_option maxRecDepth 100000
theorem f109_ok {p0 : Int} {h : H} {K : Bool → H → Prop} (hS : S109 p0 h K) : ACall Tryd.prog 109 ([(.int .u8 p0)] : List Value).toArray h (fun r h' => ∃ r0 : Bool, r = tup [(.bool r0)] ∧ K r0 h') := by
  refine ACall.enter (fn := Tryd.f109) Tryd.func109 rfl (Nat.le_of_ble_eq_true rfl) ?_
  unfold S109 at hS
  have ok := Lok.nil h
  change EvC _ _ _ _ (H.add h []) _
  refine EvC.seq ?_
  refine EvC.region [Item.look 0] (by kernel_rfl) ?_
  refine R.look rfl rfl rfl (Lk.assign rfl rfl) fun _ => ?_
  refine R.nil ?_
  refine EvC.seq ?_
  refine EvC.region [Item.look 0, Item.look 1, Item.look 2, Item.look 3] (by kernel_rfl) ?_
  refine R.look rfl rfl rfl (Lk.move rfl rfl) fun _ => ?_
  refine R.look rfl rfl rfl (Lk.arith rfl rfl rfl rfl) fun _ => ?_
  refine R.look rfl rfl rfl (Lk.arith rfl rfl rfl rfl) fun _ => ?_
  refine R.look rfl rfl rfl (Lk.assign rfl rfl) fun _ => ?_
  refine R.nil ?_
  refine EvC.ret ?_
  exact ⟨.inr rfl, _, _, (.cons (.tmp rfl) .nil), ok.le, _, rfl, hS⟩
end Go.Proofs.YtimadnngfhbfiaaDoor
end

section
/- PRINTED by wip/gen.py: the machine's call of unicode/utf8.DecodeLastRuneInString does what S101 says. -/
namespace Go.Proofs.YtimadnngfhbfiaaDoor
open Go Go.Mu
set_option maxHeartbeats 4000000
set_option maxRecDepth 100000
theorem f101_ok {p0 : ByteArray} {h : H} {K : Int → Int → H → Prop} (hS : S101 p0 h K) : ACall Tryd.prog 101 ([(.string p0)] : List Value).toArray h (fun r h' => ∃ r0 : Int, ∃ r1 : Int, r = tup [(.int .i32 r0), (.int .i64 r1)] ∧ K r0 r1 h') := by
  refine ACall.enter (fn := Tryd.f101) Tryd.func101 rfl (Nat.le_of_ble_eq_true rfl) ?_
  unfold S101 at hS
  have ok := Lok.nil h
  change EvC _ _ _ _ (H.add h []) _
  refine EvC.seq ?_
  refine EvC.region [Item.look 0, Item.look 1] (by kernel_rfl) ?_
  refine R.look rfl rfl rfl (Lk.assign rfl rfl) fun _ => ?_
  refine R.look rfl rfl rfl (Lk.assign rfl rfl) fun _ => ?_
  refine R.nil ?_
  refine EvC.seq ?_
  refine EvC.region [Item.look 0, Item.look 1, Item.look 2] (by kernel_rfl) ?_
  refine R.look rfl rfl rfl (Lk.move rfl rfl) fun _ => ?_
  refine R.look rfl rfl rfl (Lk.lenS rfl Tryd.underlying9 rfl) fun _ => ?_
  refine R.look rfl rfl rfl (Lk.assign rfl rfl) fun _ => ?_
  refine R.nil ?_
  refine EvC.seq ?_
  refine EvC.seq ?_
  refine EvC.region [Item.look 0, Item.look 1] (by kernel_rfl) ?_
  refine R.look rfl rfl rfl (Lk.move rfl rfl) fun _ => ?_
  refine R.look rfl rfl rfl (Lk.arith rfl rfl rfl rfl) fun _ => ?_
  refine R.nil ?_
  by_cases e1 : ((ByteArray.size p0 : Int) == 0) = true
  · rw [if_pos e1] at hS
    refine EvC.condT rfl e1 ?_
    refine EvC.seq ?_
    refine EvC.region [Item.look 0, Item.look 1] (by kernel_rfl) ?_
    refine R.look rfl rfl rfl (Lk.assign rfl rfl) fun _ => ?_
    refine R.look rfl rfl rfl (Lk.assign rfl rfl) fun _ => ?_
    refine R.nil ?_
    refine EvC.ret ?_
    exact ⟨.inr rfl, _, _, (.cons (.tmp rfl) (.cons (.tmp rfl) .nil)), ok.le, _, _, rfl, hS⟩
  · rw [if_neg e1] at hS
    replace e1 := eq_false_of_ne_true e1
    refine EvC.condF rfl e1 ?_
    refine EvC.skip ?_
    refine EvC.seq ?_
    refine EvC.region [Item.look 0, Item.look 1, Item.look 2] (by kernel_rfl) ?_
    refine R.look rfl rfl rfl (Lk.move rfl rfl) fun _ => ?_
    refine R.look rfl rfl rfl (Lk.arith rfl rfl rfl rfl) fun _ => ?_
    refine R.look rfl rfl rfl (Lk.assign rfl rfl) fun _ => ?_
    refine R.nil ?_
    refine EvC.seq ?_
    refine EvC.region [Item.look 0, Item.look 1, Item.look 2, Item.look 3, Item.look 4] (by kernel_rfl) ?_
    refine R.look rfl rfl rfl (Lk.move rfl rfl) fun _ => ?_
    refine R.look rfl rfl rfl (Lk.move rfl rfl) fun _ => ?_
    obtain ⟨e2, e3, hS⟩ := hS
    refine R.look rfl rfl rfl (Lk.byte rfl Tryd.underlying9 rfl rfl e2 e3) fun _ => ?_
    refine R.look rfl rfl rfl (Lk.conv rfl Tryd.underlying5 Tryd.underlying21 rfl) fun _ => ?_
    refine R.look rfl rfl rfl (Lk.assign rfl rfl) fun _ => ?_
    refine R.nil ?_
    refine EvC.seq ?_
    refine EvC.seq ?_
    refine EvC.region [Item.look 0, Item.look 1] (by kernel_rfl) ?_
    refine R.look rfl rfl rfl (Lk.move rfl rfl) fun _ => ?_
    refine R.look rfl rfl rfl (Lk.arith rfl rfl rfl rfl) fun _ => ?_
    refine R.nil ?_
    by_cases e4 : (decide ((IntKind.wrap .i32 (byteAt p0 (IntKind.wrap .i64 ((ByteArray.size p0 : Int) - 1)))) < 128)) = true
    · rw [if_pos e4] at hS
      refine EvC.condT rfl e4 ?_
      refine EvC.seq ?_
      refine EvC.region [Item.look 0, Item.look 1, Item.look 2] (by kernel_rfl) ?_
      refine R.look rfl rfl rfl (Lk.move rfl rfl) fun _ => ?_
      refine R.look rfl rfl rfl (Lk.assign rfl rfl) fun _ => ?_
      refine R.look rfl rfl rfl (Lk.assign rfl rfl) fun _ => ?_
      refine R.nil ?_
      refine EvC.ret ?_
      exact ⟨.inr rfl, _, _, (.cons (.tmp rfl) (.cons (.tmp rfl) .nil)), ok.le, _, _, rfl, hS⟩
    · rw [if_neg e4] at hS
      replace e4 := eq_false_of_ne_true e4
      refine EvC.condF rfl e4 ?_
      refine EvC.skip ?_
      refine EvC.seq ?_
      refine EvC.region [Item.look 0, Item.look 1, Item.look 2, Item.look 3] (by kernel_rfl) ?_
      refine R.look rfl rfl rfl (Lk.move rfl rfl) fun _ => ?_
      refine R.look rfl rfl rfl (Lk.arith rfl rfl rfl rfl) fun _ => ?_
      refine R.look rfl rfl rfl (Lk.max2 rfl rfl rfl) fun _ => ?_
      refine R.look rfl rfl rfl (Lk.assign rfl rfl) fun _ => ?_
      refine R.nil ?_
      refine EvC.join (σ := Int) (fun s => (Env.put (Env.put (Env.put Env.emp 5 (.int .i64 s)) 4 (.int .i64 (ByteArray.size p0 : Int))) 0 (.string p0))) (fun s => []) (fun s h_1 => S101_j2 p0 K s h_1) ?_ (fun Ih_1 hIh_1 => ?_)
      · intro v5 h_1 ok hS
        replace hS : S101_j2 p0 K v5 h_1 := hS
        change EvC _ _ _ (Env.put (Env.put (Env.put Env.emp 5 (.int .i64 v5)) 4 (.int .i64 (ByteArray.size p0 : Int))) 0 (.string p0)) (H.add h_1 []) _
        unfold S101_j2 at hS
        refine EvC.join (σ := Int) (fun s => (Env.put (Env.put (Env.put Env.emp 5 (.int .i64 s)) 4 (.int .i64 (ByteArray.size p0 : Int))) 0 (.string p0))) (fun s => []) (fun s h_2 => S101_j1 p0 K s h_2) ?_ (fun Ih_2 hIh_2 => ?_)
        · intro v5_1 h_2 ok hS
          replace hS : S101_j1 p0 K v5_1 h_2 := hS
          change EvC _ _ _ (Env.put (Env.put (Env.put Env.emp 5 (.int .i64 v5_1)) 4 (.int .i64 (ByteArray.size p0 : Int))) 0 (.string p0)) (H.add h_2 []) _
          unfold S101_j1 at hS
          refine EvC.seq ?_
          refine EvC.region [Item.look 0, Item.look 1, Item.look 2, Item.look 3, Item.eff 4 [], Item.look 5, Item.look 6, Item.look 7, Item.look 8, Item.look 9] (by kernel_rfl) ?_
          refine R.look rfl rfl rfl (Lk.move rfl rfl) fun _ => ?_
          refine R.look rfl rfl rfl (Lk.move rfl rfl) fun _ => ?_
          refine R.look rfl rfl rfl (Lk.move rfl rfl) fun _ => ?_
          obtain ⟨e5, e6, e7, hS⟩ := hS
          refine R.look rfl rfl rfl (Lk.subStr rfl Tryd.underlying9 rfl rfl rfl e5 e6 e7) fun _ => ?_
          refine R.eff rfl rfl rfl (Eff.loc ok (Ef.call rfl CB99 rfl ((f99_ok hS).mono ?_)))
          rintro _ h_3 ⟨v41_0, v41_1, rfl, hS⟩
          refine fun ok => ⟨noChk, ?_⟩
          refine R.look rfl rfl rfl (Lk.move rfl rfl) fun _ => ?_
          refine R.look rfl rfl rfl (Lk.extract rfl rfl rfl) fun _ => ?_
          refine R.look rfl rfl rfl (Lk.extract rfl rfl rfl) fun _ => ?_
          refine R.look rfl rfl rfl (Lk.assign rfl rfl) fun _ => ?_
          refine R.look rfl rfl rfl (Lk.assign rfl rfl) fun _ => ?_
          refine R.nil ?_
          refine EvC.seq ?_
          refine EvC.seq ?_
          refine EvC.region [Item.look 0, Item.look 1, Item.look 2, Item.look 3, Item.look 4] (by kernel_rfl) ?_
          refine R.look rfl rfl rfl (Lk.move rfl rfl) fun _ => ?_
          refine R.look rfl rfl rfl (Lk.move rfl rfl) fun _ => ?_
          refine R.look rfl rfl rfl (Lk.arith rfl rfl rfl rfl) fun _ => ?_
          refine R.look rfl rfl rfl (Lk.move rfl rfl) fun _ => ?_
          refine R.look rfl rfl rfl (Lk.arith rfl rfl rfl rfl) fun _ => ?_
          refine R.nil ?_
          by_cases e8 : ((IntKind.wrap .i64 (v5_1 + v41_1)) != (ByteArray.size p0 : Int)) = true
          · rw [if_pos e8] at hS
            refine EvC.condT rfl e8 ?_
            refine EvC.seq ?_
            refine EvC.region [Item.look 0, Item.look 1] (by kernel_rfl) ?_
            refine R.look rfl rfl rfl (Lk.assign rfl rfl) fun _ => ?_
            refine R.look rfl rfl rfl (Lk.assign rfl rfl) fun _ => ?_
            refine R.nil ?_
            refine EvC.ret ?_
            exact ⟨.inr rfl, _, _, (.cons (.tmp rfl) (.cons (.tmp rfl) .nil)), ok.le, _, _, rfl, hS⟩
          · rw [if_neg e8] at hS
            replace e8 := eq_false_of_ne_true e8
            refine EvC.condF rfl e8 ?_
            refine EvC.skip ?_
            refine EvC.seq ?_
            refine EvC.region [Item.look 0, Item.look 1, Item.look 2, Item.look 3] (by kernel_rfl) ?_
            refine R.look rfl rfl rfl (Lk.move rfl rfl) fun _ => ?_
            refine R.look rfl rfl rfl (Lk.move rfl rfl) fun _ => ?_
            refine R.look rfl rfl rfl (Lk.assign rfl rfl) fun _ => ?_
            refine R.look rfl rfl rfl (Lk.assign rfl rfl) fun _ => ?_
            refine R.nil ?_
            refine EvC.ret ?_
            exact ⟨.inr rfl, _, _, (.cons (.tmp rfl) (.cons (.tmp rfl) .nil)), ok.le, _, _, rfl, hS⟩
        · refine EvC.seq ?_
          refine EvC.region [Item.look 0, Item.look 1] (by kernel_rfl) ?_
          refine R.look rfl rfl rfl (Lk.move rfl rfl) fun _ => ?_
          refine R.look rfl rfl rfl (Lk.arith rfl rfl rfl rfl) fun _ => ?_
          refine R.nil ?_
          by_cases e9 : (decide (v5 < 0)) = true
          · rw [if_pos e9] at hS
            refine EvC.condT rfl e9 ?_
            refine EvC.region [Item.look 0] (by kernel_rfl) ?_
            refine R.look rfl rfl rfl (Lk.assign rfl rfl) fun _ => ?_
            refine R.nil ?_
            exact hIh_2 0 _ _ _ (Env.le_put rfl (Env.le_put rfl (Env.le_put rfl (Env.le_emp _)))) (ok.sub List.Sublist.slnil) (H.add_sub ok List.Sublist.slnil) hS
          · rw [if_neg e9] at hS
            replace e9 := eq_false_of_ne_true e9
            refine EvC.condF rfl e9 ?_
            refine EvC.skip ?_
            exact hIh_2 v5 _ _ _ (Env.le_put rfl (Env.le_put rfl (Env.le_put rfl (Env.le_emp _)))) (ok.sub List.Sublist.slnil) (H.add_sub ok List.Sublist.slnil) hS
      · refine EvC.seq ?_
        refine EvC.region [Item.look 0, Item.look 1, Item.look 2] (by kernel_rfl) ?_
        refine R.look rfl rfl rfl (Lk.move rfl rfl) fun _ => ?_
        refine R.look rfl rfl rfl (Lk.arith rfl rfl rfl rfl) fun _ => ?_
        refine R.look rfl rfl rfl (Lk.assign rfl rfl) fun _ => ?_
        refine R.nil ?_
        refine EvC.block ?_
        refine EvC.loop ?_
        refine LoopC.lfp (σ := Int) (fun s => (Env.put (Env.put (Env.put (Env.put Env.emp 6 (.int .i64 (if 0 > (IntKind.wrap .i64 ((ByteArray.size p0 : Int) - 4)) then 0 else (IntKind.wrap .i64 ((ByteArray.size p0 : Int) - 4))))) 5 (.int .i64 s)) 4 (.int .i64 (ByteArray.size p0 : Int))) 0 (.string p0))) (fun s => []) (fun X hX => ?_) hS (ok.sub List.Sublist.slnil) (Env.le_put rfl (Env.le_put rfl (Env.le_put rfl (Env.le_put rfl (Env.le_emp _))))) (H.add_sub ok List.Sublist.slnil)
        intro v5_2 h_4 hS ok
        replace hS : S101_l3 p0 K X v5_2 h_4 := hS
        change EvC _ _ _ (Env.put (Env.put (Env.put (Env.put Env.emp 6 (.int .i64 (if 0 > (IntKind.wrap .i64 ((ByteArray.size p0 : Int) - 4)) then 0 else (IntKind.wrap .i64 ((ByteArray.size p0 : Int) - 4))))) 5 (.int .i64 v5_2)) 4 (.int .i64 (ByteArray.size p0 : Int))) 0 (.string p0)) (H.add h_4 []) _
        unfold S101_l3 at hS
        refine EvC.seq ?_
        refine EvC.seq ?_
        refine EvC.region [Item.look 0, Item.look 1, Item.look 2] (by kernel_rfl) ?_
        refine R.look rfl rfl rfl (Lk.move rfl rfl) fun _ => ?_
        refine R.look rfl rfl rfl (Lk.move rfl rfl) fun _ => ?_
        refine R.look rfl rfl rfl (Lk.arith rfl rfl rfl rfl) fun _ => ?_
        refine R.nil ?_
        by_cases e10 : (decide (v5_2 ≥ (if 0 > (IntKind.wrap .i64 ((ByteArray.size p0 : Int) - 4)) then 0 else (IntKind.wrap .i64 ((ByteArray.size p0 : Int) - 4))))) = true
        · rw [if_pos e10] at hS
          refine EvC.condT rfl e10 ?_
          refine EvC.skip ?_
          refine EvC.seq ?_
          refine EvC.block ?_
          refine EvC.seq ?_
          refine EvC.region [Item.look 0, Item.look 1, Item.look 2, Item.eff 3 []] (by kernel_rfl) ?_
          refine R.look rfl rfl rfl (Lk.move rfl rfl) fun _ => ?_
          refine R.look rfl rfl rfl (Lk.move rfl rfl) fun _ => ?_
          obtain ⟨e11, e12, hS⟩ := hS
          refine R.look rfl rfl rfl (Lk.byte rfl Tryd.underlying9 rfl rfl e11 e12) fun _ => ?_
          refine R.eff rfl rfl rfl (Eff.loc ok (Ef.call rfl CB109 rfl ((f109_ok hS).mono ?_)))
          rintro _ h_5 ⟨v33, rfl, hS⟩
          refine fun ok => ⟨noChk, ?_⟩
          refine R.nil ?_
          by_cases e13 : v33 = true
          · rw [if_pos e13] at hS
            refine EvC.condT rfl e13 ?_
            refine EvC.exit ?_
            exact hIh_1 v5_2 _ _ _ (Env.le_put rfl (Env.le_put rfl (Env.le_put rfl (Env.le_emp _)))) (ok.sub List.Sublist.slnil) (H.add_sub ok List.Sublist.slnil) hS
          · rw [if_neg e13] at hS
            replace e13 := eq_false_of_ne_true e13
            refine EvC.condF rfl e13 ?_
            refine EvC.skip ?_
            refine EvC.region [Item.look 0, Item.look 1, Item.look 2] (by kernel_rfl) ?_
            refine R.look rfl rfl rfl (Lk.move rfl rfl) fun _ => ?_
            refine R.look rfl rfl rfl (Lk.arith rfl rfl rfl rfl) fun _ => ?_
            refine R.look rfl rfl rfl (Lk.assign rfl rfl) fun _ => ?_
            refine R.nil ?_
            exact hX (IntKind.wrap .i64 (v5_2 - 1)) _ _ _ hS (ok.sub List.Sublist.slnil) (Env.le_put rfl (Env.le_put rfl (Env.le_put rfl (Env.le_put rfl (Env.le_emp _))))) (H.add_sub ok List.Sublist.slnil)
        · rw [if_neg e10] at hS
          replace e10 := eq_false_of_ne_true e10
          refine EvC.condF rfl e10 ?_
          refine EvC.exit ?_
          exact hIh_1 v5_2 _ _ _ (Env.le_put rfl (Env.le_put rfl (Env.le_put rfl (Env.le_emp _)))) (ok.sub List.Sublist.slnil) (H.add_sub ok List.Sublist.slnil) hS
end Go.Proofs.YtimadnngfhbfiaaDoor
end

section
/- PRINTED by wip/gen.py: the machine's call of muntin/parse.cutRight does what S92 says. -/
namespace Go.Proofs.YtimadnngfhbfiaaDoor
open Go Go.Mu
set_option maxHeartbeats 4000000
set_option maxRecDepth 100000
theorem f92_ok {p0 : ByteArray} {p1 : ByteArray} {h : H} {K : ByteArray → H → Prop} (hS : S92 p0 p1 h K) : ACall Tryd.prog 92 ([(.string p0), (.string p1)] : List Value).toArray h (fun r h' => ∃ r0 : ByteArray, r = tup [(.string r0)] ∧ K r0 h') := by
  refine ACall.enter (fn := Tryd.f92) Tryd.func92 rfl (Nat.le_of_ble_eq_true rfl) ?_
  unfold S92 at hS
  have ok := Lok.nil h
  change EvC _ _ _ _ (H.add h []) _
  refine EvC.seq ?_
  refine EvC.region [Item.look 0] (by kernel_rfl) ?_
  refine R.look rfl rfl rfl (Lk.assign rfl rfl) fun _ => ?_
  refine R.nil ?_
  refine EvC.join (σ := ByteArray) (fun s => (Env.put Env.emp 0 (.string s))) (fun s => []) (fun s h_1 => S92_j1 K s h_1) ?_ (fun Ih_1 hIh_1 => ?_)
  · intro v0 h_1 ok hS
    replace hS : S92_j1 K v0 h_1 := hS
    change EvC _ _ _ (Env.put Env.emp 0 (.string v0)) (H.add h_1 []) _
    unfold S92_j1 at hS
    refine EvC.seq ?_
    refine EvC.region [Item.look 0, Item.look 1] (by kernel_rfl) ?_
    refine R.look rfl rfl rfl (Lk.move rfl rfl) fun _ => ?_
    refine R.look rfl rfl rfl (Lk.assign rfl rfl) fun _ => ?_
    refine R.nil ?_
    refine EvC.ret ?_
    exact ⟨.inr rfl, _, _, (.cons (.tmp rfl) .nil), ok.le, _, rfl, hS⟩
  · refine EvC.block ?_
    refine EvC.loop ?_
    refine LoopC.lfp (σ := ByteArray) (fun s => (Env.put (Env.put Env.emp 1 (.string p1)) 0 (.string s))) (fun s => []) (fun X hX => ?_) hS (ok.sub List.Sublist.slnil) (Env.le_put rfl (Env.le_put rfl (Env.le_emp _))) (H.add_sub ok List.Sublist.slnil)
    intro v0_1 h_2 hS ok
    replace hS : S92_l4 p1 K X v0_1 h_2 := hS
    change EvC _ _ _ (Env.put (Env.put Env.emp 1 (.string p1)) 0 (.string v0_1)) (H.add h_2 []) _
    unfold S92_l4 at hS
    refine EvC.seq ?_
    refine EvC.seq ?_
    refine EvC.region [Item.look 0, Item.look 1, Item.look 2] (by kernel_rfl) ?_
    refine R.look rfl rfl rfl (Lk.move rfl rfl) fun _ => ?_
    refine R.look rfl rfl rfl (Lk.lenS rfl Tryd.underlying9 rfl) fun _ => ?_
    refine R.look rfl rfl rfl (Lk.arith rfl rfl rfl rfl) fun _ => ?_
    refine R.nil ?_
    by_cases e1 : (decide ((ByteArray.size v0_1 : Int) > 0)) = true
    · rw [if_pos e1] at hS
      refine EvC.condT rfl e1 ?_
      refine EvC.skip ?_
      refine EvC.block ?_
      refine EvC.seq ?_
      refine EvC.region [Item.look 0, Item.eff 1 [], Item.look 2, Item.look 3, Item.look 4, Item.look 5, Item.look 6] (by kernel_rfl) ?_
      refine R.look rfl rfl rfl (Lk.move rfl rfl) fun _ => ?_
      refine R.eff rfl rfl rfl (Eff.loc ok (Ef.call rfl CB101 rfl ((f101_ok hS).mono ?_)))
      rintro _ h_3 ⟨v15_0, v15_1, rfl, hS⟩
      refine fun ok => ⟨noChk, ?_⟩
      refine R.look rfl rfl rfl (Lk.move rfl rfl) fun _ => ?_
      refine R.look rfl rfl rfl (Lk.extract rfl rfl rfl) fun _ => ?_
      refine R.look rfl rfl rfl (Lk.extract rfl rfl rfl) fun _ => ?_
      refine R.look rfl rfl rfl (Lk.assign rfl rfl) fun _ => ?_
      refine R.look rfl rfl rfl (Lk.assign rfl rfl) fun _ => ?_
      refine R.nil ?_
      refine EvC.seq ?_
      refine EvC.region [Item.look 0] (by kernel_rfl) ?_
      refine R.look rfl rfl rfl (Lk.assign rfl rfl) fun _ => ?_
      refine R.nil ?_
      refine EvC.join (σ := Bool) (fun s => (Env.put (Env.put (Env.put (Env.put Env.emp 7 (.bool s)) 6 (.int .i64 v15_1)) 1 (.string p1)) 0 (.string v0_1))) (fun s => []) (fun s h_4 => S92_j2 K v0_1 X v15_1 s h_4) ?_ (fun Ih_4 hIh_4 => ?_)
      · intro v7 h_4 ok hS
        replace hS : S92_j2 K v0_1 X v15_1 v7 h_4 := hS
        change EvC _ _ _ (Env.put (Env.put (Env.put (Env.put Env.emp 7 (.bool v7)) 6 (.int .i64 v15_1)) 1 (.string p1)) 0 (.string v0_1)) (H.add h_4 []) _
        unfold S92_j2 at hS
        refine EvC.seq ?_
        refine EvC.seq ?_
        refine EvC.region [Item.look 0, Item.look 1] (by kernel_rfl) ?_
        refine R.look rfl rfl rfl (Lk.move rfl rfl) fun _ => ?_
        refine R.look rfl rfl rfl (Lk.not rfl rfl) fun _ => ?_
        refine R.nil ?_
        by_cases e2 : (!v7) = true
        · rw [if_pos e2] at hS
          refine EvC.condT rfl e2 ?_
          refine EvC.seq ?_
          refine EvC.region [Item.look 0, Item.look 1] (by kernel_rfl) ?_
          refine R.look rfl rfl rfl (Lk.move rfl rfl) fun _ => ?_
          refine R.look rfl rfl rfl (Lk.assign rfl rfl) fun _ => ?_
          refine R.nil ?_
          refine EvC.ret ?_
          exact ⟨.inr rfl, _, _, (.cons (.tmp rfl) .nil), ok.le, _, rfl, hS⟩
        · rw [if_neg e2] at hS
          replace e2 := eq_false_of_ne_true e2
          refine EvC.condF rfl e2 ?_
          refine EvC.skip ?_
          refine EvC.region [Item.look 0, Item.look 1, Item.look 2, Item.look 3, Item.look 4, Item.look 5, Item.look 6] (by kernel_rfl) ?_
          refine R.look rfl rfl rfl (Lk.move rfl rfl) fun _ => ?_
          refine R.look rfl rfl rfl (Lk.move rfl rfl) fun _ => ?_
          refine R.look rfl rfl rfl (Lk.lenS rfl Tryd.underlying9 rfl) fun _ => ?_
          refine R.look rfl rfl rfl (Lk.move rfl rfl) fun _ => ?_
          refine R.look rfl rfl rfl (Lk.arith rfl rfl rfl rfl) fun _ => ?_
          obtain ⟨e3, e4, hS⟩ := hS
          refine R.look rfl rfl rfl (Lk.subStrTo rfl Tryd.underlying9 rfl rfl e3 e4) fun _ => ?_
          refine R.look rfl rfl rfl (Lk.assign rfl rfl) fun _ => ?_
          refine R.nil ?_
          exact hX (ByteArray.extract v0_1 0 (Int.toNat (IntKind.wrap .i64 ((ByteArray.size v0_1 : Int) - v15_1)))) _ _ _ hS (ok.sub List.Sublist.slnil) (Env.le_put rfl (Env.le_put rfl (Env.le_emp _))) (H.add_sub ok List.Sublist.slnil)
      · refine EvC.seq ?_
        refine EvC.region [Item.look 0, Item.alc 1] (by kernel_rfl) ?_
        refine R.look rfl rfl rfl (Lk.move rfl rfl) fun _ => ?_
        refine R.var (blk := .obj (.stringIter p1 0)) ok rfl rfl rfl (Ac.range rfl Tryd.underlying9 rfl) trivial rfl fun b19 ok => ?_
        refine R.nil ?_
        refine EvC.block ?_
        refine EvC.loop ?_
        refine LoopC.lfp (σ := Bool × Nat) (fun s => (Env.put (Env.put (Env.put (Env.put (Env.put (Env.put Env.emp 19 (.pointer (some ⟨b19, 0, none⟩))) 7 (.bool s.1)) 6 (.int .i64 v15_1)) 5 (.int .i32 v15_0)) 1 (.string p1)) 0 (.string v0_1))) (fun s => [(b19, .obj (.stringIter p1 s.2))]) (fun X_1 hX_1 => ?_) hS (ok.sub (.cons_cons _ List.Sublist.slnil)) (Env.le_put rfl (Env.le_put rfl (Env.le_put rfl (Env.le_put rfl (Env.le_put rfl (Env.le_put rfl (Env.le_emp _))))))) (H.add_sub ok (.cons_cons _ List.Sublist.slnil))
        rintro ⟨v7_1, c19_1⟩ h_5 hS ok
        replace hS : S92_l3 p1 K v0_1 X v15_0 v15_1 X_1 v7_1 c19_1 h_5 := hS
        change EvC _ _ _ (Env.put (Env.put (Env.put (Env.put (Env.put (Env.put Env.emp 19 (.pointer (some ⟨b19, 0, none⟩))) 7 (.bool v7_1)) 6 (.int .i64 v15_1)) 5 (.int .i32 v15_0)) 1 (.string p1)) 0 (.string v0_1)) (H.add h_5 [(b19, .obj (.stringIter p1 c19_1))]) _
        unfold S92_l3 at hS
        refine EvC.seq ?_
        refine EvC.region [Item.eff 0 [], Item.look 1] (by kernel_rfl) ?_
        by_cases e5 : c19_1 < ByteArray.size p1
        · rw [if_pos e5] at hS
          refine R.eff rfl rfl rfl (Ef.nextLoc (i := 0) (l' := [(b19, .obj (.stringIter p1 (c19_1 + (Utf8.decode p1 c19_1).2)))]) ok rfl rfl rfl e5 rfl fun ok => ⟨noChk, ?_⟩)
          refine R.look rfl rfl rfl (Lk.extract rfl rfl rfl) fun _ => ?_
          refine R.nil ?_
          refine EvC.seq ?_
          refine EvC.condT rfl rfl ?_
          refine EvC.skip ?_
          refine EvC.block ?_
          refine EvC.seq ?_
          refine EvC.region [Item.look 0, Item.look 1] (by kernel_rfl) ?_
          refine R.look rfl rfl rfl (Lk.extract rfl rfl rfl) fun _ => ?_
          refine R.look rfl rfl rfl (Lk.assign rfl rfl) fun _ => ?_
          refine R.nil ?_
          refine EvC.region [Item.look 0, Item.look 1, Item.look 2, Item.look 3, Item.look 4, Item.look 5, Item.look 6] (by kernel_rfl) ?_
          refine R.look rfl rfl rfl (Lk.move rfl rfl) fun _ => ?_
          refine R.look rfl rfl rfl (Lk.move rfl rfl) fun _ => ?_
          by_cases e6 : v7_1 = true
          · refine R.lookF rfl rfl rfl rfl e6 rfl fun _ => ?_
            refine R.lookF rfl rfl rfl rfl e6 rfl fun _ => ?_
            refine R.lookF rfl rfl rfl rfl e6 rfl fun _ => ?_
            refine R.look rfl rfl rfl (Lk.pick rfl rfl (fun _ => rfl) (fun e => by rw [e6] at e; cases e)) fun _ => ?_
            refine R.look rfl rfl rfl (Lk.assign rfl rfl) fun _ => ?_
            refine R.nil ?_
            exact hX_1 ((v7_1 || (v15_0 == ((Utf8.decode p1 c19_1).1 : Int))), (c19_1 + (Utf8.decode p1 c19_1).2)) _ _ _ hS (ok.sub (.cons_cons _ List.Sublist.slnil)) (Env.le_put rfl (Env.le_put rfl (Env.le_put rfl (Env.le_put rfl (Env.le_put (by rw [e6]; rfl) (Env.le_put rfl (Env.le_emp _))))))) (H.add_sub ok (.cons_cons _ List.Sublist.slnil))
          · replace e6 := eq_false_of_ne_true e6
            refine R.lookT rfl rfl rfl rfl e6 rfl (Lk.move rfl rfl) fun _ => ?_
            refine R.lookT rfl rfl rfl rfl e6 rfl (Lk.move rfl rfl) fun _ => ?_
            refine R.lookT rfl rfl rfl rfl e6 rfl (Lk.arith rfl rfl rfl rfl) fun _ => ?_
            refine R.look rfl rfl rfl (Lk.pick rfl rfl (fun e => by rw [e6] at e; cases e) (fun _ => rfl)) fun _ => ?_
            refine R.look rfl rfl rfl (Lk.assign rfl rfl) fun _ => ?_
            refine R.nil ?_
            exact hX_1 ((v7_1 || (v15_0 == ((Utf8.decode p1 c19_1).1 : Int))), (c19_1 + (Utf8.decode p1 c19_1).2)) _ _ _ hS (ok.sub (.cons_cons _ List.Sublist.slnil)) (Env.le_put rfl (Env.le_put rfl (Env.le_put rfl (Env.le_put rfl (Env.le_put (by rw [e6]; rfl) (Env.le_put rfl (Env.le_emp _))))))) (H.add_sub ok (.cons_cons _ List.Sublist.slnil))
        · rw [if_neg e5] at hS
          refine R.eff rfl rfl rfl (Ef.nextEnd (i := 0) ok rfl rfl rfl e5 ⟨noChk, ?_⟩)
          refine R.look rfl rfl rfl (Lk.extract rfl rfl rfl) fun _ => ?_
          refine R.nil ?_
          refine EvC.seq ?_
          refine EvC.condF rfl rfl ?_
          refine EvC.exit ?_
          exact hIh_4 v7_1 _ _ _ (Env.le_put rfl (Env.le_put rfl (Env.le_put rfl (Env.le_put rfl (Env.le_emp _))))) (ok.sub (.cons _ List.Sublist.slnil)) (H.add_sub ok (.cons _ List.Sublist.slnil)) hS
    · rw [if_neg e1] at hS
      replace e1 := eq_false_of_ne_true e1
      refine EvC.condF rfl e1 ?_
      refine EvC.exit ?_
      exact hIh_1 v0_1 _ _ _ (Env.le_put rfl (Env.le_emp _)) (ok.sub List.Sublist.slnil) (H.add_sub ok List.Sublist.slnil) hS
end Go.Proofs.YtimadnngfhbfiaaDoor
end

section
/- PRINTED by wip/gen.py: the machine's call of muntin/parse.cutLeft does what S93 says. -/
namespace Go.Proofs.YtimadnngfhbfiaaDoor
open Go Go.Mu
set_option maxHeartbeats 4000000
set_option maxRecDepth 100000
theorem f93_ok {p0 : ByteArray} {p1 : ByteArray} {h : H} {K : ByteArray → H → Prop} (hS : S93 p0 p1 h K) : ACall Tryd.prog 93 ([(.string p0), (.string p1)] : List Value).toArray h (fun r h' => ∃ r0 : ByteArray, r = tup [(.string r0)] ∧ K r0 h') := by
  refine ACall.enter (fn := Tryd.f93) Tryd.func93 rfl (Nat.le_of_ble_eq_true rfl) ?_
  unfold S93 at hS
  have ok := Lok.nil h
  change EvC _ _ _ _ (H.add h []) _
  refine EvC.seq ?_
  refine EvC.region [Item.look 0] (by kernel_rfl) ?_
  refine R.look rfl rfl rfl (Lk.assign rfl rfl) fun _ => ?_
  refine R.nil ?_
  refine EvC.join (σ := Unit) (fun s => Env.emp) (fun s => []) (fun s h_1 => S93_j1 K h_1) ?_ (fun Ih_1 hIh_1 => ?_)
  · rintro ⟨⟩ h_1 ok hS
    replace hS : S93_j1 K h_1 := hS
    change EvC _ _ _ Env.emp (H.add h_1 []) _
    unfold S93_j1 at hS
    refine EvC.seq ?_
    refine EvC.region [Item.look 0] (by kernel_rfl) ?_
    refine R.look rfl rfl rfl (Lk.assign rfl rfl) fun _ => ?_
    refine R.nil ?_
    refine EvC.ret ?_
    exact ⟨.inr rfl, _, _, (.cons (.tmp rfl) .nil), ok.le, _, rfl, hS⟩
  · refine EvC.seq ?_
    refine EvC.region [Item.look 0, Item.alc 1] (by kernel_rfl) ?_
    refine R.look rfl rfl rfl (Lk.move rfl rfl) fun _ => ?_
    refine R.var (blk := .obj (.stringIter p0 0)) ok rfl rfl rfl (Ac.range rfl Tryd.underlying9 rfl) trivial rfl fun b11 ok => ?_
    refine R.nil ?_
    refine EvC.block ?_
    refine EvC.loop ?_
    refine LoopC.lfp (σ := Nat) (fun s => (Env.put (Env.put (Env.put Env.emp 11 (.pointer (some ⟨b11, 0, none⟩))) 1 (.string p1)) 0 (.string p0))) (fun s => [(b11, .obj (.stringIter p0 s))]) (fun X hX => ?_) hS (ok.sub (.cons_cons _ List.Sublist.slnil)) (Env.le_put rfl (Env.le_put rfl (Env.le_put rfl (Env.le_emp _)))) (H.add_sub ok (.cons_cons _ List.Sublist.slnil))
    intro c11_1 h_2 hS ok
    replace hS : S93_l4 p0 p1 K X c11_1 h_2 := hS
    change EvC _ _ _ (Env.put (Env.put (Env.put Env.emp 11 (.pointer (some ⟨b11, 0, none⟩))) 1 (.string p1)) 0 (.string p0)) (H.add h_2 [(b11, .obj (.stringIter p0 c11_1))]) _
    unfold S93_l4 at hS
    refine EvC.seq ?_
    refine EvC.region [Item.eff 0 [], Item.look 1] (by kernel_rfl) ?_
    by_cases e1 : c11_1 < ByteArray.size p0
    · rw [if_pos e1] at hS
      refine R.eff rfl rfl rfl (Ef.nextLoc (i := 0) (l' := [(b11, .obj (.stringIter p0 (c11_1 + (Utf8.decode p0 c11_1).2)))]) ok rfl rfl rfl e1 rfl fun ok => ⟨noChk, ?_⟩)
      refine R.look rfl rfl rfl (Lk.extract rfl rfl rfl) fun _ => ?_
      refine R.nil ?_
      refine EvC.seq ?_
      refine EvC.condT rfl rfl ?_
      refine EvC.skip ?_
      refine EvC.block ?_
      refine EvC.seq ?_
      refine EvC.region [Item.look 0, Item.look 1, Item.look 2, Item.look 3] (by kernel_rfl) ?_
      refine R.look rfl rfl rfl (Lk.extract rfl rfl rfl) fun _ => ?_
      refine R.look rfl rfl rfl (Lk.extract rfl rfl rfl) fun _ => ?_
      refine R.look rfl rfl rfl (Lk.assign rfl rfl) fun _ => ?_
      refine R.look rfl rfl rfl (Lk.assign rfl rfl) fun _ => ?_
      refine R.nil ?_
      refine EvC.seq ?_
      refine EvC.region [Item.look 0] (by kernel_rfl) ?_
      refine R.look rfl rfl rfl (Lk.assign rfl rfl) fun _ => ?_
      refine R.nil ?_
      refine EvC.join (σ := Bool) (fun s => (Env.put (Env.put (Env.put (Env.put (Env.put Env.emp 11 (.pointer (some ⟨b11, 0, none⟩))) 7 (.bool s)) 5 (.int .i64 (c11_1 : Int))) 1 (.string p1)) 0 (.string p0))) (fun s => [(b11, .obj (.stringIter p0 (c11_1 + (Utf8.decode p0 c11_1).2)))]) (fun s h_3 => S93_j2 p0 K c11_1 X s h_3) ?_ (fun Ih_3 hIh_3 => ?_)
      · intro v7 h_3 ok hS
        replace hS : S93_j2 p0 K c11_1 X v7 h_3 := hS
        change EvC _ _ _ (Env.put (Env.put (Env.put (Env.put (Env.put Env.emp 11 (.pointer (some ⟨b11, 0, none⟩))) 7 (.bool v7)) 5 (.int .i64 (c11_1 : Int))) 1 (.string p1)) 0 (.string p0)) (H.add h_3 [(b11, .obj (.stringIter p0 (c11_1 + (Utf8.decode p0 c11_1).2)))]) _
        unfold S93_j2 at hS
        refine EvC.seq ?_
        refine EvC.region [Item.look 0, Item.look 1] (by kernel_rfl) ?_
        refine R.look rfl rfl rfl (Lk.move rfl rfl) fun _ => ?_
        refine R.look rfl rfl rfl (Lk.not rfl rfl) fun _ => ?_
        refine R.nil ?_
        by_cases e2 : (!v7) = true
        · rw [if_pos e2] at hS
          refine EvC.condT rfl e2 ?_
          refine EvC.seq ?_
          refine EvC.region [Item.look 0, Item.look 1, Item.look 2, Item.look 3] (by kernel_rfl) ?_
          refine R.look rfl rfl rfl (Lk.move rfl rfl) fun _ => ?_
          refine R.look rfl rfl rfl (Lk.move rfl rfl) fun _ => ?_
          obtain ⟨e3, e4, hS⟩ := hS
          refine R.look rfl rfl rfl (Lk.subStrFrom rfl Tryd.underlying9 rfl rfl e3 e4) fun _ => ?_
          refine R.look rfl rfl rfl (Lk.assign rfl rfl) fun _ => ?_
          refine R.nil ?_
          refine EvC.ret ?_
          exact ⟨.inr rfl, _, _, (.cons (.tmp rfl) .nil), ok.le, _, rfl, hS⟩
        · rw [if_neg e2] at hS
          replace e2 := eq_false_of_ne_true e2
          refine EvC.condF rfl e2 ?_
          refine EvC.skip ?_
          exact hX (c11_1 + (Utf8.decode p0 c11_1).2) _ _ _ hS (ok.sub (.cons_cons _ List.Sublist.slnil)) (Env.le_put rfl (Env.le_put rfl (Env.le_put rfl (Env.le_emp _)))) (H.add_sub ok (.cons_cons _ List.Sublist.slnil))
      · refine EvC.seq ?_
        refine EvC.region [Item.look 0, Item.alc 1] (by kernel_rfl) ?_
        refine R.look rfl rfl rfl (Lk.move rfl rfl) fun _ => ?_
        refine R.var (blk := .obj (.stringIter p1 0)) ok rfl rfl rfl (Ac.range rfl Tryd.underlying9 rfl) trivial rfl fun b17 ok => ?_
        refine R.nil ?_
        refine EvC.block ?_
        refine EvC.loop ?_
        refine LoopC.lfp (σ := Bool × Nat) (fun s => (Env.put (Env.put (Env.put (Env.put (Env.put (Env.put (Env.put Env.emp 17 (.pointer (some ⟨b17, 0, none⟩))) 11 (.pointer (some ⟨b11, 0, none⟩))) 7 (.bool s.1)) 6 (.int .i32 ((Utf8.decode p0 c11_1).1 : Int))) 5 (.int .i64 (c11_1 : Int))) 1 (.string p1)) 0 (.string p0))) (fun s => [(b17, .obj (.stringIter p1 s.2)), (b11, .obj (.stringIter p0 (c11_1 + (Utf8.decode p0 c11_1).2)))]) (fun X_1 hX_1 => ?_) hS (ok.sub (.cons_cons _ (.cons_cons _ List.Sublist.slnil))) (Env.le_put rfl (Env.le_put rfl (Env.le_put rfl (Env.le_put rfl (Env.le_put rfl (Env.le_put rfl (Env.le_put rfl (Env.le_emp _)))))))) (H.add_sub ok (.cons_cons _ (.cons_cons _ List.Sublist.slnil)))
        rintro ⟨v7_1, c17_1⟩ h_4 hS ok
        replace hS : S93_l3 p0 p1 K c11_1 X X_1 v7_1 c17_1 h_4 := hS
        change EvC _ _ _ (Env.put (Env.put (Env.put (Env.put (Env.put (Env.put (Env.put Env.emp 17 (.pointer (some ⟨b17, 0, none⟩))) 11 (.pointer (some ⟨b11, 0, none⟩))) 7 (.bool v7_1)) 6 (.int .i32 ((Utf8.decode p0 c11_1).1 : Int))) 5 (.int .i64 (c11_1 : Int))) 1 (.string p1)) 0 (.string p0)) (H.add h_4 [(b17, .obj (.stringIter p1 c17_1)), (b11, .obj (.stringIter p0 (c11_1 + (Utf8.decode p0 c11_1).2)))]) _
        unfold S93_l3 at hS
        refine EvC.seq ?_
        refine EvC.region [Item.eff 0 [], Item.look 1] (by kernel_rfl) ?_
        by_cases e5 : c17_1 < ByteArray.size p1
        · rw [if_pos e5] at hS
          refine R.eff rfl rfl rfl (Ef.nextLoc (i := 0) (l' := [(b17, .obj (.stringIter p1 (c17_1 + (Utf8.decode p1 c17_1).2))), (b11, .obj (.stringIter p0 (c11_1 + (Utf8.decode p0 c11_1).2)))]) ok rfl rfl rfl e5 rfl fun ok => ⟨noChk, ?_⟩)
          refine R.look rfl rfl rfl (Lk.extract rfl rfl rfl) fun _ => ?_
          refine R.nil ?_
          refine EvC.seq ?_
          refine EvC.condT rfl rfl ?_
          refine EvC.skip ?_
          refine EvC.block ?_
          refine EvC.seq ?_
          refine EvC.region [Item.look 0, Item.look 1] (by kernel_rfl) ?_
          refine R.look rfl rfl rfl (Lk.extract rfl rfl rfl) fun _ => ?_
          refine R.look rfl rfl rfl (Lk.assign rfl rfl) fun _ => ?_
          refine R.nil ?_
          refine EvC.region [Item.look 0, Item.look 1, Item.look 2, Item.look 3, Item.look 4, Item.look 5, Item.look 6] (by kernel_rfl) ?_
          refine R.look rfl rfl rfl (Lk.move rfl rfl) fun _ => ?_
          refine R.look rfl rfl rfl (Lk.move rfl rfl) fun _ => ?_
          by_cases e6 : v7_1 = true
          · refine R.lookF rfl rfl rfl rfl e6 rfl fun _ => ?_
            refine R.lookF rfl rfl rfl rfl e6 rfl fun _ => ?_
            refine R.lookF rfl rfl rfl rfl e6 rfl fun _ => ?_
            refine R.look rfl rfl rfl (Lk.pick rfl rfl (fun _ => rfl) (fun e => by rw [e6] at e; cases e)) fun _ => ?_
            refine R.look rfl rfl rfl (Lk.assign rfl rfl) fun _ => ?_
            refine R.nil ?_
            exact hX_1 ((v7_1 || (((Utf8.decode p0 c11_1).1 : Int) == ((Utf8.decode p1 c17_1).1 : Int))), (c17_1 + (Utf8.decode p1 c17_1).2)) _ _ _ hS (ok.sub (.cons_cons _ (.cons_cons _ List.Sublist.slnil))) (Env.le_put rfl (Env.le_put rfl (Env.le_put rfl (Env.le_put rfl (Env.le_put (by rw [e6]; rfl) (Env.le_put rfl (Env.le_put rfl (Env.le_emp _)))))))) (H.add_sub ok (.cons_cons _ (.cons_cons _ List.Sublist.slnil)))
          · replace e6 := eq_false_of_ne_true e6
            refine R.lookT rfl rfl rfl rfl e6 rfl (Lk.move rfl rfl) fun _ => ?_
            refine R.lookT rfl rfl rfl rfl e6 rfl (Lk.move rfl rfl) fun _ => ?_
            refine R.lookT rfl rfl rfl rfl e6 rfl (Lk.arith rfl rfl rfl rfl) fun _ => ?_
            refine R.look rfl rfl rfl (Lk.pick rfl rfl (fun e => by rw [e6] at e; cases e) (fun _ => rfl)) fun _ => ?_
            refine R.look rfl rfl rfl (Lk.assign rfl rfl) fun _ => ?_
            refine R.nil ?_
            exact hX_1 ((v7_1 || (((Utf8.decode p0 c11_1).1 : Int) == ((Utf8.decode p1 c17_1).1 : Int))), (c17_1 + (Utf8.decode p1 c17_1).2)) _ _ _ hS (ok.sub (.cons_cons _ (.cons_cons _ List.Sublist.slnil))) (Env.le_put rfl (Env.le_put rfl (Env.le_put rfl (Env.le_put rfl (Env.le_put (by rw [e6]; rfl) (Env.le_put rfl (Env.le_put rfl (Env.le_emp _)))))))) (H.add_sub ok (.cons_cons _ (.cons_cons _ List.Sublist.slnil)))
        · rw [if_neg e5] at hS
          refine R.eff rfl rfl rfl (Ef.nextEnd (i := 0) ok rfl rfl rfl e5 ⟨noChk, ?_⟩)
          refine R.look rfl rfl rfl (Lk.extract rfl rfl rfl) fun _ => ?_
          refine R.nil ?_
          refine EvC.seq ?_
          refine EvC.condF rfl rfl ?_
          refine EvC.exit ?_
          exact hIh_3 v7_1 _ _ _ (Env.le_put rfl (Env.le_put rfl (Env.le_put rfl (Env.le_put rfl (Env.le_put rfl (Env.le_emp _)))))) (ok.sub (.cons _ (.cons_cons _ List.Sublist.slnil))) (H.add_sub ok (.cons _ (.cons_cons _ List.Sublist.slnil))) hS
    · rw [if_neg e1] at hS
      refine R.eff rfl rfl rfl (Ef.nextEnd (i := 0) ok rfl rfl rfl e1 ⟨noChk, ?_⟩)
      refine R.look rfl rfl rfl (Lk.extract rfl rfl rfl) fun _ => ?_
      refine R.nil ?_
      refine EvC.seq ?_
      refine EvC.condF rfl rfl ?_
      refine EvC.exit ?_
      exact hIh_1 () _ _ _ (Env.le_emp _) (ok.sub (.cons _ List.Sublist.slnil)) (H.add_sub ok (.cons _ List.Sublist.slnil)) hS
end Go.Proofs.YtimadnngfhbfiaaDoor
end

section
/- PRINTED by wip/gen.py: the machine's call of muntin/parse.letters does what S70 says. -/
namespace Go.Proofs.YtimadnngfhbfiaaDoor
open Go Go.Mu
set_option maxHeartbeats 4000000
set_option maxRecDepth 100000
theorem f70_ok {p0 : ByteArray} {p1 : ByteArray} {h : H} {K : Bool → H → Prop} (hS : S70 p0 p1 h K) : ACall Tryd.prog 70 ([(.string p0), (.string p1)] : List Value).toArray h (fun r h' => ∃ r0 : Bool, r = tup [(.bool r0)] ∧ K r0 h') := by
  refine ACall.enter (fn := Tryd.f70) Tryd.func70 rfl (Nat.le_of_ble_eq_true rfl) ?_
  unfold S70 at hS
  have ok := Lok.nil h
  change EvC _ _ _ _ (H.add h []) _
  refine EvC.seq ?_
  refine EvC.region [Item.look 0] (by kernel_rfl) ?_
  refine R.look rfl rfl rfl (Lk.assign rfl rfl) fun _ => ?_
  refine R.nil ?_
  refine EvC.seq ?_
  refine EvC.region [Item.look 0, Item.look 1, Item.eff 2 [], Item.look 3, Item.eff 4 [], Item.look 5, Item.look 6] (by kernel_rfl) ?_
  refine R.look rfl rfl rfl (Lk.move rfl rfl) fun _ => ?_
  refine R.look rfl rfl rfl (Lk.move rfl rfl) fun _ => ?_
  refine R.eff rfl rfl rfl (Eff.loc ok (Ef.call rfl CB93 rfl ((f93_ok hS).mono ?_)))
  rintro _ h_1 ⟨v7, rfl, hS⟩
  refine fun ok => ⟨noChk, ?_⟩
  refine R.look rfl rfl rfl (Lk.move rfl rfl) fun _ => ?_
  refine R.eff rfl rfl rfl (Eff.loc ok (Ef.call rfl CB92 rfl ((f92_ok hS).mono ?_)))
  rintro _ h_2 ⟨v9, rfl, hS⟩
  refine fun ok => ⟨noChk, ?_⟩
  refine R.look rfl rfl rfl (Lk.strEq rfl rfl rfl) fun _ => ?_
  refine R.look rfl rfl rfl (Lk.assign rfl rfl) fun _ => ?_
  refine R.nil ?_
  refine EvC.ret ?_
  exact ⟨.inr rfl, _, _, (.cons (.tmp rfl) .nil), ok.le, _, rfl, hS⟩
end Go.Proofs.YtimadnngfhbfiaaDoor
end

section
/- PRINTED by wip/gen.py: the machine's call of muntin/parse.Check does what S39 says. -/
namespace Go.Proofs.YtimadnngfhbfiaaDoor
open Go Go.Mu
set_option maxHeartbeats 4000000
set_option maxRecDepth 100000
theorem f39_ok {p0_0 : Sl} {p0_1 : Sl} {h : H} {K : Int → H → Prop} (hS : S39 p0_0 p0_1 h K) : ACall Tryd.prog 39 ([(.agg ([(.slice p0_0.a p0_0.l p0_0.c), (.slice p0_1.a p0_1.l p0_1.c)] : List Value).toArray)] : List Value).toArray h (fun r h' => ∃ r0 : Int, r = tup [(.int .i64 r0)] ∧ K r0 h') := by
  refine ACall.enter (fn := Tryd.f39) Tryd.func39 rfl (Nat.le_of_ble_eq_true rfl) ?_
  unfold S39 at hS
  have ok := Lok.nil h
  change EvC _ _ _ _ (H.add h []) _
  refine EvC.seq ?_
  refine EvC.region [Item.alc 0, Item.look 1] (by kernel_rfl) ?_
  refine R.var (blk := .row ⟨[(.slice p0_0.a p0_0.l p0_0.c), (.slice p0_1.a p0_1.l p0_1.c)], 2, 29, true, true⟩) ok rfl rfl rfl (Ac.box rfl rfl) rfl rfl fun b1 ok => ?_
  refine R.look rfl rfl rfl (Lk.assign rfl rfl) fun _ => ?_
  refine R.nil ?_
  refine EvC.seq ?_
  refine EvC.region [Item.look 0] (by kernel_rfl) ?_
  refine R.look rfl rfl rfl (Lk.assign rfl rfl) fun _ => ?_
  refine R.nil ?_
  refine EvC.join (σ := Int) (fun s => (Env.put (Env.put Env.emp 3 (.int .i64 s)) 1 (.pointer (some ⟨b1, 0, none⟩)))) (fun s => [(b1, .row ⟨[(.slice p0_0.a p0_0.l p0_0.c), (.slice p0_1.a p0_1.l p0_1.c)], 2, 29, true, true⟩)]) (fun s h_1 => S39_j5 p0_0 p0_1 K s h_1) ?_ (fun Ih_1 hIh_1 => ?_)
  · intro v3 h_1 ok hS
    replace hS : S39_j5 p0_0 p0_1 K v3 h_1 := hS
    change EvC _ _ _ (Env.put (Env.put Env.emp 3 (.int .i64 v3)) 1 (.pointer (some ⟨b1, 0, none⟩))) (H.add h_1 [(b1, .row ⟨[(.slice p0_0.a p0_0.l p0_0.c), (.slice p0_1.a p0_1.l p0_1.c)], 2, 29, true, true⟩)]) _
    unfold S39_j5 at hS
    refine EvC.seq ?_
    refine EvC.seq ?_
    refine EvC.region [Item.look 0, Item.look 1, Item.look 2, Item.look 3, Item.look 4, Item.look 5, Item.look 6, Item.look 7, Item.look 8] (by kernel_rfl) ?_
    refine R.look (v := (.pointer (some ⟨b1, 0, none⟩))) rfl rfl rfl (Lk.fldAddr rfl Tryd.underlying29 rfl rfl T22 rfl rfl rfl) fun _ => ?_
    refine R.look rfl rfl rfl (Lk.load1 (v := (.slice p0_0.a p0_0.l p0_0.c)) rfl Tryd.underlying22 rfl rfl (H.rd_loc ok (i := 0) rfl rfl)) fun _ => ?_
    refine R.look rfl rfl rfl (Lk.len rfl Tryd.underlying22 rfl) fun _ => ?_
    refine R.look (v := (.pointer (some ⟨b1, 1, none⟩))) rfl rfl rfl (Lk.fldAddr rfl Tryd.underlying29 rfl rfl T27 rfl rfl rfl) fun _ => ?_
    refine R.look rfl rfl rfl (Lk.load1 (v := (.slice p0_1.a p0_1.l p0_1.c)) rfl Tryd.underlying27 rfl rfl (H.rd_loc ok (i := 0) rfl rfl)) fun _ => ?_
    refine R.look rfl rfl rfl (Lk.len rfl Tryd.underlying27 rfl) fun _ => ?_
    refine R.look rfl rfl rfl (Lk.move rfl rfl) fun _ => ?_
    refine R.look rfl rfl rfl (Lk.max3 rfl rfl rfl rfl) fun _ => ?_
    refine R.look rfl rfl rfl (Lk.arith rfl rfl rfl rfl) fun _ => ?_
    refine R.nil ?_
    by_cases e1 : (decide ((if v3 > (if (p0_1.l : Int) > (p0_0.l : Int) then (p0_1.l : Int) else (p0_0.l : Int)) then v3 else (if (p0_1.l : Int) > (p0_0.l : Int) then (p0_1.l : Int) else (p0_0.l : Int))) > 4096)) = true
    · rw [if_pos e1] at hS
      refine EvC.condT rfl e1 ?_
      refine EvC.seq ?_
      refine EvC.region [Item.look 0] (by kernel_rfl) ?_
      refine R.look rfl rfl rfl (Lk.assign rfl rfl) fun _ => ?_
      refine R.nil ?_
      refine EvC.ret ?_
      exact ⟨.inr rfl, _, _, (.cons (.tmp rfl) .nil), ok.le, _, rfl, hS⟩
    · rw [if_neg e1] at hS
      replace e1 := eq_false_of_ne_true e1
      refine EvC.condF rfl e1 ?_
      refine EvC.skip ?_
      refine EvC.join (σ := Unit) (fun s => Env.emp) (fun s => []) (fun s h_2 => S39_j1 K h_2) ?_ (fun Ih_2 hIh_2 => ?_)
      · rintro ⟨⟩ h_2 ok hS
        replace hS : S39_j1 K h_2 := hS
        change EvC _ _ _ Env.emp (H.add h_2 []) _
        unfold S39_j1 at hS
        refine EvC.seq ?_
        refine EvC.region [Item.look 0] (by kernel_rfl) ?_
        refine R.look rfl rfl rfl (Lk.assign rfl rfl) fun _ => ?_
        refine R.nil ?_
        refine EvC.ret ?_
        exact ⟨.inr rfl, _, _, (.cons (.tmp rfl) .nil), ok.le, _, rfl, hS⟩
      · refine EvC.seq ?_
        refine EvC.region [Item.look 0, Item.look 1, Item.look 2, Item.look 3] (by kernel_rfl) ?_
        refine R.look (v := (.pointer (some ⟨b1, 1, none⟩))) rfl rfl rfl (Lk.fldAddr rfl Tryd.underlying29 rfl rfl T27 rfl rfl rfl) fun _ => ?_
        refine R.look rfl rfl rfl (Lk.load1 (v := (.slice p0_1.a p0_1.l p0_1.c)) rfl Tryd.underlying27 rfl rfl (H.rd_loc ok (i := 0) rfl rfl)) fun _ => ?_
        refine R.look rfl rfl rfl (Lk.len rfl Tryd.underlying27 rfl) fun _ => ?_
        refine R.look rfl rfl rfl (Lk.move rfl rfl) fun _ => ?_
        refine R.nil ?_
        refine EvC.block ?_
        refine EvC.loop ?_
        refine LoopC.lfp (σ := Int) (fun s => (Env.put (Env.put (Env.put (Env.put Env.emp 34 (.int .i64 s)) 33 (.int .i64 (p0_1.l : Int))) 32 (.slice p0_1.a p0_1.l p0_1.c)) 1 (.pointer (some ⟨b1, 0, none⟩)))) (fun s => [(b1, .row ⟨[(.slice p0_0.a p0_0.l p0_0.c), (.slice p0_1.a p0_1.l p0_1.c)], 2, 29, true, true⟩)]) (fun X hX => ?_) hS (ok.sub (.cons_cons _ List.Sublist.slnil)) (Env.le_put rfl (Env.le_put rfl (Env.le_put rfl (Env.le_put rfl (Env.le_emp _))))) (H.add_sub ok (.cons_cons _ List.Sublist.slnil))
        intro v34 h_3 hS ok
        replace hS : S39_l4 p0_0 p0_1 K X v34 h_3 := hS
        change EvC _ _ _ (Env.put (Env.put (Env.put (Env.put Env.emp 34 (.int .i64 v34)) 33 (.int .i64 (p0_1.l : Int))) 32 (.slice p0_1.a p0_1.l p0_1.c)) 1 (.pointer (some ⟨b1, 0, none⟩))) (H.add h_3 [(b1, .row ⟨[(.slice p0_0.a p0_0.l p0_0.c), (.slice p0_1.a p0_1.l p0_1.c)], 2, 29, true, true⟩)]) _
        unfold S39_l4 at hS
        refine EvC.seq ?_
        refine EvC.region [Item.look 0] (by kernel_rfl) ?_
        refine R.look rfl rfl rfl (Lk.arith rfl rfl rfl rfl) fun _ => ?_
        refine R.nil ?_
        refine EvC.seq ?_
        by_cases e2 : (decide (v34 < (p0_1.l : Int))) = true
        · rw [if_pos e2] at hS
          refine EvC.condT rfl e2 ?_
          refine EvC.skip ?_
          refine EvC.seq ?_
          refine EvC.block ?_
          refine EvC.seq ?_
          refine EvC.region [Item.look 0, Item.look 1, Item.alc 2, Item.eff 3 []] (by kernel_rfl) ?_
          obtain ⟨a36, e3, e4, e5, hS⟩ := hS
          refine R.look rfl rfl rfl (Lk.ixAddr rfl Tryd.underlying27 T54 rfl e3 rfl e4 e5) fun _ => ?_
          obtain ⟨v37_0, v37_1, v37_2, v37_3, e6, hS⟩ := hS
          refine R.look rfl rfl rfl (Look.loc ok (Lk.loadN rfl Tryd.underlying54 rfl T54 rfl e6)) fun _ => ?_
          refine R.var (blk := .row ⟨[(.int .i64 0), (.int .i64 0), (.int .i64 0), (.string ⟨#[]⟩)], 4, 54, true, true⟩) ok rfl rfl rfl (Ac.alloc rfl T54) rfl rfl fun b7 ok => ?_
          refine R.effN rfl rfl rfl (Ef.storeLoc (i := 0) (vs := [(.int .i64 v37_0), (.int .i64 v37_1), (.int .i64 v37_2), (.string v37_3)]) (cs := [(.int .i64 v37_0), (.int .i64 v37_1), (.int .i64 v37_2), (.string v37_3)]) (l' := [(b7, .row ⟨[(.int .i64 v37_0), (.int .i64 v37_1), (.int .i64 v37_2), (.string v37_3)], 4, 54, true, true⟩), (b1, .row ⟨[(.slice p0_0.a p0_0.l p0_0.c), (.slice p0_1.a p0_1.l p0_1.c)], 2, 29, true, true⟩)]) ok rfl T54 rfl rfl rfl rfl rfl rfl rfl rfl rfl rfl fun ok => ⟨noChk, ?_⟩)
          refine R.nil ?_
          refine EvC.seq ?_
          refine EvC.join (σ := Bool) (fun s => (Env.put (Env.put (Env.put (Env.put (Env.put (Env.put Env.emp 54 (.bool s)) 34 (.int .i64 v34)) 33 (.int .i64 (p0_1.l : Int))) 32 (.slice p0_1.a p0_1.l p0_1.c)) 7 (.pointer (some ⟨b7, 0, none⟩))) 1 (.pointer (some ⟨b1, 0, none⟩)))) (fun s => [(b7, .row ⟨[(.int .i64 v37_0), (.int .i64 v37_1), (.int .i64 v37_2), (.string v37_3)], 4, 54, true, true⟩), (b1, .row ⟨[(.slice p0_0.a p0_0.l p0_0.c), (.slice p0_1.a p0_1.l p0_1.c)], 2, 29, true, true⟩)]) (fun s h_4 => S39_j3 K v34 X v37_2 v37_3 s h_4) ?_ (fun Ih_4 hIh_4 => ?_)
          · intro v54 h_4 ok hS
            replace hS : S39_j3 K v34 X v37_2 v37_3 v54 h_4 := hS
            change EvC _ _ _ (Env.put (Env.put (Env.put (Env.put (Env.put (Env.put Env.emp 54 (.bool v54)) 34 (.int .i64 v34)) 33 (.int .i64 (p0_1.l : Int))) 32 (.slice p0_1.a p0_1.l p0_1.c)) 7 (.pointer (some ⟨b7, 0, none⟩))) 1 (.pointer (some ⟨b1, 0, none⟩))) (H.add h_4 [(b7, .row ⟨[(.int .i64 v37_0), (.int .i64 v37_1), (.int .i64 v37_2), (.string v37_3)], 4, 54, true, true⟩), (b1, .row ⟨[(.slice p0_0.a p0_0.l p0_0.c), (.slice p0_1.a p0_1.l p0_1.c)], 2, 29, true, true⟩)]) _
            unfold S39_j3 at hS
            by_cases e7 : v54 = true
            · rw [if_pos e7] at hS
              refine EvC.condT rfl e7 ?_
              refine EvC.seq ?_
              refine EvC.region [Item.look 0] (by kernel_rfl) ?_
              refine R.look rfl rfl rfl (Lk.assign rfl rfl) fun _ => ?_
              refine R.nil ?_
              refine EvC.ret ?_
              exact ⟨.inr rfl, _, _, (.cons (.tmp rfl) .nil), ok.le, _, rfl, hS⟩
            · rw [if_neg e7] at hS
              replace e7 := eq_false_of_ne_true e7
              refine EvC.condF rfl e7 ?_
              refine EvC.skip ?_
              refine EvC.join (σ := Bool) (fun s => (Env.put (Env.put (Env.put (Env.put (Env.put Env.emp 64 (.bool s)) 34 (.int .i64 v34)) 33 (.int .i64 (p0_1.l : Int))) 32 (.slice p0_1.a p0_1.l p0_1.c)) 1 (.pointer (some ⟨b1, 0, none⟩)))) (fun s => [(b1, .row ⟨[(.slice p0_0.a p0_0.l p0_0.c), (.slice p0_1.a p0_1.l p0_1.c)], 2, 29, true, true⟩)]) (fun s h_5 => S39_j2 K v34 X s h_5) ?_ (fun Ih_5 hIh_5 => ?_)
              · intro v64 h_5 ok hS
                replace hS : S39_j2 K v34 X v64 h_5 := hS
                change EvC _ _ _ (Env.put (Env.put (Env.put (Env.put (Env.put Env.emp 64 (.bool v64)) 34 (.int .i64 v34)) 33 (.int .i64 (p0_1.l : Int))) 32 (.slice p0_1.a p0_1.l p0_1.c)) 1 (.pointer (some ⟨b1, 0, none⟩))) (H.add h_5 [(b1, .row ⟨[(.slice p0_0.a p0_0.l p0_0.c), (.slice p0_1.a p0_1.l p0_1.c)], 2, 29, true, true⟩)]) _
                unfold S39_j2 at hS
                by_cases e8 : v64 = true
                · rw [if_pos e8] at hS
                  refine EvC.condT rfl e8 ?_
                  refine EvC.seq ?_
                  refine EvC.region [Item.look 0] (by kernel_rfl) ?_
                  refine R.look rfl rfl rfl (Lk.assign rfl rfl) fun _ => ?_
                  refine R.nil ?_
                  refine EvC.ret ?_
                  exact ⟨.inr rfl, _, _, (.cons (.tmp rfl) .nil), ok.le, _, rfl, hS⟩
                · rw [if_neg e8] at hS
                  replace e8 := eq_false_of_ne_true e8
                  refine EvC.condF rfl e8 ?_
                  refine EvC.skip ?_
                  refine EvC.region [Item.look 0, Item.look 1] (by kernel_rfl) ?_
                  refine R.look rfl rfl rfl (Lk.arith rfl rfl rfl rfl) fun _ => ?_
                  refine R.look rfl rfl rfl (Lk.move rfl rfl) fun _ => ?_
                  refine R.nil ?_
                  exact hX (IntKind.wrap .i64 (v34 + 1)) _ _ _ hS (ok.sub (.cons_cons _ List.Sublist.slnil)) (Env.le_put rfl (Env.le_put rfl (Env.le_put rfl (Env.le_put rfl (Env.le_emp _))))) (H.add_sub ok (.cons_cons _ List.Sublist.slnil))
              · refine EvC.region [Item.look 0, Item.look 1, Item.eff 2 [], Item.look 3, Item.look 4, Item.look 5, Item.look 6, Item.eff 7 [], Item.look 8, Item.look 9] (by kernel_rfl) ?_
                refine R.look (v := (.pointer (some ⟨b7, 2, none⟩))) rfl rfl rfl (Lk.fldAddr rfl Tryd.underlying54 rfl rfl T3 rfl rfl rfl) fun _ => ?_
                refine R.look rfl rfl rfl (Lk.load1 (v := (.int .i64 v37_2)) rfl Tryd.underlying3 rfl rfl (H.rd_loc ok (i := 0) rfl rfl)) fun _ => ?_
                refine R.eff rfl rfl rfl (Eff.loc ok (Ef.call rfl CB54 rfl ((f54_ok hS).mono ?_)))
                rintro _ h_6 ⟨v57, rfl, hS⟩
                refine fun ok => ⟨noChk, ?_⟩
                refine R.look rfl rfl rfl (Lk.not rfl rfl) fun _ => ?_
                refine R.look rfl rfl rfl (Lk.move rfl rfl) fun _ => ?_
                by_cases e9 : (!v57) = true
                · rw [if_pos e9] at hS
                  refine R.lookF rfl rfl rfl rfl e9 rfl fun _ => ?_
                  refine R.lookF rfl rfl rfl rfl e9 rfl fun _ => ?_
                  refine R.effF rfl rfl rfl rfl e9 rfl ?_
                  refine R.lookF rfl rfl rfl rfl e9 rfl fun _ => ?_
                  refine R.look rfl rfl rfl (Lk.pick rfl rfl (fun _ => rfl) (fun e => by rw [e9] at e; cases e)) fun _ => ?_
                  refine R.nil ?_
                  exact hIh_5 true _ _ _ (Env.le_put rfl (Env.le_put rfl (Env.le_put rfl (Env.le_put rfl (Env.le_put rfl (Env.le_emp _)))))) (ok.sub (.cons _ (.cons_cons _ List.Sublist.slnil))) (H.add_sub ok (.cons _ (.cons_cons _ List.Sublist.slnil))) hS
                · rw [if_neg e9] at hS
                  replace e9 := eq_false_of_ne_true e9
                  refine R.lookT (v := (.pointer (some ⟨b7, 3, none⟩))) rfl rfl rfl rfl e9 rfl (Lk.fldAddr rfl Tryd.underlying54 rfl rfl T9 rfl rfl rfl) fun _ => ?_
                  refine R.lookT rfl rfl rfl rfl e9 rfl (Lk.load1 (v := (.string v37_3)) rfl Tryd.underlying9 rfl rfl (H.rd_loc ok (i := 0) rfl rfl)) fun _ => ?_
                  refine R.effT rfl rfl rfl rfl e9 rfl (Eff.loc ok (Ef.call rfl CB70 rfl ((f70_ok hS).mono ?_)))
                  rintro _ h_7 ⟨v62, rfl, hS⟩
                  refine fun ok => ⟨noChk, ?_⟩
                  refine R.lookT rfl rfl rfl rfl e9 rfl (Lk.not rfl rfl) fun _ => ?_
                  refine R.look rfl rfl rfl (Lk.pick rfl rfl (fun e => by rw [e9] at e; cases e) (fun _ => rfl)) fun _ => ?_
                  refine R.nil ?_
                  exact hIh_5 (!v62) _ _ _ (Env.le_put rfl (Env.le_put rfl (Env.le_put rfl (Env.le_put rfl (Env.le_put rfl (Env.le_emp _)))))) (ok.sub (.cons _ (.cons_cons _ List.Sublist.slnil))) (H.add_sub ok (.cons _ (.cons_cons _ List.Sublist.slnil))) hS
          · refine EvC.region [Item.look 0, Item.look 1, Item.look 2, Item.look 3, Item.look 4, Item.look 5, Item.look 6, Item.look 7, Item.look 8, Item.look 9, Item.look 10, Item.look 11, Item.look 12, Item.look 13, Item.look 14, Item.look 15, Item.look 16] (by kernel_rfl) ?_
            refine R.look (v := (.pointer (some ⟨b7, 0, none⟩))) rfl rfl rfl (Lk.fldAddr rfl Tryd.underlying54 rfl rfl T3 rfl rfl rfl) fun _ => ?_
            refine R.look rfl rfl rfl (Lk.load1 (v := (.int .i64 v37_0)) rfl Tryd.underlying3 rfl rfl (H.rd_loc ok (i := 0) rfl rfl)) fun _ => ?_
            refine R.look (v := (.pointer (some ⟨b7, 1, none⟩))) rfl rfl rfl (Lk.fldAddr rfl Tryd.underlying54 rfl rfl T3 rfl rfl rfl) fun _ => ?_
            refine R.look rfl rfl rfl (Lk.load1 (v := (.int .i64 v37_1)) rfl Tryd.underlying3 rfl rfl (H.rd_loc ok (i := 0) rfl rfl)) fun _ => ?_
            refine R.look rfl rfl rfl (Lk.min2 rfl rfl rfl) fun _ => ?_
            refine R.look rfl rfl rfl (Lk.arith rfl rfl rfl rfl) fun _ => ?_
            refine R.look rfl rfl rfl (Lk.move rfl rfl) fun _ => ?_
            by_cases e10 : (decide ((if v37_1 < v37_0 then v37_1 else v37_0) < 0)) = true
            · refine R.lookF rfl rfl rfl rfl e10 rfl fun _ => ?_
              refine R.lookF rfl rfl rfl rfl e10 rfl fun _ => ?_
              refine R.lookF rfl rfl rfl rfl e10 rfl fun _ => ?_
              refine R.lookF rfl rfl rfl rfl e10 rfl fun _ => ?_
              refine R.lookF rfl rfl rfl rfl e10 rfl fun _ => ?_
              refine R.lookF rfl rfl rfl rfl e10 rfl fun _ => ?_
              refine R.lookF rfl rfl rfl rfl e10 rfl fun _ => ?_
              refine R.lookF rfl rfl rfl rfl e10 rfl fun _ => ?_
              refine R.lookF rfl rfl rfl rfl e10 rfl fun _ => ?_
              refine R.look rfl rfl rfl (Lk.pick rfl rfl (fun _ => rfl) (fun e => by rw [e10] at e; cases e)) fun _ => ?_
              refine R.nil ?_
              exact hIh_4 ((decide ((if v37_1 < v37_0 then v37_1 else v37_0) < 0)) || (decide ((if v37_1 > v37_0 then v37_1 else v37_0) ≥ (p0_0.l : Int)))) _ _ _ (Env.le_put rfl (Env.le_put rfl (Env.le_put rfl (Env.le_put rfl (Env.le_put rfl (Env.le_put (by rw [e10]; rfl) (Env.le_emp _))))))) (ok.sub (.cons_cons _ (.cons_cons _ List.Sublist.slnil))) (H.add_sub ok (.cons_cons _ (.cons_cons _ List.Sublist.slnil))) hS
            · replace e10 := eq_false_of_ne_true e10
              refine R.lookT (v := (.pointer (some ⟨b7, 0, none⟩))) rfl rfl rfl rfl e10 rfl (Lk.fldAddr rfl Tryd.underlying54 rfl rfl T3 rfl rfl rfl) fun _ => ?_
              refine R.lookT rfl rfl rfl rfl e10 rfl (Lk.load1 (v := (.int .i64 v37_0)) rfl Tryd.underlying3 rfl rfl (H.rd_loc ok (i := 0) rfl rfl)) fun _ => ?_
              refine R.lookT (v := (.pointer (some ⟨b7, 1, none⟩))) rfl rfl rfl rfl e10 rfl (Lk.fldAddr rfl Tryd.underlying54 rfl rfl T3 rfl rfl rfl) fun _ => ?_
              refine R.lookT rfl rfl rfl rfl e10 rfl (Lk.load1 (v := (.int .i64 v37_1)) rfl Tryd.underlying3 rfl rfl (H.rd_loc ok (i := 0) rfl rfl)) fun _ => ?_
              refine R.lookT rfl rfl rfl rfl e10 rfl (Lk.max2 rfl rfl rfl) fun _ => ?_
              refine R.lookT (v := (.pointer (some ⟨b1, 0, none⟩))) rfl rfl rfl rfl e10 rfl (Lk.fldAddr rfl Tryd.underlying29 rfl rfl T22 rfl rfl rfl) fun _ => ?_
              refine R.lookT rfl rfl rfl rfl e10 rfl (Lk.load1 (v := (.slice p0_0.a p0_0.l p0_0.c)) rfl Tryd.underlying22 rfl rfl (H.rd_loc ok (i := 1) rfl rfl)) fun _ => ?_
              refine R.lookT rfl rfl rfl rfl e10 rfl (Lk.len rfl Tryd.underlying22 rfl) fun _ => ?_
              refine R.lookT rfl rfl rfl rfl e10 rfl (Lk.arith rfl rfl rfl rfl) fun _ => ?_
              refine R.look rfl rfl rfl (Lk.pick rfl rfl (fun e => by rw [e10] at e; cases e) (fun _ => rfl)) fun _ => ?_
              refine R.nil ?_
              exact hIh_4 ((decide ((if v37_1 < v37_0 then v37_1 else v37_0) < 0)) || (decide ((if v37_1 > v37_0 then v37_1 else v37_0) ≥ (p0_0.l : Int)))) _ _ _ (Env.le_put rfl (Env.le_put rfl (Env.le_put rfl (Env.le_put rfl (Env.le_put rfl (Env.le_put (by rw [e10]; rfl) (Env.le_emp _))))))) (ok.sub (.cons_cons _ (.cons_cons _ List.Sublist.slnil))) (H.add_sub ok (.cons_cons _ (.cons_cons _ List.Sublist.slnil))) hS
        · rw [if_neg e2] at hS
          replace e2 := eq_false_of_ne_true e2
          refine EvC.condF rfl e2 ?_
          refine EvC.exit ?_
          exact hIh_2 () _ _ _ (Env.le_emp _) (ok.sub (.cons _ List.Sublist.slnil)) (H.add_sub ok (.cons _ List.Sublist.slnil)) hS
  · refine EvC.seq ?_
    refine EvC.region [Item.look 0, Item.look 1, Item.look 2, Item.look 3] (by kernel_rfl) ?_
    refine R.look (v := (.pointer (some ⟨b1, 1, none⟩))) rfl rfl rfl (Lk.fldAddr rfl Tryd.underlying29 rfl rfl T27 rfl rfl rfl) fun _ => ?_
    refine R.look rfl rfl rfl (Lk.load1 (v := (.slice p0_1.a p0_1.l p0_1.c)) rfl Tryd.underlying27 rfl rfl (H.rd_loc ok (i := 0) rfl rfl)) fun _ => ?_
    refine R.look rfl rfl rfl (Lk.len rfl Tryd.underlying27 rfl) fun _ => ?_
    refine R.look rfl rfl rfl (Lk.move rfl rfl) fun _ => ?_
    refine R.nil ?_
    refine EvC.block ?_
    refine EvC.loop ?_
    refine LoopC.lfp (σ := Int × Int) (fun s => (Env.put (Env.put (Env.put (Env.put (Env.put Env.emp 11 (.int .i64 s.2)) 10 (.int .i64 (p0_1.l : Int))) 9 (.slice p0_1.a p0_1.l p0_1.c)) 3 (.int .i64 s.1)) 1 (.pointer (some ⟨b1, 0, none⟩)))) (fun s => [(b1, .row ⟨[(.slice p0_0.a p0_0.l p0_0.c), (.slice p0_1.a p0_1.l p0_1.c)], 2, 29, true, true⟩)]) (fun X_1 hX_1 => ?_) hS (ok.sub (.cons_cons _ List.Sublist.slnil)) (Env.le_put rfl (Env.le_put rfl (Env.le_put rfl (Env.le_put rfl (Env.le_put rfl (Env.le_emp _)))))) (H.add_sub ok (.cons_cons _ List.Sublist.slnil))
    rintro ⟨v3_1, v11⟩ h_8 hS ok
    replace hS : S39_l6 p0_0 p0_1 K X_1 v3_1 v11 h_8 := hS
    change EvC _ _ _ (Env.put (Env.put (Env.put (Env.put (Env.put Env.emp 11 (.int .i64 v11)) 10 (.int .i64 (p0_1.l : Int))) 9 (.slice p0_1.a p0_1.l p0_1.c)) 3 (.int .i64 v3_1)) 1 (.pointer (some ⟨b1, 0, none⟩))) (H.add h_8 [(b1, .row ⟨[(.slice p0_0.a p0_0.l p0_0.c), (.slice p0_1.a p0_1.l p0_1.c)], 2, 29, true, true⟩)]) _
    unfold S39_l6 at hS
    refine EvC.seq ?_
    refine EvC.region [Item.look 0] (by kernel_rfl) ?_
    refine R.look rfl rfl rfl (Lk.arith rfl rfl rfl rfl) fun _ => ?_
    refine R.nil ?_
    refine EvC.seq ?_
    by_cases e11 : (decide (v11 < (p0_1.l : Int))) = true
    · rw [if_pos e11] at hS
      refine EvC.condT rfl e11 ?_
      refine EvC.skip ?_
      refine EvC.seq ?_
      refine EvC.block ?_
      refine EvC.seq ?_
      refine EvC.region [Item.look 0, Item.look 1, Item.alc 2, Item.eff 3 []] (by kernel_rfl) ?_
      obtain ⟨a13, e12, e13, e14, hS⟩ := hS
      refine R.look rfl rfl rfl (Lk.ixAddr rfl Tryd.underlying27 T54 rfl e12 rfl e13 e14) fun _ => ?_
      obtain ⟨v14_0, v14_1, v14_2, v14_3, e15, hS⟩ := hS
      refine R.look rfl rfl rfl (Look.loc ok (Lk.loadN rfl Tryd.underlying54 rfl T54 rfl e15)) fun _ => ?_
      refine R.var (blk := .row ⟨[(.int .i64 0), (.int .i64 0), (.int .i64 0), (.string ⟨#[]⟩)], 4, 54, true, true⟩) ok rfl rfl rfl (Ac.alloc rfl T54) rfl rfl fun b5 ok => ?_
      refine R.effN rfl rfl rfl (Ef.storeLoc (i := 0) (vs := [(.int .i64 v14_0), (.int .i64 v14_1), (.int .i64 v14_2), (.string v14_3)]) (cs := [(.int .i64 v14_0), (.int .i64 v14_1), (.int .i64 v14_2), (.string v14_3)]) (l' := [(b5, .row ⟨[(.int .i64 v14_0), (.int .i64 v14_1), (.int .i64 v14_2), (.string v14_3)], 4, 54, true, true⟩), (b1, .row ⟨[(.slice p0_0.a p0_0.l p0_0.c), (.slice p0_1.a p0_1.l p0_1.c)], 2, 29, true, true⟩)]) ok rfl T54 rfl rfl rfl rfl rfl rfl rfl rfl rfl rfl fun ok => ⟨noChk, ?_⟩)
      refine R.nil ?_
      refine EvC.region [Item.look 0, Item.look 1, Item.look 2, Item.look 3, Item.look 4, Item.look 5, Item.look 6] (by kernel_rfl) ?_
      refine R.look rfl rfl rfl (Lk.move rfl rfl) fun _ => ?_
      refine R.look (v := (.pointer (some ⟨b5, 3, none⟩))) rfl rfl rfl (Lk.fldAddr rfl Tryd.underlying54 rfl rfl T9 rfl rfl rfl) fun _ => ?_
      refine R.look rfl rfl rfl (Lk.load1 (v := (.string v14_3)) rfl Tryd.underlying9 rfl rfl (H.rd_loc ok (i := 0) rfl rfl)) fun _ => ?_
      refine R.look rfl rfl rfl (Lk.lenS rfl Tryd.underlying9 rfl) fun _ => ?_
      refine R.look rfl rfl rfl (Lk.min2 rfl rfl rfl) fun _ => ?_
      refine R.look rfl rfl rfl (Lk.arith rfl rfl rfl rfl) fun _ => ?_
      refine R.look rfl rfl rfl (Lk.assign rfl rfl) fun _ => ?_
      refine R.nil ?_
      refine EvC.region [Item.look 0, Item.look 1] (by kernel_rfl) ?_
      refine R.look rfl rfl rfl (Lk.arith rfl rfl rfl rfl) fun _ => ?_
      refine R.look rfl rfl rfl (Lk.move rfl rfl) fun _ => ?_
      refine R.nil ?_
      exact hX_1 ((IntKind.wrap .i64 (v3_1 + (if 4097 < (ByteArray.size v14_3 : Int) then 4097 else (ByteArray.size v14_3 : Int)))), (IntKind.wrap .i64 (v11 + 1))) _ _ _ hS (ok.sub (.cons _ (.cons_cons _ List.Sublist.slnil))) (Env.le_put rfl (Env.le_put rfl (Env.le_put rfl (Env.le_put rfl (Env.le_put rfl (Env.le_emp _)))))) (H.add_sub ok (.cons _ (.cons_cons _ List.Sublist.slnil)))
    · rw [if_neg e11] at hS
      replace e11 := eq_false_of_ne_true e11
      refine EvC.condF rfl e11 ?_
      refine EvC.exit ?_
      exact hIh_1 v3_1 _ _ _ (Env.le_put rfl (Env.le_put rfl (Env.le_emp _))) (ok.sub (.cons_cons _ List.Sublist.slnil)) (H.add_sub ok (.cons_cons _ List.Sublist.slnil)) hS
end Go.Proofs.YtimadnngfhbfiaaDoor
end

section
/- PRINTED by wip/gen.py: the machine's call of muntin/compass.Left does what S56 says. -/
namespace Go.Proofs.YtimadnngfhbfiaaDoor
open Go Go.Mu
set_option maxHeartbeats 4000000
set_option maxRecDepth 100000
theorem f56_ok {p0 : Int} {p1 : Int} {h : H} {K : Int → H → Prop} (hS : S56 p0 p1 h K) : ACall Tryd.prog 56 ([(.int .i64 p0), (.int .i64 p1)] : List Value).toArray h (fun r h' => ∃ r0 : Int, r = tup [(.int .i64 r0)] ∧ K r0 h') := by
  refine ACall.enter (fn := Tryd.f56) Tryd.func56 rfl (Nat.le_of_ble_eq_true rfl) ?_
  unfold S56 at hS
  have ok := Lok.nil h
  change EvC _ _ _ _ (H.add h []) _
  refine EvC.seq ?_
  refine EvC.region [Item.look 0] (by kernel_rfl) ?_
  refine R.look rfl rfl rfl (Lk.assign rfl rfl) fun _ => ?_
  refine R.nil ?_
  refine EvC.seq ?_
  refine EvC.seq ?_
  refine EvC.region [Item.look 0, Item.eff 1 [], Item.look 2] (by kernel_rfl) ?_
  refine R.look rfl rfl rfl (Lk.move rfl rfl) fun _ => ?_
  refine R.eff rfl rfl rfl (Eff.loc ok (Ef.call rfl CB54 rfl ((f54_ok hS).mono ?_)))
  rintro _ h_1 ⟨v6, rfl, hS⟩
  refine fun ok => ⟨noChk, ?_⟩
  refine R.look rfl rfl rfl (Lk.not rfl rfl) fun _ => ?_
  refine R.nil ?_
  by_cases e1 : (!v6) = true
  · rw [if_pos e1] at hS
    refine EvC.condT rfl e1 ?_
    refine EvC.seq ?_
    refine EvC.region [Item.look 0] (by kernel_rfl) ?_
    refine R.look rfl rfl rfl (Lk.assign rfl rfl) fun _ => ?_
    refine R.nil ?_
    refine EvC.ret ?_
    exact ⟨.inr rfl, _, _, (.cons (.tmp rfl) .nil), ok.le, _, rfl, hS⟩
  · rw [if_neg e1] at hS
    replace e1 := eq_false_of_ne_true e1
    refine EvC.condF rfl e1 ?_
    refine EvC.skip ?_
    refine EvC.seq ?_
    refine EvC.region [Item.look 0, Item.look 1, Item.look 2, Item.look 3, Item.look 4, Item.look 5, Item.look 6] (by kernel_rfl) ?_
    refine R.look rfl rfl rfl (Lk.move rfl rfl) fun _ => ?_
    refine R.look rfl rfl rfl (Lk.move rfl rfl) fun _ => ?_
    refine R.look rfl rfl rfl (Lk.rem (j := 4) rfl rfl rfl (by decide)) fun _ => ?_
    refine R.look rfl rfl rfl (Lk.arith rfl rfl rfl rfl) fun _ => ?_
    refine R.look rfl rfl rfl (Lk.arith rfl rfl rfl rfl) fun _ => ?_
    refine R.look rfl rfl rfl (Lk.rem (j := 4) rfl rfl rfl (by decide)) fun _ => ?_
    refine R.look rfl rfl rfl (Lk.assign rfl rfl) fun _ => ?_
    refine R.nil ?_
    refine EvC.ret ?_
    exact ⟨.inr rfl, _, _, (.cons (.tmp rfl) .nil), ok.le, _, rfl, hS⟩
end Go.Proofs.YtimadnngfhbfiaaDoor
end

section
/- PRINTED by wip/gen.py: the machine's call of muntin/norm.turned does what S76 says. -/
namespace Go.Proofs.YtimadnngfhbfiaaDoor
open Go Go.Mu
set_option maxHeartbeats 4000000
set_option maxRecDepth 100000
theorem f76_ok {p0 : Int} {p1 : Int} {h : H} {K : Int → H → Prop} (hS : S76 p0 p1 h K) : ACall Tryd.prog 76 ([(.int .i64 p0), (.int .i32 p1)] : List Value).toArray h (fun r h' => ∃ r0 : Int, r = tup [(.int .i64 r0)] ∧ K r0 h') := by
  refine ACall.enter (fn := Tryd.f76) Tryd.func76 rfl (Nat.le_of_ble_eq_true rfl) ?_
  unfold S76 at hS
  have ok := Lok.nil h
  change EvC _ _ _ _ (H.add h []) _
  refine EvC.seq ?_
  refine EvC.region [Item.look 0] (by kernel_rfl) ?_
  refine R.look rfl rfl rfl (Lk.assign rfl rfl) fun _ => ?_
  refine R.nil ?_
  refine EvC.seq ?_
  refine EvC.seq ?_
  refine EvC.region [Item.look 0, Item.look 1] (by kernel_rfl) ?_
  refine R.look rfl rfl rfl (Lk.move rfl rfl) fun _ => ?_
  refine R.look rfl rfl rfl (Lk.arith rfl rfl rfl rfl) fun _ => ?_
  refine R.nil ?_
  by_cases e1 : (p1 == 76) = true
  · rw [if_pos e1] at hS
    refine EvC.condT rfl e1 ?_
    refine EvC.seq ?_
    refine EvC.region [Item.look 0, Item.eff 1 [], Item.look 2] (by kernel_rfl) ?_
    refine R.look rfl rfl rfl (Lk.move rfl rfl) fun _ => ?_
    refine R.eff rfl rfl rfl (Eff.loc ok (Ef.call rfl CB56 rfl ((f56_ok hS).mono ?_)))
    rintro _ h_1 ⟨v8, rfl, hS⟩
    refine fun ok => ⟨noChk, ?_⟩
    refine R.look rfl rfl rfl (Lk.assign rfl rfl) fun _ => ?_
    refine R.nil ?_
    refine EvC.ret ?_
    exact ⟨.inr rfl, _, _, (.cons (.tmp rfl) .nil), ok.le, _, rfl, hS⟩
  · rw [if_neg e1] at hS
    replace e1 := eq_false_of_ne_true e1
    refine EvC.condF rfl e1 ?_
    refine EvC.skip ?_
    refine EvC.seq ?_
    refine EvC.region [Item.look 0, Item.eff 1 [], Item.look 2] (by kernel_rfl) ?_
    refine R.look rfl rfl rfl (Lk.move rfl rfl) fun _ => ?_
    refine R.eff rfl rfl rfl (Eff.loc ok (Ef.call rfl CB56 rfl ((f56_ok hS).mono ?_)))
    rintro _ h_2 ⟨v10, rfl, hS⟩
    refine fun ok => ⟨noChk, ?_⟩
    refine R.look rfl rfl rfl (Lk.assign rfl rfl) fun _ => ?_
    refine R.nil ?_
    refine EvC.ret ?_
    exact ⟨.inr rfl, _, _, (.cons (.tmp rfl) .nil), ok.le, _, rfl, hS⟩
end Go.Proofs.YtimadnngfhbfiaaDoor
end

section
/- PRINTED by wip/gen.py: the machine's call of muntin/norm.last does what S71 says. -/
namespace Go.Proofs.YtimadnngfhbfiaaDoor
open Go Go.Mu
set_option maxHeartbeats 4000000
set_option maxRecDepth 100000
theorem f71_ok {p0_0 : Int} {p0_1 : Int} {p0_2 : Int} {p0_3 : ByteArray} {h : H} {K : Int → H → Prop} (hS : S71 p0_0 p0_1 p0_2 p0_3 h K) : ACall Tryd.prog 71 ([(.agg ([(.int .i64 p0_0), (.int .i64 p0_1), (.int .i64 p0_2), (.string p0_3)] : List Value).toArray)] : List Value).toArray h (fun r h' => ∃ r0 : Int, r = tup [(.int .i64 r0)] ∧ K r0 h') := by
  refine ACall.enter (fn := Tryd.f71) Tryd.func71 rfl (Nat.le_of_ble_eq_true rfl) ?_
  unfold S71 at hS
  have ok := Lok.nil h
  change EvC _ _ _ _ (H.add h []) _
  refine EvC.seq ?_
  refine EvC.region [Item.alc 0, Item.look 1] (by kernel_rfl) ?_
  refine R.var (blk := .row ⟨[(.int .i64 p0_0), (.int .i64 p0_1), (.int .i64 p0_2), (.string p0_3)], 4, 54, true, true⟩) ok rfl rfl rfl (Ac.box rfl rfl) rfl rfl fun b1 ok => ?_
  refine R.look rfl rfl rfl (Lk.assign rfl rfl) fun _ => ?_
  refine R.nil ?_
  refine EvC.seq ?_
  refine EvC.region [Item.look 0, Item.look 1, Item.look 2] (by kernel_rfl) ?_
  refine R.look (v := (.pointer (some ⟨b1, 2, none⟩))) rfl rfl rfl (Lk.fldAddr rfl Tryd.underlying54 rfl rfl T3 rfl rfl rfl) fun _ => ?_
  refine R.look rfl rfl rfl (Lk.load1 (v := (.int .i64 p0_2)) rfl Tryd.underlying3 rfl rfl (H.rd_loc ok (i := 0) rfl rfl)) fun _ => ?_
  refine R.look rfl rfl rfl (Lk.assign rfl rfl) fun _ => ?_
  refine R.nil ?_
  refine EvC.join (σ := Int) (fun s => (Env.put Env.emp 3 (.int .i64 s))) (fun s => []) (fun s h_1 => S71_j1 K s h_1) ?_ (fun Ih_1 hIh_1 => ?_)
  · intro v3 h_1 ok hS
    replace hS : S71_j1 K v3 h_1 := hS
    change EvC _ _ _ (Env.put Env.emp 3 (.int .i64 v3)) (H.add h_1 []) _
    unfold S71_j1 at hS
    refine EvC.seq ?_
    refine EvC.region [Item.look 0, Item.look 1] (by kernel_rfl) ?_
    refine R.look rfl rfl rfl (Lk.move rfl rfl) fun _ => ?_
    refine R.look rfl rfl rfl (Lk.assign rfl rfl) fun _ => ?_
    refine R.nil ?_
    refine EvC.ret ?_
    exact ⟨.inr rfl, _, _, (.cons (.tmp rfl) .nil), ok.le, _, rfl, hS⟩
  · refine EvC.seq ?_
    refine EvC.region [Item.look 0, Item.look 1, Item.alc 2] (by kernel_rfl) ?_
    refine R.look (v := (.pointer (some ⟨b1, 3, none⟩))) rfl rfl rfl (Lk.fldAddr rfl Tryd.underlying54 rfl rfl T9 rfl rfl rfl) fun _ => ?_
    refine R.look rfl rfl rfl (Lk.load1 (v := (.string p0_3)) rfl Tryd.underlying9 rfl rfl (H.rd_loc ok (i := 0) rfl rfl)) fun _ => ?_
    refine R.var (blk := .obj (.stringIter p0_3 0)) ok rfl rfl rfl (Ac.range rfl Tryd.underlying9 rfl) trivial rfl fun b10 ok => ?_
    refine R.nil ?_
    refine EvC.block ?_
    refine EvC.loop ?_
    refine LoopC.lfp (σ := Int × Nat) (fun s => (Env.put (Env.put Env.emp 10 (.pointer (some ⟨b10, 0, none⟩))) 3 (.int .i64 s.1))) (fun s => [(b10, .obj (.stringIter p0_3 s.2))]) (fun X hX => ?_) hS (ok.sub (.cons_cons _ (.cons _ List.Sublist.slnil))) (Env.le_put rfl (Env.le_put rfl (Env.le_emp _))) (H.add_sub ok (.cons_cons _ (.cons _ List.Sublist.slnil)))
    rintro ⟨v3_1, c10_1⟩ h_2 hS ok
    replace hS : S71_l2 p0_3 K X v3_1 c10_1 h_2 := hS
    change EvC _ _ _ (Env.put (Env.put Env.emp 10 (.pointer (some ⟨b10, 0, none⟩))) 3 (.int .i64 v3_1)) (H.add h_2 [(b10, .obj (.stringIter p0_3 c10_1))]) _
    unfold S71_l2 at hS
    refine EvC.seq ?_
    refine EvC.region [Item.eff 0 [], Item.look 1] (by kernel_rfl) ?_
    by_cases e1 : c10_1 < ByteArray.size p0_3
    · rw [if_pos e1] at hS
      refine R.eff rfl rfl rfl (Ef.nextLoc (i := 0) (l' := [(b10, .obj (.stringIter p0_3 (c10_1 + (Utf8.decode p0_3 c10_1).2)))]) ok rfl rfl rfl e1 rfl fun ok => ⟨noChk, ?_⟩)
      refine R.look rfl rfl rfl (Lk.extract rfl rfl rfl) fun _ => ?_
      refine R.nil ?_
      refine EvC.seq ?_
      refine EvC.condT rfl rfl ?_
      refine EvC.skip ?_
      refine EvC.block ?_
      refine EvC.seq ?_
      refine EvC.region [Item.look 0, Item.look 1] (by kernel_rfl) ?_
      refine R.look rfl rfl rfl (Lk.extract rfl rfl rfl) fun _ => ?_
      refine R.look rfl rfl rfl (Lk.assign rfl rfl) fun _ => ?_
      refine R.nil ?_
      refine EvC.region [Item.look 0, Item.look 1, Item.eff 2 [], Item.look 3] (by kernel_rfl) ?_
      refine R.look rfl rfl rfl (Lk.move rfl rfl) fun _ => ?_
      refine R.look rfl rfl rfl (Lk.move rfl rfl) fun _ => ?_
      refine R.eff rfl rfl rfl (Eff.loc ok (Ef.call rfl CB76 rfl ((f76_ok hS).mono ?_)))
      rintro _ h_3 ⟨v16, rfl, hS⟩
      refine fun ok => ⟨noChk, ?_⟩
      refine R.look rfl rfl rfl (Lk.assign rfl rfl) fun _ => ?_
      refine R.nil ?_
      exact hX (v16, (c10_1 + (Utf8.decode p0_3 c10_1).2)) _ _ _ hS (ok.sub (.cons_cons _ List.Sublist.slnil)) (Env.le_put rfl (Env.le_put rfl (Env.le_emp _))) (H.add_sub ok (.cons_cons _ List.Sublist.slnil))
    · rw [if_neg e1] at hS
      refine R.eff rfl rfl rfl (Ef.nextEnd (i := 0) ok rfl rfl rfl e1 ⟨noChk, ?_⟩)
      refine R.look rfl rfl rfl (Lk.extract rfl rfl rfl) fun _ => ?_
      refine R.nil ?_
      refine EvC.seq ?_
      refine EvC.condF rfl rfl ?_
      refine EvC.exit ?_
      exact hIh_1 v3_1 _ _ _ (Env.le_put rfl (Env.le_emp _)) (ok.sub (.cons _ List.Sublist.slnil)) (H.add_sub ok (.cons _ List.Sublist.slnil)) hS
end Go.Proofs.YtimadnngfhbfiaaDoor
end

section
/- PRINTED by wip/gen.py: the machine's call of (*muntin/norm.maker).sort does what S40 says. -/
namespace Go.Proofs.YtimadnngfhbfiaaDoor
open Go Go.Mu
set_option maxHeartbeats 4000000
set_option maxRecDepth 100000
theorem f40_ok {p0 : Option Addr} {h : H} {K : H → Prop} (hS : S40 p0 h K) : ACall Tryd.prog 40 ([(.pointer p0)] : List Value).toArray h (fun r h' => r = tup [] ∧ K  h') := by
  refine ACall.enter (fn := Tryd.f40) Tryd.func40 rfl (Nat.le_of_ble_eq_true rfl) ?_
  unfold S40 at hS
  have ok := Lok.nil h
  change EvC _ _ _ _ (H.add h []) _
  refine EvC.seq ?_
  refine EvC.region [Item.look 0, Item.look 1, Item.look 2, Item.look 3, Item.look 4, Item.look 5, Item.look 6, Item.alc 7, Item.look 8, Item.look 9, Item.eff 10 []] (by kernel_rfl) ?_
  refine R.look rfl rfl rfl (Lk.move rfl rfl) fun _ => ?_
  refine R.look rfl rfl rfl (Lk.move rfl rfl) fun _ => ?_
  obtain ⟨a8, e1, hS⟩ := hS
  refine R.look (v := (.pointer (some a8))) rfl rfl rfl (Lk.nilChk rfl rfl e1) fun _ => ?_
  refine R.look (v := (.pointer (some a8))) rfl rfl rfl (Lk.fldAddr rfl Tryd.underlying106 rfl rfl T29 rfl rfl rfl) fun _ => ?_
  refine R.look (v := (.pointer (some a8))) rfl rfl rfl (Lk.fldAddr rfl Tryd.underlying29 rfl rfl T22 rfl rfl rfl) fun _ => ?_
  obtain ⟨v11, e2, hS⟩ := hS
  refine R.look rfl rfl rfl (Look.loc ok (Lk.load1 rfl Tryd.underlying22 rfl rfl e2)) fun _ => ?_
  refine R.look rfl rfl rfl (Lk.len rfl Tryd.underlying22 rfl) fun _ => ?_
  obtain ⟨e3, e4, e5, e6, hS⟩ := hS
  refine R.new (blk := (.row ⟨zeros (.agg #[(.slice none 0 0), (.slice none 0 0), (.slice none 0 0), (.slice none 0 0)]) (Int.toNat (v11.l : Int) * 4), (zeros (.agg #[(.slice none 0 0), (.slice none 0 0), (.slice none 0 0), (.slice none 0 0)]) (Int.toNat (v11.l : Int) * 4)).length, 145, true, true⟩)) ok rfl rfl rfl (Ac.makeSlice rfl Tryd.underlying104 T145 rfl rfl e3 e4 e5 e6) rfl rfl fun b13 e7 ok => ?_
  replace hS := hS b13 _ e7 rfl
  obtain ⟨a14, e8, hS⟩ := hS
  refine R.look (v := (.pointer (some a14))) rfl rfl rfl (Lk.nilChk rfl rfl e8) fun _ => ?_
  refine R.look (v := (.pointer (some (Addr.add a14 3)))) rfl rfl rfl (Lk.fldAddr rfl Tryd.underlying106 rfl rfl T104 rfl rfl rfl) fun _ => ?_
  obtain ⟨h_2, e9, hS⟩ := hS
  refine R.effN rfl rfl rfl (Eff.loc ok (Ef.store rfl T104 rfl rfl rfl rfl rfl e9 fun ok => ⟨noChk, ?_⟩))
  refine R.nil ?_
  refine EvC.seq ?_
  refine EvC.region [Item.look 0, Item.look 1, Item.look 2, Item.look 3, Item.look 4, Item.look 5, Item.look 6] (by kernel_rfl) ?_
  refine R.look rfl rfl rfl (Lk.move rfl rfl) fun _ => ?_
  obtain ⟨a17, e10, hS⟩ := hS
  refine R.look (v := (.pointer (some a17))) rfl rfl rfl (Lk.nilChk rfl rfl e10) fun _ => ?_
  refine R.look (v := (.pointer (some a17))) rfl rfl rfl (Lk.fldAddr rfl Tryd.underlying106 rfl rfl T29 rfl rfl rfl) fun _ => ?_
  refine R.look (v := (.pointer (some (Addr.add a17 1)))) rfl rfl rfl (Lk.fldAddr rfl Tryd.underlying29 rfl rfl T27 rfl rfl rfl) fun _ => ?_
  obtain ⟨v20, e11, hS⟩ := hS
  refine R.look rfl rfl rfl (Look.loc ok (Lk.load1 rfl Tryd.underlying27 rfl rfl e11)) fun _ => ?_
  refine R.look rfl rfl rfl (Lk.len rfl Tryd.underlying27 rfl) fun _ => ?_
  refine R.look rfl rfl rfl (Lk.move rfl rfl) fun _ => ?_
  refine R.nil ?_
  refine EvC.block ?_
  refine EvC.loop ?_
  refine LoopC.lfp (σ := Int) (fun s => (Env.put (Env.put (Env.put (Env.put Env.emp 22 (.int .i64 s)) 21 (.int .i64 (v20.l : Int))) 20 (.slice v20.a v20.l v20.c)) 0 (.pointer p0))) (fun s => []) (fun X hX => ?_) hS (ok.sub List.Sublist.slnil) (Env.le_put rfl (Env.le_put rfl (Env.le_put rfl (Env.le_put rfl (Env.le_emp _))))) (H.add_sub ok List.Sublist.slnil)
  intro v22 h_3 hS ok
  replace hS : S40_l1 p0 K v20 X v22 h_3 := hS
  change EvC _ _ _ (Env.put (Env.put (Env.put (Env.put Env.emp 22 (.int .i64 v22)) 21 (.int .i64 (v20.l : Int))) 20 (.slice v20.a v20.l v20.c)) 0 (.pointer p0)) (H.add h_3 []) _
  unfold S40_l1 at hS
  refine EvC.seq ?_
  refine EvC.region [Item.look 0] (by kernel_rfl) ?_
  refine R.look rfl rfl rfl (Lk.arith rfl rfl rfl rfl) fun _ => ?_
  refine R.nil ?_
  refine EvC.seq ?_
  by_cases e12 : (decide (v22 < (v20.l : Int))) = true
  · rw [if_pos e12] at hS
    refine EvC.condT rfl e12 ?_
    refine EvC.skip ?_
    refine EvC.seq ?_
    refine EvC.block ?_
    refine EvC.seq ?_
    refine EvC.region [Item.look 0, Item.look 1, Item.look 2, Item.alc 3, Item.look 4, Item.eff 5 []] (by kernel_rfl) ?_
    refine R.look rfl rfl rfl (Lk.move rfl rfl) fun _ => ?_
    obtain ⟨a25, e13, e14, e15, hS⟩ := hS
    refine R.look rfl rfl rfl (Lk.ixAddr rfl Tryd.underlying27 T54 rfl e13 rfl e14 e15) fun _ => ?_
    obtain ⟨v26_0, v26_1, v26_2, v26_3, e16, hS⟩ := hS
    refine R.look rfl rfl rfl (Look.loc ok (Lk.loadN rfl Tryd.underlying54 rfl T54 rfl e16)) fun _ => ?_
    refine R.var (blk := .row ⟨[(.int .i64 0), (.int .i64 0), (.int .i64 0), (.string ⟨#[]⟩)], 4, 54, true, true⟩) ok rfl rfl rfl (Ac.alloc rfl T54) rfl rfl fun b3 ok => ?_
    refine R.look rfl rfl rfl (Lk.assign rfl rfl) fun _ => ?_
    refine R.effN rfl rfl rfl (Ef.storeLoc (i := 0) (vs := [(.int .i64 v26_0), (.int .i64 v26_1), (.int .i64 v26_2), (.string v26_3)]) (cs := [(.int .i64 v26_0), (.int .i64 v26_1), (.int .i64 v26_2), (.string v26_3)]) (l' := [(b3, .row ⟨[(.int .i64 v26_0), (.int .i64 v26_1), (.int .i64 v26_2), (.string v26_3)], 4, 54, true, true⟩)]) ok rfl T54 rfl rfl rfl rfl rfl rfl rfl rfl rfl rfl fun ok => ⟨noChk, ?_⟩)
    refine R.nil ?_
    refine EvC.seq ?_
    refine EvC.draw [0, 1, 3, 7, 0, 16, 0, 64, 63, 511, 0, 1024, 3072, 7168, 0, 16384, 0, 65536, 196608, 64512, 1047552, 459775, 4194303] [Item.look 0, Item.look 1, Item.look 2, Item.look 3, Item.look 4, Item.look 5, Item.look 6, Item.look 7, Item.look 8, Item.look 9, Item.look 10, Item.look 11, Item.look 12, Item.look 13, Item.look 14, Item.look 15, Item.look 16, Item.look 19, Item.eff 17 [0, 1, 2, 3, 4, 5, 6, 7, 8, 9, 10, 11, 12, 13, 14, 15, 19], Item.eff 18 [0, 1, 2, 3, 4, 5, 6, 7, 8, 9, 10, 11, 12, 13, 14, 15, 19], Item.look 20, Item.look 21, Item.look 22] MO (by kernel_rfl) ?_
    refine R.lookL rfl rfl rfl (Lk.move rfl rfl) ?_
    obtain ⟨a28, e17, hS⟩ := hS
    refine R.lookL (v := (.pointer (some a28))) rfl rfl rfl (Lk.nilChk rfl rfl e17) ?_
    refine R.lookL (v := (.pointer (some (Addr.add a28 3)))) rfl rfl rfl (Lk.fldAddr rfl Tryd.underlying106 rfl rfl T104 rfl rfl rfl) ?_
    obtain ⟨v30, e18, hS⟩ := hS
    refine R.lookL rfl rfl rfl (Look.loc ok (Lk.load1 rfl Tryd.underlying104 rfl rfl e18)) ?_
    refine R.lookL (v := (.pointer (some ⟨b3, 0, none⟩))) rfl rfl rfl (Lk.fldAddr rfl Tryd.underlying54 rfl rfl T3 rfl rfl rfl) ?_
    refine R.lookL rfl rfl rfl (Lk.load1 (v := (.int .i64 v26_0)) rfl Tryd.underlying3 rfl rfl (H.rd_loc ok (i := 0) rfl rfl)) ?_
    refine R.lookL (v := (.pointer (some ⟨b3, 2, none⟩))) rfl rfl rfl (Lk.fldAddr rfl Tryd.underlying54 rfl rfl T3 rfl rfl rfl) ?_
    refine R.lookL rfl rfl rfl (Lk.load1 (v := (.int .i64 v26_2)) rfl Tryd.underlying3 rfl rfl (H.rd_loc ok (i := 0) rfl rfl)) ?_
    obtain ⟨a35, e19, e20, e21, hS⟩ := hS
    refine R.lookL rfl rfl rfl (Lk.ixAddr rfl Tryd.underlying104 T145 rfl e19 rfl e20 e21) ?_
    obtain ⟨e22, e23, hS⟩ := hS
    refine R.lookL rfl rfl rfl (Lk.indexAddrA rfl Tryd.underlying145 T144 rfl rfl e22 e23) ?_
    refine R.lookL rfl rfl rfl (Lk.move rfl rfl) ?_
    obtain ⟨a38, e24, hS⟩ := hS
    refine R.lookL (v := (.pointer (some a38))) rfl rfl rfl (Lk.nilChk rfl rfl e24) ?_
    refine R.lookL (v := (.pointer (some (Addr.add a38 3)))) rfl rfl rfl (Lk.fldAddr rfl Tryd.underlying106 rfl rfl T104 rfl rfl rfl) ?_
    obtain ⟨v40, e25, hS⟩ := hS
    refine R.lookL rfl rfl rfl (Look.loc ok (Lk.load1 rfl Tryd.underlying104 rfl rfl e25)) ?_
    refine R.lookL (v := (.pointer (some ⟨b3, 1, none⟩))) rfl rfl rfl (Lk.fldAddr rfl Tryd.underlying54 rfl rfl T3 rfl rfl rfl) ?_
    refine R.lookL rfl rfl rfl (Lk.load1 (v := (.int .i64 v26_1)) rfl Tryd.underlying3 rfl rfl (H.rd_loc ok (i := 0) rfl rfl)) ?_
    refine R.lookL rfl rfl rfl (Lk.loadN (vs := [(.int .i64 v26_0), (.int .i64 v26_1), (.int .i64 v26_2), (.string v26_3)]) rfl Tryd.underlying54 rfl T54 rfl (H.rdn_loc ok (i := 0) rfl rfl rfl)) ?_
    obtain ⟨a46, e26, e27, e28, hS⟩ := hS
    refine R.lookL rfl rfl rfl (Lk.ixAddr rfl Tryd.underlying104 T145 rfl e26 rfl e27 e28) ?_
    refine R.eff rfl rfl rfl (Eff.loc ok (Ef.call rfl CB71 rfl ((f71_ok hS).mono ?_)))
    rintro _ h_4 ⟨v44, rfl, hS⟩
    obtain ⟨e29, hS⟩ := hS
    obtain ⟨e30, hS⟩ := hS
    refine fun ok => ⟨(List.forall_mem_cons.2 ⟨(Log.past (by decide) (Log.past (by decide) (Log.past (by decide) (Log.past (by decide) (Log.past (by decide) (Log.past (by decide) (Log.past (by decide) (Log.past (by decide) (Log.past (by decide) (Log.past (by decide) (Log.past (by decide) (Log.past (by decide) (Log.past (by decide) (Log.past (by decide) (Log.past (by decide) (Log.past (by decide) (Log.past (by decide) (Log.at_ (LookG.of rfl (Lk.move rfl rfl)))))))))))))))))))), (List.forall_mem_cons.2 ⟨(Log.past (by decide) (Log.past (by decide) (Log.past (by decide) (Log.past (by decide) (Log.past (by decide) (Log.past (by decide) (Log.past (by decide) (Log.past (by decide) (Log.past (by decide) (Log.past (by decide) (Log.past (by decide) (Log.past (by decide) (Log.past (by decide) (Log.past (by decide) (Log.past (by decide) (Log.past (by decide) (Log.at_ (LookG.of rfl (Lk.nilChk rfl rfl e17))))))))))))))))))), (List.forall_mem_cons.2 ⟨(Log.past (by decide) (Log.past (by decide) (Log.past (by decide) (Log.past (by decide) (Log.past (by decide) (Log.past (by decide) (Log.past (by decide) (Log.past (by decide) (Log.past (by decide) (Log.past (by decide) (Log.past (by decide) (Log.past (by decide) (Log.past (by decide) (Log.past (by decide) (Log.past (by decide) (Log.at_ (LookG.of rfl (Lk.fldAddr rfl Tryd.underlying106 rfl rfl T104 rfl rfl rfl)))))))))))))))))), (List.forall_mem_cons.2 ⟨(Log.past (by decide) (Log.past (by decide) (Log.past (by decide) (Log.past (by decide) (Log.past (by decide) (Log.past (by decide) (Log.past (by decide) (Log.past (by decide) (Log.past (by decide) (Log.past (by decide) (Log.past (by decide) (Log.past (by decide) (Log.past (by decide) (Log.past (by decide) (Log.at_ (LookG.of rfl (Look.loc ok (Lk.load1 rfl Tryd.underlying104 rfl rfl e29)))))))))))))))))), (List.forall_mem_cons.2 ⟨(Log.past (by decide) (Log.past (by decide) (Log.past (by decide) (Log.past (by decide) (Log.past (by decide) (Log.past (by decide) (Log.past (by decide) (Log.past (by decide) (Log.past (by decide) (Log.past (by decide) (Log.past (by decide) (Log.past (by decide) (Log.past (by decide) (Log.at_ (LookG.of rfl (Lk.fldAddr rfl Tryd.underlying54 rfl rfl T3 rfl rfl rfl)))))))))))))))), (List.forall_mem_cons.2 ⟨(Log.past (by decide) (Log.past (by decide) (Log.past (by decide) (Log.past (by decide) (Log.past (by decide) (Log.past (by decide) (Log.past (by decide) (Log.past (by decide) (Log.past (by decide) (Log.past (by decide) (Log.past (by decide) (Log.past (by decide) (Log.at_ (LookG.of rfl (Lk.load1 (v := (.int .i64 v26_0)) rfl Tryd.underlying3 rfl rfl (H.rd_loc ok (i := 0) rfl rfl)))))))))))))))), (List.forall_mem_cons.2 ⟨(Log.past (by decide) (Log.past (by decide) (Log.past (by decide) (Log.past (by decide) (Log.past (by decide) (Log.past (by decide) (Log.past (by decide) (Log.past (by decide) (Log.past (by decide) (Log.past (by decide) (Log.past (by decide) (Log.at_ (LookG.of rfl (Lk.fldAddr rfl Tryd.underlying54 rfl rfl T3 rfl rfl rfl)))))))))))))), (List.forall_mem_cons.2 ⟨(Log.past (by decide) (Log.past (by decide) (Log.past (by decide) (Log.past (by decide) (Log.past (by decide) (Log.past (by decide) (Log.past (by decide) (Log.past (by decide) (Log.past (by decide) (Log.past (by decide) (Log.at_ (LookG.of rfl (Lk.load1 (v := (.int .i64 v26_2)) rfl Tryd.underlying3 rfl rfl (H.rd_loc ok (i := 0) rfl rfl)))))))))))))), (List.forall_mem_cons.2 ⟨(Log.past (by decide) (Log.past (by decide) (Log.past (by decide) (Log.past (by decide) (Log.past (by decide) (Log.past (by decide) (Log.past (by decide) (Log.past (by decide) (Log.past (by decide) (Log.at_ (LookG.of rfl (Lk.ixAddr rfl Tryd.underlying104 T145 rfl e19 rfl e20 e21)))))))))))), (List.forall_mem_cons.2 ⟨(Log.past (by decide) (Log.past (by decide) (Log.past (by decide) (Log.past (by decide) (Log.past (by decide) (Log.past (by decide) (Log.past (by decide) (Log.past (by decide) (Log.at_ (LookG.of rfl (Lk.indexAddrA rfl Tryd.underlying145 T144 rfl rfl e22 e23))))))))))), (List.forall_mem_cons.2 ⟨(Log.past (by decide) (Log.past (by decide) (Log.past (by decide) (Log.past (by decide) (Log.past (by decide) (Log.past (by decide) (Log.past (by decide) (Log.at_ (LookG.of rfl (Lk.move rfl rfl)))))))))), (List.forall_mem_cons.2 ⟨(Log.past (by decide) (Log.past (by decide) (Log.past (by decide) (Log.past (by decide) (Log.past (by decide) (Log.past (by decide) (Log.at_ (LookG.of rfl (Lk.nilChk rfl rfl e24))))))))), (List.forall_mem_cons.2 ⟨(Log.past (by decide) (Log.past (by decide) (Log.past (by decide) (Log.past (by decide) (Log.past (by decide) (Log.at_ (LookG.of rfl (Lk.fldAddr rfl Tryd.underlying106 rfl rfl T104 rfl rfl rfl)))))))), (List.forall_mem_cons.2 ⟨(Log.past (by decide) (Log.past (by decide) (Log.past (by decide) (Log.past (by decide) (Log.at_ (LookG.of rfl (Look.loc ok (Lk.load1 rfl Tryd.underlying104 rfl rfl e30)))))))), (List.forall_mem_cons.2 ⟨(Log.past (by decide) (Log.past (by decide) (Log.past (by decide) (Log.at_ (LookG.of rfl (Lk.fldAddr rfl Tryd.underlying54 rfl rfl T3 rfl rfl rfl)))))), (List.forall_mem_cons.2 ⟨(Log.past (by decide) (Log.past (by decide) (Log.at_ (LookG.of rfl (Lk.load1 (v := (.int .i64 v26_1)) rfl Tryd.underlying3 rfl rfl (H.rd_loc ok (i := 0) rfl rfl)))))), (List.forall_mem_cons.2 ⟨(Log.at_ (LookG.of rfl (Lk.ixAddr rfl Tryd.underlying104 T145 rfl e26 rfl e27 e28))), noChk⟩)⟩)⟩)⟩)⟩)⟩)⟩)⟩)⟩)⟩)⟩)⟩)⟩)⟩)⟩)⟩)⟩), ?_⟩
    refine R.eff rfl rfl rfl (Eff.loc ok (Ef.call rfl CB56 rfl ((f56_ok hS).mono ?_)))
    rintro _ h_5 ⟨v45, rfl, hS⟩
    obtain ⟨e31, hS⟩ := hS
    obtain ⟨e32, hS⟩ := hS
    refine fun ok => ⟨(List.forall_mem_cons.2 ⟨(Log.past (by decide) (Log.past (by decide) (Log.past (by decide) (Log.past (by decide) (Log.past (by decide) (Log.past (by decide) (Log.past (by decide) (Log.past (by decide) (Log.past (by decide) (Log.past (by decide) (Log.past (by decide) (Log.past (by decide) (Log.past (by decide) (Log.past (by decide) (Log.past (by decide) (Log.past (by decide) (Log.past (by decide) (Log.at_ (LookG.of rfl (Lk.move rfl rfl)))))))))))))))))))), (List.forall_mem_cons.2 ⟨(Log.past (by decide) (Log.past (by decide) (Log.past (by decide) (Log.past (by decide) (Log.past (by decide) (Log.past (by decide) (Log.past (by decide) (Log.past (by decide) (Log.past (by decide) (Log.past (by decide) (Log.past (by decide) (Log.past (by decide) (Log.past (by decide) (Log.past (by decide) (Log.past (by decide) (Log.past (by decide) (Log.at_ (LookG.of rfl (Lk.nilChk rfl rfl e17))))))))))))))))))), (List.forall_mem_cons.2 ⟨(Log.past (by decide) (Log.past (by decide) (Log.past (by decide) (Log.past (by decide) (Log.past (by decide) (Log.past (by decide) (Log.past (by decide) (Log.past (by decide) (Log.past (by decide) (Log.past (by decide) (Log.past (by decide) (Log.past (by decide) (Log.past (by decide) (Log.past (by decide) (Log.past (by decide) (Log.at_ (LookG.of rfl (Lk.fldAddr rfl Tryd.underlying106 rfl rfl T104 rfl rfl rfl)))))))))))))))))), (List.forall_mem_cons.2 ⟨(Log.past (by decide) (Log.past (by decide) (Log.past (by decide) (Log.past (by decide) (Log.past (by decide) (Log.past (by decide) (Log.past (by decide) (Log.past (by decide) (Log.past (by decide) (Log.past (by decide) (Log.past (by decide) (Log.past (by decide) (Log.past (by decide) (Log.past (by decide) (Log.at_ (LookG.of rfl (Look.loc ok (Lk.load1 rfl Tryd.underlying104 rfl rfl e31)))))))))))))))))), (List.forall_mem_cons.2 ⟨(Log.past (by decide) (Log.past (by decide) (Log.past (by decide) (Log.past (by decide) (Log.past (by decide) (Log.past (by decide) (Log.past (by decide) (Log.past (by decide) (Log.past (by decide) (Log.past (by decide) (Log.past (by decide) (Log.past (by decide) (Log.past (by decide) (Log.at_ (LookG.of rfl (Lk.fldAddr rfl Tryd.underlying54 rfl rfl T3 rfl rfl rfl)))))))))))))))), (List.forall_mem_cons.2 ⟨(Log.past (by decide) (Log.past (by decide) (Log.past (by decide) (Log.past (by decide) (Log.past (by decide) (Log.past (by decide) (Log.past (by decide) (Log.past (by decide) (Log.past (by decide) (Log.past (by decide) (Log.past (by decide) (Log.past (by decide) (Log.at_ (LookG.of rfl (Lk.load1 (v := (.int .i64 v26_0)) rfl Tryd.underlying3 rfl rfl (H.rd_loc ok (i := 0) rfl rfl)))))))))))))))), (List.forall_mem_cons.2 ⟨(Log.past (by decide) (Log.past (by decide) (Log.past (by decide) (Log.past (by decide) (Log.past (by decide) (Log.past (by decide) (Log.past (by decide) (Log.past (by decide) (Log.past (by decide) (Log.past (by decide) (Log.past (by decide) (Log.at_ (LookG.of rfl (Lk.fldAddr rfl Tryd.underlying54 rfl rfl T3 rfl rfl rfl)))))))))))))), (List.forall_mem_cons.2 ⟨(Log.past (by decide) (Log.past (by decide) (Log.past (by decide) (Log.past (by decide) (Log.past (by decide) (Log.past (by decide) (Log.past (by decide) (Log.past (by decide) (Log.past (by decide) (Log.past (by decide) (Log.at_ (LookG.of rfl (Lk.load1 (v := (.int .i64 v26_2)) rfl Tryd.underlying3 rfl rfl (H.rd_loc ok (i := 0) rfl rfl)))))))))))))), (List.forall_mem_cons.2 ⟨(Log.past (by decide) (Log.past (by decide) (Log.past (by decide) (Log.past (by decide) (Log.past (by decide) (Log.past (by decide) (Log.past (by decide) (Log.past (by decide) (Log.past (by decide) (Log.at_ (LookG.of rfl (Lk.ixAddr rfl Tryd.underlying104 T145 rfl e19 rfl e20 e21)))))))))))), (List.forall_mem_cons.2 ⟨(Log.past (by decide) (Log.past (by decide) (Log.past (by decide) (Log.past (by decide) (Log.past (by decide) (Log.past (by decide) (Log.past (by decide) (Log.past (by decide) (Log.at_ (LookG.of rfl (Lk.indexAddrA rfl Tryd.underlying145 T144 rfl rfl e22 e23))))))))))), (List.forall_mem_cons.2 ⟨(Log.past (by decide) (Log.past (by decide) (Log.past (by decide) (Log.past (by decide) (Log.past (by decide) (Log.past (by decide) (Log.past (by decide) (Log.at_ (LookG.of rfl (Lk.move rfl rfl)))))))))), (List.forall_mem_cons.2 ⟨(Log.past (by decide) (Log.past (by decide) (Log.past (by decide) (Log.past (by decide) (Log.past (by decide) (Log.past (by decide) (Log.at_ (LookG.of rfl (Lk.nilChk rfl rfl e24))))))))), (List.forall_mem_cons.2 ⟨(Log.past (by decide) (Log.past (by decide) (Log.past (by decide) (Log.past (by decide) (Log.past (by decide) (Log.at_ (LookG.of rfl (Lk.fldAddr rfl Tryd.underlying106 rfl rfl T104 rfl rfl rfl)))))))), (List.forall_mem_cons.2 ⟨(Log.past (by decide) (Log.past (by decide) (Log.past (by decide) (Log.past (by decide) (Log.at_ (LookG.of rfl (Look.loc ok (Lk.load1 rfl Tryd.underlying104 rfl rfl e32)))))))), (List.forall_mem_cons.2 ⟨(Log.past (by decide) (Log.past (by decide) (Log.past (by decide) (Log.at_ (LookG.of rfl (Lk.fldAddr rfl Tryd.underlying54 rfl rfl T3 rfl rfl rfl)))))), (List.forall_mem_cons.2 ⟨(Log.past (by decide) (Log.past (by decide) (Log.at_ (LookG.of rfl (Lk.load1 (v := (.int .i64 v26_1)) rfl Tryd.underlying3 rfl rfl (H.rd_loc ok (i := 0) rfl rfl)))))), (List.forall_mem_cons.2 ⟨(Log.at_ (LookG.of rfl (Lk.ixAddr rfl Tryd.underlying104 T145 rfl e26 rfl e27 e28))), noChk⟩)⟩)⟩)⟩)⟩)⟩)⟩)⟩)⟩)⟩)⟩)⟩)⟩)⟩)⟩)⟩)⟩), ?_⟩
    obtain ⟨e33, e34, hS⟩ := hS
    refine R.lookL rfl rfl rfl (Lk.indexAddrA rfl Tryd.underlying145 T144 rfl rfl e33 e34) ?_
    refine R.lookL rfl rfl rfl (Lk.assign rfl rfl) ?_
    refine R.lookL rfl rfl rfl (Lk.assign rfl rfl) ?_
    refine R.nil ?_
    refine EvC.seq ?_
    refine EvC.region [Item.look 0, Item.look 1, Item.look 2, Item.look 3, Item.look 4, Item.look 5, Item.alc 6, Item.eff 7 [], Item.look 8, Item.eff 9 []] (by kernel_rfl) ?_
    refine R.look rfl rfl rfl (Lk.move rfl rfl) fun _ => ?_
    refine R.look rfl rfl rfl (Lk.move rfl rfl) fun _ => ?_
    refine R.look rfl rfl rfl (Lk.nilCheck rfl rfl) fun _ => ?_
    obtain ⟨v51, e35, hS⟩ := hS
    refine R.look rfl rfl rfl (Look.loc ok (Lk.load1 rfl Tryd.underlying144 rfl rfl e35)) fun _ => ?_
    refine R.look rfl rfl rfl (Lk.move rfl rfl) fun _ => ?_
    refine R.look rfl rfl rfl (Lk.build (cs := [(.int .i64 v22), (.int .i64 0)]) (pl := [(0, 1), (1, 1)]) rfl Tryd.underlying147 T147 (PlacesL.places (.cons T3 (.cons T3 PlacesL.nil))) rfl rfl) fun _ => ?_
    refine R.appL (cs := [(.int .i64 v22), (.int .i64 0)]) ok rfl rfl rfl rfl rfl rfl rfl rfl Tryd.underlying144 T147 rfl (by decide) (by decide) rfl rfl rfl rfl rfl (fun _ => rfl) hS ?_
    intro bb54 v55 h_6 hS ok
    refine ⟨noChk, ?_⟩
    refine R.look rfl rfl rfl (Lk.nilCheck rfl rfl) fun _ => ?_
    obtain ⟨h_7, e36, hS⟩ := hS
    refine R.effN rfl rfl rfl (Eff.loc ok (Ef.store rfl T144 rfl rfl rfl rfl rfl e36 fun ok => ⟨noChk, ?_⟩))
    refine R.nil ?_
    refine EvC.region [Item.look 0, Item.look 1, Item.look 2, Item.look 3, Item.look 4, Item.look 5, Item.alc 6, Item.eff 7 [], Item.look 8, Item.eff 9 []] (by kernel_rfl) ?_
    refine R.look rfl rfl rfl (Lk.move rfl rfl) fun _ => ?_
    refine R.look rfl rfl rfl (Lk.move rfl rfl) fun _ => ?_
    refine R.look rfl rfl rfl (Lk.nilCheck rfl rfl) fun _ => ?_
    obtain ⟨v60, e37, hS⟩ := hS
    refine R.look rfl rfl rfl (Look.loc ok (Lk.load1 rfl Tryd.underlying144 rfl rfl e37)) fun _ => ?_
    refine R.look rfl rfl rfl (Lk.move rfl rfl) fun _ => ?_
    refine R.look rfl rfl rfl (Lk.build (cs := [(.int .i64 v22), (.int .i64 1)]) (pl := [(0, 1), (1, 1)]) rfl Tryd.underlying147 T147 (PlacesL.places (.cons T3 (.cons T3 PlacesL.nil))) rfl rfl) fun _ => ?_
    refine R.appL (cs := [(.int .i64 v22), (.int .i64 1)]) ok rfl rfl rfl rfl rfl rfl rfl rfl Tryd.underlying144 T147 rfl (by decide) (by decide) rfl rfl rfl rfl rfl (fun _ => rfl) hS ?_
    intro bb63 v64 h_8 hS ok
    refine ⟨noChk, ?_⟩
    refine R.look rfl rfl rfl (Lk.nilCheck rfl rfl) fun _ => ?_
    obtain ⟨h_9, e38, hS⟩ := hS
    refine R.effN rfl rfl rfl (Eff.loc ok (Ef.store rfl T144 rfl rfl rfl rfl rfl e38 fun ok => ⟨noChk, ?_⟩))
    refine R.nil ?_
    refine EvC.region [Item.look 0, Item.look 1] (by kernel_rfl) ?_
    refine R.look rfl rfl rfl (Lk.arith rfl rfl rfl rfl) fun _ => ?_
    refine R.look rfl rfl rfl (Lk.move rfl rfl) fun _ => ?_
    refine R.nil ?_
    exact hX (IntKind.wrap .i64 (v22 + 1)) _ _ _ hS (ok.sub (.cons _ List.Sublist.slnil)) (Env.le_put rfl (Env.le_put rfl (Env.le_put rfl (Env.le_put rfl (Env.le_emp _))))) (H.add_sub ok (.cons _ List.Sublist.slnil))
  · rw [if_neg e12] at hS
    replace e12 := eq_false_of_ne_true e12
    refine EvC.condF rfl e12 ?_
    refine EvC.exit ?_
    exact ⟨.inl rfl, _, _, .nil, ok.le, rfl, hS⟩
end Go.Proofs.YtimadnngfhbfiaaDoor
end

section
/- PRINTED by wip/gen.py: the machine's call of (*muntin/norm.maker).count does what S41 says. -/
namespace Go.Proofs.YtimadnngfhbfiaaDoor
open Go Go.Mu
set_option maxHeartbeats 4000000
set_option maxRecDepth 100000
theorem f41_ok {p0 : Option Addr} {h : H} {K : Int → H → Prop} (hS : S41 p0 h K) : ACall Tryd.prog 41 ([(.pointer p0)] : List Value).toArray h (fun r h' => ∃ r0 : Int, r = tup [(.int .i64 r0)] ∧ K r0 h') := by
  refine ACall.enter (fn := Tryd.f41) Tryd.func41 rfl (Nat.le_of_ble_eq_true rfl) ?_
  unfold S41 at hS
  have ok := Lok.nil h
  change EvC _ _ _ _ (H.add h []) _
  refine EvC.seq ?_
  refine EvC.region [Item.look 0] (by kernel_rfl) ?_
  refine R.look rfl rfl rfl (Lk.assign rfl rfl) fun _ => ?_
  refine R.nil ?_
  refine EvC.seq ?_
  refine EvC.region [Item.look 0] (by kernel_rfl) ?_
  refine R.look rfl rfl rfl (Lk.assign rfl rfl) fun _ => ?_
  refine R.nil ?_
  refine EvC.join (σ := Int) (fun s => (Env.put (Env.put Env.emp 3 (.int .i64 s)) 0 (.pointer p0))) (fun s => []) (fun s h_1 => S41_j3 p0 K s h_1) ?_ (fun Ih_1 hIh_1 => ?_)
  · intro v3 h_1 ok hS
    replace hS : S41_j3 p0 K v3 h_1 := hS
    change EvC _ _ _ (Env.put (Env.put Env.emp 3 (.int .i64 v3)) 0 (.pointer p0)) (H.add h_1 []) _
    unfold S41_j3 at hS
    refine EvC.join (σ := Int) (fun s => (Env.put Env.emp 3 (.int .i64 s))) (fun s => []) (fun s h_2 => S41_j1 K s h_2) ?_ (fun Ih_2 hIh_2 => ?_)
    · intro v3_1 h_2 ok hS
      replace hS : S41_j1 K v3_1 h_2 := hS
      change EvC _ _ _ (Env.put Env.emp 3 (.int .i64 v3_1)) (H.add h_2 []) _
      unfold S41_j1 at hS
      refine EvC.seq ?_
      refine EvC.region [Item.look 0, Item.look 1] (by kernel_rfl) ?_
      refine R.look rfl rfl rfl (Lk.move rfl rfl) fun _ => ?_
      refine R.look rfl rfl rfl (Lk.assign rfl rfl) fun _ => ?_
      refine R.nil ?_
      refine EvC.ret ?_
      exact ⟨.inr rfl, _, _, (.cons (.tmp rfl) .nil), ok.le, _, rfl, hS⟩
    · refine EvC.seq ?_
      refine EvC.region [Item.look 0, Item.look 1, Item.look 2, Item.look 3, Item.look 4, Item.look 5, Item.look 6] (by kernel_rfl) ?_
      refine R.look rfl rfl rfl (Lk.move rfl rfl) fun _ => ?_
      obtain ⟨a43, e1, hS⟩ := hS
      refine R.look (v := (.pointer (some a43))) rfl rfl rfl (Lk.nilChk rfl rfl e1) fun _ => ?_
      refine R.look (v := (.pointer (some a43))) rfl rfl rfl (Lk.fldAddr rfl Tryd.underlying106 rfl rfl T29 rfl rfl rfl) fun _ => ?_
      refine R.look (v := (.pointer (some (Addr.add a43 1)))) rfl rfl rfl (Lk.fldAddr rfl Tryd.underlying29 rfl rfl T27 rfl rfl rfl) fun _ => ?_
      obtain ⟨v46, e2, hS⟩ := hS
      refine R.look rfl rfl rfl (Look.loc ok (Lk.load1 rfl Tryd.underlying27 rfl rfl e2)) fun _ => ?_
      refine R.look rfl rfl rfl (Lk.len rfl Tryd.underlying27 rfl) fun _ => ?_
      refine R.look rfl rfl rfl (Lk.move rfl rfl) fun _ => ?_
      refine R.nil ?_
      refine EvC.block ?_
      refine EvC.loop ?_
      refine LoopC.lfp (σ := Int × Int) (fun s => (Env.put (Env.put (Env.put (Env.put Env.emp 48 (.int .i64 s.2)) 47 (.int .i64 (v46.l : Int))) 46 (.slice v46.a v46.l v46.c)) 3 (.int .i64 s.1))) (fun s => []) (fun X hX => ?_) hS (ok.sub List.Sublist.slnil) (Env.le_put rfl (Env.le_put rfl (Env.le_put rfl (Env.le_put rfl (Env.le_emp _))))) (H.add_sub ok List.Sublist.slnil)
      rintro ⟨v3_2, v48⟩ h_3 hS ok
      replace hS : S41_l2 K v46 X v3_2 v48 h_3 := hS
      change EvC _ _ _ (Env.put (Env.put (Env.put (Env.put Env.emp 48 (.int .i64 v48)) 47 (.int .i64 (v46.l : Int))) 46 (.slice v46.a v46.l v46.c)) 3 (.int .i64 v3_2)) (H.add h_3 []) _
      unfold S41_l2 at hS
      refine EvC.seq ?_
      refine EvC.region [Item.look 0] (by kernel_rfl) ?_
      refine R.look rfl rfl rfl (Lk.arith rfl rfl rfl rfl) fun _ => ?_
      refine R.nil ?_
      refine EvC.seq ?_
      by_cases e3 : (decide (v48 < (v46.l : Int))) = true
      · rw [if_pos e3] at hS
        refine EvC.condT rfl e3 ?_
        refine EvC.skip ?_
        refine EvC.seq ?_
        refine EvC.block ?_
        refine EvC.seq ?_
        refine EvC.region [Item.look 0, Item.look 1, Item.alc 2, Item.eff 3 []] (by kernel_rfl) ?_
        obtain ⟨a50, e4, e5, e6, hS⟩ := hS
        refine R.look rfl rfl rfl (Lk.ixAddr rfl Tryd.underlying27 T54 rfl e4 rfl e5 e6) fun _ => ?_
        obtain ⟨v51_0, v51_1, v51_2, v51_3, e7, hS⟩ := hS
        refine R.look rfl rfl rfl (Look.loc ok (Lk.loadN rfl Tryd.underlying54 rfl T54 rfl e7)) fun _ => ?_
        refine R.var (blk := .row ⟨[(.int .i64 0), (.int .i64 0), (.int .i64 0), (.string ⟨#[]⟩)], 4, 54, true, true⟩) ok rfl rfl rfl (Ac.alloc rfl T54) rfl rfl fun b9 ok => ?_
        refine R.effN rfl rfl rfl (Ef.storeLoc (i := 0) (vs := [(.int .i64 v51_0), (.int .i64 v51_1), (.int .i64 v51_2), (.string v51_3)]) (cs := [(.int .i64 v51_0), (.int .i64 v51_1), (.int .i64 v51_2), (.string v51_3)]) (l' := [(b9, .row ⟨[(.int .i64 v51_0), (.int .i64 v51_1), (.int .i64 v51_2), (.string v51_3)], 4, 54, true, true⟩)]) ok rfl T54 rfl rfl rfl rfl rfl rfl rfl rfl rfl rfl fun ok => ⟨noChk, ?_⟩)
        refine R.nil ?_
        refine EvC.region [Item.look 0, Item.look 1, Item.look 2, Item.look 3, Item.look 4, Item.look 5] (by kernel_rfl) ?_
        refine R.look rfl rfl rfl (Lk.move rfl rfl) fun _ => ?_
        refine R.look (v := (.pointer (some ⟨b9, 3, none⟩))) rfl rfl rfl (Lk.fldAddr rfl Tryd.underlying54 rfl rfl T9 rfl rfl rfl) fun _ => ?_
        refine R.look rfl rfl rfl (Lk.load1 (v := (.string v51_3)) rfl Tryd.underlying9 rfl rfl (H.rd_loc ok (i := 0) rfl rfl)) fun _ => ?_
        refine R.look rfl rfl rfl (Lk.lenS rfl Tryd.underlying9 rfl) fun _ => ?_
        refine R.look rfl rfl rfl (Lk.arith rfl rfl rfl rfl) fun _ => ?_
        refine R.look rfl rfl rfl (Lk.assign rfl rfl) fun _ => ?_
        refine R.nil ?_
        refine EvC.region [Item.look 0, Item.look 1] (by kernel_rfl) ?_
        refine R.look rfl rfl rfl (Lk.arith rfl rfl rfl rfl) fun _ => ?_
        refine R.look rfl rfl rfl (Lk.move rfl rfl) fun _ => ?_
        refine R.nil ?_
        exact hX ((IntKind.wrap .i64 (v3_2 + (ByteArray.size v51_3 : Int))), (IntKind.wrap .i64 (v48 + 1))) _ _ _ hS (ok.sub (.cons _ List.Sublist.slnil)) (Env.le_put rfl (Env.le_put rfl (Env.le_put rfl (Env.le_put rfl (Env.le_emp _))))) (H.add_sub ok (.cons _ List.Sublist.slnil))
      · rw [if_neg e3] at hS
        replace e3 := eq_false_of_ne_true e3
        refine EvC.condF rfl e3 ?_
        refine EvC.exit ?_
        exact hIh_2 v3_2 _ _ _ (Env.le_put rfl (Env.le_emp _)) (ok.sub List.Sublist.slnil) (H.add_sub ok List.Sublist.slnil) hS
  · refine EvC.seq ?_
    refine EvC.region [Item.look 0, Item.look 1, Item.look 2, Item.look 3, Item.look 4, Item.look 5, Item.look 6] (by kernel_rfl) ?_
    refine R.look rfl rfl rfl (Lk.move rfl rfl) fun _ => ?_
    obtain ⟨a11, e8, hS⟩ := hS
    refine R.look (v := (.pointer (some a11))) rfl rfl rfl (Lk.nilChk rfl rfl e8) fun _ => ?_
    refine R.look (v := (.pointer (some a11))) rfl rfl rfl (Lk.fldAddr rfl Tryd.underlying106 rfl rfl T29 rfl rfl rfl) fun _ => ?_
    refine R.look (v := (.pointer (some a11))) rfl rfl rfl (Lk.fldAddr rfl Tryd.underlying29 rfl rfl T22 rfl rfl rfl) fun _ => ?_
    obtain ⟨v14, e9, hS⟩ := hS
    refine R.look rfl rfl rfl (Look.loc ok (Lk.load1 rfl Tryd.underlying22 rfl rfl e9)) fun _ => ?_
    refine R.look rfl rfl rfl (Lk.len rfl Tryd.underlying22 rfl) fun _ => ?_
    refine R.look rfl rfl rfl (Lk.move rfl rfl) fun _ => ?_
    refine R.nil ?_
    refine EvC.block ?_
    refine EvC.loop ?_
    refine LoopC.lfp (σ := Int × Int) (fun s => (Env.put (Env.put (Env.put (Env.put (Env.put Env.emp 16 (.int .i64 s.2)) 15 (.int .i64 (v14.l : Int))) 14 (.slice v14.a v14.l v14.c)) 3 (.int .i64 s.1)) 0 (.pointer p0))) (fun s => []) (fun X_1 hX_1 => ?_) hS (ok.sub List.Sublist.slnil) (Env.le_put rfl (Env.le_put rfl (Env.le_put rfl (Env.le_put rfl (Env.le_put rfl (Env.le_emp _)))))) (H.add_sub ok List.Sublist.slnil)
    rintro ⟨v3_3, v16⟩ h_4 hS ok
    replace hS : S41_l6 p0 K v14 X_1 v3_3 v16 h_4 := hS
    change EvC _ _ _ (Env.put (Env.put (Env.put (Env.put (Env.put Env.emp 16 (.int .i64 v16)) 15 (.int .i64 (v14.l : Int))) 14 (.slice v14.a v14.l v14.c)) 3 (.int .i64 v3_3)) 0 (.pointer p0)) (H.add h_4 []) _
    unfold S41_l6 at hS
    refine EvC.seq ?_
    refine EvC.region [Item.look 0] (by kernel_rfl) ?_
    refine R.look rfl rfl rfl (Lk.arith rfl rfl rfl rfl) fun _ => ?_
    refine R.nil ?_
    refine EvC.seq ?_
    by_cases e10 : (decide (v16 < (v14.l : Int))) = true
    · rw [if_pos e10] at hS
      refine EvC.condT rfl e10 ?_
      refine EvC.skip ?_
      refine EvC.join (σ := Int) (fun s => (Env.put (Env.put (Env.put (Env.put (Env.put Env.emp 16 (.int .i64 v16)) 15 (.int .i64 (v14.l : Int))) 14 (.slice v14.a v14.l v14.c)) 3 (.int .i64 s)) 0 (.pointer p0))) (fun s => []) (fun s h_5 => S41_j4 v16 X_1 s h_5) ?_ (fun Ih_5 hIh_5 => ?_)
      · intro v3_4 h_5 ok hS
        replace hS : S41_j4 v16 X_1 v3_4 h_5 := hS
        change EvC _ _ _ (Env.put (Env.put (Env.put (Env.put (Env.put Env.emp 16 (.int .i64 v16)) 15 (.int .i64 (v14.l : Int))) 14 (.slice v14.a v14.l v14.c)) 3 (.int .i64 v3_4)) 0 (.pointer p0)) (H.add h_5 []) _
        unfold S41_j4 at hS
        refine EvC.region [Item.look 0, Item.look 1] (by kernel_rfl) ?_
        refine R.look rfl rfl rfl (Lk.arith rfl rfl rfl rfl) fun _ => ?_
        refine R.look rfl rfl rfl (Lk.move rfl rfl) fun _ => ?_
        refine R.nil ?_
        exact hX_1 (v3_4, (IntKind.wrap .i64 (v16 + 1))) _ _ _ hS (ok.sub List.Sublist.slnil) (Env.le_put rfl (Env.le_put rfl (Env.le_put rfl (Env.le_put rfl (Env.le_put rfl (Env.le_emp _)))))) (H.add_sub ok List.Sublist.slnil)
      · refine EvC.block ?_
        refine EvC.seq ?_
        refine EvC.region [Item.look 0, Item.look 1, Item.look 2, Item.look 3, Item.look 4] (by kernel_rfl) ?_
        refine R.look rfl rfl rfl (Lk.move rfl rfl) fun _ => ?_
        obtain ⟨a19, e11, e12, e13, hS⟩ := hS
        refine R.look rfl rfl rfl (Lk.ixAddr rfl Tryd.underlying22 T4 rfl e11 rfl e12 e13) fun _ => ?_
        obtain ⟨v20, e14, hS⟩ := hS
        refine R.look rfl rfl rfl (Look.loc ok (Lk.load1 rfl Tryd.underlying4 rfl rfl e14)) fun _ => ?_
        refine R.look rfl rfl rfl (Lk.assign rfl rfl) fun _ => ?_
        refine R.look rfl rfl rfl (Lk.assign rfl rfl) fun _ => ?_
        refine R.nil ?_
        refine EvC.seq ?_
        refine EvC.region [Item.look 0, Item.look 1, Item.look 2] (by kernel_rfl) ?_
        refine R.look rfl rfl rfl (Lk.move rfl rfl) fun _ => ?_
        refine R.look rfl rfl rfl (Lk.arith rfl rfl rfl rfl) fun _ => ?_
        refine R.look rfl rfl rfl (Lk.assign rfl rfl) fun _ => ?_
        refine R.nil ?_
        refine EvC.seq ?_
        refine EvC.region [Item.look 0] (by kernel_rfl) ?_
        refine R.look rfl rfl rfl (Lk.move rfl rfl) fun _ => ?_
        refine R.nil ?_
        by_cases e15 : v20 = true
        · rw [if_pos e15] at hS
          refine EvC.condT rfl e15 ?_
          refine EvC.seq ?_
          refine EvC.region [Item.look 0, Item.look 1, Item.look 2] (by kernel_rfl) ?_
          refine R.look rfl rfl rfl (Lk.move rfl rfl) fun _ => ?_
          refine R.look rfl rfl rfl (Lk.arith rfl rfl rfl rfl) fun _ => ?_
          refine R.look rfl rfl rfl (Lk.assign rfl rfl) fun _ => ?_
          refine R.nil ?_
          refine EvC.seq ?_
          refine EvC.region [Item.look 0, Item.look 1, Item.look 2, Item.look 3, Item.look 4, Item.look 5, Item.look 6, Item.look 7] (by kernel_rfl) ?_
          refine R.look rfl rfl rfl (Lk.move rfl rfl) fun _ => ?_
          obtain ⟨a27, e16, hS⟩ := hS
          refine R.look (v := (.pointer (some a27))) rfl rfl rfl (Lk.nilChk rfl rfl e16) fun _ => ?_
          refine R.look (v := (.pointer (some (Addr.add a27 3)))) rfl rfl rfl (Lk.fldAddr rfl Tryd.underlying106 rfl rfl T104 rfl rfl rfl) fun _ => ?_
          obtain ⟨v29, e17, hS⟩ := hS
          refine R.look rfl rfl rfl (Look.loc ok (Lk.load1 rfl Tryd.underlying104 rfl rfl e17)) fun _ => ?_
          refine R.look rfl rfl rfl (Lk.move rfl rfl) fun _ => ?_
          obtain ⟨a31, e18, e19, e20, hS⟩ := hS
          refine R.look rfl rfl rfl (Lk.ixAddr rfl Tryd.underlying104 T145 rfl e18 rfl e19 e20) fun _ => ?_
          obtain ⟨v32_0, v32_1, v32_2, v32_3, e21, hS⟩ := hS
          refine R.look rfl rfl rfl (Look.loc ok (Lk.loadN rfl Tryd.underlying145 rfl T145 rfl e21)) fun _ => ?_
          refine R.look rfl rfl rfl (Lk.move rfl rfl) fun _ => ?_
          refine R.nil ?_
          refine EvC.block ?_
          refine EvC.loop ?_
          refine LoopC.lfp (σ := Int × Int) (fun s => (Env.put (Env.put (Env.put (Env.put (Env.put (Env.put (Env.put Env.emp 33 (.int .i64 s.2)) 32 (.agg ([(.slice v32_0.a v32_0.l v32_0.c), (.slice v32_1.a v32_1.l v32_1.c), (.slice v32_2.a v32_2.l v32_2.c), (.slice v32_3.a v32_3.l v32_3.c)] : List Value).toArray)) 16 (.int .i64 v16)) 15 (.int .i64 (v14.l : Int))) 14 (.slice v14.a v14.l v14.c)) 3 (.int .i64 s.1)) 0 (.pointer p0))) (fun s => []) (fun X_2 hX_2 => ?_) hS (ok.sub List.Sublist.slnil) (Env.le_put rfl (Env.le_put rfl (Env.le_put rfl (Env.le_put rfl (Env.le_put rfl (Env.le_put rfl (Env.le_put rfl (Env.le_emp _)))))))) (H.add_sub ok List.Sublist.slnil)
          rintro ⟨v3_5, v33⟩ h_6 hS ok
          replace hS : S41_l5 v16 X_1 v32_0 v32_1 v32_2 v32_3 X_2 v3_5 v33 h_6 := hS
          change EvC _ _ _ (Env.put (Env.put (Env.put (Env.put (Env.put (Env.put (Env.put Env.emp 33 (.int .i64 v33)) 32 (.agg ([(.slice v32_0.a v32_0.l v32_0.c), (.slice v32_1.a v32_1.l v32_1.c), (.slice v32_2.a v32_2.l v32_2.c), (.slice v32_3.a v32_3.l v32_3.c)] : List Value).toArray)) 16 (.int .i64 v16)) 15 (.int .i64 (v14.l : Int))) 14 (.slice v14.a v14.l v14.c)) 3 (.int .i64 v3_5)) 0 (.pointer p0)) (H.add h_6 []) _
          unfold S41_l5 at hS
          refine EvC.seq ?_
          refine EvC.region [Item.look 0] (by kernel_rfl) ?_
          refine R.look rfl rfl rfl (Lk.arith rfl rfl rfl rfl) fun _ => ?_
          refine R.nil ?_
          refine EvC.seq ?_
          by_cases e22 : (decide (v33 < 4)) = true
          · rw [if_pos e22] at hS
            refine EvC.condT rfl e22 ?_
            refine EvC.skip ?_
            refine EvC.seq ?_
            refine EvC.block ?_
            refine EvC.seq ?_
            refine EvC.region [Item.look 0, Item.look 1] (by kernel_rfl) ?_
            obtain ⟨e23, e24, hS⟩ := hS
            refine R.look rfl rfl rfl (Lk.elemSel Sl.v ([v32_0, v32_1, v32_2, v32_3] : List Sl) rfl Tryd.underlying145 Tryd.underlying144 rfl T144 rfl rfl e23 e24 rfl) fun _ => ?_
            refine R.look rfl rfl rfl (Lk.assign rfl rfl) fun _ => ?_
            refine R.nil ?_
            refine EvC.region [Item.look 0, Item.look 1, Item.look 2, Item.look 3, Item.look 4] (by kernel_rfl) ?_
            refine R.look rfl rfl rfl (Lk.move rfl rfl) fun _ => ?_
            refine R.look rfl rfl rfl (Lk.move rfl rfl) fun _ => ?_
            refine R.look rfl rfl rfl (Lk.len rfl Tryd.underlying144 rfl) fun _ => ?_
            refine R.look rfl rfl rfl (Lk.arith rfl rfl rfl rfl) fun _ => ?_
            refine R.look rfl rfl rfl (Lk.assign rfl rfl) fun _ => ?_
            refine R.nil ?_
            refine EvC.region [Item.look 0, Item.look 1] (by kernel_rfl) ?_
            refine R.look rfl rfl rfl (Lk.arith rfl rfl rfl rfl) fun _ => ?_
            refine R.look rfl rfl rfl (Lk.move rfl rfl) fun _ => ?_
            refine R.nil ?_
            exact hX_2 ((IntKind.wrap .i64 (v3_5 + (((sel ([v32_0, v32_1, v32_2, v32_3] : List Sl) v33).l) : Int))), (IntKind.wrap .i64 (v33 + 1))) _ _ _ hS (ok.sub List.Sublist.slnil) (Env.le_put rfl (Env.le_put rfl (Env.le_put rfl (Env.le_put rfl (Env.le_put rfl (Env.le_put rfl (Env.le_put rfl (Env.le_emp _)))))))) (H.add_sub ok List.Sublist.slnil)
          · rw [if_neg e22] at hS
            replace e22 := eq_false_of_ne_true e22
            refine EvC.condF rfl e22 ?_
            refine EvC.exit ?_
            exact hIh_5 v3_5 _ _ _ (Env.le_put rfl (Env.le_put rfl (Env.le_put rfl (Env.le_put rfl (Env.le_put rfl (Env.le_emp _)))))) (ok.sub List.Sublist.slnil) (H.add_sub ok List.Sublist.slnil) hS
        · rw [if_neg e15] at hS
          replace e15 := eq_false_of_ne_true e15
          refine EvC.condF rfl e15 ?_
          refine EvC.skip ?_
          exact hIh_5 (IntKind.wrap .i64 (v3_3 + 1)) _ _ _ (Env.le_put rfl (Env.le_put rfl (Env.le_put rfl (Env.le_put rfl (Env.le_put rfl (Env.le_emp _)))))) (ok.sub List.Sublist.slnil) (H.add_sub ok List.Sublist.slnil) hS
    · rw [if_neg e10] at hS
      replace e10 := eq_false_of_ne_true e10
      refine EvC.condF rfl e10 ?_
      refine EvC.exit ?_
      exact hIh_1 v3_3 _ _ _ (Env.le_put rfl (Env.le_put rfl (Env.le_emp _))) (ok.sub List.Sublist.slnil) (H.add_sub ok List.Sublist.slnil) hS
end Go.Proofs.YtimadnngfhbfiaaDoor
end

section
/- PRINTED by wip/gen.py: the machine's call of math/bits.Mul64 does what S106 says. -/
namespace Go.Proofs.YtimadnngfhbfiaaDoor
open Go Go.Mu
set_option maxHeartbeats 4000000
set_option maxRecDepth 100000
theorem f106_ok {p0 : Int} {p1 : Int} {h : H} {K : Int → Int → H → Prop} (hS : S106 p0 p1 h K) : ACall Tryd.prog 106 ([(.int .u64 p0), (.int .u64 p1)] : List Value).toArray h (fun r h' => ∃ r0 : Int, ∃ r1 : Int, r = tup [(.int .u64 r0), (.int .u64 r1)] ∧ K r0 r1 h') := by
  refine ACall.enter (fn := Tryd.f106) Tryd.func106 rfl (Nat.le_of_ble_eq_true rfl) ?_
  unfold S106 at hS
  have ok := Lok.nil h
  change EvC _ _ _ _ (H.add h []) _
  refine EvC.seq ?_
  refine EvC.region [Item.look 0, Item.look 1] (by kernel_rfl) ?_
  refine R.look rfl rfl rfl (Lk.assign rfl rfl) fun _ => ?_
  refine R.look rfl rfl rfl (Lk.assign rfl rfl) fun _ => ?_
  refine R.nil ?_
  refine EvC.seq ?_
  refine EvC.region [Item.look 0, Item.look 1, Item.look 2] (by kernel_rfl) ?_
  refine R.look rfl rfl rfl (Lk.move rfl rfl) fun _ => ?_
  refine R.look rfl rfl rfl (Lk.arith rfl rfl rfl rfl) fun _ => ?_
  refine R.look rfl rfl rfl (Lk.assign rfl rfl) fun _ => ?_
  refine R.nil ?_
  refine EvC.seq ?_
  refine EvC.region [Item.look 0, Item.look 1, Item.look 2] (by kernel_rfl) ?_
  refine R.look rfl rfl rfl (Lk.move rfl rfl) fun _ => ?_
  refine R.look rfl rfl rfl (Lk.shr (j := 32) rfl rfl rfl (by decide)) fun _ => ?_
  refine R.look rfl rfl rfl (Lk.assign rfl rfl) fun _ => ?_
  refine R.nil ?_
  refine EvC.seq ?_
  refine EvC.region [Item.look 0, Item.look 1, Item.look 2] (by kernel_rfl) ?_
  refine R.look rfl rfl rfl (Lk.move rfl rfl) fun _ => ?_
  refine R.look rfl rfl rfl (Lk.arith rfl rfl rfl rfl) fun _ => ?_
  refine R.look rfl rfl rfl (Lk.assign rfl rfl) fun _ => ?_
  refine R.nil ?_
  refine EvC.seq ?_
  refine EvC.region [Item.look 0, Item.look 1, Item.look 2] (by kernel_rfl) ?_
  refine R.look rfl rfl rfl (Lk.move rfl rfl) fun _ => ?_
  refine R.look rfl rfl rfl (Lk.shr (j := 32) rfl rfl rfl (by decide)) fun _ => ?_
  refine R.look rfl rfl rfl (Lk.assign rfl rfl) fun _ => ?_
  refine R.nil ?_
  refine EvC.seq ?_
  refine EvC.region [Item.look 0, Item.look 1, Item.look 2, Item.look 3] (by kernel_rfl) ?_
  refine R.look rfl rfl rfl (Lk.move rfl rfl) fun _ => ?_
  refine R.look rfl rfl rfl (Lk.move rfl rfl) fun _ => ?_
  refine R.look rfl rfl rfl (Lk.arith rfl rfl rfl rfl) fun _ => ?_
  refine R.look rfl rfl rfl (Lk.assign rfl rfl) fun _ => ?_
  refine R.nil ?_
  refine EvC.seq ?_
  refine EvC.region [Item.look 0, Item.look 1, Item.look 2, Item.look 3, Item.look 4, Item.look 5, Item.look 6] (by kernel_rfl) ?_
  refine R.look rfl rfl rfl (Lk.move rfl rfl) fun _ => ?_
  refine R.look rfl rfl rfl (Lk.move rfl rfl) fun _ => ?_
  refine R.look rfl rfl rfl (Lk.arith rfl rfl rfl rfl) fun _ => ?_
  refine R.look rfl rfl rfl (Lk.move rfl rfl) fun _ => ?_
  refine R.look rfl rfl rfl (Lk.shr (j := 32) rfl rfl rfl (by decide)) fun _ => ?_
  refine R.look rfl rfl rfl (Lk.arith rfl rfl rfl rfl) fun _ => ?_
  refine R.look rfl rfl rfl (Lk.assign rfl rfl) fun _ => ?_
  refine R.nil ?_
  refine EvC.seq ?_
  refine EvC.region [Item.look 0, Item.look 1, Item.look 2] (by kernel_rfl) ?_
  refine R.look rfl rfl rfl (Lk.move rfl rfl) fun _ => ?_
  refine R.look rfl rfl rfl (Lk.arith rfl rfl rfl rfl) fun _ => ?_
  refine R.look rfl rfl rfl (Lk.assign rfl rfl) fun _ => ?_
  refine R.nil ?_
  refine EvC.seq ?_
  refine EvC.region [Item.look 0, Item.look 1, Item.look 2] (by kernel_rfl) ?_
  refine R.look rfl rfl rfl (Lk.move rfl rfl) fun _ => ?_
  refine R.look rfl rfl rfl (Lk.shr (j := 32) rfl rfl rfl (by decide)) fun _ => ?_
  refine R.look rfl rfl rfl (Lk.assign rfl rfl) fun _ => ?_
  refine R.nil ?_
  refine EvC.seq ?_
  refine EvC.region [Item.look 0, Item.look 1, Item.look 2, Item.look 3, Item.look 4, Item.look 5] (by kernel_rfl) ?_
  refine R.look rfl rfl rfl (Lk.move rfl rfl) fun _ => ?_
  refine R.look rfl rfl rfl (Lk.move rfl rfl) fun _ => ?_
  refine R.look rfl rfl rfl (Lk.move rfl rfl) fun _ => ?_
  refine R.look rfl rfl rfl (Lk.arith rfl rfl rfl rfl) fun _ => ?_
  refine R.look rfl rfl rfl (Lk.arith rfl rfl rfl rfl) fun _ => ?_
  refine R.look rfl rfl rfl (Lk.assign rfl rfl) fun _ => ?_
  refine R.nil ?_
  refine EvC.seq ?_
  refine EvC.region [Item.look 0, Item.look 1, Item.look 2, Item.look 3, Item.look 4, Item.look 5, Item.look 6, Item.look 7, Item.look 8] (by kernel_rfl) ?_
  refine R.look rfl rfl rfl (Lk.move rfl rfl) fun _ => ?_
  refine R.look rfl rfl rfl (Lk.move rfl rfl) fun _ => ?_
  refine R.look rfl rfl rfl (Lk.arith rfl rfl rfl rfl) fun _ => ?_
  refine R.look rfl rfl rfl (Lk.move rfl rfl) fun _ => ?_
  refine R.look rfl rfl rfl (Lk.arith rfl rfl rfl rfl) fun _ => ?_
  refine R.look rfl rfl rfl (Lk.move rfl rfl) fun _ => ?_
  refine R.look rfl rfl rfl (Lk.shr (j := 32) rfl rfl rfl (by decide)) fun _ => ?_
  refine R.look rfl rfl rfl (Lk.arith rfl rfl rfl rfl) fun _ => ?_
  refine R.look rfl rfl rfl (Lk.assign rfl rfl) fun _ => ?_
  refine R.nil ?_
  refine EvC.seq ?_
  refine EvC.region [Item.look 0, Item.look 1, Item.look 2, Item.look 3] (by kernel_rfl) ?_
  refine R.look rfl rfl rfl (Lk.move rfl rfl) fun _ => ?_
  refine R.look rfl rfl rfl (Lk.move rfl rfl) fun _ => ?_
  refine R.look rfl rfl rfl (Lk.arith rfl rfl rfl rfl) fun _ => ?_
  refine R.look rfl rfl rfl (Lk.assign rfl rfl) fun _ => ?_
  refine R.nil ?_
  refine EvC.ret ?_
  exact ⟨.inr rfl, _, _, (.cons (.tmp rfl) (.cons (.tmp rfl) .nil)), ok.le, _, _, rfl, hS⟩
end Go.Proofs.YtimadnngfhbfiaaDoor
end

section
/- PRINTED by wip/gen.py: the machine's call of math/bits.Mul does what S94 says. -/
namespace Go.Proofs.YtimadnngfhbfiaaDoor
open Go Go.Mu
set_option maxHeartbeats 4000000
set_option maxRecDepth 100000
theorem f94_ok {p0 : Int} {p1 : Int} {h : H} {K : Int → Int → H → Prop} (hS : S94 p0 p1 h K) : ACall Tryd.prog 94 ([(.int .u64 p0), (.int .u64 p1)] : List Value).toArray h (fun r h' => ∃ r0 : Int, ∃ r1 : Int, r = tup [(.int .u64 r0), (.int .u64 r1)] ∧ K r0 r1 h') := by
  refine ACall.enter (fn := Tryd.f94) Tryd.func94 rfl (Nat.le_of_ble_eq_true rfl) ?_
  unfold S94 at hS
  have ok := Lok.nil h
  change EvC _ _ _ _ (H.add h []) _
  refine EvC.seq ?_
  refine EvC.region [Item.look 0, Item.look 1] (by kernel_rfl) ?_
  refine R.look rfl rfl rfl (Lk.assign rfl rfl) fun _ => ?_
  refine R.look rfl rfl rfl (Lk.assign rfl rfl) fun _ => ?_
  refine R.nil ?_
  refine EvC.seq ?_
  refine EvC.condF rfl rfl ?_
  refine EvC.skip ?_
  refine EvC.seq ?_
  refine EvC.region [Item.look 0, Item.look 1, Item.eff 2 [], Item.look 3, Item.look 4, Item.look 5, Item.look 6, Item.look 7] (by kernel_rfl) ?_
  refine R.look rfl rfl rfl (Lk.move rfl rfl) fun _ => ?_
  refine R.look rfl rfl rfl (Lk.move rfl rfl) fun _ => ?_
  refine R.eff rfl rfl rfl (Eff.loc ok (Ef.call rfl CB106 rfl ((f106_ok hS).mono ?_)))
  rintro _ h_1 ⟨v25_0, v25_1, rfl, hS⟩
  refine fun ok => ⟨noChk, ?_⟩
  refine R.look rfl rfl rfl (Lk.move rfl rfl) fun _ => ?_
  refine R.look rfl rfl rfl (Lk.extract rfl rfl rfl) fun _ => ?_
  refine R.look rfl rfl rfl (Lk.extract rfl rfl rfl) fun _ => ?_
  refine R.look rfl rfl rfl (Lk.assign rfl rfl) fun _ => ?_
  refine R.look rfl rfl rfl (Lk.assign rfl rfl) fun _ => ?_
  refine R.nil ?_
  refine EvC.seq ?_
  refine EvC.region [Item.look 0, Item.look 1, Item.look 2, Item.look 3] (by kernel_rfl) ?_
  refine R.look rfl rfl rfl (Lk.move rfl rfl) fun _ => ?_
  refine R.look rfl rfl rfl (Lk.move rfl rfl) fun _ => ?_
  refine R.look rfl rfl rfl (Lk.assign rfl rfl) fun _ => ?_
  refine R.look rfl rfl rfl (Lk.assign rfl rfl) fun _ => ?_
  refine R.nil ?_
  refine EvC.ret ?_
  exact ⟨.inr rfl, _, _, (.cons (.tmp rfl) (.cons (.tmp rfl) .nil)), ok.le, _, _, rfl, hS⟩
end Go.Proofs.YtimadnngfhbfiaaDoor
end
